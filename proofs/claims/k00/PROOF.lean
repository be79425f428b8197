import PyProof.Rows.All
import HandS.List
import Wide.All
import OpenK.AllK
import Wide.FinOn
import HandS.ForMost
import HandS.TupAny
import HandS.TupMul
import HandS.Conv
import HandS.Strs
import HandS.IsInst
import HandS.Style
import KE.GoesMore
import PyProof.EnumMake
import HandS.Deep
import HandS.Lambda
import HandS.EndTab
import HandS.Exc
import HandS.SetFor
import HandS.Zip
import HandS.SortInts
import HandS.Defaults
import HandS.CallSlots
import KE.KExcSuper
import KE.KSuper
import HandS.ExcInit
import HandS.HeadHook4
import HandS.HeadWalk
import HandS.NestedK
import PySem.Challenge.RW_strandhues_k00_whole_passes_over_and_und
import HandS.Head0
import HandS.Head1
import HandS.Head2
import HandS.HeadEnd
section
set_option autoImplicit false
set_option linter.all false
/-! Strandhues: an own small language: values T, heaps of cells, expressions E, statements S, an interpreter. -/
namespace SH
open PySem

/-- values: lists that are never changed are values, too; a cell holds what is changed -/
inductive T where
  | non | bl (b : Bool) | int (i : Int) | str (s : Str) | tup (xs : List T) | lst (xs : List T) | scr (ns : List Int) | ref (a : Nat) | fn (f : Nat)

inductive Cell where
  | lst (xs : List T) | dic (kvs : List (T × T)) | ins (c : Nat) (fs : List (Nat × T)) | dead

abbrev Hs := List Cell
abbrev Env := List (Option T)

/-- the longest list or tuple -/
abbrev LINE : Nat := 16777216

inductive R (α : Type) where
  | ok (a : α) (h : Hs) | ex (c : Nat) (a : T) (h : Hs) | bad
def R.bind {α β : Type} (r : R α) (f : α → Hs → R β) : R β := match r with
  | .ok a h => f a h
  | .ex c a h => .ex c a h
  | .bad => .bad
@[simp] theorem R.bind_ok {α β : Type} (a : α) (h : Hs) (f : α → Hs → R β) : (R.ok a h).bind f = f a h := rfl
@[simp] theorem R.bind_ex {α β : Type} (c : Nat) (a : T) (h : Hs) (f : α → Hs → R β) : (R.ex c a h : R α).bind f = .ex c a h := rfl
@[simp] theorem R.bind_bad {α β : Type} (f : α → Hs → R β) : (R.bad : R α).bind f = .bad := rfl
theorem R.bind_assoc {α β γ : Type} (r : R α) (f : α → Hs → R β) (g : β → Hs → R γ) : (r.bind f).bind g = r.bind fun a h => (f a h).bind g := by cases r <;> rfl
/-- an outcome of a pure step -/
def R.of {α : Type} (o : Option α) (h : Hs) : R α := match o with
  | some a => .ok a h
  | none => .bad
@[simp] theorem R.of_some {α : Type} (a : α) (h : Hs) : R.of (some a) h = .ok a h := rfl
@[simp] theorem R.of_none {α : Type} (h : Hs) : R.of (none : Option α) h = .bad := rfl

/-! ### data -/
def strOkB (s : Str) : Bool := decide (s.cps.size ≤ 1000000) && s.cps.all fun c => decide (c < 0x110000)
mutual
/-- no cells within, not deeper than k -/
def okD : Nat → T → Bool
  | _, .non => true
  | _, .bl _ => true
  | _, .int _ => true
  | _, .str s => strOkB s
  | 0, .tup _ => false
  | k + 1, .tup xs => okDs k xs
  | 0, .lst _ => false
  | k + 1, .lst xs => okDs k xs
  | _, .scr _ => false
  | _, .ref _ => false
  | _, .fn _ => false
def okDs : Nat → List T → Bool
  | _, [] => true
  | k, x :: xs => okD k x && okDs k xs
end
mutual
/-- Python's == of data -/
def eqv : T → T → Bool
  | .non, .non => true
  | .bl a, .bl b => a == b
  | .bl a, .int j => (if a then 1 else 0) == j
  | .int i, .bl b => i == (if b then 1 else 0)
  | .int i, .int j => i == j
  | .str x, .str y => x == y
  | .tup xs, .tup ys => eqvs xs ys
  | .lst xs, .lst ys => eqvs xs ys
  | _, _ => false
def eqvs : List T → List T → Bool
  | [], [] => true
  | x :: xs, y :: ys => eqv x y && eqvs xs ys
  | _, _ => false
end

/-- the items of a list, a tuple -/
def seqOf (h : Hs) : T → Option (List T)
  | .tup xs => some xs
  | .lst xs => some xs
  | .scr ns => some (ns.map T.int)
  | .ref a => match h[a]? with
    | some (.lst xs) => some xs
    | _ => none
  | _ => none
/-- a list that is changed, as the list that it is now -/
def now (h : Hs) : T → T
  | .ref a => match h[a]? with
    | some (.lst xs) => .lst xs
    | _ => .ref a
  | .scr ns => .lst (ns.map T.int)
  | t => t

inductive BOp where | add | sub | mul | fdiv | mod | pow
  deriving DecidableEq
inductive COp where | eq | ne | lt | le | gt | ge | isin | notin
  deriving DecidableEq
/-- what isinstance asks -/
inductive Ty where | int | bool | tuple | str | list
  deriving DecidableEq

def two64 : Int := 18446744073709551616
def mulOk (i j : Int) : Bool := (decide (-two64 < i) && decide (i < two64)) || (decide (-two64 < j) && decide (j < two64))

def isLst : T → Bool
  | .lst _ => true
  | .ref _ => true
  | _ => false
def binT (op : BOp) (h : Hs) (x y : T) : Option T := match op with
  | .add => match x, y with
    | .int i, .int j => some (.int (i + j))
    | .tup xs, .tup ys => if xs.length + ys.length ≤ LINE then some (.tup (xs ++ ys)) else none
    | .str a, .str b => if a.length + b.length ≤ LINE then some (.str (a ++ b)) else none
    | x, y => if isLst x && isLst y then match seqOf h x, seqOf h y with
      | some xs, some ys => if xs.length + ys.length ≤ LINE then some (.lst (xs ++ ys)) else none
      | _, _ => none
      else none
  | .sub => match x, y with
    | .int i, .int j => some (.int (i - j))
    | _, _ => none
  | .mul => match x, y with
    | .int i, .int j => if mulOk i j then some (.int (i * j)) else none
    | .tup xs, .int k => if -1000 ≤ k ∧ k ≤ 1000 ∧ xs.length ≤ 1000 then some (.tup (List.replicate k.toNat xs).flatten) else none
    | .lst xs, .int k => if 0 ≤ k ∧ k ≤ 1000 ∧ xs.length ≤ 1000 then some (.lst (List.replicate k.toNat xs).flatten) else none
    | _, _ => none
  | .fdiv => match x, y with
    | .int i, .int j => if 0 < j ∧ j < 1073741824 then some (.int (i / j)) else none
    | _, _ => none
  | .mod => match x, y with
    | .int i, .int j => if 0 < j then some (.int (i % j)) else none
    | _, _ => none
  | .pow => match x, y with
    | .int i, .int j => if 0 ≤ j ∧ j ≤ 1000000 ∧ i.natAbs < 18446744073709551616 then some (.int (i ^ j.toNat)) else none
    | _, _ => none

/-- the ints of a list -/
def intsOf : List T → Option (List Int)
  | [] => some []
  | .int i :: r => match intsOf r with
    | some ns => some (i :: ns)
    | none => none
  | _ => none
def blsOf : List T → Option (List Bool)
  | [] => some []
  | .bl b :: r => match blsOf r with
    | some bs => some (b :: bs)
    | none => none
  | _ => none

def memT (x : T) (xs : List T) : Bool := xs.any fun y => eqv y x
/-- no list, no tuple -/
def flatT : T → Bool
  | .non => true
  | .bl _ => true
  | .int _ => true
  | .str _ => true
  | _ => false
def inT (h : Hs) (x y : T) : Option Bool := match y with
  | .tup ys => if flatT x && ys.all flatT then some (memT x ys) else if okD 60 x && okDs 59 ys then some (memT x ys) else none
  | y => match seqOf h y with
    | some ys => if okD 60 x && okDs 59 ys then some (memT x ys) else none
    | none => none
def cmpT (op : COp) (h : Hs) (x y : T) : Option Bool := match op with
  | .eq => if okD 60 (now h x) && okD 60 (now h y) then some (eqv (now h x) (now h y)) else none
  | .ne => if okD 60 (now h x) && okD 60 (now h y) then some (!eqv (now h x) (now h y)) else none
  | .lt => match x, y with
    | .int i, .int j => some (decide (i < j))
    | _, _ => none
  | .le => match x, y with
    | .int i, .int j => some (decide (i ≤ j))
    | _, _ => none
  | .gt => match x, y with
    | .int i, .int j => some (decide (j < i))
    | _, _ => none
  | .ge => match x, y with
    | .int i, .int j => some (decide (j ≤ i))
    | _, _ => none
  | .isin => inT h x y
  | .notin => (inT h x y).map not

/-- x is None -/
def isNT : T → Option Bool
  | .non => some true
  | .ref _ => none
  | .fn _ => none
  | _ => some false
/-- x is a int, .. -/
def isiT (h : Hs) (ty : Ty) (x : T) : Option Bool := match x with
  | .non => some false
  | .bl _ => some (match ty with | .int => true | .bool => true | _ => false)
  | .int _ => some (match ty with | .int => true | _ => false)
  | .str _ => some (match ty with | .str => true | _ => false)
  | .tup _ => some (match ty with | .tuple => true | _ => false)
  | .lst _ => some (match ty with | .list => true | _ => false)
  | .ref a => match h[a]? with
    | some (.lst _) => some (match ty with | .list => true | _ => false)
    | _ => none
  | _ => none

/-- the least, the greatest -/
def minI : Int → List Int → Int
  | m, [] => m
  | m, x :: r => minI (if x < m then x else m) r
def maxI : Int → List Int → Int
  | m, [] => m
  | m, x :: r => maxI (if m < x then x else m) r
/-- ints in order -/
def insI (x : Int) : List Int → List Int
  | [] => [x]
  | y :: r => if x ≤ y then x :: y :: r else y :: insI x r
def sortI : List Int → List Int
  | [] => []
  | x :: r => insI x (sortI r)
/-- each once, in order -/
def dedupI : List Int → List Int
  | [] => []
  | x :: r => if r.contains x then dedupI r else x :: dedupI r

inductive Blt where
  | len | intOf | absI | max2 | min2 | maxL | minL | allL | anyL | sumL | tupleOf | listOf | sorted | lenSet | sortedSet
  deriving DecidableEq

def bltT (b : Blt) (h : Hs) (xs : List T) : Option T := match b, xs with
  | .len, [x] => match x with
    | .str s => if s.length ≤ LINE then some (.int s.length) else none
    | x => match seqOf h x with
      | some ys => some (.int (ys.length : Nat))
      | none => none
  | .intOf, [.int i] => some (.int i)
  | .absI, [.int i] => some (.int (if i < 0 then -i else i))
  | .max2, [.int i, .int j] => some (.int (if j > i then j else i))
  | .min2, [.int i, .int j] => some (.int (if j < i then j else i))
  | .maxL, [x] => match seqOf h x with
    | some ys => match intsOf ys with
      | some (n :: ns) => some (.int (maxI n ns))
      | _ => none
    | none => none
  | .minL, [x] => match seqOf h x with
    | some ys => match intsOf ys with
      | some (n :: ns) => some (.int (minI n ns))
      | _ => none
    | none => none
  | .allL, [x] => match x with
    | .lst ys => match blsOf ys with
      | some bs => some (.bl (bs.all id))
      | none => none
    | _ => none
  | .anyL, [x] => match x with
    | .lst ys => match blsOf ys with
      | some bs => some (.bl (bs.any id))
      | none => none
    | _ => none
  | .sumL, [x] => match x with
    | .lst ys => match intsOf ys with
      | some ns => some (.int ns.sum)
      | none => none
    | _ => none
  | .tupleOf, [x] => match seqOf h x with
    | some ys => some (.tup ys)
    | none => none
  | .listOf, [x] => match seqOf h x with
    | some ys => some (.lst ys)
    | none => none
  | .sorted, [x] => match x with
    | .tup _ => none
    | x => match seqOf h x with
      | some ys => match intsOf ys with
        | some ns => some (.lst ((sortI ns).map T.int))
        | none => none
      | none => none
  | .lenSet, [x] => match seqOf h x with
    | some ys => match intsOf ys with
      | some ns => if ns.length ≤ 4000 then some (.int ((dedupI ns).length : Nat)) else none
      | none => none
    | none => none
  | .sortedSet, [x] => match seqOf h x with
    | some ys => match intsOf ys with
      | some ns => if ns.length < 60 then some (.lst ((sortI (dedupI ns)).map T.int)) else none
      | none => none
    | none => none
  | _, _ => none

def idxT (h : Hs) (x i : T) : Option T := match i with
  | .int k => match seqOf h x with
    | some xs => L2.atI xs k
    | none => none
  | _ => none
def cutT (xs : List T) (lo hi : Option Int) : List T := (xs.drop (HT.sIx xs.length 0 lo)).take (HT.sIx xs.length xs.length hi - HT.sIx xs.length 0 lo)
def slcT (h : Hs) (x : T) (lo hi : Option Int) : Option T := match x with
  | .tup xs => some (.tup (cutT xs lo hi))
  | x => match seqOf h x with
    | some xs => some (.lst (cutT xs lo hi))
    | none => none
/-- x[::-1] -/
def revT (h : Hs) (x : T) : Option T := match x with
  | .tup xs => some (.tup xs.reverse)
  | _ => none
/-- the first place of an equal item -/
def findT (x : T) : List T → Option Nat
  | [] => none
  | y :: r => if eqv y x then some 0 else match findT x r with
    | some k => some (k + 1)
    | none => none
/-- a tuple, a list that is not changed -/
def idxB : T → Bool
  | .tup _ => true
  | .lst _ => true
  | .scr _ => true
  | _ => false
def idxOfT (h : Hs) (x y : T) : Option T := match seqOf h x with
  | some xs => if okDs 59 xs && okD 60 y then match findT y xs with
    | some k => some (.int (k : Nat))
    | none => none
    else none
  | none => none

/-! ### the language -/
inductive G where
  | name (i : Nat) | tup (gs : List G)

mutual
inductive E where
  | var (i : Nat)
  | con (t : T)
  | glo (k : Nat) (t : T)
  | tup (es : List E)
  | lst (es : List E)
  | bin (op : BOp) (a b : E)
  | neg (a : E)
  | cmp (op : COp) (a b : E)
  | cmp2 (op op' : COp) (a b c : E)
  | isN (a : E)
  | notN (a : E)
  | andE (a b : E)
  | orE (a b : E)
  | notE (a : E)
  | ite (c a b : E)
  | idx (a i : E)
  | slc (a : E) (lo hi : Option E)
  | rev (a : E)
  | idxOf (a x : E)
  | blt (b : Blt) (es : List E)
  | rng (tp : Bool) (es : List E)
  | isi (a : E) (ty : Ty)
  | call (f : Nat) (es : List E) (kws : List E) (perm : List Nat)
  | comp (elt : E) (g : G) (it : I) (c : Option E) (own : List Nat)
  | refused (a : E)
  | new (a : E)
inductive I where
  | val (a : E)
  | rng (es : List E)
  | enum (a : E)
  | zip (a b : E)
end

inductive S where
  | asg (g : G) (e : E)
  | par (is : List Nat) (es : List E)
  | aug (i : Nat) (op : BOp) (e : E)
  | setI (x i e : E)
  | app (x e : E)
  | ext (x e : E)
  | drop (e : E)
  | ret (e : E)
  | retN
  | ite (c : E) (a b : List S)
  | forS (g : G) (it : I) (body : List S)
  | whileS (c : E) (body : List S)
  | brk
  | cnt
  | pass
  | raise (c : Nat) (e : E)
  | freeze (i : Nat)

/-! ### targets -/
mutual
def asgG : G → T → Env → Option Env
  | .name i, t, σ => if i < σ.length then some (σ.set i (some t)) else none
  | .tup gs, t, σ => match t with
    | .tup xs => asgGs gs xs σ
    | _ => none
def asgGs : List G → List T → Env → Option Env
  | [], [], σ => some σ
  | g :: gs, x :: xs, σ => match asgG g x σ with
    | some σ' => asgGs gs xs σ'
    | none => none
  | _, _, _ => none
end
def wipeT (σ : Env) : List Nat → Env
  | [] => σ
  | v :: vs => (wipeT σ vs).set v none

/-! ### the interpreter: expressions -/
abbrev Calls := Nat → List T → Hs → R T
/-- a comprehension's turns -/
def compR (f : T → Hs → R (Option T)) : List T → Hs → R (List T)
  | [], h => .ok [] h
  | x :: xs, h => (f x h).bind fun o h => (compR f xs h).bind fun ys h => .ok (match o with | some y => y :: ys | none => ys) h
/-- nothing is let out -/
def noEx {α : Type} : R α → R α
  | .ok a h => .ok a h
  | _ => .bad
def asB {α : Type} (r : R T) (f : Bool → Hs → R α) : R α := match r with
  | .ok (.bl b) h => f b h
  | .ok _ _ => .bad
  | .ex c a h => .ex c a h
  | .bad => .bad
@[simp] theorem asB_ok {α : Type} (b : Bool) (h : Hs) (f : Bool → Hs → R α) : asB (.ok (.bl b) h) f = f b h := rfl
@[simp] theorem asB_ex {α : Type} (c : Nat) (a : T) (h : Hs) (f : Bool → Hs → R α) : asB (.ex c a h) f = .ex c a h := rfl
@[simp] theorem asB_bad {α : Type} (f : Bool → Hs → R α) : asB (.bad : R T) f = .bad := rfl
def rngL (lo : Int) (n : Nat) : List T := (List.range n).map fun i => T.int (lo + (i : Nat))
def two62 : Int := 4611686018427387904
def rngT : List T → Option (List T)
  | [.int j] => if j ≤ 1000000 ∧ -two62 ≤ j then some (rngL 0 j.toNat) else none
  | [.int i, .int j] => if -two62 ≤ i ∧ i < two62 ∧ -two62 ≤ j ∧ j < two62 ∧ j - i ≤ 1000000 then some (rngL i (j - i).toNat) else none
  | _ => none
def enumFrom' : Nat → List T → List T
  | _, [] => []
  | n, x :: r => .tup [.int (n : Nat), x] :: enumFrom' (n + 1) r
def zipT : List T → List T → List T
  | x :: xs, y :: ys => .tup [x, y] :: zipT xs ys
  | _, _ => []
/-- the items of what a loop goes along: a tuple, a list that is not changed -/
def walkT : T → Option (List T)
  | .tup xs => some xs
  | .lst xs => some xs
  | .scr ns => some (ns.map T.int)
  | _ => none
/-- enumerate of a list, a tuple -/
def enumOf : T → Option (List T)
  | .lst xs => some (enumFrom' 0 xs)
  | .tup xs => some (enumFrom' 0 xs)
  | _ => none
/-- zip of two tuples, of two lists -/
def zipOf : T → T → Option (List T)
  | .tup xs, .tup ys => some (zipT xs ys)
  | .lst xs, .lst ys => some (zipT xs ys)
  | _, _ => none
/-- the arguments in the parameters' order -/
def permT (perm : List Nat) (xs : List T) : Option (List T) := perm.mapM fun i => xs[i]?
def intO : T → Option (Option Int)
  | .int i => some (some i)
  | _ => none

mutual
def evE (call : Calls) : E → Env → Hs → R T
  | .var i, σ, h => match σ[i]? with
    | some (some t) => .ok t h
    | _ => .bad
  | .con t, _, h => .ok t h
  | .glo _ t, _, h => .ok t h
  | .tup es, σ, h => (evEs call es σ h).bind fun xs h => .ok (.tup xs) h
  | .lst es, σ, h => (evEs call es σ h).bind fun xs h => .ok (.lst xs) h
  | .bin op a b, σ, h => (evE call a σ h).bind fun x h => (evE call b σ h).bind fun y h => .of (binT op h x y) h
  | .neg a, σ, h => (evE call a σ h).bind fun x h => match x with
    | .int i => .ok (.int (-i)) h
    | _ => .bad
  | .cmp op a b, σ, h => (evE call a σ h).bind fun x h => (evE call b σ h).bind fun y h => .of ((cmpT op h x y).map T.bl) h
  | .cmp2 op op' a b c, σ, h => (evE call a σ h).bind fun x h => (evE call b σ h).bind fun y h => (R.of (cmpT op h x y) h).bind fun k h =>
    if k then (evE call c σ h).bind fun z h => .of ((cmpT op' h y z).map T.bl) h else .ok (.bl false) h
  | .isN a, σ, h => (evE call a σ h).bind fun x h => .of ((isNT x).map T.bl) h
  | .notN a, σ, h => (evE call a σ h).bind fun x h => .of ((isNT x).map fun b => T.bl (!b)) h
  | .andE a b, σ, h => asB (evE call a σ h) fun k h => if k then asB (evE call b σ h) fun k h => .ok (.bl k) h else .ok (.bl false) h
  | .orE a b, σ, h => asB (evE call a σ h) fun k h => if k then .ok (.bl true) h else asB (evE call b σ h) fun k h => .ok (.bl k) h
  | .notE a, σ, h => asB (evE call a σ h) fun k h => .ok (.bl (!k)) h
  | .ite c a b, σ, h => asB (evE call c σ h) fun k h => if k then evE call a σ h else evE call b σ h
  | .idx a i, σ, h => (evE call a σ h).bind fun x h => (evE call i σ h).bind fun y h => .of (idxT h x y) h
  | .slc a lo hi, σ, h => (evE call a σ h).bind fun x h => (evO call lo σ h).bind fun l h => (evO call hi σ h).bind fun u h => .of (slcT h x l u) h
  | .rev a, σ, h => (evE call a σ h).bind fun x h => .of (revT h x) h
  | .idxOf a x, σ, h => (evE call a σ h).bind fun y h => if idxB y then (evE call x σ h).bind fun z h => .of (idxOfT h y z) h else .bad
  | .blt b es, σ, h => (evEs call es σ h).bind fun xs h => .of (bltT b h xs) h
  | .rng tp es, σ, h => (evEs call es σ h).bind fun xs h => .of ((rngT xs).map fun ys => if tp then T.tup ys else T.lst ys) h
  | .isi a ty, σ, h => (evE call a σ h).bind fun x h => .of ((isiT h ty x).map T.bl) h
  | .call f es kws perm, σ, h => (evEs call es σ h).bind fun xs h => (evEs call kws σ h).bind fun ys h => (R.of (permT perm (xs ++ ys)) h).bind fun zs h => call f zs h
  | .comp elt g it c own, σ, h => (evI call it σ h).bind fun xs h => (noEx (compR (fun x h => (R.of (asgG g x (wipeT σ own)) h).bind fun σ' h =>
      asB (evC call c σ' h) fun k h => if k then (evE call elt σ' h).bind fun y h => .ok (some y) h else .ok none h) xs h)).bind fun ys h => .ok (.lst ys) h
  | .refused a, σ, h => match evE call a σ h with
    | .ok _ h => .ok (.str (Str.ofString "")) h
    | .ex 0 a h => .ok a h
    | _ => .bad
  | .new a, σ, h => (evE call a σ h).bind fun x h => match x with
    | .lst xs => .ok (.ref h.length) (h ++ [.lst xs])
    | _ => .bad
def evEs (call : Calls) : List E → Env → Hs → R (List T)
  | [], _, h => .ok [] h
  | e :: es, σ, h => (evE call e σ h).bind fun x h => (evEs call es σ h).bind fun xs h => .ok (x :: xs) h
def evO (call : Calls) : Option E → Env → Hs → R (Option Int)
  | none, _, h => .ok none h
  | some e, σ, h => (evE call e σ h).bind fun x h => .of (intO x) h
def evC (call : Calls) : Option E → Env → Hs → R T
  | none, _, h => .ok (.bl true) h
  | some e, σ, h => evE call e σ h
def evI (call : Calls) : I → Env → Hs → R (List T)
  | .val a, σ, h => (evE call a σ h).bind fun x h => .of (walkT x) h
  | .rng es, σ, h => (evEs call es σ h).bind fun xs h => .of (rngT xs) h
  | .enum a, σ, h => (evE call a σ h).bind fun x h => .of (enumOf x) h
  | .zip a b, σ, h => (evE call a σ h).bind fun x h => (evE call b σ h).bind fun y h => .of (zipOf x y) h
end

/-! ### the interpreter: statements -/
inductive O where
  | nx (σ : Env) (h : Hs) | rt (t : T) (h : Hs) | bk (σ : Env) (h : Hs) | ct (σ : Env) (h : Hs) | ex (c : Nat) (a : T) (h : Hs) | bad
def O.seq (o : O) (f : Env → Hs → O) : O := match o with
  | .nx σ h => f σ h
  | o => o
@[simp] theorem O.seq_nx (σ : Env) (h : Hs) (f : Env → Hs → O) : (O.nx σ h).seq f = f σ h := rfl
@[simp] theorem O.seq_rt (t : T) (h : Hs) (f : Env → Hs → O) : (O.rt t h).seq f = .rt t h := rfl
@[simp] theorem O.seq_bk (σ : Env) (h : Hs) (f : Env → Hs → O) : (O.bk σ h).seq f = .bk σ h := rfl
@[simp] theorem O.seq_ct (σ : Env) (h : Hs) (f : Env → Hs → O) : (O.ct σ h).seq f = .ct σ h := rfl
@[simp] theorem O.seq_ex (c : Nat) (a : T) (h : Hs) (f : Env → Hs → O) : (O.ex c a h).seq f = .ex c a h := rfl
@[simp] theorem O.seq_bad (f : Env → Hs → O) : O.bad.seq f = .bad := rfl
def R.out {α : Type} (r : R α) (f : α → Hs → O) : O := match r with
  | .ok a h => f a h
  | .ex c a h => .ex c a h
  | .bad => .bad
@[simp] theorem R.out_ok {α : Type} (a : α) (h : Hs) (f : α → Hs → O) : (R.ok a h).out f = f a h := rfl
@[simp] theorem R.out_ex {α : Type} (c : Nat) (a : T) (h : Hs) (f : α → Hs → O) : (R.ex c a h : R α).out f = .ex c a h := rfl
@[simp] theorem R.out_bad {α : Type} (f : α → Hs → O) : (R.bad : R α).out f = .bad := rfl
def outB (r : R T) (f : Bool → Hs → O) : O := match r with
  | .ok (.bl b) h => f b h
  | .ok _ _ => .bad
  | .ex c a h => .ex c a h
  | .bad => .bad
@[simp] theorem outB_ok (b : Bool) (h : Hs) (f : Bool → Hs → O) : outB (.ok (.bl b) h) f = f b h := rfl
@[simp] theorem outB_ex (c : Nat) (a : T) (h : Hs) (f : Bool → Hs → O) : outB (.ex c a h) f = .ex c a h := rfl
@[simp] theorem outB_bad (f : Bool → Hs → O) : outB .bad f = .bad := rfl
/-- a for's turns: a turn's body, then the rest -/
def loopO (f : T → Env → Hs → O) : List T → Env → Hs → O
  | [], σ, h => .nx σ h
  | x :: xs, σ, h => match f x σ h with
    | .nx σ h => loopO f xs σ h
    | .ct σ h => loopO f xs σ h
    | .bk σ h => .nx σ h
    | o => o
/-- a while's turns -/
def whileO (c : Env → Hs → R T) (f : Env → Hs → O) : Nat → Env → Hs → O
  | 0, _, _ => .bad
  | n + 1, σ, h => outB (c σ h) fun k h => if k then match f σ h with
    | .nx σ h => whileO c f n σ h
    | .ct σ h => whileO c f n σ h
    | .bk σ h => .nx σ h
    | o => o else .nx σ h
def parT : List Nat → List T → Env → Option Env
  | [], [], σ => some σ
  | i :: is, x :: xs, σ => if i < σ.length then parT is xs (σ.set i (some x)) else none
  | _, _, _ => none
/-- o[i] = v in a cell -/
def setT (h : Hs) (x i v : T) : Option Hs := match x, i with
  | .ref a, .int k => match h[a]? with
    | some (.lst xs) => match L2.ixN xs.length k with
      | some j => if okD 50 v then some (h.set a (.lst (xs.set j v))) else none
      | none => none
    | _ => none
  | _, _ => none
/-- a cell with a list -/
def cellB (h : Hs) : T → Bool
  | .ref a => match h[a]? with
    | some (.lst _) => true
    | _ => false
  | _ => false
def appT (h : Hs) (x v : T) : Option Hs := match x with
  | .ref a => match h[a]? with
    | some (.lst xs) => if xs.length < LINE ∧ okD 50 v = true then some (h.set a (.lst (xs ++ [v]))) else none
    | _ => none
  | _ => none
def extT (h : Hs) (x v : T) : Option Hs := match x with
  | .ref a => match h[a]?, v with
    | some (.lst xs), .lst ys => if xs.length + ys.length ≤ LINE ∧ okDs 50 ys = true then some (h.set a (.lst (xs ++ ys))) else none
    | some (.lst xs), .tup ys => if xs.length + ys.length ≤ LINE ∧ okDs 50 ys = true then some (h.set a (.lst (xs ++ ys))) else none
    | _, _ => none
  | _ => none
/-- a cell that is no more changed -/
def freezeT (h : Hs) (t : T) : Option (T × Hs) := match t with
  | .ref a => match h[a]? with
    | some (.lst xs) => some (.lst xs, h.set a .dead)
    | _ => none
  | _ => none

mutual
def evS (call : Calls) (w : Nat) : S → Env → Hs → O
  | .asg g e, σ, h => (evE call e σ h).out fun x h => match asgG g x σ with
    | some σ' => .nx σ' h
    | none => .bad
  | .par is es, σ, h => (evEs call es σ h).out fun xs h => match parT is xs σ with
    | some σ' => .nx σ' h
    | none => .bad
  | .aug i op e, σ, h => match σ[i]? with
    | some (some x) => (evE call e σ h).out fun y h => match x, y with
      | .int a, .int b => match binT op h (.int a) (.int b) with
        | some z => .nx (σ.set i (some z)) h
        | none => .bad
      | _, _ => .bad
    | _ => .bad
  | .setI x i e, σ, h => (evE call e σ h).out fun v h => (evE call x σ h).out fun o h => (evE call i σ h).out fun k h => match setT h o k v with
    | some h' => .nx σ h'
    | none => .bad
  | .app x e, σ, h => (evE call x σ h).out fun o h => if cellB h o then (evE call e σ h).out fun v h => match appT h o v with
    | some h' => .nx σ h'
    | none => .bad
    else .bad
  | .ext x e, σ, h => (evE call x σ h).out fun o h => if cellB h o then (evE call e σ h).out fun v h => match extT h o v with
    | some h' => .nx σ h'
    | none => .bad
    else .bad
  | .drop e, σ, h => (evE call e σ h).out fun _ h => .nx σ h
  | .ret e, σ, h => (evE call e σ h).out fun t h => .rt t h
  | .retN, _, h => .rt .non h
  | .ite c a b, σ, h => outB (evE call c σ h) fun k h => if k then evSs call w a σ h else evSs call w b σ h
  | .forS g it body, σ, h => (evI call it σ h).out fun xs h => loopO (fun x σ h => match asgG g x σ with
    | some σ' => evSs call w body σ' h
    | none => .bad) xs σ h
  | .whileS c body, σ, h => whileO (fun σ h => evE call c σ h) (fun σ h => evSs call w body σ h) w σ h
  | .brk, σ, h => .bk σ h
  | .cnt, σ, h => .ct σ h
  | .pass, σ, h => .nx σ h
  | .raise c e, σ, h => (evE call e σ h).out fun a h => if okD 50 a then .ex c a h else .bad
  | .freeze i, σ, h => match σ[i]? with
    | some (some x) => match freezeT h x with
      | some (t, h') => .nx (σ.set i (some t)) h'
      | none => .bad
    | _ => .bad
def evSs (call : Calls) (w : Nat) : List S → Env → Hs → O
  | [], σ, h => .nx σ h
  | s :: ss, σ, h => (evS call w s σ h).seq fun σ h => evSs call w ss σ h
end

/-! ### defs -/
structure FD where
  name : Str
  params : List Str
  /-- all names by slot, the parameters first -/
  names : List Str
  /-- it hands back a cell of its own -/
  fresh : Bool := false
  body : List S
abbrev Prog := List FD

/-- what a call hands back: data, a cell that was there, or a list of its own that is no more changed; its own cells are let go, but one that is handed back as such -/
def finT (fr : Bool) (n : Nat) (t : T) (h : Hs) : R T := if fr then match t with
  | .ref a => if n ≤ a then match h[a]? with
    | some (.lst xs) => if okDs 59 xs then .ok (.ref n) (h.take n ++ [.lst xs]) else .bad
    | _ => .bad
    else .bad
  | _ => .bad
  else match t with
  | .ref a => if a < n then .ok t (h.take n) else match h[a]? with
    | some (.lst xs) => if okDs 59 xs then .ok (.lst xs) (h.take n) else .bad
    | _ => .bad
  | t => if okD 60 t then .ok t (h.take n) else .bad
def startT (fd : FD) (xs : List T) : Env := xs.map some ++ List.replicate (fd.names.length - xs.length) none
def callN (Φ : Prog) (w : Nat) : Nat → Calls
  | 0, _, _, _ => .bad
  | n + 1, f, xs, h => match Φ[f]? with
    | none => .bad
    | some fd => if xs.length = fd.params.length then match evSs (callN Φ w n) w fd.body (startT fd xs) h with
        | .rt t h' => finT fd.fresh h.length t h'
        | .nx _ h' => finT fd.fresh h.length .non h'
        | .ex c a h' => if okD 60 a then .ex c a (h'.take h.length) else .bad
        | _ => .bad
      else .bad
end SH
end

section
set_option autoImplicit false
set_option linter.all false
set_option maxRecDepth 100000
/-! Strandhues: tuples of which it is known that they have no dict of their own; methods of tuples; least and greatest item of a tuple. -/
namespace SH
open PySem PySem.Spec PyProof.Rows L2

/-- a new tuple's object -/
abbrev tupObj (us : List Value) : Obj := { cls := .type "tuple", data := .seq us.toArray }
abbrev tupO (vs : List V) (us : List Value) : HO := .frz (tupObj us) (.tup vs)
/-- a tuple without a dict: tracked, or of the module -/
def TupAt (K : PySem.W.Frag) (H : Hp) (a : Addr) (vs : List V) : Prop :=
  (∃ o, H a = some (.frz o (.tup vs)) ∧ o.dict = none) ∨
    ∃ (o : Obj) (its : Array Value) (n : Nat), K.lookup a = some o ∧ o.cls = .type "tuple" ∧ o.dict = none ∧ o.data = .seq its n ∧ its.size ≤ sizeLine ∧ Vals vs its.toList
theorem TupAt.sq {K : PySem.W.Frag} {H : Hp} {a : Addr} {vs : List V} (t : TupAt K H a vs) : SqT K H a vs := by
  rcases t with ⟨o, h, _⟩ | ⟨o, its, n, h1, h2, h3, h4, h5, h6⟩
  · exact .inl (.inr ⟨o, h⟩)
  · exact .inr ⟨o, its, n, h1, h2, h4, h5, h6⟩
/-- what is wanted of a new tuple -/
def NewTup (H : Hp) (vs : List V) (Q : VK) : Prop := ∀ (p : Addr) (us : List Value), H p = none → Vals vs us → Q (.ref p) (upd H p (tupO vs us))

section
variable {X : Cx} {pins : List (Addr × Obj)} {σ : L2.St} {H : Hp} {s : Shared} {pos : Pos}
theorem TupAt.at (I : Inv X pins σ H s) {a : Addr} {vs : List V} (t : TupAt X.K H a vs) : ∃ (its : List Value) (n : Nat) (o : Obj), Vals vs its ∧ s.heap.get? a = some o ∧ o.cls = .type "tuple" ∧ o.dict = none ∧ o.data = .seq its.toArray n ∧ vs.length ≤ sizeLine := by
  rcases t with ⟨o, h, hd⟩ | ⟨o, its, n, h1, h2, h3, h4, h5, h6⟩
  · obtain ⟨e, l, its, r, ⟨o', e', hc, n, hdt⟩⟩ := I.hok a _ h
    rw [e] at e'; cases e'
    exact ⟨its, n, o, r, e, hc, hd, hdt, l⟩
  · have hl := h6.length
    have hl2 : its.toList.length = its.size := by simp
    exact ⟨its.toList, n, o, h6, I.kIn a o h1, h2, h3, by simpa using h4, by rw [hl, hl2]; exact h5⟩
/-- a new tuple is laid -/
theorem Inv.laidT {vs : List V} {us : List Value} {t' : Nat} (I : Inv X pins σ H s) (r : Vals vs us) (l : vs.length ≤ sizeLine) : Inv X pins σ (upd H s.heap.objs.size (tupO vs us)) { s with heap := s.heap.push (tupObj us), toks := t' } :=
  I.laid (t' := t') (fun b u e => Heap.get?_push_of_some _ e) (Nat.le_refl _) ⟨Heap.get?_push_size _ rfl, l, us, r, IsTup.new _ _⟩
theorem done_tup {vs : List V} {us : List Value} {t' : Nat} {Q : VK} (I : Inv X pins σ H s) (r : Vals vs us) (l : vs.length ≤ sizeLine) (q : NewTup H vs Q) : EP X pins σ Q (.ref s.heap.objs.size) { s with heap := s.heap.push (tupObj us), toks := t' } :=
  ⟨.ref s.heap.objs.size, _, Inv.laidT I r l, rfl, q _ us (I.hok.fresh (Nat.le_refl _)) r⟩

def tTupD (t : TA) : TE := fun σ H Q => t σ H fun xs H1 => xs.length ≤ sizeLine ∧ NewTup H1 xs Q
theorem pe_tupD {es : List Expr} {k : Nat} {t : TA} (h : PA X es t) : PE X (.Tuple es k pos) (tTupD t) := by
  constructor
  intro pins s σ H Q I hq
  exact wpAny_Tuple_spliced (thn (h.run pos pins s σ H _ I hq) fun us s1 ⟨xs, H1, I1, r, z, q⟩ => ⟨by rw [← r.length]; exact z, done_tup (t' := s1.toks) I1 r z q⟩)

/-- tuple(x): of a list a new one, of a tuple itself -/
def rTupOf (K : PySem.W.Frag) : List V → Hp → VK → Prop := fun xs H Q => ∃ p ys, xs = [.ref p] ∧ ((SqL K H p ys ∧ NewTup H ys Q) ∨ (SqT K H p ys ∧ Q (.ref p) H))
theorem call_tupleD : CallR X (.type "tuple") (rTupOf X.K) := by
  intro pins s σ H xs us Q I r h
  obtain ⟨p, ys, rfl, h⟩ := h
  obtain ⟨u, rfl, rx⟩ := vals1 r
  cases rx
  rcases h with ⟨hq, q⟩ | ⟨hq, q⟩
  · obtain ⟨its, rv, pl, hz⟩ := I.list hq
    refine call_tuple_list pl.isList (fun h' kp => ?_) (by rw [List.size_toArray, ← rv.length]; exact hz)
    exact done_tup (s := { s with heap := h' }) (t' := s.toks) (I.kept (t' := s.toks) kp) rv hz q
  · obtain ⟨its, rv, pl, hz⟩ := I.tuple hq
    exact call_tuple_same pl ⟨.ref p, H, I, rfl, q⟩

/-- t + u -/
def rCatD (K : PySem.W.Frag) : R2 := fun x y H Q => ∃ a b xs ys, x = .ref a ∧ y = .ref b ∧ SqT K H a xs ∧ SqT K H b ys ∧ xs.length + ys.length ≤ sizeLine ∧
  (xs = [] → Q (.ref b) H) ∧ (xs ≠ [] → ys = [] → Q (.ref a) H) ∧ (xs ≠ [] → ys ≠ [] → NewTup H (xs ++ ys) Q)
theorem op_catD : OpR X (binaryOp .Add) (rCatD X.K) := by
  intro pins s σ H x y v u Q I rx ry h
  obtain ⟨a, b, xs, ys, rfl, rfl, ha, hb, hz, q0, q1, q2⟩ := h
  cases rx
  cases ry
  obtain ⟨as, r1, p1, _⟩ := I.tuple ha
  obtain ⟨bs, r2, p2, _⟩ := I.tuple hb
  by_cases hx : xs = []
  · subst hx
    cases r1
    exact cat_tup0 p1 p2 ⟨.ref b, H, I, rfl, q0 rfl⟩
  · refine HT.cat_tup p1 p2 (fun z => hx (r1.nil_iff.mp z)) (fun z => ⟨.ref a, H, I, rfl, q1 hx (r2.nil_iff.mp z)⟩) (fun z => ?_) (by rw [← r1.length, ← r2.length]; exact hz)
    exact done_tup (t' := s.toks) I (r1.append r2) (by simpa using hz) (q2 hx fun e => z (r2.nil_iff.mpr e))

/-- t[lo:hi] -/
def rSlD (K : PySem.W.Frag) : V → Option Int → Option Int → Hp → VK → Prop := fun x lo hi H Q => ∃ a xs, x = .ref a ∧ SqT K H a xs ∧
  (HT.sIx xs.length 0 lo = 0 ∧ HT.sIx xs.length xs.length hi = xs.length → Q (.ref a) H) ∧ (¬ (HT.sIx xs.length 0 lo = 0 ∧ HT.sIx xs.length xs.length hi = xs.length) → NewTup H (cutV xs lo hi) Q)
theorem sl_tupD : SlR X (rSlD X.K) := by
  intro pins s σ H x v vl vu lo hi sl Q I rx hs pl pu h
  obtain ⟨a, xs, rfl, hx, q1, q2⟩ := h
  cases rx
  obtain ⟨its, r, ht, hz⟩ := I.tuple hx
  have hlen : its.toArray.size = xs.length := by rw [List.size_toArray]; exact r.length.symm
  refine ⟨"tuple", _, PyProof.Rows.slot_tuple_getitem.lookup, ht.typeIs, ?_⟩
  by_cases hw : HT.sIx xs.length 0 lo = 0 ∧ HT.sIx xs.length xs.length hi = xs.length
  · exact getItem_tuple_whole ht hs pl pu (by rw [hlen]; exact hw) ⟨.ref a, H, I, rfl, q1 hw⟩
  · refine HT.getItem_tuple_cut ht hs pl pu (by rw [hlen]; exact hw) ?_ (by rw [hlen]; exact hz)
    rw [hlen]
    exact done_tup (t' := s.toks) I ((r.drop _).take _) (Nat.le_trans (cutV_length xs lo hi) hz) (q2 hw)

/-- tuple(range(..)) -/
def tTupRgD (te : L2.St → Hp → (Int → Int → Hp → Prop) → Prop) : TE := fun σ H Q => te σ H fun a b H1 => RgOk a b ∧ NewTup H1 (rgV a b) Q
theorem pe_tupRgD {e : Expr} {te : L2.St → Hp → (Int → Int → Hp → Prop) → Prop} {p : Pos} (hc : X.calm = true) (hg : Gl X "tuple") (hm : X.mg "tuple" = none) (he : PRg X e te) (na : starEach [e] X.env = (false, eval e X.env) :: starEach [] X.env) :
    PE X (.Call (.Name "tuple" p) [e] [] pos) (tTupRgD te) := by
  constructor
  intro pins s σ H Q I h
  refine Call_ (ld_blt I hg hm boot_tuple (PyProof.Rows.callWith_type1 (args_cons (thn (he pins s σ H _ I h) fun x s1 hh => args_nil ?_) na) na))
  obtain ⟨r, a, b, t, u, v, H1, rfl, hr, I1, ⟨b1, b2, b3, b4, b5⟩, q⟩ := hh
  refine call_tuple_range (n := (b - a).toNat) (I1.ok.hd hc) hr (small_one b1 b2 b3 b4) (rangeSize_nat a b) b5 fun h' tk acc hk hi => ?_
  have I2 : Inv X pins σ H1 { s1 with heap := h', toks := tk } := I1.kept hk
  have hl : (rgV a b).length ≤ sizeLine := by rw [rgV_length, sizeLine_eq]; omega
  have := done_tup (t' := tk) I2 (vals_rg hi) hl q
  rw [show tupObj acc.toList = { cls := .type "tuple", data := .seq acc } by simp [tupObj]] at this
  exact this

/-! ### methods of tuples -/
def tTM (K : PySem.W.Frag) (r : V → List V → Hp → VK → Prop) (to : TE) (t : TA) : TE := fun σ H Q => to σ H fun x H1 => (∃ a vs, x = .ref a ∧ TupAt K H1 a vs) ∧ t σ H1 fun xs H2 => r x xs H2 Q
theorem pe_tm {o e : Expr} {es : List Expr} {to : TE} {t : TA} {name : Str} {apos cpos : Pos} {id : String} {r : V → List V → Hp → VK → Prop} (slot : Slot "tuple" name id) (hty : typeOf (.builtin id) = pure (.type "method_descriptor")) (hm : MtR X id r) (ho : PE X o to) (ha : PA X (e :: es) t)
    (hbase : attributeBase o name X.env (eval o X.env) = eval o X.env)
    (hfew : ((backTo cpos (starEach (e :: es) X.env)).all (fun x => !x.1) && (backToKw cpos (keywordEach [] X.env)).all (fun x => x.1.isSome)
      && decide ((e :: es).length + ([] : List Keyword).length + (if ([] : List Keyword).isEmpty then 0 else 1) < 30)) = true)
    (hline : (apos.endLine == cpos.line) = true) (hs : starEach (e :: es) X.env = (false, eval e X.env) :: starEach es X.env) (hplain : (backTo cpos (starEach es X.env)).any (·.1) = false) :
    PE X (.Call (.Attribute o name apos) (e :: es) [] cpos) (tTM X.K r to t) := by
  constructor
  intro pins s σ H Q I h
  refine wpAny_Call_method_late hbase hfew hline rfl (thn (ho.run pins s σ H _ I h) fun v s1 hh => ?_)
  obtain ⟨x, H1, I1, r1, ⟨a, vs, rfl, ta⟩, q1⟩ := hh
  cases r1
  obtain ⟨its, n, ob, rv, e1, hc, hd, hdt, hz⟩ := TupAt.at I1 ta
  refine ⟨"tuple", id, PySem.F.plainAttrs_tuple, slot, hty, ⟨ob, e1, hc⟩, fun b eb => ?_, ?_⟩
  · cases eb
    exact ⟨ob, e1, hd⟩
  · have hA := ha.run cpos pins s1 σ H1 _ I1 q1
    rw [hs] at hA ⊢
    have hp : ((false, eval e X.env).1 || (backTo cpos (starEach es X.env)).any (·.1)) = false := by rw [hplain]; rfl
    refine Calls.callWith_builtin hp (Calls.evalArgs_plain ?_)
    exact thn hA fun us s2 ⟨ws, H2, I2, r2, q2⟩ => hm pins s2 σ H2 (V.ref a) ws _ us Q I2 rfl r2 q2
/-- t.index(x), flat items -/
def rTIndex (K : PySem.W.Frag) : V → List V → Hp → VK → Prop := fun x xs H Q => ∃ (a : Addr) (ys : List V) (y : V) (j : Nat) (z : V), x = V.ref a ∧ xs = [y] ∧ SqT K H a ys ∧ flatV y = true ∧ ys.all flatV = true ∧ ys[j]? = some z ∧ eqV z y = true ∧
  (∀ (m : Nat) (z' : V), m < j → ys[m]? = some z' → eqV z' y = false) ∧ Q (.int (j : Nat)) H
theorem mt_tindex : MtR X "tuple.index" (rTIndex X.K) := by
  intro pins s σ H x xs v us Q I rx rxs h
  obtain ⟨a, ys, y, j, z, rfl, rfl, hs, fy, fys, hz, hzj, hno, q⟩ := h
  cases rx
  obtain ⟨uy, rfl, ry⟩ := vals1 rxs
  obtain ⟨its, rv, ⟨⟨cls, dd, data, sl⟩, ho, hc, n, hd⟩, hlen⟩ := I.tuple hs
  simp only at hc hd
  subst hc hd
  have at' : ∀ (m : Nat) (hm : m < its.toArray.size) (z' : V), ys[m]? = some z' → eqU y its.toArray[m] = eqV z' y := fun m hm z' hz' => by
    obtain ⟨u, hu, ru⟩ := rv.get hz'
    have e1 : its.toArray[m] = u := by
      have := (List.getElem?_eq_some_iff.mp hu).2
      simpa using this
    rw [e1, eqU_of ru (flat_at fys hz')]
  have hvl := rv.length
  have hj : j < its.toArray.size := by
    have := (List.getElem?_eq_some_iff.mp hz).1
    rw [List.size_toArray]; omega
  refine call_meets PySem.F.slot_tuple_index ⟨_, ho, rfl⟩ PySem.F.entry_tuple_index (PySem.F.args_tuple_index_2 _ _) (TI.tuple_indexAt a its.toArray n dd sl uy (eqU y) j hj ?_ ?_)
    ⟨ho, fun w hw => mem_eqAt ry fy rv fys w (by simpa using hw), ⟨.int (j : Nat), H, I.tok _, ⟨_, rfl⟩, q⟩⟩
  · rw [at' j hj z hz]; exact hzj
  · intro m hm hmj
    have hml : m < ys.length := by rw [List.size_toArray] at hm; omega
    have hy' : ys[m]? = some ys[m] := List.getElem?_eq_getElem hml
    rw [at' m hm _ hy']
    exact hno m _ hmj hy'

/-! ### min, max of a tuple of ints -/
section
variable {prog : Program} {w : World} {A : Around} {E : Value → Shared → Prop} {l : Addr} {its : List Value} {ns : List Int}
theorem ints_items (hi : IntsAre its ns) : ∃ xs, its.toArray = intItems xs ∧ (xs.toList.map (·.1)) = ns := by
  obtain ⟨xs, e⟩ := hi.allInts.items
  refine ⟨xs, e, ?_⟩
  have hn : numsOf (intItems xs).toList = ns := by rw [← e]; exact hi.numsOf
  rw [nums_intItems] at hn
  exact hn
theorem tup_below {Q : Value → Shared → Prop} {items : Array Value} (hl : s.heap.IsTuple l items) :
    ∀ b ∈ [s.heap.objs.size, l], b < (s.heap.push { cls := .type "tuple_iterator", data := .fields #[.ref l, .int 0 0] }).objs.size := fun b hb => by
  have hlt : l < s.heap.objs.size := let ⟨_, e, _⟩ := hl; Heap.lt_size e
  rw [Heap.size_push]
  simp only [List.mem_cons, List.not_mem_nil, or_false] at hb
  rcases hb with rfl | rfl
  · exact Nat.lt_succ_self _
  · exact Nat.lt_succ_of_lt hlt
theorem max_rawT {Q : Value → Shared → Prop} (hh : A.handled = none) (hl : s.heap.IsTuple l its.toArray) (hi : IntsAre its ns) (hne : 0 < ns.length)
    (h : ∀ h' tk M t', (∀ b o, s.heap.get? b = some o → h'.get? b = some o) → M ∈ ns → (∀ a, a ∈ ns → a ≤ M) → Q (.int M t') { s with heap := h', toks := tk }) : wpAny (model prog w) A (call (.builtin "max") [.ref l]) Q E s := by
  obtain ⟨xs, e, hn⟩ := ints_items hi
  subst hn
  rw [e] at hl
  have hsz : 0 < xs.size := by simpa using hne
  have hne' : l ≠ s.heap.objs.size := Nat.ne_of_lt (let ⟨_, e, _⟩ := hl; Heap.lt_size e)
  refine call_max_walk (wpAny_pyIter_tuple hl ⟨_, [s.heap.objs.size, l], [s.heap.objs.size], _, _, _, _, rfl, Walks.tuple (A := A.in1) hh _ l hne' (intItems xs), ⟨⟨_, Heap.get?_push_size _ rfl, rfl, rfl⟩, hl.push _⟩, tup_below (Q := Q) hl, by simpa [intItems] using hsz,
    CmpOf.ints_gt (numAt xs) (fun _ _ => intItems_at), fun v h' tk hv hk => ?_⟩)
  obtain ⟨t, rfl⟩ := intItems_at hv
  obtain ⟨h1, h2⟩ := argBest_gt (numAt xs) (xs.size - 1)
  have hz : (intItems xs).size = xs.size := by simp [intItems]
  simp only [hz] at *
  refine h h' tk _ t (fun b o q => hk b o (fun z => Nat.ne_of_lt (Heap.lt_size q) (List.mem_singleton.mp z)) (Heap.get?_push_of_some _ q)) ?_ fun a ha => ?_
  · rw [numAt_eq]; exact PySem.getD_mem (by rw [List.length_map, Array.length_toList]; exact Nat.lt_of_le_of_lt h1 (Nat.sub_lt hsz Nat.one_pos))
  · obtain ⟨j, hj, rfl⟩ := mem_getD ha
    rw [List.length_map, Array.length_toList] at hj
    rw [← numAt_eq]; exact h2 j (Nat.le_sub_one_of_lt hj)
theorem min_rawT {Q : Value → Shared → Prop} (hh : A.handled = none) (hl : s.heap.IsTuple l its.toArray) (hi : IntsAre its ns) (hne : 0 < ns.length)
    (h : ∀ h' tk M t', (∀ b o, s.heap.get? b = some o → h'.get? b = some o) → M ∈ ns → (∀ a, a ∈ ns → M ≤ a) → Q (.int M t') { s with heap := h', toks := tk }) : wpAny (model prog w) A (call (.builtin "min") [.ref l]) Q E s := by
  obtain ⟨xs, e, hn⟩ := ints_items hi
  subst hn
  rw [e] at hl
  have hsz : 0 < xs.size := by simpa using hne
  have hne' : l ≠ s.heap.objs.size := Nat.ne_of_lt (let ⟨_, e, _⟩ := hl; Heap.lt_size e)
  refine call_min_walk (wpAny_pyIter_tuple hl ⟨_, [s.heap.objs.size, l], [s.heap.objs.size], _, _, _, _, rfl, Walks.tuple (A := A.in1) hh _ l hne' (intItems xs), ⟨⟨_, Heap.get?_push_size _ rfl, rfl, rfl⟩, hl.push _⟩, tup_below (Q := Q) hl, by simpa [intItems] using hsz,
    CmpOf.ints_lt (numAt xs) (fun _ _ => intItems_at), fun v h' tk hv hk => ?_⟩)
  obtain ⟨t, rfl⟩ := intItems_at hv
  obtain ⟨h1, h2⟩ := argBest_lt (numAt xs) (xs.size - 1)
  have hz : (intItems xs).size = xs.size := by simp [intItems]
  simp only [hz] at *
  refine h h' tk _ t (fun b o q => hk b o (fun z => Nat.ne_of_lt (Heap.lt_size q) (List.mem_singleton.mp z)) (Heap.get?_push_of_some _ q)) ?_ fun a ha => ?_
  · rw [numAt_eq]; exact PySem.getD_mem (by rw [List.length_map, Array.length_toList]; exact Nat.lt_of_le_of_lt h1 (Nat.sub_lt hsz Nat.one_pos))
  · obtain ⟨j, hj, rfl⟩ := mem_getD ha
    rw [List.length_map, Array.length_toList] at hj
    rw [← numAt_eq]; exact h2 j (Nat.le_sub_one_of_lt hj)
end
/-- the greatest, the least item of a list, a tuple of ints -/
def rMaxA (K : PySem.W.Frag) : List V → Hp → VK → Prop := fun vs H Q => ∃ (a : Addr) (ns : List Int), vs = [V.ref a] ∧ (SqL K H a (ns.map V.int) ∨ SqT K H a (ns.map V.int)) ∧ 0 < ns.length ∧ ∀ m, m ∈ ns → (∀ y, y ∈ ns → y ≤ m) → Q (.int m) H
def rMinA (K : PySem.W.Frag) : List V → Hp → VK → Prop := fun vs H Q => ∃ (a : Addr) (ns : List Int), vs = [V.ref a] ∧ (SqL K H a (ns.map V.int) ∨ SqT K H a (ns.map V.int)) ∧ 0 < ns.length ∧ ∀ m, m ∈ ns → (∀ y, y ∈ ns → m ≤ y) → Q (.int m) H
theorem cr_maxA (hc : X.calm = true) : CallR X (.builtin "max") (rMaxA X.K) := by
  intro pins s σ H xs us Q I r h
  obtain ⟨a, ns, rfl, hq, hne, q⟩ := h
  rcases hq with hq | hq
  · exact cr_max hc pins s σ H _ us Q I r ⟨a, ns, rfl, hq, hne, q⟩
  · obtain ⟨u, rfl, ru⟩ := vals1 r
    cases ru
    obtain ⟨its, rv, pl, hz⟩ := I.tuple hq
    exact max_rawT (I.ok.hd hc) (show s.heap.IsTuple a its.toArray from pl) rv.ints hne fun h' tk M t' hk h1 h2 => ⟨.int M, H, I.kept hk, ⟨_, rfl⟩, q M h1 h2⟩
theorem cr_minA (hc : X.calm = true) : CallR X (.builtin "min") (rMinA X.K) := by
  intro pins s σ H xs us Q I r h
  obtain ⟨a, ns, rfl, hq, hne, q⟩ := h
  rcases hq with hq | hq
  · exact cr_min hc pins s σ H _ us Q I r ⟨a, ns, rfl, hq, hne, q⟩
  · obtain ⟨u, rfl, ru⟩ := vals1 r
    cases ru
    obtain ⟨its, rv, pl, hz⟩ := I.tuple hq
    exact min_rawT (I.ok.hd hc) (show s.heap.IsTuple a its.toArray from pl) rv.ints hne fun h' tk M t' hk h1 h2 => ⟨.int M, H, I.kept hk, ⟨_, rfl⟩, q M h1 h2⟩
end
/-! tuple * int -/
theorem tmul_same (l : Addr) (items : Array Value) (n : Nat) (dd : Option Addr) (sl : Array (Option Value)) (x : Int) (u : Tok) (c0 : (decide (x < -(2 ^ 63)) || decide (x ≥ 2 ^ 63)) = false) (c1 : (items.isEmpty || x == 1) = true) :
    Meets (Builtin.«tuple.__mul__» ⟨[.ref l, .int x u], []⟩) (fun _ R s => s.heap.get? l = some { cls := .type "tuple", dict := dd, data := .seq items n, slots := sl } ∧ R (.ok (.ret (Value.ref l))) s) :=
  .of_wp fun prog w A R s h => by
    obtain ⟨hp, g, d, tk, os⟩ := s
    obtain ⟨hl, h⟩ := h
    have f1 := AutoSeq1.idx_int
    wp_walk using wpAny_loadPart' hl
    repeat (first
      | (refine wpAny_ite_false (decide_eq_false (by rw [c0]; exact Bool.false_ne_true)) ?_; wp_walk using wpAny_loadPart' hl)
      | (refine wpAny_ite_true (decide_eq_true (by rw [c1])) ?_; wp_walk using wpAny_loadPart' hl))
    exact ⟨_, rfl, h⟩
theorem tmul_none (l : Addr) (items : Array Value) (n : Nat) (dd : Option Addr) (sl : Array (Option Value)) (x : Int) (u : Tok) (c0 : (decide (x < -(2 ^ 63)) || decide (x ≥ 2 ^ 63)) = false) (c1 : (items.isEmpty || x == 1) = false) (c2 : (decide (x ≤ 0) || items.isEmpty) = true) :
    Meets (Builtin.«tuple.__mul__» ⟨[.ref l, .int x u], []⟩) (fun _ R s => s.heap.get? l = some { cls := .type "tuple", dict := dd, data := .seq items n, slots := sl } ∧
      R (.ok (.ret (Value.ref s.heap.objs.size))) { s with heap := s.heap.push { cls := Value.type "tuple", data := Data.seq #[] }, toks := s.toks }) :=
  .of_wp fun prog w A R s h => by
    obtain ⟨hp, g, d, tk, os⟩ := s
    obtain ⟨hl, h⟩ := h
    have f1 := AutoSeq1.idx_int
    wp_walk using wpAny_loadPart' hl
    repeat (first
      | (refine wpAny_ite_false (decide_eq_false (by rw [c0]; exact Bool.false_ne_true)) ?_; wp_walk using wpAny_loadPart' hl)
      | (refine wpAny_ite_false (decide_eq_false (by rw [c1]; exact Bool.false_ne_true)) ?_; wp_walk using wpAny_loadPart' hl)
      | (refine wpAny_ite_true (decide_eq_true (by rw [c2])) ?_; wp_walk using wpAny_loadPart' hl))
    exact ⟨_, rfl, h⟩
/-- t * k -/
def rRepD (K : PySem.W.Frag) : R2 := fun x y H Q => ∃ l k xs, x = .ref l ∧ y = .int k ∧ SqT K H l xs ∧ -1000 ≤ k ∧ k ≤ 1000 ∧ xs.length ≤ 1000 ∧
  (xs = [] ∨ k = 1 → Q (.ref l) H) ∧ (xs ≠ [] → k ≠ 1 → NewTup H (List.replicate k.toNat xs).flatten Q)
section
variable {X : Cx}
theorem op_repD : OpR X (binaryOp .Mult) (rRepD X.K) := by
  intro pins s σ H x y v u Q I rx ry h
  obtain ⟨l, k, xs, rfl, rfl, hT, h0, h2, hz, q1, q⟩ := h
  cases rx
  obtain ⟨t, rfl⟩ := ry
  obtain ⟨its, r, ⟨⟨cls, dd, data, sl⟩, ho, hc, n, hd⟩, hs⟩ := I.tuple hT
  simp only at hc hd
  subst hc hd
  have hle : its.length = xs.length := r.length.symm
  have c0 : (decide (k < -(2 ^ 63)) || decide (k ≥ 2 ^ 63)) = false := by
    rw [decide_eq_false (by omega), decide_eq_false (by omega)] <;> rfl
  have hi0 : its.toArray.isEmpty = decide (xs = []) := by
    cases its with
    | nil => 
      have : xs = [] := List.eq_nil_of_length_eq_zero hle.symm
      subst this; rfl
    | cons a b =>
      have : xs ≠ [] := fun e => by rw [e] at hle; simp at hle
      simp [this]
  refine wpAny_binaryOp_repeat_ref (T := "tuple") (U := "int") (by decide) ⟨_, ho, rfl⟩ (fun s' => typeIs_int s' k t) noFill_tuple_mul F.fills_int_mul F.slot_int_rmul repeat_tuple F.slot_int_index.lookup
    (call_meets F.slot_int_rmul (typeIs_int s k t) F.entry_int_rmul (F.args_int_rmul_2 _ _) (int_rmul_tuple k t l its.toArray n dd sl)
      ⟨ho, rfl, ⟨_, ho, rfl⟩, ?_⟩)
  by_cases he : xs = [] ∨ k = 1
  · have c1 : (its.toArray.isEmpty || k == 1) = true := by
      rw [hi0, Bool.or_eq_true]
      exact he.elim (fun z => .inl (decide_eq_true z)) fun z => .inr (by rw [z]; rfl)
    exact call_meets F.slot_tuple_mul ⟨_, ho, rfl⟩ F.entry_tuple_mul (F.args_tuple_mul_2 _ _) (tmul_same l its.toArray n dd sl k t c0 c1) ⟨ho, ⟨.ref l, H, I, rfl, q1 he⟩⟩
  · have he1 : xs ≠ [] := fun z => he (.inl z)
    have he2 : k ≠ 1 := fun z => he (.inr z)
    have c1 : (its.toArray.isEmpty || k == 1) = false := by
      rw [hi0, decide_eq_false he1, Bool.false_or]
      exact beq_eq_false_iff_ne.mpr he2
    have hi : its.toArray.isEmpty = false := by rw [hi0, decide_eq_false he1]
    have flen : (List.replicate k.toNat its).flatten.length ≤ sizeLine := by
      rw [PyProof.Rows.lm_len_rep_flat, hle, sizeLine_eq]
      have a1 : k.toNat * xs.length ≤ 1000 * 1000 := Nat.mul_le_mul (by omega) hz
      omega
    have flen2 : (List.replicate k.toNat xs).flatten.length ≤ sizeLine := by
      rw [PyProof.Rows.lm_len_rep_flat, sizeLine_eq]
      have a1 : k.toNat * xs.length ≤ 1000 * 1000 := Nat.mul_le_mul (by omega) hz
      omega
    by_cases hk : k ≤ 0
    · have c2 : (decide (k ≤ 0) || its.toArray.isEmpty) = true := by rw [decide_eq_true hk]; rfl
      refine call_meets F.slot_tuple_mul ⟨_, ho, rfl⟩ F.entry_tuple_mul (F.args_tuple_mul_2 _ _) (tmul_none l its.toArray n dd sl k t c0 c1 c2) ⟨ho, ?_⟩
      have hk0 : k.toNat = 0 := by omega
      have q' := q he1 he2
      rw [hk0] at q'
      exact done_tup (us := []) (t' := s.toks) I .nil (Nat.zero_le _) q'
    · have hsz0 : its.toArray.size = xs.length := by rw [List.size_toArray, hle]
      have hm : ((its.toArray.size : Nat) : Int) * k ≤ 1000000 := by
        rw [hsz0]
        have a1 : ((xs.length : Nat) : Int) * k ≤ 1000 * k := Int.mul_le_mul_of_nonneg_right (by omega) (by omega)
        omega
      have c2 : (decide (k ≤ 0) || its.toArray.isEmpty) = false := by
        rw [hi, Bool.or_false]
        exact decide_eq_false hk
      have c4 : Builtin.Tuple.tupleTooMany (((its.toArray.size : Nat) : Int) * k) = false := by
        unfold Builtin.Tuple.tupleTooMany
        rw [sizeLine_eq]
        exact decide_eq_false (by omega)
      refine call_meets F.slot_tuple_mul ⟨_, ho, rfl⟩ F.entry_tuple_mul (F.args_tuple_mul_2 _ _) (tuple_mulW l its.toArray n dd sl k t c0 c1 c2 (by omega) c4 (by rw [size_rep, List.size_toArray]; exact flen)) ⟨ho, ?_⟩
      rw [size_rep]
      exact done_tup (t' := s.toks) I (r.rep k.toNat) flen2 (q he1 he2)
end
end SH
end

section
set_option autoImplicit false
set_option linter.all false
set_option maxRecDepth 100000
/-! Strandhues: enumerate of a tuple. -/
namespace SH
open PySem PySem.Spec PyProof.Rows L2
section
open Sem (wp)
open AutoSeq1 (wpAny_loadPart')
theorem meets_enum_newT (l : Addr) (items : Array Value) (n : Nat) (dct : Option Addr) (sl : Array (Option Value)) :
    Meets (Builtin.«enumerate.__new__» ⟨[.type "enumerate", .ref l], []⟩) (fun _ R s => s.heap.get? l = some { cls := .type "tuple", dict := dct, data := .seq items n, slots := sl } ∧
      R (.ok (.ret (.ref (s.heap.push { cls := .type "tuple_iterator", data := .fields #[.ref l, .int 0 0] }).objs.size))) { s with heap := (s.heap.push { cls := .type "tuple_iterator", data := .fields #[.ref l, .int 0 0] }).push { cls := .type "enumerate", data := .fields #[.none, .bool false, .ref s.heap.objs.size, rawInt 0, .none, .none] } }) :=
  .of_wp fun prog w A R s h => by
    obtain ⟨hp, g, d, tk, os⟩ := s
    obtain ⟨hl, h⟩ := h
    have hsub := sub_enumerate
    have ht : Heap.IsTuple (Shared.heap ⟨hp, g, d, tk, os⟩) l items := ⟨_, hl, rfl, n, rfl⟩
    wp_walk using wpAny_loadPart' hl
    refine wpAny_stack_any fun st => wpAny_pure ?_
    split
    · rename_i c _ _ _ _ _
      cases (c == Value.type "enumerate")
      · wp_walk using wpAny_loadPart' hl, wpAny_pyIter_tuple ht
        exact ⟨_, rfl, h⟩
      · wp_walk using wpAny_loadPart' hl, wpAny_pyIter_tuple ht
        exact ⟨_, rfl, h⟩
    · wp_walk using wpAny_loadPart' hl, wpAny_pyIter_tuple ht
      exact ⟨_, rfl, h⟩
end
section
variable {prog : Program} {w : World} {A : Around} {E : Value → Shared → Prop} {s : Shared}
theorem call_enumT {l : Addr} {items : Array Value} {Q : Value → Shared → Prop} (hL : s.heap.IsTuple l items)
    (h : ∀ h', IsEnum h' (s.heap.objs.size + 1) s.heap.objs.size 0 .none → h'.IsTupleIter s.heap.objs.size l 0 → h'.objs.size = s.heap.objs.size + 2 →
      (∀ b o, s.heap.get? b = some o → h'.get? b = some o) → Q (.ref (s.heap.objs.size + 1)) { s with heap := h' }) :
    wpAny (model prog w) A (call (.type "enumerate") [.ref l]) Q E s := by
  obtain ⟨⟨c, dct, dt, sl⟩, hl, hc, n, hd⟩ := hL
  replace hc : c = .type "tuple" := hc
  replace hd : dt = .seq items n := hd
  subst hc hd
  refine callType_new F.called_enumerate (by decide) (F.typeCall_enumerate_1 _) (F.newCall_enumerate_1 _) (fun obj => F.args_object_init_2 obj _) F.entry_enumerate_new (meets_enum_newT l items n dct sl) ⟨hl, ?_⟩
  have hz : (s.heap.push { cls := .type "tuple_iterator", data := .fields #[.ref l, .int 0 0] }).objs.size = s.heap.objs.size + 1 := Heap.size_push ..
  show _ ∧ _
  rw [hz]
  have he : IsEnum ((s.heap.push { cls := .type "tuple_iterator", data := .fields #[.ref l, .int 0 0] }).push { cls := .type "enumerate", data := .fields #[.none, .bool false, .ref s.heap.objs.size, rawInt 0, .none, .none] }) (s.heap.objs.size + 1) s.heap.objs.size 0 .none := by
    have q := Heap.get?_push_size (s.heap.push { cls := .type "tuple_iterator", data := .fields #[.ref l, .int 0 0] }) (o := { cls := .type "enumerate", data := .fields #[.none, .bool false, .ref s.heap.objs.size, rawInt 0, .none, .none] }) rfl
    rw [hz] at q
    exact q
  refine ⟨⟨_, he, rfl⟩, h _ he ⟨_, Heap.get?_push_of_some _ (Heap.get?_push_size _ rfl), rfl, rfl⟩ (by rw [Heap.size_push, hz]) fun b o x => Heap.get?_push_of_some _ (Heap.get?_push_of_some _ x)⟩
end
section
variable {prog : Program} {w : World} {A : Around} {E : Value → Shared → Prop} {s : Shared}
theorem enumT_end {e it l : Addr} {i : Nat} {items : Array Value} {old : Value} {Q : Option Value → Shared → Prop} (hh : A.handled = none) (he : IsEnum s.heap e it i old) (hit : s.heap.IsTupleIter it l i) (hl : s.heap.IsTuple l items) (hx : items[i]? = none)
    (hQ : ∀ h', Heap.ExtBut it s.heap h' → Q none { s with heap := h' }) : wpAny (model prog w) A (pyNext (.ref e)) Q E s := by
  have hT : s.TypeIs (.ref e) "enumerate" := ⟨_, he, rfl⟩
  unfold pyNext
  refine wpAny_bind (wpAny_attempt (wpAny_callSpecial?_slot (name := Str.ofString "__next__") hT F.slot_enumerate_next (wpAny_call_entry F.slot_enumerate_next hT F.entry_enumerate_next ?_ (F.args_enumerate_next_1 _))))
  show wpAny _ _ (field (.ref e) 2 >>= _) _ _ _
  refine wpAny_bind (wpAny_field he rfl (x := .ref it) rfl ?_)
  refine wpAny_bind (wpAny_nextOf_tuple_end hh hit hl hx fun h' x he' hx' => ?_)
  obtain ⟨o, ho, hc⟩ := hx'
  refine wpAny_bind (wpAny_isInstance (T := "StopIteration") (b := true) ⟨o, ho, hc⟩ isSubtype_stop ?_)
  exact wpAny_pure (hQ _ he')
end
/-- the tuple at a as it stands at each turn, each item in a new pair -/
def IteT (K : PySem.W.Frag) (a : Addr) : It :=
  ⟨fun i H => ∃ (xs : List V) (x : V), SqT K H a xs ∧ xs[i]? = some x, fun i H v H' => ∃ T x, v = .ref T ∧ H T = none ∧ H' = upd H T (.tup [.int (i : Nat), x]) ∧ ∀ xs, SqT K H a xs → xs[i]? = some x, fun i H => ∃ xs : List V, SqT K H a xs ∧ xs.length ≤ i⟩
theorem turn_enumT {P : Program} {w : World} {K : PySem.W.Frag} {elts : List Expr} {kk : Nat} {tpos : Pos} (a e it : Addr) :
    Turn P w K (.Tuple elts kk tpos) (IteT K a) [e, it] e (fun i h => (∃ old, IsEnum h e it ((i : Nat) : Int) old) ∧ h.IsTupleIter it a i ∧ e ≠ it ∧ a ≠ it ∧ a ≠ e) where
  mem := by simp
  obj := fun i h st b hb => by
    obtain ⟨⟨old, he⟩, ⟨o, ho, hc, hd⟩, _⟩ := st
    have e' : b = e ∨ b = it := by simpa using hb
    rcases e' with z | z
    · rw [z]; exact ⟨_, he, fun v q => nomatch q⟩
    · rw [z]; exact ⟨o, ho, fun v q => by rw [hd] at q; cases q⟩
  keep := fun i h h' st k => let ⟨⟨old, he⟩, hi, hne⟩ := st; ⟨⟨old, k e (by simp) _ he⟩, hi.at fun o q => k it (by simp) o q, hne⟩
  item := by
    intro X hP hw hK hc i pins s σ H E I hf st hg
    subst hP hw hK
    obtain ⟨⟨old, he⟩, hit, hne, hai, hae⟩ := st
    obtain ⟨xs, x, hq, hx⟩ := hg
    obtain ⟨its, rv, p, hz⟩ := I.tuple hq
    obtain ⟨u, hu, ru⟩ := rv.get hx
    have hel : e < s.heap.objs.size := Heap.lt_size he
    have hil : it < s.heap.objs.size := by obtain ⟨_, q, _⟩ := hit; exact Heap.lt_size q
    have hlt : i < its.toArray.size := by
      have := (List.getElem?_eq_some_iff.mp hu).1
      simpa using this
    refine wpAny_pyNext_enum_itemD (Draws.tuple (A := X.A.in1) (I.ok.hd hc) it a hai its.toArray) he ⟨hit, p⟩ hlt hne (fun z => by
      rcases List.mem_cons.mp z with z | z
      · exact hne z
      · exact hae (List.mem_singleton.mp z).symm) fun x' h' tk hx' ho hst hT hsz hk => ?_
    have exu : x' = u := by
      have : its.toArray[i]? = some u := by simpa using hu
      rw [this] at hx'
      exact (Option.some.inj hx').symm
    subst exu
    refine ⟨_, rfl, wpAny_letOwnedTupleGo_enum (s := { s with heap := h', toks := tk + 1 }) ho fun h'' he' sb => ?_⟩
    have hT2 : h''.get? s.heap.objs.size = some { cls := .type "tuple", data := .seq #[.int i tk, x'] } := (sb.2 _ (Nat.ne_of_gt hel)).trans hT
    have new : ObjOk X.prog X.w (upd H s.heap.objs.size (.tup [.int (i : Nat), x])) h'' s.heap.objs.size (.tup [.int (i : Nat), x]) :=
      ⟨by show 2 ≤ sizeLine; decide, [.int i tk, x'], .cons ⟨_, rfl⟩ (.cons ru .nil), ⟨_, hT2, rfl, _, rfl⟩⟩
    have I1 : Inv X pins σ (upd H s.heap.objs.size (.tup [.int (i : Nat), x])) { s with heap := h'', toks := tk + 1 } :=
      I.turnedNew (ch := [e, it]) (fun b ob hb q => (sb.2 b (fun z => hb (by simp [z]))).trans (hk b ob (fun z => hb (by simp [z])) (fun z => hb (by simp [z])) q)) hf (Nat.le_refl _) new
    refine ⟨.ref s.heap.objs.size, _, I1, rfl, ⟨_, x, rfl, I.hok.fresh (Nat.le_refl _), rfl, fun ys hy => by rw [I.tuple_inj hy hq]; exact hx⟩, ⟨⟨x', ?_⟩, hst.1.at fun o q => (sb.2 it (Ne.symm hne)).trans q, hne, hai, hae⟩, fun b hb => ?_⟩
    · have e1 : ((i + 1 : Nat) : Int) = (i : Int) + 1 := by omega
      rw [e1]; exact he'
    · have hb' : b < s.heap.objs.size := by
        have e' : b = e ∨ b = it := by simpa using hb
        rcases e' with z | z
        · rw [z]; exact hel
        · rw [z]; exact hil
      rw [upd_ne (Nat.ne_of_lt hb')]
      exact (hf b hb).1
  done := by
    intro X hP hw hK hc i pins s σ H E I hf st hg
    subst hP hw hK
    obtain ⟨⟨old, he⟩, hit, hne, hai, hae⟩ := st
    obtain ⟨xs, hq, hx⟩ := hg
    obtain ⟨its, rv, p, hz⟩ := I.tuple hq
    obtain ⟨f0, f1, f2, f3, f4, f5⟩ := hf it (by simp)
    have hl := rv.length
    exact enumT_end (I.ok.hd hc) he hit p (by simp; omega) fun h' eb => ⟨rfl, I.turned (t' := s.toks) (fun b o hb q => eb b o hb q) f0 f1 f3 f4 f5⟩
  self := fun A i s Q E st h => let ⟨⟨_, he⟩, _⟩ := st; wpAny_pyIter_enum he h
/-- enumerate of a list, of a tuple -/
def iEnumA (K : PySem.W.Frag) (ta : TA) : TI := fun σ H R => ta σ H fun vs H1 => ∃ a, vs = [.ref a] ∧ (((∃ xs, SqL K H1 a xs) ∧ R (Ite K a) H1) ∨ ((∃ xs, SqT K H1 a xs) ∧ R (IteT K a) H1))
theorem pi_enumA {X : Cx} {e : Expr} {ta : TA} {p pos tpos : Pos} {elts : List Expr} {kk : Nat} (hg : Gl X "enumerate") (hm : X.mg "enumerate" = none) (ha : PA X [e] ta) (hs : starEach [e] X.env = [(false, eval e X.env)] := by rfl) :
    PI X (.Tuple elts kk tpos) (.Call (.Name "enumerate" p) [e] [] pos) (iEnumA X.K ta) := by
  refine ⟨fun pins s σ H R I h => ?_⟩
  refine Call_ (ld_blt I hg hm boot_enumerate (PyProof.Rows.callWith_type1 (thn (ha.run pos pins s σ H _ I h) fun us s1 ⟨vs, H1, I1, r1, q1⟩ => ?_) hs rfl))
  obtain ⟨a, ex, q1⟩ := q1
  subst ex
  obtain ⟨u, rfl, r⟩ := vals1 r1
  cases r
  have fp : ∀ b ∈ [s1.heap.objs.size + 1, s1.heap.objs.size], FpOk X pins H1 b := fun b hb => by
    have e' : b = s1.heap.objs.size + 1 ∨ b = s1.heap.objs.size := by simpa using hb
    have hle : s1.heap.objs.size ≤ b := by
      rcases e' with z | z
      · rw [z]; exact Nat.le_add_right _ _
      · rw [z]; exact Nat.le_refl _
    exact I1.fpOk hle (I1.hok.fresh hle)
  rcases q1 with ⟨⟨xs, hq⟩, q⟩ | ⟨⟨xs, hq⟩, q⟩
  · obtain ⟨its, rv, p', hz⟩ := I1.list hq
    refine call_enumerate_list p'.isList fun h' he hit hsz hk => wpAny_pyIter_enum he ?_
    have I2 : Inv X pins σ H1 { s1 with heap := h' } := I1.kept (t' := s1.toks) hk
    exact ⟨s1.heap.objs.size + 1, [s1.heap.objs.size + 1, s1.heap.objs.size], _, _, H1, rfl, I2, turn_enum a (s1.heap.objs.size + 1) s1.heap.objs.size, ⟨⟨.none, he⟩, hit, Nat.succ_ne_self _⟩, fp, q⟩
  · obtain ⟨its, rv, p', hz⟩ := I1.tuple hq
    have hal : a < s1.heap.objs.size := by
      obtain ⟨o, ho, _⟩ := p'
      exact Heap.lt_size ho
    refine call_enumT (show s1.heap.IsTuple a its.toArray from p') fun h' he hit hsz hk => wpAny_pyIter_enum he ?_
    have I2 : Inv X pins σ H1 { s1 with heap := h' } := I1.kept (t' := s1.toks) hk
    exact ⟨s1.heap.objs.size + 1, [s1.heap.objs.size + 1, s1.heap.objs.size], _, _, H1, rfl, I2, turn_enumT a (s1.heap.objs.size + 1) s1.heap.objs.size, ⟨⟨.none, he⟩, hit, Nat.succ_ne_self _, Nat.ne_of_lt hal, Nat.ne_of_lt (Nat.lt_succ_of_lt hal)⟩, fp, q⟩
end SH
end

section
set_option autoImplicit false
set_option linter.all false
set_option maxRecDepth 100000
/-! Strandhues: a tuple turned round. -/
namespace SH
open PySem PySem.Spec PyProof.Rows L2
theorem places_rev (n : Nat) : Builtin.Slice.slicePlaces ((n : Int) - 1) (-1) (-1) = n := by
  unfold Builtin.Slice.slicePlaces
  have h1 : ¬ ((-1 : Int) > 0) := by omega
  rw [if_neg h1]
  by_cases h : (n : Int) - 1 > -1
  · rw [if_pos h]
    have : ((n : Int) - 1 - -1 - 1) / (- -1) = (n : Int) - 1 := by
      have e : (- -1 : Int) = 1 := by decide
      rw [e, Int.ediv_one]; omega
    rw [this]; omega
  · rw [if_neg h]; omega
theorem adjust_rev (n : Nat) : Builtin.Slice.sliceAdjust none none (-1) (n : Int) = ((n : Int) - 1, -1) := rfl
theorem pick_rev (xs : Array Value) : ((List.range xs.size).filterMap fun (m : Nat) => xs[((xs.size : Int) - 1 + (m : Int) * -1).toNat]?).toArray = xs.toList.reverse.toArray := by
  congr 1
  have h1 : ∀ l : List Nat, (∀ i ∈ l, i < xs.size) → l.filterMap (fun (m : Nat) => xs[((xs.size : Int) - 1 + (m : Int) * -1).toNat]?) = l.map fun m => xs.toList.getD (xs.size - 1 - m) .none := fun l => by
    induction l with
    | nil => intro _; rfl
    | cons i l ih =>
      intro hl
      have hi := hl i List.mem_cons_self
      have e1 : ((xs.size : Int) - 1 + (i : Int) * -1).toNat = xs.size - 1 - i := by omega
      have e2 : xs[xs.size - 1 - i]? = some (xs.toList.getD (xs.size - 1 - i) .none) := by
        have : xs.size - 1 - i < xs.size := by omega
        simp [List.getD_eq_getElem?_getD, this]
      rw [List.filterMap_cons, e1, e2, List.map_cons, ih fun j hj => hl j (List.mem_cons_of_mem _ hj)]
  rw [h1 _ fun i hi => List.mem_range.mp hi]
  refine List.ext_getElem (by simp) fun i h2 h3 => ?_
  have hi : i < xs.size := by simpa using h2
  have : xs.size - 1 - i < xs.size := by omega
  simp [List.getD_eq_getElem?_getD, this, List.getElem_reverse]
section
variable {prog : Program} {w : World} {A : Around} {E : Value → Shared → Prop} {s : Shared}
theorem sliceApplied_rev {sl : Addr} {n : Nat} {vs : Value} {Q : Int × Int × Nat → Shared → Prop} (hs : s.heap.IsSliceOf sl .none .none vs) (ps : IsPart vs (some (-1))) (h : Q ((n : Int) - 1, -1, n) s) : wpAny (model prog w) A (Builtin.Slice.sliceApplied (.ref sl) (pure (n : Int))) Q E s := by
  obtain ⟨os, hos, hcs, hds⟩ := id hs
  unfold Builtin.Slice.sliceApplied Builtin.Slice.sliceFields
  refine wpAny_bind (wpAny_bind (wpAny_field hos hds (x := .none) rfl (wpAny_bind (wpAny_field hos hds (x := .none) rfl (wpAny_bind (wpAny_field hos hds (x := vs) rfl (wpAny_pure ?_)))))))
  refine wpAny_bind (HT.slicePart_ ps ?_)
  show wpAny _ _ (if ((-1 : Int) == 0) = true then _ else _) _ _ s
  rw [if_neg (by decide)]
  refine wpAny_bind (slicePart_none (wpAny_bind (slicePart_none (wpAny_bind (wpAny_pure ?_)))))
  show wpAny _ _ (match Builtin.Slice.sliceAdjust none none (-1) (n : Int) with | (lo, hi) => pure (lo, (-1 : Int), Builtin.Slice.slicePlaces lo hi (-1))) _ _ s
  rw [adjust_rev]
  show wpAny _ _ (pure ((n : Int) - 1, (-1 : Int), Builtin.Slice.slicePlaces ((n : Int) - 1) (-1) (-1))) _ _ s
  rw [places_rev]
  exact wpAny_pure h
theorem getItem_tuple_rev {t sl : Addr} {items : Array Value} {vs : Value} {Q : Value → Shared → Prop} (ht : IsTup s.heap t items) (hs : s.heap.IsSliceOf sl .none .none vs) (ps : IsPart vs (some (-1)))
    (h : Q (.ref s.heap.objs.size) { s with heap := s.heap.push { cls := .type "tuple", data := .seq items.toList.reverse.toArray } }) (hsz : items.size ≤ sizeLine) : wpAny (model prog w) A (getItem (.ref t) (.ref sl)) Q E s := by
  have htake : sizeOk (.seq items.toList.reverse.toArray) := by
    show items.toList.reverse.toArray.size ≤ sizeLine
    rw [List.size_toArray, List.length_reverse, Array.length_toList]
    exact hsz
  obtain ⟨os, hos, hcs, hds⟩ := id hs
  have hTs : s.TypeIs (.ref sl) "slice" := ⟨os, hos, hcs⟩
  unfold getItem
  try with_reducible refine wpAny_holding ?_
  first | refine wpAny_bind (wpAny_pure ?_) | skip
  refine wpAny_bind (wpAny_sequenceKey ht.typeIs (by decide) ?_)
  refine wpAny_bind (wpAny_callSpecial?_slot (name := Str.ofString "__getitem__") ht.typeIs PyProof.Rows.slot_tuple_getitem (wpAny_call_entry PyProof.Rows.slot_tuple_getitem ht.typeIs entry_tuple_getitem ?_ (args_tuple_getitem _ _)))
  show wpAny _ _ (Builtin.Tuple.tupleItemsOf (.ref t) >>= _) _ _ s
  refine wpAny_bind (tupleItemsOf_ ht ?_)
  refine wpAny_bind (wpAny_typeOf hTs ?_)
  rw [if_pos (by decide)]
  refine wpAny_bind (sliceApplied_rev (n := items.size) hs ps ?_)
  have hno : ¬ ((((items.size : Int) - 1) == 0 && (-1 : Int) == 1 && items.size == items.size) = true) := by
    intro q
    rw [Bool.and_eq_true, Bool.and_eq_true] at q
    exact absurd q.1.2 (by decide)
  show wpAny _ _ (if (((items.size : Int) - 1) == 0 && (-1 : Int) == 1 && items.size == items.size) = true then _ else _) _ _ s
  rw [if_neg hno, pick_rev]
  first
    | exact wpAny_bind (m := Builtin.Tuple.tupleExact _) (wpAny_newObj_type (wpAny_pure ⟨_, rfl, wpAny_pure h⟩) htake)
    | exact wpAny_bind (m := Builtin.Tuple.tupleExact _) (wpAny_newObj_type (wpAny_bind (wpAny_pure (wpAny_pure ⟨_, rfl, wpAny_pure h⟩))) htake)
    | exact wpAny_bind (wpAny_bind (m := Builtin.Tuple.tupleExact _) (wpAny_newObj_type (wpAny_pure (wpAny_pure ⟨_, rfl, wpAny_pure h⟩)) htake))
    | exact wpAny_bind (wpAny_bind (m := Builtin.Tuple.tupleExact _) (wpAny_newObj_type (wpAny_pure ⟨_, rfl, wpAny_pure h⟩) htake))
end
theorem Vals.rev {vs : List V} {us : List Value} (r : Vals vs us) : Vals vs.reverse us.reverse := by
  induction r with
  | nil => exact .nil
  | cons r1 r2 ih =>
    rw [List.reverse_cons, List.reverse_cons]
    exact ih.append (.cons r1 .nil)
def tRevT (K : PySem.W.Frag) (te : TE) (tst : TO) : TE := fun σ H Q => te σ H fun x H1 => tst σ H1 fun o H2 => o = some (-1) ∧ ∃ a xs, x = .ref a ∧ SqT K H2 a xs ∧ NewTup H2 xs.reverse Q
theorem pe_revT {X : Cx} {e st : Expr} {te : TE} {tst : TO} {p2 pos : Pos} (he : PE X e te) (hst : PO X (some st) tst) : PE X (.Subscript e (.Slice none none (some st) p2) pos) (tRevT X.K te tst) := by
  refine ⟨fun pins s σ H Q I h => ?_⟩
  refine Subscript_ (thn (he.run pins s σ H _ I h) fun v s1 ⟨x, H1, I1, r1, q1⟩ => ?_)
  refine wpAny_Slice ?_
  rw [evalPart_none]
  refine wpAny_pure (wpAny_pure ?_)
  refine thn (hst.run pins s1 σ H1 _ I1 q1) fun vs s3 ⟨o, H3, I3, ps, eo, a, xs, ex, hT, q3⟩ => ?_
  subst eo ex
  cases r1
  have I4 : Inv X pins σ H3 { s3 with heap := s3.heap.push { cls := .type "slice", data := .fields #[.none, .none, vs] } } := I3.kept (t' := s3.toks) fun b ob q => Heap.get?_push_of_some _ q
  obtain ⟨its, rv, ht, hz⟩ := I4.tuple hT
  have hlen : its.toArray.size = xs.length := by rw [List.size_toArray]; exact rv.length.symm
  show wpAny (model X.prog X.w) X.A (subscriptTail e (.Slice none none (some st) p2) (.ref a) (.ref s3.heap.objs.size)) (EP X pins σ Q) X.xe { s3 with heap := s3.heap.push { cls := .type "slice", data := .fields #[.none, .none, vs] } }
  refine tail_any (ops := [.ref a, .ref s3.heap.objs.size]) ht.typeIs PyProof.Rows.slot_tuple_getitem.lookup (getItem_tuple_rev ht (Heap.IsSliceOf.new ..) ps ?_ (by rw [hlen]; exact hz)) (by with_unfolding_all rfl)
  have := done_tup (t' := s3.toks) I4 (Vals.rev rv) (by rw [List.length_reverse]; exact hz) q3
  simpa using this
end SH
end

section
set_option autoImplicit false
set_option linter.all false
set_option maxRecDepth 100000
/-! Strandhues: x in t, t.index(x) of data of any depth. -/
namespace SH
open PySem PySem.Spec PyProof.Rows L2
section
variable {X : Cx}
def rInTD (K : PySem.W.Frag) : R2 := fun x y H Q => ∃ d ds, Dp K H x d ∧ Dp K H y (.tuple ds) ∧ SeqAt.shaped d = true ∧ SeqAt.shaped (.tuple ds) = true ∧ Q (.bl (ds.any fun z => PyData.eqv z d)) H
def rNotInTD (K : PySem.W.Frag) : R2 := fun x y H Q => ∃ d ds, Dp K H x d ∧ Dp K H y (.tuple ds) ∧ SeqAt.shaped d = true ∧ SeqAt.shaped (.tuple ds) = true ∧ Q (.bl (!ds.any fun z => PyData.eqv z d)) H
theorem room_inT {A : Around} {ds : List PyData} {d : PyData} (sd : SeqAt.shaped d = true) (hu : A.units + 65 < cLine) : A.units + 1 + min (PyData.depthAll ds) d.depth < cLine := by
  have h : ((d.canLay0 && decide (d.depth ≤ 64)) : Bool) = true := sd
  rw [Bool.and_eq_true, decide_eq_true_eq] at h
  have := Nat.min_le_right (PyData.depthAll ds) d.depth
  omega
theorem lay_tup {ds : List PyData} (s : SeqAt.shaped (.tuple ds) = true) : PyData.canLayAll0 ds = true := by
  have := SeqAt.canLay_of_shaped s
  simpa only [PyData.canLay0] using this
theorem op_inTD (hu : X.A.units + 65 < cLine) : OpR X (compareOp .In) (rInTD X.K) := by
  intro pins s σ H x y v u Q I rx ry h
  obtain ⟨d, ds, hd, he, sd, se, q⟩ := h
  obtain ⟨as, r1⟩ := Dp.reads I d x v hd rx
  obtain ⟨bs, r2⟩ := Dp.reads I (.tuple ds) y u he ry
  exact SeqAt.in_tuple_reads r2 r1 (lay_tup se) (SeqAt.canLay_of_shaped sd) (room_inT sd hu) ⟨.bl _, H, I, rfl, q⟩
theorem op_notInTD (hu : X.A.units + 65 < cLine) : OpR X (compareOp .NotIn) (rNotInTD X.K) := by
  intro pins s σ H x y v u Q I rx ry h
  obtain ⟨d, ds, hd, he, sd, se, q⟩ := h
  obtain ⟨as, r1⟩ := Dp.reads I d x v hd rx
  obtain ⟨bs, r2⟩ := Dp.reads I (.tuple ds) y u he ry
  exact SeqAt.notIn_tuple_reads r2 r1 (lay_tup se) (SeqAt.canLay_of_shaped sd) (room_inT sd hu) ⟨.bl _, H, I, rfl, q⟩
/-- t.index(x): the first place of an equal one -/
def rTIndexD (K : PySem.W.Frag) : V → List V → Hp → VK → Prop := fun x xs H Q => ∃ (a : Addr) (y : V) (d : PyData) (ds : List PyData) (j : Nat) (z : PyData), x = V.ref a ∧ xs = [y] ∧ Dp K H (V.ref a) (.tuple ds) ∧ Dp K H y d ∧
  SeqAt.shaped (.tuple ds) = true ∧ SeqAt.shaped d = true ∧ ds[j]? = some z ∧ PyData.eqv z d = true ∧ (∀ (m : Nat) (z' : PyData), m < j → ds[m]? = some z' → PyData.eqv z' d = false) ∧ Q (.int (j : Nat)) H
theorem mt_tindexD (hu : X.A.units + 65 < cLine) : MtR X "tuple.index" (rTIndexD X.K) := by
  intro pins s σ H x xs v us Q I rx rxs h
  obtain ⟨a, y, d, ds, j, z, rfl, rfl, hl, hy, sl, sd, hz, hzj, hno, q⟩ := h
  cases rx
  obtain ⟨uy, rfl, ry⟩ := vals1 rxs
  obtain ⟨bs, r1⟩ := Dp.reads I d y uy hy ry
  have hxs : PyData.canLayAll0 ds = true := lay_tup sl
  have hroom : X.A.units + 1 + min (PyData.depthAll ds) d.depth < cLine := room_inT sd hu
  cases hl with
  | tup hs ha =>
    obtain ⟨its, rv, ⟨⟨cls, dd, data, sls⟩, ho, hc, n, hdt⟩, hlen⟩ := I.tuple hs
    simp only at hc hdt
    subst hc hdt
    obtain ⟨as, h4⟩ := Dp.readsAll I ds _ its ha rv
    have hn : its.length = ds.length := SeqAt.ReadsAll.length ds its as h4
    have hmap : its.map (SeqAt.readOf s.heap) = ds := SeqAt.readsAll_map ds its as hxs h4
    obtain ⟨hjd, _⟩ := List.getElem?_eq_some_iff.mp hz
    have hj : j < its.toArray.size := by rw [List.size_toArray]; omega
    have at_ : ∀ (m : Nat) (hm : m < its.toArray.size) (z' : PyData), ds[m]? = some z' → SeqAt.readOf s.heap its.toArray[m] = z' := by
      intro m hm z' hz'
      have hml : m < its.length := by simpa using hm
      rw [← hmap, List.getElem?_map, List.getElem?_eq_getElem hml] at hz'
      have e1 : SeqAt.readOf s.heap its[m] = z' := Option.some.inj (show some (SeqAt.readOf s.heap its[m]) = some z' from hz')
      simpa using e1
    refine call_meets PySem.F.slot_tuple_index ⟨_, ho, rfl⟩ PySem.F.entry_tuple_index (PySem.F.args_tuple_index_2 _ _) (TI.tuple_indexAt a its.toArray n dd sls uy (fun u => PyData.eqv (SeqAt.readOf s.heap u) d) j hj ?_ ?_)
      ⟨ho, SeqAt.items_eqAt (vs := its.toArray) (show ReadsAll s.heap its.toArray.toList ds as from h4) r1 hxs (SeqAt.canLay_of_shaped sd) hroom, ?_⟩
    · show PyData.eqv (SeqAt.readOf s.heap its.toArray[j]) d = true
      rw [at_ j hj z hz]
      exact hzj
    · intro m hm hmj
      have hmd : m < ds.length := by omega
      have hz' : ds[m]? = some ds[m] := List.getElem?_eq_getElem hmd
      show PyData.eqv (SeqAt.readOf s.heap its.toArray[m]) d = false
      rw [at_ m hm _ hz']
      exact hno m _ hmj hz'
    · exact ⟨.int (j : Nat), H, I.tok _, ⟨_, rfl⟩, q⟩
/-- o.index(x), o a tuple or a list -/
def tIdx (K : PySem.W.Frag) (to : TE) (t : TA) : TE := fun σ H Q => to σ H fun x H1 => ((∃ a vs, x = .ref a ∧ TupAt K H1 a vs) ∧ t σ H1 fun xs H2 => rTIndexD K x xs H2 Q) ∨ (tyV K "list" x H1 ∧ t σ H1 fun xs H2 => rIndexD K x xs H2 Q)
theorem pe_idxOf {o e : Expr} {to : TE} {t : TA} {apos cpos : Pos} (hu : X.A.units + 65 < cLine) (ho : PE X o to) (ha : PA X [e] t) (hbase : ∀ nm, attributeBase o nm X.env (eval o X.env) = eval o X.env) (hline : (apos.endLine == cpos.line) = true) (hs : starEach [e] X.env = [(false, eval e X.env)]) :
    PE X (.Call (.Attribute o (Str.ofString "index") apos) [e] [] cpos) (tIdx X.K to t) := by
  constructor
  intro pins s σ H Q I h
  refine wpAny_Call_method_late (hbase _) (by rw [hs]; rfl) hline rfl (thn (ho.run pins s σ H _ I h) fun v s1 hh => ?_)
  obtain ⟨x, H1, I1, r1, hh⟩ := hh
  rcases hh with ⟨⟨a, vs, rfl, ta⟩, q1⟩ | ⟨ty, q1⟩
  · cases r1
    obtain ⟨its, n, ob, rv, e1, hc, hd, hdt, hz⟩ := TupAt.at I1 ta
    refine ⟨"tuple", "tuple.index", PySem.F.plainAttrs_tuple, PySem.F.slot_tuple_index, PySem.F.type_tuple_index, ⟨ob, e1, hc⟩, fun b eb => ?_, ?_⟩
    · cases eb
      exact ⟨ob, e1, hd⟩
    · have hA := ha.run cpos pins s1 σ H1 _ I1 q1
      rw [hs] at hA ⊢
      refine Calls.callWith_builtin rfl (Calls.evalArgs_plain ?_)
      exact thn hA fun us s2 ⟨ws, H2, I2, r2, q2⟩ => mt_tindexD hu pins s2 σ H2 (V.ref a) ws _ us Q I2 rfl r2 q2
  · obtain ⟨h1, h2⟩ := tyV_is I1 r1 ty
    refine ⟨"list", "list.index", PySem.F.plainAttrs_list, PySem.F.slot_list_index, PySem.F.type_list_index, h1, h2, ?_⟩
    have hA := ha.run cpos pins s1 σ H1 _ I1 q1
    rw [hs] at hA ⊢
    refine Calls.callWith_builtin rfl (Calls.evalArgs_plain ?_)
    exact thn hA fun us s2 ⟨ws, H2, I2, r2, q2⟩ => mt_indexD hu pins s2 σ H2 x ws v us Q I2 r1 r2 q2
end
/-! l.extend(t) -/
section
open AutoSeq1 (wpAny_loadPart')
theorem ext_listT (l : Addr) (items : Array Value) (n : Nat) (b : Addr) (items2 : Array Value) (n2 : Nat) (sl : Array (Option Value)) (hs0 : ¬(!items.isEmpty && Builtin.List.listTooLong (items.size + items2.size)) = true) (hs1 : items.size ≤ sizeLine) (hs2 : items.size + items2.size ≤ sizeLine + 1) :
    Meets (Builtin.«list.extend» ⟨[.ref l, .ref b], []⟩) (fun _ R s => s.heap.get? l = some { cls := .type "list", dict := none, data := .seq items n, slots := #[] } ∧ s.heap.get? b = some { cls := .type "tuple", dict := none, data := .seq items2 n2, slots := sl } ∧ R (.ok (.ret Value.none)) { s with heap := s.heap.update l (Obj.mapSeq fun x => x ++ items2), toks := s.toks }) :=
  .of_wp fun prog w A R s h => by
    obtain ⟨hp, g, d, tk, os⟩ := s
    obtain ⟨hl, hb, h⟩ := h
    have f1 := AutoSeq1.idx_int
    have f2 := AutoSeq1.sub_tuple_tuple
    have f3 := AutoSeq1.sub_list_list
    have f4 := AutoSeq1.sub_tuple_list
    have f5 := AutoSeq1.sub_list_tuple
    have hz' : (items ++ items2).size ≤ sizeLine + 1 := by rw [Array.size_append]; exact hs2
    wp_walk using (wpAny_updateSeq hl rfl (hz := hs1) (_hz' := hz')), wpAny_loadPart' hl, wpAny_loadPart' hb
    exact ⟨_, rfl, h⟩
end
section
variable {X : Cx}
def rExtendT (K : PySem.W.Frag) : V → List V → Hp → VK → Prop := fun x vs H Q => ∃ l b xs zs, x = .ref l ∧ vs = [.ref b] ∧ H l = some (.lst xs) ∧ TupAt K H b zs ∧ xs.length + zs.length ≤ sizeLine ∧ Q .non (upd H l (.lst (xs ++ zs)))
theorem mt_extendT : MtM X "list.extend" (rExtendT X.K) := by
  intro pins s σ H x vs v us Q I rx rv h
  obtain ⟨l, b, xs, zs, rfl, rfl, hH, hB, hz, q⟩ := h
  cases rx
  obtain ⟨u, rfl, ru⟩ := rv.one
  cases ru
  obtain ⟨z, its, n, r, hl, e⟩ := I.lstM hH
  obtain ⟨its2, n2, ob, r2, e2, hc, hd, hdt, _⟩ := TupAt.at I hB
  obtain ⟨cls, dd, data, sl⟩ := ob
  simp only at hc hd hdt
  subst hc hd hdt
  have hl2 := r2.length
  have hl1 := r.length
  have hsz : its.toArray.size + its2.toArray.size ≤ sizeLine := by rw [List.size_toArray, List.size_toArray]; omega
  have hlong : ¬ (!its.toArray.isEmpty && Builtin.List.listTooLong (its.toArray.size + its2.toArray.size)) = true := by
    rw [notLongL hsz, Bool.and_false]
    exact Bool.false_ne_true
  refine call_meets F.slot_list_extend ⟨_, e, rfl⟩ F.entry_list_extend (F.args_list_extend_2 _ _) (ext_listT l its.toArray n b its2.toArray n2 sl hlong (by rw [List.size_toArray] at hsz ⊢; omega) (by omega)) ⟨e, e2, ?_⟩
  refine ⟨.non, _, I.lset (its' := its ++ its2) hH e (by simp) (r.append r2) ?_, rfl, q⟩
  rw [List.length_append]
  omega
theorem MtM.or {id : String} {r r' : V → List V → Hp → VK → Prop} (h : MtM X id r) (h' : MtM X id r') : MtM X id fun x xs H Q => r x xs H Q ∨ r' x xs H Q := by
  intro pins s σ H x xs v us Q I rx rv q
  rcases q with q | q
  · exact h pins s σ H x xs v us Q I rx rv q
  · exact h' pins s σ H x xs v us Q I rx rv q
end
end SH
end

section
set_option autoImplicit false
set_option linter.all false
set_option maxRecDepth 100000
/-! Strandhues: values and cells as they stand in the layer's heap. -/
namespace SH
open PySem PySem.Spec PyProof.Rows L2

/-- where the cells stand (none: it is no more one), and lists that are being made -/
structure Io where
  cs : List (Option Addr)
  hid : List Addr
abbrev Io.no (ι : Io) (a : Addr) : Prop := (∀ i : Nat, ι.cs[i]? ≠ some (some a)) ∧ a ∉ ι.hid

mutual
/-- t, as v in the heap H -/
def Rep (K : PySem.W.Frag) (ι : Io) (H : Hp) : T → V → Prop
  | .non, v => v = .non
  | .bl b, v => v = .bl b
  | .int i, v => v = .int i
  | .str s, v => v = .str s
  | .tup xs, v => ∃ a vs, v = .ref a ∧ TupAt K H a vs ∧ xs.length ≤ LINE ∧ Reps K ι H xs vs
  | .lst xs, v => ∃ a vs, v = .ref a ∧ H a = some (.lst vs) ∧ ι.no a ∧ xs.length ≤ LINE ∧ Reps K ι H xs vs
  | .scr ns, v => ∃ a, v = .ref a ∧ ((∃ o, H a = some (.frz o (.lst (ns.map V.int)))) ∨ (H a = some (.lst (ns.map V.int)) ∧ ι.no a) ∨
      ∃ (o : Obj) (its : Array Value) (n : Nat), K.lookup a = some o ∧ o.cls = .type "list" ∧ o.dict = none ∧ o.data = .seq its n ∧ its.size ≤ sizeLine ∧ Vals (ns.map V.int) its.toList) ∧ ns.length ≤ LINE
  | .ref i, v => match ι.cs[i]? with
    | some (some a) => v = .ref a
    | some none => True
    | none => False
  | .fn _, _ => False
def Reps (K : PySem.W.Frag) (ι : Io) (H : Hp) : List T → List V → Prop
  | [], [] => True
  | x :: xs, v :: vs => Rep K ι H x v ∧ Reps K ι H xs vs
  | _, _ => False
end

mutual
/-- all cells within are below n -/
def below (n : Nat) : T → Bool
  | .tup xs => belows n xs
  | .lst xs => belows n xs
  | .ref a => decide (a < n)
  | _ => true
def belows (n : Nat) : List T → Bool
  | [] => true
  | x :: xs => below n x && belows n xs
end

/-- the cells of h stand in H -/
structure HR (K : PySem.W.Frag) (ι : Io) (h : Hs) (H : Hp) : Prop where
  len : ι.cs.length = h.length
  inj : ∀ (i j : Nat) (a : Addr), ι.cs[i]? = some (some a) → ι.cs[j]? = some (some a) → i = j
  live : ∀ (i : Nat) (a : Addr), ι.cs[i]? = some (some a) → ∃ o, H a = some o ∧ Mut (some o) ∧ (∀ φ, o ≠ .ext φ)
  lst : ∀ (i : Nat) (xs : List T), h[i]? = some (.lst xs) → ∃ a vs, ι.cs[i]? = some (some a) ∧ H a = some (.lst vs) ∧ xs.length ≤ LINE ∧ Reps K ι H xs vs ∧ belows i xs = true
  hidT : ∀ b, b ∈ ι.hid → ∃ o, H b = some o ∧ ∀ ps, o ≠ .tbl ps
  off : ∀ (i : Nat) (a : Addr), ι.cs[i]? = some (some a) → a ∉ ι.hid

/-- nothing stands there but a table -/
def Nw (H : Hp) (a : Addr) : Prop := ∀ o, H a = some o → ∃ ps, o = .tbl ps
theorem Nw.none {H : Hp} {a : Addr} (h : H a = none) : Nw H a := fun o e => by rw [h] at e; cases e
theorem Nw.no {H : Hp} {a : Addr} {o : HO} (n : Nw H a) (h : H a = some o) (t : ∀ ps, o ≠ .tbl ps) : False := let ⟨ps, e⟩ := n o h; t ps e
/-- what stays from one state to a later one -/
structure Fx (ι : Io) (H : Hp) (ι' : Io) (H' : Hp) : Prop where
  ext : ∀ (i : Nat) (a : Addr), ι'.cs[i]? = some (some a) → ι.cs[i]? = some (some a) ∨ Nw H a
  old : ∀ (i : Nat) (o : Option Addr), ι.cs[i]? = some o → ι'.cs[i]? = some o ∨ ι'.cs[i]? = some none
  keep : ∀ (b : Addr) (o : HO), H b = some o → (∀ i : Nat, ι.cs[i]? ≠ some (some b)) → (∀ ps, o ≠ .tbl ps) → H' b = some o
  trk : ∀ (b : Addr) (o : HO), H b = some o → (∀ ps, o ≠ .tbl ps) → ∃ o', H' b = some o' ∧ ∀ ps, o' ≠ .tbl ps
  hx : ∀ b, b ∈ ι'.hid → b ∈ ι.hid ∨ Nw H b
structure Fr (ι : Io) (H : Hp) (ι' : Io) (H' : Hp) : Prop extends Fx ι H ι' H' where
  hid : ι'.hid = ι.hid

theorem Fx.free {ι ι' : Io} {H H' : Hp} (f : Fx ι H ι' H') {b : Addr} (h : Nw H' b) : Nw H b := fun o q => by
  by_cases z : ∃ ps, o = .tbl ps
  · exact z
  · obtain ⟨o', e, t⟩ := f.trk b o q (fun ps e => z ⟨ps, e⟩)
    exact (h.no e t).elim
theorem Fx.refl (ι : Io) (H : Hp) : Fx ι H ι H := ⟨fun _ _ h => .inl h, fun _ _ h => .inl h, fun _ _ h _ _ => h, fun _ o h t => ⟨o, h, t⟩, fun _ h => .inl h⟩
theorem Fr.refl (ι : Io) (H : Hp) : Fr ι H ι H := ⟨Fx.refl ι H, rfl⟩
theorem Fx.trans {ι ι1 ι2 : Io} {H H1 H2 : Hp} (f : Fx ι H ι1 H1) (g : Fx ι1 H1 ι2 H2) : Fx ι H ι2 H2 where
  ext := fun i a e => by
    rcases g.ext i a e with h | h
    · exact f.ext i a h
    · exact .inr (f.free h)
  old := fun i o e => by
    rcases f.old i o e with h | h
    · exact g.old i o h
    · rcases g.old i Option.none h with h | h <;> exact .inr h
  keep := fun b o e n t => g.keep b o (f.keep b o e n t) (fun i q => by
    rcases f.ext i b q with z | z
    · exact n i z
    · exact z.no e t) t
  trk := fun b o e t => by
    obtain ⟨o1, e1, t1⟩ := f.trk b o e t
    exact g.trk b o1 e1 t1
  hx := fun b hb => by
    rcases g.hx b hb with h | h
    · exact f.hx b h
    · exact .inr (f.free h)
theorem Fr.trans {ι ι1 ι2 : Io} {H H1 H2 : Hp} (f : Fr ι H ι1 H1) (g : Fr ι1 H1 ι2 H2) : Fr ι H ι2 H2 := ⟨f.toFx.trans g.toFx, g.hid.trans f.hid⟩
/-- a new object -/
theorem Fr.new {ι : Io} {H : Hp} {p : Addr} {o : HO} (h : H p = none) : Fr ι H ι (upd H p o) :=
  ⟨⟨fun _ _ h => .inl h, fun _ _ h => .inl h, fun b u e _ _ => by rw [upd_ne (ne_of_none e h)]; exact e, fun b u e t => ⟨u, by rw [upd_ne (ne_of_none e h)]; exact e, t⟩, fun _ h => .inl h⟩, rfl⟩
/-- a new list that is being made -/
theorem Fx.newHid {ι : Io} {H : Hp} {p : Addr} {o : HO} (h : H p = none) : Fx ι H ⟨ι.cs, ι.hid ++ [p]⟩ (upd H p o) :=
  ⟨fun _ _ h => .inl h, fun _ _ h => .inl h, fun b u e _ _ => by rw [upd_ne (ne_of_none e h)]; exact e, fun b u e t => ⟨u, by rw [upd_ne (ne_of_none e h)]; exact e, t⟩, fun b hb => by
    rcases List.mem_append.mp hb with z | z
    · exact .inl z
    · simp at z; subst z; exact .inr (Nw.none h)⟩
/-- a cell's object changes -/
theorem Fr.put {ι : Io} {H : Hp} {a : Addr} {i : Nat} {o : HO} (h : ι.cs[i]? = some (some a)) (ho : ∀ ps, o ≠ .tbl ps := by intro ps z; cases z) : Fr ι H ι (upd H a o) :=
  ⟨⟨fun _ _ h => .inl h, fun _ _ h => .inl h, fun b u e n _ => by rw [upd_ne (fun z => n i (by rw [z]; exact h))]; exact e, fun b u e t => by
    by_cases z : b = a
    · rw [z]; exact ⟨o, upd_same, ho⟩
    · exact ⟨u, by rw [upd_ne z]; exact e, t⟩, fun _ h => .inl h⟩, rfl⟩

section
variable {K : PySem.W.Frag}
/-- no cell stands at what is not one -/
theorem HR.nocell {ι : Io} {h : Hs} {H : Hp} (r : HR K ι h H) {a : Addr} {o : HO} (e : H a = some o) (n : ¬ Mut (some o)) : ∀ i : Nat, ι.cs[i]? ≠ some (some a) := fun i q => by
  obtain ⟨o', e', m, x⟩ := r.live i a q
  rw [e] at e'; cases e'
  exact n m
theorem TupAt.mono {ι ι' : Io} {h : Hs} {H H' : Hp} (r : HR K ι h H) (f : Fx ι H ι' H') {a : Addr} {vs : List V} (s : TupAt K H a vs) : TupAt K H' a vs := by
  rcases s with ⟨o, s, d⟩ | s
  · exact .inl ⟨o, f.keep a _ s (r.nocell s (fun z => z)) (fun ps z => by cases z), d⟩
  · exact .inr s
mutual
theorem Rep.mono {ι ι' : Io} {h : Hs} {H H' : Hp} (r : HR K ι h H) (f : Fx ι H ι' H') : ∀ (t : T) (v : V), Rep K ι H t v → Rep K ι' H' t v
  | .non, _, q => by simpa only [Rep] using q
  | .bl _, _, q => by simpa only [Rep] using q
  | .int _, _, q => by simpa only [Rep] using q
  | .str _, _, q => by simpa only [Rep] using q
  | .tup xs, v, q => by
    simp only [Rep] at q ⊢
    obtain ⟨a, vs, e, s, l, q⟩ := q
    exact ⟨a, vs, e, TupAt.mono r f s, l, Reps.mono r f xs vs q⟩
  | .lst xs, v, q => by
    simp only [Rep] at q ⊢
    obtain ⟨a, vs, e, s, n, l, q⟩ := q
    refine ⟨a, vs, e, f.keep a _ s n.1 (fun ps z => by cases z), ⟨fun i z => ?_, fun z => ?_⟩, l, Reps.mono r f xs vs q⟩
    · rcases f.ext i a z with y | y
      · exact n.1 i y
      · exact y.no s (fun ps z => by cases z)
    · rcases f.hx a z with y | y
      · exact n.2 y
      · exact y.no s (fun ps z => by cases z)
  | .scr ns, v, q => by
    simp only [Rep] at q ⊢
    obtain ⟨a, e, s, l⟩ := q
    refine ⟨a, e, ?_, l⟩
    rcases s with ⟨o, s⟩ | ⟨s, n⟩ | s
    · exact .inl ⟨o, f.keep a _ s (r.nocell s (fun z => z)) (fun ps z => by cases z)⟩
    · refine .inr (.inl ⟨f.keep a _ s n.1 (fun ps z => by cases z), ⟨fun i z => ?_, fun z => ?_⟩⟩)
      · rcases f.ext i a z with y | y
        · exact n.1 i y
        · exact y.no s (fun ps z => by cases z)
      · rcases f.hx a z with y | y
        · exact n.2 y
        · exact y.no s (fun ps z => by cases z)
    · exact .inr (.inr s)
  | .ref i, v, q => by
    simp only [Rep] at q ⊢
    cases e : ι.cs[i]? with
    | none => rw [e] at q; exact q.elim
    | some o =>
      rw [e] at q
      rcases f.old i o e with z | z
      · rw [z]; exact q
      · rw [z]; trivial
  | .fn _, _, q => by simp only [Rep] at q
theorem Reps.mono {ι ι' : Io} {h : Hs} {H H' : Hp} (r : HR K ι h H) (f : Fx ι H ι' H') : ∀ (ts : List T) (vs : List V), Reps K ι H ts vs → Reps K ι' H' ts vs
  | [], [], _ => by simp only [Reps]
  | x :: xs, v :: vs, q => by
    simp only [Reps] at q ⊢
    exact ⟨Rep.mono r f x v q.1, Reps.mono r f xs vs q.2⟩
  | [], _ :: _, q => by simp only [Reps] at q
  | _ :: _, [], q => by simp only [Reps] at q
end
mutual
/-- the same heap: fewer addresses are barred, the cells' places are kept -/
theorem Rep.bar {ι ι' : Io} {H : Hp} (f : ∀ a, ι.no a → ι'.no a) (g : ∀ (i : Nat) (o : Option Addr), ι.cs[i]? = some o → ι'.cs[i]? = some o ∨ ι'.cs[i]? = some none) : ∀ (t : T) (v : V), Rep K ι H t v → Rep K ι' H t v
  | .non, _, q => by simpa only [Rep] using q
  | .bl _, _, q => by simpa only [Rep] using q
  | .int _, _, q => by simpa only [Rep] using q
  | .str _, _, q => by simpa only [Rep] using q
  | .tup xs, v, q => by
    simp only [Rep] at q ⊢
    obtain ⟨a, vs, e, s, l, q⟩ := q
    exact ⟨a, vs, e, s, l, Reps.bar f g xs vs q⟩
  | .lst xs, v, q => by
    simp only [Rep] at q ⊢
    obtain ⟨a, vs, e, s, n, l, q⟩ := q
    exact ⟨a, vs, e, s, f a n, l, Reps.bar f g xs vs q⟩
  | .scr ns, v, q => by
    simp only [Rep] at q ⊢
    obtain ⟨a, e, s, l⟩ := q
    exact ⟨a, e, s.imp id (Or.imp (fun ⟨s, n⟩ => ⟨s, f a n⟩) id), l⟩
  | .ref i, v, q => by
    simp only [Rep] at q ⊢
    cases e : ι.cs[i]? with
    | none => rw [e] at q; exact q.elim
    | some o =>
      rw [e] at q
      rcases g i o e with z | z
      · rw [z]; exact q
      · rw [z]; trivial
  | .fn _, _, q => by simp only [Rep] at q
theorem Reps.bar {ι ι' : Io} {H : Hp} (f : ∀ a, ι.no a → ι'.no a) (g : ∀ (i : Nat) (o : Option Addr), ι.cs[i]? = some o → ι'.cs[i]? = some o ∨ ι'.cs[i]? = some none) : ∀ (ts : List T) (vs : List V), Reps K ι H ts vs → Reps K ι' H ts vs
  | [], [], _ => by simp only [Reps]
  | x :: xs, v :: vs, q => by
    simp only [Reps] at q ⊢
    exact ⟨Rep.bar f g x v q.1, Reps.bar f g xs vs q.2⟩
  | [], _ :: _, q => by simp only [Reps] at q
  | _ :: _, [], q => by simp only [Reps] at q
end
theorem Reps.length {ι : Io} {H : Hp} : ∀ {ts : List T} {vs : List V}, Reps K ι H ts vs → ts.length = vs.length
  | [], [], _ => rfl
  | x :: xs, v :: vs, q => by
    simp only [Reps] at q
    simp [Reps.length q.2]
  | [], _ :: _, q => by simp only [Reps] at q
  | _ :: _, [], q => by simp only [Reps] at q
theorem Reps.get {ι : Io} {H : Hp} : ∀ {ts : List T} {vs : List V} {i : Nat} {t : T}, Reps K ι H ts vs → ts[i]? = some t → ∃ v, vs[i]? = some v ∧ Rep K ι H t v
  | [], _, _, _, _, e => by simp at e
  | x :: xs, v :: vs, 0, t, q, e => by
    simp only [Reps] at q
    simp at e; subst e
    exact ⟨v, by simp, q.1⟩
  | x :: xs, v :: vs, i + 1, t, q, e => by
    simp only [Reps] at q
    obtain ⟨w, h1, h2⟩ := Reps.get (i := i) q.2 (by simpa using e)
    exact ⟨w, by simpa using h1, h2⟩
  | _ :: _, [], _, _, q, _ => by simp only [Reps] at q
theorem Reps.append {ι : Io} {H : Hp} : ∀ {ts us : List T} {vs ws : List V}, Reps K ι H ts vs → Reps K ι H us ws → Reps K ι H (ts ++ us) (vs ++ ws)
  | [], _, [], _, _, q => q
  | x :: xs, us, v :: vs, ws, p, q => by
    simp only [Reps] at p
    simp only [List.cons_append, Reps]
    exact ⟨p.1, Reps.append p.2 q⟩
  | [], _, _ :: _, _, p, _ => by simp only [Reps] at p
  | _ :: _, _, [], _, p, _ => by simp only [Reps] at p
theorem Reps.take {ι : Io} {H : Hp} : ∀ {ts : List T} {vs : List V} (n : Nat), Reps K ι H ts vs → Reps K ι H (ts.take n) (vs.take n)
  | _, _, 0, _ => by simp [Reps]
  | [], [], n + 1, _ => by simp [Reps]
  | x :: xs, v :: vs, n + 1, p => by
    simp only [Reps] at p
    simp only [List.take_succ_cons, Reps]
    exact ⟨p.1, Reps.take n p.2⟩
  | [], _ :: _, _ + 1, p => by simp only [Reps] at p
  | _ :: _, [], _ + 1, p => by simp only [Reps] at p
theorem Reps.drop {ι : Io} {H : Hp} : ∀ {ts : List T} {vs : List V} (n : Nat), Reps K ι H ts vs → Reps K ι H (ts.drop n) (vs.drop n)
  | _, _, 0, q => by simpa using q
  | [], [], n + 1, _ => by simp [Reps]
  | x :: xs, v :: vs, n + 1, p => by
    simp only [Reps] at p
    simp only [List.drop_succ_cons]
    exact Reps.drop n p.2
  | [], _ :: _, _ + 1, p => by simp only [Reps] at p
  | _ :: _, [], _ + 1, p => by simp only [Reps] at p
theorem Reps.set {ι : Io} {H : Hp} {t : T} {v : V} (r : Rep K ι H t v) : ∀ {ts : List T} {vs : List V} (n : Nat), Reps K ι H ts vs → Reps K ι H (ts.set n t) (vs.set n v)
  | [], [], n, _ => by simp [Reps]
  | x :: xs, w :: vs, 0, p => by
    simp only [Reps] at p
    simp only [List.set_cons_zero, Reps]
    exact ⟨r, p.2⟩
  | x :: xs, w :: vs, n + 1, p => by
    simp only [Reps] at p
    simp only [List.set_cons_succ, Reps]
    exact ⟨p.1, Reps.set r n p.2⟩
  | [], _ :: _, _, p => by simp only [Reps] at p
  | _ :: _, [], _, p => by simp only [Reps] at p
theorem Reps.reverse {ι : Io} {H : Hp} : ∀ {ts : List T} {vs : List V}, Reps K ι H ts vs → Reps K ι H ts.reverse vs.reverse
  | [], [], _ => by simp [Reps]
  | x :: xs, v :: vs, p => by
    simp only [Reps] at p
    simp only [List.reverse_cons]
    exact Reps.append (Reps.reverse p.2) (by simp only [Reps]; exact ⟨p.1, trivial⟩)
  | [], _ :: _, p => by simp only [Reps] at p
  | _ :: _, [], p => by simp only [Reps] at p
theorem Reps.rep {ι : Io} {H : Hp} {ts : List T} {vs : List V} (p : Reps K ι H ts vs) : ∀ n : Nat, Reps K ι H (List.replicate n ts).flatten (List.replicate n vs).flatten
  | 0 => by simp [Reps]
  | n + 1 => by
    simp only [List.replicate_succ, List.flatten_cons]
    exact Reps.append p (Reps.rep p n)
theorem Reps.ints {ι : Io} {H : Hp} : ∀ {ns : List Int} {vs : List V}, Reps K ι H (ns.map T.int) vs → vs = ns.map V.int
  | [], [], _ => rfl
  | n :: ns, v :: vs, p => by
    simp only [List.map_cons, Reps, Rep] at p
    obtain ⟨rfl, p⟩ := p
    rw [Reps.ints p]; rfl
  | [], _ :: _, p => by simp only [List.map_nil, Reps] at p
  | _ :: _, [], p => by simp only [List.map_cons, Reps] at p
theorem Reps.of_ints {ι : Io} {H : Hp} : ∀ ns : List Int, Reps K ι H (ns.map T.int) (ns.map V.int)
  | [] => by simp only [List.map_nil, Reps]
  | n :: ns => by
    simp only [List.map_cons, Reps, Rep]
    exact ⟨trivial, Reps.of_ints ns⟩
theorem intsOf_map : ∀ {ts : List T} {ns : List Int}, intsOf ts = some ns → ts = ns.map T.int
  | [], ns, e => by
    simp only [intsOf, Option.some.injEq] at e
    subst e; rfl
  | .int i :: r, ns, e => by
    simp only [intsOf] at e
    split at e
    · rename_i ms hm
      cases e
      rw [intsOf_map hm]; rfl
    · cases e
  | .non :: _, _, e => by simp [intsOf] at e
  | .bl _ :: _, _, e => by simp [intsOf] at e
  | .str _ :: _, _, e => by simp [intsOf] at e
  | .tup _ :: _, _, e => by simp [intsOf] at e
  | .lst _ :: _, _, e => by simp [intsOf] at e
  | .scr _ :: _, _, e => by simp [intsOf] at e
  | .ref _ :: _, _, e => by simp [intsOf] at e
  | .fn _ :: _, _, e => by simp [intsOf] at e
theorem blsOf_map : ∀ {ts : List T} {ns : List Bool}, blsOf ts = some ns → ts = ns.map T.bl
  | [], ns, e => by
    simp only [blsOf, Option.some.injEq] at e
    subst e; rfl
  | .bl i :: r, ns, e => by
    simp only [blsOf] at e
    split at e
    · rename_i ms hm
      cases e
      rw [blsOf_map hm]; rfl
    · cases e
  | .non :: _, _, e => by simp [blsOf] at e
  | .int _ :: _, _, e => by simp [blsOf] at e
  | .str _ :: _, _, e => by simp [blsOf] at e
  | .tup _ :: _, _, e => by simp [blsOf] at e
  | .lst _ :: _, _, e => by simp [blsOf] at e
  | .scr _ :: _, _, e => by simp [blsOf] at e
  | .ref _ :: _, _, e => by simp [blsOf] at e
  | .fn _ :: _, _, e => by simp [blsOf] at e
theorem Reps.bls {ι : Io} {H : Hp} : ∀ {ns : List Bool} {vs : List V}, Reps K ι H (ns.map T.bl) vs → vs = ns.map V.bl
  | [], [], _ => rfl
  | n :: ns, v :: vs, p => by
    simp only [List.map_cons, Reps, Rep] at p
    obtain ⟨rfl, p⟩ := p
    rw [Reps.bls p]; rfl
  | [], _ :: _, p => by simp only [List.map_nil, Reps] at p
  | _ :: _, [], p => by simp only [List.map_cons, Reps] at p

/-! ### cells within -/
mutual
theorem below_of {ι : Io} {H : Hp} : ∀ (t : T) (v : V), Rep K ι H t v → below ι.cs.length t = true
  | .non, _, _ => by simp only [below]
  | .bl _, _, _ => by simp only [below]
  | .int _, _, _ => by simp only [below]
  | .str _, _, _ => by simp only [below]
  | .scr _, _, _ => by simp only [below]
  | .fn _, _, _ => by simp only [below]
  | .tup xs, v, q => by
    simp only [Rep] at q
    obtain ⟨a, vs, _, _, _, q⟩ := q
    simp only [below]
    exact belows_of xs vs q
  | .lst xs, v, q => by
    simp only [Rep] at q
    obtain ⟨a, vs, _, _, _, _, q⟩ := q
    simp only [below]
    exact belows_of xs vs q
  | .ref i, v, q => by
    simp only [Rep] at q
    simp only [below, decide_eq_true_eq]
    cases e : ι.cs[i]? with
    | none => rw [e] at q; exact q.elim
    | some o => exact (List.getElem?_eq_some_iff.mp e).1
theorem belows_of {ι : Io} {H : Hp} : ∀ (ts : List T) (vs : List V), Reps K ι H ts vs → belows ι.cs.length ts = true
  | [], _, _ => by simp only [belows]
  | x :: xs, v :: vs, q => by
    simp only [Reps] at q
    simp only [belows, Bool.and_eq_true]
    exact ⟨below_of x v q.1, belows_of xs vs q.2⟩
  | _ :: _, [], q => by simp only [Reps] at q
end
mutual
theorem below_okD : ∀ (k : Nat) (t : T) (n : Nat), okD k t = true → below n t = true
  | _, .non, _, _ => by simp only [below]
  | _, .bl _, _, _ => by simp only [below]
  | _, .int _, _, _ => by simp only [below]
  | _, .str _, _, _ => by simp only [below]
  | 0, .tup _, _, h => by simp [okD] at h
  | k + 1, .tup xs, n, h => by
    simp only [okD] at h
    simp only [below]
    exact belows_okD k xs n h
  | 0, .lst _, _, h => by simp [okD] at h
  | k + 1, .lst xs, n, h => by
    simp only [okD] at h
    simp only [below]
    exact belows_okD k xs n h
  | _, .scr _, _, h => by simp [okD] at h
  | _, .ref _, _, h => by simp [okD] at h
  | _, .fn _, _, h => by simp [okD] at h
theorem belows_okD : ∀ (k : Nat) (ts : List T) (n : Nat), okDs k ts = true → belows n ts = true
  | _, [], _, _ => by simp only [belows]
  | k, x :: xs, n, h => by
    simp only [okDs, Bool.and_eq_true] at h
    simp only [belows, Bool.and_eq_true]
    exact ⟨below_okD k x n h.1, belows_okD k xs n h.2⟩
end
/-- the first n cells alone -/
abbrev Io.cut (ι : Io) (n : Nat) : Io := ⟨ι.cs.take n, ι.hid⟩
mutual
/-- values whose cells are below n need no more than the first n places -/
theorem Rep.cut {ι : Io} {H : Hp} {n : Nat} : ∀ (t : T) (v : V), below n t = true → Rep K ι H t v → Rep K (ι.cut n) H t v
  | .non, _, _, q => by simpa only [Rep] using q
  | .bl _, _, _, q => by simpa only [Rep] using q
  | .int _, _, _, q => by simpa only [Rep] using q
  | .str _, _, _, q => by simpa only [Rep] using q
  | .tup xs, v, b, q => by
    simp only [Rep] at q ⊢
    simp only [below] at b
    obtain ⟨a, vs, e, s, l, q⟩ := q
    exact ⟨a, vs, e, s, l, Reps.cut xs vs b q⟩
  | .lst xs, v, b, q => by
    simp only [Rep] at q ⊢
    simp only [below] at b
    obtain ⟨a, vs, e, s, m, l, q⟩ := q
    refine ⟨a, vs, e, s, ⟨fun i z => m.1 i ?_, m.2⟩, l, Reps.cut xs vs b q⟩
    rw [List.getElem?_take] at z
    split at z
    · exact z
    · cases z
  | .scr ns, v, _, q => by
    simp only [Rep] at q ⊢
    obtain ⟨a, e, s, l⟩ := q
    refine ⟨a, e, s.imp id (Or.imp (fun ⟨s, m⟩ => ⟨s, ⟨fun i z => m.1 i ?_, m.2⟩⟩) id), l⟩
    rw [List.getElem?_take] at z
    split at z
    · exact z
    · cases z
  | .ref i, v, b, q => by
    simp only [Rep] at q ⊢
    simp only [below, decide_eq_true_eq] at b
    rw [List.getElem?_take_of_lt b]
    exact q
  | .fn _, _, _, q => by simp only [Rep] at q
theorem Reps.cut {ι : Io} {H : Hp} {n : Nat} : ∀ (ts : List T) (vs : List V), belows n ts = true → Reps K ι H ts vs → Reps K (ι.cut n) H ts vs
  | [], [], _, _ => by simp only [Reps]
  | x :: xs, v :: vs, b, q => by
    simp only [Reps] at q ⊢
    simp only [belows, Bool.and_eq_true] at b
    exact ⟨Rep.cut x v b.1 q.1, Reps.cut xs vs b.2 q.2⟩
  | [], _ :: _, _, q => by simp only [Reps] at q
  | _ :: _, [], _, q => by simp only [Reps] at q
end
theorem belows_le {n m : Nat} (h : n ≤ m) : ∀ ts : List T, belows n ts = true → belows m ts = true := by
  have key : ∀ (k : Nat), (∀ t : T, sizeOf t < k → below n t = true → below m t = true) ∧ (∀ ts : List T, sizeOf ts < k → belows n ts = true → belows m ts = true) := by
    intro k
    induction k with
    | zero => exact ⟨fun _ h => absurd h (Nat.not_lt_zero _), fun _ h => absurd h (Nat.not_lt_zero _)⟩
    | succ k ih =>
      refine ⟨fun t ht b => ?_, fun ts ht b => ?_⟩
      · cases t with
        | tup xs => simp only [below] at b ⊢; exact ih.2 xs (by simp at ht; omega) b
        | lst xs => simp only [below] at b ⊢; exact ih.2 xs (by simp at ht; omega) b
        | ref a => simp only [below, decide_eq_true_eq] at b ⊢; omega
        | _ => simp only [below]
      · cases ts with
        | nil => simp only [belows]
        | cons x xs =>
          simp only [belows, Bool.and_eq_true] at b ⊢
          exact ⟨ih.1 x (by simp at ht; omega) b.1, ih.2 xs (by simp at ht; omega) b.2⟩
  exact fun ts b => (key (sizeOf ts + 1)).2 ts (Nat.lt_succ_self _) b

/-! ### the world's steps -/
/-- the heap's tracked objects but the cells stay: HR at the same cells -/
theorem HR.step {ι ι' : Io} {h : Hs} {H H' : Hp} (r : HR K ι h H) (f : Fx ι H ι' H') (hc : ι'.cs = ι.cs) (k : ∀ (i : Nat) (a : Addr) (o : HO), ι.cs[i]? = some (some a) → H a = some o → H' a = some o)
    (hd : ∀ b, b ∈ ι'.hid → ∃ o, H' b = some o ∧ ∀ ps, o ≠ .tbl ps) (ho : ∀ (i : Nat) (a : Addr), ι.cs[i]? = some (some a) → a ∉ ι'.hid) : HR K ι' h H' where
  hidT := hd
  off := by rw [hc]; exact ho
  len := by rw [hc]; exact r.len
  inj := by rw [hc]; exact r.inj
  live := fun i a e => by
    rw [hc] at e
    obtain ⟨u, e1, m⟩ := r.live i a e
    exact ⟨u, k i a u e e1, m⟩
  lst := fun i xs e => by
    obtain ⟨a, vs, e1, e2, l, q, b⟩ := r.lst i xs e
    exact ⟨a, vs, by rw [hc]; exact e1, k i a _ e1 e2, l, Reps.mono r f xs vs q, b⟩
theorem HR.new {ι : Io} {h : Hs} {H : Hp} {p : Addr} {o : HO} (r : HR K ι h H) (hp : H p = none) : HR K ι h (upd H p o) :=
  r.step (Fr.new hp).toFx rfl (fun i a u _ e => by rw [upd_ne (ne_of_none e hp)]; exact e) (fun b hb => let ⟨o, e, t⟩ := r.hidT b hb; ⟨o, by rw [upd_ne (ne_of_none e hp)]; exact e, t⟩) r.off
theorem HR.newHid {ι : Io} {h : Hs} {H : Hp} {p : Addr} {o : HO} (r : HR K ι h H) (hp : H p = none) (ho : ∀ ps, o ≠ .tbl ps) : HR K ⟨ι.cs, ι.hid ++ [p]⟩ h (upd H p o) :=
  r.step (Fx.newHid hp) rfl (fun i a u _ e => by rw [upd_ne (ne_of_none e hp)]; exact e) (fun b hb => by
    rcases List.mem_append.mp hb with z | z
    · obtain ⟨o, e, t⟩ := r.hidT b z
      exact ⟨o, by rw [upd_ne (ne_of_none e hp)]; exact e, t⟩
    · simp at z; subst z; exact ⟨_, upd_same, ho⟩) fun i a e z => by
    rcases List.mem_append.mp z with z | z
    · exact r.off i a e z
    · simp at z; subst z
      obtain ⟨o, e1, _⟩ := r.live i a e
      rw [hp] at e1; cases e1
/-- a list that was being made becomes a value, becomes a cell -/
theorem HR.show {ι : Io} {hs : List Addr} {h : Hs} {H : Hp} {p : Addr} (r : HR K ⟨ι.cs, hs ++ [p]⟩ h H) : HR K ⟨ι.cs, hs⟩ h H where
  hidT := fun b hb => r.hidT b (List.mem_append_left _ hb)
  off := fun i a e z => r.off i a e (List.mem_append_left _ z)
  len := r.len
  inj := r.inj
  live := r.live
  lst := fun i xs e => by
    obtain ⟨a, vs, e1, e2, l, q, b⟩ := r.lst i xs e
    exact ⟨a, vs, e1, e2, l, Reps.bar (ι := ⟨ι.cs, hs ++ [p]⟩) (ι' := ⟨ι.cs, hs⟩) (fun a n => ⟨n.1, fun z => n.2 (List.mem_append_left _ z)⟩) (fun i o z => .inl z) xs vs q, b⟩
theorem push_at {cs : List (Option Addr)} {p : Addr} {i : Nat} {o : Option Addr} (z : (cs ++ [some p])[i]? = some o) : (cs[i]? = some o ∧ i < cs.length) ∨ (i = cs.length ∧ o = some p) := by
  by_cases hi : i < cs.length
  · rw [List.getElem?_append_left hi] at z
    exact .inl ⟨z, hi⟩
  · rw [List.getElem?_append_right (by omega)] at z
    have h0 : i - cs.length = 0 := by
      cases q0 : i - cs.length with
      | zero => rfl
      | succ k => rw [q0] at z; simp at z
    rw [h0] at z
    simp at z
    exact .inr ⟨by omega, z.symm⟩
theorem none_push {cs : List (Option Addr)} {hs : List Addr} {p a : Addr} (n : Io.no ⟨cs, hs ++ [p]⟩ a) : Io.no ⟨cs ++ [some p], hs⟩ a := by
  refine ⟨fun i z => ?_, fun z => n.2 (List.mem_append_left _ z)⟩
  rcases push_at z with ⟨z, _⟩ | ⟨_, z⟩
  · exact n.1 i z
  · cases z
    exact n.2 (by simp)
theorem HR.push {cs : List (Option Addr)} {hs : List Addr} {h : Hs} {H : Hp} {p : Addr} {xs : List T} {vs : List V} (r : HR K ⟨cs, hs ++ [p]⟩ h H) (e : H p = some (.lst vs)) (n : ∀ i : Nat, cs[i]? ≠ some (some p)) (nh : p ∉ hs) (l : xs.length ≤ LINE)
    (q : Reps K ⟨cs, hs ++ [p]⟩ H xs vs) : HR K ⟨cs ++ [some p], hs⟩ (h ++ [.lst xs]) H := by
  have bar : ∀ (ts : List T) (us : List V), Reps K ⟨cs, hs ++ [p]⟩ H ts us → Reps K ⟨cs ++ [some p], hs⟩ H ts us := fun ts us => Reps.bar (fun a n => none_push n) (fun i o z => .inl (by
    have hi := (List.getElem?_eq_some_iff.mp z).1
    show (cs ++ [some p])[i]? = some o
    rw [List.getElem?_append_left hi]; exact z)) ts us
  have hl : cs.length = h.length := r.len
  refine ⟨by simp [hl], fun i j a e1 e2 => ?_, fun i a e1 => ?_, fun i ys e1 => ?_, fun b hb => r.hidT b (List.mem_append_left _ hb), fun i a e1 z => ?_⟩
  · rcases push_at e1 with ⟨z1, _⟩ | ⟨z1, y1⟩ <;> rcases push_at e2 with ⟨z2, _⟩ | ⟨z2, y2⟩
    · exact r.inj i j a z1 z2
    · cases y2; exact absurd z1 (n i)
    · cases y1; exact absurd z2 (n j)
    · omega
  · rcases push_at e1 with ⟨z1, _⟩ | ⟨z1, y1⟩
    · exact r.live i a z1
    · cases y1
      exact ⟨_, e, trivial, fun φ z => by cases z⟩
  · by_cases hi : i < h.length
    · rw [List.getElem?_append_left hi] at e1
      obtain ⟨a, us, f1, f2, l2, q2, b2⟩ := r.lst i ys e1
      refine ⟨a, us, ?_, f2, l2, bar _ _ q2, b2⟩
      show (cs ++ [some p])[i]? = _
      rw [List.getElem?_append_left (by omega)]
      exact f1
    · rw [List.getElem?_append_right (by omega)] at e1
      have h0 : i - h.length = 0 := by
        cases q0 : i - h.length with
        | zero => rfl
        | succ k => rw [q0] at e1; simp at e1
      rw [h0] at e1
      simp at e1
      subst e1
      have hi' : i = cs.length := by omega
      refine ⟨p, vs, ?_, e, l, bar _ _ q, ?_⟩
      · show (cs ++ [some p])[i]? = _
        rw [hi', List.getElem?_append_right (Nat.le_refl _)]
        simp
      · have := belows_of _ _ q
        rw [hi']; exact this
  · rcases push_at e1 with ⟨z1, _⟩ | ⟨_, z1⟩
    · exact r.off i a z1 (List.mem_append_left _ z)
    · cases z1; exact nh z
/-- a cell's list changes -/
theorem HR.put {ι : Io} {h : Hs} {H : Hp} {i : Nat} {a : Addr} {xs ys : List T} {vs ws : List V} (r : HR K ι h H) (e : h[i]? = some (.lst xs)) (ea : ι.cs[i]? = some (some a)) (l : ys.length ≤ LINE) (q : Reps K ι H ys ws) (b : belows i ys = true) :
    HR K ι (h.set i (.lst ys)) (upd H a (.lst ws)) where
  hidT := fun b hb => by
    by_cases z : b = a
    · rw [z]; exact ⟨_, upd_same, fun ps z => by cases z⟩
    · obtain ⟨o, e1, t⟩ := r.hidT b hb
      exact ⟨o, by rw [upd_ne z]; exact e1, t⟩
  len := by rw [List.length_set]; exact r.len
  inj := r.inj
  off := r.off
  live := fun j c e1 => by
    by_cases hc : c = a
    · subst hc; exact ⟨_, upd_same, trivial, fun φ z => by cases z⟩
    · obtain ⟨o, e2, m⟩ := r.live j c e1
      exact ⟨o, by rw [upd_ne hc]; exact e2, m⟩
  lst := fun j zs e1 => by
    have f := Fr.put (ι := ι) (H := H) (o := .lst ws) ea
    by_cases hj : j = i
    · subst hj
      have hi := (List.getElem?_eq_some_iff.mp e).1
      rw [List.getElem?_set_self hi] at e1
      cases e1
      exact ⟨a, ws, ea, upd_same, l, Reps.mono r f.toFx _ _ q, b⟩
    · rw [List.getElem?_set_ne (Ne.symm hj)] at e1
      obtain ⟨c, us, f1, f2, l2, q2, b2⟩ := r.lst j zs e1
      refine ⟨c, us, f1, ?_, l2, Reps.mono r f.toFx _ _ q2, b2⟩
      rw [upd_ne]
      · exact f2
      · intro z; subst z; exact hj (r.inj j i c f1 ea)
/-- a cell is no more one -/
abbrev Io.kill (ι : Io) (i : Nat) : Io := ⟨ι.cs.set i none, ι.hid⟩
theorem kill_at {cs : List (Option Addr)} {i j : Nat} {o : Option Addr} (z : (cs.set i none)[j]? = some o) : cs[j]? = some o ∧ j ≠ i ∨ (j = i ∧ o = none) := by
  by_cases hj : j = i
  · subst hj
    rw [List.getElem?_set] at z
    simp at z
    exact .inr ⟨rfl, z.2.symm⟩
  · rw [List.getElem?_set_ne (Ne.symm hj)] at z
    exact .inl ⟨z, hj⟩
theorem none_kill {ι : Io} {i : Nat} {a : Addr} (n : ι.no a) : (ι.kill i).no a := by
  refine ⟨fun j z => ?_, n.2⟩
  rcases kill_at z with ⟨z, _⟩ | ⟨_, z⟩
  · exact n.1 j z
  · cases z
theorem old_kill {ι : Io} {i : Nat} (j : Nat) (o : Option Addr) (z : ι.cs[j]? = some o) : (ι.kill i).cs[j]? = some o ∨ (ι.kill i).cs[j]? = some none := by
  by_cases hj : j = i
  · subst hj
    have hi := (List.getElem?_eq_some_iff.mp z).1
    exact .inr (by show (ι.cs.set j none)[j]? = _; rw [List.getElem?_set_self hi])
  · exact .inl (by show (ι.cs.set i none)[j]? = _; rw [List.getElem?_set_ne (Ne.symm hj)]; exact z)
theorem Fr.kill {ι : Io} {H : Hp} (i : Nat) : Fr ι H (ι.kill i) H :=
  ⟨⟨fun j a z => (kill_at z).elim (fun y => .inl y.1) (fun y => by cases y.2), old_kill, fun _ _ h _ _ => h, fun _ o h t => ⟨o, h, t⟩, fun _ h => .inl h⟩, rfl⟩
theorem HR.kill {ι : Io} {h : Hs} {H : Hp} {i : Nat} (r : HR K ι h H) : HR K (ι.kill i) (h.set i .dead) H where
  hidT := r.hidT
  off := fun j a e1 => by
    rcases kill_at e1 with ⟨z1, _⟩ | ⟨_, z1⟩
    · exact r.off j a z1
    · cases z1
  len := by simp [r.len]
  inj := fun j k a e1 e2 => by
    rcases kill_at e1 with ⟨z1, _⟩ | ⟨_, z1⟩
    · rcases kill_at e2 with ⟨z2, _⟩ | ⟨_, z2⟩
      · exact r.inj j k a z1 z2
      · cases z2
    · cases z1
  live := fun j a e1 => by
    rcases kill_at e1 with ⟨z1, _⟩ | ⟨_, z1⟩
    · exact r.live j a z1
    · cases z1
  lst := fun j xs e1 => by
    by_cases hj : j = i
    · subst hj
      rw [List.getElem?_set] at e1
      simp at e1
    · rw [List.getElem?_set_ne (Ne.symm hj)] at e1
      obtain ⟨a, vs, f1, f2, l, q, b⟩ := r.lst j xs e1
      refine ⟨a, vs, ?_, f2, l, Reps.bar (fun a n => none_kill n) old_kill _ _ q, b⟩
      show (ι.cs.set i none)[j]? = _
      rw [List.getElem?_set_ne (Ne.symm hj)]; exact f1
/-- the first n cells alone -/
theorem HR.cut {ι : Io} {h : Hs} {H : Hp} (n : Nat) (r : HR K ι h H) : HR K (ι.cut n) (h.take n) H where
  hidT := r.hidT
  off := fun i a e1 => by
    have e1 : (ι.cs.take n)[i]? = some (some a) := e1
    rw [List.getElem?_take] at e1
    split at e1
    · exact r.off i a e1
    · cases e1
  len := by simp [r.len]
  inj := fun i j a e1 e2 => by
    have e1 : (ι.cs.take n)[i]? = some (some a) := e1
    have e2 : (ι.cs.take n)[j]? = some (some a) := e2
    rw [List.getElem?_take] at e1 e2
    split at e1
    · split at e2
      · exact r.inj i j a e1 e2
      · cases e2
    · cases e1
  live := fun i a e1 => by
    have e1 : (ι.cs.take n)[i]? = some (some a) := e1
    rw [List.getElem?_take] at e1
    split at e1
    · exact r.live i a e1
    · cases e1
  lst := fun i xs e1 => by
    rw [List.getElem?_take] at e1
    split at e1
    · rename_i hi
      obtain ⟨a, vs, f1, f2, l, q, b⟩ := r.lst i xs e1
      refine ⟨a, vs, ?_, f2, l, Reps.cut _ _ (belows_le (by omega) xs b) q, b⟩
      show (ι.cs.take n)[i]? = _
      rw [List.getElem?_take_of_lt hi]; exact f1
    · cases e1
end
end SH
end

section
set_option autoImplicit false
set_option linter.all false
set_option maxRecDepth 100000
/-! Strandhues: readings by the interpreter; one rule an expression. -/
namespace SH
open PySem PySem.Spec PyProof.Rows L2

/-- what a whole text has: defs, constants, exception classes (name, field, class), tables of code objects, code objects (code, table, name), calls by keywords (def, places, names, order) -/
structure Gc where
  Φ : Prog
  w : Nat
  glob : List (Str × T)
  exn : List (Str × Str)
  kw : List (Nat × Nat × List Str × List Nat)
/-- the same, and where its classes and tables stand -/
structure Ga extends Gc where
  ca : Nat → Addr
  Tb : List (Addr × Str)
def Ga.excAt (Γ : Ga) (c : Nat) : Option (Str × Str × Addr) := match Γ.exn[c]? with
  | some p => some (p.1, p.2, Γ.ca c)
  | none => none
abbrev Ga.call (Γ : Ga) (n : Nat) : Calls := callN Γ.Φ Γ.w n

structure WS (Γ : Ga) (K : PySem.W.Frag) (ι : Io) (h : Hs) (H : Hp) : Prop where
  hr : HR K ι h H
  tb : LamX.Tabs Γ.Tb H
def ExR (Γ : Ga) (K : PySem.W.Frag) (c : Nat) (t : T) (ι : Io) (H : Hp) (cls : Value) (d : Option Addr) : Prop :=
  ∃ (nm f : Str) (C dx : Addr) (v : V), Γ.excAt c = some (nm, f, C) ∧ cls = .ref C ∧ d = some dx ∧ H dx = some (.xd [(f, v)]) ∧ Rep K ι H t v
abbrev EnvR (K : PySem.W.Frag) (ι : Io) (H : Hp) (σt : Env) (σ : L2.St) : Prop := σt.length = σ.length ∧ ∀ (i : Nat) (t : T), σt[i]? = some (some t) → ∃ v, σ[i]? = some (some v) ∧ Rep K ι H t v

/-- what is wanted behind an outcome that began in the world (ι, H) -/
def PostG (Γ : Ga) (K : PySem.W.Frag) (E : XK) (ι : Io) (H : Hp) {α β : Type} (ρ : Io → Hp → α → β → Prop) (r : R α) (Q : β → Hp → Prop) : Prop := match r with
  | .ok t h' => ∀ (ι' : Io) (H' : Hp) (v : β), WS Γ K ι' h' H' → Fr ι H ι' H' → ρ ι' H' t v → Q v H'
  | .ex c a h' => ∀ (ι' : Io) (H' : Hp) (cls : Value) (d : Option Addr), WS Γ K ι' h' H' → Fr ι H ι' H' → ExR Γ K c a ι' H' cls d → E cls d H'
  | .bad => False
def tG (Γ : Ga) (K : PySem.W.Frag) (E : XK) {α β : Type} (ρ : Io → Hp → α → β → Prop) (r : Env → Hs → R α) : L2.St → Hp → (β → Hp → Prop) → Prop := fun σ H Q =>
  ∃ ι σt h, WS Γ K ι h H ∧ EnvR K ι H σt σ ∧ PostG Γ K E ι H ρ (r σt h) Q
abbrev tE (Γ : Ga) (K : PySem.W.Frag) (E : XK) (r : Env → Hs → R T) : TE := tG Γ K E (Rep K) r
abbrev tA (Γ : Ga) (K : PySem.W.Frag) (E : XK) (r : Env → Hs → R (List T)) : TA := tG Γ K E (Reps K) r
abbrev same {α : Type} : Io → Hp → α → α → Prop := fun _ _ a b => b = a
abbrev tT (Γ : Ga) (K : PySem.W.Frag) (E : XK) (r : Env → Hs → R Bool) : TT := tG Γ K E same r
/-- a test by its value -/
abbrev tst (r : Env → Hs → R T) : Env → Hs → R Bool := fun σ h => asB (r σ h) fun b h => .ok b h

section
variable {Γ : Ga} {K : PySem.W.Frag} {E : XK} {ι ι1 : Io} {H H1 : Hp} {α β γ δ : Type}
theorem PostG.imp {ρ ρ' : Io → Hp → α → β → Prop} {r : R α} {Q Q' : β → Hp → Prop} (p : PostG Γ K E ι H ρ r Q) (hρ : ∀ ι' H' t v, ρ' ι' H' t v → ρ ι' H' t v) (hQ : ∀ v H', Q v H' → Q' v H') : PostG Γ K E ι H ρ' r Q' := by
  cases r with
  | ok t h => exact fun ι' H' v w f q => hQ _ _ (p ι' H' v w f (hρ _ _ _ _ q))
  | ex c a h => exact p
  | bad => exact p
theorem PostG.step {ρ : Io → Hp → α → β → Prop} {r : R α} {Q : β → Hp → Prop} (f : Fr ι H ι1 H1) (p : PostG Γ K E ι H ρ r Q) : PostG Γ K E ι1 H1 ρ r Q := by
  cases r with
  | ok t h => exact fun ι' H' v w g q => p ι' H' v w (f.trans g) q
  | ex c a h => exact fun ι' H' cls d w g q => p ι' H' cls d w (f.trans g) q
  | bad => exact p
theorem PostG.bind {ρ : Io → Hp → α → β → Prop} {ρ' : Io → Hp → γ → δ → Prop} {r : R α} {f : α → Hs → R γ} {Q : δ → Hp → Prop} {Q' : β → Hp → Prop} (p : PostG Γ K E ι H ρ' (r.bind f) Q)
    (k : ∀ x h1 ι1 H1 y, WS Γ K ι1 h1 H1 → Fr ι H ι1 H1 → ρ ι1 H1 x y → PostG Γ K E ι1 H1 ρ' (f x h1) Q → Q' y H1) : PostG Γ K E ι H ρ r Q' := by
  cases r with
  | ok t h => exact fun ι' H' v w g q => k t h ι' H' v w g q (PostG.step g p)
  | ex c a h => exact p
  | bad => exact p
theorem PostG.asB {ρ' : Io → Hp → γ → δ → Prop} {r : R T} {f : Bool → Hs → R γ} {Q : δ → Hp → Prop} {Q' : V → Hp → Prop} (p : PostG Γ K E ι H ρ' (asB r f) Q)
    (k : ∀ b h1 ι1 H1, WS Γ K ι1 h1 H1 → Fr ι H ι1 H1 → PostG Γ K E ι1 H1 ρ' (f b h1) Q → Q' (.bl b) H1) : PostG Γ K E ι H (Rep K) r Q' := by
  cases r with
  | ok t h =>
    cases t with
    | bl b =>
      intro ι' H' v w g q
      simp only [Rep] at q
      subst q
      exact k b h ι' H' w g (PostG.step g p)
    | _ => exact p.elim
  | ex c a h => exact p
  | bad => exact p
/-- a test's reading, by what its value would do -/
theorem PostG.asBT {ρ' : Io → Hp → γ → δ → Prop} {r : R T} {f : Bool → Hs → R γ} {Q : δ → Hp → Prop} {Q' : Bool → Hp → Prop} (p : PostG Γ K E ι H ρ' (SH.asB r f) Q)
    (k : ∀ b h1 ι1 H1, WS Γ K ι1 h1 H1 → Fr ι H ι1 H1 → PostG Γ K E ι1 H1 ρ' (f b h1) Q → Q' b H1) : PostG Γ K E ι H same (SH.asB r fun b h => .ok b h) Q' := by
  cases r with
  | ok t h =>
    cases t with
    | bl b =>
      intro ι' H' v w g q
      have q : v = b := q
      rw [q]
      exact k b h ι' H' w g (PostG.step g p)
    | _ => exact p.elim
  | ex c a h => exact p
  | bad => exact p
theorem EnvR.mono {σt : Env} {σ : L2.St} {h : Hs} (w : WS Γ K ι h H) (f : Fx ι H ι1 H1) (e : EnvR K ι H σt σ) : EnvR K ι1 H1 σt σ :=
  ⟨e.1, fun i t q => let ⟨v, a, b⟩ := e.2 i t q; ⟨v, a, Rep.mono w.hr f t v b⟩⟩
theorem ExR.mono {h : Hs} {c : Nat} {t : T} {cls : Value} {d : Option Addr} (w : WS Γ K ι h H) (f : Fx ι H ι1 H1) (e : ExR Γ K c t ι H cls d) : ExR Γ K c t ι1 H1 cls d := by
  obtain ⟨nm, fl, C, dx, v, e1, e2, e3, e4, e5⟩ := e
  exact ⟨nm, fl, C, dx, v, e1, e2, e3, f.keep dx _ e4 (w.hr.nocell e4 (fun z => z)) (fun ps z => by cases z), Rep.mono w.hr f t v e5⟩
end

theorem PE.weak {X : Cx} {e : Expr} {t t' : TE} (h : PE X e t) (w : ∀ σ H Q, t' σ H Q → t σ H Q) : PE X e t' := ⟨fun pins s σ H Q I q => h.run pins s σ H Q I (w _ _ _ q)⟩
theorem PT.weak {X : Cx} {e : Expr} {t t' : TT} (h : PT X e t) (w : ∀ σ H Q, t' σ H Q → t σ H Q) : PT X e t' := ⟨fun pins s σ H Q I q => h.run pins s σ H Q I (w _ _ _ q)⟩
theorem PW.weak {X : Cx} {e : Expr} {t t' : TT} (h : PW X e t) (w : ∀ σ H Q, t' σ H Q → t σ H Q) : PW X e t' := ⟨fun wh pins s σ H Q I q => h.run wh pins s σ H Q I (w _ _ _ q)⟩
theorem PA.weak {X : Cx} {e : List Expr} {t t' : TA} (h : PA X e t) (w : ∀ σ H Q, t' σ H Q → t σ H Q) : PA X e t' := ⟨fun pos pins s σ H Q I q => h.run pos pins s σ H Q I (w _ _ _ q)⟩
theorem PS.weak {X : Cx} {e : Stmt} {t t' : TS} (h : PS X e t) (w : ∀ D σ H, t' D σ H → t D σ H) : PS X e t' := ⟨fun pins s σ H D I q => h.run pins s σ H D I (w _ _ _ q)⟩
theorem PSs.weak {X : Cx} {e : List Stmt} {t t' : TS} (h : PSs X e t) (w : ∀ D σ H, t' D σ H → t D σ H) : PSs X e t' := ⟨fun pins s σ H D I q => h.run pins s σ H D I (w _ _ _ q)⟩

/-! ### the world behind small steps -/
section
variable {Γ : Ga} {K : PySem.W.Frag} {ι : Io} {h : Hs} {H : Hp} {p : Addr} {o : HO}
theorem WS.new (w : WS Γ K ι h H) (hp : H p = none) : WS Γ K ι h (upd H p o) := ⟨w.hr.new hp, w.tb.ext fun b u e => by rw [upd_ne (ne_of_none e hp)]; exact e⟩
theorem WS.newHid (w : WS Γ K ι h H) (hp : H p = none) (ho : ∀ ps, o ≠ .tbl ps := by intro ps z; cases z) : WS Γ K ⟨ι.cs, ι.hid ++ [p]⟩ h (upd H p o) := ⟨w.hr.newHid hp ho, w.tb.ext fun b u e => by rw [upd_ne (ne_of_none e hp)]; exact e⟩
theorem WS.fresh (w : WS Γ K ι h H) (hp : H p = none) : ι.no p := by
  refine ⟨fun i z => ?_, fun z => ?_⟩
  · obtain ⟨o, e, _⟩ := w.hr.live i p z
    rw [hp] at e; cases e
  · obtain ⟨o, e, _⟩ := w.hr.hidT p z
    rw [hp] at e; cases e
/-- a new list that is a value -/
theorem rep_new {xs : List T} {vs : List V} (w : WS Γ K ι h H) (hp : H p = none) (l : xs.length ≤ LINE) (q : Reps K ι H xs vs) : Rep K ι (upd H p (.lst vs)) (.lst xs) (.ref p) := by
  simp only [Rep]
  exact ⟨p, vs, rfl, upd_same, w.fresh hp, l, Reps.mono w.hr (Fr.new hp).toFx xs vs q⟩
theorem rep_tup {xs : List T} {vs : List V} {us : List Value} (w : WS Γ K ι h H) (hp : H p = none) (l : xs.length ≤ LINE) (q : Reps K ι H xs vs) : Rep K ι (upd H p (tupO vs us)) (.tup xs) (.ref p) := by
  simp only [Rep]
  exact ⟨p, vs, rfl, .inl ⟨_, upd_same, rfl⟩, l, Reps.mono w.hr (Fr.new hp).toFx xs vs q⟩
end
end SH
end

section
set_option autoImplicit false
set_option linter.all false
set_option maxRecDepth 100000
/-! Strandhues: operators. -/
namespace SH
open PySem PySem.Spec PyProof.Rows L2

section
variable {Γ : Ga} {K : PySem.W.Frag} {E : XK} {ι : Io} {h : Hs} {H : Hp}
/-- the items of a list, a tuple -/
theorem seq_rep {x : T} {v : V} {xs : List T} (w : WS Γ K ι h H) (r : Rep K ι H x v) (e : seqOf h x = some xs) : ∃ a vs, v = .ref a ∧ (SqL K H a vs ∨ SqT K H a vs) ∧ Reps K ι H xs vs ∧ xs.length ≤ LINE := by
  cases x with
  | tup ys =>
    simp only [seqOf, Option.some.injEq] at e
    subst e
    simp only [Rep] at r
    obtain ⟨a, vs, e, s, l, q⟩ := r
    exact ⟨a, vs, e, .inr s.sq, q, l⟩
  | lst ys =>
    simp only [seqOf, Option.some.injEq] at e
    subst e
    simp only [Rep] at r
    obtain ⟨a, vs, e, s, _, l, q⟩ := r
    exact ⟨a, vs, e, .inl (.inl (.inl s)), q, l⟩
  | scr ns =>
    simp only [seqOf, Option.some.injEq] at e
    subst e
    simp only [Rep] at r
    obtain ⟨a, e, s, l⟩ := r
    refine ⟨a, ns.map V.int, e, ?_, Reps.of_ints ns, by simpa using l⟩
    rcases s with ⟨o, s⟩ | ⟨s, _⟩ | s
    · exact .inl (.inl (.inr ⟨o, s⟩))
    · exact .inl (.inl (.inl s))
    · exact .inl (.inr s)
  | ref i =>
    simp only [seqOf] at e
    split at e
    · rename_i ys hy
      cases e
      obtain ⟨a, vs, e1, e2, l, q, _⟩ := w.hr.lst i xs hy
      simp only [Rep] at r
      rw [e1] at r
      exact ⟨a, vs, r, .inl (.inl (.inl e2)), q, l⟩
    · cases e
  | _ => simp [seqOf] at e
/-- a list, as such -/
theorem lst_rep {x : T} {v : V} {xs : List T} (w : WS Γ K ι h H) (r : Rep K ι H x v) (il : isLst x = true) (e : seqOf h x = some xs) : ∃ a vs, v = .ref a ∧ H a = some (.lst vs) ∧ Reps K ι H xs vs ∧ xs.length ≤ LINE := by
  cases x with
  | lst ys =>
    simp only [seqOf, Option.some.injEq] at e
    subst e
    simp only [Rep] at r
    obtain ⟨a, vs, e, s, _, l, q⟩ := r
    exact ⟨a, vs, e, s, q, l⟩
  | ref i =>
    simp only [seqOf] at e
    split at e
    · rename_i ys hy
      cases e
      obtain ⟨a, vs, e1, e2, l, q, _⟩ := w.hr.lst i xs hy
      simp only [Rep] at r
      rw [e1] at r
      exact ⟨a, vs, r, e2, q, l⟩
    · cases e
  | _ => simp [isLst] at il
theorem isLst_seq {x : T} {v : V} {xs : List T} (w : WS Γ K ι h H) (r : Rep K ι H x v) (n : ∀ ys, x ≠ .tup ys) (e : seqOf h x = some xs) : ∃ a vs, v = .ref a ∧ SqL K H a vs ∧ Reps K ι H xs vs ∧ xs.length ≤ LINE := by
  cases x with
  | tup ys => exact absurd rfl (n ys)
  | scr ns =>
    obtain ⟨a, vs, e1, e2, q, l⟩ := seq_rep w r e
    simp only [seqOf, Option.some.injEq] at e
    subst e
    simp only [Rep] at r
    obtain ⟨b, e3, s, _⟩ := r
    refine ⟨b, ns.map V.int, e3, ?_, Reps.of_ints ns, l⟩
    rcases s with ⟨o, s⟩ | ⟨s, _⟩ | s
    · exact .inl (.inr ⟨o, s⟩)
    · exact .inl (.inl s)
    · exact .inr s
  | lst ys =>
    obtain ⟨a, vs, e1, e2, q, l⟩ := lst_rep w r rfl e
    exact ⟨a, vs, e1, .inl (.inl e2), q, l⟩
  | ref i =>
    obtain ⟨a, vs, e1, e2, q, l⟩ := lst_rep w r rfl e
    exact ⟨a, vs, e1, .inl (.inl e2), q, l⟩
  | _ => simp [seqOf] at e

/-! ### data -/
mutual
def toD : T → PyData
  | .non => .none
  | .bl b => .bool b
  | .int i => .int i
  | .str s => .str s
  | .tup xs => .tuple (toDs xs)
  | .lst xs => .list (toDs xs)
  | _ => .none
def toDs : List T → List PyData
  | [] => []
  | x :: xs => toD x :: toDs xs
end
mutual
theorem dp_of : ∀ (k : Nat) (t : T) (v : V), okD k t = true → Rep K ι H t v → Dp K H v (toD t)
  | _, .non, v, _, r => by simp only [Rep] at r; subst r; simp only [toD]; exact .non
  | _, .bl b, v, _, r => by simp only [Rep] at r; subst r; simp only [toD]; exact .bl b
  | _, .int i, v, _, r => by simp only [Rep] at r; subst r; simp only [toD]; exact .int i
  | _, .str s, v, _, r => by simp only [Rep] at r; subst r; simp only [toD]; exact .str s
  | 0, .tup _, _, h, _ => by simp [okD] at h
  | k + 1, .tup xs, v, h, r => by
    simp only [okD] at h
    simp only [Rep] at r
    obtain ⟨a, vs, rfl, s, _, q⟩ := r
    simp only [toD]
    exact .tup s.sq (dps_of k xs vs h q)
  | 0, .lst _, _, h, _ => by simp [okD] at h
  | k + 1, .lst xs, v, h, r => by
    simp only [okD] at h
    simp only [Rep] at r
    obtain ⟨a, vs, rfl, s, _, _, q⟩ := r
    simp only [toD]
    exact .lst (.inl (.inl s)) (dps_of k xs vs h q)
  | _, .scr _, _, h, _ => by simp [okD] at h
  | _, .ref _, _, h, _ => by simp [okD] at h
  | _, .fn _, _, h, _ => by simp [okD] at h
theorem dps_of : ∀ (k : Nat) (ts : List T) (vs : List V), okDs k ts = true → Reps K ι H ts vs → DpAll K H vs (toDs ts)
  | _, [], [], _, _ => by simp only [toDs]; exact .nil
  | k, x :: xs, v :: vs, h, r => by
    simp only [okDs, Bool.and_eq_true] at h
    simp only [Reps] at r
    simp only [toDs]
    exact .cons (dp_of k x v h.1 r.1) (dps_of k xs vs h.2 r.2)
  | _, [], _ :: _, _, r => by simp only [Reps] at r
  | _, _ :: _, [], _, r => by simp only [Reps] at r
end
theorem strOk_of {s : Str} (h : strOkB s = true) : PyData.strOk s = true := by
  simp only [strOkB, Bool.and_eq_true] at h
  exact h.2
mutual
theorem lay_of : ∀ (k : Nat) (t : T), okD k t = true → (toD t).canLay0 = true ∧ (toD t).depth ≤ k
  | _, .non, _ => by simp [toD, PyData.canLay0, PyData.depth]
  | _, .bl b, _ => by simp [toD, PyData.canLay0, PyData.depth]
  | _, .int i, _ => by simp [toD, PyData.canLay0, PyData.depth]
  | _, .str s, h => by
    have h : strOkB s = true := by simpa only [okD] using h
    simp [toD, PyData.canLay0, PyData.depth, strOk_of h]
  | 0, .tup _, h => by simp [okD] at h
  | k + 1, .tup xs, h => by
    simp only [okD] at h
    obtain ⟨a, b⟩ := lays_of k xs h
    simp only [toD, PyData.canLay0, PyData.depth]
    exact ⟨a, by omega⟩
  | 0, .lst _, h => by simp [okD] at h
  | k + 1, .lst xs, h => by
    simp only [okD] at h
    obtain ⟨a, b⟩ := lays_of k xs h
    simp only [toD, PyData.canLay0, PyData.depth]
    exact ⟨a, by omega⟩
  | _, .scr _, h => by simp [okD] at h
  | _, .ref _, h => by simp [okD] at h
  | _, .fn _, h => by simp [okD] at h
theorem lays_of : ∀ (k : Nat) (ts : List T), okDs k ts = true → PyData.canLayAll0 (toDs ts) = true ∧ PyData.depthAll (toDs ts) ≤ k
  | _, [], _ => by simp [toDs, PyData.canLayAll0, PyData.depthAll]
  | k, x :: xs, h => by
    simp only [okDs, Bool.and_eq_true] at h
    obtain ⟨a, b⟩ := lay_of k x h.1
    obtain ⟨c, d⟩ := lays_of k xs h.2
    simp only [toDs, PyData.canLayAll0, PyData.depthAll, Bool.and_eq_true]
    exact ⟨⟨a, c⟩, by omega⟩
end
theorem shaped_of {k : Nat} {t : T} (h : okD k t = true) (hk : k ≤ 64) : SeqAt.shaped (toD t) = true := by
  obtain ⟨a, b⟩ := lay_of k t h
  unfold SeqAt.shaped
  rw [a, Bool.true_and]
  exact decide_eq_true (by omega)
mutual
theorem eqv_toD : ∀ (k j : Nat) (x y : T), okD k x = true → okD j y = true → PyData.eqv (toD x) (toD y) = eqv x y
  | k, j, x, y, hx, hy => by
    cases x <;> cases y <;> first
      | (simp only [okD] at hx; exact absurd hx Bool.false_ne_true)
      | (simp only [okD] at hy; exact absurd hy Bool.false_ne_true)
      | (simp only [toD, PyData.eqv, eqv]; done)
      | (rename_i xs ys
         cases k with
         | zero => simp [okD] at hx
         | succ k =>
           cases j with
           | zero => simp [okD] at hy
           | succ j =>
             simp only [okD] at hx hy
             simp only [toD, PyData.eqv, eqv]
             exact eqvs_toDs k j xs ys hx hy)
      | skip
theorem eqvs_toDs : ∀ (k j : Nat) (xs ys : List T), okDs k xs = true → okDs j ys = true → PyData.eqvAll (toDs xs) (toDs ys) = eqvs xs ys
  | _, _, [], [], _, _ => by simp [toDs, PyData.eqvAll, eqvs]
  | _, _, [], _ :: _, _, _ => by simp [toDs, PyData.eqvAll, eqvs]
  | _, _, _ :: _, [], _, _ => by simp [toDs, PyData.eqvAll, eqvs]
  | k, j, x :: xs, y :: ys, hx, hy => by
    simp only [okDs, Bool.and_eq_true] at hx hy
    simp only [toDs, PyData.eqvAll, eqvs]
    rw [eqv_toD k j x y hx.1 hy.1, eqvs_toDs k j xs ys hx.2 hy.2]
end

/-! ### operators -/
/-- what an operator's rule asks is given by the pure step -/
def OpS (Γ : Ga) (K : PySem.W.Frag) (op : Hs → T → T → Option T) (r : R2) : Prop :=
  ∀ (ι : Io) (h : Hs) (H : Hp) (x y : T) (vx vy : V) (Q : VK) (z : T), WS Γ K ι h H → Rep K ι H x vx → Rep K ι H y vy → op h x y = some z →
    (∀ ι' H' v, WS Γ K ι' h H' → Fr ι H ι' H' → Rep K ι' H' z v → Q v H') → r vx vy H Q
theorem PostG.of {α β : Type} {ρ : Io → Hp → α → β → Prop} {o : Option α} {Q : β → Hp → Prop} {a : α} (p : PostG Γ K E ι H ρ (R.of o h) Q) (e : o = some a) : ∀ ι' H' v, WS Γ K ι' h H' → Fr ι H ι' H' → ρ ι' H' a v → Q v H' := by
  subst e
  exact p
theorem PostG.some {α β : Type} {ρ : Io → Hp → α → β → Prop} {o : Option α} {Q : β → Hp → Prop} (p : PostG Γ K E ι H ρ (R.of o h) Q) : ∃ a, o = some a := by
  cases o with
  | none => exact p.elim
  | some a => exact ⟨a, rfl⟩
theorem op_of {op : Hs → T → T → Option T} {r : R2} (hs : OpS Γ K op r) {ra rb : Env → Hs → R T} (σ : L2.St) (H : Hp) (Q : VK)
    (q : tE Γ K E (fun σ h => (ra σ h).bind fun x h => (rb σ h).bind fun y h => .of (op h x y) h) σ H Q) : tOp r (tE Γ K E ra) (tE Γ K E rb) σ H Q := by
  obtain ⟨ι, σt, h, w, er, p⟩ := q
  refine ⟨ι, σt, h, w, er, p.bind fun x h1 ι1 H1 vx w1 f1 rx p1 => ⟨ι1, σt, h1, w1, er.mono w f1.toFx, p1.bind fun y h2 ι2 H2 vy w2 f2 ry p2 => ?_⟩⟩
  obtain ⟨z, hz⟩ := p2.some
  exact hs ι2 h2 H2 x y vx vy Q z w2 (Rep.mono w1.hr f2.toFx _ _ rx) ry hz (p2.of hz)
theorem OpS.or1 {op : Hs → T → T → Option T} {r r' : R2} (hs : ∀ (ι : Io) (h : Hs) (H : Hp) (x y : T) (vx vy : V) (Q : VK) (z : T), WS Γ K ι h H → Rep K ι H x vx → Rep K ι H y vy → op h x y = some z →
    (∀ ι' H' v, WS Γ K ι' h H' → Fr ι H ι' H' → Rep K ι' H' z v → Q v H') → r vx vy H Q ∨ r' vx vy H Q) : OpS Γ K op (fun x y H Q => r x y H Q ∨ r' x y H Q) := hs
theorem le_line {n : Nat} (l : n ≤ LINE) : n ≤ sizeLine := by rw [sizeLine_eq]; exact l

abbrev rAdd4 (K : PySem.W.Frag) : R2 := fun x y H Q => rI0 (fun i j => .int (i + j)) x y H Q ∨ (rCatD K x y H Q ∨ (rCat x y H Q ∨ ∃ i j, x = .str i ∧ y = .str j ∧ i.length + j.length ≤ sizeLine ∧ Q (.str (i ++ j)) H))
theorem ho_add {X : Cx} : OpR X (binaryOp .Add) (rAdd4 X.K) := op_add.or (op_catD.or (op_cat.or op_add_str))
theorem hs_add : OpS Γ K (binT .add) (rAdd4 K) := by
  intro ι h H x y vx vy Q z w rx ry e q
  cases x with
  | int i =>
    cases y with
    | int j =>
      simp only [binT, Option.some.injEq] at e
      subst e
      simp only [Rep] at rx ry
      exact .inl ⟨i, j, rx, ry, q ι H _ w (Fr.refl _ _) (by simp only [Rep])⟩
    | _ => simp [binT, isLst] at e
  | str a =>
    cases y with
    | str b =>
      simp only [binT] at e
      split at e
      · rename_i l
        simp only [Option.some.injEq] at e
        subst e
        simp only [Rep] at rx ry
        exact .inr (.inr (.inr ⟨a, b, rx, ry, le_line l, q ι H _ w (Fr.refl _ _) (by simp only [Rep])⟩))
      · cases e
    | _ => simp [binT, isLst] at e
  | tup xs =>
    cases y with
    | tup ys =>
      simp only [binT] at e
      split at e
      · rename_i l
        simp only [Option.some.injEq] at e
        subst e
        have rx' := rx
        have ry' := ry
        simp only [Rep] at rx ry
        obtain ⟨a, vs, e1, s1, l1, q1⟩ := rx
        obtain ⟨b, us, e2, s2, l2, q2⟩ := ry
        refine .inr (.inl ⟨a, b, vs, us, e1, e2, s1.sq, s2.sq, by rw [← q1.length, ← q2.length]; exact le_line l, fun n => ?_, fun n1 n2 => ?_, fun n1 n2 p zs hp hv => ?_⟩)
        · have n0 : xs = [] := List.eq_nil_of_length_eq_zero (by rw [q1.length, n]; rfl)
          subst n0
          rw [← e2]
          exact q ι H _ w (Fr.refl _ _) ry'
        · have n0 : ys = [] := List.eq_nil_of_length_eq_zero (by rw [q2.length, n2]; rfl)
          subst n0
          rw [← e1]
          exact q ι H _ w (Fr.refl _ _) (by rw [List.append_nil]; exact rx')
        · exact q ι _ _ (w.new hp) (Fr.new hp) (rep_tup w hp (by simpa using l) (q1.append q2))
      · cases e
    | _ => simp [binT, isLst] at e
  | lst xs =>
    have il : isLst y = true := by cases y <;> first | rfl | simp [binT, isLst] at e
    have e : (match seqOf h (T.lst xs), seqOf h y with
      | some xs, some ys => if xs.length + ys.length ≤ LINE then some (T.lst (xs ++ ys)) else none
      | _, _ => none) = some z := by cases y <;> first | exact e | simp [isLst] at il
    split at e
    · rename_i as bs ha hb
      split at e
      · rename_i l
        cases e
        obtain ⟨a, vs, e1, s1, q1, l1⟩ := lst_rep w rx rfl ha
        obtain ⟨b, us, e2, s2, q2, l2⟩ := lst_rep w ry il hb
        exact .inr (.inr (.inl ⟨a, b, vs, us, e1, e2, s1, s2, by rw [← q1.length, ← q2.length]; exact le_line l, fun p hp => q ι _ _ (w.new hp) (Fr.new hp) (rep_new w hp (by simpa using l) (q1.append q2))⟩))
      · cases e
    · cases e
  | ref i =>
    have il : isLst y = true := by cases y <;> first | rfl | simp [binT, isLst] at e
    have e : (match seqOf h (T.ref i), seqOf h y with
      | some xs, some ys => if xs.length + ys.length ≤ LINE then some (T.lst (xs ++ ys)) else none
      | _, _ => none) = some z := by cases y <;> first | exact e | simp [isLst] at il
    split at e
    · rename_i as bs ha hb
      split at e
      · rename_i l
        cases e
        obtain ⟨a, vs, e1, s1, q1, l1⟩ := lst_rep w rx rfl ha
        obtain ⟨b, us, e2, s2, q2, l2⟩ := lst_rep w ry il hb
        exact .inr (.inr (.inl ⟨a, b, vs, us, e1, e2, s1, s2, by rw [← q1.length, ← q2.length]; exact le_line l, fun p hp => q ι _ _ (w.new hp) (Fr.new hp) (rep_new w hp (by simpa using l) (q1.append q2))⟩))
      · cases e
    · cases e
  | _ => cases y <;> simp [binT, isLst] at e

theorem ho_sub {X : Cx} : OpR X (binaryOp .Sub) (rI0 fun i j => .int (i - j)) := op_sub
theorem hs_sub : OpS Γ K (binT .sub) (rI0 fun i j => .int (i - j)) := by
  intro ι h H x y vx vy Q z w rx ry e q
  cases x <;> cases y <;> simp only [binT, Option.some.injEq, reduceCtorEq] at e
  subst e
  simp only [Rep] at rx ry
  exact ⟨_, _, rx, ry, q ι H _ w (Fr.refl _ _) (by simp only [Rep])⟩
theorem mulOk_iff {i j : Int} (h : mulOk i j = true) : CMul i j := by
  unfold mulOk at h
  rw [Bool.or_eq_true, Bool.and_eq_true, Bool.and_eq_true] at h
  unfold CMul
  have e : two64 = 2 ^ 64 := by decide
  rw [e] at h
  rcases h with ⟨h1, h2⟩ | ⟨h1, h2⟩
  · exact .inl ⟨of_decide_eq_true h1, of_decide_eq_true h2⟩
  · exact .inr ⟨of_decide_eq_true h1, of_decide_eq_true h2⟩
abbrev rMul3 (K : PySem.W.Frag) : R2 := fun x y H Q => rI CMul (fun i j => .int (i * j)) x y H Q ∨ (rRepD K x y H Q ∨ rRep x y H Q)
theorem ho_mul {X : Cx} : OpR X (binaryOp .Mult) (rMul3 X.K) := op_mul.or (op_repD.or op_rep)
theorem rep_len {α : Type} (xs : List α) (k : Nat) : (List.replicate k xs).flatten.length = k * xs.length := by simp
theorem hs_mul : OpS Γ K (binT .mul) (rMul3 K) := by
  intro ι h H x y vx vy Q z w rx ry e q
  cases x with
  | int i =>
    cases y with
    | int j =>
      simp only [binT] at e
      split at e
      · rename_i l
        cases e
        simp only [Rep] at rx ry
        exact .inl ⟨i, j, rx, ry, mulOk_iff l, q ι H _ w (Fr.refl _ _) (by simp only [Rep])⟩
      · cases e
    | _ => simp [binT] at e
  | tup xs =>
    cases y with
    | int k =>
      simp only [binT] at e
      split at e
      · rename_i l
        obtain ⟨l1, l2, l3⟩ := l
        cases e
        have rx' := rx
        simp only [Rep] at rx ry
        obtain ⟨a, vs, e1, s1, _, q1⟩ := rx
        have hl := q1.length
        refine .inr (.inl ⟨a, k, vs, e1, ry, s1.sq, l1, l2, by omega, fun z => ?_, fun z1 z2 p zs hp hv => q ι _ _ (w.new hp) (Fr.new hp) (rep_tup w hp ?_ (q1.rep _))⟩)
        · have e2 : (List.replicate k.toNat xs).flatten = xs := by
            rcases z with z | z
            · have : xs = [] := List.eq_nil_of_length_eq_zero (by rw [hl, z]; rfl)
              subst this
              simp
            · subst z; simp
          rw [← e1]
          exact q ι H _ w (Fr.refl _ _) (by rw [e2]; exact rx')
        · rw [rep_len]
          have : k.toNat * xs.length ≤ 1000 * 1000 := Nat.mul_le_mul (by omega) l3
          show _ ≤ 16777216
          omega
      · cases e
    | _ => simp [binT] at e
  | lst xs =>
    cases y with
    | int k =>
      simp only [binT] at e
      split at e
      · rename_i l
        obtain ⟨l1, l2, l3⟩ := l
        cases e
        have ry' := ry
        simp only [Rep] at ry
        obtain ⟨a, vs, e1, s1, q1, _⟩ := lst_rep w rx rfl (show seqOf h (T.lst xs) = some xs from rfl)
        have hl := q1.length
        have hm : k.toNat * xs.length ≤ 1000 * 1000 := Nat.mul_le_mul (by omega) l3
        refine .inr (.inr ⟨a, k, vs, e1, ry, s1, by omega, by omega, ?_, fun p hp => q ι _ _ (w.new hp) (Fr.new hp) (rep_new w hp ?_ (q1.rep _))⟩)
        · rw [sizeLine_eq, ← hl, Nat.mul_comm]
          omega
        · rw [rep_len]
          show _ ≤ 16777216
          omega
      · cases e
    | _ => simp [binT] at e
  | _ => cases y <;> simp [binT] at e
theorem ho_fdiv {X : Cx} : OpR X (binaryOp .FloorDiv) (rI CDiv fun i j => .int (i / j)) := op_fdiv
theorem hs_fdiv : OpS Γ K (binT .fdiv) (rI CDiv fun i j => .int (i / j)) := by
  intro ι h H x y vx vy Q z w rx ry e q
  cases x <;> cases y <;> simp only [binT, reduceCtorEq] at e
  split at e
  · rename_i l
    cases e
    simp only [Rep] at rx ry
    exact ⟨_, _, rx, ry, l, q ι H _ w (Fr.refl _ _) (by simp only [Rep])⟩
  · cases e
theorem ho_mod {X : Cx} : OpR X (binaryOp .Mod) (rI (fun _ j => 0 < j) fun i j => .int (i % j)) := op_mod
theorem hs_mod : OpS Γ K (binT .mod) (rI (fun _ j => 0 < j) fun i j => .int (i % j)) := by
  intro ι h H x y vx vy Q z w rx ry e q
  cases x <;> cases y <;> simp only [binT, reduceCtorEq] at e
  split at e
  · rename_i l
    cases e
    simp only [Rep] at rx ry
    exact ⟨_, _, rx, ry, l, q ι H _ w (Fr.refl _ _) (by simp only [Rep])⟩
  · cases e
theorem ho_pow {X : Cx} : OpR X (binaryOp .Pow) (rI CPow fun i j => .int (i ^ j.toNat)) := op_pow
theorem hs_pow : OpS Γ K (binT .pow) (rI CPow fun i j => .int (i ^ j.toNat)) := by
  intro ι h H x y vx vy Q z w rx ry e q
  cases x <;> cases y <;> simp only [binT, reduceCtorEq] at e
  split at e
  · rename_i l
    cases e
    simp only [Rep] at rx ry
    exact ⟨_, _, rx, ry, ⟨l.1, l.2.1, by have := l.2.2; omega⟩, q ι H _ w (Fr.refl _ _) (by simp only [Rep])⟩
  · cases e
/-- the operator of the text -/
def opOf : BOp → Operator
  | .add => .Add
  | .sub => .Sub
  | .mul => .Mult
  | .fdiv => .FloorDiv
  | .mod => .Mod
  | .pow => .Pow
theorem se_bin {X : Cx} {op : BOp} {a b : Expr} {ra rb : Env → Hs → R T} {pos : Pos} (ha : PE X a (tE Γ X.K E ra)) (hb : PE X b (tE Γ X.K E rb)) :
    PE X (.BinOp a (opOf op) b pos) (tE Γ X.K E fun σ h => (ra σ h).bind fun x h => (rb σ h).bind fun y h => .of (binT op h x y) h) := by
  cases op with
  | add => exact PE.weak (pe_op ho_add ha hb) (op_of hs_add)
  | sub => exact PE.weak (pe_op ho_sub ha hb) (op_of hs_sub)
  | mul => exact PE.weak (pe_op ho_mul ha hb) (op_of hs_mul)
  | fdiv => exact PE.weak (pe_op ho_fdiv ha hb) (op_of hs_fdiv)
  | mod => exact PE.weak (pe_op ho_mod ha hb) (op_of hs_mod)
  | pow => exact PE.weak (pe_op ho_pow ha hb) (op_of hs_pow)
end
end SH
end

section
set_option autoImplicit false
set_option linter.all false
set_option maxRecDepth 100000
/-! Strandhues: comparisons, subscripts. -/
namespace SH
open PySem PySem.Spec PyProof.Rows L2

section
variable {Γ : Ga} {K : PySem.W.Frag} {E : XK} {ι : Io} {h : Hs} {H : Hp}
/-- a comparison's rule -/
def CmpS (Γ : Ga) (K : PySem.W.Frag) (op : Hs → T → T → Option Bool) (r : R2) : Prop :=
  ∀ (ι : Io) (h : Hs) (H : Hp) (x y : T) (vx vy : V) (Q : VK) (z : Bool), WS Γ K ι h H → Rep K ι H x vx → Rep K ι H y vy → op h x y = some z → Q (.bl z) H → r vx vy H Q
theorem CmpS.op {op : Hs → T → T → Option Bool} {r : R2} (c : CmpS Γ K op r) : OpS Γ K (fun h x y => (op h x y).map T.bl) r := by
  intro ι h H x y vx vy Q z w rx ry e q
  have e : (op h x y).map T.bl = some z := e
  cases e1 : op h x y with
  | none => rw [e1] at e; cases e
  | some b =>
    rw [e1] at e
    cases e
    exact c ι h H x y vx vy Q b w rx ry e1 (q ι H _ w (Fr.refl _ _) (by simp only [Rep]))
/-- what a value is now, as data -/
theorem now_dp {x : T} {v : V} (w : WS Γ K ι h H) (r : Rep K ι H x v) (o : okD 60 (now h x) = true) : Dp K H v (toD (now h x)) := by
  cases x with
  | ref i =>
    have en : now h (.ref i) = match h[i]? with
      | some (.lst xs) => .lst xs
      | _ => .ref i := rfl
    rw [en] at o ⊢
    cases hy : h[i]? with
    | none => rw [hy] at o; simp [okD] at o
    | some c =>
      cases c with
      | lst xs =>
        rw [hy] at o
        simp only [okD] at o
        obtain ⟨a, vs, e1, e2, l, q, _⟩ := w.hr.lst i xs hy
        simp only [Rep] at r
        rw [e1] at r
        have r : v = .ref a := r
        subst r
        simp only [toD]
        exact .lst (.inl (.inl e2)) (dps_of 59 xs vs o q)
      | _ => rw [hy] at o; simp [okD] at o
  | scr ns =>
    have en : now h (.scr ns) = .lst (ns.map T.int) := rfl
    rw [en] at o ⊢
    simp only [okD] at o
    simp only [Rep] at r
    obtain ⟨a, rfl, s, l⟩ := r
    simp only [toD]
    refine .lst ?_ (dps_of (ι := ι) 59 _ (ns.map V.int) o (Reps.of_ints ns))
    rcases s with ⟨o, s⟩ | ⟨s, _⟩ | s
    · exact .inl (.inr ⟨o, s⟩)
    · exact .inl (.inl s)
    · exact .inr s
  | _ => exact dp_of 60 _ v o r
theorem cs_eq : CmpS Γ K (cmpT .eq) (rEqD K) := by
  intro ι h H x y vx vy Q z w rx ry e q
  simp only [cmpT] at e
  split at e
  · rename_i l
    rw [Bool.and_eq_true] at l
    cases e
    refine ⟨_, _, now_dp w rx l.1, now_dp w ry l.2, shaped_of l.1 (by decide), shaped_of l.2 (by decide), ?_⟩
    rw [eqv_toD 60 60 _ _ l.1 l.2]
    exact q
  · cases e
theorem cs_ne : CmpS Γ K (cmpT .ne) (rNeD K) := by
  intro ι h H x y vx vy Q z w rx ry e q
  simp only [cmpT] at e
  split at e
  · rename_i l
    rw [Bool.and_eq_true] at l
    cases e
    refine ⟨_, _, now_dp w rx l.1, now_dp w ry l.2, shaped_of l.1 (by decide), shaped_of l.2 (by decide), ?_⟩
    rw [eqv_toD 60 60 _ _ l.1 l.2]
    exact q
  · cases e
theorem cs_lt : CmpS Γ K (cmpT .lt) (rI0 fun i j => .bl (decide (i < j))) := by
  intro ι h H x y vx vy Q z w rx ry e q
  cases x <;> cases y <;> simp only [cmpT, Option.some.injEq, reduceCtorEq] at e
  simp only [Rep] at rx ry
  subst e
  exact ⟨_, _, rx, ry, q⟩
theorem cs_le : CmpS Γ K (cmpT .le) (rI0 fun i j => .bl (decide (i ≤ j))) := by
  intro ι h H x y vx vy Q z w rx ry e q
  cases x <;> cases y <;> simp only [cmpT, Option.some.injEq, reduceCtorEq] at e
  simp only [Rep] at rx ry
  subst e
  exact ⟨_, _, rx, ry, q⟩
theorem cs_gt : CmpS Γ K (cmpT .gt) (rI0 fun i j => .bl (decide (j < i))) := by
  intro ι h H x y vx vy Q z w rx ry e q
  cases x <;> cases y <;> simp only [cmpT, Option.some.injEq, reduceCtorEq] at e
  simp only [Rep] at rx ry
  subst e
  exact ⟨_, _, rx, ry, q⟩
theorem cs_ge : CmpS Γ K (cmpT .ge) (rI0 fun i j => .bl (decide (j ≤ i))) := by
  intro ι h H x y vx vy Q z w rx ry e q
  cases x <;> cases y <;> simp only [cmpT, Option.some.injEq, reduceCtorEq] at e
  simp only [Rep] at rx ry
  subst e
  exact ⟨_, _, rx, ry, q⟩
/-! in, not in -/
theorem flat_rep {x : T} {v : V} (f : flatT x = true) (r : Rep K ι H x v) : flatV v = true := by
  cases x <;> first
    | (simp [flatT] at f; done)
    | (simp only [Rep] at r; subst r; rfl)
theorem flats_rep : ∀ {xs : List T} {vs : List V}, xs.all flatT = true → Reps K ι H xs vs → vs.all flatV = true
  | [], [], _, _ => rfl
  | x :: xs, v :: vs, f, r => by
    simp only [List.all_cons, Bool.and_eq_true] at f
    simp only [Reps] at r
    simp only [List.all_cons, Bool.and_eq_true]
    exact ⟨flat_rep f.1 r.1, flats_rep f.2 r.2⟩
  | [], _ :: _, _, r => by simp only [Reps] at r
  | _ :: _, [], _, r => by simp only [Reps] at r
theorem eqv_flat {x y : T} {v u : V} (fx : flatT x = true) (fy : flatT y = true) (rx : Rep K ι H x v) (ry : Rep K ι H y u) : eqV v u = eqv x y := by
  cases x <;> first
    | (simp [flatT] at fx; done)
    | (simp only [Rep] at rx; subst rx; cases y <;> first
        | (simp [flatT] at fy; done)
        | (simp only [Rep] at ry; subst ry; simp only [eqV, eqv]))
theorem mem_flat {x : T} {v : V} (fx : flatT x = true) (rx : Rep K ι H x v) : ∀ {xs : List T} {vs : List V}, xs.all flatT = true → Reps K ι H xs vs → inV v vs = memT x xs
  | [], [], _, _ => rfl
  | y :: xs, u :: vs, f, r => by
    simp only [List.all_cons, Bool.and_eq_true] at f
    simp only [Reps] at r
    have ih := mem_flat fx rx f.2 r.2
    unfold inV memT at ih ⊢
    simp only [List.any_cons]
    rw [ih, eqv_flat f.1 fx r.1 rx]
  | [], _ :: _, _, r => by simp only [Reps] at r
  | _ :: _, [], _, r => by simp only [Reps] at r
theorem any_toDs {x : T} (hx : okD 60 x = true) : ∀ {xs : List T}, okDs 59 xs = true → ((toDs xs).any fun z => PyData.eqv z (toD x)) = memT x xs
  | [], _ => by simp [toDs, memT]
  | y :: xs, h => by
    simp only [okDs, Bool.and_eq_true] at h
    have ih := any_toDs hx h.2
    unfold memT at ih ⊢
    simp only [toDs, List.any_cons]
    rw [ih, eqv_toD 59 60 y x h.1 hx]
theorem shapeds_of {xs : List T} (h : okDs 59 xs = true) : SeqAt.shaped (.list (toDs xs)) = true := shaped_of (t := .lst xs) (k := 60) (by simpa only [okD] using h) (by decide)
theorem shapedt_of {xs : List T} (h : okDs 59 xs = true) : SeqAt.shaped (.tuple (toDs xs)) = true := shaped_of (t := .tup xs) (k := 60) (by simpa only [okD] using h) (by decide)
abbrev rIn2 (K : PySem.W.Frag) : R2 := fun x y H Q => rIn K false x y H Q ∨ (rInD K x y H Q ∨ rInTD K x y H Q)
abbrev rNotIn2 (K : PySem.W.Frag) : R2 := fun x y H Q => rIn K true x y H Q ∨ (rNotInD K x y H Q ∨ rNotInTD K x y H Q)
theorem in_core {x y : T} {vx vy : V} {z : Bool} (w : WS Γ K ι h H) (rx : Rep K ι H x vx) (ry : Rep K ι H y vy) (e : inT h x y = some z) :
    (∃ p vs, vy = .ref p ∧ SqT K H p vs ∧ flatV vx = true ∧ vs.all flatV = true ∧ inV vx vs = z) ∨ (∃ d ds, Dp K H vx d ∧ Dp K H vy (.list ds) ∧ SeqAt.shaped d = true ∧ SeqAt.shaped (.list ds) = true ∧ (ds.any fun z => PyData.eqv z d) = z) ∨
      ∃ d ds, Dp K H vx d ∧ Dp K H vy (.tuple ds) ∧ SeqAt.shaped d = true ∧ SeqAt.shaped (.tuple ds) = true ∧ (ds.any fun z => PyData.eqv z d) = z := by
  have key : ∀ ys, (∀ zs, y ≠ .tup zs) → seqOf h y = some ys → okD 60 x = true → okDs 59 ys = true → ∃ d ds, Dp K H vx d ∧ Dp K H vy (.list ds) ∧ SeqAt.shaped d = true ∧ SeqAt.shaped (.list ds) = true ∧ (ds.any fun z => PyData.eqv z d) = memT x ys := fun ys nt hs o1 o2 => by
    obtain ⟨a, vs, rfl, s, q, l⟩ := isLst_seq w ry nt hs
    exact ⟨_, _, dp_of 60 x vx o1 rx, .lst s (dps_of 59 ys vs o2 q), shaped_of o1 (by decide), shapeds_of o2, any_toDs o1 o2⟩
  cases y with
  | tup ys =>
    simp only [inT] at e
    split at e
    · rename_i l
      rw [Bool.and_eq_true] at l
      cases e
      have rys := ry
      simp only [Rep] at rys
      obtain ⟨a, vs, e1, s, _, q⟩ := rys
      exact .inl ⟨a, vs, e1, s.sq, flat_rep l.1 rx, flats_rep l.2 q, mem_flat l.1 rx l.2 q⟩
    · split at e
      · rename_i l
        rw [Bool.and_eq_true] at l
        cases e
        have rys := ry
        simp only [Rep] at rys
        obtain ⟨a, vs, rfl, s, _, q⟩ := rys
        exact .inr (.inr ⟨_, _, dp_of 60 x vx l.1 rx, .tup s.sq (dps_of 59 ys vs l.2 q), shaped_of l.1 (by decide), shapedt_of l.2, any_toDs l.1 l.2⟩)
      · cases e
  | _ =>
    simp only [inT] at e
    split at e
    · rename_i ys hs
      split at e
      · rename_i l
        rw [Bool.and_eq_true] at l
        cases e
        exact .inr (.inl (key ys (fun _ z => by cases z) hs l.1 l.2))
      · cases e
    · cases e
theorem cs_in : CmpS Γ K (cmpT .isin) (rIn2 K) := by
  intro ι h H x y vx vy Q z w rx ry e q
  simp only [cmpT] at e
  rcases in_core w rx ry e with ⟨p, vs, e1, s, f1, f2, e2⟩ | ⟨d, ds, d1, d2, s1, s2, e2⟩ | ⟨d, ds, d1, d2, s1, s2, e2⟩
  · refine .inl ⟨p, vs, e1, .inr s, f1, f2, ?_⟩
    show Q (.bl (inV vx vs)) H
    rw [e2]; exact q
  · exact .inr (.inl ⟨d, ds, d1, d2, s1, s2, by rw [e2]; exact q⟩)
  · exact .inr (.inr ⟨d, ds, d1, d2, s1, s2, by rw [e2]; exact q⟩)
theorem cs_notin : CmpS Γ K (cmpT .notin) (rNotIn2 K) := by
  intro ι h H x y vx vy Q z w rx ry e q
  simp only [cmpT] at e
  cases e0 : inT h x y with
  | none => rw [e0] at e; cases e
  | some b =>
    rw [e0] at e
    cases e
    rcases in_core w rx ry e0 with ⟨p, vs, e1, s, f1, f2, e2⟩ | ⟨d, ds, d1, d2, s1, s2, e2⟩ | ⟨d, ds, d1, d2, s1, s2, e2⟩
    · refine .inl ⟨p, vs, e1, .inr s, f1, f2, ?_⟩
      show Q (.bl (!inV vx vs)) H
      rw [e2]; exact q
    · exact .inr (.inl ⟨d, ds, d1, d2, s1, s2, by rw [e2]; exact q⟩)
    · exact .inr (.inr ⟨d, ds, d1, d2, s1, s2, by rw [e2]; exact q⟩)
def cmpOf : COp → CmpOp
  | .eq => .Eq
  | .ne => .NotEq
  | .lt => .Lt
  | .le => .LtE
  | .gt => .Gt
  | .ge => .GtE
  | .isin => .In
  | .notin => .NotIn
/-- the rule of a comparison's operator -/
theorem cmp_rule {X : Cx} (hu : X.A.units + 65 < cLine) (op : COp) : ∃ r, OpR X (compareOp (cmpOf op)) r ∧ CmpS Γ X.K (cmpT op) r := by
  cases op with
  | eq => exact ⟨_, op_eqD (by omega), cs_eq⟩
  | ne => exact ⟨_, op_neD (by omega), cs_ne⟩
  | lt => exact ⟨_, op_lt, cs_lt⟩
  | le => exact ⟨_, op_le, cs_le⟩
  | gt => exact ⟨_, op_gt, cs_gt⟩
  | ge => exact ⟨_, op_ge, cs_ge⟩
  | isin => exact ⟨_, op_in_seq.or ((op_inD hu).or (op_inTD hu)), cs_in⟩
  | notin => exact ⟨_, op_notIn_seq.or ((op_notInD hu).or (op_notInTD hu)), cs_notin⟩
theorem se_cmp {X : Cx} {op : COp} {a b : Expr} {ra rb : Env → Hs → R T} {pos : Pos} (hu : X.A.units + 65 < cLine) (ha : PE X a (tE Γ X.K E ra)) (hb : PE X b (tE Γ X.K E rb)) (hm : behindInMarks (cmpOf op) b = false) :
    PE X (.Compare a [cmpOf op] [b] pos) (tE Γ X.K E fun σ h => (ra σ h).bind fun x h => (rb σ h).bind fun y h => .of ((cmpT op h x y).map T.bl) h) := by
  obtain ⟨r, ho, hs⟩ := cmp_rule (Γ := Γ) hu op
  exact PE.weak (pe_cmpR ho ha hb hm) (op_of hs.op)
/-- the same as a test -/
theorem tst_op {op : Hs → T → T → Option Bool} {r : R2} (hs : CmpS Γ K op r) {ra rb : Env → Hs → R T} (σ : L2.St) (H : Hp) (Q : Bool → Hp → Prop)
    (q : tT Γ K E (tst fun σ h => (ra σ h).bind fun x h => (rb σ h).bind fun y h => .of ((op h x y).map T.bl) h) σ H Q) : tTest (tOp r (tE Γ K E ra) (tE Γ K E rb)) σ H Q := by
  obtain ⟨ι, σt, h, w, er, p⟩ := q
  refine op_of hs.op σ H _ ⟨ι, σt, h, w, er, ?_⟩
  have p' := p
  exact PostG.asB p' fun b h1 ι1 H1 w1 f1 p1 => ⟨b, rfl, p1 ι1 H1 b w1 (Fr.refl _ _) rfl⟩
theorem st_cmp {X : Cx} {op : COp} {a b : Expr} {ra rb : Env → Hs → R T} {pos : Pos} (hu : X.A.units + 65 < cLine) (ha : PE X a (tE Γ X.K E ra)) (hb : PE X b (tE Γ X.K E rb)) (hm : behindInMarks (cmpOf op) b = false) :
    PT X (.Compare a [cmpOf op] [b] pos) (tT Γ X.K E (tst fun σ h => (ra σ h).bind fun x h => (rb σ h).bind fun y h => .of ((cmpT op h x y).map T.bl) h)) := by
  obtain ⟨r, ho, hs⟩ := cmp_rule (Γ := Γ) hu op
  exact PT.weak (pt_cmpR ho ha hb hm) (tst_op hs)
/-- a < b < c -/
theorem chain_of {op op' : Hs → T → T → Option Bool} {r r' : R2} (hs : CmpS Γ K op r) (hs' : CmpS Γ K op' r') {ra rb rc : Env → Hs → R T} (σ : L2.St) (H : Hp) (Q : VK)
    (q : tE Γ K E (fun σ h => (ra σ h).bind fun x h => (rb σ h).bind fun y h => (R.of (op h x y) h).bind fun k h => if k then (rc σ h).bind fun z h => .of ((op' h y z).map T.bl) h else .ok (.bl false) h) σ H Q) :
    tChain r r' (tE Γ K E ra) (tE Γ K E rb) (tE Γ K E rc) σ H Q := by
  obtain ⟨ι, σt, h, w, er, p⟩ := q
  refine ⟨ι, σt, h, w, er, p.bind fun x h1 ι1 H1 vx w1 f1 rx p1 => ⟨ι1, σt, h1, w1, er.mono w f1.toFx, p1.bind fun y h2 ι2 H2 vy w2 f2 ry p2 => ?_⟩⟩
  cases e : op h2 x y with
  | none => rw [e] at p2; exact p2.elim
  | some b =>
    rw [e] at p2
    refine hs ι2 h2 H2 x y vx vy _ b w2 (Rep.mono w1.hr f2.toFx _ _ rx) ry e ⟨b, rfl, ?_⟩
    cases b with
    | false => exact p2 ι2 H2 _ w2 (Fr.refl _ _) (by simp only [Rep])
    | true =>
      refine ⟨ι2, σt, h2, w2, er.mono w (f1.trans f2).toFx, PostG.bind (show PostG Γ K E ι2 H2 (Rep K) ((rc σt h2).bind fun z h => .of ((op' h y z).map T.bl) h) Q from p2) fun z h3 ι3 H3 vz w3 f3 rz p3 => ?_⟩
      obtain ⟨u, hu⟩ := p3.some
      exact hs'.op ι3 h3 H3 y z vy vz Q u w3 (Rep.mono w2.hr f3.toFx _ _ ry) rz hu (p3.of hu)
end
end SH
end

section
set_option autoImplicit false
set_option linter.all false
set_option maxRecDepth 100000
/-! Strandhues: names, constants, displays, and, or, not, subscripts, isinstance. -/
namespace SH
open PySem PySem.Spec PyProof.Rows L2

/-- an expression, as a value and as a test -/
structure SE (Γ : Ga) (X : Cx) (E : XK) (e : Expr) (r : Env → Hs → R T) : Prop where
  pe : PE X e (tE Γ X.K E r)
  pt : PT X e (tT Γ X.K E (tst r))
abbrev PlainT (X : Cx) (e : Expr) : Prop := ∀ whole, isTrue e X.env whole = (do let v ← whole; standAt e.pos; holding [v] (truthy v))

section
variable {Γ : Ga} {X : Cx} {E : XK} {ι : Io} {h : Hs} {H : Hp} {pos : Pos}
/-- a test by its value -/
theorem tB_of {r : Env → Hs → R T} (σ : L2.St) (H : Hp) (Q : Bool → Hp → Prop) (q : tT Γ X.K E (tst r) σ H Q) : tB (tE Γ X.K E r) σ H Q := by
  obtain ⟨ι, σt, h, w, er, p⟩ := q
  have p' := p
  exact ⟨ι, σt, h, w, er, PostG.asB p' fun b h1 ι1 H1 w1 f1 p1 => ⟨b, rfl, p1 ι1 H1 b w1 (Fr.refl _ _) rfl⟩⟩
theorem SE.of {e : Expr} {r : Env → Hs → R T} (he : PlainT X e) (h : PE X e (tE Γ X.K E r)) : SE Γ X E e r := ⟨h, PT.weak (pt_val h he) tB_of⟩

/-! ### names, constants -/
theorem se_var {call : Calls} {i : Nat} {x : Str} (hN : X.N[i]? = some x) (hv : Vis X.env.scope x) (hd : (x == ("__debug__" : Str)) = false) (hcd : (x == ("__classdict__" : Str)) = false) :
    SE Γ X E (.Name x pos) (evE call (.var i)) := by
  refine SE.of (fun _ => rfl) (PE.weak (pe_var hN hv hd hcd) fun σ H Q q => ?_)
  obtain ⟨ι, σt, h, w, er, p⟩ := q
  simp only [evE] at p
  split at p
  · rename_i t ht
    obtain ⟨v, hv, rv⟩ := er.2 i t ht
    exact ⟨v, hv, p ι H v w (Fr.refl _ _) rv⟩
  · exact p.elim
theorem con_of {call : Calls} {t : T} {v : V} (hr : ∀ ι H, Rep X.K ι H t v) (σ : L2.St) (H : Hp) (Q : VK) (q : tE Γ X.K E (evE call (.con t)) σ H Q) : tC v σ H Q := by
  obtain ⟨ι, σt, h, w, er, p⟩ := q
  simp only [evE] at p
  exact p ι H v w (Fr.refl _ _) (hr ι H)
theorem se_non {call : Calls} {j : Nat} : SE Γ X E (.Constant .none j pos) (evE call (.con .non)) := SE.of (fun _ => rfl) (PE.weak pe_non (con_of fun _ _ => by simp only [Rep]))
theorem se_bl {call : Calls} {b : Bool} {j : Nat} : SE Γ X E (.Constant (.bool b) j pos) (evE call (.con (.bl b))) := SE.of (fun _ => rfl) (PE.weak pe_bl (con_of fun _ _ => by simp only [Rep]))
theorem se_int {call : Calls} {i : Int} {j : Nat} : SE Γ X E (.Constant (.int i) j pos) (evE call (.con (.int i))) := SE.of (fun _ => rfl) (PE.weak pe_int (con_of fun _ _ => by simp only [Rep]))
theorem se_str {call : Calls} {s : Str} {j : Nat} : SE Γ X E (.Constant (.str s) j pos) (evE call (.con (.str s))) := SE.of (fun _ => rfl) (PE.weak pe_str (con_of fun _ _ => by simp only [Rep]))
/-- a constant of the module -/
theorem se_glo {call : Calls} {k : Nat} {x : Str} {t : T} {u : Value} {v : V} (hg : Gl X x) (hm : X.mg x = some u) (r : RelV v u) (hr : ∀ ι H, Rep X.K ι H t v) (hd : (x == ("__debug__" : Str)) = false) :
    SE Γ X E (.Name x pos) (evE call (.glo k t)) := by
  refine SE.of (fun _ => rfl) (PE.weak (pe_glob hg hm r hd) fun σ H Q q => ?_)
  obtain ⟨ι, σt, h, w, er, p⟩ := q
  simp only [evE] at p
  exact p ι H v w (Fr.refl _ _) (hr ι H)

/-! ### argument lists, displays -/
theorem evEs_length {call : Calls} : ∀ {es : List SH.E} {σ : Env} {h h' : Hs} {xs : List T}, evEs call es σ h = .ok xs h' → xs.length = es.length
  | [], σ, h, h', xs, e => by
    simp only [evEs, R.ok.injEq] at e
    rw [← e.1]; rfl
  | e0 :: es, σ, h, h', xs, e => by
    simp only [evEs] at e
    cases e1 : evE call e0 σ h with
    | ok x h1 =>
      rw [e1] at e
      simp only [R.bind_ok] at e
      cases e2 : evEs call es σ h1 with
      | ok ys h2 =>
        rw [e2] at e
        simp only [R.bind_ok, R.ok.injEq] at e
        rw [← e.1, List.length_cons, List.length_cons, evEs_length e2]
      | ex c a h => rw [e2] at e; cases e
      | bad => rw [e2] at e; cases e
    | ex c a h => rw [e1] at e; cases e
    | bad => rw [e1] at e; cases e
theorem sa_nil {call : Calls} : PA X [] (tA Γ X.K E (evEs call [])) := PA.weak pa_nil fun σ H Q q => by
  obtain ⟨ι, σt, h, w, er, p⟩ := q
  simp only [evEs] at p
  exact p ι H [] w (Fr.refl _ _) (by simp only [Reps])
theorem sa_cons {call : Calls} {e : Expr} {es : List Expr} {e' : SH.E} {es' : List SH.E} (he : PE X e (tE Γ X.K E (evE call e'))) (hes : PA X es (tA Γ X.K E (evEs call es')))
    (hs : starEach (e :: es) X.env = (false, eval e X.env) :: starEach es X.env) : PA X (e :: es) (tA Γ X.K E (evEs call (e' :: es'))) := PA.weak (pa_cons he hes hs) fun σ H Q q => by
  obtain ⟨ι, σt, h, w, er, p⟩ := q
  simp only [evEs] at p
  exact ⟨ι, σt, h, w, er, p.bind fun x h1 ι1 H1 vx w1 f1 rx p1 => ⟨ι1, σt, h1, w1, er.mono w f1.toFx, p1.bind fun xs h2 ι2 H2 vs w2 f2 rxs p2 =>
    p2 ι2 H2 _ w2 (Fr.refl _ _) (by simp only [Reps]; exact ⟨Rep.mono w1.hr f2.toFx _ _ rx, rxs⟩)⟩⟩
/-- an argument list's reading behind which something is made -/
theorem args_of {call : Calls} {es : List SH.E} {f : List T → Hs → R T} {Q' : List V → Hp → Prop} {σ : L2.St} {H : Hp} {Q : VK} (q : tE Γ X.K E (fun σ h => (evEs call es σ h).bind f) σ H Q)
    (k : ∀ xs h1 ι1 H1 vs, xs.length = es.length → WS Γ X.K ι1 h1 H1 → Reps X.K ι1 H1 xs vs → PostG Γ X.K E ι1 H1 (Rep X.K) (f xs h1) Q → Q' vs H1) : tA Γ X.K E (evEs call es) σ H Q' := by
  obtain ⟨ι, σt, h, w, er, p⟩ := q
  refine ⟨ι, σt, h, w, er, ?_⟩
  have p : PostG Γ X.K E ι H (Rep X.K) ((evEs call es σt h).bind f) Q := p
  cases e : evEs call es σt h with
  | ok xs h1 =>
    rw [e] at p
    intro ι1 H1 vs w1 f1 r
    exact k xs h1 ι1 H1 vs (evEs_length e) w1 r (PostG.step f1 p)
  | ex c a h1 => rw [e] at p; exact p
  | bad => rw [e] at p; exact p
theorem se_tup {call : Calls} {es : List Expr} {es' : List SH.E} {k : Nat} (hes : PA X es (tA Γ X.K E (evEs call es'))) (hl : es'.length ≤ 1000) : SE Γ X E (.Tuple es k pos) (evE call (.tup es')) := by
  refine SE.of (fun _ => rfl) (PE.weak (pe_tupD hes) fun σ H Q q => ?_)
  simp only [evE] at q
  refine args_of q fun xs h1 ι1 H1 vs el w1 r p => ?_
  have l1 : xs.length ≤ LINE := by show _ ≤ 16777216; omega
  exact ⟨by rw [← r.length]; exact le_line l1, fun pp us hp hv => p ι1 _ _ (w1.new hp) (Fr.new hp) (rep_tup w1 hp l1 r)⟩

/-! ### lists that are new -/
/-- a new list: it stands at an address that was free, and nothing else leads to it -/
def Fresh (K : PySem.W.Frag) (H₀ : Hp) : Io → Hp → T → V → Prop := fun ι H t v => ∃ (xs : List T) (vs : List V) (p : Addr) (hid : List Addr), t = .lst xs ∧ v = .ref p ∧ ι.hid = hid ++ [p] ∧ H₀ p = none ∧ H p = some (.lst vs) ∧ (∀ i : Nat, ι.cs[i]? ≠ some (some p)) ∧ xs.length ≤ LINE ∧
  Reps K ι H xs vs ∧ p ∉ hid
/-- what is wanted of a new list: the outcome's world has it still hidden -/
def PostF (Γ : Ga) (K : PySem.W.Frag) (E : XK) (ι : Io) (H : Hp) (r : R T) (Q : VK) : Prop := match r with
  | .ok t h' => ∀ (ι' : Io) (H' : Hp) (xs : List T) (vs : List V) (p : Addr), t = .lst xs → WS Γ K ⟨ι'.cs, ι'.hid ++ [p]⟩ h' H' → Fr ι H ι' H' → Nw H p → H' p = some (.lst vs) → ι'.no p → xs.length ≤ LINE →
      Reps K ⟨ι'.cs, ι'.hid ++ [p]⟩ H' xs vs → Q (.ref p) H'
  | .ex c a h' => ∀ (ι' : Io) (H' : Hp) (cls : Value) (d : Option Addr), WS Γ K ι' h' H' → Fr ι H ι' H' → ExR Γ K c a ι' H' cls d → E cls d H'
  | .bad => False
def tF (Γ : Ga) (K : PySem.W.Frag) (E : XK) (r : Env → Hs → R T) : TE := fun σ H Q => ∃ ι σt h, WS Γ K ι h H ∧ EnvR K ι H σt σ ∧ PostF Γ K E ι H (r σt h) Q
theorem PostF.step {K : PySem.W.Frag} {ι ι1 : Io} {H H1 : Hp} {r : R T} {Q : VK} (f : Fr ι H ι1 H1) (p : PostF Γ K E ι H r Q) : PostF Γ K E ι1 H1 r Q := by
  cases r with
  | ok t h => exact fun ι' H' xs vs pp e w g e0 e1 n l q => p ι' H' xs vs pp e w (f.trans g) (f.free e0) e1 n l q
  | ex c a h => exact fun ι' H' cls d w g q => p ι' H' cls d w (f.trans g) q
  | bad => exact p
theorem show_reps {K : PySem.W.Frag} {ι : Io} {p : Addr} {H : Hp} {xs : List T} {vs : List V} (r : Reps K ⟨ι.cs, ι.hid ++ [p]⟩ H xs vs) : Reps K ι H xs vs :=
  Reps.bar (ι := ⟨ι.cs, ι.hid ++ [p]⟩) (ι' := ι) (fun a n => ⟨n.1, fun z => n.2 (List.mem_append_left _ z)⟩) (fun i o z => .inl z) xs vs r
theorem WS.show {K : PySem.W.Frag} {ι : Io} {h : Hs} {H : Hp} {p : Addr} (w : WS Γ K ⟨ι.cs, ι.hid ++ [p]⟩ h H) : WS Γ K ι h H := ⟨HR.show (ι := ι) w.hr, w.tb⟩
/-- a new list is a value -/
theorem tF_of_tE {K : PySem.W.Frag} {r : Env → Hs → R T} (hr : ∀ σ h t h', r σ h = .ok t h' → ∃ xs, t = .lst xs) (σ : L2.St) (H : Hp) (Q : VK) (q : tE Γ K E r σ H Q) : tF Γ K E r σ H Q := by
  obtain ⟨ι, σt, h, w, er, p⟩ := q
  refine ⟨ι, σt, h, w, er, ?_⟩
  cases e : r σt h with
  | ok t h1 =>
    rw [e] at p
    intro ι' H' xs vs pp et w1 f1 e0 e1 n l rr
    subst et
    refine p ι' H' _ w1.show f1 ?_
    simp only [Rep]
    exact ⟨pp, vs, rfl, e1, n, l, show_reps rr⟩
  | ex c a h1 => rw [e] at p; exact p
  | bad => rw [e] at p; exact p
theorem sf_lst {call : Calls} {es : List Expr} {es' : List SH.E} (hes : PA X es (tA Γ X.K E (evEs call es'))) (hl : es'.length ≤ 1000) : PE X (.List es pos) (tF Γ X.K E (evE call (.lst es'))) := by
  refine PE.weak (pe_lst hes) fun σ H Q q => ?_
  obtain ⟨ι, σt, h, w, er, p⟩ := q
  simp only [evE] at p
  refine ⟨ι, σt, h, w, er, ?_⟩
  cases e : evEs call es' σt h with
  | ok xs h1 =>
    rw [e] at p
    intro ι1 H1 vs w1 f1 r
    have el := evEs_length e
    have l1 : xs.length ≤ LINE := by show _ ≤ 16777216; omega
    exact ⟨by rw [← r.length]; exact le_line l1, fun pp hp => p ι1 _ xs vs pp rfl (w1.newHid hp) (f1.trans (Fr.new hp)) (f1.free (Nw.none hp)) upd_same (w1.fresh hp) l1 (Reps.mono w1.hr (Fx.newHid hp) _ _ r)⟩
  | ex c a h1 => rw [e] at p; exact p
  | bad => rw [e] at p; exact p
theorem ok_lst {call : Calls} {es' : List SH.E} (σ : Env) (h : Hs) (t : T) (h' : Hs) (e : evE call (.lst es') σ h = .ok t h') : ∃ xs, t = .lst xs := by
  simp only [evE] at e
  cases e1 : evEs call es' σ h with
  | ok xs h1 => rw [e1] at e; simp only [R.bind_ok, R.ok.injEq] at e; exact ⟨xs, e.1.symm⟩
  | ex c a h1 => rw [e1] at e; cases e
  | bad => rw [e1] at e; cases e
theorem se_lst {call : Calls} {es : List Expr} {es' : List SH.E} (hes : PA X es (tA Γ X.K E (evEs call es'))) (hl : es'.length ≤ 1000) : SE Γ X E (.List es pos) (evE call (.lst es')) :=
  SE.of (fun _ => rfl) (PE.weak (sf_lst hes hl) (tF_of_tE ok_lst))
/-- a new list becomes a cell -/
theorem new_of {K : PySem.W.Frag} {call : Calls} {e' : SH.E} (σ : L2.St) (H : Hp) (Q : VK) (q : tE Γ K E (evE call (.new e')) σ H Q) : tF Γ K E (evE call e') σ H Q := by
  obtain ⟨ι, σt, h, w, er, p⟩ := q
  simp only [evE] at p
  refine ⟨ι, σt, h, w, er, ?_⟩
  cases e1 : evE call e' σt h with
  | ok t h1 =>
    rw [e1] at p
    intro ι' H' xs vs pp et w1 f1 e0 e2 n l rr
    subst et
    simp only [R.bind_ok] at p
    have hl : ι'.cs.length = h1.length := w1.hr.len
    have hr := HR.push (cs := ι'.cs) (hs := ι'.hid) w1.hr e2 n.1 n.2 l rr
    refine p ⟨ι'.cs ++ [some pp], ι'.hid⟩ H' _ ⟨hr, w1.tb⟩ ⟨⟨fun i a z => ?_, fun i o z => ?_, f1.keep, f1.trk, f1.hx⟩, f1.hid⟩ ?_
    · rcases push_at z with ⟨z, _⟩ | ⟨_, z⟩
      · exact f1.ext i a z
      · cases z; exact .inr e0
    · have key : ∀ o', ι'.cs[i]? = some o' → (ι'.cs ++ [some pp])[i]? = some o' := fun o' z' => by
        rw [List.getElem?_append_left (List.getElem?_eq_some_iff.mp z').1]; exact z'
      rcases f1.old i o z with y | y
      · exact .inl (key _ y)
      · exact .inr (key _ y)
    · simp only [Rep]
      have : (ι'.cs ++ [some pp])[h1.length]? = some (some pp) := by
        rw [← hl, List.getElem?_append_right (Nat.le_refl _)]
        simp
      rw [this]
  | ex c a h1 => rw [e1] at p; exact p
  | bad => rw [e1] at p; exact p
theorem se_new {call : Calls} {e : Expr} {e' : SH.E} (hp : PlainT X e) (he : PE X e (tF Γ X.K E (evE call e'))) : SE Γ X E e (evE call (.new e')) := SE.of hp (PE.weak he new_of)

/-! ### small ones -/
theorem se_bin' {op : BOp} {a b : Expr} {ra rb : Env → Hs → R T} (ha : PE X a (tE Γ X.K E ra)) (hb : PE X b (tE Γ X.K E rb)) :
    SE Γ X E (.BinOp a (opOf op) b pos) (fun σ h => (ra σ h).bind fun x h => (rb σ h).bind fun y h => .of (binT op h x y) h) := SE.of (fun _ => rfl) (se_bin ha hb)
theorem se_neg {call : Calls} {a : Expr} {a' : SH.E} (ha : PE X a (tE Γ X.K E (evE call a'))) : SE Γ X E (.UnaryOp .USub a pos) (evE call (.neg a')) := by
  refine SE.of (fun _ => rfl) (PE.weak (pe_un un_neg ha) fun σ H Q q => ?_)
  obtain ⟨ι, σt, h, w, er, p⟩ := q
  simp only [evE] at p
  refine ⟨ι, σt, h, w, er, p.bind fun x h1 ι1 H1 vx w1 f1 rx p1 => ?_⟩
  cases x with
  | int i =>
    simp only [Rep] at rx
    exact ⟨i, rx, p1 ι1 H1 _ w1 (Fr.refl _ _) (by simp only [Rep])⟩
  | _ => exact p1.elim
theorem rep_non {K : PySem.W.Frag} {ι : Io} {H : Hp} {x : T} {v : V} {b : Bool} (r : Rep K ι H x v) (e : isNT x = some b) : decide (v = .non) = b := by
  cases x with
  | non => simp only [Rep] at r; subst r; simp only [isNT, Option.some.injEq] at e; subst e; rfl
  | bl b => simp only [Rep] at r; subst r; simp only [isNT, Option.some.injEq] at e; subst e; rfl
  | int b => simp only [Rep] at r; subst r; simp only [isNT, Option.some.injEq] at e; subst e; rfl
  | str b => simp only [Rep] at r; subst r; simp only [isNT, Option.some.injEq] at e; subst e; rfl
  | tup b => simp only [Rep] at r; obtain ⟨a, vs, rfl, _⟩ := r; simp only [isNT, Option.some.injEq] at e; subst e; rfl
  | lst b => simp only [Rep] at r; obtain ⟨a, vs, rfl, _⟩ := r; simp only [isNT, Option.some.injEq] at e; subst e; rfl
  | scr b => simp only [Rep] at r; obtain ⟨a, rfl, _⟩ := r; simp only [isNT, Option.some.injEq] at e; subst e; rfl
  | ref a => simp [isNT] at e
  | fn a => simp [isNT] at e
theorem isn_of {K : PySem.W.Frag} {call : Calls} {a' : SH.E} (σ : L2.St) (H : Hp) (Q : VK) (q : tE Γ K E (evE call (.isN a')) σ H Q) : tIsN (tE Γ K E (evE call a')) σ H Q := by
  obtain ⟨ι, σt, h, w, er, p⟩ := q
  simp only [evE] at p
  refine ⟨ι, σt, h, w, er, p.bind fun x h1 ι1 H1 vx w1 f1 rx p1 => ?_⟩
  cases e : isNT x with
  | none => rw [e] at p1; exact p1.elim
  | some b =>
    rw [e] at p1
    rw [rep_non rx e]
    exact p1 ι1 H1 _ w1 (Fr.refl _ _) (by simp only [Rep])
theorem notn_of {K : PySem.W.Frag} {call : Calls} {a' : SH.E} (σ : L2.St) (H : Hp) (Q : VK) (q : tE Γ K E (evE call (.notN a')) σ H Q) : tNotN (tE Γ K E (evE call a')) σ H Q := by
  obtain ⟨ι, σt, h, w, er, p⟩ := q
  simp only [evE] at p
  refine ⟨ι, σt, h, w, er, p.bind fun x h1 ι1 H1 vx w1 f1 rx p1 => ?_⟩
  cases e : isNT x with
  | none => rw [e] at p1; exact p1.elim
  | some b =>
    rw [e] at p1
    rw [rep_non rx e]
    exact p1 ι1 H1 _ w1 (Fr.refl _ _) (by simp only [Rep])
/-- a comparison as a test, by its value -/
theorem pt_of_pc {op : CmpOp} {a b : Expr} {r : Env → Hs → R T} {t : TE} (hc : PC X op a b t) (hq : ∀ σ H Q, tE Γ X.K E r σ H Q → t σ H Q) (h1 : behindInMarks op b = false) : PT X (.Compare a [op] [b] pos) (tT Γ X.K E (tst r)) :=
  PT.weak (pt_cmp hc h1) fun σ H Q q => hq σ H _ (tB_of σ H Q q)

theorem st_isN {call : Calls} {a : Expr} {a' : SH.E} {j : Nat} {p2 : Pos} (ha : PE X a (tE Γ X.K E (evE call a'))) : SE Γ X E (.Compare a [.Is] [.Constant .none j p2] pos) (evE call (.isN a')) :=
  ⟨PE.weak (pe_cmp (pc_isN ha)) isn_of, pt_of_pc (pc_isN ha) isn_of rfl⟩
theorem st_notN {call : Calls} {a : Expr} {a' : SH.E} {j : Nat} {p2 : Pos} (ha : PE X a (tE Γ X.K E (evE call a'))) : SE Γ X E (.Compare a [.IsNot] [.Constant .none j p2] pos) (evE call (.notN a')) :=
  ⟨PE.weak (pe_cmp (pc_notN ha)) notn_of, pt_of_pc (pc_notN ha) notn_of rfl⟩

/-! ### and, or, not, if -/
theorem st_not {call : Calls} {a : Expr} {a' : SH.E} (ha : SE Γ X E a (evE call a')) : SE Γ X E (.UnaryOp .Not a pos) (evE call (.notE a')) := by
  refine ⟨PE.weak (pe_not ha.pe) fun σ H Q q => ?_, PT.weak (pt_not ha.pt) fun σ H Q q => ?_⟩
  · obtain ⟨ι, σt, h, w, er, p⟩ := q
    simp only [evE] at p
    exact ⟨ι, σt, h, w, er, PostG.asB p fun b h1 ι1 H1 w1 f1 p1 => ⟨b, rfl, p1 ι1 H1 _ w1 (Fr.refl _ _) (by simp only [Rep])⟩⟩
  · obtain ⟨ι, σt, h, w, er, p⟩ := q
    simp only [tst, evE] at p
    refine ⟨ι, σt, h, w, er, PostG.asBT (ρ' := same) (f := fun k h => .ok (!k) h) (Q := Q) ?_ fun b h1 ι1 H1 w1 f1 p1 => p1 ι1 H1 _ w1 (Fr.refl _ _) rfl⟩
    cases e : evE call a' σt h with
    | ok t h1 => rw [e] at p; cases t <;> exact p
    | ex c a h1 => rw [e] at p; exact p
    | bad => rw [e] at p; exact p
/-- an and's, an or's rest -/
structure SB (Γ : Ga) (X : Cx) (E : XK) (e : Expr) (r : Env → Hs → R T) : Prop where
  pe : PE X e (tE Γ X.K E r)
  pw : PW X e (tT Γ X.K E (tst r))
theorem SB.se {e : Expr} {r : Env → Hs → R T} (s : SB Γ X E e r) : SE Γ X E e r := ⟨s.pe, s.pw.pt⟩
theorem sb_and1 {a : Expr} {r : Env → Hs → R T} (ha : SE Γ X E a r) : SB Γ X E (.BoolOp .And [a] pos) r := ⟨pe_one ha.pe, pw_and1 ha.pt⟩
theorem sb_or1 {a : Expr} {r : Env → Hs → R T} (ha : SE Γ X E a r) : SB Γ X E (.BoolOp .Or [a] pos) r := ⟨pe_one ha.pe, pw_or1 ha.pt⟩
theorem sb_and {call : Calls} {a b : Expr} {rest : List Expr} {a' b' : SH.E} (ha : SE Γ X E a (evE call a')) (hb : SB Γ X E (.BoolOp .And (b :: rest) pos) (evE call b')) : SB Γ X E (.BoolOp .And (a :: b :: rest) pos) (evE call (.andE a' b')) := by
  refine ⟨PE.weak (pe_and ha.pe hb.pe) fun σ H Q q => ?_, PW.weak (pw_and ha.pt hb.pw) fun σ H Q q => ?_⟩
  · obtain ⟨ι, σt, h, w, er, p⟩ := q
    simp only [evE] at p
    refine ⟨ι, σt, h, w, er, PostG.asB p fun b h1 ι1 H1 w1 f1 p1 => ⟨b, rfl, ?_⟩⟩
    cases b with
    | false => exact p1 ι1 H1 _ w1 (Fr.refl _ _) (by simp only [Rep])
    | true => exact ⟨ι1, σt, h1, w1, er.mono w f1.toFx, PostG.asB (show PostG Γ X.K E ι1 H1 (Rep X.K) (SH.asB (evE call b' σt h1) fun k h => .ok (.bl k) h) Q from p1) fun b h2 ι2 H2 w2 f2 p2 => p2 ι2 H2 _ w2 (Fr.refl _ _) (by simp only [Rep])⟩
  · obtain ⟨ι, σt, h, w, er, p⟩ := q
    simp only [tst, evE] at p
    refine ⟨ι, σt, h, w, er, PostG.asBT (ρ' := same) (f := fun k h => if k then SH.asB (evE call b' σt h) fun k h => .ok k h else .ok false h) (Q := Q) ?_ fun b h1 ι1 H1 w1 f1 p1 => ?_⟩
    · cases e : evE call a' σt h with
      | ok t h1 =>
        rw [e] at p
        cases t with
        | bl k =>
          cases k with
          | false => exact p
          | true =>
            simp only [asB_ok, if_true] at p ⊢
            cases e2 : evE call b' σt h1 with
            | ok t2 h2 => rw [e2] at p; cases t2 <;> exact p
            | ex c a h2 => rw [e2] at p; exact p
            | bad => rw [e2] at p; exact p
        | _ => exact p
      | ex c a h1 => rw [e] at p; exact p
      | bad => rw [e] at p; exact p
    · cases b with
      | false => exact p1 ι1 H1 _ w1 (Fr.refl _ _) rfl
      | true => exact ⟨ι1, σt, h1, w1, er.mono w f1.toFx, p1⟩
theorem sb_or {call : Calls} {a b : Expr} {rest : List Expr} {a' b' : SH.E} (ha : SE Γ X E a (evE call a')) (hb : SB Γ X E (.BoolOp .Or (b :: rest) pos) (evE call b')) : SB Γ X E (.BoolOp .Or (a :: b :: rest) pos) (evE call (.orE a' b')) := by
  refine ⟨PE.weak (pe_or ha.pe hb.pe) fun σ H Q q => ?_, PW.weak (pw_or ha.pt hb.pw) fun σ H Q q => ?_⟩
  · obtain ⟨ι, σt, h, w, er, p⟩ := q
    simp only [evE] at p
    refine ⟨ι, σt, h, w, er, PostG.asB p fun b h1 ι1 H1 w1 f1 p1 => ⟨b, rfl, ?_⟩⟩
    cases b with
    | true => exact p1 ι1 H1 _ w1 (Fr.refl _ _) (by simp only [Rep])
    | false => exact ⟨ι1, σt, h1, w1, er.mono w f1.toFx, PostG.asB (show PostG Γ X.K E ι1 H1 (Rep X.K) (SH.asB (evE call b' σt h1) fun k h => .ok (.bl k) h) Q from p1) fun b h2 ι2 H2 w2 f2 p2 => p2 ι2 H2 _ w2 (Fr.refl _ _) (by simp only [Rep])⟩
  · obtain ⟨ι, σt, h, w, er, p⟩ := q
    simp only [tst, evE] at p
    refine ⟨ι, σt, h, w, er, PostG.asBT (ρ' := same) (f := fun k h => if k then .ok true h else SH.asB (evE call b' σt h) fun k h => .ok k h) (Q := Q) ?_ fun b h1 ι1 H1 w1 f1 p1 => ?_⟩
    · cases e : evE call a' σt h with
      | ok t h1 =>
        rw [e] at p
        cases t with
        | bl k =>
          cases k with
          | true => exact p
          | false =>
            simp only [asB_ok, Bool.false_eq_true, if_false] at p ⊢
            cases e2 : evE call b' σt h1 with
            | ok t2 h2 => rw [e2] at p; cases t2 <;> exact p
            | ex c a h2 => rw [e2] at p; exact p
            | bad => rw [e2] at p; exact p
        | _ => exact p
      | ex c a h1 => rw [e] at p; exact p
      | bad => rw [e] at p; exact p
    · cases b with
      | true => exact p1 ι1 H1 _ w1 (Fr.refl _ _) rfl
      | false => exact ⟨ι1, σt, h1, w1, er.mono w f1.toFx, p1⟩
/-- a if c else b as a test -/
theorem pt_ifExp {c a b : Expr} {tc ta tb : TT} (hc : PT X c tc) (ha : PT X a ta) (hb : PT X b tb) : PT X (.IfExp c a b pos) (fun σ H Q => tc σ H fun k H1 => if k = true then ta σ H1 Q else tb σ H1 Q) := by
  refine ⟨fun pins s σ H Q I h => ?_⟩
  show wpAny (model X.prog X.w) X.A (do if ← isTrue c X.env (eval c X.env) then isTrue a X.env (eval a X.env) else isTrue b X.env (eval b X.env)) _ _ s
  refine wpAny_bind (thn (hc.run pins s σ H _ I h) fun k s1 ⟨H1, I1, q1⟩ => ?_)
  cases k with
  | true => exact ha.run pins s1 σ H1 Q I1 q1
  | false => exact hb.run pins s1 σ H1 Q I1 q1
theorem se_ite {call : Calls} {c a b : Expr} {c' a' b' : SH.E} (hc : SE Γ X E c (evE call c')) (ha : SE Γ X E a (evE call a')) (hb : SE Γ X E b (evE call b')) : SE Γ X E (.IfExp c a b pos) (evE call (.ite c' a' b')) := by
  refine ⟨PE.weak (pe_ifExp hc.pt ha.pe hb.pe) fun σ H Q q => ?_, PT.weak (pt_ifExp hc.pt ha.pt hb.pt) fun σ H Q q => ?_⟩
  · obtain ⟨ι, σt, h, w, er, p⟩ := q
    simp only [evE] at p
    refine ⟨ι, σt, h, w, er, PostG.asBT p fun b h1 ι1 H1 w1 f1 p1 => ?_⟩
    cases b with
    | true => exact ⟨ι1, σt, h1, w1, er.mono w f1.toFx, p1⟩
    | false => exact ⟨ι1, σt, h1, w1, er.mono w f1.toFx, p1⟩
  · obtain ⟨ι, σt, h, w, er, p⟩ := q
    simp only [tst, evE] at p
    refine ⟨ι, σt, h, w, er, PostG.asBT (ρ' := same) (f := fun k h => if k then SH.asB (evE call a' σt h) fun b h => .ok b h else SH.asB (evE call b' σt h) fun b h => .ok b h) (Q := Q) ?_ fun b h1 ι1 H1 w1 f1 p1 => ?_⟩
    · cases e : evE call c' σt h with
      | ok t h1 =>
        rw [e] at p
        cases t with
        | bl k => cases k <;> exact p
        | _ => exact p
      | ex c a h1 => rw [e] at p; exact p
      | bad => rw [e] at p; exact p
    · cases b with
      | true => exact ⟨ι1, σt, h1, w1, er.mono w f1.toFx, p1⟩
      | false => exact ⟨ι1, σt, h1, w1, er.mono w f1.toFx, p1⟩
end
end SH
end

section
set_option autoImplicit false
set_option linter.all false
set_option maxRecDepth 100000
/-! Strandhues: subscripts, slices, built-in functions. -/
namespace SH
open PySem PySem.Spec PyProof.Rows L2

/-- the forms of expressions that are met -/
def frm : Expr → Bool
  | .BoolOp .. => true
  | .BinOp .. => true
  | .UnaryOp .. => true
  | .IfExp .. => true
  | .ListComp .. => true
  | .Compare .. => true
  | .Call .. => true
  | .Constant .. => true
  | .Attribute .. => true
  | .Subscript .. => true
  | .Name .. => true
  | .List .. => true
  | .Tuple .. => true
  | _ => false
theorem frm_star {e : Expr} (h : frm e = true) (es : List Expr) (env : PySem.Env) : starEach (e :: es) env = (false, eval e env) :: starEach es env := by
  cases e <;> first | rfl | exact absurd h Bool.false_ne_true
theorem frm_fold {e : Expr} (h : frm e = true) (env : PySem.Env) (x : Value) : foldedSetIterable e env x = pure x := by
  cases e <;> first | rfl | exact absurd h Bool.false_ne_true
theorem frm_mark {e : Expr} (h : frm e = true) (op : CmpOp) : behindInMarks op e = false := by
  cases e <;> first | rfl | exact absurd h Bool.false_ne_true
theorem frm_ix {e : Expr} (h : frm e = true) : PlainIx e := by
  cases e <;> first | (exact fun _ _ => rfl) | exact absurd h Bool.false_ne_true
theorem frms_any : ∀ {es : List Expr}, es.all frm = true → ∀ (pos : Pos) (env : PySem.Env), (backTo pos (starEach es env)).any (·.1) = false
  | [], _, _, _ => rfl
  | e :: es, h, pos, env => by
    rw [List.all_cons, Bool.and_eq_true] at h
    rw [frm_star h.1]
    show (false || (backTo pos (starEach es env)).any (·.1)) = false
    rw [frms_any h.2 pos env]
    rfl
/-- what a method is called of -/
def baseOk : Expr → Bool
  | .Call _ (_ :: _) _ _ => true
  | .Call .. => false
  | _ => true
theorem base_of {e : Expr} (h : baseOk e = true) (attr : Str) (env : PySem.Env) (whole : Sem Value) : attributeBase e attr env whole = whole := by
  cases e <;> first | rfl | skip
  rename_i f as ks p
  cases as with
  | nil => exact absurd h Bool.false_ne_true
  | cons a as => cases f <;> rfl

section
variable {Γ : Ga} {X : Cx} {E : XK} {ι : Io} {h : Hs} {H : Hp} {pos : Pos} {call : Calls}

/-! ### subscripts -/
theorem atI_rep {K : PySem.W.Frag} {ts : List T} {vs : List V} {i : Int} {t : T} (r : Reps K ι H ts vs) (e : L2.atI ts i = some t) : ∃ v, L2.atI vs i = some v ∧ Rep K ι H t v := by
  unfold L2.atI at e ⊢
  rw [← r.length]
  cases q : ixN ts.length i with
  | none => rw [q] at e; cases e
  | some j =>
    rw [q] at e
    exact r.get (show ts[j]? = some t from e)
theorem hs_idx {K : PySem.W.Frag} : OpS Γ K idxT (rIx K) := by
  intro ι h H x y vx vy Q z w rx ry e q
  cases y with
  | int k =>
    simp only [idxT] at e
    split at e
    · rename_i xs hs
      simp only [Rep] at ry
      obtain ⟨a, vs, e1, s, r, _⟩ := seq_rep w rx hs
      obtain ⟨v, e2, rv⟩ := atI_rep r e
      rcases s with s | s
      · exact .inl ⟨a, vs, k, v, e1, ry, s, e2, q ι H v w (Fr.refl _ _) rv⟩
      · exact .inr (.inl ⟨a, vs, k, v, e1, ry, s, e2, q ι H v w (Fr.refl _ _) rv⟩)
    · cases e
  | _ => simp [idxT] at e
theorem se_idx {a i : Expr} {a' i' : SH.E} (fi : frm i = true) (ha : PE X a (tE Γ X.K E (evE call a'))) (hi : PE X i (tE Γ X.K E (evE call i'))) : SE Γ X E (.Subscript a i pos) (evE call (.idx a' i')) := by
  refine SE.of (fun _ => rfl) (PE.weak (pe_ix ix_seq ha hi (frm_ix fi)) fun σ H Q q => op_of hs_idx σ H Q ?_)
  simpa only [evE] using q

/-! ### slices -/
abbrev tO (Γ : Ga) (K : PySem.W.Frag) (E : XK) (r : SH.Env → Hs → R (Option Int)) : TO := tG Γ K E same r
theorem so_none : PO X none (tO Γ X.K E (evO call none)) := by
  refine ⟨fun pins s σ H Q I q => po_none.run pins s σ H Q I ?_⟩
  obtain ⟨ι, σt, h, w, er, p⟩ := q
  simp only [evO] at p
  exact p ι H none w (Fr.refl _ _) rfl
theorem so_some {e : Expr} {e' : SH.E} (he : PE X e (tE Γ X.K E (evE call e'))) : PO X (some e) (tO Γ X.K E (evO call (some e'))) := by
  refine ⟨fun pins s σ H Q I q => (po_some he).run pins s σ H Q I ?_⟩
  obtain ⟨ι, σt, h, w, er, p⟩ := q
  simp only [evO] at p
  refine ⟨ι, σt, h, w, er, p.bind fun x h1 ι1 H1 vx w1 f1 rx p1 => ?_⟩
  cases x with
  | int i =>
    simp only [Rep] at rx
    exact ⟨i, rx, p1 ι1 H1 _ w1 (Fr.refl _ _) rfl⟩
  | _ => exact p1.elim
abbrev rSl2 (K : PySem.W.Frag) : V → Option Int → Option Int → Hp → VK → Prop := fun x lo hi H Q => rSlD K x lo hi H Q ∨ rSlL K x lo hi H Q
theorem cut_rep {K : PySem.W.Frag} {ts : List T} {vs : List V} (r : Reps K ι H ts vs) (lo hi : Option Int) : Reps K ι H (cutT ts lo hi) (cutV vs lo hi) := by
  unfold cutT cutV
  rw [r.length]
  exact (r.drop _).take _
theorem cut_len (ts : List T) (lo hi : Option Int) : (cutT ts lo hi).length ≤ ts.length := by
  unfold cutT
  rw [List.length_take, List.length_drop]
  omega
theorem cut_all (ts : List T) (lo hi : Option Int) (h : HT.sIx ts.length 0 lo = 0 ∧ HT.sIx ts.length ts.length hi = ts.length) : cutT ts lo hi = ts := by
  unfold cutT
  rw [h.1, h.2]
  simp
theorem sl_core {K : PySem.W.Frag} {x z : T} {vx : V} {Q : VK} {lo hi : Option Int} (w : WS Γ K ι h H) (rx : Rep K ι H x vx) (e : slcT h x lo hi = some z)
    (q : ∀ ι' H' v, WS Γ K ι' h H' → Fr ι H ι' H' → Rep K ι' H' z v → Q v H') : rSl2 K vx lo hi H Q := by
  have key : ∀ ys, (∀ zs, x ≠ .tup zs) → seqOf h x = some ys → z = .lst (cutT ys lo hi) → rSl2 K vx lo hi H Q := fun ys nt hs ez => by
    obtain ⟨a, vs, e1, s, r, l⟩ := isLst_seq w rx nt hs
    subst ez
    exact .inr ⟨a, vs, e1, s, fun p hp => q ι _ _ (w.new hp) (Fr.new hp) (rep_new w hp (Nat.le_trans (cut_len _ _ _) l) (cut_rep r _ _))⟩
  cases x with
  | tup xs =>
    simp only [slcT, Option.some.injEq] at e
    subst e
    have rx' := rx
    simp only [Rep] at rx
    obtain ⟨a, vs, e1, s, l, r⟩ := rx
    refine .inl ⟨a, vs, e1, s.sq, fun hw => ?_, fun _ p us hp hv => q ι _ _ (w.new hp) (Fr.new hp) (rep_tup w hp (Nat.le_trans (cut_len _ _ _) l) (cut_rep r _ _))⟩
    rw [← r.length] at hw
    rw [← e1]
    exact q ι H _ w (Fr.refl _ _) (by rw [cut_all _ _ _ hw]; exact rx')
  | _ =>
    simp only [slcT] at e
    split at e
    · rename_i ys hs
      cases e
      exact key ys (fun _ z => by cases z) hs rfl
    · cases e
theorem se_slc {a : Expr} {lo hi : Option Expr} {a' : SH.E} {lo' hi' : Option SH.E} {p2 : Pos} (ha : PE X a (tE Γ X.K E (evE call a'))) (hl : PO X lo (tO Γ X.K E (evO call lo'))) (hh : PO X hi (tO Γ X.K E (evO call hi'))) :
    SE Γ X E (.Subscript a (.Slice lo hi none p2) pos) (evE call (.slc a' lo' hi')) := by
  refine SE.of (fun _ => rfl) (PE.weak (pe_slice (sl_tupD.or sl_list) ha hl hh) fun σ H Q q => ?_)
  obtain ⟨ι, σt, h, w, er, p⟩ := q
  simp only [evE] at p
  refine ⟨ι, σt, h, w, er, p.bind fun x h1 ι1 H1 vx w1 f1 rx p1 => ⟨ι1, σt, h1, w1, er.mono w f1.toFx, p1.bind fun l h2 ι2 H2 vl w2 f2 rl p2 => ?_⟩⟩
  subst rl
  refine ⟨ι2, σt, h2, w2, er.mono w (f1.trans f2).toFx, p2.bind fun u h3 ι3 H3 vu w3 f3 ru p3 => ?_⟩
  subst ru
  obtain ⟨z, hz⟩ := p3.some
  exact sl_core w3 (Rep.mono w1.hr (f2.trans f3).toFx _ _ rx) hz (p3.of hz)

/-! ### isinstance -/
def tyN : Ty → String
  | .int => "int"
  | .bool => "bool"
  | .tuple => "tuple"
  | .str => "str"
  | .list => "list"
theorem isi_core {K : PySem.W.Frag} {x : T} {vx : V} {ty : Ty} {b : Bool} (w : WS Γ K ι h H) (rx : Rep K ι H x vx) (e : isiT h ty x = some b) : ∃ t, TyX K H vx t ∧ PySem.W.kitOne K t (.type (tyN ty)) = some b := by
  cases x with
  | non =>
    simp only [Rep] at rx; subst rx
    simp only [isiT, Option.some.injEq] at e; subst e
    exact ⟨_, .base .non, by cases ty <;> exact kit_ty (by decide +kernel)⟩
  | bl y =>
    simp only [Rep] at rx; subst rx
    simp only [isiT, Option.some.injEq] at e; subst e
    exact ⟨_, .base (.bl _), by cases ty <;> exact kit_ty (by decide +kernel)⟩
  | int y =>
    simp only [Rep] at rx; subst rx
    simp only [isiT, Option.some.injEq] at e; subst e
    exact ⟨_, .base (.int _), by cases ty <;> exact kit_ty (by decide +kernel)⟩
  | str y =>
    simp only [Rep] at rx; subst rx
    simp only [isiT, Option.some.injEq] at e; subst e
    exact ⟨_, .base (.str _), by cases ty <;> exact kit_ty (by decide +kernel)⟩
  | tup xs =>
    simp only [Rep] at rx
    obtain ⟨a, vs, rfl, s, _⟩ := rx
    simp only [isiT, Option.some.injEq] at e; subst e
    refine ⟨.type "tuple", ?_, by cases ty <;> exact kit_ty (by decide +kernel)⟩
    rcases s with ⟨o, s, _⟩ | ⟨o, _, _, s, c, _⟩
    · exact .fTuple s
    · exact .kTuple s c
  | lst xs =>
    simp only [Rep] at rx
    obtain ⟨a, vs, rfl, s, _⟩ := rx
    simp only [isiT, Option.some.injEq] at e; subst e
    exact ⟨.type "list", .base (.lst s), by cases ty <;> exact kit_ty (by decide +kernel)⟩
  | ref i =>
    simp only [isiT] at e
    split at e
    · rename_i ys hy
      obtain ⟨a, vs, e1, e2, _⟩ := w.hr.lst i ys hy
      simp only [Rep] at rx
      rw [e1] at rx
      have rx : vx = .ref a := rx
      subst rx
      cases e
      exact ⟨.type "list", .base (.lst e2), by cases ty <;> exact kit_ty (by decide +kernel)⟩
    · cases e
  | _ => simp [isiT] at e
/-- a built-in name that the module leaves as it is -/
structure BltOk (X : Cx) (x : Str) : Prop where
  gl : Gl X x
  mg : X.mg x = none
theorem boot_ty (ty : Ty) : bootBuiltins (Str.ofString (tyN ty)) = some (.type (tyN ty)) := by cases ty <;> decide +kernel
theorem ty_name (ty : Ty) : Str.ofString (tyN ty) ≠ "__name__" ∧ (Str.ofString (tyN ty) == ("__debug__" : Str)) = false := by cases ty <;> decide
theorem se_isi {a : Expr} {a' : SH.E} {ty : Ty} {p p2 : Pos} (b1 : BltOk X (Str.ofString "isinstance")) (b2 : BltOk X (Str.ofString (tyN ty))) (fa : frm a = true) (ha : PE X a (tE Γ X.K E (evE call a'))) :
    SE Γ X E (.Call (.Name (Str.ofString "isinstance") p) [a, .Name (Str.ofString (tyN ty)) p2] [] pos) (evE call (.isi a' ty)) := by
  have ht : PE X (.Name (Str.ofString (tyN ty)) p2) (tC (.ty (tyN ty))) := pe_bltn b2.gl b2.mg (boot_ty ty) rfl (ty_name ty).1 (ty_name ty).2
  refine SE.of (fun _ => rfl) (PE.weak (pe_callB (id := "isinstance") call_isi b1.gl b1.mg (by decide +kernel) (pa_cons ha (pa_cons ht pa_nil) (frm_star fa _ _)) (by decide) (by decide) (frm_star fa _ _) (frms_any (es := [.Name (Str.ofString (tyN ty)) p2]) rfl _ _)) fun σ H Q q => ?_)
  obtain ⟨ι, σt, h, w, er, p⟩ := q
  simp only [evE] at p
  refine ⟨ι, σt, h, w, er, p.bind fun x h1 ι1 H1 vx w1 f1 rx p1 => ?_⟩
  cases e : isiT h1 ty x with
  | none => rw [e] at p1; exact p1.elim
  | some b =>
    rw [e] at p1
    obtain ⟨t, h1, h2⟩ := isi_core w1 rx e
    exact ⟨vx, .ty (tyN ty), t, .type (tyN ty), b, rfl, .ty _, h1, h2, p1 ι1 H1 _ w1 (Fr.refl _ _) (by simp only [Rep])⟩
end
end SH
end

section
set_option autoImplicit false
set_option linter.all false
set_option maxRecDepth 100000
/-! Strandhues: calls of built-in functions. -/
namespace SH
open PySem PySem.Spec PyProof.Rows L2

section
variable {Γ : Ga} {X : Cx} {E : XK} {ι : Io} {h : Hs} {H : Hp} {pos : Pos} {call : Calls} {K : PySem.W.Frag}
/-- what a built-in's rule asks is given by the pure step -/
def BlS (Γ : Ga) (K : PySem.W.Frag) (b : Blt) (r : List V → Hp → VK → Prop) : Prop :=
  ∀ (ι : Io) (h : Hs) (H : Hp) (xs : List T) (vs : List V) (Q : VK) (z : T), WS Γ K ι h H → Reps K ι H xs vs → bltT b h xs = some z →
    (∀ ι' H' v, WS Γ K ι' h H' → Fr ι H ι' H' → Rep K ι' H' z v → Q v H') → r vs H Q
theorem blt_of {b : Blt} {r : List V → Hp → VK → Prop} (hb : BlS Γ K b r) {es' : List SH.E} (σ : L2.St) (H : Hp) (Q : VK) (q : tE Γ K E (evE call (.blt b es')) σ H Q) : tCB r (tA Γ K E (evEs call es')) σ H Q := by
  obtain ⟨ι, σt, h, w, er, p⟩ := q
  simp only [evE] at p
  refine ⟨ι, σt, h, w, er, p.bind fun xs h1 ι1 H1 vs w1 f1 rs p1 => ?_⟩
  obtain ⟨z, hz⟩ := p1.some
  exact hb ι1 h1 H1 xs vs Q z w1 rs hz (p1.of hz)
theorem reps1 {t : T} {vs : List V} (r : Reps K ι H [t] vs) : ∃ v, vs = [v] ∧ Rep K ι H t v := by
  cases vs with
  | nil => simp only [Reps] at r
  | cons v vs =>
    cases vs with
    | nil => simp only [Reps] at r; exact ⟨v, rfl, r.1⟩
    | cons u vs => simp only [Reps] at r; exact r.2.elim
theorem reps2 {t u : T} {vs : List V} (r : Reps K ι H [t, u] vs) : ∃ v w, vs = [v, w] ∧ Rep K ι H t v ∧ Rep K ι H u w := by
  cases vs with
  | nil => simp only [Reps] at r
  | cons v vs =>
    simp only [Reps] at r
    obtain ⟨w, rfl, rw⟩ := reps1 r.2
    exact ⟨v, w, rfl, r.1, rw⟩
theorem bs_len : BlS Γ K .len (fun xs H Q => ∃ x n, xs = [x] ∧ LenV K x H n ∧ Q (.int n) H) := by
  intro ι h H xs vs Q z w rs e q
  cases xs with
  | nil => simp [bltT] at e
  | cons x xs =>
    cases xs with
    | cons _ _ => simp [bltT] at e
    | nil =>
      obtain ⟨v, rfl, rx⟩ := reps1 rs
      have key : ∀ ys, seqOf h x = some ys → z = .int (ys.length : Nat) → ∃ x n, [v] = [x] ∧ LenV K x H n ∧ Q (.int n) H := fun ys hs ez => by
        subst ez
        obtain ⟨a, us, rfl, s, r, l⟩ := seq_rep w rx hs
        refine ⟨.ref a, ys.length, rfl, ?_, q ι H _ w (Fr.refl _ _) (by simp only [Rep])⟩
        rcases s with s | s
        · exact .inl ⟨us, s, r.length⟩
        · exact .inr ⟨us, s, r.length⟩
      cases x with
      | str s =>
        simp only [bltT] at e
        split at e
        · rename_i l
          cases e
          simp only [Rep] at rx
          subst rx
          exact ⟨.str s, s.length, rfl, ⟨le_line l, rfl⟩, q ι H _ w (Fr.refl _ _) (by simp only [Rep])⟩
        · cases e
      | _ =>
        simp only [bltT] at e
        split at e
        · rename_i ys hs
          cases e
          exact key ys hs rfl
        · cases e
theorem bs_intOf : BlS Γ K .intOf (fun xs H Q => (∃ i, xs = [.int i] ∧ Q (.int i) H) ∨ ∃ k, xs = [.bl k] ∧ Q (.int (if k then 1 else 0)) H) := by
  intro ι h H xs vs Q z w rs e q
  cases xs with
  | nil => simp [bltT] at e
  | cons x xs =>
    cases xs with
    | cons _ _ => simp [bltT] at e
    | nil =>
      cases x <;> simp only [bltT, Option.some.injEq, reduceCtorEq] at e
      subst e
      obtain ⟨v, rfl, rx⟩ := reps1 rs
      simp only [Rep] at rx
      subst rx
      exact .inl ⟨_, rfl, q ι H _ w (Fr.refl _ _) (by simp only [Rep])⟩
theorem bs_abs : BlS Γ K .absI (fun xs H Q => ∃ i, xs = [.int i] ∧ Q (.int (if i < 0 then -i else i)) H) := by
  intro ι h H xs vs Q z w rs e q
  cases xs with
  | nil => simp [bltT] at e
  | cons x xs =>
    cases xs with
    | cons _ _ => simp [bltT] at e
    | nil =>
      cases x <;> simp only [bltT, Option.some.injEq, reduceCtorEq] at e
      subst e
      obtain ⟨v, rfl, rx⟩ := reps1 rs
      simp only [Rep] at rx
      subst rx
      exact ⟨_, rfl, q ι H _ w (Fr.refl _ _) (by simp only [Rep])⟩
theorem bs_max2 : BlS Γ K .max2 (fun xs H Q => ∃ i j, xs = [.int i, .int j] ∧ Q (.int (if j > i then j else i)) H) := by
  intro ι h H xs vs Q z w rs e q
  cases xs with
  | nil => simp [bltT] at e
  | cons x xs =>
    cases xs with
    | nil => simp [bltT] at e
    | cons y xs =>
      cases xs with
      | cons _ _ => simp [bltT] at e
      | nil =>
        cases x <;> cases y <;> simp only [bltT, Option.some.injEq, reduceCtorEq] at e
        subst e
        obtain ⟨v, u, rfl, rx, ry⟩ := reps2 rs
        simp only [Rep] at rx ry
        subst rx ry
        exact ⟨_, _, rfl, q ι H _ w (Fr.refl _ _) (by simp only [Rep])⟩
theorem bs_min2 : BlS Γ K .min2 (fun xs H Q => ∃ i j, xs = [.int i, .int j] ∧ Q (.int (if j < i then j else i)) H) := by
  intro ι h H xs vs Q z w rs e q
  cases xs with
  | nil => simp [bltT] at e
  | cons x xs =>
    cases xs with
    | nil => simp [bltT] at e
    | cons y xs =>
      cases xs with
      | cons _ _ => simp [bltT] at e
      | nil =>
        cases x <;> cases y <;> simp only [bltT, Option.some.injEq, reduceCtorEq] at e
        subst e
        obtain ⟨v, u, rfl, rx, ry⟩ := reps2 rs
        simp only [Rep] at rx ry
        subst rx ry
        exact ⟨_, _, rfl, q ι H _ w (Fr.refl _ _) (by simp only [Rep])⟩
/-! least, greatest -/
theorem minI_spec : ∀ (ns : List Int) (m : Int), minI m ns ≤ m ∧ (∀ y ∈ ns, minI m ns ≤ y) ∧ (minI m ns = m ∨ minI m ns ∈ ns)
  | [], m => ⟨Int.le_refl _, by simp, Or.inl rfl⟩
  | x :: r, m => by
    by_cases hx : x < m
    · have e : minI m (x :: r) = minI x r := by show minI (if x < m then x else m) r = _; rw [if_pos hx]
      obtain ⟨a, b, c⟩ := minI_spec r x
      rw [e]
      refine ⟨by omega, fun y hy => ?_, ?_⟩
      · rcases List.mem_cons.mp hy with rfl | hy
        · exact a
        · exact b y hy
      · rcases c with c | c
        · rw [c]; exact .inr (List.mem_cons_self ..)
        · exact .inr (List.mem_cons_of_mem _ c)
    · have e : minI m (x :: r) = minI m r := by show minI (if x < m then x else m) r = _; rw [if_neg hx]
      obtain ⟨a, b, c⟩ := minI_spec r m
      rw [e]
      refine ⟨a, fun y hy => ?_, ?_⟩
      · rcases List.mem_cons.mp hy with rfl | hy
        · omega
        · exact b y hy
      · rcases c with c | c
        · exact .inl c
        · exact .inr (List.mem_cons_of_mem _ c)
theorem maxI_spec : ∀ (ns : List Int) (m : Int), m ≤ maxI m ns ∧ (∀ y ∈ ns, y ≤ maxI m ns) ∧ (maxI m ns = m ∨ maxI m ns ∈ ns)
  | [], m => ⟨Int.le_refl _, by simp, Or.inl rfl⟩
  | x :: r, m => by
    by_cases hx : m < x
    · have e : maxI m (x :: r) = maxI x r := by show maxI (if m < x then x else m) r = _; rw [if_pos hx]
      obtain ⟨a, b, c⟩ := maxI_spec r x
      rw [e]
      refine ⟨by omega, fun y hy => ?_, ?_⟩
      · rcases List.mem_cons.mp hy with rfl | hy
        · exact a
        · exact b y hy
      · rcases c with c | c
        · rw [c]; exact .inr (List.mem_cons_self ..)
        · exact .inr (List.mem_cons_of_mem _ c)
    · have e : maxI m (x :: r) = maxI m r := by show maxI (if m < x then x else m) r = _; rw [if_neg hx]
      obtain ⟨a, b, c⟩ := maxI_spec r m
      rw [e]
      refine ⟨a, fun y hy => ?_, ?_⟩
      · rcases List.mem_cons.mp hy with rfl | hy
        · omega
        · exact b y hy
      · rcases c with c | c
        · exact .inl c
        · exact .inr (List.mem_cons_of_mem _ c)
theorem seq_ints {x : T} {v : V} {xs : List T} {ns : List Int} (w : WS Γ K ι h H) (r : Rep K ι H x v) (e : seqOf h x = some xs) (ei : intsOf xs = some ns) : ∃ a, v = .ref a ∧ (SqL K H a (ns.map V.int) ∨ SqT K H a (ns.map V.int)) := by
  obtain ⟨a, vs, e1, s, q, _⟩ := seq_rep w r e
  rw [intsOf_map ei] at q
  rw [q.ints] at s
  exact ⟨a, e1, s⟩
theorem bs_maxL : BlS Γ K .maxL (rMaxA K) := by
  intro ι h H xs vs Q z w rs e q
  cases xs with
  | nil => simp [bltT] at e
  | cons x xs =>
    cases xs with
    | cons _ _ => simp [bltT] at e
    | nil =>
      obtain ⟨v, rfl, rx⟩ := reps1 rs
      simp only [bltT] at e
      split at e
      · rename_i ys hs
        split at e
        · rename_i n ns hn
          cases e
          obtain ⟨a, rfl, s⟩ := seq_ints w rx hs hn
          refine ⟨a, n :: ns, rfl, s, Nat.succ_pos _, fun m hm hy => ?_⟩
          obtain ⟨a1, a2, a3⟩ := maxI_spec ns n
          have e1 : m = maxI n ns := by
            have h1 : m ≤ maxI n ns := by
              rcases List.mem_cons.mp hm with rfl | hm
              · exact a1
              · exact a2 m hm
            have h2 : maxI n ns ≤ m := by
              rcases a3 with a3 | a3
              · rw [a3]; exact hy n (List.mem_cons_self ..)
              · exact hy _ (List.mem_cons_of_mem _ a3)
            omega
          subst e1
          exact q ι H _ w (Fr.refl _ _) (by simp only [Rep])
        · cases e
      · cases e
theorem bs_minL : BlS Γ K .minL (rMinA K) := by
  intro ι h H xs vs Q z w rs e q
  cases xs with
  | nil => simp [bltT] at e
  | cons x xs =>
    cases xs with
    | cons _ _ => simp [bltT] at e
    | nil =>
      obtain ⟨v, rfl, rx⟩ := reps1 rs
      simp only [bltT] at e
      split at e
      · rename_i ys hs
        split at e
        · rename_i n ns hn
          cases e
          obtain ⟨a, rfl, s⟩ := seq_ints w rx hs hn
          refine ⟨a, n :: ns, rfl, s, Nat.succ_pos _, fun m hm hy => ?_⟩
          obtain ⟨a1, a2, a3⟩ := minI_spec ns n
          have e1 : m = minI n ns := by
            have h1 : minI n ns ≤ m := by
              rcases List.mem_cons.mp hm with rfl | hm
              · exact a1
              · exact a2 m hm
            have h2 : m ≤ minI n ns := by
              rcases a3 with a3 | a3
              · rw [a3]; exact hy n (List.mem_cons_self ..)
              · exact hy _ (List.mem_cons_of_mem _ a3)
            omega
          subst e1
          exact q ι H _ w (Fr.refl _ _) (by simp only [Rep])
        · cases e
      · cases e
theorem bs_all : BlS Γ K .allL (rAll K) := by
  intro ι h H xs vs Q z w rs e q
  cases xs with
  | nil => simp [bltT] at e
  | cons x xs =>
    cases xs with
    | cons _ _ => simp [bltT] at e
    | nil =>
      obtain ⟨v, rfl, rx⟩ := reps1 rs
      cases x <;> first | (simp only [bltT, reduceCtorEq] at e; done) | skip
      simp only [bltT] at e
      split at e
      · rename_i bs hb
        cases e
        have rx' := rx
        simp only [Rep] at rx
        obtain ⟨a, us, rfl, s, _, _, r⟩ := rx
        rw [blsOf_map hb] at r
        rw [r.bls] at s
        exact ⟨a, bs, rfl, .inl (.inl s), q ι H _ w (Fr.refl _ _) (by simp only [Rep])⟩
      · cases e
theorem bs_any : BlS Γ K .anyL (rAny K) := by
  intro ι h H xs vs Q z w rs e q
  cases xs with
  | nil => simp [bltT] at e
  | cons x xs =>
    cases xs with
    | cons _ _ => simp [bltT] at e
    | nil =>
      obtain ⟨v, rfl, rx⟩ := reps1 rs
      cases x <;> first | (simp only [bltT, reduceCtorEq] at e; done) | skip
      simp only [bltT] at e
      split at e
      · rename_i bs hb
        cases e
        simp only [Rep] at rx
        obtain ⟨a, us, rfl, s, _, _, r⟩ := rx
        rw [blsOf_map hb] at r
        rw [r.bls] at s
        exact ⟨a, bs, rfl, .inl (.inl s), q ι H _ w (Fr.refl _ _) (by simp only [Rep])⟩
      · cases e
theorem bs_sum : BlS Γ K .sumL (rSum K) := by
  intro ι h H xs vs Q z w rs e q
  cases xs with
  | nil => simp [bltT] at e
  | cons x xs =>
    cases xs with
    | cons _ _ => simp [bltT] at e
    | nil =>
      obtain ⟨v, rfl, rx⟩ := reps1 rs
      cases x <;> first | (simp only [bltT, reduceCtorEq] at e; done) | skip
      simp only [bltT] at e
      split at e
      · rename_i bs hb
        cases e
        simp only [Rep] at rx
        obtain ⟨a, us, rfl, s, _, _, r⟩ := rx
        rw [intsOf_map hb] at r
        rw [r.ints] at s
        exact ⟨a, bs, rfl, .inl (.inl s), q ι H _ w (Fr.refl _ _) (by simp only [Rep])⟩
      · cases e
theorem bs_tupleOf : BlS Γ K .tupleOf (rTupOf K) := by
  intro ι h H xs vs Q z w rs e q
  cases xs with
  | nil => simp [bltT] at e
  | cons x xs =>
    cases xs with
    | cons _ _ => simp [bltT] at e
    | nil =>
      obtain ⟨v, rfl, rx⟩ := reps1 rs
      simp only [bltT] at e
      split at e
      · rename_i ys hs
        cases e
        have key : (∀ zs, x ≠ .tup zs) → rTupOf K [v] H Q := fun nt => by
          obtain ⟨a, us, rfl, s, r, l⟩ := isLst_seq w rx nt hs
          exact ⟨a, us, rfl, .inl ⟨s, fun p zs hp hv => q ι _ _ (w.new hp) (Fr.new hp) (rep_tup w hp l r)⟩⟩
        cases x with
        | tup zs =>
          simp only [seqOf, Option.some.injEq] at hs
          subst hs
          have rx' := rx
          simp only [Rep] at rx
          obtain ⟨a, us, rfl, s, _⟩ := rx
          exact ⟨a, us, rfl, .inr ⟨s.sq, q ι H _ w (Fr.refl _ _) rx'⟩⟩
        | _ => exact key (fun _ z => by cases z)
      · cases e
theorem bs_listOf : BlS Γ K .listOf (fun xs H Q => ∃ p ys, xs = [.ref p] ∧ (SqL K H p ys ∨ SqT K H p ys) ∧ ∀ l, H l = none → Q (.ref l) (upd H l (.lst ys))) := by
  intro ι h H xs vs Q z w rs e q
  cases xs with
  | nil => simp [bltT] at e
  | cons x xs =>
    cases xs with
    | cons _ _ => simp [bltT] at e
    | nil =>
      obtain ⟨v, rfl, rx⟩ := reps1 rs
      simp only [bltT] at e
      split at e
      · rename_i ys hs
        cases e
        obtain ⟨a, us, rfl, s, r, l⟩ := seq_rep w rx hs
        exact ⟨a, us, rfl, s, fun p hp => q ι _ _ (w.new hp) (Fr.new hp) (rep_new w hp l r)⟩
      · cases e
/-! sorted -/
theorem insI_perm (x : Int) : ∀ ns : List Int, (insI x ns).Perm (x :: ns)
  | [] => .refl _
  | y :: r => by
    unfold insI
    split
    · exact .refl _
    · exact ((insI_perm x r).cons y).trans (.swap x y r)
theorem sortI_perm : ∀ ns : List Int, (sortI ns).Perm ns
  | [] => .refl _
  | x :: r => (insI_perm x (sortI r)).trans ((sortI_perm r).cons x)
theorem insI_sorted (x : Int) : ∀ ns : List Int, ns.Pairwise (· ≤ ·) → (insI x ns).Pairwise (· ≤ ·)
  | [], _ => by simp [insI]
  | y :: r, h => by
    rw [List.pairwise_cons] at h
    unfold insI
    split
    · rename_i hxy
      rw [List.pairwise_cons]
      refine ⟨fun z hz => ?_, List.pairwise_cons.mpr h⟩
      rcases List.mem_cons.mp hz with rfl | hz
      · exact hxy
      · have := h.1 z hz; omega
    · rename_i hxy
      rw [List.pairwise_cons]
      refine ⟨fun z hz => ?_, insI_sorted x r h.2⟩
      rcases List.mem_cons.mp ((insI_perm x r).mem_iff.mp hz) with rfl | hz
      · omega
      · exact h.1 z hz
theorem sortI_sorted : ∀ ns : List Int, (sortI ns).Pairwise (· ≤ ·)
  | [] => .nil
  | x :: r => insI_sorted x _ (sortI_sorted r)
theorem perm_sorted_eq : ∀ {xs ys : List Int}, xs.Perm ys → xs.Pairwise (· ≤ ·) → ys.Pairwise (· ≤ ·) → xs = ys
  | [], ys, p, _, _ => (List.Perm.nil_eq p)
  | x :: xs, ys, p, hx, hy => by
    cases ys with
    | nil => exact absurd p.symm.nil_eq (by simp)
    | cons y ys =>
      rw [List.pairwise_cons] at hx hy
      have e : x = y := by
        have h1 : x ∈ y :: ys := p.mem_iff.mp (List.mem_cons_self ..)
        have h2 : y ∈ x :: xs := p.mem_iff.mpr (List.mem_cons_self ..)
        rcases List.mem_cons.mp h1 with h1 | h1
        · exact h1
        · rcases List.mem_cons.mp h2 with h2 | h2
          · exact h2.symm
          · have := hx.1 y h2; have := hy.1 x h1; omega
      subst e
      rw [perm_sorted_eq (p.cons_inv) hx.2 hy.2]
theorem bs_sorted : BlS Γ K .sorted (rSortedI K) := by
  intro ι h H xs vs Q z w rs e q
  cases xs with
  | nil => simp [bltT] at e
  | cons x xs =>
    cases xs with
    | cons _ _ => simp [bltT] at e
    | nil =>
      obtain ⟨v, rfl, rx⟩ := reps1 rs
      have key : ∀ ys ns, (∀ zs, x ≠ .tup zs) → seqOf h x = some ys → intsOf ys = some ns → z = .lst ((sortI ns).map T.int) → rSortedI K [v] H Q := fun ys ns nt hs hn ez => by
        obtain ⟨a, us, rfl, s, r, l⟩ := isLst_seq w rx nt hs
        have e1 := intsOf_map hn
        subst e1
        rw [r.ints] at s
        refine ⟨a, ns, rfl, s, fun ns' p h1 h2 hp => ?_⟩
        have e2 : ns' = sortI ns := perm_sorted_eq (h1.trans (sortI_perm ns).symm) h2 (sortI_sorted ns)
        subst e2
        subst ez
        refine q ι _ _ (w.new hp) (Fr.new hp) (rep_new w hp ?_ (Reps.of_ints _))
        rw [List.length_map, (sortI_perm ns).length_eq]
        simpa using l
      cases x with
      | tup zs => simp [bltT] at e
      | _ =>
        simp only [bltT] at e
        split at e
        · rename_i ys hs
          split at e
          · rename_i ns hn
            cases e
            exact key ys ns (fun _ z => by cases z) hs hn rfl
          · cases e
        · cases e
/-- the built-in's name, and what it is -/
def bltN : Blt → String
  | .len => "len"
  | .intOf => "int"
  | .absI => "abs"
  | .max2 => "max"
  | .min2 => "min"
  | .maxL => "max"
  | .minL => "min"
  | .allL => "all"
  | .anyL => "any"
  | .sumL => "sum"
  | .tupleOf => "tuple"
  | .listOf => "list"
  | .sorted => "sorted"
  | .lenSet => "?"
  | .sortedSet => "?"
theorem bltN_name (b : Blt) : Str.ofString (bltN b) ≠ "__name__" ∧ (Str.ofString (bltN b) == ("__debug__" : Str)) = false := by cases b <;> decide
theorem se_blt {b : Blt} {e : Expr} {es : List Expr} {es' : List SH.E} {p : Pos} (hc : X.calm = true) (hb : BltOk X (Str.ofString (bltN b))) (hn : bltN b ≠ "?") (ha : PA X (e :: es) (tA Γ X.K E (evEs call es'))) (fe : frm e = true) (fs : es.all frm = true) :
    SE Γ X E (.Call (.Name (Str.ofString (bltN b)) p) (e :: es) [] pos) (evE call (.blt b es')) := by
  refine SE.of (fun _ => rfl) ?_
  have n1 := (bltN_name b).1
  have n2 := (bltN_name b).2
  have s1 := frm_star fe es X.env
  have s2 := frms_any fs pos X.env
  cases b with
  | len => exact PE.weak (pe_callB (id := "len") call_len hb.gl hb.mg (by decide +kernel) ha n1 n2 s1 s2) (blt_of bs_len)
  | intOf => exact PE.weak (pe_callTy (T := "int") call_int1 hb.gl hb.mg (by decide +kernel) ha n1 n2 s1 s2) (blt_of bs_intOf)
  | absI => exact PE.weak (pe_callB (id := "abs") call_abs hb.gl hb.mg (by decide +kernel) ha n1 n2 s1 s2) (blt_of bs_abs)
  | max2 => exact PE.weak (pe_callB (id := "max") (call_max2 hc) hb.gl hb.mg (by decide +kernel) ha n1 n2 s1 s2) (blt_of bs_max2)
  | min2 => exact PE.weak (pe_callB (id := "min") (call_min2 hc) hb.gl hb.mg (by decide +kernel) ha n1 n2 s1 s2) (blt_of bs_min2)
  | maxL => exact PE.weak (pe_callB (id := "max") (cr_maxA hc) hb.gl hb.mg (by decide +kernel) ha n1 n2 s1 s2) (blt_of bs_maxL)
  | minL => exact PE.weak (pe_callB (id := "min") (cr_minA hc) hb.gl hb.mg (by decide +kernel) ha n1 n2 s1 s2) (blt_of bs_minL)
  | allL => exact PE.weak (pe_callB (id := "all") (cr_all hc) hb.gl hb.mg (by decide +kernel) ha n1 n2 s1 s2) (blt_of bs_all)
  | anyL => exact PE.weak (pe_callB (id := "any") (cr_any hc) hb.gl hb.mg (by decide +kernel) ha n1 n2 s1 s2) (blt_of bs_any)
  | sumL => exact PE.weak (pe_callB (id := "sum") (cr_sum hc) hb.gl hb.mg (by decide +kernel) ha n1 n2 s1 s2) (blt_of bs_sum)
  | tupleOf => exact PE.weak (pe_callTy (T := "tuple") call_tupleD hb.gl hb.mg (by decide +kernel) ha n1 n2 s1 s2) (blt_of bs_tupleOf)
  | listOf => exact PE.weak (pe_callTy (T := "list") call_list_of hb.gl hb.mg (by decide +kernel) ha n1 n2 s1 s2) (blt_of bs_listOf)
  | sorted => exact PE.weak (pe_callB (id := "sorted") cr_sortedI hb.gl hb.mg (by decide +kernel) ha n1 n2 s1 s2) (blt_of bs_sorted)
  | lenSet => exact absurd rfl hn
  | sortedSet => exact absurd rfl hn
/-- list(x): a new one -/
theorem sf_listOf {a : Expr} {a' : SH.E} {p : Pos} (hb : BltOk X (Str.ofString "list")) (ha : PE X a (tE Γ X.K E (evE call a'))) (fa : frm a = true) :
    PE X (.Call (.Name (Str.ofString "list") p) [a] [] pos) (tF Γ X.K E (evE call (.blt .listOf [a']))) := by
  refine PE.weak (pe_callTy (T := "list") call_list_of hb.gl hb.mg (by decide +kernel) (sa_cons ha sa_nil (frm_star fa _ _)) (by decide) (by decide) (frm_star fa _ _) rfl) fun σ H Q q => ?_
  obtain ⟨ι, σt, h, w, er, p⟩ := q
  simp only [evE] at p
  refine ⟨ι, σt, h, w, er, ?_⟩
  cases e : evEs call [a'] σt h with
  | ok xs h1 =>
    rw [e] at p
    intro ι1 H1 vs w1 f1 rs
    have el := evEs_length e
    cases xs with
    | nil => simp at el
    | cons x xs =>
      cases xs with
      | cons _ _ => simp at el
      | nil =>
        obtain ⟨v, rfl, rx⟩ := reps1 rs
        simp only [R.bind_ok, bltT] at p
        cases hs : seqOf h1 x with
        | none => rw [hs] at p; exact p.elim
        | some ys =>
          rw [hs] at p
          obtain ⟨b, us, rfl, s, r, l⟩ := seq_rep w1 rx hs
          exact ⟨b, us, rfl, s, fun pp hp => p ι1 _ ys us pp rfl (w1.newHid hp) (f1.trans (Fr.new hp)) (f1.free (Nw.none hp)) upd_same (w1.fresh hp) l (Reps.mono w1.hr (Fx.newHid hp) _ _ r)⟩
  | ex c a h1 => rw [e] at p; exact p
  | bad => rw [e] at p; exact p

/-! ### ranges -/
theorem two62_eq : two62 = 2 ^ 62 := by decide
theorem rngL_rg (a b : Int) : (rngL a (b - a).toNat) = ((List.range (b - a).toNat).map fun i => a + (i : Nat)).map T.int := by
  unfold rngL; rw [List.map_map]; rfl
theorem rgV_eq (a b : Int) : rgV a b = ((List.range (b - a).toNat).map fun i => a + (i : Nat)).map V.int := by
  unfold rgV; rw [List.map_map]; rfl
theorem rng_reps (a b : Int) : Reps K ι H (rngL a (b - a).toNat) (rgV a b) := by
  rw [rngL_rg, rgV_eq]
  exact Reps.of_ints _
theorem rng_len (a : Int) (n : Nat) : (rngL a n).length = n := by unfold rngL; simp
/-- range(..) as an argument: what the rules want, of the pure step -/
theorem rng_core {ys zs : List T} {vs : List V} (rs : Reps K ι H ys vs) (e : rngT ys = some zs) : ∃ a b, RgOk a b ∧ zs = rngL a (b - a).toNat ∧ ((vs = [.int b] ∧ a = 0) ∨ vs = [.int a, .int b]) := by
  unfold rngT at e
  split at e
  · rename_i j
    split at e
    · rename_i l
      cases e
      obtain ⟨v, rfl, rx⟩ := reps1 rs
      simp only [Rep] at rx
      subst rx
      rw [two62_eq] at l
      refine ⟨0, j, ⟨by decide, by decide, by omega, by omega, ?_⟩, by simp, .inl ⟨rfl, rfl⟩⟩
      have : (j - 0).toNat ≤ 1000000 := by omega
      omega
    · cases e
  · rename_i i j
    split at e
    · rename_i l
      cases e
      obtain ⟨v, u, rfl, rx, ry⟩ := reps2 rs
      simp only [Rep] at rx ry
      subst rx ry
      rw [two62_eq] at l
      refine ⟨i, j, ⟨by omega, by omega, by omega, by omega, ?_⟩, rfl, .inr rfl⟩
      have : (j - i).toNat ≤ 1000000 := by omega
      omega
    · cases e
  · cases e
/-- range's arguments: one or two -/
inductive RgE (Γ : Ga) (X : Cx) (E : XK) (call : Calls) : List Expr → List SH.E → Prop where
  | one {a : Expr} {a' : SH.E} (ha : PE X a (tE Γ X.K E (evE call a'))) (fa : frm a = true) : RgE Γ X E call [a] [a']
  | two {a b : Expr} {a' b' : SH.E} (ha : PE X a (tE Γ X.K E (evE call a'))) (hb : PE X b (tE Γ X.K E (evE call b'))) (fa : frm a = true) (fb : frm b = true) : RgE Γ X E call [a, b] [a', b']
theorem RgE.pa {es : List Expr} {es' : List SH.E} (r : RgE Γ X E call es es') : PA X es (tA Γ X.K E (evEs call es')) := by
  cases r with
  | one ha fa => exact sa_cons ha sa_nil (frm_star fa _ _)
  | two ha hb fa fb => exact sa_cons ha (sa_cons hb sa_nil (frm_star fb _ _)) (frm_star fa _ _)
/-- what behind range(..) is wanted of the bounds -/
def tRgE (Γ : Ga) (K : PySem.W.Frag) (E : XK) (call : Calls) (es' : List SH.E) : L2.St → Hp → (Int → Int → Hp → Prop) → Prop := fun σ H Q =>
  tA Γ K E (evEs call es') σ H fun vs H1 => ∃ a b, ((vs = [.int b] ∧ a = 0) ∨ vs = [.int a, .int b]) ∧ Q a b H1
theorem prg_of {es : List Expr} {es' : List SH.E} {p : Pos} (r : RgE Γ X E call es es') (hb : BltOk X (Str.ofString "range")) : PRg X (.Call (.Name (Str.ofString "range") p) es [] pos) (tRgE Γ X.K E call es') := by
  cases r with
  | one ha fa =>
    intro pins s σ H Q I h
    refine prg_1 hb.gl hb.mg ha (frm_star fa _ _) pins s σ H Q I ?_
    obtain ⟨ι, σt, hh, w, er, p⟩ := h
    refine ⟨ι, σt, hh, w, er, ?_⟩
    simp only [evEs] at p
    refine PostG.bind p fun x h1 ι1 H1 vx w1 f1 rx p1 => ?_
    obtain ⟨a, b, e, q⟩ := p1 ι1 H1 [vx] w1 (Fr.refl _ _) (by simp only [Reps]; exact ⟨rx, trivial⟩)
    rcases e with ⟨e, rfl⟩ | e
    · cases e; exact ⟨b, rfl, q⟩
    · cases e
  | two ha hb' fa fb =>
    intro pins s σ H Q I h
    refine prg_2 hb.gl hb.mg ha hb' (frm_star fa _ _) (frm_star fb _ _) (frms_any (by simp [fb]) _ _) pins s σ H Q I ?_
    obtain ⟨ι, σt, hh, w, er, p⟩ := h
    refine ⟨ι, σt, hh, w, er, ?_⟩
    simp only [evEs] at p
    simp only [R.bind_assoc, R.bind_ok] at p
    refine PostG.bind p fun x h1 ι1 H1 vx w1 f1 rx p1 => ⟨ι1, σt, h1, w1, er.mono w f1.toFx, PostG.bind p1 fun y h2 ι2 H2 vy w2 f2 ry p2 => ?_⟩
    obtain ⟨a, b, e, q⟩ := p2 ι2 H2 [vx, vy] w2 (Fr.refl _ _) (by simp only [Reps]; exact ⟨Rep.mono w1.hr f2.toFx _ _ rx, ry, trivial⟩)
    rcases e with ⟨e, _⟩ | e
    · cases e
    · cases e; exact ⟨a, b, rfl, rfl, q⟩
/-- list(range(..)), tuple(range(..)) -/
theorem se_rngL {es : List Expr} {es' : List SH.E} {p p2 q : Pos} (hc : X.calm = true) (r : RgE Γ X E call es es') (hb : BltOk X (Str.ofString "range")) (hl : BltOk X (Str.ofString "list")) :
    SE Γ X E (.Call (.Name (Str.ofString "list") p) [.Call (.Name (Str.ofString "range") p2) es [] q] [] pos) (evE call (.rng false es')) := by
  refine SE.of (fun _ => rfl) (PE.weak (pe_listRg hc hl.gl hl.mg (prg_of r hb) (frm_star rfl _ _)) fun σ H Q q => ?_)
  obtain ⟨ι, σt, h, w, er, p⟩ := q
  simp only [evE] at p
  refine ⟨ι, σt, h, w, er, p.bind fun xs h1 ι1 H1 vs w1 f1 rs p1 => ?_⟩
  cases e : rngT xs with
  | none => rw [e] at p1; exact p1.elim
  | some zs =>
    rw [e] at p1
    obtain ⟨a, b, ok, rfl, ev⟩ := rng_core rs e
    refine ⟨a, b, ev, ok, fun pp hp => p1 ι1 _ _ (w1.new hp) (Fr.new hp) (rep_new w1 hp ?_ (rng_reps a b))⟩
    rw [rng_len]
    exact ok.2.2.2.2
theorem se_rngT {es : List Expr} {es' : List SH.E} {p p2 q : Pos} (hc : X.calm = true) (r : RgE Γ X E call es es') (hb : BltOk X (Str.ofString "range")) (hl : BltOk X (Str.ofString "tuple")) :
    SE Γ X E (.Call (.Name (Str.ofString "tuple") p) [.Call (.Name (Str.ofString "range") p2) es [] q] [] pos) (evE call (.rng true es')) := by
  refine SE.of (fun _ => rfl) (PE.weak (pe_tupRgD hc hl.gl hl.mg (prg_of r hb) (frm_star rfl _ _)) fun σ H Q q => ?_)
  obtain ⟨ι, σt, h, w, er, p⟩ := q
  simp only [evE] at p
  refine ⟨ι, σt, h, w, er, p.bind fun xs h1 ι1 H1 vs w1 f1 rs p1 => ?_⟩
  cases e : rngT xs with
  | none => rw [e] at p1; exact p1.elim
  | some zs =>
    rw [e] at p1
    obtain ⟨a, b, ok, rfl, ev⟩ := rng_core rs e
    refine ⟨a, b, ev, ok, fun pp us hp hv => p1 ι1 _ _ (w1.new hp) (Fr.new hp) (rep_tup w1 hp ?_ (rng_reps a b))⟩
    rw [rng_len]
    exact ok.2.2.2.2
/-! ### a < b < c -/
theorem cmp2_of {op op' : COp} {a' b' c' : SH.E} {r r' : R2} (hs : CmpS Γ K (cmpT op) r) (hs' : CmpS Γ K (cmpT op') r') (σ : L2.St) (H : Hp) (Q : VK) (q : tE Γ K E (evE call (.cmp2 op op' a' b' c')) σ H Q) :
    tChain r r' (tE Γ K E (evE call a')) (tE Γ K E (evE call b')) (tE Γ K E (evE call c')) σ H Q := by
  refine chain_of hs hs' σ H Q ?_
  simpa only [evE] using q
theorem se_cmp2 {op op' : COp} {a b c : Expr} {a' b' c' : SH.E} (hu : X.A.units + 65 < cLine) (ha : PE X a (tE Γ X.K E (evE call a'))) (hb : PE X b (tE Γ X.K E (evE call b'))) (hc : PE X c (tE Γ X.K E (evE call c'))) (fc : frm c = true) :
    SE Γ X E (.Compare a [cmpOf op, cmpOf op'] [b, c] pos) (evE call (.cmp2 op op' a' b' c')) := by
  obtain ⟨r, ho, hs⟩ := cmp_rule (Γ := Γ) hu op
  obtain ⟨r', ho', hs'⟩ := cmp_rule (Γ := Γ) hu op'
  have hm : lastMarks [cmpOf op, cmpOf op'] [b, c] = false := frm_mark fc _
  exact ⟨PE.weak (pe_chain ho ho' ha hb hc hm) (cmp2_of hs hs'), PT.weak (pt_chain ho ho' ha hb hc hm) fun σ H Q q => cmp2_of hs hs' σ H _ (tB_of σ H Q q)⟩
theorem se_cmp1 {op : COp} {a b : Expr} {a' b' : SH.E} (hu : X.A.units + 65 < cLine) (ha : PE X a (tE Γ X.K E (evE call a'))) (hb : PE X b (tE Γ X.K E (evE call b'))) (fb : frm b = true) :
    SE Γ X E (.Compare a [cmpOf op] [b] pos) (evE call (.cmp op a' b')) := by
  refine ⟨PE.weak (se_cmp (op := op) hu ha hb (frm_mark fb _)) fun σ H Q q => ?_, PT.weak (st_cmp (op := op) hu ha hb (frm_mark fb _)) fun σ H Q q => ?_⟩
  · simpa only [evE] using q
  · simpa only [tst, evE] using q
end
end SH
end

section
set_option autoImplicit false
set_option linter.all false
set_option maxRecDepth 100000
set_option maxHeartbeats 4000000
/-! Strandhues: t[::-1], o.index(x), a new list by repetition. -/
namespace SH
open PySem PySem.Spec PyProof.Rows L2
section
variable {Γ : Ga} {K : PySem.W.Frag} {ι : Io} {H : Hp}
theorem reps_rev : ∀ {xs : List T} {vs : List V}, Reps K ι H xs vs → Reps K ι H xs.reverse vs.reverse
  | [], [], r => r
  | x :: xs, v :: vs, r => by
    simp only [Reps] at r
    rw [List.reverse_cons, List.reverse_cons]
    exact Reps.append (reps_rev r.2) (by simp only [Reps]; exact ⟨r.1, trivial⟩)
  | [], _ :: _, r => by simp only [Reps] at r
  | _ :: _, [], r => by simp only [Reps] at r
end
section
variable {Γ : Ga} {X : Cx} {E : XK} {call : Calls} {pos : Pos}
theorem se_rev {a : Expr} {a' : SH.E} {j : Nat} {p1 p2 p3 : Pos} (ha : PE X a (tE Γ X.K E (evE call a'))) :
    SE Γ X E (.Subscript a (.Slice none none (some (.UnaryOp .USub (.Constant (.int 1) j p1) p2)) p3) pos) (evE call (.rev a')) := by
  have hs : PE X (.UnaryOp .USub (.Constant (.int 1) j p1) p2) (tE Γ X.K E (evE call (.neg (.con (T.int 1))))) := (se_neg (se_int (call := call)).pe).pe
  refine SE.of (fun _ => rfl) (PE.weak (pe_revT ha (so_some hs)) fun σ H Q q => ?_)
  obtain ⟨ι, σt, h, w, er, p⟩ := q
  simp only [evE] at p
  refine ⟨ι, σt, h, w, er, p.bind fun x h1 ι1 H1 vx w1 f1 rx p1 => ⟨ι1, σt, h1, w1, er.mono w f1.toFx, ?_⟩⟩
  have e : evO call (some (.neg (.con (T.int 1)))) σt h1 = .ok (some (-1)) h1 := by simp only [evO, evE, R.bind_ok, intO, R.of_some]
  rw [e]
  intro ι2 H2 v w2 f2 ev
  subst ev
  refine ⟨rfl, ?_⟩
  obtain ⟨z, hz⟩ := p1.some
  have p2 := p1.of hz
  cases x <;> simp only [revT, Option.some.injEq, reduceCtorEq] at hz
  subst hz
  have rx2 := Rep.mono w1.hr f2.toFx _ _ rx
  simp only [Rep] at rx2
  obtain ⟨b, vs, rfl, s, l, r⟩ := rx2
  exact ⟨b, vs, rfl, s.sq, fun pp us hp hv => p2 ι2 _ _ (w2.new hp) (f2.trans (Fr.new hp)) (rep_tup w2 hp (by rw [List.length_reverse]; exact l) (reps_rev r))⟩

theorem find_spec {x : T} : ∀ {xs : List T} {k : Nat}, findT x xs = some k → (∃ z, xs[k]? = some z ∧ eqv z x = true) ∧ ∀ m z, m < k → xs[m]? = some z → eqv z x = false
  | [], k, h => by cases h
  | y :: xs, k, h => by
    simp only [findT] at h
    by_cases e : eqv y x = true
    · rw [if_pos e] at h
      cases h
      exact ⟨⟨y, rfl, e⟩, fun m z hm => absurd hm (Nat.not_lt_zero _)⟩
    · rw [if_neg e] at h
      cases hf : findT x xs with
      | none => rw [hf] at h; cases h
      | some j =>
        rw [hf] at h
        cases h
        obtain ⟨⟨z, hz, ez⟩, hno⟩ := find_spec hf
        refine ⟨⟨z, by simpa using hz, ez⟩, fun m z' hm hz' => ?_⟩
        cases m with
        | zero =>
          simp only [List.getElem?_cons_zero, Option.some.injEq] at hz'
          subst hz'
          simpa using e
        | succ m => exact hno m z' (by omega) (by simpa using hz')
theorem toDs_at : ∀ {xs : List T} {k : Nat}, (toDs xs)[k]? = (xs[k]?).map toD
  | [], k => by simp [toDs]
  | x :: xs, 0 => by simp [toDs]
  | x :: xs, k + 1 => by simp [toDs, toDs_at (xs := xs) (k := k)]
theorem okDs_at' {k : Nat} : ∀ {xs : List T} {i : Nat} {x : T}, okDs k xs = true → xs[i]? = some x → okD k x = true
  | [], _, _, _, h => by simp at h
  | y :: ys, 0, x, h, e => by
    simp only [okDs, Bool.and_eq_true] at h
    simp only [List.getElem?_cons_zero, Option.some.injEq] at e
    rw [← e]; exact h.1
  | y :: ys, i + 1, x, h, e => by
    simp only [okDs, Bool.and_eq_true] at h
    exact okDs_at' h.2 (by simpa using e)
/-- the first place, as data -/
theorem find_data {x : T} {xs : List T} {k : Nat} (o1 : okDs 59 xs = true) (o2 : okD 60 x = true) (h : findT x xs = some k) : ∃ z, (toDs xs)[k]? = some z ∧ PyData.eqv z (toD x) = true ∧ ∀ (m : Nat) (z' : PyData), m < k → (toDs xs)[m]? = some z' → PyData.eqv z' (toD x) = false := by
  obtain ⟨⟨z, hz, ez⟩, hno⟩ := find_spec h
  refine ⟨toD z, by rw [toDs_at, hz]; rfl, by rw [eqv_toD 59 60 z x (okDs_at' o1 hz) o2]; exact ez, fun m z' hm hz' => ?_⟩
  rw [toDs_at] at hz'
  cases hx : xs[m]? with
  | none => rw [hx] at hz'; cases hz'
  | some u =>
    rw [hx] at hz'
    cases hz'
    rw [eqv_toD 59 60 u x (okDs_at' o1 hx) o2]
    exact hno m u hm hx
theorem arg1 {K : PySem.W.Frag} {ι : Io} {H : Hp} {e' : SH.E} {σt : SH.Env} {h : Hs} {Q : List V → Hp → Prop} (p : PostG Γ K E ι H (Rep K) (evE call e' σt h) fun v H' => Q [v] H') : PostG Γ K E ι H (Reps K) (evEs call [e'] σt h) Q := by
  simp only [evEs, R.bind_ok]
  cases e1 : evE call e' σt h with
  | ok x h1 =>
    rw [e1] at p
    intro ι1 H1 vs w1 f1 rs
    obtain ⟨v, rfl, rx⟩ := reps1 rs
    exact p ι1 H1 v w1 f1 rx
  | ex c a h1 => rw [e1] at p; exact p
  | bad => rw [e1] at p; exact p
theorem se_idxOf {o e : Expr} {o' e' : SH.E} {apos cpos : Pos} (hu : X.A.units + 65 < cLine) (ho : PE X o (tE Γ X.K E (evE call o'))) (he : PE X e (tE Γ X.K E (evE call e'))) (fo : baseOk o = true) (fe : frm e = true) (hl : (apos.endLine == cpos.line) = true) :
    SE Γ X E (.Call (.Attribute o (Str.ofString "index") apos) [e] [] cpos) (evE call (.idxOf o' e')) := by
  refine SE.of (fun _ => rfl) (PE.weak (pe_idxOf hu ho (sa_cons he sa_nil (frm_star fe _ _)) (fun nm => base_of fo _ _ _) hl (frm_star fe _ _)) fun σ H Q q => ?_)
  obtain ⟨ι, σt, h, w, er, p⟩ := q
  simp only [evE] at p
  refine ⟨ι, σt, h, w, er, p.bind fun x h1 ι1 H1 vx w1 f1 rx p1 => ?_⟩
  have fin : ∀ (z : T) (h2 : Hs) (ι2 : Io) (H2 : Hp) (vz : V), WS Γ X.K ι2 h2 H2 → Fr ι1 H1 ι2 H2 → Rep X.K ι2 H2 z vz → PostG Γ X.K E ι2 H2 (Rep X.K) (R.of (idxOfT h2 x z) h2) Q →
      ∃ xs k zz, seqOf h2 x = some xs ∧ okDs 59 xs = true ∧ okD 60 z = true ∧ (toDs xs)[k]? = some zz ∧ PyData.eqv zz (toD z) = true ∧ (∀ (m : Nat) (z' : PyData), m < k → (toDs xs)[m]? = some z' → PyData.eqv z' (toD z) = false) ∧ Q (.int (k : Nat)) H2 := fun z h2 ι2 H2 vz w2 f2 rz p2 => by
    obtain ⟨t, ht⟩ := p2.some
    have p3 := p2.of ht
    unfold idxOfT at ht
    cases hs : seqOf h2 x with
    | none => rw [hs] at ht; cases ht
    | some xs =>
      rw [hs] at ht
      simp only at ht
      by_cases ok : (okDs 59 xs && okD 60 z) = true
      · rw [if_pos ok] at ht
        rw [Bool.and_eq_true] at ok
        cases hf : findT z xs with
        | none => rw [hf] at ht; cases ht
        | some k =>
          rw [hf] at ht
          cases ht
          obtain ⟨zz, a1, a2, a3⟩ := find_data ok.1 ok.2 hf
          exact ⟨xs, k, zz, rfl, ok.1, ok.2, a1, a2, a3, p3 ι2 H2 _ w2 (Fr.refl _ _) (by simp only [Rep])⟩
      · rw [if_neg ok] at ht; cases ht
  have lst : (∀ zs, x ≠ .tup zs) → (∃ a vs, vx = .ref a ∧ SqL X.K H1 a vs) → PostG Γ X.K E ι1 H1 (Rep X.K) ((evE call e' σt h1).bind fun z h => R.of (idxOfT h x z) h) Q → tyV X.K "list" vx H1 ∧ tA Γ X.K E (evEs call [e']) σ H1 fun xs H2 => rIndexD X.K vx xs H2 Q := fun nt hl p1 => by
    obtain ⟨a, vs, rfl, s⟩ := hl
    refine ⟨.inl ⟨rfl, vs, s⟩, ι1, σt, h1, w1, er.mono w f1.toFx, arg1 (p1.bind fun z h2 ι2 H2 vz w2 f2 rz p2 => ?_)⟩
    obtain ⟨xs, k, zz, hs, o1, o2, a1, a2, a3, qq⟩ := fin z h2 ι2 H2 vz w2 f2 rz p2
    obtain ⟨b, us, eb, s2, r, l⟩ := isLst_seq w2 (Rep.mono w1.hr f2.toFx _ _ rx) nt hs
    cases eb
    exact ⟨_, vz, toD z, toDs xs, k, zz, rfl, rfl, .lst s2 (dps_of 59 xs us o1 r), dp_of 60 z vz o2 rz, shapeds_of o1, shaped_of o2 (by decide), a1, a2, a3, qq⟩
  cases x with
  | tup xs0 =>
    simp only [idxB, if_true] at p1
    have rx0 := rx
    simp only [Rep] at rx
    obtain ⟨a, vs, rfl, s, _, r⟩ := rx
    refine .inl ⟨⟨a, vs, rfl, s⟩, ι1, σt, h1, w1, er.mono w f1.toFx, arg1 (p1.bind fun z h2 ι2 H2 vz w2 f2 rz p2 => ?_)⟩
    obtain ⟨xs, k, zz, hs, o1, o2, a1, a2, a3, qq⟩ := fin z h2 ι2 H2 vz w2 f2 rz p2
    have rx2 := Rep.mono w1.hr f2.toFx _ _ rx0
    simp only [Rep] at rx2
    obtain ⟨b, us, eb, s2, _, r2⟩ := rx2
    cases eb
    simp only [seqOf, Option.some.injEq] at hs
    subst hs
    exact ⟨_, vz, toD z, toDs xs0, k, zz, rfl, rfl, .tup s2.sq (dps_of 59 xs0 us o1 r2), dp_of 60 z vz o2 rz, shapedt_of o1, shaped_of o2 (by decide), a1, a2, a3, qq⟩
  | lst xs0 =>
    simp only [idxB, if_true] at p1
    have rx0 := rx
    simp only [Rep] at rx0
    obtain ⟨a, vs, e1, s, _, _, r⟩ := rx0
    exact .inr (lst (fun _ z => by cases z) ⟨a, vs, e1, .inl (.inl s)⟩ p1)
  | scr ns =>
    simp only [idxB, if_true] at p1
    have rx0 := rx
    simp only [Rep] at rx0
    obtain ⟨a, e1, s, _⟩ := rx0
    refine .inr (lst (fun _ z => by cases z) ⟨a, ns.map V.int, e1, ?_⟩ p1)
    rcases s with ⟨o, s⟩ | ⟨s, _⟩ | s
    · exact .inl (.inr ⟨o, s⟩)
    · exact .inl (.inl s)
    · exact .inr s
  | _ =>
    simp only [idxB, Bool.false_eq_true, if_false] at p1
    exact p1.elim
/-- [..] * k, new -/
theorem sf_mul {a b : Expr} {es' : List SH.E} {b' : SH.E} (ha : PE X a (tE Γ X.K E (evE call (.lst es')))) (hb : PE X b (tE Γ X.K E (evE call b'))) : PE X (.BinOp a .Mult b pos) (tF Γ X.K E (evE call (.bin .mul (.lst es') b'))) := by
  refine PE.weak (pe_op ho_mul ha hb) fun σ H Q q => ?_
  obtain ⟨ι, σt, h, w, er, p⟩ := q
  refine ⟨ι, σt, h, w, er, ?_⟩
  cases e1 : evE call (.lst es') σt h with
  | ok x h1 =>
    obtain ⟨xs, rfl⟩ := ok_lst σt h x h1 e1
    rw [evE, e1, R.bind_ok] at p
    intro ι1 H1 vx w1 f1 rx
    refine ⟨ι1, σt, h1, w1, er.mono w f1.toFx, ?_⟩
    cases e2 : evE call b' σt h1 with
    | ok y h2 =>
      rw [e2, R.bind_ok] at p
      intro ι2 H2 vy w2 f2 ry
      cases y with
      | int k =>
        simp only [binT] at p
        split at p
        · rename_i l
          obtain ⟨l1, l2, l3⟩ := l
          simp only [Rep] at ry
          obtain ⟨c, vs, e3, s1, q1, _⟩ := lst_rep w2 (Rep.mono w1.hr f2.toFx _ _ rx) rfl (show seqOf h2 (T.lst xs) = some xs from rfl)
          have hl := q1.length
          have hm : k.toNat * xs.length ≤ 1000 * 1000 := Nat.mul_le_mul (by omega) l3
          have hle : (List.replicate k.toNat xs).flatten.length ≤ LINE := by
            rw [rep_len]
            show _ ≤ 16777216
            omega
          refine .inr (.inr ⟨c, k, vs, e3, ry, s1, by omega, by omega, ?_, fun pp hp => ?_⟩)
          · rw [sizeLine_eq, ← hl, Nat.mul_comm]
            omega
          · have f12 := f1.trans f2
            exact p ι2 _ _ _ pp rfl (w2.newHid hp) (f12.trans (Fr.new hp)) (f12.free (Nw.none hp)) upd_same (w2.fresh hp) hle (Reps.mono w2.hr (Fx.newHid hp) _ _ (q1.rep _))
        · exact p.elim
      | _ => simp only [binT] at p; exact p.elim
    | ex c a h2 =>
      rw [e2] at p
      exact fun ι' H' cls d w' g q => p ι' H' cls d w' (f1.trans g) q
    | bad => rw [e2] at p; exact p.elim
  | ex c a h1 => rw [evE, e1] at p; exact p
  | bad => rw [evE, e1] at p; exact p.elim
end
end SH
end

section
set_option autoImplicit false
set_option linter.all false
set_option maxRecDepth 100000
/-! Strandhues: len(set(..)) of ints. -/
namespace SH
open PySem PySem.Spec PyProof.Rows L2

theorem dedup_mem (k : Int) : ∀ ns : List Int, k ∈ dedupI ns ↔ k ∈ ns
  | [] => Iff.rfl
  | x :: r => by
    unfold dedupI
    split
    · rename_i h
      rw [dedup_mem k r]
      refine ⟨List.mem_cons_of_mem _, fun h2 => ?_⟩
      rcases List.mem_cons.mp h2 with rfl | h2
      · exact List.contains_iff_mem.mp h
      · exact h2
    · rw [List.mem_cons, List.mem_cons, dedup_mem k r]
theorem dedup_nodup : ∀ ns : List Int, (dedupI ns).Nodup
  | [] => .nil
  | x :: r => by
    unfold dedupI
    split
    · exact dedup_nodup r
    · rename_i h
      refine List.nodup_cons.mpr ⟨fun h2 => h ?_, dedup_nodup r⟩
      exact List.contains_iff_mem.mpr ((dedup_mem x r).mp h2)
theorem met_nodup (f : Nat → Int) : ∀ i, (firstMet f i).Nodup
  | 0 => by rw [firstMet_zero]; exact .nil
  | i + 1 => by
    rw [firstMet_succ]
    unfold step_dedup
    split
    · exact met_nodup f i
    · rename_i h
      rw [List.nodup_append]
      refine ⟨met_nodup f i, by simp, fun a ha b hb e => h ?_⟩
      rw [List.mem_singleton] at hb
      subst hb e
      exact List.any_eq_true.mpr ⟨_, ha, by simp⟩
theorem met_mem (ns : List Int) (k : Int) : k ∈ firstMet (fun i => ns.getD i 0) ns.length ↔ k ∈ ns := by
  have h1 : ∀ l : List Int, (l.any (· == k) = true) ↔ k ∈ l := fun l => by
    rw [List.any_eq_true]
    exact ⟨fun ⟨x, hx, e⟩ => by rw [beq_iff_eq] at e; rw [← e]; exact hx, fun h => ⟨k, h, by simp⟩⟩
  have h2 : ((List.range ns.length).map fun i => ns.getD i 0) = ns := by
    apply List.ext_getElem
    · simp
    · intro i h3 h4
      simp only [List.getElem_map, List.getElem_range]
      rw [List.getD_eq_getElem?_getD, List.getElem?_eq_getElem h4]
      rfl
  rw [← h1, firstMet_any, h2, h1]
theorem same_len {xs ys : List Int} (hx : xs.Nodup) (hy : ys.Nodup) (h : ∀ k, k ∈ xs ↔ k ∈ ys) : xs.length = ys.length := ((List.perm_ext_iff_of_nodup hx hy).mpr h).length_eq
/-- len(set(x)), x a list or a tuple of ints -/
def tLenSetA (K : PySem.W.Frag) (ta : TE) : TE := fun σ H Q => ta σ H fun x H1 => ∃ (l : Addr) (ns : List Int), x = .ref l ∧ (SqL K H1 l (ns.map V.int) ∨ SqT K H1 l (ns.map V.int)) ∧ ns.length ≤ 4000 ∧ Q (.int ((dedupI ns).length : Nat)) H1
theorem pe_lenSetA {X : Cx} {a : Expr} {ta : TE} {p p2 q pos : Pos} (hg : Gl X "len") (hm : X.mg "len" = none) (hg2 : Gl X "set") (hm2 : X.mg "set" = none) (ha : PE X a ta) (hc : X.calm = true)
    (na : starEach [a] X.env = (false, eval a X.env) :: starEach [] X.env) : PE X (.Call (.Name "len" p) [.Call (.Name "set" p2) [a] [] q] [] pos) (tLenSetA X.K ta) := by
  constructor
  intro pins s σ H Q I hh
  refine Call_ (ld_blt I hg hm boot_len (PyProof.Rows.callWith_builtin1 (args_cons (Call_ (ld_blt I hg2 hm2 boot_set ?_)) rfl) rfl rfl))
  refine PyProof.Rows.callWith_type1 (args_cons (thn (ha.run pins s σ H _ I hh) fun v s1 ⟨x, H1, I1, r1, q1⟩ => args_nil ?_) na) na rfl
  obtain ⟨l, ns, rfl, hq, hl, q1⟩ := q1
  cases r1
  rcases hq with hq | hq
  · obtain ⟨its, r, pl, hz⟩ := I1.list hq
    have hlen : its.toArray.size = ns.length := by rw [List.size_toArray, ← r.length, List.length_map]
    refine call_set_list (I1.ok.hd hc) pl.isList (by simpa using intsAre_of r) (by rw [hlen]; unfold scanBound; omega) fun h2 tk hS hk => args_nil ?_
    rw [hlen] at hS
    obtain ⟨o, es, ep, t, ho, hex, hd, _, _, _, hf, hn⟩ := hS
    have e1 : es.size = (dedupI ns).length := by
      rw [hn]
      exact same_len (met_nodup _ _) (dedup_nodup ns) fun k => (met_mem ns k).trans (dedup_mem k ns).symm
    have e2 : (dedupI ns).length ≤ ns.length := by
      rw [← e1, hn]
      exact firstMet_length_le _ _
    have I2 : Inv X pins σ H1 { s1 with heap := h2, toks := tk } := I1.kept fun b o e => hk b o (Heap.lt_size e) e
    exact call_len_set ho hex hd hf (by omega) ⟨.int _, H1, I2.tok _, ⟨_, by rw [e1]⟩, q1⟩
  · obtain ⟨its, r, pl, hz⟩ := I1.tuple hq
    have hi : IntsAre its.toArray.toList ns := by simpa using intsAre_of r
    refine call_set_tupI ns (I1.ok.hd hc) (show s1.heap.IsTuple l its.toArray from pl) hi (by unfold scanBound; omega) fun h2 tk c R1 hcn hk => args_nil ?_
    obtain ⟨o, es, ep, t, ho, hex, hd, g, nd, hm2, hb, hf, hn, _⟩ := R1
    have e1 : es.size = (dedupI ns).length := by
      have z := same_len nd (dedup_nodup ns) fun k => (hm2 k).symm.trans (by rw [decide_eq_true_eq]; exact (dedup_mem k ns).symm)
      rw [List.length_map, Array.length_toList] at z
      exact z
    have I2 : Inv X pins σ H1 { s1 with heap := h2, toks := tk } := I1.kept fun b o e => hk b o e
    exact call_len_set ho hex hd hf (by omega) ⟨.int _, H1, I2.tok _, ⟨_, by rw [e1]⟩, q1⟩
theorem se_lenSet {Γ : Ga} {X : Cx} {E : XK} {call : Calls} {a : Expr} {a' : SH.E} {p p2 q pos : Pos} (hc : X.calm = true) (b1 : BltOk X (Str.ofString "len")) (b2 : BltOk X (Str.ofString "set")) (fa : frm a = true) (ha : PE X a (tE Γ X.K E (evE call a'))) :
    SE Γ X E (.Call (.Name (Str.ofString "len") p) [.Call (.Name (Str.ofString "set") p2) [a] [] q] [] pos) (evE call (.blt .lenSet [a'])) := by
  refine SE.of (fun _ => rfl) (PE.weak (pe_lenSetA b1.gl b1.mg b2.gl b2.mg ha hc (frm_star fa _ _)) fun σ H Q q => ?_)
  obtain ⟨ι, σt, h, w, er, p⟩ := q
  simp only [evE, evEs, R.bind_assoc, R.bind_ok] at p
  refine ⟨ι, σt, h, w, er, p.bind fun x h1 ι1 H1 vx w1 f1 rx p1 => ?_⟩
  obtain ⟨z, hz⟩ := p1.some
  have p1 := p1.of hz
  simp only [bltT] at hz
  split at hz
  · rename_i ys hs
    split at hz
    · rename_i ns hn
      split at hz
      · rename_i hl
        cases hz
        obtain ⟨l, rfl, s⟩ := seq_ints w1 rx hs hn
        exact ⟨l, ns, rfl, s, hl, p1 ι1 H1 _ w1 (Fr.refl _ _) (by simp only [Rep])⟩
      · cases hz
    · cases hz
  · cases hz
end SH
end

section
set_option autoImplicit false
set_option linter.all false
set_option maxRecDepth 100000
/-! Strandhues: targets, iterators, comprehensions. -/
namespace SH
open PySem PySem.Spec PyProof.Rows L2

/-! ### a list changes where no value leads to it -/
theorem tabs_put {Tb : List (Addr × Str)} {H : Hp} {a : Addr} {xs : List V} {o : HO} (t : LamX.Tabs Tb H) (e : H a = some (.lst xs)) : LamX.Tabs Tb (upd H a o) := fun p hp => by
  obtain ⟨ps, h1, h2, h3⟩ := t p hp
  refine ⟨ps, ?_, h2, fun pos cv hc => ?_⟩
  · rw [upd_ne (fun z => by rw [z, e] at h1; cases h1)]
    exact h1
  · obtain ⟨c, e1, e2⟩ := h3 pos cv hc
    refine ⟨c, e1, ?_⟩
    rw [upd_ne (fun z => by rw [z, e] at e2; cases e2)]
    exact e2
section
variable {K : PySem.W.Frag} {ι : Io} {H : Hp} {D : Addr} {acc : List V} {o : HO}
theorem TupAt.putHid (e : H D = some (.lst acc)) {a : Addr} {vs : List V} (s : TupAt K H a vs) : TupAt K (upd H D o) a vs := by
  rcases s with ⟨u, s, d⟩ | s
  · exact .inl ⟨u, by rw [upd_ne (fun z => by rw [z, e] at s; cases s)]; exact s, d⟩
  · exact .inr s
mutual
theorem Rep.putHid (hm : D ∈ ι.hid) (e : H D = some (.lst acc)) : ∀ (t : T) (v : V), Rep K ι H t v → Rep K ι (upd H D o) t v
  | .non, _, q => by simpa only [Rep] using q
  | .bl _, _, q => by simpa only [Rep] using q
  | .int _, _, q => by simpa only [Rep] using q
  | .str _, _, q => by simpa only [Rep] using q
  | .tup xs, v, q => by
    simp only [Rep] at q ⊢
    obtain ⟨a, vs, e1, s, l, q⟩ := q
    exact ⟨a, vs, e1, TupAt.putHid e s, l, Reps.putHid hm e xs vs q⟩
  | .lst xs, v, q => by
    simp only [Rep] at q ⊢
    obtain ⟨a, vs, e1, s, n, l, q⟩ := q
    exact ⟨a, vs, e1, by rw [upd_ne (fun z => n.2 (by rw [z]; exact hm))]; exact s, n, l, Reps.putHid hm e xs vs q⟩
  | .scr ns, v, q => by
    simp only [Rep] at q ⊢
    obtain ⟨a, e1, s, l⟩ := q
    refine ⟨a, e1, ?_, l⟩
    rcases s with ⟨u, s⟩ | ⟨s, n⟩ | s
    · exact .inl ⟨u, by rw [upd_ne (fun z => by rw [z, e] at s; cases s)]; exact s⟩
    · exact .inr (.inl ⟨by rw [upd_ne (fun z => n.2 (by rw [z]; exact hm))]; exact s, n⟩)
    · exact .inr (.inr s)
  | .ref i, v, q => by simpa only [Rep] using q
  | .fn _, _, q => by simp only [Rep] at q
theorem Reps.putHid (hm : D ∈ ι.hid) (e : H D = some (.lst acc)) : ∀ (ts : List T) (vs : List V), Reps K ι H ts vs → Reps K ι (upd H D o) ts vs
  | [], [], _ => by simp only [Reps]
  | x :: xs, v :: vs, q => by
    simp only [Reps] at q ⊢
    exact ⟨Rep.putHid hm e x v q.1, Reps.putHid hm e xs vs q.2⟩
  | [], _ :: _, q => by simp only [Reps] at q
  | _ :: _, [], q => by simp only [Reps] at q
end
theorem HR.putHid {h : Hs} (r : HR K ι h H) (hm : D ∈ ι.hid) (e : H D = some (.lst acc)) (n : ∀ i : Nat, ι.cs[i]? ≠ some (some D)) (ho : ∀ ps, o ≠ .tbl ps) : HR K ι h (upd H D o) where
  len := r.len
  inj := r.inj
  off := r.off
  live := fun i a e1 => by
    obtain ⟨u, e2, m⟩ := r.live i a e1
    exact ⟨u, by rw [upd_ne (fun z => n i (by rw [← z]; exact e1))]; exact e2, m⟩
  lst := fun i xs e1 => by
    obtain ⟨a, vs, f1, f2, l, q, b⟩ := r.lst i xs e1
    exact ⟨a, vs, f1, by rw [upd_ne (fun z => n i (by rw [← z]; exact f1))]; exact f2, l, Reps.putHid hm e xs vs q, b⟩
  hidT := fun b hb => by
    by_cases z : b = D
    · subst z; exact ⟨_, upd_same, ho⟩
    · obtain ⟨u, e1, t⟩ := r.hidT b hb
      exact ⟨u, by rw [upd_ne z]; exact e1, t⟩
theorem WS.putHid {Γ : Ga} {h : Hs} (w : WS Γ K ι h H) (hm : D ∈ ι.hid) (e : H D = some (.lst acc)) (n : ∀ i : Nat, ι.cs[i]? ≠ some (some D)) (ho : ∀ ps, o ≠ .tbl ps := by intro ps z; cases z) : WS Γ K ι h (upd H D o) := ⟨w.hr.putHid hm e n ho, tabs_put w.tb e⟩
end
theorem Fx.putNew {ι ι' : Io} {H H' : Hp} {D : Addr} {o : HO} (f : Fx ι H ι' H') (hD : H D = none) : Fx ι H ι' (upd H' D o) :=
  ⟨f.ext, f.old, fun b u e n t => by rw [upd_ne (ne_of_none e hD)]; exact f.keep b u e n t, fun b u e t => by rw [upd_ne (ne_of_none e hD)]; exact f.trk b u e t, f.hx⟩
theorem Fx.dropHid {cs cs' : List (Option Addr)} {hid hid' : List Addr} {D : Addr} {H H' : Hp} (f : Fx ⟨cs, hid ++ [D]⟩ H ⟨cs', hid' ++ [D]⟩ H') (he : hid' = hid) : Fx ⟨cs, hid⟩ H ⟨cs', hid'⟩ H' :=
  ⟨f.ext, f.old, f.keep, f.trk, fun b hb => .inl (by rw [← he]; exact hb)⟩
theorem Fx.addHid {ι : Io} {cs' : List (Option Addr)} {hid' : List Addr} {D : Addr} {H H' : Hp} (f : Fx ι H ⟨cs', hid'⟩ H') (hD : H D = none) : Fx ι H ⟨cs', hid' ++ [D]⟩ H' :=
  ⟨f.ext, f.old, f.keep, f.trk, fun b hb => by
    rcases List.mem_append.mp hb with z | z
    · exact f.hx b z
    · rw [List.mem_singleton] at z; subst z; exact .inr (Nw.none hD)⟩

/-! ### targets -/
/-- what is handed to a target -/
def TgR (K : PySem.W.Frag) (ι : Io) (H : Hp) (g : G) (x : T) (v : V) : Prop := match g with
  | .name _ => Rep K ι H x v
  | .tup _ => Rep K ι H x v ∨ ∃ a vs xs, x = .tup xs ∧ v = .ref a ∧ SqT K H a vs ∧ Reps K ι H xs vs
theorem TgR.of {K : PySem.W.Frag} {ι : Io} {H : Hp} {g : G} {x : T} {v : V} (r : Rep K ι H x v) : TgR K ι H g x v := by
  cases g with
  | name i => exact r
  | tup gs => exact .inl r
theorem TgR.tup {K : PySem.W.Frag} {ι : Io} {H : Hp} {gs : List G} {xs : List T} {v : V} (r : TgR K ι H (.tup gs) (.tup xs) v) : ∃ a vs, v = .ref a ∧ SqT K H a vs ∧ Reps K ι H xs vs := by
  rcases r with r | ⟨a, vs, ys, e, e2, s, q⟩
  · simp only [Rep] at r
    obtain ⟨a, vs, e, s, _, q⟩ := r
    exact ⟨a, vs, e, s.sq, q⟩
  · cases e
    exact ⟨a, vs, e2, s, q⟩
mutual
/-- the names of a target -/
def gN : G → List Nat
  | .name i => [i]
  | .tup gs => gNs gs
def gNs : List G → List Nat
  | [] => []
  | g :: gs => gN g ++ gNs gs
end
/-- only the slots of vs differ -/
structure Off (vs : List Nat) (σ σ' : L2.St) : Prop where
  len : σ'.length = σ.length
  off : ∀ j, j ∉ vs → σ'[j]? = σ[j]?
theorem Off.refl (vs : List Nat) (σ : L2.St) : Off vs σ σ := ⟨rfl, fun _ _ => rfl⟩
theorem Off.trans {vs ws : List Nat} {σ σ1 σ2 : L2.St} (a : Off vs σ σ1) (b : Off ws σ1 σ2) : Off (vs ++ ws) σ σ2 :=
  ⟨b.len.trans a.len, fun j h => by rw [List.mem_append, not_or] at h; rw [b.off j h.2, a.off j h.1]⟩
def gE (Γ : Ga) (K : PySem.W.Frag) (g : G) : TG := fun v σ H Q => ∃ ι σt h x σt', WS Γ K ι h H ∧ EnvR K ι H σt σ ∧ TgR K ι H g x v ∧ asgG g x σt = some σt' ∧ ∀ σ', EnvR K ι H σt' σ' → Off (gN g) σ σ' → Q σ' H
def gEs (Γ : Ga) (K : PySem.W.Frag) (gs : List G) : TGs := fun vs σ H Q => ∃ ι σt h xs σt', WS Γ K ι h H ∧ EnvR K ι H σt σ ∧ Reps K ι H xs vs ∧ asgGs gs xs σt = some σt' ∧ ∀ σ', EnvR K ι H σt' σ' → Off (gNs gs) σ σ' → Q σ' H
theorem PG.weak {X : Cx} {e : Expr} {t t' : TG} (h : PG X e t) (w : ∀ v σ H Q, t' v σ H Q → t v σ H Q) : PG X e t' := ⟨fun pins s σ H v u Q I r q => h.run pins s σ H v u Q I r (w _ _ _ _ q)⟩
theorem PGs.weak {X : Cx} {e : List Expr} {t t' : TGs} (h : PGs X e t) (w : ∀ v σ H Q, t' v σ H Q → t v σ H Q) : PGs X e t' := ⟨fun pins s σ H v u Q I r q => h.run pins s σ H v u Q I r (w _ _ _ _ q)⟩
def locB (sc : Scope) (x : Str) : Bool := match sc.names.lookup x with
  | some .local => true
  | some .cell => true
  | _ => false
theorem loc_of {sc : Scope} {x : Str} (h : locB sc x = true) : Loc sc x := by
  unfold locB at h
  split at h <;> first | (rename_i e; exact .inl e) | (rename_i e; exact .inr e) | cases h
mutual
/-- the target is that of the text -/
def tgC (N : List Str) (sc : Scope) : G → Expr → Bool
  | .name i, e => match e with
    | .Name x _ => decide (N[i]? = some x) && locB sc x
    | _ => false
  | .tup gs, e => match e with
    | .Tuple es _ _ => tgCs N sc gs es
    | _ => false
def tgCs (N : List Str) (sc : Scope) : List G → List Expr → Bool
  | [], [] => true
  | g :: gs, e :: es => tgC N sc g e && tgCs N sc gs es
  | _, _ => false
end
theorem EnvR.set {K : PySem.W.Frag} {ι : Io} {H : Hp} {σt : SH.Env} {σ : L2.St} {i : Nat} {x : T} {v : V} (er : EnvR K ι H σt σ) (r : Rep K ι H x v) : EnvR K ι H (σt.set i (some x)) (σ.set i (some v)) := by
  refine ⟨by simp [er.1], fun j t e => ?_⟩
  by_cases hj : i = j
  · subst hj
    have hl := (List.getElem?_eq_some_iff.mp e).1
    rw [List.length_set] at hl
    rw [List.getElem?_set_self hl] at e
    cases e
    exact ⟨v, by rw [List.getElem?_set_self (by rw [← er.1]; exact hl)], r⟩
  · rw [List.getElem?_set_ne hj] at e ⊢
    exact er.2 j t e
theorem tgC_form {N : List Str} {sc : Scope} {g : G} {e : Expr} (h : tgC N sc g e = true) : (∃ x p, e = .Name x p) ∨ ∃ es k p, e = .Tuple es k p := by
  cases g <;> cases e <;> first
    | exact .inl ⟨_, _, rfl⟩
    | exact .inr ⟨_, _, _, rfl⟩
    | (simp only [tgC] at h; exact absurd h Bool.false_ne_true)
theorem asg_form {N : List Str} {sc : Scope} : ∀ {gs : List G} {es : List Expr}, tgCs N sc gs es = true → ∀ env : PySem.Env, (assignEach es env).findIdx? (·.1) = none ∧ (assignEach es env).length = gs.length ∧ ∀ e r, es = e :: r → (assignEach (e :: r) env).map (·.2) = assign e env :: (assignEach r env).map (·.2)
  | [], [], _, env => ⟨rfl, rfl, fun _ _ h => nomatch h⟩
  | g :: gs, e :: es, h, env => by
    simp only [tgCs, Bool.and_eq_true] at h
    obtain ⟨a, b, _⟩ := asg_form h.2 env
    rcases tgC_form h.1 with ⟨x, p, rfl⟩ | ⟨l, k, p, rfl⟩
    · refine ⟨?_, ?_, fun e r z => ?_⟩
      · simp only [assignEach, List.findIdx?_cons, a]; rfl
      · simp only [assignEach, List.length_cons, b]
      · cases z; rfl
    · refine ⟨?_, ?_, fun e r z => ?_⟩
      · simp only [assignEach, List.findIdx?_cons, a]; rfl
      · simp only [assignEach, List.length_cons, b]
      · cases z; rfl
  | [], _ :: _, h, _ => by simp [tgCs] at h
  | _ :: _, [], h, _ => by simp [tgCs] at h
theorem asgGs_len : ∀ {gs : List G} {xs : List T} {σ σ' : SH.Env}, asgGs gs xs σ = some σ' → xs.length = gs.length
  | [], [], _, _, _ => rfl
  | g :: gs, x :: xs, σ, σ', h => by
    simp only [asgGs] at h
    split at h
    · simp [asgGs_len h]
    · cases h
  | [], _ :: _, _, _, h => by simp [asgGs] at h
  | _ :: _, [], _, _, h => by simp [asgGs] at h
section
variable {Γ : Ga} {X : Cx}
mutual
theorem sg_ofS {sc0 : Scope} (hc : X.calm = true) (hN : X.N.Nodup) (hf : ∀ x, locB sc0 x = true → Loc X.env.scope x ∧ (X.fn x = true ∨ X.env.scope.names.lookup x = some .local)) : ∀ (g : G) (e : Expr), tgC X.N sc0 g e = true → PG X e (gE Γ X.K g)
  | .name i, e, h => by
    cases e with
    | Name x p =>
      simp only [tgC, Bool.and_eq_true, decide_eq_true_eq] at h
      refine PG.weak (pg_name hN h.1 (hf x h.2).1 (hf x h.2).2) fun v σ H Q q => ?_
      obtain ⟨ι, σt, hh, x, σt', w, er, r, ea, q⟩ := q
      simp only [asgG] at ea
      split at ea
      · cases ea
        refine q _ (er.set r) ⟨by simp, fun j hj => ?_⟩
        simp only [gN, List.mem_singleton] at hj
        rw [List.getElem?_set_ne (fun z => hj z.symm)]
      · cases ea
    | _ => simp only [tgC] at h; exact absurd h Bool.false_ne_true
  | .tup gs, e, h => by
    cases e with
    | Tuple es k p =>
      simp only [tgC] at h
      obtain ⟨a1, a2, _⟩ := asg_form h X.env
      refine PG.weak (pg_tup hc (sgs_ofS hc hN hf gs es h) a2 a1) fun v σ H Q q => ?_
      obtain ⟨ι, σt, hh, x, σt', w, er, r, ea, q⟩ := q
      cases x <;> first | (simp only [asgG, reduceCtorEq] at ea; done) | skip
      rename_i xs
      obtain ⟨a, vs, rfl, s, r⟩ := r.tup
      simp only [asgG] at ea
      exact ⟨a, vs, rfl, s, by rw [← r.length]; exact asgGs_len ea, ι, σt, hh, xs, σt', w, er, r, ea, fun σ' e1 e2 => q σ' e1 (by simpa only [gN] using e2)⟩
    | _ => simp only [tgC] at h; exact absurd h Bool.false_ne_true
theorem sgs_ofS {sc0 : Scope} (hc : X.calm = true) (hN : X.N.Nodup) (hf : ∀ x, locB sc0 x = true → Loc X.env.scope x ∧ (X.fn x = true ∨ X.env.scope.names.lookup x = some .local)) : ∀ (gs : List G) (es : List Expr), tgCs X.N sc0 gs es = true → PGs X es (gEs Γ X.K gs)
  | [], [], _ => PGs.weak pgs_nil fun vs σ H Q q => by
    obtain ⟨ι, σt, hh, xs, σt', w, er, r, ea, q⟩ := q
    cases xs with
    | cons _ _ => simp [asgGs] at ea
    | nil =>
      simp only [asgGs, Option.some.injEq] at ea
      subst ea
      cases vs with
      | nil => exact ⟨rfl, q σ er (Off.refl _ _)⟩
      | cons _ _ => simp only [Reps] at r
  | g :: gs, e :: es, h => by
    have h' := h
    simp only [tgCs, Bool.and_eq_true] at h
    obtain ⟨_, _, a3⟩ := asg_form h' X.env
    refine PGs.weak (pgs_cons (sg_ofS hc hN hf g e h.1) (sgs_ofS hc hN hf gs es h.2) (a3 e es rfl)) fun vs σ H Q q => ?_
    obtain ⟨ι, σt, hh, xs, σt', w, er, r, ea, q⟩ := q
    cases xs with
    | nil => simp [asgGs] at ea
    | cons x xs =>
      cases vs with
      | nil => simp only [Reps] at r
      | cons v vs =>
        simp only [Reps] at r
        simp only [asgGs] at ea
        split at ea
        · rename_i σ1 e1
          refine ⟨v, vs, rfl, ι, σt, hh, x, σ1, w, er, TgR.of r.1, e1, fun σ' er' off => ⟨ι, σ1, hh, xs, σt', w, er', r.2, ea, fun σ2 er2 off2 => q σ2 er2 (by simpa only [gNs] using off.trans off2)⟩⟩
        · cases ea
  | [], _ :: _, h => by simp [tgCs] at h
  | _ :: _, [], h => by simp [tgCs] at h
end
theorem sg_of (hc : X.calm = true) (hN : X.N.Nodup) (hf : ∀ x, X.env.scope.names.lookup x = some .cell → X.fn x = true) (g : G) (e : Expr) (h : tgC X.N X.env.scope g e = true) : PG X e (gE Γ X.K g) :=
  sg_ofS hc hN (fun x hx => ⟨loc_of hx, (loc_of hx).elim (fun z => .inr z) fun z => .inl (hf x z)⟩) g e h
theorem rel_look {scope sc : Scope} {y : Str} {q : NameKind} (h : scope.names.lookup y = some q) (hq : q ≠ .free) : (relS scope sc).names.lookup y = some q := by
  have key : ∀ (f : Str × NameKind → Str × NameKind), (∀ p, (f p).1 = p.1) → (∀ p, p.2 ≠ .free → (f p).2 = p.2) → ∀ l : List (Str × NameKind), l.lookup y = some q → (l.map f).lookup y = some q := by
    intro f h1 h2 l
    induction l with
    | nil => intro h; cases h
    | cons p l ih =>
      intro h
      have e1 := h1 p
      have e2 := h2 p
      obtain ⟨n, k⟩ := p
      cases ef : f (n, k) with
      | mk n' k' =>
        rw [ef] at e1 e2
        have e1 : n' = n := e1
        subst e1
        rw [List.map_cons, ef, List.lookup_cons]
        rw [List.lookup_cons] at h
        cases e : y == n' with
        | true =>
          rw [e] at h
          have h : k = q := Option.some.inj h
          subst h
          have e2 : k' = k := e2 hq
          rw [e2]
        | false =>
          rw [e] at h
          exact ih h
  refine key _ (fun p => ?_) (fun p hp => ?_) _ h
  · obtain ⟨n, k⟩ := p
    show (if _ then (n, NameKind.cell) else (n, k)).1 = n
    split <;> rfl
  · obtain ⟨n, k⟩ := p
    have hp : k ≠ .free := hp
    have hk : (k == NameKind.free) = false := by cases k <;> first | rfl | exact absurd rfl hp
    show (if (k == .free && sc.kind == .function && sc.names.lookup n == some .cell) = true then (n, NameKind.cell) else (n, k)).2 = k
    rw [hk]; rfl
end
end SH
end

section
set_option autoImplicit false
set_option linter.all false
set_option maxRecDepth 100000
/-! Strandhues: iterators, comprehensions. -/
namespace SH
open PySem PySem.Spec PyProof.Rows L2

/-- J walks the items xs, whatever comes behind the world (ι, H) -/
structure WalkJ (Γ : Ga) (K : PySem.W.Frag) (g : G) (ι : Io) (H : Hp) (xs : List T) (J : It) : Prop where
  go : ∀ (i : Nat) (ι' : Io) (h' : Hs) (H' : Hp), WS Γ K ι' h' H' → Fx ι H ι' H' → i < xs.length → J.go i H'
  stop : ∀ (ι' : Io) (h' : Hs) (H' : Hp), WS Γ K ι' h' H' → Fx ι H ι' H' → J.stop xs.length H'
  yld : ∀ (i : Nat) (x : T) (ι' : Io) (h' : Hs) (H' H'' : Hp) (v : V), WS Γ K ι' h' H' → Fx ι H ι' H' → xs[i]? = some x → J.yld i H' v H'' → WS Γ K ι' h' H'' ∧ Fr ι' H' ι' H'' ∧ TgR K ι' H'' g x v
  len : xs.length ≤ LINE
abbrev tI (Γ : Ga) (K : PySem.W.Frag) (E : XK) (g : G) (r : SH.Env → Hs → R (List T)) : TI := tG Γ K E (fun ι H xs J => WalkJ Γ K g ι H xs J) r
theorem PI.weak {X : Cx} {tg e : Expr} {t t' : TI} (h : PI X tg e t) (w : ∀ σ H Q, t' σ H Q → t σ H Q) : PI X tg e t' := ⟨fun pins s σ H Q I q => h.run pins s σ H Q I (w _ _ _ q)⟩
/-- a target that takes pairs apart -/
def isTup : G → Bool
  | .tup _ => true
  | _ => false

section
variable {Γ : Ga} {K : PySem.W.Frag} {ι : Io} {h : Hs} {H : Hp} {g : G}
theorem walk_lst {a : Addr} {xs : List T} {vs : List V} (w : WS Γ K ι h H) (s : H a = some (.lst vs)) (n : ι.no a) (l : xs.length ≤ LINE) (r : Reps K ι H xs vs) : WalkJ Γ K g ι H xs (Itl K a) := by
  have key : ∀ ι' h' H', WS Γ K ι' h' H' → Fx ι H ι' H' → SqL K H' a vs := fun ι' h' H' w' f => .inl (.inl (f.keep a _ s n.1 (fun ps z => by cases z)))
  have hl := r.length
  refine ⟨fun i ι' h' H' w' f hi => ?_, fun ι' h' H' w' f => ⟨vs, key _ _ _ w' f, by omega⟩, fun i x ι' h' H' H'' v w' f hi hy => ?_, l⟩
  · have hi2 : i < vs.length := by omega
    exact ⟨vs, vs[i], key _ _ _ w' f, List.getElem?_eq_getElem hi2⟩
  · obtain ⟨e, hy⟩ := hy
    subst e
    obtain ⟨v', e1, rv⟩ := (Reps.mono w.hr f xs vs r).get hi
    have e2 := hy vs (key _ _ _ w' f)
    rw [e1] at e2
    cases e2
    exact ⟨w', Fr.refl _ _, TgR.of rv⟩
theorem walk_scr {a : Addr} {ns : List Int} (w : WS Γ K ι h H) (s : Rep K ι H (.scr ns) (.ref a)) : WalkJ Γ K g ι H (ns.map T.int) (Itl K a) := by
  have key : ∀ ι' h' H', WS Γ K ι' h' H' → Fx ι H ι' H' → SqL K H' a (ns.map V.int) := fun ι' h' H' w' f => by
    have s' := Rep.mono w.hr f _ _ s
    simp only [Rep] at s'
    obtain ⟨b, e, s', l⟩ := s'
    cases e
    rcases s' with ⟨o, s'⟩ | ⟨s', _⟩ | s'
    · exact .inl (.inr ⟨o, s'⟩)
    · exact .inl (.inl s')
    · exact .inr s'
  have hl : ns.length ≤ LINE := by
    simp only [Rep] at s
    obtain ⟨b, e, s', l⟩ := s
    exact l
  refine ⟨fun i ι' h' H' w' f hi => ?_, fun ι' h' H' w' f => ⟨_, key _ _ _ w' f, by simp⟩, fun i x ι' h' H' H'' v w' f hi hy => ?_, by simpa using hl⟩
  · have hi2 : i < (ns.map V.int).length := by simpa using hi
    exact ⟨_, (ns.map V.int)[i], key _ _ _ w' f, List.getElem?_eq_getElem hi2⟩
  · obtain ⟨e, hy⟩ := hy
    subst e
    obtain ⟨v', e1, rv⟩ := (Reps.of_ints (K := K) (ι := ι') (H := _) ns).get hi
    have e2 := hy _ (key _ _ _ w' f)
    rw [e1] at e2
    cases e2
    exact ⟨w', Fr.refl _ _, TgR.of rv⟩
theorem walk_tup {a : Addr} {xs : List T} {vs : List V} (w : WS Γ K ι h H) (s : TupAt K H a vs) (l : xs.length ≤ LINE) (r : Reps K ι H xs vs) : WalkJ Γ K g ι H xs (Itt K a) := by
  have key : ∀ ι' h' H', WS Γ K ι' h' H' → Fx ι H ι' H' → SqT K H' a vs := fun ι' h' H' w' f => (TupAt.mono w.hr f s).sq
  have hl := r.length
  refine ⟨fun i ι' h' H' w' f hi => ?_, fun ι' h' H' w' f => ⟨vs, key _ _ _ w' f, by omega⟩, fun i x ι' h' H' H'' v w' f hi hy => ?_, l⟩
  · have hi2 : i < vs.length := by omega
    exact ⟨vs, vs[i], key _ _ _ w' f, List.getElem?_eq_getElem hi2⟩
  · obtain ⟨e, hy⟩ := hy
    subst e
    obtain ⟨v', e1, rv⟩ := (Reps.mono w.hr f xs vs r).get hi
    have e2 := hy vs (key _ _ _ w' f)
    rw [e1] at e2
    cases e2
    exact ⟨w', Fr.refl _ _, TgR.of rv⟩
theorem rngL_get {lo : Int} {n i : Nat} {x : T} (h : (rngL lo n)[i]? = some x) : x = .int (lo + i) := by
  unfold rngL at h
  rw [List.getElem?_map] at h
  cases hr : (List.range n)[i]? with
  | none => rw [hr] at h; cases h
  | some j =>
    rw [hr] at h
    have := (List.getElem?_eq_some_iff.mp hr).2
    rw [List.getElem_range] at this
    subst this
    cases h
    rfl
theorem walk_rng (lo : Int) (n : Nat) (hn : n ≤ LINE) : WalkJ Γ K g ι H (rngL lo n) (Itr lo n) := by
  refine ⟨fun i ι' h' H' w' f hi => by rw [rng_len] at hi; exact hi, fun ι' h' H' w' f => by rw [rng_len]; exact Nat.le_refl _, fun i x ι' h' H' H'' v w' f hi hy => ?_, by rw [rng_len]; exact hn⟩
  obtain ⟨e, hy⟩ := hy
  subst e hy
  rw [rngL_get hi]
  exact ⟨w', Fr.refl _ _, TgR.of (by simp only [Rep])⟩
/-- pairs -/
theorem enum_len : ∀ (n : Nat) (xs : List T), (enumFrom' n xs).length = xs.length
  | _, [] => rfl
  | n, x :: xs => by simp [enumFrom', enum_len (n + 1) xs]
theorem enum_get : ∀ (n : Nat) (xs : List T) (i : Nat) (y : T), (enumFrom' n xs)[i]? = some y → ∃ x, xs[i]? = some x ∧ y = .tup [.int ((n + i : Nat) : Int), x]
  | _, [], i, y, h => by simp [enumFrom'] at h
  | n, x :: xs, 0, y, h => by
    simp only [enumFrom', List.getElem?_cons_zero, Option.some.injEq] at h
    exact ⟨x, rfl, by rw [← h]; rfl⟩
  | n, x :: xs, i + 1, y, h => by
    simp only [enumFrom', List.getElem?_cons_succ] at h
    obtain ⟨z, h1, h2⟩ := enum_get (n + 1) xs i y h
    exact ⟨z, by simpa using h1, by rw [h2]; congr 3; congr 1; omega⟩
theorem zip_len : ∀ (xs ys : List T), (zipT xs ys).length = min xs.length ys.length
  | [], _ => by simp [zipT]
  | _ :: _, [] => by simp [zipT]
  | x :: xs, y :: ys => by simp only [zipT, List.length_cons, zip_len xs ys]; omega
theorem zip_get : ∀ (xs ys : List T) (i : Nat) (z : T), (zipT xs ys)[i]? = some z → ∃ x y, xs[i]? = some x ∧ ys[i]? = some y ∧ z = .tup [x, y]
  | [], _, i, z, h => by simp [zipT] at h
  | _ :: _, [], i, z, h => by simp [zipT] at h
  | x :: xs, y :: ys, 0, z, h => by
    simp only [zipT, List.getElem?_cons_zero, Option.some.injEq] at h
    exact ⟨x, y, rfl, rfl, h.symm⟩
  | x :: xs, y :: ys, i + 1, z, h => by
    simp only [zipT, List.getElem?_cons_succ] at h
    obtain ⟨a, b, h1, h2, h3⟩ := zip_get xs ys i z h
    exact ⟨a, b, by simpa using h1, by simpa using h2, h3⟩
theorem pair_new {x y : T} {vx vy : V} {p : Addr} (w : WS Γ K ι h H) (hp : H p = none) (rx : Rep K ι H x vx) (ry : Rep K ι H y vy) (hg : isTup g = true) :
    WS Γ K ι h (upd H p (.tup [vx, vy])) ∧ Fr ι H ι (upd H p (.tup [vx, vy])) ∧ TgR K ι (upd H p (.tup [vx, vy])) g (.tup [x, y]) (.ref p) := by
  refine ⟨w.new hp, Fr.new hp, ?_⟩
  cases g with
  | name i => cases hg
  | tup gs =>
    refine .inr ⟨p, [vx, vy], [x, y], rfl, rfl, .inl (.inl upd_same), ?_⟩
    simp only [Reps]
    exact ⟨Rep.mono w.hr (Fr.new hp).toFx _ _ rx, Rep.mono w.hr (Fr.new hp).toFx _ _ ry, trivial⟩
theorem walk_enum {a : Addr} {xs : List T} {vs : List V} (w : WS Γ K ι h H) (s : H a = some (.lst vs)) (n : ι.no a) (l : xs.length ≤ LINE) (r : Reps K ι H xs vs) (hg : isTup g = true) : WalkJ Γ K g ι H (enumFrom' 0 xs) (Ite K a) := by
  have key : ∀ ι' h' H', WS Γ K ι' h' H' → Fx ι H ι' H' → SqL K H' a vs := fun ι' h' H' w' f => .inl (.inl (f.keep a _ s n.1 (fun ps z => by cases z)))
  have hl := r.length
  refine ⟨fun i ι' h' H' w' f hi => ?_, fun ι' h' H' w' f => ⟨vs, key _ _ _ w' f, by rw [enum_len]; omega⟩, fun i x ι' h' H' H'' v w' f hi hy => ?_, by rw [enum_len]; exact l⟩
  · have hi2 : i < vs.length := by rw [enum_len] at hi; omega
    exact ⟨vs, vs[i], key _ _ _ w' f, List.getElem?_eq_getElem hi2⟩
  · obtain ⟨p, z, rfl, hp, rfl, hy⟩ := hy
    obtain ⟨y, e1, rfl⟩ := enum_get 0 xs i x hi
    obtain ⟨v', e2, rv⟩ := (Reps.mono w.hr f xs vs r).get e1
    have e3 := hy vs (key _ _ _ w' f)
    rw [e2] at e3
    cases e3
    exact pair_new w' hp (by simp only [Rep]; rw [Nat.zero_add]) rv hg
theorem walk_enumT {a : Addr} {xs : List T} {vs : List V} (w : WS Γ K ι h H) (s : TupAt K H a vs) (l : xs.length ≤ LINE) (r : Reps K ι H xs vs) (hg : isTup g = true) : WalkJ Γ K g ι H (enumFrom' 0 xs) (IteT K a) := by
  have key : ∀ ι' h' H', WS Γ K ι' h' H' → Fx ι H ι' H' → SqT K H' a vs := fun ι' h' H' w' f => (TupAt.mono w.hr f s).sq
  have hl := r.length
  refine ⟨fun i ι' h' H' w' f hi => ?_, fun ι' h' H' w' f => ⟨vs, key _ _ _ w' f, by rw [enum_len]; omega⟩, fun i x ι' h' H' H'' v w' f hi hy => ?_, by rw [enum_len]; exact l⟩
  · have hi2 : i < vs.length := by rw [enum_len] at hi; omega
    exact ⟨vs, vs[i], key _ _ _ w' f, List.getElem?_eq_getElem hi2⟩
  · obtain ⟨p, z, rfl, hp, rfl, hy⟩ := hy
    obtain ⟨y, e1, rfl⟩ := enum_get 0 xs i x hi
    obtain ⟨v', e2, rv⟩ := (Reps.mono w.hr f xs vs r).get e1
    have e3 := hy vs (key _ _ _ w' f)
    rw [e2] at e3
    cases e3
    exact pair_new w' hp (by simp only [Rep]; rw [Nat.zero_add]) rv hg
theorem walk_zipL {a b : Addr} {xs ys : List T} {vs us : List V} (w : WS Γ K ι h H) (s : H a = some (.lst vs)) (n : ι.no a) (s2 : H b = some (.lst us)) (n2 : ι.no b) (l : xs.length ≤ LINE) (r : Reps K ι H xs vs) (r2 : Reps K ι H ys us) (hg : isTup g = true) : WalkJ Γ K g ι H (zipT xs ys) (Itz K a b) := by
  have key : ∀ ι' h' H', WS Γ K ι' h' H' → Fx ι H ι' H' → SqL K H' a vs := fun ι' h' H' w' f => .inl (.inl (f.keep a _ s n.1 (fun ps z => by cases z)))
  have key2 : ∀ ι' h' H', WS Γ K ι' h' H' → Fx ι H ι' H' → SqL K H' b us := fun ι' h' H' w' f => .inl (.inl (f.keep b _ s2 n2.1 (fun ps z => by cases z)))
  have hl := r.length
  have hl2 := r2.length
  refine ⟨fun i ι' h' H' w' f hi => ?_, fun ι' h' H' w' f => ⟨vs, us, key _ _ _ w' f, key2 _ _ _ w' f, by rw [zip_len]; omega⟩, fun i x ι' h' H' H'' v w' f hi hy => ?_, by rw [zip_len]; omega⟩
  · rw [zip_len] at hi
    have h1 : i < vs.length := by omega
    have h2 : i < us.length := by omega
    exact ⟨vs, us, vs[i], us[i], key _ _ _ w' f, key2 _ _ _ w' f, List.getElem?_eq_getElem h1, List.getElem?_eq_getElem h2⟩
  · obtain ⟨p, z1, z2, rfl, hp, rfl, hy1, hy2⟩ := hy
    obtain ⟨y1, y2, e1, e2, rfl⟩ := zip_get xs ys i x hi
    obtain ⟨v1, e3, rv1⟩ := (Reps.mono w.hr f xs vs r).get e1
    obtain ⟨v2, e4, rv2⟩ := (Reps.mono w.hr f ys us r2).get e2
    have e5 := hy1 vs (key _ _ _ w' f)
    have e6 := hy2 us (key2 _ _ _ w' f)
    rw [e3] at e5
    rw [e4] at e6
    cases e5
    cases e6
    exact pair_new w' hp rv1 rv2 hg
theorem walk_zipT {a b : Addr} {xs ys : List T} {vs us : List V} (w : WS Γ K ι h H) (s : TupAt K H a vs) (s2 : TupAt K H b us) (l : xs.length ≤ LINE) (r : Reps K ι H xs vs) (r2 : Reps K ι H ys us) (hg : isTup g = true) : WalkJ Γ K g ι H (zipT xs ys) (RZ.ItzT K a b) := by
  have key : ∀ ι' h' H', WS Γ K ι' h' H' → Fx ι H ι' H' → SqT K H' a vs := fun ι' h' H' w' f => (TupAt.mono w.hr f s).sq
  have key2 : ∀ ι' h' H', WS Γ K ι' h' H' → Fx ι H ι' H' → SqT K H' b us := fun ι' h' H' w' f => (TupAt.mono w.hr f s2).sq
  have hl := r.length
  have hl2 := r2.length
  refine ⟨fun i ι' h' H' w' f hi => ?_, fun ι' h' H' w' f => ⟨vs, us, key _ _ _ w' f, key2 _ _ _ w' f, by rw [zip_len]; omega⟩, fun i x ι' h' H' H'' v w' f hi hy => ?_, by rw [zip_len]; omega⟩
  · rw [zip_len] at hi
    have h1 : i < vs.length := by omega
    have h2 : i < us.length := by omega
    exact ⟨vs, us, vs[i], us[i], key _ _ _ w' f, key2 _ _ _ w' f, List.getElem?_eq_getElem h1, List.getElem?_eq_getElem h2⟩
  · obtain ⟨p, z1, z2, rfl, hp, rfl, hy1, hy2⟩ := hy
    obtain ⟨y1, y2, e1, e2, rfl⟩ := zip_get xs ys i x hi
    obtain ⟨v1, e3, rv1⟩ := (Reps.mono w.hr f xs vs r).get e1
    obtain ⟨v2, e4, rv2⟩ := (Reps.mono w.hr f ys us r2).get e2
    have e5 := hy1 vs (key _ _ _ w' f)
    have e6 := hy2 us (key2 _ _ _ w' f)
    rw [e3] at e5
    rw [e4] at e6
    cases e5
    cases e6
    exact pair_new w' hp rv1 rv2 hg
end

theorem PostG.bindE {Γ : Ga} {K : PySem.W.Frag} {E : XK} {ι : Io} {H : Hp} {α β γ δ : Type} {ρ : Io → Hp → α → β → Prop} {ρ' : Io → Hp → γ → δ → Prop} {r : R α} {f : α → Hs → R γ} {Q : δ → Hp → Prop} {Q' : β → Hp → Prop} (p : PostG Γ K E ι H ρ' (r.bind f) Q)
    (k : ∀ x h1 ι1 H1 y, r = .ok x h1 → WS Γ K ι1 h1 H1 → Fr ι H ι1 H1 → ρ ι1 H1 x y → PostG Γ K E ι1 H1 ρ' (f x h1) Q → Q' y H1) : PostG Γ K E ι H ρ r Q' := by
  cases r with
  | ok t h => exact fun ι' H' v w g q => k t h ι' H' v rfl w g q (PostG.step g p)
  | ex c a h => exact p
  | bad => exact p
section
variable {Γ : Ga} {X : Cx} {E : XK} {g : G} {tg : Expr} {call : Calls} {pos : Pos}
/-- a list or a tuple, as it comes -/
def iSeqA (K : PySem.W.Frag) (tl : TE) : TI := fun σ H R => tl σ H fun x H1 => ∃ a, x = .ref a ∧ (((∃ xs, SqL K H1 a xs) ∧ R (Itl K a) H1) ∨ ((∃ xs, SqT K H1 a xs) ∧ R (Itt K a) H1))
theorem pi_seqA {l : Expr} {tl : TE} (hl : PE X l tl) : PI X tg l (iSeqA X.K tl) := by
  constructor
  intro pins s σ H R I hh
  refine thn (hl.run pins s σ H _ I hh) fun v s1 ⟨x, H1, I1, r1, a, ex, q1⟩ => ?_
  subst ex
  cases r1
  have fpk : ∀ b ∈ [s1.heap.objs.size], FpOk X pins H1 b := fun b hb => by
    rw [List.mem_singleton] at hb
    subst hb
    exact I1.fpOk (Nat.le_refl _) (I1.hok.fresh (Nat.le_refl _))
  rcases q1 with ⟨⟨xs, hq⟩, q⟩ | ⟨⟨xs, hq⟩, q⟩
  · obtain ⟨its, rv, p, hz⟩ := I1.list hq
    exact wpAny_pyIter_list p.isList ⟨_, _, _, _, H1, rfl, I1.kept (t' := s1.toks) fun b o eo => Heap.get?_push_of_some _ eo, turn_list a _, ⟨_, Heap.get?_push_size _ rfl, rfl, rfl⟩, fpk, q⟩
  · obtain ⟨its, rv, p, hz⟩ := I1.tuple hq
    exact wpAny_pyIter_tuple (show s1.heap.IsTuple a its.toArray from p) ⟨_, _, _, _, H1, rfl, I1.kept (t' := s1.toks) fun b o eo => Heap.get?_push_of_some _ eo, turn_tuple a _, ⟨_, Heap.get?_push_size _ rfl, rfl, rfl⟩, fpk, q⟩
theorem si_val {e : Expr} {e' : SH.E} (he : PE X e (tE Γ X.K E (evE call e'))) : PI X tg e (tI Γ X.K E g (evI call (.val e'))) := by
  refine PI.weak (pi_seqA he) fun σ H R q => ?_
  obtain ⟨ι, σt, h, w, er, p⟩ := q
  simp only [evI] at p
  refine ⟨ι, σt, h, w, er, p.bind fun x h1 ι1 H1 vx w1 f1 rx p1 => ?_⟩
  obtain ⟨zs, hz⟩ := p1.some
  have p1 := p1.of hz
  cases x <;> simp only [walkT, Option.some.injEq, reduceCtorEq] at hz
  · subst hz
    have rx' := rx
    simp only [Rep] at rx
    obtain ⟨a, vs, rfl, s, l, r⟩ := rx
    exact ⟨a, rfl, .inr ⟨⟨vs, s.sq⟩, p1 ι1 H1 _ w1 (Fr.refl _ _) (walk_tup w1 s l r)⟩⟩
  · subst hz
    simp only [Rep] at rx
    obtain ⟨a, vs, rfl, s, n, l, r⟩ := rx
    exact ⟨a, rfl, .inl ⟨⟨vs, .inl (.inl s)⟩, p1 ι1 H1 _ w1 (Fr.refl _ _) (walk_lst w1 s n l r)⟩⟩
  · subst hz
    have rx' := rx
    simp only [Rep] at rx
    obtain ⟨a, rfl, s, l⟩ := rx
    refine ⟨a, rfl, .inl ⟨?_, p1 ι1 H1 _ w1 (Fr.refl _ _) (walk_scr w1 rx')⟩⟩
    rcases s with ⟨o, s⟩ | ⟨s, _⟩ | s
    · exact ⟨_, .inl (.inr ⟨o, s⟩)⟩
    · exact ⟨_, .inl (.inl s)⟩
    · exact ⟨_, .inr s⟩
theorem si_rng {es : List Expr} {es' : List SH.E} {p : Pos} (r : RgE Γ X E call es es') (hb : BltOk X (Str.ofString "range")) : PI X tg (.Call (.Name (Str.ofString "range") p) es [] pos) (tI Γ X.K E g (evI call (.rng es'))) := by
  have core : ∀ σ H R, tI Γ X.K E g (evI call (.rng es')) σ H R → tA Γ X.K E (evEs call es') σ H fun vs H1 => ∃ a b, RgOk a b ∧ ((vs = [.int b] ∧ a = 0) ∨ vs = [.int a, .int b]) ∧ vs.length = es'.length ∧ R (Itr a (b - a).toNat) H1 := fun σ H R q => by
    obtain ⟨ι, σt, h, w, er, p⟩ := q
    simp only [evI] at p
    refine ⟨ι, σt, h, w, er, p.bindE fun xs h1 ι1 H1 vs ee w1 f1 rs p1 => ?_⟩
    obtain ⟨zs, hz⟩ := p1.some
    have p1 := p1.of hz
    obtain ⟨a, b, ok, rfl, ev⟩ := rng_core rs hz
    exact ⟨a, b, ok, ev, by rw [← rs.length]; exact evEs_length ee, p1 ι1 H1 _ w1 (Fr.refl _ _) (walk_rng a _ ok.2.2.2.2)⟩
  cases r with
  | one ha fa =>
    refine PI.weak (pi_range1 hb.gl hb.mg (RgE.pa (.one ha fa)) (by rw [frm_star fa]; rfl)) fun σ H R q => ?_
    obtain ⟨ι, σt, h, w, er, p⟩ := core σ H R q
    refine ⟨ι, σt, h, w, er, p.imp (fun _ _ _ _ r => r) fun vs H1 ⟨a, b, ok, ev, el, q⟩ => ?_⟩
    rcases ev with ⟨ev, rfl⟩ | ev
    · exact ⟨b, ev, ok.2.2.1, ok.2.2.2.1, by simpa using q⟩
    · subst ev
      simp at el
  | two ha hb' fa fb =>
    refine PI.weak (pi_range2 hb.gl hb.mg (RgE.pa (.two ha hb' fa fb)) (by rw [frm_star fa, frm_star fb]; rfl) (by rw [frm_star fb]; rfl)) fun σ H R q => ?_
    obtain ⟨ι, σt, h, w, er, p⟩ := core σ H R q
    refine ⟨ι, σt, h, w, er, p.imp (fun _ _ _ _ r => r) fun vs H1 ⟨a, b, ok, ev, el, q⟩ => ?_⟩
    rcases ev with ⟨ev, rfl⟩ | ev
    · subst ev
      simp at el
    · exact ⟨a, b, ev, ⟨ok.1, ok.2.1, ok.2.2.1, ok.2.2.2.1⟩, q⟩
theorem si_enum {e : Expr} {e' : SH.E} {p tpos : Pos} {elts : List Expr} {kk : Nat} (hb : BltOk X (Str.ofString "enumerate")) (hg : isTup g = true) (fe : frm e = true) (he : PE X e (tE Γ X.K E (evE call e'))) :
    PI X (.Tuple elts kk tpos) (.Call (.Name (Str.ofString "enumerate") p) [e] [] pos) (tI Γ X.K E g (evI call (.enum e'))) := by
  refine PI.weak (pi_enumA hb.gl hb.mg (sa_cons he sa_nil (frm_star fe _ _)) (by rw [frm_star fe]; rfl)) fun σ H Rk q => ?_
  obtain ⟨ι, σt, h, w, er, p⟩ := q
  simp only [evI] at p
  refine ⟨ι, σt, h, w, er, ?_⟩
  cases e1 : evE call e' σt h with
  | ok x h1 =>
    rw [e1] at p
    simp only [evEs, e1, R.bind_ok] at p ⊢
    intro ι1 H1 vs w1 f1 rs
    obtain ⟨v, rfl, rx⟩ := reps1 rs
    have p1 := PostG.step f1 p
    obtain ⟨zs, hz⟩ := p1.some
    have p1 := p1.of hz
    cases x <;> simp only [enumOf, Option.some.injEq, reduceCtorEq] at hz
    · subst hz
      simp only [Rep] at rx
      obtain ⟨a, us, rfl, s, l, r⟩ := rx
      exact ⟨a, rfl, .inr ⟨⟨us, s.sq⟩, p1 ι1 H1 _ w1 (Fr.refl _ _) (walk_enumT w1 s l r hg)⟩⟩
    · subst hz
      simp only [Rep] at rx
      obtain ⟨a, us, rfl, s, n, l, r⟩ := rx
      exact ⟨a, rfl, .inl ⟨⟨us, .inl (.inl s)⟩, p1 ι1 H1 _ w1 (Fr.refl _ _) (walk_enum w1 s n l r hg)⟩⟩
  | ex c a h1 =>
    rw [e1] at p
    simp only [evEs, e1, R.bind_ex] at p ⊢
    exact p
  | bad =>
    rw [e1] at p
    exact p.elim
theorem si_zip {e e2 : Expr} {e' e2' : SH.E} {p tpos : Pos} {elts : List Expr} {kk : Nat} (hb : BltOk X (Str.ofString "zip")) (hg : isTup g = true) (fe : frm e = true) (fe2 : frm e2 = true) (he : PE X e (tE Γ X.K E (evE call e'))) (he2 : PE X e2 (tE Γ X.K E (evE call e2'))) :
    PI X (.Tuple elts kk tpos) (.Call (.Name (Str.ofString "zip") p) [e, e2] [] pos) (tI Γ X.K E g (evI call (.zip e' e2'))) := by
  refine PI.weak (RZ.pi_zipA hb.gl hb.mg (sa_cons he (sa_cons he2 sa_nil (frm_star fe2 _ _)) (frm_star fe _ _)) (by rw [frm_star fe]) (frms_any (by simp [fe2]) _ _)) fun σ H Rk q => ?_
  obtain ⟨ι, σt, h, w, er, p⟩ := q
  simp only [evI] at p
  refine ⟨ι, σt, h, w, er, ?_⟩
  cases e1 : evE call e' σt h with
  | ok x h1 =>
    rw [e1] at p
    simp only [evEs, e1, R.bind_ok] at p ⊢
    cases e3 : evE call e2' σt h1 with
    | ok y h2 =>
      rw [e3] at p
      simp only [R.bind_ok] at p ⊢
      intro ι1 H1 vs w1 f1 rs
      obtain ⟨v, u, rfl, rx, ry⟩ := reps2 rs
      have p1 := PostG.step f1 p
      obtain ⟨zs, hz⟩ := p1.some
      have p1 := p1.of hz
      cases x <;> cases y <;> simp only [zipOf, Option.some.injEq, reduceCtorEq] at hz
      · subst hz
        simp only [Rep] at rx ry
        obtain ⟨a, us, rfl, s, l, r⟩ := rx
        obtain ⟨b, us2, rfl, s2, l2, r2⟩ := ry
        exact ⟨a, b, us, us2, rfl, .inr ⟨s.sq, s2.sq, p1 ι1 H1 _ w1 (Fr.refl _ _) (walk_zipT w1 s s2 l r r2 hg)⟩⟩
      · subst hz
        simp only [Rep] at rx ry
        obtain ⟨a, us, rfl, s, n, l, r⟩ := rx
        obtain ⟨b, us2, rfl, s2, n2, l2, r2⟩ := ry
        exact ⟨a, b, us, us2, rfl, .inl ⟨.inl (.inl s), .inl (.inl s2), p1 ι1 H1 _ w1 (Fr.refl _ _) (walk_zipL w1 s n s2 n2 l r r2 hg)⟩⟩
    | ex c a h2 =>
      rw [e3] at p
      exact p
    | bad =>
      rw [e3] at p
      exact p.elim
  | ex c a h1 =>
    rw [e1] at p
    simp only [evEs, e1, R.bind_ex] at p ⊢
    exact p
  | bad =>
    rw [e1] at p
    exact p.elim
end
end SH
end

section
set_option autoImplicit false
set_option linter.all false
set_option maxRecDepth 100000
/-! Strandhues: comprehensions. -/
namespace SH
open PySem PySem.Spec PyProof.Rows L2

/-- a comprehension's turn -/
abbrev turnC (call : Calls) (elt : SH.E) (g : G) (c : Option SH.E) (own : List Nat) (σ : SH.Env) : T → Hs → R (Option T) := fun x h => (R.of (asgG g x (wipeT σ own)) h).bind fun σ' h =>
  asB (evC call c σ' h) fun k h => if k then (evE call elt σ' h).bind fun y h => .ok (some y) h else .ok none h
theorem wipe_keep {σ : L2.St} {j : Nat} : ∀ {vs : List Nat}, j ∉ vs → (wipe σ vs)[j]? = σ[j]?
  | [], _ => rfl
  | v :: vs, h => by
    rw [List.mem_cons, not_or] at h
    show ((wipe σ vs).set v none)[j]? = _
    rw [List.getElem?_set_ne (fun z => h.1 z.symm)]
    exact wipe_keep h.2
theorem wipe_at {σ : L2.St} {j : Nat} : ∀ {vs : List Nat}, j ∈ vs → j < σ.length → (wipe σ vs)[j]? = some none
  | [], h, _ => by cases h
  | v :: vs, h, hl => by
    show ((wipe σ vs).set v none)[j]? = _
    by_cases e : v = j
    · subst e
      rw [List.getElem?_set_self (by rw [wipe_length]; exact hl)]
    · rw [List.getElem?_set_ne e]
      rcases List.mem_cons.mp h with z | z
      · exact absurd z.symm e
      · exact wipe_at z hl
theorem wipe_off {σ σ' : L2.St} {vs : List Nat} (o : Off vs (wipe σ vs) σ') : wipe σ' vs = wipe σ vs := by
  apply List.ext_getElem?
  intro j
  by_cases hj : j ∈ vs
  · by_cases hl : j < σ.length
    · rw [wipe_at hj hl, wipe_at hj (by rw [o.len, wipe_length]; exact hl)]
    · rw [List.getElem?_eq_none (by rw [wipe_length, o.len, wipe_length]; omega), List.getElem?_eq_none (by rw [wipe_length]; omega)]
  · rw [wipe_keep hj, o.off j hj]
theorem wipeT_length (σ : SH.Env) : ∀ vs : List Nat, (wipeT σ vs).length = σ.length
  | [] => rfl
  | v :: vs => by unfold wipeT; rw [List.length_set, wipeT_length σ vs]
theorem wipeT_some {σ : SH.Env} {i : Nat} {x : T} : ∀ {vs : List Nat}, (wipeT σ vs)[i]? = some (some x) → σ[i]? = some (some x) ∧ i ∉ vs
  | [], h => ⟨h, by simp⟩
  | v :: vs, h => by
    unfold wipeT at h
    by_cases hi : v = i
    · subst hi
      by_cases hv : v < (wipeT σ vs).length
      · rw [List.getElem?_set_self hv] at h; cases h
      · rw [List.getElem?_eq_none (by rw [List.length_set]; omega)] at h; cases h
    · rw [List.getElem?_set_ne hi] at h
      obtain ⟨h1, h2⟩ := wipeT_some h
      exact ⟨h1, by simp only [List.mem_cons, not_or]; exact ⟨fun e => hi e.symm, h2⟩⟩
theorem EnvR.wipe {K : PySem.W.Frag} {ι : Io} {H : Hp} {σt : SH.Env} {σ : L2.St} (er : EnvR K ι H σt σ) (vs : List Nat) : EnvR K ι H (wipeT σt vs) (L2.wipe σ vs) := by
  refine ⟨by rw [wipeT_length, wipe_length]; exact er.1, fun i t e => ?_⟩
  obtain ⟨e1, e2⟩ := wipeT_some e
  obtain ⟨v, h1, h2⟩ := er.2 i t e1
  exact ⟨v, by rw [wipe_keep e2]; exact h1, h2⟩
theorem Off.sub {vs ws : List Nat} {σ σ' : L2.St} (o : Off vs σ σ') (h : ∀ j ∈ vs, j ∈ ws) : Off ws σ σ' := ⟨o.len, fun j hj => o.off j fun z => hj (h j z)⟩

section
variable {Γ : Ga} {X : Cx} {E : XK} {pos : Pos} {call : Calls}
/-- how far a comprehension has come -/
structure Way (Γ : Ga) (K : PySem.W.Frag) (f : T → Hs → R (Option T)) (xs zs : List T) (hf : Hs) (ι1 : Io) (H1 : Hp) (D : Addr) (i : Nat) (H : Hp) (cs : List (Option Addr)) (h : Hs) (ys : List T) (acc : List V) (rest : List T) : Prop where
  ws : WS Γ K ⟨cs, ι1.hid ++ [D]⟩ h H
  fx : Fx ι1 H1 ⟨cs, ι1.hid⟩ H
  at' : H D = some (.lst acc)
  rs : Reps K ⟨cs, ι1.hid ++ [D]⟩ H ys acc
  len : acc.length ≤ i
  run : compR f (xs.drop i) h = .ok rest hf
  all : ys ++ rest = zs
  no : ∀ i : Nat, cs[i]? ≠ some (some D)
theorem drop_cons {α : Type} {xs : List α} {i : Nat} (hi : i < xs.length) : xs.drop i = xs[i] :: xs.drop (i + 1) := by
  rw [List.drop_eq_getElem_cons hi]
theorem lc_of {own : List (Str × Nat)} {elt' : SH.E} {g : G} {it' : SH.I} {c' : Option SH.E} {E' : XK} (hgn : ∀ j ∈ gN g, j ∈ own.map (·.2)) (σ : L2.St) (H : Hp) (Q : VK) (q : tF Γ X.K E (evE call (.comp elt' g it' c' (own.map (·.2)))) σ H Q) :
    tLc (tI Γ X.K E g (evI call it')) (gE Γ X.K g) (tT Γ X.K E' (tst (evC call c'))) (tE Γ X.K E' (evE call elt')) (own.map (·.2)) σ H Q := by
  obtain ⟨ι, σt, h, w, er, p⟩ := q
  simp only [evE] at p
  refine ⟨ι, σt, h, w, er, ?_⟩
  cases ei : evI call it' σt h with
  | ex c a h1 => rw [ei] at p; exact p
  | bad => rw [ei] at p; exact p.elim
  | ok xs h1 =>
    rw [ei] at p
    simp only [R.bind_ok] at p
    generalize hf : turnC call elt' g c' (own.map (·.2)) σt = f at *
    have p : PostF Γ X.K E ι H ((noEx (compR f xs h1)).bind fun ys h => R.ok (T.lst ys) h) Q := by rw [← hf]; exact p
    intro ι1 H1 J w1 f1 wj
    cases ec : compR f xs h1 with
    | ex c a h2 => rw [ec] at p; exact p.elim
    | bad => rw [ec] at p; exact p.elim
    | ok zs hf2 =>
      rw [ec] at p
      simp only [noEx, R.bind_ok] at p
      have p := PostF.step f1 p
      have er1 := er.mono w f1.toFx
      intro D hD
      refine ⟨fun i m H' => m = xs.length - i ∧ i ≤ xs.length ∧ ∃ cs h' ys acc rest, Way Γ X.K f xs zs hf2 ι1 H1 D i H' cs h' ys acc rest, ⟨xs.length, rfl, Nat.zero_le _, ι1.cs, h1, [], [], zs, ?_⟩, ?_⟩
      · exact ⟨w1.newHid hD, (Fr.new hD).toFx, upd_same, by simp only [Reps], Nat.le_refl _, by rw [List.drop_zero]; exact ec, rfl, (w1.fresh hD).1⟩
      · rintro i m H2 ⟨rfl, hle, cs, h2, ys, acc, rest, wy⟩
        have fxh : Fx ι1 H1 ⟨cs, ι1.hid ++ [D]⟩ H2 := wy.fx.addHid hD
        by_cases hlt : i < xs.length
        · have hx : xs[i]? = some xs[i] := List.getElem?_eq_getElem hlt
          refine .inr ⟨wj.go i _ _ _ wy.ws fxh hlt, fun H' => ∃ cs h' ys acc rest, Way Γ X.K f xs zs hf2 ι1 H1 D (i + 1) H' cs h' ys acc rest, fun H' hw => ⟨xs.length - (i + 1), by omega, rfl, hlt, hw⟩, fun v H3 hy => ?_⟩
          obtain ⟨w3, f3, tr⟩ := wj.yld i _ _ _ _ _ _ wy.ws fxh hx hy
          have hrun := wy.run
          rw [drop_cons hlt] at hrun
          simp only [compR] at hrun
          cases ef : f xs[i] h2 with
          | ex c a h3 => rw [ef] at hrun; cases hrun
          | bad => rw [ef] at hrun; cases hrun
          | ok o h3 =>
            rw [ef] at hrun
            simp only [R.bind_ok] at hrun
            cases er2 : compR f (xs.drop (i + 1)) h3 with
            | ex c a h4 => rw [er2] at hrun; cases hrun
            | bad => rw [er2] at hrun; cases hrun
            | ok rest2 h4 =>
              rw [er2] at hrun
              simp only [R.bind_ok, R.ok.injEq] at hrun
              obtain ⟨eq1, eq2⟩ := hrun
              subst eq2
              rw [← hf] at ef
              simp only [turnC] at ef
              cases ea : asgG g xs[i] (wipeT σt (own.map (·.2))) with
              | none => rw [ea] at ef; cases ef
              | some σ2 =>
                rw [ea] at ef
                simp only [R.of_some, R.bind_ok] at ef
                have f13 : Fx ι1 H1 ⟨cs, ι1.hid ++ [D]⟩ H3 := fxh.trans f3.toFx
                have at3 : H3 D = some (.lst acc) := f3.keep D _ wy.at' wy.no (fun ps z => by cases z)
                have fx3 : Fx ι1 H1 ⟨cs, ι1.hid⟩ H3 := wy.fx.trans (f3.toFx.dropHid rfl)
                refine ⟨_, _, h2, xs[i], σ2, w3, (er1.mono w1 f13).wipe _, tr, ea, fun σ3 er3 off => ⟨wipe_off (off.sub hgn), ⟨_, σ2, h2, w3, er3, ?_⟩⟩⟩
                cases ee : evC call c' σ2 h2 with
                | ex c a h5 => rw [ee] at ef; cases ef
                | bad => rw [ee] at ef; cases ef
                | ok b h5 =>
                  rw [ee] at ef
                  cases b <;> first | (cases ef; done) | skip
                  rename_i k
                  simp only [asB_ok] at ef
                  simp only [tst, ee, asB_ok]
                  intro ι4 H4 b w4 f4 eb
                  have eb : b = k := eb
                  subst eb
                  have h4id : ι4.hid = ι1.hid ++ [D] := f4.hid
                  have w4 : WS Γ X.K ⟨ι4.cs, ι1.hid ++ [D]⟩ h5 H4 := by rw [← h4id]; exact w4
                  have f4 : Fr ⟨cs, ι1.hid ++ [D]⟩ H3 ⟨ι4.cs, ι1.hid ++ [D]⟩ H4 := by rw [← h4id]; rw [← h4id] at f4; exact f4
                  have at4 : H4 D = some (.lst acc) := f4.keep D _ at3 wy.no (fun ps z => by cases z)
                  have fx4 : Fx ι1 H1 ⟨ι4.cs, ι1.hid⟩ H4 := fx3.trans (f4.toFx.dropHid rfl)
                  have no4 : ∀ j : Nat, ι4.cs[j]? ≠ some (some D) := fun j z => by
                    rcases f4.ext j D z with y | y
                    · exact wy.no j y
                    · exact y.no at3 (fun ps z => by cases z)
                  have rs4 : Reps X.K ⟨ι4.cs, ι1.hid ++ [D]⟩ H4 ys acc := Reps.mono w3.hr f4.toFx _ _ (Reps.mono wy.ws.hr f3.toFx _ _ wy.rs)
                  cases b with
                  | false =>
                    simp only [Bool.false_eq_true, if_false, R.ok.injEq] at ef ⊢
                    obtain ⟨rfl, rfl⟩ := ef
                    exact ⟨ι4.cs, h5, ys, acc, rest2, w4, fx4, at4, rs4, Nat.le_succ_of_le wy.len, er2, by rw [← wy.all, ← eq1], no4⟩
                  | true =>
                    simp only [if_true] at ef ⊢
                    cases ev : evE call elt' σ2 h5 with
                    | ex c a h6 => rw [ev] at ef; cases ef
                    | bad => rw [ev] at ef; cases ef
                    | ok y h6 =>
                      rw [ev] at ef
                      simp only [R.bind_ok, R.ok.injEq] at ef
                      obtain ⟨rfl, rfl⟩ := ef
                      refine ⟨_, σ2, h5, w4, er3.mono w3 f4.toFx, ?_⟩
                      rw [ev]
                      intro ι5 H5 vy w5 f5 ry
                      have h5id : ι5.hid = ι1.hid ++ [D] := f5.hid
                      have w5 : WS Γ X.K ⟨ι5.cs, ι1.hid ++ [D]⟩ h6 H5 := by rw [← h5id]; exact w5
                      have f5 : Fr ⟨ι4.cs, ι1.hid ++ [D]⟩ H4 ⟨ι5.cs, ι1.hid ++ [D]⟩ H5 := by rw [← h5id]; rw [← h5id] at f5; exact f5
                      have ry : Rep X.K ⟨ι5.cs, ι1.hid ++ [D]⟩ H5 y vy := by rw [← h5id]; exact ry
                      have at5 : H5 D = some (.lst acc) := f5.keep D _ at4 no4 (fun ps z => by cases z)
                      have fx5 : Fx ι1 H1 ⟨ι5.cs, ι1.hid⟩ H5 := fx4.trans (f5.toFx.dropHid rfl)
                      have no5 : ∀ j : Nat, ι5.cs[j]? ≠ some (some D) := fun j z => by
                        rcases f5.ext j D z with y | y
                        · exact no4 j y
                        · exact y.no at4 (fun ps z => by cases z)
                      have hm : D ∈ (⟨ι5.cs, ι1.hid ++ [D]⟩ : Io).hid := by simp
                      have rs5 : Reps X.K ⟨ι5.cs, ι1.hid ++ [D]⟩ H5 (ys ++ [y]) (acc ++ [vy]) := Reps.append (Reps.mono w4.hr f5.toFx _ _ rs4) (by simp only [Reps]; exact ⟨ry, trivial⟩)
                      have hl := wj.len
                      have hl2 := wy.len
                      refine ⟨acc, at5, by rw [sizeLine_eq]; have : xs.length ≤ 16777216 := hl; omega, ι5.cs, h6, ys ++ [y], acc ++ [vy], rest2, w5.putHid hm at5 no5, fx5.putNew hD, upd_same, Reps.putHid hm at5 _ _ rs5, by simp; exact wy.len, er2, ?_, no5⟩
                      rw [← wy.all, ← eq1]
                      simp
        · have hi : i = xs.length := by omega
          subst hi
          have hrun := wy.run
          rw [List.drop_length] at hrun
          simp only [compR, R.ok.injEq] at hrun
          obtain ⟨e1, e2⟩ := hrun
          subst e1 e2
          have ea := wy.all
          rw [List.append_nil] at ea
          subst ea
          refine .inl ⟨wj.stop _ _ _ wy.ws fxh, p ⟨cs, ι1.hid⟩ H2 ys acc D rfl wy.ws ⟨wy.fx, rfl⟩ (Nw.none hD) wy.at' ⟨wy.no, fun z => ?_⟩ ?_ wy.rs⟩
          · obtain ⟨o, e, _⟩ := w1.hr.hidT D z
            rw [hD] at e; cases e
          · rw [wy.rs.length]; exact Nat.le_trans wy.len wj.len
theorem sf_comp {elt tg iter : Expr} {ifs : List Expr} {scope : Scope} {own : List (Str × Nat)} {elt' : SH.E} {g : G} {it' : SH.I} {c' : Option SH.E} {E' : XK} (hc : X.calm = true) (hN : X.N.Nodup)
    (hi : PI X tg iter (tI Γ X.K E g (evI call it'))) (ok : BlkOk X.N X.env.scope scope own) (hgn : ∀ j ∈ gN g, j ∈ own.map (·.2))
    (hg : ∀ (s : Shared) (H : Hp) (C : Addr) (cl : List (Str × Addr)) (fp : List Addr), PG (X.blk s H scope (compEnvC scope cl C X.env) fp) tg (gE Γ X.K g))
    (ht : ∀ (s : Shared) (H : Hp) (C : Addr) (cl : List (Str × Addr)) (fp : List Addr), PTs (X.blk s H scope (compEnvC scope cl C X.env) fp) ifs (tT Γ X.K E' (tst (evC call c'))))
    (he : ∀ (s : Shared) (H : Hp) (C : Addr) (cl : List (Str × Addr)) (fp : List Addr), PE (X.blk s H scope (compEnvC scope cl C X.env) fp) elt (tE Γ X.K E' (evE call elt')))
    (hs : ∀ x, foldedSetIterable iter X.env x = pure x) :
    PE X (.ListComp elt [⟨tg, iter, ifs, 0⟩] scope pos) (tF Γ X.K E (evE call (.comp elt' g it' c' (own.map (·.2))))) := PE.weak (pe_lc hc hN hi ok hg ht he hs) (lc_of hgn)
/-- name = [..] -/
theorem st_lc {i : Nat} {y : Str} {py spos : Pos} {elt tg iter : Expr} {ifs : List Expr} {scope : Scope} {own : List (Str × Nat)} {elt' : SH.E} {g : G} {it' : SH.I} {c' : Option SH.E} {E' : XK} (hc : X.calm = true) (hN : X.N.Nodup)
    (hi : PI X tg iter (tI Γ X.K E g (evI call it'))) (ok : BlkOk X.N X.env.scope scope own) (hgn : ∀ j ∈ gN g, j ∈ own.map (·.2))
    (hg : ∀ (s : Shared) (H : Hp) (C : Addr) (cl : List (Str × Addr)) (fp : List Addr), PG (X.blk s H scope (compEnvC scope cl C X.env) fp) tg (gE Γ X.K g))
    (ht : ∀ (s : Shared) (H : Hp) (C : Addr) (cl : List (Str × Addr)) (fp : List Addr), PTs (X.blk s H scope (compEnvC scope cl C X.env) fp) ifs (tT Γ X.K E' (tst (evC call c'))))
    (he : ∀ (s : Shared) (H : Hp) (C : Addr) (cl : List (Str × Addr)) (fp : List Addr), PE (X.blk s H scope (compEnvC scope cl C X.env) fp) elt (tE Γ X.K E' (evE call elt')))
    (hs : ∀ x, foldedSetIterable iter X.env x = pure x) (hy : X.N[i]? = some y) (hyl : Loc X.env.scope y) (hf : X.fn y = true ∨ X.env.scope.names.lookup y = some .local) :
    PS X (.Assign [.Name y py] (.ListComp elt [⟨tg, iter, ifs, 0⟩] scope pos) spos) (tAsg (tF Γ X.K E (evE call (.comp elt' g it' c' (own.map (·.2))))) (gName i)) := by
  have sw : swapsWith (.ListComp elt [⟨tg, iter, ifs, 0⟩] scope pos) (some (.Name y py)) spos.line X.env = pure (X.env.blockKind == .function && X.env.kindOf y == some .local && py.line == pos.line && !(scope.names.any fun (n, k) => n == y && (k == .local || k == .cell))) := rfl
  cases hb : (X.env.blockKind == .function && X.env.kindOf y == some .local && py.line == pos.line && !(scope.names.any fun (n, k) => n == y && (k == .local || k == .cell))) with
  | true =>
    have hl : X.env.scope.names.lookup y = some .local := by
      simp only [Bool.and_eq_true] at hb
      exact eq_of_beq hb.1.1.2
    exact PS.weak (ps_setLc hc hN hy hl (by rw [sw, hb]) hi ok hg ht he hs) fun D σ H q => lc_of hgn σ H _ q
  | false => exact PS.weak (ps_set hN hy hyl (pe_lc hc hN hi ok hg ht he hs) (by rw [sw, hb]) hf) fun D σ H q => lc_of hgn σ H _ q
theorem ok_comp {elt' : SH.E} {g : G} {it' : SH.I} {c' : Option SH.E} {own : List Nat} (σ : SH.Env) (h : Hs) (t : T) (h' : Hs) (e : evE call (.comp elt' g it' c' own) σ h = .ok t h') : ∃ xs, t = .lst xs := by
  simp only [evE] at e
  cases e1 : evI call it' σ h with
  | ok xs h1 =>
    rw [e1] at e
    simp only [R.bind_ok] at e
    generalize noEx _ = r at e
    cases r with
    | ok ys h2 => simp only [R.bind_ok, R.ok.injEq] at e; exact ⟨ys, e.1.symm⟩
    | ex c a h2 => cases e
    | bad => cases e
  | ex c a h1 => rw [e1] at e; cases e
  | bad => rw [e1] at e; cases e
theorem sts_none {E' : XK} : PTs X [] (tT Γ X.K E' (tst (evC call none))) := ⟨fun pins s σ H Q I q => pts_nil.run pins s σ H Q I (by
  obtain ⟨ι, σt, h, w, er, p⟩ := q
  simp only [tst, evC, asB_ok] at p
  exact p ι H true w (Fr.refl _ _) rfl)⟩
theorem sts_one {E' : XK} {c : Expr} {c' : SH.E} (h : PT X c (tT Γ X.K E' (tst (evE call c')))) : PTs X [c] (tT Γ X.K E' (tst (evC call (some c')))) := pts_one h
end
end SH
end

section
set_option autoImplicit false
set_option linter.all false
set_option maxRecDepth 100000
/-! Strandhues: calls of the text's own functions. -/
namespace SH
open PySem PySem.Spec PyProof.Rows L2

/-- a def's promise: what the interpreter's call does -/
def spF (Γ : Ga) (K : PySem.W.Frag) (n f : Nat) (fd : FD) : Sp := fun vs H Q E => ∃ ι h xs, WS Γ K ι h H ∧ Reps K ι H xs vs ∧ xs.length = fd.params.length ∧ PostG Γ K E ι H (Rep K) (callN Γ.Φ Γ.w n f xs h) Q
theorem spF_len {Γ : Ga} {K : PySem.W.Frag} {n f : Nat} {fd : FD} (vs : List V) (H : Hp) (Q : VK) (E : XK) (q : spF Γ K n f fd vs H Q E) : vs.length = fd.params.length := by
  obtain ⟨ι, h, xs, w, r, l, _⟩ := q
  rw [← r.length]; exact l
/-- arguments by place and by name, in the parameters' order -/
def kwG {α : Type} (d : α) (np nk : Nat) (perm : List Nat) (us ws : List α) : List α := if us.length = np ∧ ws.length = nk then perm.map fun i => (us ++ ws).getD i d else []
/-- one def of the text, as a callee -/
structure FnE (Γ : Ga) (P : Program) (w : World) (K : PySem.W.Frag) (mg : Str → Option Value) (base : Heap) (k n f : Nat) (fd : FD) (a : Addr) (fdat : FuncData) : Prop where
  ok : FnOk P w K mg base (L2.CX P w) k a fdat fd.params (spF Γ K n f fd)
  nm : mg fd.name = some (.ref a)
  kp : PySem.W.keepIn K (.ref a) = true
  bd : Binds K fdat fd.params []
  kb : ∀ np ks perm, (f, np, ks, perm) ∈ Γ.kw → KBinds K fdat fd.params ks (kwG .none np ks.length perm) (kwG .non np ks.length perm)
  lk : ∃ (oc : Value) (od : Option Addr) (osl : Array (Option Value)), K.lookup a = some ⟨oc, od, .func fdat, osl⟩
def FnsOk (Γ : Ga) (P : Program) (w : World) (K : PySem.W.Frag) (mg : Str → Option Value) (base : Heap) (k n : Nat) : Prop := ∀ f fd, Γ.Φ[f]? = some fd → ∃ a fdat, FnE Γ P w K mg base k n f fd a fdat
/-- what all code of the text may lean on -/
structure Md (Γ : Ga) (K : PySem.W.Frag) (mg : Str → Option Value) (bl : List Str) : Prop where
  blt : ∀ x ∈ bl, mg x = none
  glo : ∀ (i : Nat) (x : Str) (t : T), Γ.glob[i]? = some (x, t) → ∃ u v, mg x = some u ∧ RelV v u ∧ ∀ ι H, Rep K ι H t v
/-- a frame in which the text's code runs -/
structure Gd (Γ : Ga) (bl : List Str) (X : Cx) (E : XK) (k n : Nat) : Prop where
  calm : X.calm = true
  nodup : X.N.Nodup
  tk : Takes X (fun c d _ H => E c d H)
  room : Room k X.A
  fns : FnsOk Γ X.prog X.w X.K X.mg X.base k n
  md : Md Γ X.K X.mg bl
theorem Gd.units {Γ : Ga} {bl : List Str} {X : Cx} {E : XK} {k n : Nat} (g : Gd Γ bl X E k n) : X.A.units + 65 < cLine := by have := g.room.un; omega
theorem Gd.pass {Γ : Ga} {bl : List Str} {X : Cx} {E : XK} {k n : Nat} (g : Gd Γ bl X E k n) : Passes (L2.CX X.prog X.w) X E := fun pins σ H s e s' I c => passAt g.tk σ pins H s e s' I c
/-- the same in a comprehension's block: nothing is let out -/
theorem Gd.blk {Γ : Ga} {bl : List Str} {X : Cx} {E : XK} {k n : Nat} (g : Gd Γ bl X E k n) (s : Shared) (H : Hp) (C : Addr) (cl : List (Str × Addr)) (fp : List Addr) (scope : Scope) :
    Gd Γ bl (X.blk s H scope (compEnvC scope cl C X.env) fp) (fun _ _ _ => False) k n :=
  ⟨g.calm, g.nodup, LamX.takes0, g.room, g.fns, g.md⟩

section
variable {Γ : Ga} {X : Cx} {E : XK} {pos : Pos} {bl : List Str} {k n : Nat}
theorem call_of {f : Nat} {fd : FD} {es' : List SH.E} {perm : List Nat} (hf : Γ.Φ[f]? = some fd) (hp : permT perm = fun xs => permT perm xs) {σ : L2.St} {H : Hp} {Q : VK}
    (q : tE Γ X.K E (evE (Γ.call n) (.call f es' [] perm)) σ H Q) (hperm : ∀ xs : List T, xs.length = es'.length → permT perm xs = some xs) (hl : es'.length = fd.params.length) : tCall (spF Γ X.K n f fd) [] E (tA Γ X.K E (evEs (Γ.call n) es')) σ H Q := by
  obtain ⟨ι, σt, h, w, er, p⟩ := q
  simp only [evE] at p
  refine ⟨ι, σt, h, w, er, p.bindE fun xs h1 ι1 H1 vs ee w1 f1 rs p1 => ?_⟩
  simp only [evEs, R.bind_ok, List.append_nil] at p1
  have hx := evEs_length ee
  rw [hperm xs hx] at p1
  rw [List.append_nil]
  exact ⟨ι1, h1, xs, w1, rs, by rw [hx]; exact hl, p1⟩
theorem permT_id : ∀ (m : Nat) (xs : List T), xs.length = m → permT (List.range m) xs = some xs := by
  intro m xs h
  subst h
  unfold permT
  have key : ∀ (zs ys : List T), (List.range' ys.length zs.length).mapM (fun i => (ys ++ zs)[i]?) = some zs := by
    intro zs
    induction zs with
    | nil => intro ys; rfl
    | cons z zs ih =>
      intro ys
      have h1 := ih (ys ++ [z])
      rw [List.length_append, List.append_assoc] at h1
      have h2 : (ys ++ z :: zs)[ys.length]? = some z := by rw [List.getElem?_append_right (Nat.le_refl _)]; simp
      show (List.range' ys.length (zs.length + 1)).mapM (fun i => (ys ++ z :: zs)[i]?) = some (z :: zs)
      rw [List.range'_succ, List.mapM_cons, h2]
      have h3 : (List.range' (ys.length + 1) zs.length).mapM (fun i => (ys ++ z :: zs)[i]?) = some zs := h1
      rw [h3]
      rfl
  rw [List.range_eq_range']
  exact key xs []
/-- f(e, ..) -/
theorem se_call {f : Nat} {fd : FD} {e : Expr} {es : List Expr} {es' : List SH.E} {p : Pos} (g : Gd Γ bl X E k n) (hf : Γ.Φ[f]? = some fd) (hg : Gl X fd.name) (hd : (fd.name == ("__debug__" : Str)) = false) (ha : PA X (e :: es) (tA Γ X.K E (evEs (Γ.call n) es')))
    (fe : frm e = true) (fs : es.all frm = true) (hl : es'.length = fd.params.length) : SE Γ X E (.Call (.Name fd.name p) (e :: es) [] pos) (evE (Γ.call n) (.call f es' [] (List.range es'.length))) := by
  obtain ⟨a, fdat, F⟩ := g.fns f fd hf
  exact SE.of (fun _ => rfl) (PE.weak (pe_call F.ok g.room hg F.nm F.kp F.bd .nil g.pass ha hd (frm_star fe _ _) (frms_any fs _ _)) fun σ H Q q => call_of hf rfl q (fun xs h => permT_id _ xs h) hl)
/-- f() -/
theorem se_call0 {f : Nat} {fd : FD} {p : Pos} (g : Gd Γ bl X E k n) (hf : Γ.Φ[f]? = some fd) (hg : Gl X fd.name) (hd : (fd.name == ("__debug__" : Str)) = false) (hl : fd.params.length = 0) : SE Γ X E (.Call (.Name fd.name p) [] [] pos) (evE (Γ.call n) (.call f [] [] [])) := by
  obtain ⟨a, fdat, F⟩ := g.fns f fd hf
  refine SE.of (fun _ => rfl) (PE.weak (pe_call0 F.ok g.room hg F.nm F.kp F.bd .nil g.pass hd) fun σ H Q q => ?_)
  obtain ⟨ι, σt, h, w, er, p⟩ := q
  simp only [evE, evEs, R.bind_ok] at p
  exact ⟨ι, h, [], w, (show Reps X.K ι H [] [] by simp only [Reps]), hl.symm, p⟩
/-! ### keywords -/
/-- the keywords' names -/
def kwNames : List Keyword → Option (List Str)
  | [] => some []
  | ⟨some x, _, _⟩ :: r => match kwNames r with
    | some xs => some (x :: xs)
    | none => none
  | ⟨none, _, _⟩ :: _ => none
def kwVals : List Keyword → List Expr
  | [] => []
  | ⟨_, e, _⟩ :: r => e :: kwVals r
theorem kw_all : ∀ {kws : List Keyword} {ks : List Str}, kwNames kws = some ks → ∀ (pos : Pos) (env : PySem.Env), (backToKw pos (keywordEach kws env)).all (·.1.isSome) = true ∧ (backToKw pos (keywordEach kws env)).filterMap (·.1) = ks ∧ (backToKw pos (keywordEach kws env)).any (·.1.isNone) = false
  | [], ks, h, pos, env => by
    simp only [kwNames, Option.some.injEq] at h
    subst h
    exact ⟨rfl, rfl, rfl⟩
  | ⟨some x, e, p⟩ :: r, ks, h, pos, env => by
    simp only [kwNames] at h
    split at h
    · rename_i xs hx
      cases h
      obtain ⟨a, b, c⟩ := kw_all hx pos env
      refine ⟨?_, ?_, ?_⟩
      · show (true && (backToKw pos (keywordEach r env)).all (·.1.isSome)) = true
        rw [a]; rfl
      · show x :: (backToKw pos (keywordEach r env)).filterMap (·.1) = x :: xs
        rw [b]
      · show (false || (backToKw pos (keywordEach r env)).any (·.1.isNone)) = false
        rw [c]; rfl
    · cases h
  | ⟨none, e, p⟩ :: r, ks, h, pos, env => by simp [kwNames] at h
theorem sk_nil : PK X [] (tA Γ X.K E (evEs (Γ.call n) [])) := ⟨fun p pins s σ H Q I q => pk_nil.run p pins s σ H Q I (by
  obtain ⟨ι, σt, h, w, er, r⟩ := q
  simp only [evEs] at r
  exact r ι H [] w (Fr.refl _ _) (show Reps X.K ι H [] [] by simp only [Reps]))⟩
theorem sk_cons {e : Expr} {kws : List Keyword} {e' : SH.E} {es' : List SH.E} {nm : Option Str} {kp : Pos} (he : PE X e (tE Γ X.K E (evE (Γ.call n) e'))) (hk : PK X kws (tA Γ X.K E (evEs (Γ.call n) es'))) :
    PK X (⟨nm, e, kp⟩ :: kws) (tA Γ X.K E (evEs (Γ.call n) (e' :: es'))) := ⟨fun p pins s σ H Q I q => (pk_cons he hk).run p pins s σ H Q I (by
  obtain ⟨ι, σt, h, w, er, p⟩ := q
  simp only [evEs] at p
  exact ⟨ι, σt, h, w, er, p.bind fun x h1 ι1 H1 vx w1 f1 rx p1 => ⟨ι1, σt, h1, w1, er.mono w f1.toFx, p1.bind fun xs h2 ι2 H2 vs w2 f2 rxs p2 =>
    p2 ι2 H2 _ w2 (Fr.refl _ _) (by simp only [Reps]; exact ⟨Rep.mono w1.hr f2.toFx _ _ rx, rxs⟩)⟩⟩)⟩
/-- f(k = v, ..) -/
theorem pe_callK0 {CX : CXT} {k : Nat} {f : Addr} {fd : FuncData} {ps ks : List Str} {sp : Sp} {x : Str} {p : Pos} {kws : List Keyword} {tk : TA} {g : List Value → List Value → List Value} {gV : List V → List V → List V} (F : FnOk X.prog X.w X.K X.mg X.base CX k f fd ps sp) (hr : Room k X.A) (hg : Gl X x) (hm : X.mg x = some (.ref f)) (hk : PySem.W.keepIn X.K (.ref f) = true) (hb : KBinds X.K fd ps ks g gV) (hx : Passes CX X E)
    (hkw : PK X kws tk) (hn : kwNames kws = some ks) (hdb : (x == ("__debug__" : Str)) = false) : PE X (.Call (.Name x p) [] kws pos) (fun σ H Q => tk σ H fun zs H2 => sp (gV [] zs) H2 Q E) := by
  constructor
  intro pins s σ H Q I q
  obtain ⟨a1, a2, a3⟩ := kw_all hn pos X.env
  refine wpAny_Call_Name_kw (ld_glob I hg hm (PySem.W.callWith_KW0 (h₀ := X.base) I.ok.mod.kin hk a1 (thn (hkw.run pos pins s σ H _ I q) fun ws s2 ⟨zs, H2, I2, rz, q2⟩ => ⟨I2.kIn, ?_⟩) ?_) hdb)
  · rw [a2]
    exact run_fnk (us := []) F hr hb hx I2 .nil rz q2
  · rw [a3]; rfl
theorem kwG_rel {np nk : Nat} {perm : List Nat} {vs : List V} {us : List Value} {zs : List V} {ws : List Value} (r : Vals vs us) (rz : Vals zs ws) : Vals (kwG .non np nk perm vs zs) (kwG .none np nk perm us ws) := by
  unfold kwG
  rw [r.length, rz.length]
  split
  · have ra := r.append rz
    clear r rz
    induction perm with
    | nil => exact .nil
    | cons i perm ih =>
      refine .cons ?_ ih
      show RelV ((vs ++ zs).getD i .non) ((us ++ ws).getD i .none)
      rw [List.getD_eq_getElem?_getD, List.getD_eq_getElem?_getD]
      cases e : (vs ++ zs)[i]? with
      | none => rw [ra.none_of e]; exact rfl
      | some v =>
        obtain ⟨u, hu, ru⟩ := ra.get e
        rw [hu]
        exact ru
  · exact .nil
theorem permT_reps {K : PySem.W.Frag} {ι : Io} {H : Hp} {xs : List T} {vs : List V} (r : Reps K ι H xs vs) : ∀ (perm : List Nat) (zs : List T), permT perm xs = some zs → Reps K ι H zs (perm.map fun i => vs.getD i .non)
  | [], zs, e => by
    have e : some [] = some zs := e
    cases e
    simp only [List.map_nil, Reps]
  | i :: perm, zs, e => by
    unfold permT at e
    rw [List.mapM_cons] at e
    cases ei : xs[i]? with
    | none => rw [ei] at e; cases e
    | some x =>
      rw [ei] at e
      cases em : perm.mapM (fun i => xs[i]?) with
      | none => rw [em] at e; cases e
      | some ys =>
        rw [em] at e
        have e : some (x :: ys) = some zs := e
        cases e
        obtain ⟨v, hv, rv⟩ := r.get ei
        simp only [List.map_cons, Reps]
        refine ⟨?_, permT_reps r perm ys em⟩
        rw [List.getD_eq_getElem?_getD, hv]
        exact rv
/-- the arguments' readings lead to the callee's -/
theorem callK_of {f np : Nat} {fd : FD} {es' kws' : List SH.E} {perm : List Nat} {σ : L2.St} {H : Hp} {Q : VK} (hnp : es'.length = np) (hperm : perm.length = fd.params.length)
    (q : tE Γ X.K E (evE (Γ.call n) (.call f es' kws' perm)) σ H Q) : tCallK (spF Γ X.K n f fd) (kwG .non np kws'.length perm) E (tA Γ X.K E (evEs (Γ.call n) es')) (tA Γ X.K E (evEs (Γ.call n) kws')) σ H Q := by
  obtain ⟨ι, σt, h, w, er, p⟩ := q
  simp only [evE] at p
  refine ⟨ι, σt, h, w, er, p.bindE fun xs h1 ι1 H1 vs ee w1 f1 rs p1 => ⟨ι1, σt, h1, w1, er.mono w f1.toFx, p1.bindE fun ys h2 ι2 H2 us ee2 w2 f2 rs2 p2 => ?_⟩⟩
  have hx := evEs_length ee
  have hy := evEs_length ee2
  have rs' : Reps X.K ι2 H2 (xs ++ ys) (vs ++ us) := (Reps.mono w1.hr f2.toFx _ _ rs).append rs2
  cases ep : permT perm (xs ++ ys) with
  | none => rw [ep] at p2; exact p2.elim
  | some zs =>
    rw [ep] at p2
    have hz := permT_reps rs' perm zs ep
    have hk : kwG V.non np kws'.length perm vs us = perm.map fun i => (vs ++ us).getD i .non := by
      unfold kwG
      rw [if_pos ⟨by rw [← rs.length, hx, hnp], by rw [← rs2.length, hy]⟩]
    rw [hk]
    exact ⟨ι2, h2, zs, w2, hz, by rw [hz.length, List.length_map]; exact hperm, p2⟩
/-- f(e, .., k = v, ..) -/
theorem se_callK {f : Nat} {fd : FD} {e : Expr} {es : List Expr} {kws : List Keyword} {es' kws' : List SH.E} {p : Pos} {ks : List Str} {perm : List Nat} (g : Gd Γ bl X E k n) (hf : Γ.Φ[f]? = some fd) (hg : Gl X fd.name) (hd : (fd.name == ("__debug__" : Str)) = false)
    (ha : PA X (e :: es) (tA Γ X.K E (evEs (Γ.call n) es'))) (hkw : PK X kws (tA Γ X.K E (evEs (Γ.call n) kws'))) (fe : frm e = true) (fs : es.all frm = true) (hn : kwNames kws = some ks) (hk : (f, es'.length, ks, perm) ∈ Γ.kw) (hl : kws'.length = ks.length) (hp : perm.length = fd.params.length) :
    SE Γ X E (.Call (.Name fd.name p) (e :: es) kws pos) (evE (Γ.call n) (.call f es' kws' perm)) := by
  obtain ⟨a, fdat, F⟩ := g.fns f fd hf
  obtain ⟨a1, a2, a3⟩ := kw_all hn pos X.env
  refine SE.of (fun _ => rfl) (PE.weak (pe_callK F.ok g.room hg F.nm F.kp (F.kb _ ks perm hk) g.pass ha hkw a1 a2 hd (frm_star fe _ _) ?_) fun σ H Q q => ?_)
  · rw [a3, frms_any (es := e :: es) (by simp [fe]; simpa using fs)]; rfl
  · have := callK_of (np := es'.length) rfl hp q
    rw [hl] at this
    exact this
theorem se_callK0 {f : Nat} {fd : FD} {kws : List Keyword} {kws' : List SH.E} {p : Pos} {ks : List Str} {perm : List Nat} (g : Gd Γ bl X E k n) (hf : Γ.Φ[f]? = some fd) (hg : Gl X fd.name) (hd : (fd.name == ("__debug__" : Str)) = false)
    (hkw : PK X kws (tA Γ X.K E (evEs (Γ.call n) kws'))) (hn : kwNames kws = some ks) (hk : (f, 0, ks, perm) ∈ Γ.kw) (hl : kws'.length = ks.length) (hp : perm.length = fd.params.length) :
    SE Γ X E (.Call (.Name fd.name p) [] kws pos) (evE (Γ.call n) (.call f [] kws' perm)) := by
  obtain ⟨a, fdat, F⟩ := g.fns f fd hf
  refine SE.of (fun _ => rfl) (PE.weak (pe_callK0 F.ok g.room hg F.nm F.kp (F.kb _ ks perm hk) g.pass hkw hn hd) fun σ H Q q => ?_)
  have := callK_of (np := 0) rfl hp q
  rw [hl] at this
  obtain ⟨ι, σt, h, w, er, p⟩ := this
  simp only [evEs] at p
  exact p ι H [] w (Fr.refl _ _) (show Reps X.K ι H [] [] by simp only [Reps])
end
end SH
end

section
set_option autoImplicit false
set_option linter.all false
set_option maxRecDepth 100000
/-! Strandhues: statements. -/
namespace SH
open PySem PySem.Spec PyProof.Rows L2

/-- what is wanted behind a statement's outcome -/
def PostO (Γ : Ga) (K : PySem.W.Frag) (E : XK) (ι : Io) (H : Hp) (o : O) (D : Ends) : Prop := match o with
  | .nx σt h' => ∀ (ι' : Io) (H' : Hp) (σ' : L2.St), WS Γ K ι' h' H' → Fr ι H ι' H' → EnvR K ι' H' σt σ' → D.nx σ' H'
  | .rt t h' => ∀ (ι' : Io) (H' : Hp) (v : V), WS Γ K ι' h' H' → Fr ι H ι' H' → Rep K ι' H' t v → D.rt v H'
  | .bk σt h' => ∀ (ι' : Io) (H' : Hp) (σ' : L2.St), WS Γ K ι' h' H' → Fr ι H ι' H' → EnvR K ι' H' σt σ' → D.bk σ' H'
  | .ct σt h' => ∀ (ι' : Io) (H' : Hp) (σ' : L2.St), WS Γ K ι' h' H' → Fr ι H ι' H' → EnvR K ι' H' σt σ' → D.ct σ' H'
  | .ex c a h' => ∀ (ι' : Io) (H' : Hp) (cls : Value) (d : Option Addr), WS Γ K ι' h' H' → Fr ι H ι' H' → ExR Γ K c a ι' H' cls d → E cls d H'
  | .bad => False
def tS (Γ : Ga) (K : PySem.W.Frag) (E : XK) (r : SH.Env → Hs → O) : TS := fun D σ H => ∃ ι σt h, WS Γ K ι h H ∧ EnvR K ι H σt σ ∧ PostO Γ K E ι H (r σt h) D
section
variable {Γ : Ga} {K : PySem.W.Frag} {E : XK} {ι ι1 : Io} {H H1 : Hp} {α β : Type} {D D' : Ends}
theorem PostO.step {o : O} (f : Fr ι H ι1 H1) (p : PostO Γ K E ι H o D) : PostO Γ K E ι1 H1 o D := by
  cases o with
  | nx σ h => exact fun ι' H' s w g q => p ι' H' s w (f.trans g) q
  | rt t h => exact fun ι' H' v w g q => p ι' H' v w (f.trans g) q
  | bk σ h => exact fun ι' H' s w g q => p ι' H' s w (f.trans g) q
  | ct σ h => exact fun ι' H' s w g q => p ι' H' s w (f.trans g) q
  | ex c a h => exact fun ι' H' cls d w g q => p ι' H' cls d w (f.trans g) q
  | bad => exact p
theorem PostO.imp {o : O} (p : PostO Γ K E ι H o D) (h1 : ∀ σ H, D.nx σ H → D'.nx σ H) (h2 : ∀ v H, D.rt v H → D'.rt v H) (h3 : ∀ σ H, D.bk σ H → D'.bk σ H) (h4 : ∀ σ H, D.ct σ H → D'.ct σ H) : PostO Γ K E ι H o D' := by
  cases o with
  | nx σ h => exact fun ι' H' s w g q => h1 _ _ (p ι' H' s w g q)
  | rt t h => exact fun ι' H' v w g q => h2 _ _ (p ι' H' v w g q)
  | bk σ h => exact fun ι' H' s w g q => h3 _ _ (p ι' H' s w g q)
  | ct σ h => exact fun ι' H' s w g q => h4 _ _ (p ι' H' s w g q)
  | ex c a h => exact p
  | bad => exact p
/-- an expression, then the rest -/
theorem PostO.out {ρ : Io → Hp → α → β → Prop} {r : R α} {f : α → Hs → O} {Q' : β → Hp → Prop} (p : PostO Γ K E ι H (r.out f) D)
    (k : ∀ x h1 ι1 H1 y, r = .ok x h1 → WS Γ K ι1 h1 H1 → Fr ι H ι1 H1 → ρ ι1 H1 x y → PostO Γ K E ι1 H1 (f x h1) D → Q' y H1) : PostG Γ K E ι H ρ r Q' := by
  cases r with
  | ok t h => exact fun ι' H' v w g q => k t h ι' H' v rfl w g q (PostO.step g p)
  | ex c a h => exact p
  | bad => exact p
theorem PostO.outB {r : R T} {f : Bool → Hs → O} {Q' : Bool → Hp → Prop} (p : PostO Γ K E ι H (SH.outB r f) D)
    (k : ∀ b h1 ι1 H1, WS Γ K ι1 h1 H1 → Fr ι H ι1 H1 → PostO Γ K E ι1 H1 (f b h1) D → Q' b H1) : PostG Γ K E ι H same (SH.asB r fun b h => .ok b h) Q' := by
  cases r with
  | ok t h =>
    cases t with
    | bl b =>
      intro ι' H' v w g q
      have q : v = b := q
      rw [q]
      exact k b h ι' H' w g (PostO.step g p)
    | _ => exact p.elim
  | ex c a h => exact p
  | bad => exact p
end

section
variable {Γ : Ga} {X : Cx} {E : XK} {pos : Pos} {call : Calls} {wh : Nat}
theorem st_nil : PSs X [] (tS Γ X.K E (evSs call wh [])) := PSs.weak pss_nil fun D σ H q => by
  obtain ⟨ι, σt, h, w, er, p⟩ := q
  simp only [evSs] at p
  exact p ι H σ w (Fr.refl _ _) er
theorem st_cons {s : Stmt} {ss : List Stmt} {s' : SH.S} {ss' : List SH.S} (hs : PS X s (tS Γ X.K E (evS call wh s'))) (hss : PSs X ss (tS Γ X.K E (evSs call wh ss'))) : PSs X (s :: ss) (tS Γ X.K E (evSs call wh (s' :: ss'))) :=
  PSs.weak (pss_cons hs hss) fun D σ H q => by
    obtain ⟨ι, σt, h, w, er, p⟩ := q
    simp only [evSs] at p
    refine ⟨ι, σt, h, w, er, ?_⟩
    cases e : evS call wh s' σt h with
    | nx σ1 h1 =>
      rw [e] at p
      exact fun ι1 H1 s1 w1 f1 er1 => ⟨ι1, σ1, h1, w1, er1, PostO.step f1 p⟩
    | rt t h1 => rw [e] at p; exact p
    | bk σ1 h1 => rw [e] at p; exact p
    | ct σ1 h1 => rw [e] at p; exact p
    | ex c a h1 => rw [e] at p; exact p
    | bad => rw [e] at p; exact p
theorem st_pass : PS X (.Pass pos) (tS Γ X.K E (evS call wh .pass)) := PS.weak ps_pass fun D σ H q => by
  obtain ⟨ι, σt, h, w, er, p⟩ := q
  simp only [evS] at p
  exact p ι H σ w (Fr.refl _ _) er
theorem st_brk : PS X (.Break pos) (tS Γ X.K E (evS call wh .brk)) := PS.weak ps_break fun D σ H q => by
  obtain ⟨ι, σt, h, w, er, p⟩ := q
  simp only [evS] at p
  exact p ι H σ w (Fr.refl _ _) er
theorem st_cnt : PS X (.Continue pos) (tS Γ X.K E (evS call wh .cnt)) := PS.weak ps_continue fun D σ H q => by
  obtain ⟨ι, σt, h, w, er, p⟩ := q
  simp only [evS] at p
  exact p ι H σ w (Fr.refl _ _) er
theorem st_retN : PS X (.Return none pos) (tS Γ X.K E (evS call wh .retN)) := PS.weak ps_retN fun D σ H q => by
  obtain ⟨ι, σt, h, w, er, p⟩ := q
  simp only [evS] at p
  exact p ι H _ w (Fr.refl _ _) (by simp only [Rep])
theorem st_ret {e : Expr} {e' : SH.E} (he : PE X e (tE Γ X.K E (evE call e'))) : PS X (.Return (some e) pos) (tS Γ X.K E (evS call wh (.ret e'))) := PS.weak (ps_ret he) fun D σ H q => by
  obtain ⟨ι, σt, h, w, er, p⟩ := q
  simp only [evS] at p
  exact ⟨ι, σt, h, w, er, p.out fun x h1 ι1 H1 v _ w1 f1 r p1 => p1 ι1 H1 v w1 (Fr.refl _ _) r⟩
theorem st_drop {e : Expr} {e' : SH.E} (he : PE X e (tE Γ X.K E (evE call e'))) (hs : swapsWith e none pos.line X.env = pure false) : PS X (.Expr e pos) (tS Γ X.K E (evS call wh (.drop e'))) := PS.weak (ps_expr he hs) fun D σ H q => by
  obtain ⟨ι, σt, h, w, er, p⟩ := q
  simp only [evS] at p
  exact ⟨ι, σt, h, w, er, p.out fun x h1 ι1 H1 v _ w1 f1 r p1 => p1 ι1 H1 σ w1 (Fr.refl _ _) (er.mono w f1.toFx)⟩
theorem st_ite {c : Expr} {a b : List Stmt} {c' : SH.E} {a' b' : List SH.S} (hc : PT X c (tT Γ X.K E (tst (evE call c')))) (ha : PSs X a (tS Γ X.K E (evSs call wh a'))) (hb : PSs X b (tS Γ X.K E (evSs call wh b'))) : PS X (.If c a b pos) (tS Γ X.K E (evS call wh (.ite c' a' b'))) :=
  PS.weak (ps_if hc ha hb) fun D σ H q => by
    obtain ⟨ι, σt, h, w, er, p⟩ := q
    simp only [evS] at p
    refine ⟨ι, σt, h, w, er, p.outB fun k h1 ι1 H1 w1 f1 p1 => ?_⟩
    cases k with
    | true => exact ⟨ι1, σt, h1, w1, er.mono w f1.toFx, p1⟩
    | false => exact ⟨ι1, σt, h1, w1, er.mono w f1.toFx, p1⟩

/-! ### assignments -/
theorem asg_of {e' : SH.E} {g : G} (D : Ends) (σ : L2.St) (H : Hp) (q : tS Γ X.K E (evS call wh (.asg g e')) D σ H) : tAsg (tE Γ X.K E (evE call e')) (gE Γ X.K g) D σ H := by
  obtain ⟨ι, σt, h, w, er, p⟩ := q
  simp only [evS] at p
  refine ⟨ι, σt, h, w, er, p.out fun x h1 ι1 H1 v _ w1 f1 r p1 => ?_⟩
  cases ea : asgG g x σt with
  | none => rw [ea] at p1; exact p1.elim
  | some σ2 =>
    rw [ea] at p1
    exact ⟨ι1, σt, h1, x, σ2, w1, er.mono w f1.toFx, TgR.of r, ea, fun σ' er' off => p1 ι1 H1 σ' w1 (Fr.refl _ _) er'⟩
theorem st_asg {tg e : Expr} {e' : SH.E} {g : G} (he : PE X e (tE Γ X.K E (evE call e'))) (hg : PG X tg (gE Γ X.K g)) (hs : swapsWithSole [tg] e pos.line X.env = pure false) (hw : swappedStores [tg] e X.env = pure none) (h1 : (assignEach [tg] X.env).map (·.2) = [assign tg X.env]) :
    PS X (.Assign [tg] e pos) (tS Γ X.K E (evS call wh (.asg g e'))) := PS.weak (ps_asg he hg hs hw h1) asg_of
/-- the same by a reading of the value that is stored under one name -/
theorem asgN_of {e' : SH.E} {i : Nat} {te : TE} (hq : ∀ σ H Q, tE Γ X.K E (evE call e') σ H Q → te σ H Q) (D : Ends) (σ : L2.St) (H : Hp) (q : tS Γ X.K E (evS call wh (.asg (.name i) e')) D σ H) : tAsg te (gName i) D σ H := by
  obtain ⟨ι, σt, h, w, er, p⟩ := q
  simp only [evS] at p
  refine hq _ _ _ ⟨ι, σt, h, w, er, p.out fun x h1 ι1 H1 v _ w1 f1 r p1 => ?_⟩
  cases ea : asgG (.name i) x σt with
  | none => rw [ea] at p1; exact p1.elim
  | some σ2 =>
    rw [ea] at p1
    simp only [asgG] at ea
    split at ea
    · cases ea
      exact p1 ι1 H1 _ w1 (Fr.refl _ _) ((er.mono w f1.toFx).set r)
    · cases ea
/-! ### cells change -/
theorem WS.put {K : PySem.W.Frag} {ι : Io} {h : Hs} {H : Hp} {i : Nat} {a : Addr} {xs ys : List T} {vs ws : List V} (w : WS Γ K ι h H) (e : h[i]? = some (.lst xs)) (ea : ι.cs[i]? = some (some a)) (eh : H a = some (.lst vs)) (l : ys.length ≤ LINE) (q : Reps K ι H ys ws) (b : belows i ys = true) :
    WS Γ K ι (h.set i (.lst ys)) (upd H a (.lst ws)) := ⟨HR.put (vs := vs) w.hr e ea l q b, tabs_put w.tb eh⟩
theorem belows_app {n : Nat} : ∀ {xs ys : List T}, belows n xs = true → belows n ys = true → belows n (xs ++ ys) = true
  | [], _, _, h => h
  | x :: xs, ys, h1, h2 => by
    simp only [List.cons_append, belows, Bool.and_eq_true] at h1 ⊢
    exact ⟨h1.1, belows_app h1.2 h2⟩
theorem belows_set {n : Nat} {t : T} (ht : below n t = true) : ∀ {xs : List T} (j : Nat), belows n xs = true → belows n (xs.set j t) = true
  | [], _, h => by simpa using h
  | x :: xs, 0, h => by
    simp only [belows, Bool.and_eq_true] at h
    simp only [List.set_cons_zero, belows, Bool.and_eq_true]
    exact ⟨ht, h.2⟩
  | x :: xs, j + 1, h => by
    simp only [belows, Bool.and_eq_true] at h
    simp only [List.set_cons_succ, belows, Bool.and_eq_true]
    exact ⟨h.1, belows_set ht j h.2⟩
/-- what a cell is -/
theorem cell_rep {K : PySem.W.Frag} {ι : Io} {h : Hs} {H : Hp} {i : Nat} {v : V} {xs : List T} (w : WS Γ K ι h H) (r : Rep K ι H (.ref i) v) (e : h[i]? = some (.lst xs)) : ∃ a vs, v = .ref a ∧ ι.cs[i]? = some (some a) ∧ H a = some (.lst vs) ∧ xs.length ≤ LINE ∧ Reps K ι H xs vs ∧ belows i xs = true := by
  obtain ⟨a, vs, e1, e2, l, q, b⟩ := w.hr.lst i xs e
  simp only [Rep] at r
  rw [e1] at r
  exact ⟨a, vs, r, e1, e2, l, q, b⟩
/-- o[i] = e -/
theorem st_setI {o i e : Expr} {o' i' e' : SH.E} {p2 : Pos} (ho : PE X o (tE Γ X.K E (evE call o'))) (hi : PE X i (tE Γ X.K E (evE call i'))) (he : PE X e (tE Γ X.K E (evE call e'))) (fi : frm i = true) (hs : swapsWithSole [.Subscript o i p2] e pos.line X.env = pure false) :
    PS X (.Assign [.Subscript o i p2] e pos) (tS Γ X.K E (evS call wh (.setI o' i' e'))) := by
  have hg : PG X (.Subscript o i p2) (gSub (tE Γ X.K E (evE call o')) (tE Γ X.K E (evE call i')) rSetL) := pg_sub ho hi set_list (by cases i <;> first | (intro _; rfl) | exact absurd fi Bool.false_ne_true)
  refine PS.weak (ps_asg he hg hs rfl rfl) fun D σ H q => ?_
  obtain ⟨ι, σt, h, w, er, p⟩ := q
  simp only [evS] at p
  refine ⟨ι, σt, h, w, er, p.out fun v h1 ι1 H1 vv _ w1 f1 rv p1 => ⟨ι1, σt, h1, w1, er.mono w f1.toFx, p1.out fun x h2 ι2 H2 vx _ w2 f2 rx p2 => ⟨ι2, σt, h2, w2, er.mono w (f1.trans f2).toFx, p2.out fun k h3 ι3 H3 vk _ w3 f3 rk p3 => ?_⟩⟩⟩
  cases es : setT h3 x k v with
  | none => rw [es] at p3; exact p3.elim
  | some h4 =>
    rw [es] at p3
    have rx3 := Rep.mono w2.hr f3.toFx _ _ rx
    have rv3 := Rep.mono w1.hr (f2.trans f3).toFx _ _ rv
    cases x <;> simp only [setT, reduceCtorEq] at es
    cases k <;> simp only [reduceCtorEq] at es
    split at es
    · rename_i xs hxs
      split at es
      · rename_i j hj
        split at es
        · rename_i hok
          cases es
          obtain ⟨a, vs, rfl, ea, eh, l, q, b⟩ := cell_rep w3 rx3 hxs
          simp only [Rep] at rk
          subst rk
          refine ⟨a, vs, _, j, rfl, rfl, eh, by rw [← q.length]; exact hj, p3 ι3 _ σ (w3.put hxs ea eh (by rw [List.length_set]; exact l) (q.set rv3 j) (belows_set (below_okD 50 _ _ hok) j b)) (Fr.put ea) ?_⟩
          exact EnvR.mono w3 (Fr.put ea).toFx (er.mono w (f1.trans (f2.trans f3)).toFx)
        · cases es
      · cases es
    · cases es
theorem cell_is {h : Hs} {x : T} (hc : cellB h x = true) : ∃ i xs, x = .ref i ∧ h[i]? = some (.lst xs) := by
  cases x <;> first | (simp only [cellB, Bool.false_eq_true] at hc; done) | skip
  rename_i i
  simp only [cellB] at hc
  split at hc
  · rename_i xs hx
    exact ⟨i, xs, rfl, hx⟩
  · cases hc
/-- one argument -/
theorem args1 {K : PySem.W.Frag} {ι : Io} {H : Hp} {e' : SH.E} {σt : SH.Env} {h : Hs} {Q : List V → Hp → Prop} (p : PostG Γ K E ι H (Rep K) (evE call e' σt h) fun v H' => Q [v] H') : PostG Γ K E ι H (Reps K) (evEs call [e'] σt h) Q := by
  simp only [evEs, R.bind_ok]
  cases e1 : evE call e' σt h with
  | ok x h1 =>
    rw [e1] at p
    intro ι1 H1 vs w1 f1 rs
    obtain ⟨v, rfl, rx⟩ := reps1 rs
    exact p ι1 H1 v w1 f1 rx
  | ex c a h1 => rw [e1] at p; exact p
  | bad => rw [e1] at p; exact p
/-- o.append(e) -/
theorem mt_of {o e : Expr} {o' e' : SH.E} {apos cpos : Pos} {nm : Str} {id : String} {r : V → List V → Hp → VK → Prop} (slot : Slot "list" nm id) (hty : typeOf (.builtin id) = pure (.type "method_descriptor")) (hm : MtM X id r) (ho : PE X o (tE Γ X.K E (evE call o'))) (he : PE X e (tE Γ X.K E (evE call e')))
    (fo : baseOk o = true) (fe : frm e = true) (hl : (apos.endLine == cpos.line) = true) : PE X (.Call (.Attribute o nm apos) [e] [] cpos) (tBM X.K "list" r (tE Γ X.K E (evE call o')) (tA Γ X.K E (evEs call [e']))) := by
  refine pe_bm F.plainAttrs_list slot hty hm ho (sa_cons he sa_nil (frm_star fe _ _)) (base_of fo _ _ _) ?_ hl (frm_star fe _ _) rfl
  rw [frm_star fe]
  rfl
theorem st_app {o e : Expr} {o' e' : SH.E} {apos cpos : Pos} (ho : PE X o (tE Γ X.K E (evE call o'))) (he : PE X e (tE Γ X.K E (evE call e'))) (fo : baseOk o = true) (fe : frm e = true) (hl : (apos.endLine == cpos.line) = true) :
    PS X (.Expr (.Call (.Attribute o (Str.ofString "append") apos) [e] [] cpos) pos) (tS Γ X.K E (evS call wh (.app o' e'))) := by
  refine PS.weak (ps_expr (mt_of F.slot_list_append F.type_list_append mt_append ho he fo fe hl) rfl) fun D σ H q => ?_
  obtain ⟨ι, σt, h, w, er, p⟩ := q
  simp only [evS] at p
  refine ⟨ι, σt, h, w, er, p.out fun x h1 ι1 H1 vx _ w1 f1 rx p1 => ?_⟩
  split at p1
  · rename_i hc
    obtain ⟨i, xs, rfl, hx⟩ := cell_is hc
    obtain ⟨a, vs, rfl, ea, eh, l, q, b⟩ := cell_rep w1 rx hx
    refine ⟨.inl ⟨rfl, vs, .inl (.inl eh)⟩, ι1, σt, h1, w1, er.mono w f1.toFx, ?_⟩
    refine args1 (PostO.out p1 fun v h2 ι2 H2 vv ee w2 f2 rv p2 => ?_)
    clear ee
    cases es : appT h2 (.ref i) v with
    | none => rw [es] at p2; exact p2.elim
    | some h4 =>
      rw [es] at p2
      simp only [appT] at es
      split at es
      · rename_i ys hys
        split at es
        · rename_i hok
          cases es
          obtain ⟨a2, us, e0, ea2, eh2, l2, q2, b2⟩ := cell_rep w2 (Rep.mono w1.hr f2.toFx _ _ rx) hys
          cases e0
          refine ⟨a, us, vv, rfl, rfl, eh2, by rw [← q2.length, sizeLine_eq]; exact hok.1, p2 ι2 _ σ (w2.put hys ea2 eh2 (by rw [List.length_append]; exact hok.1) (q2.append (show Reps X.K ι2 H2 [v] [vv] by simp only [Reps]; exact ⟨rv, trivial⟩)) (belows_app b2 (by simp only [belows, Bool.and_true]; exact below_okD 50 _ _ hok.2))) (Fr.put ea2) ?_⟩
          exact EnvR.mono w2 (Fr.put ea2).toFx (er.mono w (f1.trans f2).toFx)
        · cases es
      · cases es
  · exact p1.elim
theorem st_ext {o e : Expr} {o' e' : SH.E} {apos cpos : Pos} (ho : PE X o (tE Γ X.K E (evE call o'))) (he : PE X e (tE Γ X.K E (evE call e'))) (fo : baseOk o = true) (fe : frm e = true) (hl : (apos.endLine == cpos.line) = true) :
    PS X (.Expr (.Call (.Attribute o (Str.ofString "extend") apos) [e] [] cpos) pos) (tS Γ X.K E (evS call wh (.ext o' e'))) := by
  refine PS.weak (ps_expr (mt_of F.slot_list_extend F.type_list_extend (MtM.or mt_extend mt_extendT) ho he fo fe hl) rfl) fun D σ H q => ?_
  obtain ⟨ι, σt, h, w, er, p⟩ := q
  simp only [evS] at p
  refine ⟨ι, σt, h, w, er, p.out fun x h1 ι1 H1 vx _ w1 f1 rx p1 => ?_⟩
  split at p1
  · rename_i hc
    obtain ⟨i, xs, rfl, hx⟩ := cell_is hc
    obtain ⟨a, vs, rfl, ea, eh, l, q, b⟩ := cell_rep w1 rx hx
    refine ⟨.inl ⟨rfl, vs, .inl (.inl eh)⟩, ι1, σt, h1, w1, er.mono w f1.toFx, ?_⟩
    refine args1 (PostO.out p1 fun v h2 ι2 H2 vv ee w2 f2 rv p2 => ?_)
    clear ee
    cases es : extT h2 (.ref i) v with
    | none => rw [es] at p2; exact p2.elim
    | some h4 =>
      rw [es] at p2
      simp only [extT] at es
      split at es
      · rename_i ys zs hys
        split at es
        · rename_i hok
          cases es
          obtain ⟨a2, us, e0, ea2, eh2, l2, q2, b2⟩ := cell_rep w2 (Rep.mono w1.hr f2.toFx _ _ rx) hys
          cases e0
          have rv' := rv
          simp only [Rep] at rv
          obtain ⟨c, ws, rfl, eh3, _, l3, q3⟩ := rv
          refine .inl ⟨a, c, us, ws, rfl, rfl, eh2, eh3, by rw [← q2.length, ← q3.length, sizeLine_eq]; exact hok.1, p2 ι2 _ σ (w2.put hys ea2 eh2 (by rw [List.length_append]; exact hok.1) (q2.append q3) (belows_app b2 (belows_okD 50 _ _ hok.2))) (Fr.put ea2) ?_⟩
          exact EnvR.mono w2 (Fr.put ea2).toFx (er.mono w (f1.trans f2).toFx)
        · cases es
      · rename_i ys zs hys
        split at es
        · rename_i hok
          cases es
          obtain ⟨a2, us, e0, ea2, eh2, l2, q2, b2⟩ := cell_rep w2 (Rep.mono w1.hr f2.toFx _ _ rx) hys
          cases e0
          simp only [Rep] at rv
          obtain ⟨c, ws, rfl, eh3, l3, q3⟩ := rv
          refine .inr ⟨a, c, us, ws, rfl, rfl, eh2, eh3, by rw [← q2.length, ← q3.length, sizeLine_eq]; exact hok.1, p2 ι2 _ σ (w2.put hys ea2 eh2 (by rw [List.length_append]; exact hok.1) (q2.append q3) (belows_app b2 (belows_okD 50 _ _ hok.2))) (Fr.put ea2) ?_⟩
          exact EnvR.mono w2 (Fr.put ea2).toFx (er.mono w (f1.trans f2).toFx)
        · cases es
      · cases es
  · exact p1.elim
end
end SH
end

section
set_option autoImplicit false
set_option linter.all false
set_option maxRecDepth 100000
/-! Strandhues: loops, parallel assignments, lists that are no more changed. -/
namespace SH
open PySem PySem.Spec PyProof.Rows L2
section
variable {Γ : Ga} {X : Cx} {E : XK} {pos : Pos} {call : Calls} {wh : Nat}
/-! ### for -/
abbrev turnF (call : Calls) (wh : Nat) (g : G) (body : List SH.S) : T → SH.Env → Hs → O := fun x σ h => match asgG g x σ with
  | some σ' => evSs call wh body σ' h
  | none => .bad
theorem for_of {g : G} {it' : SH.I} {body' : List SH.S} (D : Ends) (σ : L2.St) (H : Hp) (q : tS Γ X.K E (evS call wh (.forS g it' body')) D σ H) : tFor (tI Γ X.K E g (evI call it')) (gE Γ X.K g) (tS Γ X.K E (evSs call wh body')) D σ H := by
  obtain ⟨ι, σt, h, w, er, p⟩ := q
  simp only [evS] at p
  refine ⟨ι, σt, h, w, er, p.out fun xs h1 ι1 H1 J _ w1 f1 wj p1 => ?_⟩
  have p1 : PostO Γ X.K E ι1 H1 (loopO (turnF call wh g body') xs σt h1) D := p1
  refine ⟨fun i m s H' => m = xs.length - i ∧ i ≤ xs.length ∧ ∃ ι' σt' h', WS Γ X.K ι' h' H' ∧ EnvR X.K ι' H' σt' s ∧ Fr ι1 H1 ι' H' ∧ PostO Γ X.K E ι' H' (loopO (turnF call wh g body') (xs.drop i) σt' h') D, ⟨xs.length, rfl, Nat.zero_le _, ι1, σt, h1, w1, er.mono w f1.toFx, Fr.refl _ _, by rw [List.drop_zero]; exact p1⟩, ?_⟩
  rintro i m s H' ⟨rfl, hle, ι', σt', h', w', er', f', p'⟩
  by_cases hlt : i < xs.length
  · have hx : xs[i]? = some xs[i] := List.getElem?_eq_getElem hlt
    rw [drop_cons hlt] at p'
    refine .inr ⟨wj.go i _ _ _ w' f'.toFx hlt, fun s H => ∃ ι' σt' h', WS Γ X.K ι' h' H ∧ EnvR X.K ι' H σt' s ∧ Fr ι1 H1 ι' H ∧ PostO Γ X.K E ι' H (loopO (turnF call wh g body') (xs.drop (i + 1)) σt' h') D, fun s2 H2 hw => ⟨xs.length - (i + 1), by omega, rfl, hlt, hw⟩, fun v H3 hy => ?_⟩
    obtain ⟨w3, f3, tr⟩ := wj.yld i _ _ _ _ _ _ w' f'.toFx hx hy
    simp only [loopO, turnF] at p'
    cases ea : asgG g xs[i] σt' with
    | none => rw [ea] at p'; exact p'.elim
    | some σ2 =>
      rw [ea] at p'
      refine ⟨ι', σt', h', xs[i], σ2, w3, er'.mono w' f3.toFx, tr, ea, fun s2 er2 off => ⟨ι', σ2, h', w3, er2, ?_⟩⟩
      have p' := PostO.step f3 p'
      simp only at p'
      cases eo : evSs call wh body' σ2 h' with
      | nx σ3 h3 =>
        rw [eo] at p'
        exact fun ι4 H4 s4 w4 f4 er4 => ⟨ι4, σ3, h3, w4, er4, f'.trans (f3.trans f4), PostO.step f4 p'⟩
      | ct σ3 h3 =>
        rw [eo] at p'
        exact fun ι4 H4 s4 w4 f4 er4 => ⟨ι4, σ3, h3, w4, er4, f'.trans (f3.trans f4), PostO.step f4 p'⟩
      | bk σ3 h3 => rw [eo] at p'; exact p'
      | rt t h3 => rw [eo] at p'; exact p'
      | ex c a h3 => rw [eo] at p'; exact p'
      | bad => rw [eo] at p'; exact p'
  · have hi : i = xs.length := by omega
    subst hi
    rw [List.drop_length] at p'
    simp only [loopO] at p'
    exact .inl ⟨wj.stop _ _ _ w' f'.toFx, p' ι' H' s w' (Fr.refl _ _) er'⟩
theorem st_for {tg iter : Expr} {body : List Stmt} {g : G} {it' : SH.I} {body' : List SH.S} (hp : PassesOwn (model X.prog X.w) X.A X.env X.xe) (hc : X.calm = true) (hi : PI X tg iter (tI Γ X.K E g (evI call it'))) (hg : PG X tg (gE Γ X.K g)) (hb : PSs X body (tS Γ X.K E (evSs call wh body')))
    (fi : frm iter = true) : PS X (.For tg iter body [] pos) (tS Γ X.K E (evS call wh (.forS g it' body'))) := PS.weak (ps_for hp hc hi hg hb (frm_fold fi _)) for_of
/-! ### while -/
theorem while_of {c' : SH.E} {body' : List SH.S} (D : Ends) (σ : L2.St) (H : Hp) (q : tS Γ X.K E (evS call wh (.whileS c' body')) D σ H) : tWhile (tT Γ X.K E (tst (evE call c'))) (tS Γ X.K E (evSs call wh body')) D σ H := by
  obtain ⟨ι, σt, h, w, er, p⟩ := q
  simp only [evS] at p
  refine ⟨fun m s H' => ∃ ι' σt' h', WS Γ X.K ι' h' H' ∧ EnvR X.K ι' H' σt' s ∧ PostO Γ X.K E ι' H' (whileO (fun σ h => evE call c' σ h) (fun σ h => evSs call wh body' σ h) m σt' h') D, ⟨wh, ι, σt, h, w, er, p⟩, ?_⟩
  rintro m s H' ⟨ι', σt', h', w', er', p'⟩
  cases m with
  | zero => exact p'.elim
  | succ m =>
    simp only [whileO] at p'
    refine ⟨ι', σt', h', w', er', p'.outB fun k h1 ι1 H1 w1 f1 p1 => ?_⟩
    cases k with
    | false => exact p1 ι1 H1 s w1 (Fr.refl _ _) (er'.mono w' f1.toFx)
    | true =>
      simp only [if_true] at p1 ⊢
      refine ⟨fun s H => ∃ ι' σt' h', WS Γ X.K ι' h' H ∧ EnvR X.K ι' H σt' s ∧ PostO Γ X.K E ι' H (whileO (fun σ h => evE call c' σ h) (fun σ h => evSs call wh body' σ h) m σt' h') D, fun s2 H2 hw => ⟨m, Nat.lt_succ_self _, hw⟩, ι1, σt', h1, w1, er'.mono w' f1.toFx, ?_⟩
      cases eo : evSs call wh body' σt' h1 with
      | nx σ3 h3 =>
        rw [eo] at p1
        exact fun ι4 H4 s4 w4 f4 er4 => ⟨ι4, σ3, h3, w4, er4, PostO.step f4 p1⟩
      | ct σ3 h3 =>
        rw [eo] at p1
        exact fun ι4 H4 s4 w4 f4 er4 => ⟨ι4, σ3, h3, w4, er4, PostO.step f4 p1⟩
      | bk σ3 h3 => rw [eo] at p1; exact p1
      | rt t h3 => rw [eo] at p1; exact p1
      | ex c a h3 => rw [eo] at p1; exact p1
      | bad => rw [eo] at p1; exact p1
theorem st_while {c : Expr} {body : List Stmt} {c' : SH.E} {body' : List SH.S} (hp : PassesOwn (model X.prog X.w) X.A X.env X.xe) (hc : PT X c (tT Γ X.K E (tst (evE call c')))) (hb : PSs X body (tS Γ X.K E (evSs call wh body'))) : PS X (.While c body [] pos) (tS Γ X.K E (evS call wh (.whileS c' body'))) :=
  PS.weak (ps_while hp hc hb) while_of
/-! ### a list that is no more changed -/
theorem EnvR.kill {K : PySem.W.Frag} {ι : Io} {H : Hp} {σt : SH.Env} {σ : L2.St} {i : Nat} (er : EnvR K ι H σt σ) : EnvR K (ι.kill i) H σt σ :=
  ⟨er.1, fun j t e => let ⟨v, a, r⟩ := er.2 j t e; ⟨v, a, Rep.bar (fun a n => none_kill n) old_kill t v r⟩⟩
theorem env_at {K : PySem.W.Frag} {ι : Io} {H : Hp} {σt : SH.Env} {σ : L2.St} {i : Nat} {t : T} {v : V} (er : EnvR K ι H σt σ) (e : σ[i]? = some (some v)) (r : Rep K ι H t v) : EnvR K ι H (σt.set i (some t)) σ := by
  refine ⟨by rw [List.length_set]; exact er.1, fun j u ej => ?_⟩
  by_cases hj : i = j
  · subst hj
    have hl := (List.getElem?_eq_some_iff.mp ej).1
    rw [List.length_set] at hl
    rw [List.getElem?_set_self hl] at ej
    cases ej
    exact ⟨v, e, r⟩
  · rw [List.getElem?_set_ne hj] at ej
    exact er.2 j u ej
theorem st_freeze {i : Nat} {ss : List Stmt} {ss' : List SH.S} (hss : PSs X ss (tS Γ X.K E (evSs call wh ss'))) : PSs X ss (tS Γ X.K E (evSs call wh (.freeze i :: ss'))) := PSs.weak hss fun D σ H q => by
  obtain ⟨ι, σt, h, w, er, p⟩ := q
  simp only [evSs, evS] at p
  split at p
  · rename_i x hx
    obtain ⟨v, hv, rv⟩ := er.2 i x hx
    cases ef : freezeT h x with
    | none => rw [ef] at p; exact p.elim
    | some th =>
      obtain ⟨t, h'⟩ := th
      rw [ef] at p
      simp only [O.seq_nx] at p
      cases x <;> simp only [freezeT, reduceCtorEq] at ef
      rename_i a
      split at ef
      · rename_i xs hxs
        simp only [Option.some.injEq, Prod.mk.injEq] at ef
        obtain ⟨rfl, rfl⟩ := ef
        obtain ⟨ad, vs, rfl, ea, eh, l, q, b⟩ := cell_rep w rv hxs
        have er2 : EnvR X.K (ι.kill a) H (σt.set i (some (.lst xs))) σ := by
          refine env_at (EnvR.kill er) hv ?_
          simp only [Rep]
          refine ⟨ad, vs, rfl, eh, ⟨fun j z => ?_, w.hr.off a ad ea⟩, l, Reps.bar (fun a n => none_kill n) old_kill _ _ q⟩
          rcases kill_at z with ⟨z, hj⟩ | ⟨_, z⟩
          · exact hj (w.hr.inj j a ad z ea)
          · cases z
        exact ⟨ι.kill a, _, _, ⟨w.hr.kill, w.tb⟩, er2, PostO.step (Fr.kill a) p⟩
      · cases ef
  · exact p.elim
/-! ### a += e -/
theorem st_augA {i : Nat} {x : Str} {e : Expr} {e' : SH.E} {p2 : Pos} (hN : X.N.Nodup) (hi : X.N[i]? = some x) (hx : Loc X.env.scope x) (hf : X.fn x = true ∨ X.env.scope.names.lookup x = some .local) (he : PE X e (tE Γ X.K E (evE call e'))) :
    PS X (.AugAssign (.Name x p2) .Add e pos) (tS Γ X.K E (evS call wh (.aug i .add e'))) := PS.weak (ps_aug hN hi hx he ip_add hf) fun D σ H q => by
  obtain ⟨ι, σt, h, w, er, p⟩ := q
  simp only [evS] at p
  split at p
  · rename_i y hy
    obtain ⟨v, hv, rv⟩ := er.2 i y hy
    refine ⟨v, hv, ι, σt, h, w, er, p.out fun z h1 ι1 H1 vz _ w1 f1 rz p1 => ?_⟩
    cases y <;> cases z <;> first | exact p1.elim | skip
    simp only [Rep] at rv rz
    subst rv rz
    exact ⟨_, _, rfl, rfl, p1 ι1 H1 _ w1 (Fr.refl _ _) ((er.mono w f1.toFx).set (by simp only [Rep]))⟩
  · exact p.elim
theorem st_augS {i : Nat} {x : Str} {e : Expr} {e' : SH.E} {p2 : Pos} (hN : X.N.Nodup) (hi : X.N[i]? = some x) (hx : Loc X.env.scope x) (hf : X.fn x = true ∨ X.env.scope.names.lookup x = some .local) (he : PE X e (tE Γ X.K E (evE call e'))) :
    PS X (.AugAssign (.Name x p2) .Sub e pos) (tS Γ X.K E (evS call wh (.aug i .sub e'))) := PS.weak (ps_aug hN hi hx he ip_sub hf) fun D σ H q => by
  obtain ⟨ι, σt, h, w, er, p⟩ := q
  simp only [evS] at p
  split at p
  · rename_i y hy
    obtain ⟨v, hv, rv⟩ := er.2 i y hy
    refine ⟨v, hv, ι, σt, h, w, er, p.out fun z h1 ι1 H1 vz _ w1 f1 rz p1 => ?_⟩
    cases y <;> cases z <;> first | exact p1.elim | skip
    simp only [Rep] at rv rz
    subst rv rz
    exact ⟨_, _, rfl, rfl, p1 ι1 H1 _ w1 (Fr.refl _ _) ((er.mono w f1.toFx).set (by simp only [Rep]))⟩
  · exact p.elim
/-! ### a, b = x, y -/
theorem sw_two {env : PySem.Env} {x y : Str} {px py pt p2 : Pos} {kt k2 : Nat} {a b : Expr} (hb : env.blockKind = .function) (hx : env.kindOf x = some .local) (hy : env.kindOf y = some .local) (hxy : x ≠ y) (hl : py.line = px.line) (fa : frm a = true) (fb : frm b = true)
    (nf : (foldedForSure 8 a && foldedForSure 8 b) = false) (nc : (constantsAlone 8 a && constantsAlone 8 b) = false) : swappedStores [.Tuple [.Name x px, .Name y py] kt pt] (.Tuple [a, b] k2 p2) env = pure (some [x, y]) := by
  have hyx : (y == x) = false := beq_eq_false_iff_ne.mpr (Ne.symm hxy)
  unfold swappedStores
  simp [hb, hx, hy, hl, Expr.pos, hyx, List.eraseDups_cons]
  rw [if_neg ?_, if_neg ?_, if_neg ?_]
  · rintro ⟨h1, h2⟩
    rw [h1, h2] at nc; cases nc
  · rintro ⟨h1, h2⟩
    rw [h1, h2] at nf; cases nf
  · rintro (h1 | h1)
    · cases a <;> first | exact absurd h1 Bool.false_ne_true | exact absurd fa Bool.false_ne_true
    · cases b <;> first | exact absurd h1 Bool.false_ne_true | exact absurd fb Bool.false_ne_true
theorem sw_three {env : PySem.Env} {x y z : Str} {px py pz pt p2 : Pos} {kt k2 : Nat} {a b c : Expr} (hb : env.blockKind = .function) (hx : env.kindOf x = some .local) (hy : env.kindOf y = some .local) (hz : env.kindOf z = some .local) (hxy : x ≠ y) (hxz : x ≠ z) (hyz : y ≠ z) (hl : py.line = px.line) (hl2 : pz.line = px.line) (fa : frm a = true) (fb : frm b = true) (fc : frm c = true)
    (nf : (foldedForSure 8 a && (foldedForSure 8 b && foldedForSure 8 c)) = false) (nc : (constantsAlone 8 a && (constantsAlone 8 b && constantsAlone 8 c)) = false) : swappedStores [.Tuple [.Name x px, .Name y py, .Name z pz] kt pt] (.Tuple [a, b, c] k2 p2) env = pure (some [x, y, z]) := by
  have hyx : (y == x) = false := beq_eq_false_iff_ne.mpr (Ne.symm hxy)
  have hzx : (z == x) = false := beq_eq_false_iff_ne.mpr (Ne.symm hxz)
  have hzy : (z == y) = false := beq_eq_false_iff_ne.mpr (Ne.symm hyz)
  unfold swappedStores
  simp [hb, hx, hy, hz, hl, hl2, Expr.pos, hyx, hzx, hzy, List.eraseDups_cons]
  rw [if_neg ?_, if_neg ?_, if_neg ?_]
  · rintro ⟨h1, h2, h3⟩
    rw [h1, h2, h3] at nc; cases nc
  · rintro ⟨h1, h2, h3⟩
    rw [h1, h2, h3] at nf; cases nf
  · rintro (h1 | h1 | h1)
    · cases a <;> first | exact absurd h1 Bool.false_ne_true | exact absurd fa Bool.false_ne_true
    · cases b <;> first | exact absurd h1 Bool.false_ne_true | exact absurd fb Bool.false_ne_true
    · cases c <;> first | exact absurd h1 Bool.false_ne_true | exact absurd fc Bool.false_ne_true
theorem nodup_ix {α : Type} {xs : List α} {i j : Nat} {x : α} (h : xs.Nodup) (hi : xs[i]? = some x) (hj : xs[j]? = some x) : i = j := by
  obtain ⟨l1, e1⟩ := List.getElem?_eq_some_iff.mp hi
  obtain ⟨l2, e2⟩ := List.getElem?_eq_some_iff.mp hj
  have p := List.pairwise_iff_getElem.mp h
  rcases Nat.lt_trichotomy i j with c | c | c
  · exact absurd (e1.trans e2.symm) (p i j l1 l2 c)
  · exact c
  · exact absurd (e2.trans e1.symm) (p j i l2 l1 c)
theorem reps3 {K : PySem.W.Frag} {ι : Io} {H : Hp} {t u s : T} {vs : List V} (r : Reps K ι H [t, u, s] vs) : ∃ v w x, vs = [v, w, x] ∧ Rep K ι H t v ∧ Rep K ι H u w ∧ Rep K ι H s x := by
  cases vs with
  | nil => simp only [Reps] at r
  | cons v vs =>
    simp only [Reps] at r
    obtain ⟨w, x, rfl, rw, rx⟩ := reps2 r.2
    exact ⟨v, w, x, rfl, r.1, rw, rx⟩
theorem st_par2 {i j : Nat} {x y : Str} {px py pt p2 : Pos} {kt k2 : Nat} {a b : Expr} {a' b' : SH.E} (hc : X.calm = true) (hN : X.N.Nodup) (hi : X.N[i]? = some x) (hj : X.N[j]? = some y) (hij : i ≠ j) (hk : X.env.scope.kind = .function) (hx : X.env.scope.names.lookup x = some .local) (hy : X.env.scope.names.lookup y = some .local) (hl : py.line = px.line)
    (ha : PE X a (tE Γ X.K E (evE call a'))) (hb : PE X b (tE Γ X.K E (evE call b'))) (fa : frm a = true) (fb : frm b = true) (nf : (foldedForSure 8 a && foldedForSure 8 b) = false) (nc : (constantsAlone 8 a && constantsAlone 8 b) = false) :
    PS X (.Assign [.Tuple [.Name x px, .Name y py] kt pt] (.Tuple [a, b] k2 p2) pos) (tS Γ X.K E (evS call wh (.par [i, j] [a', b']))) := by
  have hxy : x ≠ y := fun e => hij (by
    subst e
    exact nodup_ix hN hi hj)
  have hbk : X.env.blockKind = .function := by unfold PySem.Env.blockKind; rw [hk]; rfl
  refine PS.weak (ps_par hc hN hi hj hij hx hy (sa_cons ha (sa_cons hb sa_nil (frm_star fb _ _)) (frm_star fa _ _)) (sw_two hbk hx hy hxy hl fa fb nf nc) rfl) fun D σ H q => ?_
  obtain ⟨ι, σt, h, w, er, p⟩ := q
  simp only [evS] at p
  refine ⟨ι, σt, h, w, er, p.out fun xs h1 ι1 H1 vs ee w1 f1 rs p1 => ?_⟩
  have hlen := evEs_length ee
  clear ee
  obtain ⟨u, v, rfl⟩ : ∃ u v, xs = [u, v] := by
    match xs, hlen with
    | [u, v], _ => exact ⟨u, v, rfl⟩
  obtain ⟨vu, vv, rfl, ru, rv⟩ := reps2 rs
  simp only [parT, List.length_set] at p1
  split at p1
  · rename_i σ2 e2
    split at e2
    · split at e2
      · cases e2
        exact ⟨vu, vv, rfl, p1 ι1 H1 _ w1 (Fr.refl _ _) (((er.mono w f1.toFx).set ru).set rv)⟩
      · cases e2
    · cases e2
  · exact p1.elim
theorem st_par3 {i j l : Nat} {x y z : Str} {px py pz pt p2 : Pos} {kt k2 : Nat} {a b c : Expr} {a' b' c' : SH.E} (hc : X.calm = true) (hN : X.N.Nodup) (hi : X.N[i]? = some x) (hj : X.N[j]? = some y) (hlz : X.N[l]? = some z) (hij : i ≠ j) (hil : i ≠ l) (hjl : j ≠ l) (hk : X.env.scope.kind = .function) (hx : X.env.scope.names.lookup x = some .local) (hy : X.env.scope.names.lookup y = some .local) (hz : X.env.scope.names.lookup z = some .local) (hl : py.line = px.line) (hl2 : pz.line = px.line)
    (ha : PE X a (tE Γ X.K E (evE call a'))) (hb : PE X b (tE Γ X.K E (evE call b'))) (hcc : PE X c (tE Γ X.K E (evE call c'))) (fa : frm a = true) (fb : frm b = true) (fc : frm c = true) (nf : (foldedForSure 8 a && (foldedForSure 8 b && foldedForSure 8 c)) = false) (nc : (constantsAlone 8 a && (constantsAlone 8 b && constantsAlone 8 c)) = false) :
    PS X (.Assign [.Tuple [.Name x px, .Name y py, .Name z pz] kt pt] (.Tuple [a, b, c] k2 p2) pos) (tS Γ X.K E (evS call wh (.par [i, j, l] [a', b', c']))) := by
  have key : ∀ {i j : Nat} {x y : Str}, X.N[i]? = some x → X.N[j]? = some y → i ≠ j → x ≠ y := fun {i j x y} hi hj hij e => hij (by
    subst e
    exact nodup_ix hN hi hj)
  have hbk : X.env.blockKind = .function := by unfold PySem.Env.blockKind; rw [hk]; rfl
  refine PS.weak (ps_par3 hc hN hi hj hlz hij hil hjl hx hy hz (sa_cons ha (sa_cons hb (sa_cons hcc sa_nil (frm_star fc _ _)) (frm_star fb _ _)) (frm_star fa _ _)) (sw_three hbk hx hy hz (key hi hj hij) (key hi hlz hil) (key hj hlz hjl) hl hl2 fa fb fc nf nc) rfl) fun D σ H q => ?_
  obtain ⟨ι, σt, h, w, er, p⟩ := q
  simp only [evS] at p
  refine ⟨ι, σt, h, w, er, p.out fun xs h1 ι1 H1 vs ee w1 f1 rs p1 => ?_⟩
  have hlen := evEs_length ee
  clear ee
  obtain ⟨u, v, s, rfl⟩ : ∃ u v s, xs = [u, v, s] := by
    match xs, hlen with
    | [u, v, s], _ => exact ⟨u, v, s, rfl⟩
  obtain ⟨vu, vv, vs', rfl, ru, rv, rs'⟩ := reps3 rs
  simp only [parT, List.length_set] at p1
  split at p1
  · rename_i σ2 e2
    split at e2
    · split at e2
      · split at e2
        · cases e2
          exact ⟨vu, vv, vs', rfl, p1 ι1 H1 _ w1 (Fr.refl _ _) ((((er.mono w f1.toFx).set ru).set rv).set rs')⟩
        · cases e2
      · cases e2
    · cases e2
  · exact p1.elim
/-- a, b, .. = x, y, .. as a whole -/
theorem par_asg : ∀ {is : List Nat} {xs : List T} {σ : SH.Env}, parT is xs σ = asgGs (is.map G.name) xs σ
  | [], [], σ => rfl
  | [], _ :: _, σ => rfl
  | _ :: _, [], σ => rfl
  | i :: is, x :: xs, σ => by
    simp only [parT, List.map_cons, asgGs, asgG]
    split
    · exact par_asg
    · rfl
theorem st_parG {tg e : Expr} {is : List Nat} {es' : List SH.E} (he : PE X e (tE Γ X.K E (evE call (.tup es')))) (hg : PG X tg (gE Γ X.K (.tup (is.map G.name)))) (hs : swapsWithSole [tg] e pos.line X.env = pure false) (hw : swappedStores [tg] e X.env = pure none) (h1 : (assignEach [tg] X.env).map (·.2) = [assign tg X.env]) :
    PS X (.Assign [tg] e pos) (tS Γ X.K E (evS call wh (.par is es'))) := PS.weak (st_asg (wh := wh) he hg hs hw h1) fun D σ H q => by
  obtain ⟨ι, σt, h, w, er, p⟩ := q
  refine ⟨ι, σt, h, w, er, ?_⟩
  simp only [evS, evE, asgG] at p ⊢
  cases e1 : evEs call es' σt h with
  | ok xs h1 =>
    rw [e1] at p
    simp only [R.bind_ok, R.out_ok] at p ⊢
    rw [par_asg] at p
    exact p
  | ex c a h1 => rw [e1] at p; exact p
  | bad => rw [e1] at p; exact p
/-- all items are folded: stored from the left -/
theorem sw_fold {env : PySem.Env} {ts vs : List Expr} {kt k2 : Nat} {pt p2 : Pos} (h : vs.all (foldedForSure 8) = true) : swappedStores [.Tuple ts kt pt] (.Tuple vs k2 p2) env = pure none := by
  unfold swappedStores
  simp only [h, if_true, pure_bind]
  repeat (first | rfl | split)
/-- a target that is no plain local name -/
def offLoc (sc : Scope) : Expr → Bool
  | .Name x _ => !decide (sc.names.lookup x = some .local)
  | _ => true
theorem sw_none {env : PySem.Env} {ts vs : List Expr} {kt k2 : Nat} {pt p2 : Pos} (h : ts.any (offLoc env.scope) = true ∨ (ts.length == 2 || ts.length == 3) = false) : swappedStores [.Tuple ts kt pt] (.Tuple vs k2 p2) env = pure none := by
  rcases h with h | h
  case inr =>
    have e : (!(ts.length == 2 || ts.length == 3) || vs.length != ts.length || env.blockKind != ScopeKind.function) = true := by rw [h]; rfl
    exact if_pos e
  unfold swappedStores
  have hl : ∀ line : Nat, ((ts.filterMap fun
    | .Name id pos => if env.kindOf id == some .local && pos.line == line then some id else none
    | _ => none).length != ts.length) = true := fun line => by
    have : (ts.filterMap fun
      | .Name id pos => if env.kindOf id == some .local && pos.line == line then some id else none
      | _ => none).length < ts.length := by
      rw [List.length_filterMap_lt_length_iff_exists]
      obtain ⟨t, ht, ho⟩ := List.any_eq_true.mp h
      refine ⟨t, ht, ?_⟩
      cases t <;> try rfl
      rename_i x p
      simp only [offLoc, Bool.not_eq_true', decide_eq_false_iff_not] at ho
      have : (env.kindOf x == some .local) = false := beq_eq_false_iff_ne.mpr ho
      simp only [this, Bool.false_and, Bool.false_eq_true, if_false]
    exact bne_iff_ne.mpr (by omega)
  simp only [pure_bind]
  split
  · rfl
  · split
    · rfl
    · split
      · rfl
      · rename_i h3
        exact absurd (by rw [Bool.or_eq_true]; exact .inl (hl _)) h3
/-! ### name = [..] -/
theorem st_asgLc {i : Nat} {y : Str} {py lpos spos : Pos} {elt tg iter : Expr} {ifs : List Expr} {scope : Scope} {elt' : SH.E} {g : G} {it' : SH.I} {c' : Option SH.E} {own' : List Nat} (hp : PS X (.Assign [.Name y py] (.ListComp elt [⟨tg, iter, ifs, 0⟩] scope lpos) spos) (tAsg (tF Γ X.K E (evE call (.comp elt' g it' c' own'))) (gName i))) :
    PS X (.Assign [.Name y py] (.ListComp elt [⟨tg, iter, ifs, 0⟩] scope lpos) spos) (tS Γ X.K E (evS call wh (.asg (.name i) (.comp elt' g it' c' own')))) := PS.weak hp (asgN_of fun σ H Q q => tF_of_tE ok_comp σ H Q q)
theorem st_asgLcN {i : Nat} {y : Str} {py lpos spos : Pos} {elt tg iter : Expr} {ifs : List Expr} {scope : Scope} {elt' : SH.E} {g : G} {it' : SH.I} {c' : Option SH.E} {own' : List Nat} (hp : PS X (.Assign [.Name y py] (.ListComp elt [⟨tg, iter, ifs, 0⟩] scope lpos) spos) (tAsg (tF Γ X.K E (evE call (.comp elt' g it' c' own'))) (gName i))) :
    PS X (.Assign [.Name y py] (.ListComp elt [⟨tg, iter, ifs, 0⟩] scope lpos) spos) (tS Γ X.K E (evS call wh (.asg (.name i) (.new (.comp elt' g it' c' own'))))) := PS.weak hp (asgN_of new_of)
end
end SH
end

section
set_option autoImplicit false
set_option linter.all false
set_option maxRecDepth 100000
set_option maxHeartbeats 2000000
/-! Strandhues: exceptions of the text's own classes: super().__init__(x), self.f = x. -/
namespace SH
open PySem PySem.Spec PySem.W PySem.Calls PyProof.Rows PySem.HandSPX

/-! ### __init__'s text -/
abbrev inA (f : Str) (p1 p2 : Pos) : Arguments := { posonlyargs := [], args := [{ arg := "self", annotation := none, pos := p1 }, { arg := f, annotation := none, pos := p2 }], vararg := none, kwonlyargs := [], kw_defaults := [], kwarg := none, defaults := [] }
abbrev inB (f : Str) (a1 a2 a3 a4 a5 a6 b1 b2 b3 b4 : Pos) : List Stmt :=
  [.Expr (.Call (.Attribute (.Call (.Name "super" a1) [] [] a2) "__init__" a3) [.Name f a4] [] a5) a6, .Assign [.Attribute (.Name "self" b1) f b2] (.Name f b3) b4]
/-- what the written part says of such a class, nm, whose __init__ takes and keeps f; the program's file is told, too -/
structure BadTxt (K : Frag) (mg : Str → Option Value) (prog : Program) (nm f : Str) (C : Addr) : Prop where
  gC : mg nm = some (.ref C)
  cls : ∃ nm' q N bs bm sn sub ab col dd k0 k1 k2 k3 k5, K.lookup C = some (excClassObj nm' q C N bs bm true sn sub ab col dd k0 k1 k2 k3 k5 "ValueError.__new__") ∧ refsVE bm = true
  sa : findIn K (.ref C) "__setattr__" = some (some (.builtin "object.__setattr__"))
  ga : findIn K (.ref C) "__getattribute__" = some (some (.builtin "BaseException.__getattribute__"))
  gg : findIn K (.ref C) "__getattr__" = some none
  noN : findIn K (.ref C) f = some none
  kC : keepIn K (.ref C) = true
  exC : subIn K (.ref C) (.type "BaseException") = some true
  veC : subIn K (.ref C) (.type "ValueError") = some true
  tyC : typeIn K (.ref C) = some (.type "type")
  hdC : hasDictIn K C = true
  te : exmOne K (.ref C) (.ref C) = some true
  mroC : mroIn K C (.ref C) = some true
  up : ks_superIn K C C "__init__" = some (some (.builtin "ValueError.__init__"))
  any : nsIn K cStatics "thirdparty.any" = some none
  noS : nsIn K mainGlobals "super" = some none
  top : (prog.main.scope.names.lookup ("super" : Str)).isSome = false
  init : ∃ fI, findIn K (.ref C) "__init__" = some (some (.ref fI)) ∧ typeIn K (.ref fI) = some (.type "function") ∧
    ∃ (oc : Value) (od : Option Addr) (qual : Str) (scope : Scope) (doc pm : Value) (an : Option Addr) (cda cc : Addr) (ct : Value) (osl : Array (Option Value)) (p1 p2 a1 a2 a3 a4 a5 a6 b1 b2 b3 b4 : Pos) (ccl cl : Value) (cdd cld : Option Addr) (vs : Array Value) (ccs csl : Array (Option Value)) (file : Str) (tf : Tok),
      K.lookup fI = some ⟨oc, od, .func (ksFn "__init__" qual (inA f p1 p2) (inB f a1 a2 a3 a4 a5 a6 b1 b2 b3 b4) scope .none .none doc pm an (.ref cda) ct cc), osl⟩ ∧ codeIn K (.ref cda) qual = true ∧
      scope = { kind := .function, names := scope.names, isGenerator := false, isCoroutine := false, more := scope.more } ∧ scope.names.lookup ("self" : Str) = some .local ∧ scope.names.lookup f = some .local ∧ scope.names.lookup ("super" : Str) = some .globalImplicit ∧ scope.names.lookup ("__class__" : Str) = some .free ∧ (∀ x ∈ scope.names, x.2 ≠ .cell) ∧
      K.lookup cda = some ⟨ccl, cdd, .fields vs, ccs⟩ ∧ vs[2]? = some (.str file tf) ∧ ((prog.main.file : Str) == file) = true ∧ K.lookup cc = some ⟨cl, cld, .cell (some (.ref C)), csl⟩ ∧ (a3.endLine == a5.line) = true
/-- what __init__ leaves of a fresh exception at x -/
structure EndI (f : Str) (h h' : Heap) (x C dx t1 : Addr) (v : Value) : Prop where
  keep : ∀ b o, b ≠ x → h.get? b = some o → h'.get? b = some o
  obj : h'.get? x = some { cls := .ref C, dict := some dx, data := .fields #[.ref t1, .none, .none, .none, .bool false, .none] }
  dbig : h.objs.size ≤ dx
  dne : dx ≠ x
  ns : h'.Ns1 dx (fun y => if y = f then some v else none)
section
variable {prog : Program} {w : World} {A : Around} {E : Value → Shared → Prop} {R : Result → Shared → Prop} {s : Shared} {K : Frag} {mg : Str → Option Value} {C : Addr} {nm f : Str}
/-- the bound __init__ of the base, called -/
theorem call_mw {h : Heap} {g : Array GenState} {d : Drawn} {t : Nat} {os : OsState} {u x t0 : Addr} {v : Value} {Q : Value → Shared → Prop} {nm' q : Str} {N : Addr} {bs bm : List Value} {sn : List Str} {sub : List Value} {ab : Bool} {col : Option Bool} {dd : Option Addr} {k0 k1 k2 k3 k5 : Option Value}
    (hC : h.get? C = some (excClassObj nm' q C N bs bm true sn sub ab col dd k0 k1 k2 k3 k5 "ValueError.__new__")) (he : h.get? x = some (excO C t0)) (hu : h.get? u = some (kxs_mw "ValueError.__init__" x))
    (hq : ∀ h' t1, (∀ b o, b ≠ x → h.get? b = some o → h'.get? b = some o) → h'.get? x = some (excO C t1) → Q .none ⟨h', g, d, t, os⟩) : wpAny (model prog w) A (call (.ref u) [v]) Q E ⟨h, g, d, t, os⟩ := by
  refine wpAny_call (codeAny_of_tree ?_)
  show wpAny _ A.in1 (callAny (.ref u) ⟨[v], []⟩) _ _ _
  simp only [callAny]
  refine wpAny_bind (wpAny_load hu ?_)
  simp only [kxs_mw, show (Value.type "method-wrapper" == Value.type "method" || Value.type "method-wrapper" == Value.type "builtin_function_or_method" || Value.type "method-wrapper" == Value.type "method-wrapper") = true by decide, if_true]
  refine KFB.if_so (by decide) (wpAny_bind (check_bound_init PySem.F.excBase_ValueError.toExcCallFacts hC he rfl (wpAny_bind (wpAny_pure (wpAny_pure ?_)))))
  refine ⟨plainId_quiet PySem.F.excBase_ValueError.init.plain _, codeAny_builtin PySem.F.excBase_ValueError.initEntry ?_⟩
  exact exc_init_tree (cls := .ref C) (t0 := t0) (dv := none) (c2 := .none) (c3 := .none) (b4 := .bool false) he (by show 1 ≤ sizeLine; rw [sizeLine_eq]; omega) fun h' k e' _ => hq h' _ k e'
theorem bad_init (T : BadTxt K mg prog nm f C) {fI x t0 : Addr} {v : Value} (hI : findIn K (.ref C) "__init__" = some (some (.ref fI))) (X : K.In s.heap) (hlim : s.heap.NoLimit) (hG : s.heap.Ns mainGlobals mg) (hB : ∃ mb, s.heap.Ns builtinsNs mb ∧ ∀ x : Str, x ≠ "__name__" → mb x = bootBuiltins x) (hx : s.heap.get? x = some (excO C t0)) (hnx : K.lookup x = none) (hroom : A.depth < recursionLimit) (hfs : f = Str.ofString "name" ∨ f = Str.ofString "word" ∨ f = Str.ofString "line")
    (hq : ∀ h' tk dx t1, EndI f s.heap h' x C dx t1 v → R (.ok (.ret .none)) { s with heap := h', toks := tk }) : codeAny (model prog w) A (.call (.ref fI) ⟨[.ref x, v], []⟩) R s := by
  obtain ⟨fI', hI', _, oc, od, qual, scope, doc, pm, an, cda, cc, ct, osl, p1, p2, a1, a2, a3, a4, a5, a6, b1, b2, b3, b4, ccl, cl, cdd, cld, vs, ccs, csl, file, tf, ho, hcd, hsc, k1, k2, k3, k4, k5, hcode, hvs, hfile, hcell, hline⟩ := T.init
  rw [hI] at hI'
  cases hI'
  obtain ⟨nm', q, N, bs, bm, sn, sub, ab, col, dd, k0, j1, j2, j3, j5, hC, hbm⟩ := T.cls
  have hcl : clsIn K C = some { name := nm', bases := bs, mro := .ref C :: bm, ns := N, qualname := q, hasDict := true, slotNames := sn, subclasses := sub, abstract := ab, collection := col, hasDel := false } := by unfold clsIn; rw [hC] <;> rfl
  have hsf : ("self" : Str) ≠ f := by rcases hfs with e | e | e <;> rw [e] <;> decide
  have hbd : bindArgs (ksFn "__init__" qual (inA f p1 p2) (inB f a1 a2 a3 a4 a5 a6 b1 b2 b3 b4) scope .none .none doc pm an (.ref cda) ct cc) ⟨[.ref x, v], []⟩ = pure [(("self" : Str), Value.ref x), (f, v)] := by
    rcases hfs with e | e | e <;> subst e <;> rfl
  have hdbg : (f == ("__debug__" : Str)) = false := by rcases hfs with e | e | e <;> rw [e] <;> decide
  have hkind : scope.kind = .function := by rw [hsc]
  have hco : scope.isCoroutine = false := by rw [hsc]
  have hgn : scope.isGenerator = false := by rw [hsc]
  have hm : ∀ y ∈ [(("self" : Str), Value.ref x), (f, v)], scope.names.lookup y.1 = some .local := fun y hy => by
    rcases List.mem_cons.mp hy with e | hy
    · rw [e]; exact k1
    · rw [List.mem_singleton.mp hy]; exact k2
  refine ks_codeAny_call_defAt (fd := ksFn "__init__" qual (inA f p1 p2) (inB f a1 a2 a3 a4 a5 a6 b1 b2 b3 b4) scope .none .none doc pm an (.ref cda) ct cc) (binds := [("self", .ref x), (f, v)]) hroom (X _ _ ho) rfl hlim (codeRec_of X hcd) rfl (BindsTo.of_eq hbd) k5 hm (fun h₁ hns kp => ?_) hco hgn hkind
  obtain ⟨hp, g, d, tk, os⟩ := s
  have X₁ : K.In h₁ := X.keeps kp
  have hx₁ := kp _ _ hx
  have hself : ([(("self" : Str), Value.ref x), (f, v)] : List (Str × Value)).reverse.lookup ("self" : Str) = some (.ref x) := by
    show ([(f, v), (("self" : Str), Value.ref x)] : List (Str × Value)).lookup ("self" : Str) = _
    rw [List.lookup_cons, beq_eq_false_iff_ne.mpr hsf]
    simp [List.lookup]
  have hf : ([(("self" : Str), Value.ref x), (f, v)] : List (Str × Value)).reverse.lookup f = some v := by
    show ([(f, v), (("self" : Str), Value.ref x)] : List (Str × Value)).lookup f = _
    simp [List.lookup]
  have I₁ : InstAt h₁ x (excO C t0) C none := ⟨hx₁, rfl, rfl, trivial⟩
  obtain ⟨oD, hD1, hD2⟩ : ∃ oD, h₁.get? C = some oD ∧ oD.data = .cls { name := nm', bases := bs, mro := .ref C :: bm, ns := N, qualname := q, hasDict := true, slotNames := sn, subclasses := sub, abstract := ab, collection := col, hasDel := false } := ⟨_, X₁ _ _ hC, rfl⟩
  -- super().__init__(f)
  have hio : interactive (ksEnv qual scope hp.objs.size fI (.ref cda) cc) = false := by simp [interactive, hkind]
  have hcallE : ∀ env : PySem.Env, eval (.Call (.Attribute (.Call (.Name "super" a1) [] [] a2) "__init__" a3) [.Name f a4] [] a5) env = (do
      let ov ← attributeBase (.Call (.Name "super" a1) [] [] a2) "__init__" env (eval (.Call (.Name "super" a1) [] [] a2) env)
      standAt a3.atName
      let (f', first) ← holding [ov] (getMethod ov "__init__" (do return (← importBound (.Call (.Name "super" a1) [] [] a2) env).getD true))
      callWith a5 f' first (backTo a5 (starEach [.Name f a4] env)) []) := fun env => by
    have hpos : methodCallPos true (.Call (.Name "super" a1) [] [] a2) env a3 a5 = pure a5 := by unfold methodCallPos; simp [hline]
    show (do
      let ov ← attributeBase (.Call (.Name "super" a1) [] [] a2) "__init__" env (eval (.Call (.Name "super" a1) [] [] a2) env)
      standAt a3.atName
      methodCall (.Call (.Name "super" a1) [] [] a2) "__init__" a3 a5 env ov 1 (backTo a5 (starEach [.Name f a4] env)) []) = _
    have hform : methodCallForm 1 (backTo a5 (starEach [.Name f a4] env)) [] = true := rfl
    unfold methodCall calleeOf
    simp only [hform, hpos, if_true, pure_bind]
  refine ks_wpAt_execs_cons (ks_wpAt_Expr_any (ks_wpAt_MethodCall ?_ (hcallE _)) hio rfl)
  refine ks_wpAt_super_base (env := ksEnv qual scope hp.objs.size fI (.ref cda) cc) k3 k4 (by decide) rfl (X₁ _ _ ho) rfl rfl rfl (X₁ _ _ hcode) rfl hvs hfile T.top ?_
  obtain ⟨mb, hmb1, hmb2⟩ := hB
  refine ks_loadName_global hkind k3 (loadGlobal_builtin (env := ksEnv qual scope hp.objs.size fI (.ref cda) cc) (hG.keeps kp) (mg_none_of X hG T.noS) (hmb1.keeps kp) ((hmb2 _ (by decide)).trans (by decide +kernel)) ⟨rfl, ?_⟩)
  refine wpAny_loadName_free hkind k4 rfl ⟨_, X₁ _ _ hcell, rfl⟩ ?_
  refine wpAny_loadName_local hkind k1 hns hself ?_
  refine ks_wpAny_isType_cls hD1 hD2 ⟨rfl, ?_⟩
  refine ks_wpAny_call_super hD1 hD2 hx₁ rfl (fun c e => by cases e) (looks_mroIn X₁ T.mroC) (fun h2 e2 kp2 => ?_)
  have X₂ : K.In h2 := X₁.keeps kp2
  have hx₂ := kp2 _ _ hx₁
  have I₂ : InstAt h2 x (excO C t0) C none := ⟨hx₂, rfl, rfl, trivial⟩
  have hxC : x ≠ C := ks_ne X₁ I₁ hcl
  -- the bound method
  refine kxs_getMethod kxs_ValueError e2 (looks_opaque X₂ T.any) (l₀ := .ref C :: bm) ?_ rfl X₂ ?_ (I₂.type.andThen (looks_subIn X₂ T.veC)) hxC (by decide) ?_
  · exact fun A Q E s k q => wpAny_bind ((looks_clsIn X₂ hcl) A _ E s k (wpAny_pure q))
  · have := T.up
    unfold ks_superIn at this
    rw [hcl] at this
    exact this
  -- its call
  have hu : (h2.push (kxs_mw "ValueError.__init__" x)).get? h2.objs.size = some (kxs_mw "ValueError.__init__" x) := Heap.get?_push_size _ rfl
  have up3 : ∀ b o, h2.get? b = some o → (h2.push (kxs_mw "ValueError.__init__" x)).get? b = some o := fun b o e => Heap.get?_push_of_some _ e
  have hns3 := (hns.keeps kp2).keeps up3
  refine kxs_callWith (i := "ValueError.__init__") (x := x) rfl (evalArgs_plain ?_)
  refine Calls.spliced_cons (wpAny_Name (wpAny_loadName_local hkind k2 hns3 hf ?_) ?_)
  · refine Calls.spliced_nil ⟨hu, ?_⟩
    refine call_mw (nm' := nm') (X₂.keeps up3 _ _ hC) (up3 _ _ hx₂) hu fun h4 t1 kp4 hx₄ => ?_
    have hLx : hp.objs.size ≠ x := Nat.ne_of_gt (Heap.lt_size hx)
    have hns4 := hns3.at (fun o e => kp4 hp.objs.size o hLx e)
    have X₃ := X₂.keeps up3
    have X₄ : K.In h4 := fun a o e => kp4 a o (fun z => by rw [z, hnx] at e; cases e) (X₃ a o e)
    have old : ∀ b o, b ≠ x → hp.get? b = some o → h4.get? b = some o := fun b o hb e => kp4 b o hb (up3 b o (kp2 b o (kp b o e)))
    have big : hp.objs.size < h4.objs.size := by
      exact hns4.lt
    refine ks_wpAt_execs_cons (ks_wpAt_Assign_Attr (wpAt_of_wpAny (wpAny_Name (wpAny_loadName_local hkind k2 hns4 hf (wpAny_Name (wpAny_loadName_local hkind k1 hns4 hself ?_) rfl)) ?_)) rfl)
    · refine set_plain X₄ (ox := excO C t1) (od := none) ⟨hx₄, rfl, rfl, trivial⟩ T.sa ?_
      refine exc_osa X₄ hx₄ hcl (show HandSPX.refsVE (.ref C :: bm) = true from hbm) rfl T.noN (fun h5 tk5 dx k6 dn dne hx5 hn5 => ?_)
      show PySem.wpAt _ _ _ (execs [] _) _ _ _
      exact wpAt_of_wpAny (wpAny_execs_nil (hq h5 tk5 dx t1 ⟨fun b o hb e => k6 b o hb (old b o hb e), hx5, Nat.le_of_lt (Nat.lt_of_lt_of_le big dn), dne, hn5⟩))
    · exact hdbg
  · exact hdbg
/-- a made exception -/
structure Made (f : Str) (h h' : Heap) (e C d : Addr) (v : Value) : Prop where
  keep : ∀ b o, h.get? b = some o → h'.get? b = some o
  new : h.objs.size ≤ e
  obj : ∃ oe vs, h'.get? e = some oe ∧ oe.cls = .ref C ∧ oe.dict = some d ∧ oe.data = .fields vs ∧ vs[1]? = some .none
  dbig : h.objs.size ≤ d
  dne : d ≠ e
  ns : h'.Ns1 d (fun y => if y = f then some v else none)
theorem bad_made (T : BadTxt K mg prog nm f C) {v : Value} (X : K.In s.heap) (hlim : s.heap.NoLimit) (hG : s.heap.Ns mainGlobals mg) (hB : ∃ mb, s.heap.Ns builtinsNs mb ∧ ∀ x : Str, x ≠ "__name__" → mb x = bootBuiltins x) (hroom : A.depth + 1 < recursionLimit) (hfs : f = Str.ofString "name" ∨ f = Str.ofString "word" ∨ f = Str.ofString "line")
    (hq : ∀ h' tk e d, Made f s.heap h' e C d v → R (.ok (.ret (.ref e))) { s with heap := h', toks := tk }) : codeAny (model prog w) A (.call (.ref C) ⟨[v], []⟩) R s := by
  obtain ⟨nm', q, N, bs, bm, sn, sub, ab, col, dd, k0, k1, k2, k3, k5, hC, hbm⟩ := T.cls
  obtain ⟨fI, hI, hty, _⟩ := T.init
  obtain ⟨hp, g, dr, tk, os⟩ := s
  have k : ∀ b o, hp.get? b = some o → ((hp.push (kdv_tup [v])).push (excO C hp.objs.size)).get? b = some o := fun b o e => Heap.get?_push_of_some _ (Heap.get?_push_of_some _ e)
  have hget : ((hp.push (kdv_tup [v])).push (excO C hp.objs.size)).get? (hp.objs.size + 1) = some (excO C hp.objs.size) := by heap_get
  have hnx : K.lookup (hp.objs.size + 1) = none := by
    cases e : K.lookup (hp.objs.size + 1) with
    | none => rfl
    | some o => exact absurd (Nat.lt_of_succ_lt (Heap.lt_size (X _ _ e))) (Nat.lt_irrefl _)
  refine HandSPX.call_own PySem.F.excBase_ValueError (fun Y => HandSPX.refsVE_contains Y bm hbm) (X _ _ hC) (looks_findIn X hI) (fun self => bind_fn X self hty) (by show 1 ≤ sizeLine; rw [sizeLine_eq]; omega) ?_
  refine bad_init (s := ⟨(hp.push (kdv_tup [v])).push (excO C hp.objs.size), g, dr, tk, os⟩) T hI (X.keeps k) (hlim.keeps k) (hG.keeps k) ?_ hget hnx ?_ hfs fun h' tk' dx t1 M => ?_
  · obtain ⟨mb, b1, b2⟩ := hB
    exact ⟨mb, b1.keeps k, b2⟩
  · exact hroom
  · have old : ∀ b o, hp.get? b = some o → h'.get? b = some o := fun b o e => M.keep b o (Nat.ne_of_lt (Nat.lt_succ_of_lt (Heap.lt_size e))) (k b o e)
    have z : hp.objs.size + 1 + 1 ≤ dx := by
      have q := M.dbig
      rw [Heap.size_push, Heap.size_push] at q
      exact q
    exact ⟨rfl, hq h' tk' (hp.objs.size + 1) dx ⟨old, Nat.le_succ _, ⟨_, _, M.obj, rfl, rfl, rfl, rfl⟩, Nat.le_trans (Nat.le_trans (Nat.le_succ _) (Nat.le_succ _)) z, M.dne, M.ns⟩⟩
end
end SH

namespace SH
open PySem PySem.Spec PyProof.Rows L2
theorem relO_one {v : V} {u : Value} {f : Str} (r : RelV v u) (g : Str) : RelO (List.lookup g [(f, v)]) (if g = f then some u else none) := by
  by_cases h : g = f
  · subst h
    rw [if_pos rfl, show List.lookup g [(g, v)] = some v by simp [List.lookup]]
    exact r
  · rw [if_neg h, show List.lookup g [(f, v)] = none by simp [List.lookup, beq_eq_false_iff_ne.mpr h]]
    trivial
section
variable {X : Cx} {C : Addr} {nm f : Str}
/-- C(e): a new exception's dict stands at d -/
def tMkC (C : Addr) (f : Str) (ta : TA) : L2.St → Hp → XK → Prop := fun σ H Q => ta σ H fun vs H1 => ∃ v, vs = [v] ∧ ∀ d, H1 d = none → Q (.ref C) (some d) (upd H1 d (.xd [(f, v)]))
theorem pmk_bad {a : Expr} {ta : TA} {p pos : Pos} {k : Nat} (T : BadTxt X.K X.mg X.prog nm f C) (hfs : f = Str.ofString "name" ∨ f = Str.ofString "word" ∨ f = Str.ofString "line") (hr : Room k X.A) (ha : PA X [a] ta) (hg : Gl X nm) (hd : (nm == ("__debug__" : Str)) = false)
    (he : starEach (a :: []) X.env = (false, eval a X.env) :: starEach [] X.env) : PMk X (.Call (.Name nm p) [a] [] pos) (tMkC C f ta) := by
  intro pins s σ H Q I h
  refine wpAny_Call_Name_kw (ld_glob I hg T.gC (PySem.W.callWith_K (h₀ := X.base) I.ok.mod.kin T.kC (thn (ha.run pos pins s σ H _ I h) fun us s1 hh => ?_) he rfl) hd)
  obtain ⟨vs, H1, I1, r1, v, ev, q1⟩ := hh
  subst ev
  refine ⟨I1.kIn, ?_⟩
  cases r1 with
  | cons rv rn =>
    rename_i v' us'
    cases rn
    show wpAny _ _ (call (.ref C) [v']) _ _ _
    have hlim := I1.nolimit
    have hG : s1.heap.Ns mainGlobals X.mg := I1.mod.glob.keeps I1.bk
    have hB : ∃ mb, s1.heap.Ns builtinsNs mb ∧ ∀ x : Str, x ≠ "__name__" → mb x = bootBuiltins x := by
      obtain ⟨mb, b1, b2⟩ := I1.mod.blt
      exact ⟨mb, b1.keeps I1.bk, b2⟩
    obtain ⟨hp, g, dr, tk, os⟩ := s1
    refine wpAny_call (bad_made T I1.kIn hlim hG hB (by have := hr.dp; omega) hfs fun h' tk' e d M => ?_)
    show MkP X pins σ Q (.ref e) ⟨h', g, dr, tk', os⟩
    obtain ⟨oe, fv, hoe, hc, hd, hdat, h1⟩ := M.obj
    have hns := M.ns
    obtain ⟨G', g1, g2⟩ := restrict h' fun b => decide (b ≠ e)
    have gk : ∀ b, b ≠ e → G'.get? b = h'.get? b := fun b hb => g1 b (decide_eq_true hb)
    have ge : G'.get? e = none := g2 e (by simp)
    have old : ∀ b o, hp.get? b = some o → G'.get? b = some o := fun b o q => (gk b (Nat.ne_of_lt (Nat.lt_of_lt_of_le (Heap.lt_size q) M.new))).trans (M.keep b o q)
    have ob : ObjOk X.prog X.w (upd H1 d (.xd [(f, v)])) G' d (.xd [(f, v)]) := ⟨_, hns.at (fun o q => (gk d M.dne).trans q), fun y => relO_one rv y⟩
    have J : Inv X pins σ (upd H1 d (.xd [(f, v)])) ⟨G', g, dr, tk', os⟩ := I1.laid (t' := tk') old M.dbig ob
    refine ⟨e, oe, fv, ⟨G', g, dr, tk', os⟩, _, .ref C, some d, rfl, J, fun b o q => ?_, ge, hoe, ⟨hc, hd⟩, hdat, h1, ?_, rfl, I1.bare, raises_own T.exC T.tyC, q1 d (I1.hok.fresh M.dbig)⟩
    · by_cases hb : b = e
      · have q' : G'.get? b = some o := q
        rw [hb, ge] at q'; cases q'
      · exact (gk b hb).symm.trans q
    · rw [upd_ne (Ne.symm M.dne)]
      exact I1.hok.fresh M.new
/-- raise C(e) -/
theorem st_raise {Γ : Ga} {E : XK} {call : Calls} {wh : Nat} {a : Expr} {a' : SH.E} {p pos pos2 : Pos} {k c : Nat} (hc : X.calm = true) (T : BadTxt X.K X.mg X.prog nm f C) (hfs : f = Str.ofString "name" ∨ f = Str.ofString "word" ∨ f = Str.ofString "line") (hx : Γ.excAt c = some (nm, f, C)) (hr : Room k X.A) (tk : Takes X (fun c d _ H => E c d H))
    (ha : PE X a (tE Γ X.K E (evE call a'))) (fa : frm a = true) (hg : Gl X nm) (hd : (nm == ("__debug__" : Str)) = false) : PS X (.Raise (some (.Call (.Name nm p) [a] [] pos)) none pos2) (tS Γ X.K E (evS call wh (.raise c a'))) := by
  refine PS.weak (ps_raise hc tk (pmk_bad T hfs hr (sa_cons ha sa_nil (frm_star fa _ _)) hg hd (frm_star fa _ _))) fun D σ H q => ?_
  obtain ⟨ι, σt, h, w, er, p⟩ := q
  simp only [evS] at p
  refine ⟨ι, σt, h, w, er, args1 (PostO.out p fun x h1 ι1 H1 v _ w1 f1 rx p1 => ⟨v, rfl, fun d hd => ?_⟩)⟩
  split at p1
  · refine p1 ι1 _ _ _ (w1.new hd) (Fr.new hd) ⟨nm, f, C, d, v, hx, rfl, rfl, upd_same, ?_⟩
    exact Rep.mono w1.hr (Fr.new hd).toFx _ _ rx
  · exact p1.elim
end
end SH
end

section
set_option autoImplicit false
set_option linter.all false
set_option maxRecDepth 100000
set_option maxHeartbeats 2000000
/-! Strandhues: what a call refuses: a lambda handed to a def that tries it. -/
namespace SH
open PySem PySem.Spec PyProof.Rows L2

section
variable {X : Cx} {C : Addr} {nm f : Str}
/-- e.f, e the exception that the suite holds -/
def tByBad (C a : Addr) (cls : Value) (d : Option Addr) (f : Str) (te : TE) : TE := fun σ H Q => te σ H fun x H1 => x = .ref a ∧ cls = .ref C ∧ ∃ (dd : Addr) (v : V), d = some dd ∧ H1 dd = some (.xd [(f, v)]) ∧ Q v H1
theorem pe_byBad {prog : Program} {a : Addr} {oe : Obj} {cls : Value} {d : Option Addr} {pn : List (Addr × Obj)} {e : Expr} {te : TE} {pos : Pos} (T : BadTxt X.K X.mg prog nm f C) (hz : Zc cls d oe) (hf : ∃ vs, oe.data = .fields vs) (he : PE (X.suite a ((a, oe) :: pn)) e te)
    (hb : attributeBase e f X.env (eval e X.env) = eval e X.env) : PE (X.suite a ((a, oe) :: pn)) (.Attribute e f pos) (tByBad C a cls d f te) := by
  constructor
  intro pins s σ H Q I h
  refine attr_of hb (thn (he.run pins s σ H _ I h) fun u s1 hh => ?_)
  obtain ⟨x, H1, I1, rx, ex, ec, dd, v, ed, ea, q⟩ := hh
  subst ex ec ed
  obtain rfl : u = Value.ref a := rx
  obtain ⟨ha, _⟩ := I1.pin (a, oe) (List.mem_append_left _ List.mem_cons_self)
  obtain ⟨vs, hd⟩ := hf
  have hx : ObjOk X.prog X.w H1 s1.heap dd (.xd [(f, v)]) := I1.hok dd _ ea
  obtain ⟨mA, hns, hr⟩ := hx
  obtain ⟨od, ho, hl⟩ := lookIn_ns hns
  have l : List.lookup f [(f, v)] = some v := by simp [List.lookup]
  obtain ⟨u, hu, ru⟩ := RelO.some_of (v := v) (o := mA f) (by rw [← l]; exact hr f)
  have J : PySem.W.InstAt s1.heap a oe C (some od) := ⟨ha, hz.1, by unfold PySem.W.notCls; rw [hd] <;> rfl, by rw [hz.2]; exact ho⟩
  exact HandSPX.exc_get I1.kIn J T.ga T.gg T.exC (PySem.W.findObj_own T.hdC T.noN rfl (by rw [hl, hu])) (handed_of ru) ⟨v, H1, I1.tok _, ru, q⟩
/-- a name that was just stored -/
def tVarSet (i : Nat) : TE := fun σ H Q => ∃ (σ0 : L2.St) (v : V), σ = σ0.set i (some v) ∧ Q v H
theorem pe_varSet {i : Nat} {x : Str} {pos : Pos} (hN : X.N[i]? = some x) (hv : Vis X.env.scope x) (hd : (x == ("__debug__" : Str)) = false) (hcd : (x == ("__classdict__" : Str)) = false) : PE X (.Name x pos) (tVarSet i) := by
  constructor
  intro pins s σ H Q I h
  obtain ⟨σ0, v, e, q⟩ := h
  refine (pe_var hN hv hd hcd).run pins s σ H Q I ⟨v, ?_, q⟩
  have hl := I.len
  have hi := (List.getElem?_eq_some_iff.mp hN).1
  rw [e, List.length_set] at hl
  rw [e, List.getElem?_set_self (by omega)]
/-- try: a() / except nm as e: return e.f; return "" -/
def TTr (C : Addr) (f : Str) : (XK → Hp → VK → Prop) → Hp → VK → Prop := fun tl H Q =>
  tl (fun cls d H' => cls = .ref C ∧ ∃ (dd : Addr) (v : V), d = some dd ∧ H' dd = some (.xd [(f, v)]) ∧ Q v H') H (fun _ H' => Q (.str (Str.ofString "")) H')
theorem refused_gives {q : Str} {sg : Scope} {g : Addr} {cdg : Value} {j : Nat} {p1 p2 p3 p4 p5 p6 p7 p8 p9 p10 p11 : Pos} (T : BadTxt X.K X.mg X.prog nm f C) (hge : sg.names.lookup nm = some .globalImplicit) (hde : (nm == ("__debug__" : Str)) = false) (hle : sg.names.lookup ("e" : Str) = some .local)
    {x : Str} : LamX.GivesTo X [("call" : Str), ("e" : Str)] x sg g cdg
      [.Try [.Expr (.Call (.Name "call" p1) [] [] p2) p3] [.ExceptHandler (some (.Name nm p4)) (some "e") [.Return (some (.Attribute (.Name "e" p5) f p6)) p7] p8] [] [] p9, .Return (some (.Constant (.str (Str.ofString "")) j p10)) p11] "call" q (TTr C f) := by
  intro fl c' s H Q tl act hc' h
  have hgl : Gl (cxOf C8.CX0 X.prog X.w X.K X.mg X.base [("call" : Str), ("e" : Str)] x sg g cdg X.A X.stack s H C8.E0).nox nm := hge
  refine ⟨_, pss_cons (ps_try_as (X := (cxOf C8.CX0 X.prog X.w X.K X.mg X.base [("call" : Str), ("e" : Str)] x sg g cdg X.A X.stack s H C8.E0).nox) (n := ("e" : Str)) (i := 1) (c := .ref C) (Wout := fun _ _ _ _ => False)
      (tb := fun W D σ H => ∃ Ech : XK, (∀ cls d σ' H', Ech cls d H' → W cls d σ' H') ∧ σ[0]? = some (some (.ref fl)) ∧ H c' = some (LamX.CodeO c' q) ∧ tl Ech H (fun _ H' => D.nx σ H'))
      (ts := fun a cls d => tRet (tByBad C a cls d f (tVarSet 1)))
      rfl rfl (show ([("call" : Str), ("e" : Str)] : List Str).Nodup by decide) rfl hle ⟨hgl, hde, .inl T.gC⟩ LamX.takes0 (fun W pn xe tk _ => ?_) (fun a oe cls d pn hz hf => ?_)) (pss_one (ps_ret pe_str)), ?_⟩
  · refine ⟨fun pins s' σ H' D I h' => ?_⟩
    obtain ⟨Ech, hW, h1, h2, h3⟩ := h'
    have hp := act W pn xe Ech p1 p2 tk hW
    exact (pss_one (ps_expr (pos := p3) hp rfl)).run pins s' σ H' D I ⟨h1, h2, h3⟩
  · refine pss_one (ps_ret (pe_byBad (X := (cxOf C8.CX0 X.prog X.w X.K X.mg X.base [("call" : Str), ("e" : Str)] x sg g cdg X.A X.stack s H C8.E0).nox) T hz hf (pe_varSet (i := 1) rfl (.inl hle) (by decide) (by decide)) rfl))
  · show ∃ Ech : XK, _ ∧ _ ∧ _ ∧ _
    exact ⟨_, fun cls d σ' H' ⟨ec, dd, v, ed, ev, q'⟩ => ⟨true, by rw [ec]; exact T.te, fun _ a na => ⟨σ', .ref a, rfl, rfl, ec, dd, v, ed, ev, q'⟩, fun z => by cases z⟩, rfl, hc', h⟩
/-- what the text's _law_refused is -/
structure RefTxt (K : PySem.W.Frag) (mg : Str → Option Value) (base : Heap) (nm f : Str) : Prop where
  fn : ∃ (g : Addr) (oc : Value) (od : Option Addr) (pg : Arguments) (sg : Scope) (dV kV doc pm cdv ct : Value) (an : Option Addr) (osl : Array (Option Value)) (j : Nat) (p1 p2 p3 p4 p5 p6 p7 p8 p9 p10 p11 : Pos),
    mg (Str.ofString "_law_refused") = some (.ref g) ∧ PySem.W.keepIn K (.ref g) = true ∧
    K.lookup g = some ⟨oc, od, .func (PySem.W.fnOf (Str.ofString "_law_refused") (Str.ofString "_law_refused") pg
      [.Try [.Expr (.Call (.Name "call" p1) [] [] p2) p3] [.ExceptHandler (some (.Name nm p4)) (some "e") [.Return (some (.Attribute (.Name "e" p5) f p6)) p7] p8] [] [] p9, .Return (some (.Constant (.str (Str.ofString "")) j p10)) p11] sg dV kV doc pm an cdv ct), osl⟩ ∧
    PySem.W.codeIn K cdv (Str.ofString "_law_refused") = true ∧ L2.Binds K (PySem.W.fnOf (Str.ofString "_law_refused") (Str.ofString "_law_refused") pg
      [.Try [.Expr (.Call (.Name "call" p1) [] [] p2) p3] [.ExceptHandler (some (.Name nm p4)) (some "e") [.Return (some (.Attribute (.Name "e" p5) f p6)) p7] p8] [] [] p9, .Return (some (.Constant (.str (Str.ofString "")) j p10)) p11] sg dV kV doc pm an cdv ct) [("call" : Str)] [] ∧
    FnScope [("call" : Str), ("e" : Str)] [("call" : Str)] sg ∧ Vis sg ("call" : Str) ∧ sg.names.lookup nm = some .globalImplicit ∧ sg.names.lookup ("e" : Str) = some .local
theorem fr_extN {ι : Io} {H H1 : Hp} (e : LamX.ExtN H H1) : Fr ι H ι H1 := ⟨⟨fun _ _ h => .inl h, fun _ _ h => .inl h, fun b o h _ t => e b o h t, fun b o h t => ⟨o, e b o h t, t⟩, fun _ h => .inl h⟩, rfl⟩
theorem WS.extN {Γ : Ga} {K : PySem.W.Frag} {ι : Io} {h : Hs} {H H1 : Hp} (w : WS Γ K ι h H) (e : LamX.ExtN H H1) (t : LamX.Tabs Γ.Tb H1) : WS Γ K ι h H1 := by
  refine ⟨w.hr.step (fr_extN (ι := ι) e).toFx rfl (fun i a o h1 h2 => ?_) (fun b hb => ?_) w.hr.off, t⟩
  · obtain ⟨o', e1, m, n⟩ := w.hr.live i a h1
    rw [h2] at e1
    cases e1
    exact e a o h2 (fun ps z => by subst z; exact m)
  · obtain ⟨o, h1, t1⟩ := w.hr.hidT b hb
    exact ⟨o, e b o h1 t1, t1⟩
/-- _law_refused(lambda: e) -/
theorem se_refused {Γ : Ga} {E : XK} {call : Calls} {a : Expr} {a' : SH.E} {params : Arguments} {scope : Scope} {p lpos pos : Pos} {c P : Addr} {k : Nat} (hx : Γ.excAt 0 = some (nm, f, C)) (T : BadTxt X.K X.mg X.prog nm f C) (R0 : RefTxt X.K X.mg X.base nm f) (hg : Gl X (Str.ofString "_law_refused")) (hde : (nm == ("__debug__" : Str)) = false)
    (TB : LamX.TabB X.base X.mg c P) (hcode : X.env.code = .ref c) (hmT : (P, X.env.qual ++ "<lambda>") ∈ Γ.Tb) (hu : ∀ p ∈ Γ.Tb, p.1 = P → p.2 = X.env.qual ++ "<lambda>") (hr : Room (k + 2) X.A) (L : LamX.LamS X.env.scope scope) (hdef : defaultsOf params X.env = ([], []))
    (hbind : ∀ (q : Str) (cl : List (Str × Addr)) (pm cv ctv : Value), bindArgs (PySem.W.kla_fn "<lambda>" q params a scope cl pm cv ctv) ⟨[], []⟩ = pure [])
    (hbody : ∀ (A : Around) (outer : List PySem.Env) (s : Shared) (H : Hp) (E' : XK) (f c' : Addr), Room k (A.deeper (LamX.lamEnv X scope s.heap.objs.size f c')) → PE (LamX.lamCx X A outer s H E' scope f c') a (tE Γ X.K E' (evE call a'))) :
    SE Γ X E (.Call (.Name (Str.ofString "_law_refused") p) [.Lambda params a scope lpos] [] pos) (evE call (.refused a')) := by
  obtain ⟨g, oc, od, pg, sg, dV, kV, doc, pm, cdv, ct, an, osl, j, p1, p2, p3, p4, p5, p6, p7, p8, p9, p10, p11, r1, r2, r3, r4, r5, r6, r7, r8, r9⟩ := R0.fn
  refine SE.of (fun _ => rfl) (PE.weak (LamX.pe_lamcall (T := Γ.Tb) (t := fun E' => tE Γ X.K E' (evE call a')) hg r1 r2 r3 r4 r5 r6 rfl r7 (refused_gives T r8 hde r9) TB hcode hmT hu hr L hdef hbind hbody (by decide) (by decide) (by decide)) fun σ H Q q => ?_)
  obtain ⟨ι, σt, h, w, er, p⟩ := q
  refine ⟨w.tb, fun H1 e1 t1 => ?_⟩
  have w1 := w.extN e1 t1
  have f1 : Fr ι H ι H1 := fr_extN e1
  refine ⟨ι, σt, h, w1, er.mono w f1.toFx, PostG.step f1 ?_⟩
  simp only [evE] at p
  cases ev : evE call a' σt h with
  | ok t h2 =>
    rw [ev] at p
    exact fun ι2 H2 v w2 f2 r => p ι2 H2 _ w2 f2 (by simp only [Rep])
  | ex c2 t h2 =>
    rw [ev] at p
    intro ι2 H2 cls d w2 f2 x
    cases c2 with
    | succ c2 => exact p.elim
    | zero =>
      obtain ⟨nm2, fl2, C2, dx, v, e1, e2, e3, e4, e5⟩ := x
      rw [hx] at e1
      cases e1
      exact ⟨e2, dx, v, e3, e4, p ι2 H2 v w2 f2 e5⟩
  | bad => rw [ev] at p; exact p.elim
end
end SH
end

section
set_option autoImplicit false
set_option linter.all false
set_option maxRecDepth 100000
/-! Strandhues: a checker that tells whether a text of the own language is the program's text. -/
namespace SH
open PySem PySem.Spec PyProof.Rows L2

/-! ### equal values -/
mutual
def eqTB : T → T → Bool
  | .non, .non => true
  | .bl a, .bl b => a == b
  | .int a, .int b => decide (a = b)
  | .str a, .str b => decide (a = b)
  | .tup xs, .tup ys => eqTBs xs ys
  | .lst xs, .lst ys => eqTBs xs ys
  | .scr a, .scr b => decide (a = b)
  | .ref a, .ref b => decide (a = b)
  | .fn a, .fn b => decide (a = b)
  | _, _ => false
def eqTBs : List T → List T → Bool
  | [], [] => true
  | x :: xs, y :: ys => eqTB x y && eqTBs xs ys
  | _, _ => false
end
mutual
theorem eqTB_eq : ∀ {x y : T}, eqTB x y = true → x = y
  | .non, y, h => by cases y <;> first | rfl | (simp only [eqTB] at h; exact absurd h Bool.false_ne_true)
  | .bl a, y, h => by cases y <;> first | (simp only [eqTB] at h; rw [eq_of_beq h]) | (simp only [eqTB] at h; exact absurd h Bool.false_ne_true)
  | .int a, y, h => by cases y <;> first | (simp only [eqTB] at h; rw [of_decide_eq_true h]) | (simp only [eqTB] at h; exact absurd h Bool.false_ne_true)
  | .str a, y, h => by cases y <;> first | (simp only [eqTB] at h; rw [of_decide_eq_true h]) | (simp only [eqTB] at h; exact absurd h Bool.false_ne_true)
  | .tup xs, y, h => by
    cases y <;> first | (simp only [eqTB] at h; exact absurd h Bool.false_ne_true) | skip
    simp only [eqTB] at h
    rw [eqTBs_eq h]
  | .lst xs, y, h => by
    cases y <;> first | (simp only [eqTB] at h; exact absurd h Bool.false_ne_true) | skip
    simp only [eqTB] at h
    rw [eqTBs_eq h]
  | .scr a, y, h => by cases y <;> first | (simp only [eqTB] at h; rw [of_decide_eq_true h]) | (simp only [eqTB] at h; exact absurd h Bool.false_ne_true)
  | .ref a, y, h => by cases y <;> first | (simp only [eqTB] at h; rw [of_decide_eq_true h]) | (simp only [eqTB] at h; exact absurd h Bool.false_ne_true)
  | .fn a, y, h => by cases y <;> first | (simp only [eqTB] at h; rw [of_decide_eq_true h]) | (simp only [eqTB] at h; exact absurd h Bool.false_ne_true)
theorem eqTBs_eq : ∀ {xs ys : List T}, eqTBs xs ys = true → xs = ys
  | [], [], _ => rfl
  | x :: xs, y :: ys, h => by
    simp only [eqTBs, Bool.and_eq_true] at h
    rw [eqTB_eq h.1, eqTBs_eq h.2]
  | [], _ :: _, h => by simp [eqTBs] at h
  | _ :: _, [], h => by simp [eqTBs] at h
end

/-! ### names -/
def visB (sc : Scope) (x : Str) : Bool := match sc.names.lookup x with
  | some .local => true
  | some .cell => true
  | some .free => true
  | _ => false
theorem vis_of {sc : Scope} {x : Str} (h : visB sc x = true) : Vis sc x := by
  unfold visB at h
  split at h <;> first | (rename_i e; exact .inl e) | (rename_i e; exact .inr (.inl e)) | (rename_i e; exact .inr (.inr e)) | cases h
def glB (sc : Scope) (x : Str) : Bool := decide (sc.names.lookup x = some .globalImplicit)
def nmB (x : Str) : Bool := !(x == ("__debug__" : Str)) && !(x == ("__classdict__" : Str))
def conT : T → Option Const
  | .non => some .none
  | .bl b => some (.bool b)
  | .int i => some (.int i)
  | .str s => some (.str s)
  | _ => none
/-- a built-in name -/
def blB (bl : List Str) (sc : Scope) (x : Str) : Bool := glB sc x && decide (x ∈ bl)
def notLc : Expr → Bool
  | .ListComp .. => false
  | .SetComp .. => false
  | .DictComp .. => false
  | _ => true
def isTupE : Expr → Bool
  | .Tuple .. => true
  | _ => false

/-! ### expressions -/
def noArgs : Arguments → Bool
  | ⟨[], [], none, [], [], none, []⟩ => true
  | _ => false
/-- what makes a new list -/
def frB : SH.E → Bool
  | .lst _ => true
  | .comp .. => true
  | .blt .listOf [_] => true
  | .bin .mul (.lst _) _ => true
  | _ => false
def cmB : SH.E → Bool
  | .comp .. => true
  | _ => false
mutual
def chkE (Γ : Gc) (bl : List Str) (N : List Str) (rf : Bool) (sc : Scope) : SH.E → Expr → Bool
  | .var i, e => match e with
    | .Name x _ => decide (N[i]? = some x) && visB sc x && nmB x
    | _ => false
  | .con t, e => match e with
    | .Constant c _ _ => decide (conT t = some c)
    | _ => false
  | .glo k t, e => match e with
    | .Name x _ => (match Γ.glob[k]? with
      | some (y, u) => decide (y = x) && eqTB t u
      | none => false) && glB sc x && nmB x
    | _ => false
  | .tup es, e => match e with
    | .Tuple es' _ _ => chkEs Γ bl N rf sc es es' && decide (es.length ≤ 1000)
    | _ => false
  | .lst es, e => match e with
    | .List es' _ => chkEs Γ bl N rf sc es es' && decide (es.length ≤ 1000)
    | _ => false
  | .bin op a b, e => match e with
    | .BinOp x o y _ => decide (o = opOf op) && chkE Γ bl N rf sc a x && chkE Γ bl N rf sc b y
    | _ => false
  | .neg a, e => match e with
    | .UnaryOp .USub x _ => chkE Γ bl N rf sc a x
    | _ => false
  | .cmp op a b, e => match e with
    | .Compare x [o] [y] _ => decide (o = cmpOf op) && chkE Γ bl N rf sc a x && chkE Γ bl N rf sc b y && frm y
    | _ => false
  | .cmp2 op op' a b c, e => match e with
    | .Compare x [o, o'] [y, z] _ => decide (o = cmpOf op) && decide (o' = cmpOf op') && chkE Γ bl N rf sc a x && chkE Γ bl N rf sc b y && chkE Γ bl N rf sc c z && frm z
    | _ => false
  | .isN a, e => match e with
    | .Compare x [.Is] [.Constant .none _ _] _ => chkE Γ bl N rf sc a x
    | _ => false
  | .notN a, e => match e with
    | .Compare x [.IsNot] [.Constant .none _ _] _ => chkE Γ bl N rf sc a x
    | _ => false
  | .andE a b, e => match e with
    | .BoolOp .And [x, y] _ => chkE Γ bl N rf sc a x && chkE Γ bl N rf sc b y
    | .BoolOp .And (x :: y :: z :: r) p => chkE Γ bl N rf sc a x && chkE Γ bl N rf sc b (.BoolOp .And (y :: z :: r) p)
    | _ => false
  | .orE a b, e => match e with
    | .BoolOp .Or [x, y] _ => chkE Γ bl N rf sc a x && chkE Γ bl N rf sc b y
    | .BoolOp .Or (x :: y :: z :: r) p => chkE Γ bl N rf sc a x && chkE Γ bl N rf sc b (.BoolOp .Or (y :: z :: r) p)
    | _ => false
  | .notE a, e => match e with
    | .UnaryOp .Not x _ => chkE Γ bl N rf sc a x
    | _ => false
  | .ite c a b, e => match e with
    | .IfExp x y z _ => chkE Γ bl N rf sc c x && chkE Γ bl N rf sc a y && chkE Γ bl N rf sc b z
    | _ => false
  | .idx a i, e => match e with
    | .Subscript x y _ => frm y && chkE Γ bl N rf sc a x && chkE Γ bl N rf sc i y
    | _ => false
  | .slc a lo hi, e => match e with
    | .Subscript x (.Slice l h none _) _ => chkE Γ bl N rf sc a x && chkO Γ bl N rf sc lo l && chkO Γ bl N rf sc hi h
    | _ => false
  | .rev a, e => match e with
    | .Subscript x (.Slice none none (some (.UnaryOp .USub (.Constant (.int 1) _ _) _)) _) _ => chkE Γ bl N rf sc a x
    | _ => false
  | .idxOf a i, e => match e with
    | .Call (.Attribute o nm apos) [y] [] cpos => decide (nm = Str.ofString "index") && baseOk o && frm y && (apos.endLine == cpos.line) && chkE Γ bl N rf sc a o && chkE Γ bl N rf sc i y
    | _ => false
  | .blt b es, e => match e with
    | .Call (.Name x _) (y :: ys) [] _ => (decide (x = Str.ofString (bltN b)) && !decide (bltN b = "?") && blB bl sc x && chkEs Γ bl N rf sc es (y :: ys) && frm y && ys.all frm) ||
      (match b, es, y, ys with
        | .lenSet, [a], .Call (.Name u _) [z] [] _, [] => decide (x = Str.ofString "len") && blB bl sc x && decide (u = Str.ofString "set") && blB bl sc u && frm z && chkE Γ bl N rf sc a z
        | _, _, _, _ => false)
    | _ => false
  | .rng tp es, e => match e with
    | .Call (.Name x _) [.Call (.Name y _) ys [] _] [] _ => decide (x = Str.ofString (if tp then "tuple" else "list")) && blB bl sc x && decide (y = Str.ofString "range") && blB bl sc y && chkEs Γ bl N rf sc es ys && ys.all frm && (decide (ys.length = 1) || decide (ys.length = 2))
    | _ => false
  | .isi a ty, e => match e with
    | .Call (.Name x _) [y, .Name z _] [] _ => decide (x = Str.ofString "isinstance") && blB bl sc x && decide (z = Str.ofString (tyN ty)) && blB bl sc z && frm y && chkE Γ bl N rf sc a y
    | _ => false
  | .call f es kws perm, e => match e with
    | .Call (.Name x _) ys ks _ => (match Γ.Φ[f]? with
      | some fd => decide (x = fd.name) && glB sc x && nmB x && chkEs Γ bl N rf sc es ys && ys.all frm && chkEs Γ bl N rf sc kws (kwVals ks) &&
        (match ks with
          | [] => decide (perm = List.range es.length) && decide (es.length = fd.params.length) && decide (kws.length = 0)
          | _ => (match kwNames ks with
            | some ns => decide ((f, es.length, ns, perm) ∈ Γ.kw) && decide (kws.length = ns.length) && decide (perm.length = fd.params.length)
            | none => false))
      | none => false)
    | _ => false
  | .comp elt g it c own, e => match e with
    | .ListComp x [⟨tg, iter, ifs, 0⟩] scope _ => blkC N sc scope (own.map fun i => (N.getD i (Str.ofString ""), i)) && (gN g).all (fun j => decide (j ∈ own)) && tgC N scope g tg && chkI Γ bl N rf sc g it tg iter && frm iter &&
      chkC Γ bl N (relS scope sc) c ifs && chkE Γ bl N false (relS scope sc) elt x
    | _ => false
  | .refused a, e => match e with
    | .Call (.Name x _) [.Lambda params body scope _] [] _ => rf && decide (x = Str.ofString "_law_refused") && glB sc x && LamX.lamSB sc scope && noArgs params && chkE Γ bl N false scope a body
    | _ => false
  | .new a, e => frB a && chkE Γ bl N rf sc a e
def chkEs (Γ : Gc) (bl : List Str) (N : List Str) (rf : Bool) (sc : Scope) : List SH.E → List Expr → Bool
  | [], [] => true
  | e' :: es', e :: es => chkE Γ bl N rf sc e' e && frm e && chkEs Γ bl N rf sc es' es
  | _, _ => false
def chkO (Γ : Gc) (bl : List Str) (N : List Str) (rf : Bool) (sc : Scope) : Option SH.E → Option Expr → Bool
  | none, none => true
  | some e', some e => chkE Γ bl N rf sc e' e
  | _, _ => false
def chkC (Γ : Gc) (bl : List Str) (N : List Str) (sc : Scope) : Option SH.E → List Expr → Bool
  | none, [] => true
  | some e', [e] => chkE Γ bl N false sc e' e
  | _, _ => false
def chkI (Γ : Gc) (bl : List Str) (N : List Str) (rf : Bool) (sc : Scope) : G → SH.I → Expr → Expr → Bool
  | _, .val a, _, e => chkE Γ bl N rf sc a e
  | _, .rng es, _, e => match e with
    | .Call (.Name y _) ys [] _ => decide (y = Str.ofString "range") && blB bl sc y && chkEs Γ bl N rf sc es ys && ys.all frm && (decide (ys.length = 1) || decide (ys.length = 2))
    | _ => false
  | g, .enum a, tg, e => match e with
    | .Call (.Name x _) [y] [] _ => decide (x = Str.ofString "enumerate") && blB bl sc x && isTup g && isTupE tg && frm y && chkE Γ bl N rf sc a y
    | _ => false
  | g, .zip a b, tg, e => match e with
    | .Call (.Name x _) [y, z] [] _ => decide (x = Str.ofString "zip") && blB bl sc x && isTup g && isTupE tg && frm y && frm z && chkE Γ bl N rf sc a y && chkE Γ bl N rf sc b z
    | _ => false
end
end SH
end

section
set_option autoImplicit false
set_option linter.all false
set_option maxRecDepth 100000
set_option maxHeartbeats 4000000
/-! Strandhues: the checker is right: expressions. -/
namespace SH
open PySem PySem.Spec PyProof.Rows L2

/-- an expression's reading; of an and, an or the rest's, too; of what makes a new list that it is new -/
structure SX (Γ : Ga) (X : Cx) (E : XK) (call : Calls) (e : Expr) (a : SH.E) : Prop where
  se : SE Γ X E e (evE call a)
  sb : ∀ op vs pos, e = .BoolOp op vs pos → SB Γ X E e (evE call a)
  fr : frB a = true → PlainT X e ∧ PE X e (tF Γ X.K E (evE call a))
  st : cmB a = true → ∀ (i : Nat) (y : Str) (py spos : Pos), X.N[i]? = some y → Loc X.env.scope y → (X.fn y = true ∨ X.env.scope.names.lookup y = some .local) → PS X (.Assign [.Name y py] e spos) (tAsg (tF Γ X.K E (evE call a)) (gName i))
theorem SX.of {Γ : Ga} {X : Cx} {E : XK} {call : Calls} {e : Expr} {a : SH.E} (s : SE Γ X E e (evE call a)) (h : ∀ op vs pos, e ≠ .BoolOp op vs pos) (hf : frB a = false := by rfl) : SX Γ X E call e a :=
  ⟨s, fun op vs pos z => absurd z (h op vs pos), fun z => by (rw [hf] at z; cases z), fun z => by
    cases a <;> first | (cases hf; done) | cases z⟩
theorem SX.bo {Γ : Ga} {X : Cx} {E : XK} {call : Calls} {e : Expr} {a : SH.E} (s : SB Γ X E e (evE call a)) (hf : frB a = false := by rfl) : SX Γ X E call e a := ⟨s.se, fun _ _ _ _ => s, fun z => by (rw [hf] at z; cases z), fun z => by
    cases a <;> first | (cases hf; done) | cases z⟩
/-- lambdas may be made here -/
def RfOk (Γ : Ga) (X : Cx) (k : Nat) : Prop := ∃ (c P : Addr) (nm f : Str) (C : Addr), Γ.excAt 0 = some (nm, f, C) ∧ BadTxt X.K X.mg X.prog nm f C ∧ RefTxt X.K X.mg X.base nm f ∧ (nm == ("__debug__" : Str)) = false ∧
  LamX.TabB X.base X.mg c P ∧ X.env.code = .ref c ∧ (P, X.env.qual ++ "<lambda>") ∈ Γ.Tb ∧ (∀ p ∈ Γ.Tb, p.1 = P → p.2 = X.env.qual ++ "<lambda>") ∧ Room (k + 2) X.A
theorem nm_of {x : Str} (h : nmB x = true) : (x == ("__debug__" : Str)) = false ∧ (x == ("__classdict__" : Str)) = false := by
  unfold nmB at h
  rw [Bool.and_eq_true, Bool.not_eq_true', Bool.not_eq_true'] at h
  exact h
theorem gl_of {X : Cx} {x : Str} (h : glB X.env.scope x = true) : Gl X x := show X.env.scope.names.lookup x = some .globalImplicit from of_decide_eq_true h
theorem bl_of {Γ : Ga} {bl : List Str} {X : Cx} {x : Str} (m : Md Γ X.K X.mg bl) (h : blB bl X.env.scope x = true) : BltOk X x := by
  unfold blB at h
  rw [Bool.and_eq_true, decide_eq_true_eq] at h
  exact ⟨gl_of h.1, m.blt x h.2⟩
theorem noArgs_of {p : Arguments} (h : noArgs p = true) : p = ⟨[], [], none, [], [], none, []⟩ := by
  unfold noArgs at h
  split at h
  · rfl
  · cases h
theorem chkEs_len {Γ : Ga} {bl N : List Str} {rf : Bool} {sc : Scope} : ∀ {es : List SH.E} {ys : List Expr}, chkEs Γ.toGc bl N rf sc es ys = true → es.length = ys.length
  | [], [], _ => rfl
  | _ :: es, _ :: ys, h => by
    simp only [chkEs, Bool.and_eq_true] at h
    simp [chkEs_len h.2]
  | [], _ :: _, h => by simp [chkEs] at h
  | _ :: _, [], h => by simp [chkEs] at h
/-- a lambda's frame -/
theorem Gd.lam {Γ : Ga} {bl : List Str} {X : Cx} {E : XK} {k n : Nat} (g : Gd Γ bl X E k n) {scope : Scope} (L : LamX.LamS X.env.scope scope) {A : Around} {outer : List PySem.Env} {s : Shared} {H : Hp} {E' : XK} {f c' : Addr} (hr : Room k (A.deeper (LamX.lamEnv X scope s.heap.objs.size f c'))) :
    Gd Γ bl (LamX.lamCx X A outer s H E' scope f c') E' k n :=
  ⟨rfl, g.nodup, takes_of rfl rfl rfl rfl, hr, g.fns, g.md⟩
theorem se_con {Γ : Ga} {X : Cx} {E : XK} {call : Calls} {t : T} {c : Const} {j : Nat} {pos : Pos} (h : conT t = some c) : SE Γ X E (.Constant c j pos) (evE call (.con t)) := by
  cases t <;> simp only [conT, Option.some.injEq, reduceCtorEq] at h <;> subst h
  · exact se_non
  · exact se_bl
  · exact se_int
  · exact se_str
theorem own_ix {N : List Str} (own : List Nat) : (own.map fun i => (N.getD i (Str.ofString ""), i)).map (·.2) = own := by
  rw [List.map_map]
  have : ((fun p : Str × Nat => p.2) ∘ fun i => (N.getD i (Str.ofString ""), i)) = id := rfl
  rw [this, List.map_id]
section
variable {Γ : Ga} {bl : List Str} {k n : Nat}
mutual
theorem snd : ∀ (a : SH.E) (X : Cx) (E : XK) (rf : Bool) (e : Expr), Gd Γ bl X E k n → (rf = true → RfOk Γ X k) → chkE Γ.toGc bl X.N rf X.env.scope a e = true → SX Γ X E (Γ.call n) e a
  | .var i, X, E, rf, e, g, hr, h => by
    cases e <;> first | (simp only [chkE] at h; exact absurd h Bool.false_ne_true) | skip
    rename_i x p
    simp only [chkE, Bool.and_eq_true, decide_eq_true_eq] at h
    obtain ⟨h1, h2⟩ := nm_of h.2
    exact SX.of (se_var h.1.1 (vis_of h.1.2) h1 h2) (fun _ _ _ z => by cases z)
  | .con t, X, E, rf, e, g, hr, h => by
    cases e <;> first | (simp only [chkE] at h; exact absurd h Bool.false_ne_true) | skip
    simp only [chkE, decide_eq_true_eq] at h
    exact SX.of (se_con h) (fun _ _ _ z => by cases z)
  | .glo i t, X, E, rf, e, g, hr, h => by
    cases e <;> first | (simp only [chkE] at h; exact absurd h Bool.false_ne_true) | skip
    simp only [chkE, Bool.and_eq_true] at h
    obtain ⟨⟨h1, h2⟩, h3⟩ := h
    split at h1
    · rename_i y u hy
      rw [Bool.and_eq_true, decide_eq_true_eq] at h1
      obtain ⟨rfl, e2⟩ := h1
      have e2 := eqTB_eq e2
      subst e2
      obtain ⟨u', v, m1, m2, m3⟩ := g.md.glo i _ t hy
      exact SX.of (se_glo (gl_of h2) m1 m2 m3 (nm_of h3).1) (fun _ _ _ z => by cases z)
    · cases h1
  | .tup es, X, E, rf, e, g, hr, h => by
    cases e <;> first | (simp only [chkE] at h; exact absurd h Bool.false_ne_true) | skip
    simp only [chkE, Bool.and_eq_true, decide_eq_true_eq] at h
    exact SX.of (se_tup (snds es X E rf _ g hr h.1) h.2) (fun _ _ _ z => by cases z)
  | .lst es, X, E, rf, e, g, hr, h => by
    cases e <;> first | (simp only [chkE] at h; exact absurd h Bool.false_ne_true) | skip
    simp only [chkE, Bool.and_eq_true, decide_eq_true_eq] at h
    exact ⟨se_lst (snds es X E rf _ g hr h.1) h.2, (fun _ _ _ z => by cases z), fun _ => ⟨fun _ => rfl, sf_lst (snds es X E rf _ g hr h.1) h.2⟩, fun z => by cases z⟩
  | .bin op a b, X, E, rf, e, g, hr, h => by
    cases e <;> first | (simp only [chkE] at h; exact absurd h Bool.false_ne_true) | skip
    simp only [chkE, Bool.and_eq_true, decide_eq_true_eq] at h
    obtain ⟨⟨rfl, h1⟩, h2⟩ := h
    have pa := (snd a X E rf _ g hr h1).se.pe
    have pb := (snd b X E rf _ g hr h2).se.pe
    have s := se_bin' (op := op) (pos := by assumption) pa pb
    have e : evE (Γ.call n) (.bin op a b) = fun σ h => (evE (Γ.call n) a σ h).bind fun x h => (evE (Γ.call n) b σ h).bind fun y h => .of (binT op h x y) h := by funext σ h; simp only [evE]
    refine ⟨by rw [e]; exact s, fun _ _ _ z => (by cases z), fun z => ?_, fun z => (by cases z)⟩
    cases op <;> first | (simp [frB] at z; done) | skip
    cases a <;> first | (simp [frB] at z; done) | skip
    rename_i es'
    exact ⟨fun _ => rfl, sf_mul pa pb⟩
  | .neg a, X, E, rf, e, g, hr, h => by
    unfold chkE at h
    split at h
    · exact SX.of (se_neg (snd a X E rf _ g hr h).se.pe) (fun _ _ _ z => by cases z)
    · cases h
  | .cmp op a b, X, E, rf, e, g, hr, h => by
    unfold chkE at h
    split at h
    · simp only [Bool.and_eq_true, decide_eq_true_eq] at h
      obtain ⟨⟨⟨rfl, h1⟩, h2⟩, h3⟩ := h
      exact SX.of (se_cmp1 g.units (snd a X E rf _ g hr h1).se.pe (snd b X E rf _ g hr h2).se.pe h3) (fun _ _ _ z => by cases z)
    · cases h
  | .cmp2 op op' a b c, X, E, rf, e, g, hr, h => by
    unfold chkE at h
    split at h
    · simp only [Bool.and_eq_true, decide_eq_true_eq] at h
      obtain ⟨⟨⟨⟨⟨rfl, rfl⟩, h1⟩, h2⟩, h3⟩, h4⟩ := h
      exact SX.of (se_cmp2 g.units (snd a X E rf _ g hr h1).se.pe (snd b X E rf _ g hr h2).se.pe (snd c X E rf _ g hr h3).se.pe h4) (fun _ _ _ z => by cases z)
    · cases h
  | .isN a, X, E, rf, e, g, hr, h => by
    unfold chkE at h
    split at h
    · exact SX.of (st_isN (snd a X E rf _ g hr h).se.pe) (fun _ _ _ z => by cases z)
    · cases h
  | .notN a, X, E, rf, e, g, hr, h => by
    unfold chkE at h
    split at h
    · exact SX.of (st_notN (snd a X E rf _ g hr h).se.pe) (fun _ _ _ z => by cases z)
    · cases h
  | .andE a b, X, E, rf, e, g, hr, h => by
    unfold chkE at h
    split at h
    · rw [Bool.and_eq_true] at h
      exact SX.bo (sb_and (snd a X E rf _ g hr h.1).se (sb_and1 (snd b X E rf _ g hr h.2).se))
    · rw [Bool.and_eq_true] at h
      exact SX.bo (sb_and (snd a X E rf _ g hr h.1).se ((snd b X E rf _ g hr h.2).sb _ _ _ rfl))
    · cases h
  | .orE a b, X, E, rf, e, g, hr, h => by
    unfold chkE at h
    split at h
    · rw [Bool.and_eq_true] at h
      exact SX.bo (sb_or (snd a X E rf _ g hr h.1).se (sb_or1 (snd b X E rf _ g hr h.2).se))
    · rw [Bool.and_eq_true] at h
      exact SX.bo (sb_or (snd a X E rf _ g hr h.1).se ((snd b X E rf _ g hr h.2).sb _ _ _ rfl))
    · cases h
  | .notE a, X, E, rf, e, g, hr, h => by
    unfold chkE at h
    split at h
    · exact SX.of (st_not (snd a X E rf _ g hr h).se) (fun _ _ _ z => by cases z)
    · cases h
  | .ite c a b, X, E, rf, e, g, hr, h => by
    unfold chkE at h
    split at h
    · simp only [Bool.and_eq_true] at h
      exact SX.of (se_ite (snd c X E rf _ g hr h.1.1).se (snd a X E rf _ g hr h.1.2).se (snd b X E rf _ g hr h.2).se) (fun _ _ _ z => by cases z)
    · cases h
  | .idx a i, X, E, rf, e, g, hr, h => by
    unfold chkE at h
    split at h
    · simp only [Bool.and_eq_true] at h
      exact SX.of (se_idx h.1.1 (snd a X E rf _ g hr h.1.2).se.pe (snd i X E rf _ g hr h.2).se.pe) (fun _ _ _ z => by cases z)
    · cases h
  | .slc a lo hi, X, E, rf, e, g, hr, h => by
    unfold chkE at h
    split at h
    · simp only [Bool.and_eq_true] at h
      exact SX.of (se_slc (snd a X E rf _ g hr h.1.1).se.pe (sndO lo X E rf _ g hr h.1.2) (sndO hi X E rf _ g hr h.2)) (fun _ _ _ z => by cases z)
    · cases h
  | .rev a, X, E, rf, e, g, hr, h => by
    unfold chkE at h
    split at h
    · exact SX.of (se_rev (snd a X E rf _ g hr h).se.pe) (fun _ _ _ z => by cases z)
    · cases h
  | .idxOf a i, X, E, rf, e, g, hr, h => by
    unfold chkE at h
    split at h
    · simp only [Bool.and_eq_true, decide_eq_true_eq] at h
      obtain ⟨⟨⟨⟨⟨rfl, h1⟩, h2⟩, h3⟩, h4⟩, h5⟩ := h
      exact SX.of (se_idxOf g.units (snd a X E rf _ g hr h4).se.pe (snd i X E rf _ g hr h5).se.pe h1 h2 h3) (fun _ _ _ z => by cases z)
    · cases h
  | .blt b [], X, E, rf, e, g, hr, h => by
    unfold chkE at h
    split at h
    · rename_i x p1 y ys p2
      rw [Bool.or_eq_true] at h
      rcases h with h | h
      · simp only [Bool.and_eq_true, decide_eq_true_eq, Bool.not_eq_true', decide_eq_false_iff_not] at h
        obtain ⟨⟨⟨⟨⟨rfl, h1⟩, h2⟩, h3⟩, h4⟩, h5⟩ := h
        exact SX.of (se_blt (p := p1) (pos := p2) g.calm (bl_of g.md h2) h1 (snds ([]) X E rf _ g hr h3) h4 h5) (fun _ _ _ z => by cases z) (by cases b <;> rfl)
      · split at h
        · rename_i hh
          simp at hh
        · cases h
    · cases h
  | .blt b [a], X, E, rf, e, g, hr, h => by
    unfold chkE at h
    split at h
    · rename_i x p1 y ys p2
      rw [Bool.or_eq_true] at h
      rcases h with h | h
      · simp only [Bool.and_eq_true, decide_eq_true_eq, Bool.not_eq_true', decide_eq_false_iff_not] at h
        obtain ⟨⟨⟨⟨⟨rfl, h1⟩, h2⟩, h3⟩, h4⟩, h5⟩ := h
        have s1 := se_blt (p := p1) (pos := p2) g.calm (bl_of g.md h2) h1 (snds [a] X E rf _ g hr h3) h4 h5
        refine ⟨s1, (fun _ _ _ z => by cases z), fun z => ⟨fun _ => rfl, ?_⟩, fun z => by cases z⟩
        cases b <;> first | (cases z; done) | skip
        cases ys with
        | nil =>
          simp only [chkEs, Bool.and_eq_true] at h3
          exact sf_listOf (bl_of g.md h2) (snd a X E rf _ g hr h3.1.1).se.pe h4
        | cons _ _ => simp [chkEs] at h3
      · split at h
        · rename_i a' u p3 z p4 he
          simp only [Bool.and_eq_true, decide_eq_true_eq] at h
          obtain ⟨⟨⟨⟨⟨rfl, h1⟩, rfl⟩, h2⟩, h3⟩, h4⟩ := h
          have he2 : a = a' := by first | (simpa using he) | rfl
          have h4 : chkE Γ.toGc bl X.N rf X.env.scope a z = true := by rw [he2]; exact h4
          have A := se_lenSet (p := p1) (p2 := p3) (q := p4) (pos := p2) g.calm (bl_of g.md h1) (bl_of g.md h2) h3 (snd a X E rf z g hr h4).se.pe
          exact SX.of A (fun _ _ _ z => by cases z)
        · cases h
    · cases h
  | .blt b (a1 :: a2 :: as), X, E, rf, e, g, hr, h => by
    unfold chkE at h
    split at h
    · rename_i x p1 y ys p2
      rw [Bool.or_eq_true] at h
      rcases h with h | h
      · simp only [Bool.and_eq_true, decide_eq_true_eq, Bool.not_eq_true', decide_eq_false_iff_not] at h
        obtain ⟨⟨⟨⟨⟨rfl, h1⟩, h2⟩, h3⟩, h4⟩, h5⟩ := h
        exact SX.of (se_blt (p := p1) (pos := p2) g.calm (bl_of g.md h2) h1 (snds (a1 :: a2 :: as) X E rf _ g hr h3) h4 h5) (fun _ _ _ z => by cases z) (by cases b <;> rfl)
      · split at h
        · rename_i hh
          simp at hh
        · cases h
    · cases h
  | .rng tp es, X, E, rf, e, g, hr, h => by
    unfold chkE at h
    split at h
    · simp only [Bool.and_eq_true, decide_eq_true_eq] at h
      obtain ⟨⟨⟨⟨⟨⟨rfl, h1⟩, rfl⟩, h2⟩, h3⟩, h4⟩, h5⟩ := h
      have rg := sndR es X E rf _ g hr h3 h4 h5
      cases tp with
      | true => exact SX.of (se_rngT g.calm rg (bl_of g.md h2) (bl_of g.md h1)) (fun _ _ _ z => by cases z)
      | false => exact SX.of (se_rngL g.calm rg (bl_of g.md h2) (bl_of g.md h1)) (fun _ _ _ z => by cases z)
    · cases h
  | .isi a ty, X, E, rf, e, g, hr, h => by
    unfold chkE at h
    split at h
    · simp only [Bool.and_eq_true, decide_eq_true_eq] at h
      obtain ⟨⟨⟨⟨⟨rfl, h1⟩, rfl⟩, h2⟩, h3⟩, h4⟩ := h
      exact SX.of (se_isi (bl_of g.md h1) (bl_of g.md h2) h3 (snd a X E rf _ g hr h4).se.pe) (fun _ _ _ z => by cases z)
    · cases h
  | .call f es kws perm, X, E, rf, e, g, hr, h => by
    unfold chkE at h
    split at h
    · rename_i x p1 ys ks p2
      split at h
      · rename_i fd hfd
        simp only [Bool.and_eq_true, decide_eq_true_eq] at h
        obtain ⟨⟨⟨⟨⟨⟨rfl, h1⟩, h2⟩, h3⟩, h4⟩, h5⟩, h6⟩ := h
        have hx := snds es X E rf _ g hr h3
        refine SX.of ?_ (fun _ _ _ z => by cases z)
        split at h6
        · simp only [Bool.and_eq_true, decide_eq_true_eq] at h6
          obtain ⟨⟨rfl, h7⟩, h8⟩ := h6
          have hk : kws = [] := List.eq_nil_of_length_eq_zero h8
          subst hk
          cases ys with
          | nil =>
            have he : es = [] := List.eq_nil_of_length_eq_zero (by have := chkEs_len h3; simpa using this)
            subst he
            exact se_call0 g hfd (gl_of h1) (nm_of h2).1 h7.symm
          | cons y ys =>
            simp only [List.all_cons, Bool.and_eq_true] at h4
            exact se_call g hfd (gl_of h1) (nm_of h2).1 hx h4.1 h4.2 h7
        · split at h6
          · rename_i ns hns
            simp only [Bool.and_eq_true, decide_eq_true_eq] at h6
            have hk := sndK kws X E rf _ g hr h5
            obtain ⟨⟨h7, h8⟩, h9⟩ := h6
            cases ys with
            | nil =>
              have he : es = [] := List.eq_nil_of_length_eq_zero (by have := chkEs_len h3; simpa using this)
              subst he
              exact se_callK0 g hfd (gl_of h1) (nm_of h2).1 hk hns h7 h8 h9
            | cons y ys =>
              simp only [List.all_cons, Bool.and_eq_true] at h4
              exact se_callK g hfd (gl_of h1) (nm_of h2).1 hx hk h4.1 h4.2 hns h7 h8 h9
          · cases h6
      · cases h
    · cases h
  | .comp elt gt it c own, X, E, rf, e, g, hr, h => by
    unfold chkE at h
    split at h
    · rename_i x tg iter ifs scope p
      simp only [Bool.and_eq_true] at h
      obtain ⟨⟨⟨⟨⟨⟨h1, h2⟩, h3⟩, h4⟩, h5⟩, h6⟩, h7⟩ := h
      have ok := blkOk_by h1
      have ow := own_ix (N := X.N) own
      have hgn : ∀ j ∈ gN gt, j ∈ (own.map fun i => (X.N.getD i (Str.ofString ""), i)).map (·.2) := fun j hj => by
        rw [ow]
        have := List.all_eq_true.mp h2 j hj
        exact of_decide_eq_true this
      have gb := fun s H C cl fp => g.blk (E := E) s H C cl fp scope
      have hi := sndI gt it X E rf tg iter g hr h4
      have hg : ∀ (s : Shared) (H : Hp) (C : Addr) (cl : List (Str × Addr)) (fp : List Addr), PG (X.blk s H scope (compEnvC scope cl C X.env) fp) tg (gE Γ X.K gt) := fun s H C cl fp => sg_ofS (X := X.blk s H scope (compEnvC scope cl C X.env) fp) (sc0 := scope) g.calm g.nodup (fun y hy => by
        have e1 : ∀ q, scope.names.lookup y = some q → q ≠ .free → (X.blk s H scope (compEnvC scope cl C X.env) fp).env.scope.names.lookup y = some q := fun q z n => rel_look z n
        have e2 : (X.blk s H scope (compEnvC scope cl C X.env) fp).fn y = (scope.names.lookup y == some .cell) := rfl
        rcases loc_of hy with z | z
        · exact ⟨.inl (e1 _ z (by decide)), .inr (e1 _ z (by decide))⟩
        · exact ⟨.inr (e1 _ z (by decide)), .inl (by rw [e2, z]; decide)⟩) gt tg h3
      have ht : ∀ (s : Shared) (H : Hp) (C : Addr) (cl : List (Str × Addr)) (fp : List Addr), PTs (X.blk s H scope (compEnvC scope cl C X.env) fp) ifs (tT Γ X.K (fun _ _ _ => False) (tst (evC (Γ.call n) c))) := fun s H C cl fp => sndC c (X.blk s H scope (compEnvC scope cl C X.env) fp) _ ifs (gb s H C cl fp) h6
      have he : ∀ (s : Shared) (H : Hp) (C : Addr) (cl : List (Str × Addr)) (fp : List Addr), PE (X.blk s H scope (compEnvC scope cl C X.env) fp) x (tE Γ X.K (fun _ _ _ => False) (evE (Γ.call n) elt)) := fun s H C cl fp => (snd elt (X.blk s H scope (compEnvC scope cl C X.env) fp) _ false x (gb s H C cl fp) (fun z => by cases z) h7).se.pe
      have A := sf_comp (E := E) (pos := p) g.calm g.nodup hi ok hgn hg ht he (frm_fold h5 _)
      have B := fun i y py spos hy hyl hf => st_lc (E := E) (pos := p) (i := i) (y := y) (py := py) (spos := spos) g.calm g.nodup hi ok hgn hg ht he (frm_fold h5 _) hy hyl hf
      rw [ow] at A B
      have P : PlainT X (.ListComp x [⟨tg, iter, ifs, 0⟩] scope p) := fun _ => rfl
      exact ⟨SE.of P (PE.weak A (tF_of_tE ok_comp)), (fun _ _ _ z => by cases z), fun _ => ⟨P, A⟩, fun _ => B⟩
    · cases h
  | .refused a, X, E, rf, e, g, hr, h => by
    unfold chkE at h
    split at h
    · simp only [Bool.and_eq_true, decide_eq_true_eq] at h
      obtain ⟨⟨⟨⟨⟨h1, rfl⟩, h2⟩, h3⟩, h4⟩, h5⟩ := h
      obtain ⟨c, P, nm, f, C, r1, r2, r3, r4, r5, r6, r7, r8, r9⟩ := hr h1
      have L := LamX.lamS_by h3
      have hp := noArgs_of h4
      subst hp
      refine SX.of (se_refused r1 r2 r3 (gl_of h2) r4 r5 r6 r7 r8 r9 L rfl (fun _ _ _ _ _ => rfl) fun A outer s H E' f' c' hr' => ?_) (fun _ _ _ z => by cases z)
      exact (snd a (LamX.lamCx X A outer s H E' _ f' c') E' false _ (g.lam L hr') (fun z => by cases z) h5).se.pe
    · cases h
  | .new a, X, E, rf, e, g, hr, h => by
    unfold chkE at h
    rw [Bool.and_eq_true] at h
    have A := snd a X E rf e g hr h.2
    obtain ⟨p1, p2⟩ := A.fr h.1
    refine SX.of (se_new p1 p2) (fun op vs pos z => ?_)
    subst z
    obtain ⟨h1, h2⟩ := h
    unfold frB at h1
    split at h1 <;> first | (cases h1; done) | (simp [chkE] at h2)
termination_by a => sizeOf a
decreasing_by all_goals (simp_wf; try omega)
theorem sndC : ∀ (c : Option SH.E) (X : Cx) (E : XK) (es : List Expr), Gd Γ bl X E k n → chkC Γ.toGc bl X.N X.env.scope c es = true → PTs X es (tT Γ X.K E (tst (evC (Γ.call n) c)))
  | none, X, E, [], g, h => sts_none
  | some a, X, E, [e], g, h => by
    simp only [chkC] at h
    exact sts_one (snd a X E false e g (fun z => by cases z) h).se.pt
  | none, X, E, _ :: _, g, h => by simp [chkC] at h
  | some _, X, E, [], g, h => by simp [chkC] at h
  | some _, X, E, _ :: _ :: _, g, h => by simp [chkC] at h
termination_by a => sizeOf a
decreasing_by all_goals (simp_wf; try omega)
theorem sndI : ∀ (gt : G) (it : SH.I) (X : Cx) (E : XK) (rf : Bool) (tg e : Expr), Gd Γ bl X E k n → (rf = true → RfOk Γ X k) → chkI Γ.toGc bl X.N rf X.env.scope gt it tg e = true → PI X tg e (tI Γ X.K E gt (evI (Γ.call n) it))
  | gt, .val a, X, E, rf, tg, e, g, hr, h => by
    simp only [chkI] at h
    exact si_val (snd a X E rf e g hr h).se.pe
  | gt, .rng es, X, E, rf, tg, e, g, hr, h => by
    unfold chkI at h
    split at h
    · simp only [Bool.and_eq_true, decide_eq_true_eq] at h
      obtain ⟨⟨⟨⟨rfl, h1⟩, h2⟩, h3⟩, h4⟩ := h
      exact si_rng (sndR es X E rf _ g hr h2 h3 h4) (bl_of g.md h1)
    · cases h
  | gt, .enum a, X, E, rf, tg, e, g, hr, h => by
    unfold chkI at h
    split at h
    · simp only [Bool.and_eq_true, decide_eq_true_eq] at h
      obtain ⟨⟨⟨⟨⟨rfl, h1⟩, h2⟩, h3⟩, h4⟩, h5⟩ := h
      cases tg <;> first | exact absurd h3 Bool.false_ne_true | skip
      exact si_enum (bl_of g.md h1) h2 h4 (snd a X E rf _ g hr h5).se.pe
    · cases h
  | gt, .zip a b, X, E, rf, tg, e, g, hr, h => by
    unfold chkI at h
    split at h
    · simp only [Bool.and_eq_true, decide_eq_true_eq] at h
      obtain ⟨⟨⟨⟨⟨⟨⟨rfl, h1⟩, h2⟩, h3⟩, h4⟩, h5⟩, h6⟩, h7⟩ := h
      cases tg <;> first | exact absurd h3 Bool.false_ne_true | skip
      exact si_zip (bl_of g.md h1) h2 h4 h5 (snd a X E rf _ g hr h6).se.pe (snd b X E rf _ g hr h7).se.pe
    · cases h
termination_by _ it => sizeOf it
decreasing_by all_goals (simp_wf; try omega)
theorem snds : ∀ (as : List SH.E) (X : Cx) (E : XK) (rf : Bool) (es : List Expr), Gd Γ bl X E k n → (rf = true → RfOk Γ X k) → chkEs Γ.toGc bl X.N rf X.env.scope as es = true → PA X es (tA Γ X.K E (evEs (Γ.call n) as))
  | [], X, E, rf, [], g, hr, h => sa_nil
  | a :: as, X, E, rf, e :: es, g, hr, h => by
    simp only [chkEs, Bool.and_eq_true] at h
    exact sa_cons (snd a X E rf e g hr h.1.1).se.pe (snds as X E rf es g hr h.2) (frm_star h.1.2 _ _)
  | [], X, E, rf, _ :: _, g, hr, h => by simp [chkEs] at h
  | _ :: _, X, E, rf, [], g, hr, h => by simp [chkEs] at h
termination_by a => sizeOf a
decreasing_by all_goals (simp_wf; try omega)
theorem sndK : ∀ (as : List SH.E) (X : Cx) (E : XK) (rf : Bool) (ks : List Keyword), Gd Γ bl X E k n → (rf = true → RfOk Γ X k) → chkEs Γ.toGc bl X.N rf X.env.scope as (kwVals ks) = true → PK X ks (tA Γ X.K E (evEs (Γ.call n) as))
  | [], X, E, rf, [], g, hr, h => sk_nil
  | a :: as, X, E, rf, ⟨nm, e, p⟩ :: ks, g, hr, h => by
    simp only [kwVals, chkEs, Bool.and_eq_true] at h
    exact sk_cons (snd a X E rf e g hr h.1.1).se.pe (sndK as X E rf ks g hr h.2)
  | [], X, E, rf, ⟨_, _, _⟩ :: _, g, hr, h => by simp [chkEs, kwVals] at h
  | _ :: _, X, E, rf, [], g, hr, h => by simp [chkEs, kwVals] at h
termination_by a => sizeOf a
decreasing_by all_goals (simp_wf; try omega)
theorem sndR : ∀ (as : List SH.E) (X : Cx) (E : XK) (rf : Bool) (es : List Expr), Gd Γ bl X E k n → (rf = true → RfOk Γ X k) → chkEs Γ.toGc bl X.N rf X.env.scope as es = true → es.all frm = true → (decide (es.length = 1) || decide (es.length = 2)) = true → RgE Γ X E (Γ.call n) es as
  | [], X, E, rf, [], g, hr, h, hf, hl => by simp at hl
  | [], X, E, rf, _ :: _, g, hr, h, hf, hl => by simp [chkEs] at h
  | [a], X, E, rf, [], g, hr, h, hf, hl => by simp [chkEs] at h
  | [a], X, E, rf, [e], g, hr, h, hf, hl => by
    simp only [chkEs, Bool.and_eq_true] at h
    exact .one (snd a X E rf e g hr h.1.1).se.pe h.1.2
  | [a], X, E, rf, _ :: _ :: _, g, hr, h, hf, hl => by simp [chkEs] at h
  | [a, b], X, E, rf, [], g, hr, h, hf, hl => by simp [chkEs] at h
  | [a, b], X, E, rf, [_], g, hr, h, hf, hl => by simp [chkEs] at h
  | [a, b], X, E, rf, [e, e2], g, hr, h, hf, hl => by
    simp only [chkEs, Bool.and_eq_true] at h
    exact .two (snd a X E rf e g hr h.1.1).se.pe (snd b X E rf e2 g hr h.2.1.1).se.pe h.1.2 h.2.1.2
  | [a, b], X, E, rf, _ :: _ :: _ :: _, g, hr, h, hf, hl => by simp [chkEs] at h
  | _ :: _ :: _ :: _, X, E, rf, es, g, hr, h, hf, hl => by
    have := chkEs_len h
    simp only [List.length_cons] at this
    simp only [Bool.or_eq_true, decide_eq_true_eq] at hl
    omega
termination_by a => sizeOf a
decreasing_by all_goals (simp_wf; try omega)
theorem sndO : ∀ (a : Option SH.E) (X : Cx) (E : XK) (rf : Bool) (e : Option Expr), Gd Γ bl X E k n → (rf = true → RfOk Γ X k) → chkO Γ.toGc bl X.N rf X.env.scope a e = true → PO X e (tO Γ X.K E (evO (Γ.call n) a))
  | none, X, E, rf, none, g, hr, h => so_none
  | some a, X, E, rf, some e, g, hr, h => by
    simp only [chkO] at h
    exact so_some (snd a X E rf e g hr h).se.pe
  | none, X, E, rf, some _, g, hr, h => by simp [chkO] at h
  | some _, X, E, rf, none, g, hr, h => by simp [chkO] at h
termination_by a => sizeOf a
decreasing_by all_goals (simp_wf; try omega)
end
end
end SH
end

section
set_option autoImplicit false
set_option linter.all false
set_option maxRecDepth 100000
set_option maxHeartbeats 4000000
/-! Strandhues: the checker of statements and its soundness. -/
namespace SH
open PySem PySem.Spec PyProof.Rows L2

def isLcE : Expr → Bool
  | .ListComp .. => true
  | _ => false
def locOnly (sc : Scope) (x : Str) : Bool := decide (sc.names.lookup x = some .local)
mutual
def chkS (Γ : Gc) (bl : List Str) (N : List Str) (rf : Bool) (sc : Scope) : SH.S → Stmt → Bool
  | .asg g e', st => match st with
    | .Assign [tg] e _ => if isLcE e then (match g, tg with
        | .name i, .Name y _ => (cmB e' || (match e' with
          | .new a => cmB a
          | _ => false)) && decide (N[i]? = some y) && locB sc y && chkE Γ bl N rf sc e' e
        | _, _ => false)
      else tgC N sc g tg && chkE Γ bl N rf sc e' e && notLc e && (!isTupE tg || !isTupE e)
    | _ => false
  | .par is es', st => match st with
    | .Assign [.Tuple ts kt pt] (.Tuple es k2 p2) _ => (match is, es', ts, es with
        | [i, j], [a', b'], [.Name x px, .Name y py], [a, b] => decide (N[i]? = some x) && decide (N[j]? = some y) && !decide (i = j) && locOnly sc x && locOnly sc y && decide (py.line = px.line) && frm a && frm b &&
            !(foldedForSure 8 a && foldedForSure 8 b) && !(constantsAlone 8 a && constantsAlone 8 b) && chkE Γ bl N rf sc a' a && chkE Γ bl N rf sc b' b
        | [i, j, l], [a', b', c'], [.Name x px, .Name y py, .Name z pz], [a, b, c] => decide (N[i]? = some x) && decide (N[j]? = some y) && decide (N[l]? = some z) && !decide (i = j) && !decide (i = l) && !decide (j = l) && locOnly sc x && locOnly sc y && locOnly sc z &&
            decide (py.line = px.line) && decide (pz.line = px.line) && frm a && frm b && frm c && !(foldedForSure 8 a && (foldedForSure 8 b && foldedForSure 8 c)) && !(constantsAlone 8 a && (constantsAlone 8 b && constantsAlone 8 c)) &&
            chkE Γ bl N rf sc a' a && chkE Γ bl N rf sc b' b && chkE Γ bl N rf sc c' c
        | _, _, _, _ => false) ||
      (tgC N sc (.tup (is.map G.name)) (.Tuple ts kt pt) && chkE Γ bl N rf sc (.tup es') (.Tuple es k2 p2) && (es.all (foldedForSure 8) || (ts.any (offLoc sc) || !(ts.length == 2 || ts.length == 3))))
    | _ => false
  | .aug i op e', st => match st with
    | .AugAssign (.Name x _) o e _ => decide (N[i]? = some x) && locB sc x && (match op, o with
        | .add, .Add => true
        | .sub, .Sub => true
        | _, _ => false) && chkE Γ bl N rf sc e' e
    | _ => false
  | .setI x i e', st => match st with
    | .Assign [.Subscript o ix _] e _ => frm ix && chkE Γ bl N rf sc x o && chkE Γ bl N rf sc i ix && chkE Γ bl N rf sc e' e && notLc e
    | _ => false
  | .app x e', st => match st with
    | .Expr (.Call (.Attribute o nm apos) [e] [] cpos) _ => decide (nm = Str.ofString "append") && baseOk o && frm e && (apos.endLine == cpos.line) && chkE Γ bl N rf sc x o && chkE Γ bl N rf sc e' e
    | _ => false
  | .ext x e', st => match st with
    | .Expr (.Call (.Attribute o nm apos) [e] [] cpos) _ => decide (nm = Str.ofString "extend") && baseOk o && frm e && (apos.endLine == cpos.line) && chkE Γ bl N rf sc x o && chkE Γ bl N rf sc e' e
    | _ => false
  | .drop e', st => match st with
    | .Expr e _ => notLc e && chkE Γ bl N rf sc e' e
    | _ => false
  | .ret e', st => match st with
    | .Return (some e) _ => chkE Γ bl N rf sc e' e
    | _ => false
  | .retN, st => match st with
    | .Return none _ => true
    | _ => false
  | .ite c a b, st => match st with
    | .If c1 a1 b1 _ => chkE Γ bl N rf sc c c1 && chkSs Γ bl N rf sc a a1 && chkSs Γ bl N rf sc b b1
    | _ => false
  | .forS g it body, st => match st with
    | .For tg iter b1 [] _ => tgC N sc g tg && chkI Γ bl N rf sc g it tg iter && frm iter && chkSs Γ bl N rf sc body b1
    | _ => false
  | .whileS c body, st => match st with
    | .While c1 b1 [] _ => chkE Γ bl N rf sc c c1 && chkSs Γ bl N rf sc body b1
    | _ => false
  | .brk, st => match st with
    | .Break _ => true
    | _ => false
  | .cnt, st => match st with
    | .Continue _ => true
    | _ => false
  | .pass, st => match st with
    | .Pass _ => true
    | _ => false
  | .raise c e', st => match st with
    | .Raise (some (.Call (.Name nm _) [a] [] _)) none _ => (match Γ.exn[c]? with
      | some p => decide (p.1 = nm)
      | none => false) && glB sc nm && frm a && chkE Γ bl N rf sc e' a
    | _ => false
  | .freeze _, _ => false
def chkSs (Γ : Gc) (bl : List Str) (N : List Str) (rf : Bool) (sc : Scope) : List SH.S → List Stmt → Bool
  | [], st => (match st with
    | [] => true
    | _ => false)
  | s' :: ss', st => (match s' with
    | .freeze _ => chkSs Γ bl N rf sc ss' st
    | _ => false) || (match st with
      | s :: ss => chkS Γ bl N rf sc s' s && chkSs Γ bl N rf sc ss' ss
      | [] => false)
end
/-- a def's frame -/
structure Gs (Γ : Ga) (bl : List Str) (X : Cx) (E : XK) (k n : Nat) : Prop extends Gd Γ bl X E k n where
  po : PassesOwn (model X.prog X.w) X.A X.env X.xe
  fnc : ∀ x, X.env.scope.names.lookup x = some .cell → X.fn x = true
  kind : X.env.scope.kind = .function
  exc : ∀ (c : Nat) (nm f : Str) (C : Addr), Γ.excAt c = some (nm, f, C) → BadTxt X.K X.mg X.prog nm f C ∧ (f = Str.ofString "name" ∨ f = Str.ofString "word" ∨ f = Str.ofString "line") ∧ (nm == ("__debug__" : Str)) = false
theorem sw_no {e : Expr} {t : Option Expr} {l : Nat} {env : PySem.Env} (h : notLc e = true) : swapsWith e t l env = pure false := by
  cases e <;> first | rfl | exact absurd h Bool.false_ne_true
theorem sws_no {tg e : Expr} {l : Nat} {env : PySem.Env} (h : notLc e = true) : swapsWithSole [tg] e l env = pure false := sw_no h
theorem swp_no {tg e : Expr} {env : PySem.Env} (hg : (∃ x p, tg = .Name x p) ∨ ∃ es k p, tg = .Tuple es k p) (h : (!isTupE tg || !isTupE e) = true) : swappedStores [tg] e env = pure none := by
  rcases hg with ⟨x, p, rfl⟩ | ⟨es, k, p, rfl⟩
  · cases e <;> rfl
  · cases e <;> first | rfl | exact absurd h Bool.false_ne_true
theorem asg_one {tg : Expr} {env : PySem.Env} (hg : (∃ x p, tg = .Name x p) ∨ ∃ es k p, tg = .Tuple es k p) : (assignEach [tg] env).map (·.2) = [assign tg env] := by
  rcases hg with ⟨x, p, rfl⟩ | ⟨es, k, p, rfl⟩ <;> rfl
theorem lcOnly_of {sc : Scope} {x : Str} (h : locOnly sc x = true) : sc.names.lookup x = some .local := of_decide_eq_true h
theorem isLc_form {e : Expr} (h : isLcE e = true) : ∃ a g s p, e = .ListComp a g s p := by
  cases e <;> first | exact ⟨_, _, _, _, rfl⟩ | exact absurd h Bool.false_ne_true
section
variable {Γ : Ga} {bl : List Str} {k n wh : Nat}
mutual
theorem sndS : ∀ (s' : SH.S) (X : Cx) (E : XK) (rf : Bool) (s : Stmt), Gs Γ bl X E k n → (rf = true → RfOk Γ X k) → chkS Γ.toGc bl X.N rf X.env.scope s' s = true → PS X s (tS Γ X.K E (evS (Γ.call n) wh s'))
  | .asg gt e', X, E, rf, s, g, hr, h => by
    unfold chkS at h
    split at h
    · rename_i tg e pos
      split at h
      · rename_i hlc
        split at h
        · rename_i i y py
          simp only [Bool.and_eq_true, decide_eq_true_eq] at h
          obtain ⟨⟨⟨h1, h2⟩, h3⟩, h4⟩ := h
          have hl := loc_of h3
          have hf : X.fn y = true ∨ X.env.scope.names.lookup y = some .local := hl.elim (fun z => .inr z) fun z => .inl (g.fnc y z)
          rw [Bool.or_eq_true] at h1
          rcases h1 with h1 | h1
          · have A := (snd e' X E rf e g.toGd hr h4).st h1 i y py pos h2 hl hf
            cases e' <;> first | (cases h1; done) | skip
            exact PS.weak A (asgN_of fun σ H Q q => tF_of_tE ok_comp σ H Q q)
          · split at h1
            · rename_i a
              unfold chkE at h4
              rw [Bool.and_eq_true] at h4
              exact PS.weak ((snd a X E rf e g.toGd hr h4.2).st h1 i y py pos h2 hl hf) (asgN_of new_of)
            · cases h1
        · cases h
      · simp only [Bool.and_eq_true] at h
        obtain ⟨⟨⟨h1, h2⟩, h3⟩, h4⟩ := h
        have fm := tgC_form h1
        exact st_asg (snd e' X E rf e g.toGd hr h2).se.pe (sg_of g.calm g.nodup g.fnc gt tg h1) (sws_no h3) (swp_no fm h4) (asg_one fm)
    · cases h
  | .par is es', X, E, rf, s, g, hr, h => by
    unfold chkS at h
    split at h
    · rename_i ts kt pt es k2 p2 pos
      rw [Bool.or_eq_true] at h
      rcases h with h | h
      · split at h
        · simp only [Bool.and_eq_true, decide_eq_true_eq, Bool.not_eq_true', decide_eq_false_iff_not] at h
          obtain ⟨⟨⟨⟨⟨⟨⟨⟨⟨⟨⟨h1, h2⟩, h3⟩, h4⟩, h5⟩, h6⟩, h7⟩, h8⟩, h9⟩, h10⟩, h11⟩, h12⟩ := h
          exact st_par2 g.calm g.nodup h1 h2 h3 g.kind (lcOnly_of h4) (lcOnly_of h5) h6 (snd _ X E rf _ g.toGd hr h11).se.pe (snd _ X E rf _ g.toGd hr h12).se.pe h7 h8 h9 h10
        · simp only [Bool.and_eq_true, decide_eq_true_eq, Bool.not_eq_true', decide_eq_false_iff_not] at h
          obtain ⟨⟨⟨⟨⟨⟨⟨⟨⟨⟨⟨⟨⟨⟨⟨⟨⟨⟨h1, h2⟩, h3⟩, h4⟩, h5⟩, h6⟩, h7⟩, h8⟩, h9⟩, h10⟩, h11⟩, h12⟩, h13⟩, h14⟩, h15⟩, h16⟩, h17⟩, h18⟩, h19⟩ := h
          exact st_par3 g.calm g.nodup h1 h2 h3 h4 h5 h6 g.kind (lcOnly_of h7) (lcOnly_of h8) (lcOnly_of h9) h10 h11 (snd _ X E rf _ g.toGd hr h17).se.pe (snd _ X E rf _ g.toGd hr h18).se.pe (snd _ X E rf _ g.toGd hr h19).se.pe h12 h13 h14 h15 h16
        · cases h
      · simp only [Bool.and_eq_true] at h
        obtain ⟨⟨h1, h2⟩, h3⟩ := h
        refine st_parG (snd (.tup es') X E rf _ g.toGd hr h2).se.pe (sg_of g.calm g.nodup g.fnc _ _ h1) rfl ?_ rfl
        rw [Bool.or_eq_true, Bool.or_eq_true, Bool.not_eq_true'] at h3
        rcases h3 with h3 | h3
        · exact sw_fold h3
        · exact sw_none h3
    · cases h
  | .aug i op e', X, E, rf, s, g, hr, h => by
    unfold chkS at h
    split at h
    · simp only [Bool.and_eq_true, decide_eq_true_eq] at h
      obtain ⟨⟨⟨h1, h2⟩, h3⟩, h4⟩ := h
      have hl := loc_of h2
      have hf := fun y => g.fnc y
      split at h3
      · exact st_augA g.nodup h1 hl (hl.elim (fun z => .inr z) fun z => .inl (hf _ z)) (snd e' X E rf _ g.toGd hr h4).se.pe
      · exact st_augS g.nodup h1 hl (hl.elim (fun z => .inr z) fun z => .inl (hf _ z)) (snd e' X E rf _ g.toGd hr h4).se.pe
      · cases h3
    · cases h
  | .setI x i e', X, E, rf, s, g, hr, h => by
    unfold chkS at h
    split at h
    · simp only [Bool.and_eq_true] at h
      obtain ⟨⟨⟨⟨h1, h2⟩, h3⟩, h4⟩, h5⟩ := h
      exact st_setI (snd x X E rf _ g.toGd hr h2).se.pe (snd i X E rf _ g.toGd hr h3).se.pe (snd e' X E rf _ g.toGd hr h4).se.pe h1 (sws_no h5)
    · cases h
  | .app x e', X, E, rf, s, g, hr, h => by
    unfold chkS at h
    split at h
    · simp only [Bool.and_eq_true, decide_eq_true_eq] at h
      obtain ⟨⟨⟨⟨⟨rfl, h1⟩, h2⟩, h3⟩, h4⟩, h5⟩ := h
      exact st_app (snd x X E rf _ g.toGd hr h4).se.pe (snd e' X E rf _ g.toGd hr h5).se.pe h1 h2 h3
    · cases h
  | .ext x e', X, E, rf, s, g, hr, h => by
    unfold chkS at h
    split at h
    · simp only [Bool.and_eq_true, decide_eq_true_eq] at h
      obtain ⟨⟨⟨⟨⟨rfl, h1⟩, h2⟩, h3⟩, h4⟩, h5⟩ := h
      exact st_ext (snd x X E rf _ g.toGd hr h4).se.pe (snd e' X E rf _ g.toGd hr h5).se.pe h1 h2 h3
    · cases h
  | .drop e', X, E, rf, s, g, hr, h => by
    unfold chkS at h
    split at h
    · simp only [Bool.and_eq_true] at h
      exact st_drop (snd e' X E rf _ g.toGd hr h.2).se.pe (sw_no h.1)
    · cases h
  | .ret e', X, E, rf, s, g, hr, h => by
    unfold chkS at h
    split at h
    · exact st_ret (snd e' X E rf _ g.toGd hr h).se.pe
    · cases h
  | .retN, X, E, rf, s, g, hr, h => by
    unfold chkS at h
    split at h
    · exact st_retN
    · cases h
  | .ite c a b, X, E, rf, s, g, hr, h => by
    unfold chkS at h
    split at h
    · simp only [Bool.and_eq_true] at h
      exact st_ite (snd c X E rf _ g.toGd hr h.1.1).se.pt (sndSs a X E rf _ g hr h.1.2) (sndSs b X E rf _ g hr h.2)
    · cases h
  | .forS gt it body, X, E, rf, s, g, hr, h => by
    unfold chkS at h
    split at h
    · simp only [Bool.and_eq_true] at h
      obtain ⟨⟨⟨h1, h2⟩, h3⟩, h4⟩ := h
      exact st_for g.po g.calm (sndI gt it X E rf _ _ g.toGd hr h2) (sg_of g.calm g.nodup g.fnc gt _ h1) (sndSs body X E rf _ g hr h4) h3
    · cases h
  | .whileS c body, X, E, rf, s, g, hr, h => by
    unfold chkS at h
    split at h
    · simp only [Bool.and_eq_true] at h
      exact st_while g.po (snd c X E rf _ g.toGd hr h.1).se.pt (sndSs body X E rf _ g hr h.2)
    · cases h
  | .brk, X, E, rf, s, g, hr, h => by
    unfold chkS at h
    split at h
    · exact st_brk
    · cases h
  | .cnt, X, E, rf, s, g, hr, h => by
    unfold chkS at h
    split at h
    · exact st_cnt
    · cases h
  | .pass, X, E, rf, s, g, hr, h => by
    unfold chkS at h
    split at h
    · exact st_pass
    · cases h
  | .raise c e', X, E, rf, s, g, hr, h => by
    unfold chkS at h
    split at h
    · simp only [Bool.and_eq_true] at h
      obtain ⟨⟨⟨h1, h2⟩, h3⟩, h4⟩ := h
      split at h1
      · rename_i p hx
        have h1 := of_decide_eq_true h1
        subst h1
        have hx : Γ.excAt c = some (p.1, p.2, Γ.ca c) := by unfold Ga.excAt; rw [hx]
        obtain ⟨b1, b2, b3⟩ := g.exc c _ _ _ hx
        exact st_raise g.calm b1 b2 hx g.room g.tk (snd e' X E rf _ g.toGd hr h4).se.pe h3 (gl_of h2) b3
      · cases h1
    · cases h
  | .freeze i, X, E, rf, s, g, hr, h => by
    unfold chkS at h
    cases h
theorem sndSs : ∀ (ss' : List SH.S) (X : Cx) (E : XK) (rf : Bool) (ss : List Stmt), Gs Γ bl X E k n → (rf = true → RfOk Γ X k) → chkSs Γ.toGc bl X.N rf X.env.scope ss' ss = true → PSs X ss (tS Γ X.K E (evSs (Γ.call n) wh ss'))
  | [], X, E, rf, ss, g, hr, h => by
    unfold chkSs at h
    split at h
    · exact st_nil
    · cases h
  | s' :: ss', X, E, rf, ss, g, hr, h => by
    unfold chkSs at h
    rw [Bool.or_eq_true] at h
    rcases h with h | h
    · split at h
      · exact st_freeze (sndSs ss' X E rf ss g hr h)
      · cases h
    · split at h
      · rw [Bool.and_eq_true] at h
        exact st_cons (sndS s' X E rf _ g hr h.1) (sndSs ss' X E rf _ g hr h.2)
      · cases h
end
end
end SH
end

section
set_option autoImplicit false
set_option linter.all false
set_option maxRecDepth 100000
set_option maxHeartbeats 4000000
/-! Strandhues: each def of the text keeps its promise. -/
namespace SH
open PySem PySem.Spec PyProof.Rows L2

section
variable {K : PySem.W.Frag}
/-! ### fewer cells -/
mutual
theorem Rep.few {ι ι' : Io} {H : Hp} {n : Nat} (f : ∀ a, ι.no a → ι'.no a) (g : ∀ (i : Nat) (o : Option Addr), i < n → ι.cs[i]? = some o → ι'.cs[i]? = some o) : ∀ (t : T) (v : V), below n t = true → Rep K ι H t v → Rep K ι' H t v
  | .non, _, _, q => by simpa only [Rep] using q
  | .bl _, _, _, q => by simpa only [Rep] using q
  | .int _, _, _, q => by simpa only [Rep] using q
  | .str _, _, _, q => by simpa only [Rep] using q
  | .tup xs, v, b, q => by
    simp only [Rep] at q ⊢
    simp only [below] at b
    obtain ⟨a, vs, e, s, l, q⟩ := q
    exact ⟨a, vs, e, s, l, Reps.few f g xs vs b q⟩
  | .lst xs, v, b, q => by
    simp only [Rep] at q ⊢
    simp only [below] at b
    obtain ⟨a, vs, e, s, m, l, q⟩ := q
    exact ⟨a, vs, e, s, f a m, l, Reps.few f g xs vs b q⟩
  | .scr ns, v, _, q => by
    simp only [Rep] at q ⊢
    obtain ⟨a, e, s, l⟩ := q
    exact ⟨a, e, s.imp id (Or.imp (fun ⟨s, m⟩ => ⟨s, f a m⟩) id), l⟩
  | .ref i, v, b, q => by
    simp only [Rep] at q ⊢
    simp only [below, decide_eq_true_eq] at b
    cases e : ι.cs[i]? with
    | none => rw [e] at q; exact q.elim
    | some o =>
      rw [e] at q
      rw [g i o b e]
      exact q
  | .fn _, _, _, q => by simp only [Rep] at q
theorem Reps.few {ι ι' : Io} {H : Hp} {n : Nat} (f : ∀ a, ι.no a → ι'.no a) (g : ∀ (i : Nat) (o : Option Addr), i < n → ι.cs[i]? = some o → ι'.cs[i]? = some o) : ∀ (ts : List T) (vs : List V), belows n ts = true → Reps K ι H ts vs → Reps K ι' H ts vs
  | [], [], _, _ => by simp only [Reps]
  | x :: xs, v :: vs, b, q => by
    simp only [Reps] at q ⊢
    simp only [belows, Bool.and_eq_true] at b
    exact ⟨Rep.few f g x v b.1 q.1, Reps.few f g xs vs b.2 q.2⟩
  | [], _ :: _, _, q => by simp only [Reps] at q
  | _ :: _, [], _, q => by simp only [Reps] at q
end
theorem cut_at {ι : Io} {n i : Nat} {o : Option Addr} (z : (ι.cut n).cs[i]? = some o) : i < n ∧ ι.cs[i]? = some o := by
  have z : (ι.cs.take n)[i]? = some o := z
  rw [List.getElem?_take] at z
  split at z
  · exact ⟨by assumption, z⟩
  · cases z
theorem cut_get {ι : Io} {n i : Nat} {o : Option Addr} (h : i < n) (e : ι.cs[i]? = some o) : (ι.cut n).cs[i]? = some o := by
  show (ι.cs.take n)[i]? = some o
  rw [List.getElem?_take_of_lt h]
  exact e
theorem no_cut {ι : Io} {n : Nat} {a : Addr} (h : ι.no a) : (ι.cut n).no a := ⟨fun i z => h.1 i (cut_at z).2, h.2⟩
theorem Fr.cut {ι ι' : Io} {H H' : Hp} {n : Nat} (hn : ι.cs.length = n) (f : Fr ι H ι' H') : Fr ι H (ι'.cut n) H' := by
  refine ⟨⟨fun i a z => f.ext i a (cut_at z).2, fun i o e => ?_, f.keep, f.trk, f.hx⟩, f.hid⟩
  have hi : i < n := by rw [← hn]; exact (List.getElem?_eq_some_iff.mp e).1
  rcases f.old i o e with z | z
  · exact .inl (cut_get hi z)
  · exact .inr (cut_get hi z)
/-- the first n cells, and one more that is handed back -/
theorem HR.keep1 {ι : Io} {h : Hs} {H : Hp} {n a : Nat} {p : Addr} {xs : List T} (r : HR K ι h H) (hna : n ≤ a) (ea : ι.cs[a]? = some (some p)) (eh : h[a]? = some (.lst xs)) (b : belows n xs = true) :
    HR K ⟨ι.cs.take n ++ [some p], ι.hid⟩ (h.take n ++ [.lst xs]) H := by
  have hal := (List.getElem?_eq_some_iff.mp ea).1
  have hl : (ι.cs.take n).length = n := by rw [List.length_take]; omega
  have hl2 : (h.take n).length = n := by rw [List.length_take, ← r.len]; omega
  have at1 : ∀ {i : Nat} {o : Option Addr}, (ι.cs.take n ++ [some p])[i]? = some o → (i < n ∧ ι.cs[i]? = some o) ∨ (i = n ∧ o = some p) := fun {i o} z => by
    rcases push_at z with ⟨z, _⟩ | ⟨z1, z2⟩
    · exact .inl (cut_at (ι := ι) z)
    · exact .inr ⟨by rw [z1, hl], z2⟩
  have no1 : ∀ c, ι.no c → Io.no ⟨ι.cs.take n ++ [some p], ι.hid⟩ c := fun c hc => ⟨fun i z => by
    rcases at1 z with ⟨_, z⟩ | ⟨_, z⟩
    · exact hc.1 i z
    · cases z; exact hc.1 a ea, hc.2⟩
  have get1 : ∀ (i : Nat) (o : Option Addr), i < n → ι.cs[i]? = some o → (⟨ι.cs.take n ++ [some p], ι.hid⟩ : Io).cs[i]? = some o := fun i o hi e => by
    show (ι.cs.take n ++ [some p])[i]? = some o
    rw [List.getElem?_append_left (by rw [hl]; exact hi)]
    exact cut_get (ι := ι) hi e
  refine ⟨by simp [hl, hl2], fun i j c e1 e2 => ?_, fun i c e1 => ?_, fun i ys e1 => ?_, r.hidT, fun i c e1 => ?_⟩
  · rcases at1 e1 with ⟨h1, z1⟩ | ⟨h1, z1⟩ <;> rcases at1 e2 with ⟨h2, z2⟩ | ⟨h2, z2⟩
    · exact r.inj i j c z1 z2
    · cases z2; exact absurd (r.inj i a p z1 ea) (by omega)
    · cases z1; exact absurd (r.inj j a p z2 ea) (by omega)
    · omega
  · rcases at1 e1 with ⟨h1, z1⟩ | ⟨h1, z1⟩
    · exact r.live i c z1
    · cases z1; exact r.live a p ea
  · by_cases hi : i < n
    · rw [List.getElem?_append_left (by rw [hl2]; exact hi), List.getElem?_take_of_lt hi] at e1
      obtain ⟨c, vs, f1, f2, l, q, b2⟩ := r.lst i ys e1
      exact ⟨c, vs, get1 i _ hi f1, f2, l, Reps.few no1 get1 _ _ (belows_le (by omega) _ b2) q, b2⟩
    · rw [List.getElem?_append_right (by rw [hl2]; omega), hl2] at e1
      have h0 : i - n = 0 := by
        cases q0 : i - n with
        | zero => rfl
        | succ k => rw [q0] at e1; simp at e1
      rw [h0] at e1
      simp at e1
      subst e1
      obtain ⟨c, vs, f1, f2, l, q, b2⟩ := r.lst a xs eh
      rw [ea] at f1
      cases f1
      have hin : i = n := by omega
      subst hin
      refine ⟨p, vs, ?_, f2, l, Reps.few no1 get1 _ _ b q, b⟩
      show (ι.cs.take i ++ [some p])[i]? = _
      rw [List.getElem?_append_right (by rw [hl]; exact Nat.le_refl _), hl]
      simp
  · rcases at1 e1 with ⟨h1, z1⟩ | ⟨h1, z1⟩
    · exact r.off i c z1
    · cases z1; exact r.off a p ea
end

section
variable {Γ : Ga} {K : PySem.W.Frag} {E : XK} {ι : Io} {h : Hs} {H : Hp}
/-- what a body hands back, as the call's end -/
theorem fin_of {fr : Bool} {n : Nat} {t : T} {h' : Hs} {Q : VK} (hn : ι.cs.length = n) (p : PostG Γ K E ι H (Rep K) (finT fr n t h') Q) : ∀ (ι' : Io) (H' : Hp) (v : V), WS Γ K ι' h' H' → Fr ι H ι' H' → Rep K ι' H' t v → Q v H' := by
  intro ι' H' v w f r
  have hcut : ∀ u, below n u = true → Rep K ι' H' u v → Rep K (ι'.cut n) H' u v := fun u b q => Rep.few (fun a z => no_cut z) (fun i o hi e => cut_get hi e) u v b q
  have wc : WS Γ K (ι'.cut n) (h'.take n) H' := ⟨w.hr.cut n, w.tb⟩
  have plain : okD 60 t = true → PostG Γ K E ι H (Rep K) (.ok t (h'.take n)) Q → Q v H' := fun ok p => p _ _ _ wc (f.cut hn) (hcut t (below_okD 60 t n ok) r)
  unfold finT at p
  cases fr with
  | false =>
    simp only [Bool.false_eq_true, if_false] at p
    cases t with
    | ref a =>
      simp only at p
      split at p
      · rename_i ha
        exact p _ _ _ wc (f.cut hn) (hcut (.ref a) (by simp only [below, decide_eq_true_eq]; exact ha) r)
      · rename_i ha
        split at p
        · rename_i xs hx
          split at p
          · rename_i ok
            obtain ⟨ad, vs, rfl, ea, eh, l, q, b⟩ := cell_rep w r hx
            refine p _ _ _ wc (f.cut hn) ?_
            simp only [Rep]
            refine ⟨ad, vs, rfl, eh, ⟨fun i z => ?_, w.hr.off a ad ea⟩, l, Reps.few (fun a z => no_cut z) (fun i o hi e => cut_get hi e) _ _ (belows_okD 59 _ n ok) q⟩
            obtain ⟨hi, z⟩ := cut_at z
            exact ha (by rw [← w.hr.inj i a ad z ea]; exact hi)
          · exact p.elim
        · exact p.elim
    | _ =>
      simp only at p
      split at p
      · rename_i ok
        exact plain ok p
      · exact p.elim
  | true =>
    simp only [if_true] at p
    cases t with
    | ref a =>
      simp only at p
      split at p
      · rename_i ha
        split at p
        · rename_i xs hx
          split at p
          · rename_i ok
            obtain ⟨ad, vs, rfl, ea, eh, l, q, b⟩ := cell_rep w r hx
            have hal := (List.getElem?_eq_some_iff.mp ea).1
            have hl : (ι'.cs.take n).length = n := by rw [List.length_take]; omega
            refine p ⟨ι'.cs.take n ++ [some ad], ι'.hid⟩ H' _ ⟨w.hr.keep1 ha ea hx (belows_okD 59 _ n ok), w.tb⟩ ⟨⟨fun i c z => ?_, fun i o e => ?_, f.keep, f.trk, f.hx⟩, f.hid⟩ ?_
            · rcases push_at z with ⟨z, _⟩ | ⟨_, z⟩
              · exact f.ext i c (cut_at (ι := ι') z).2
              · cases z
                rcases f.ext a ad ea with y | y
                · exact absurd (List.getElem?_eq_some_iff.mp y).1 (by omega)
                · exact .inr y
            · have hi : i < n := by rw [← hn]; exact (List.getElem?_eq_some_iff.mp e).1
              have g : ∀ o', ι'.cs[i]? = some o' → (ι'.cs.take n ++ [some ad])[i]? = some o' := fun o' e' => by
                rw [List.getElem?_append_left (by rw [hl]; exact hi)]
                exact cut_get (ι := ι') hi e'
              rcases f.old i o e with z | z
              · exact .inl (g _ z)
              · exact .inr (g _ z)
            · simp only [Rep]
              have : (ι'.cs.take n ++ [some ad])[n]? = some (some ad) := by
                rw [List.getElem?_append_right (by rw [hl]; exact Nat.le_refl _), hl]
                simp
              rw [this]
          · exact p.elim
        · exact p.elim
      · exact p.elim
    | _ => exact p.elim
theorem start_env {fd : FD} {xs : List T} {vs : List V} (r : Reps K ι H xs vs) : EnvR K ι H (startT fd xs) (L2.start fd.names vs) := by
  refine ⟨by unfold startT L2.start; simp [r.length], fun i t e => ?_⟩
  unfold startT at e
  by_cases hi : i < xs.length
  · rw [List.getElem?_append_left (by simpa using hi), List.getElem?_map] at e
    cases ex : xs[i]? with
    | none => rw [ex] at e; cases e
    | some x =>
      rw [ex] at e
      cases e
      obtain ⟨v, hv, rv⟩ := r.get ex
      refine ⟨v, ?_, rv⟩
      unfold L2.start
      rw [List.getElem?_append_left (by rw [List.length_map, ← r.length]; exact hi), List.getElem?_map, hv]
      rfl
  · rw [List.getElem?_append_right (by simpa using hi), List.getElem?_replicate] at e
    split at e <;> cases e
/-- the body's reading, of the call's -/
theorem body_of {n f : Nat} {fd : FD} {xs : List T} {vs : List V} {Q : VK} (hf : Γ.Φ[f]? = some fd) (w : WS Γ K ι h H) (r : Reps K ι H xs vs) (hl : xs.length = fd.params.length) (p : PostG Γ K E ι H (Rep K) (callN Γ.Φ Γ.w (n + 1) f xs h) Q) :
    tS Γ K E (evSs (Γ.call n) Γ.w fd.body) { nx := fun _ H' => Q .non H', rt := Q } (L2.start fd.names vs) H := by
  refine ⟨ι, startT fd xs, h, w, start_env r, ?_⟩
  have hn : ι.cs.length = h.length := w.hr.len
  simp only [callN, hf] at p
  rw [if_pos hl] at p
  show PostO Γ K E ι H (evSs (callN Γ.Φ Γ.w n) Γ.w fd.body (startT fd xs) h) _
  cases eo : evSs (callN Γ.Φ Γ.w n) Γ.w fd.body (startT fd xs) h with
  | nx σ h' =>
    rw [eo] at p
    exact fun ι' H' σ' w' f' _ => fin_of hn p ι' H' _ w' f' (by simp only [Rep])
  | rt t h' =>
    rw [eo] at p
    exact fun ι' H' v w' f' r' => fin_of hn p ι' H' v w' f' r'
  | bk σ h' => rw [eo] at p; exact p.elim
  | ct σ h' => rw [eo] at p; exact p.elim
  | ex c a h' =>
    rw [eo] at p
    simp only at p
    split at p
    · rename_i ok
      intro ι' H' cls d w' f' x
      obtain ⟨nm, fl, C, dx, v, e1, e2, e3, e4, e5⟩ := x
      refine p (ι'.cut h.length) H' cls d ⟨w'.hr.cut _, w'.tb⟩ (f'.cut hn) ⟨nm, fl, C, dx, v, e1, e2, e3, e4, ?_⟩
      exact Rep.few (fun a z => no_cut z) (fun i o hi e => cut_get hi e) a v (below_okD 60 a _ ok) e5
    · exact p.elim
  | bad => rw [eo] at p; exact p.elim
end
/-- a docstring ahead -/
def unDoc : List Stmt → List Stmt
  | .Expr (.Constant (.str _) _ _) _ :: r => r
  | l => l
theorem pss_doc {X : Cx} {ss : List Stmt} {t : TS} (h : PSs X (unDoc ss) t) : PSs X ss t := by
  unfold unDoc at h
  split at h
  · exact PSs.weak (pss_cons ps_doc h) fun D σ H q => q
  · exact h
/-- what the written part says of a def: where it stands, its text, and that this is what the own text says -/
structure FnT (Γ : Ga) (bl : List Str) (P : Program) (K : PySem.W.Frag) (mg : Str → Option Value) (base : Heap) (f : Nat) (fd : FD) : Prop where
  ex : ∃ (a : Addr) (oc : Value) (od : Option Addr) (name qual : Str) (params : Arguments) (body : List Stmt) (scope : Scope) (dV kV doc pm cdv ct : Value) (an : Option Addr) (osl : Array (Option Value)) (rf : Bool),
    mg fd.name = some (.ref a) ∧ PySem.W.keepIn K (.ref a) = true ∧ K.lookup a = some ⟨oc, od, .func (PySem.W.fnOf name qual params body scope dV kV doc pm an cdv ct), osl⟩ ∧ PySem.W.codeIn K cdv qual = true ∧
    Binds K (PySem.W.fnOf name qual params body scope dV kV doc pm an cdv ct) fd.params [] ∧ (∀ np ks perm, (f, np, ks, perm) ∈ Γ.kw → KBinds K (PySem.W.fnOf name qual params body scope dV kV doc pm an cdv ct) fd.params ks (kwG .none np ks.length perm) (kwG .non np ks.length perm)) ∧
    FnScope fd.names fd.params scope ∧ chkSs Γ.toGc bl fd.names rf scope fd.body (unDoc body) = true ∧
    (rf = true → ∃ (c Pt : Addr) (nm fl : Str) (C : Addr), Γ.excAt 0 = some (nm, fl, C) ∧ RefTxt K mg base nm fl ∧ LamX.TabB base mg c Pt ∧ cdv = .ref c ∧ (Pt, qual ++ ".<locals>." ++ "<lambda>") ∈ Γ.Tb ∧ (∀ p ∈ Γ.Tb, p.1 = Pt → p.2 = qual ++ ".<locals>." ++ "<lambda>"))
/-- all of the text -/
structure TxT (Γ : Ga) (bl : List Str) (P : Program) (K : PySem.W.Frag) (mg : Str → Option Value) (base : Heap) : Prop where
  md : Md Γ K mg bl
  exc : ∀ (c : Nat) (nm f : Str) (C : Addr), Γ.excAt c = some (nm, f, C) → BadTxt K mg P nm f C ∧ (f = Str.ofString "name" ∨ f = Str.ofString "word" ∨ f = Str.ofString "line") ∧ (nm == ("__debug__" : Str)) = false
  fns : ∀ f fd, Γ.Φ[f]? = some fd → FnT Γ bl P K mg base f fd
theorem fns_ok {Γ : Ga} {bl : List Str} {P : Program} {w : World} {K : PySem.W.Frag} {mg : Str → Option Value} {base : Heap} (T : TxT Γ bl P K mg base) : ∀ n, FnsOk Γ P w K mg base (3 * n) n
  | 0, f, fd, hf => by
    obtain ⟨a, oc, od, name, qual, params, body, scope, dV, kV, doc, pm, cdv, ct, an, osl, rf, h1, h2, h3, h4, h5, h6, h7, h8, h9⟩ := (T.fns f fd hf).ex
    refine ⟨a, _, ⟨⟨spF_len, fun A outer s H args us vs Q E _ _ _ _ hs => ?_⟩, h1, h2, h5, h6, ⟨oc, od, osl, h3⟩⟩⟩
    obtain ⟨ι, h, xs, _, _, _, p⟩ := hs
    exact p.elim
  | n + 1, f, fd, hf => by
    obtain ⟨a, oc, od, name, qual, params, body, scope, dV, kV, doc, pm, cdv, ct, an, osl, rf, h1, h2, h3, h4, h5, h6, h7, h8, h9⟩ := (T.fns f fd hf).ex
    refine ⟨a, _, ⟨?_, h1, h2, h5, h6, ⟨oc, od, osl, h3⟩⟩⟩
    have F := fn_of (CX := L2.CX P w) (P := P) (w := w) (mg := mg) (base := base) (k := 3 * n + 2) (N := fd.names) (ps := fd.params) (sp := spF Γ K (n + 1) f fd) h3 h4 h7 spF_len (fun A outer s H vs Q E hr hs => ?_)
    · exact F
    · obtain ⟨ι, h, xs, w', r, hl, p⟩ := hs
      refine ⟨_, pss_doc (sndSs (wh := Γ.w) fd.body (cxOf (L2.CX P w) P w K mg base fd.names qual scope a cdv A outer s H E) E rf _ ⟨⟨rfl, h7.nd, takes_of rfl rfl rfl rfl, hr.mono (by omega), fns_ok T n, T.md⟩, passes_of rfl, fun _ _ => rfl, h7.kind, T.exc⟩ (fun hrf => ?_) h8), body_of hf w' r hl p⟩
      obtain ⟨c, Pt, nm, fl, C, e1, e2, e3, e4, e5, e6⟩ := h9 hrf
      obtain ⟨b1, b2, b3⟩ := T.exc 0 nm fl C e1
      have q1 : (cxOf (L2.CX P w) P w K mg base fd.names qual scope a cdv A outer s H E).env.qual = qual ++ ".<locals>." := rfl
      have q2 : (cxOf (L2.CX P w) P w K mg base fd.names qual scope a cdv A outer s H E).env.code = cdv := rfl
      unfold RfOk
      rw [q1, q2]
      exact ⟨c, Pt, nm, fl, C, e1, b1, e2, b3, e3, e4, e5, e6, hr⟩
end SH
end

section
set_option autoImplicit false
set_option linter.all false
set_option maxRecDepth 100000
namespace SH
open PySem PySem.Spec PyProof.Rows L2
/-! Strandhues: plain parameters are bound by their places. -/
theorem zip_look {α : Type} : ∀ {ps : List Str} {us : List α}, us.length = ps.length → ∀ n ∈ ps, ((ps.zip us).lookup n).isSome = true
  | [], _, _, n, h => by cases h
  | p :: ps, [], hl, _, _ => by simp at hl
  | p :: ps, u :: us, hl, n, h => by
    simp only [List.zip_cons_cons, List.lookup_cons]
    cases e : n == p with
    | true => rfl
    | false =>
      rcases List.mem_cons.mp h with rfl | h
      · simp at e
      · exact zip_look (by simpa using hl) n h
theorem fm_congr {α β : Type} {f g : α → Option β} : ∀ {l : List α}, (∀ x ∈ l, f x = g x) → l.filterMap f = l.filterMap g
  | [], _ => rfl
  | x :: l, h => by
    rw [List.filterMap_cons, List.filterMap_cons, h x (List.mem_cons_self ..), fm_congr fun y hy => h y (List.mem_cons_of_mem _ hy)]
theorem zip_map {α : Type} : ∀ {ps : List Str} {us : List α}, ps.Nodup → us.length = ps.length → (ps.filterMap fun n => ((ps.zip us).lookup n).map (n, ·)) = ps.zip us
  | [], us, _, hl => by simp
  | p :: ps, [], _, hl => by simp at hl
  | p :: ps, u :: us, nd, hl => by
    have nd' := List.nodup_cons.mp nd
    have ih := zip_map nd'.2 (show us.length = ps.length by simpa using hl)
    simp only [List.zip_cons_cons, List.filterMap_cons, List.lookup_cons, beq_self_eq_true, Option.map_some]
    congr 1
    refine Eq.trans (fm_congr fun n hn => ?_) ih
    have : (n == p) = false := beq_eq_false_iff_ne.mpr fun e => nd'.1 (by rw [← e]; exact hn)
    rw [this]
theorem bind_gen {fd : FuncData} {ps : List Str} (h1 : fd.params.posonlyargs = []) (h2 : fd.params.args.map (·.arg) = ps) (h3 : fd.params.kwonlyargs = []) (h4 : fd.params.vararg = none) (h5 : fd.params.kwarg = none) (h6 : fd.defaults = .none) (nd : ps.Nodup) (us : List Value) (hl : us.length = ps.length) :
    bindArgs fd ⟨us, []⟩ = pure (ps.zip us) := by
  have hf : (ps.filter fun n => ((ps.zip us).lookup n).isNone) = [] := by
    rw [List.filter_eq_nil_iff]
    intro n hn
    have := zip_look hl n hn
    cases e : (ps.zip us).lookup n with
    | none => rw [e] at this; cases this
    | some _ => simp
  have hz := zip_map nd hl
  unfold bindArgs
  simp only [h1, h2, h3, h4, h5, h6, List.map_nil, List.nil_append, List.append_nil, seqItems?, pure_bind, Option.getD_none]
  simp [hl, hf, hz]
  rfl
end SH
end

section
set_option autoImplicit false
set_option linter.all false
set_option maxRecDepth 100000
set_option maxHeartbeats 4000000
/-! Strandhues: what the top leaves, by Bools. -/
namespace SH
open PySem PySem.Spec PyProof.Rows L2

/-! ### an exception class -/
def initB (K : PySem.W.Frag) (prog : Program) (f : Str) (C : Addr) : Bool := match PySem.W.findIn K (.ref C) "__init__" with
  | some (some (.ref fI)) => decide (PySem.W.typeIn K (.ref fI) = some (.type "function")) && (match K.lookup fI with
    | some ⟨_, _, .func ⟨nm, qual, ⟨[], [⟨s1, none, _⟩, ⟨s2, none, _⟩], none, [], [], none, []⟩, .stmts [.Expr (.Call (.Attribute (.Call (.Name s3 _) [] [] _) s4 a3) [.Name s5 _] [] a5) _, .Assign [.Attribute (.Name s6 _) s7 _] (.Name s8 _) _], scope, gl, [(cn, cc)], .none, .none, _, _, _, .ref cda, _, bu⟩, _⟩ =>
      decide (nm = Str.ofString "__init__") && decide (s1 = Str.ofString "self") && decide (s2 = f) && decide (s3 = Str.ofString "super") && decide (s4 = Str.ofString "__init__") && decide (s5 = f) && decide (s6 = Str.ofString "self") && decide (s7 = f) && decide (s8 = f) &&
      decide (gl = mainGlobals) && decide (cn = Str.ofString "__class__") && decide (bu = builtinsNs) && PySem.W.codeIn K (.ref cda) qual && (a3.endLine == a5.line) &&
      decide (scope = { kind := .function, names := scope.names, isGenerator := false, isCoroutine := false, more := scope.more }) && decide (scope.names.lookup ("self" : Str) = some .local) && decide (scope.names.lookup f = some .local) && decide (scope.names.lookup ("super" : Str) = some .globalImplicit) && decide (scope.names.lookup ("__class__" : Str) = some .free) &&
      (scope.names.all fun x => !decide (x.2 = .cell)) &&
      (match K.lookup cda with
        | some ⟨_, _, .fields vs, _⟩ => (match (vs[2]? : Option Value) with
          | some (Value.str file _) => ((prog.main.file : Str) == file)
          | _ => false)
        | _ => false) &&
      (match K.lookup cc with
        | some ⟨_, _, .cell (some (.ref D)), _⟩ => decide (D = C)
        | _ => false)
    | _ => false)
  | _ => false
def clsB (K : PySem.W.Frag) (C : Addr) : Bool := match K.lookup C with
  | some ⟨.type t, _, .cls ⟨_, _, .ref C' :: bm, _, _, hd, _, _, _, _, dl⟩, sl⟩ => decide (t = "type") && decide (C' = C) && hd && !dl && HandSPX.refsVE bm && (match sl.toList with
    | [_, _, _, _, some (.builtin n), _] => decide (n = "ValueError.__new__")
    | _ => false)
  | _ => false
def badB (K : PySem.W.Frag) (prog : Program) (nm f : Str) : Bool :=
  He.eqO (PySem.W.nsIn K mainGlobals nm) (some (some (.ref (He.ga K nm)))) && clsB K (He.ga K nm) && He.eqO (PySem.W.findIn K (.ref (He.ga K nm)) "__setattr__") (some (some (.builtin "object.__setattr__"))) &&
  He.eqO (PySem.W.findIn K (.ref (He.ga K nm)) "__getattribute__") (some (some (.builtin "BaseException.__getattribute__"))) && He.eqO (PySem.W.findIn K (.ref (He.ga K nm)) "__getattr__") (some none) && He.eqO (PySem.W.findIn K (.ref (He.ga K nm)) f) (some none) &&
  PySem.W.keepIn K (.ref (He.ga K nm)) && decide (PySem.W.subIn K (.ref (He.ga K nm)) (.type "BaseException") = some true) && decide (PySem.W.subIn K (.ref (He.ga K nm)) (.type "ValueError") = some true) && decide (PySem.W.typeIn K (.ref (He.ga K nm)) = some (.type "type")) &&
  PySem.W.hasDictIn K (He.ga K nm) && decide (PySem.W.exmOne K (.ref (He.ga K nm)) (.ref (He.ga K nm)) = some true) && decide (PySem.W.mroIn K (He.ga K nm) (.ref (He.ga K nm)) = some true) &&
  He.eqO (PySem.W.ks_superIn K (He.ga K nm) (He.ga K nm) "__init__") (some (some (.builtin "ValueError.__init__"))) && He.eqO (PySem.W.nsIn K cStatics "thirdparty.any") (some none) && He.eqO (PySem.W.nsIn K mainGlobals "super") (some none) &&
  !(prog.main.scope.names.lookup ("super" : Str)).isSome && initB K prog f (He.ga K nm)
theorem clsB_ok {K : PySem.W.Frag} {C : Addr} (h : clsB K C = true) : ∃ nm' q N bs bm sn sub ab col dd k0 k1 k2 k3 k5, K.lookup C = some (excClassObj nm' q C N bs bm true sn sub ab col dd k0 k1 k2 k3 k5 "ValueError.__new__") ∧ HandSPX.refsVE bm = true := by
  unfold clsB at h
  split at h
  · rename_i t dd nm bs C' bm ns q hd sn sub ab col dl sl hk
    simp only [Bool.and_eq_true, decide_eq_true_eq, Bool.not_eq_true'] at h
    obtain ⟨⟨⟨⟨⟨rfl, rfl⟩, rfl⟩, rfl⟩, h5⟩, h6⟩ := h
    split at h6
    · rename_i k0 k1 k2 k3 n k5 hs
      have h6 := of_decide_eq_true h6
      subst h6
      refine ⟨nm, q, ns, bs, bm, sn, sub, ab, col, dd, k0, k1, k2, k3, k5, ?_, h5⟩
      rw [hk]
      have : sl = #[k0, k1, k2, k3, some (.builtin "ValueError.__new__"), k5] := by
        apply Array.ext'
        exact hs
      rw [this]
    · cases h6
  · cases h
theorem initB_ok {K : PySem.W.Frag} {prog : Program} {f : Str} {C : Addr} (h : initB K prog f C = true) : ∃ fI, PySem.W.findIn K (.ref C) "__init__" = some (some (.ref fI)) ∧ PySem.W.typeIn K (.ref fI) = some (.type "function") ∧
    ∃ (oc : Value) (od : Option Addr) (qual : Str) (scope : Scope) (doc pm : Value) (an : Option Addr) (cda cc : Addr) (ct : Value) (osl : Array (Option Value)) (p1 p2 a1 a2 a3 a4 a5 a6 b1 b2 b3 b4 : Pos) (ccl cl : Value) (cdd cld : Option Addr) (vs : Array Value) (ccs csl : Array (Option Value)) (file : Str) (tf : Tok),
      K.lookup fI = some ⟨oc, od, .func (PySem.W.ksFn "__init__" qual (inA f p1 p2) (inB f a1 a2 a3 a4 a5 a6 b1 b2 b3 b4) scope .none .none doc pm an (.ref cda) ct cc), osl⟩ ∧ PySem.W.codeIn K (.ref cda) qual = true ∧
      scope = { kind := .function, names := scope.names, isGenerator := false, isCoroutine := false, more := scope.more } ∧ scope.names.lookup ("self" : Str) = some .local ∧ scope.names.lookup f = some .local ∧ scope.names.lookup ("super" : Str) = some .globalImplicit ∧ scope.names.lookup ("__class__" : Str) = some .free ∧ (∀ x ∈ scope.names, x.2 ≠ .cell) ∧
      K.lookup cda = some ⟨ccl, cdd, .fields vs, ccs⟩ ∧ vs[2]? = some (.str file tf) ∧ ((prog.main.file : Str) == file) = true ∧ K.lookup cc = some ⟨cl, cld, .cell (some (.ref C)), csl⟩ ∧ (a3.endLine == a5.line) = true := by
  unfold initB at h
  split at h
  · rename_i fI hfI
    rw [Bool.and_eq_true, decide_eq_true_eq] at h
    obtain ⟨h0, h⟩ := h
    split at h
    · rename_i hk
      simp only [Bool.and_eq_true, decide_eq_true_eq] at h
      obtain ⟨⟨⟨⟨⟨⟨⟨⟨⟨⟨⟨⟨⟨⟨⟨⟨⟨⟨⟨⟨⟨rfl, rfl⟩, rfl⟩, rfl⟩, rfl⟩, e5⟩, e6⟩, e7⟩, e8⟩, rfl⟩, rfl⟩, rfl⟩, h13⟩, h14⟩, h15⟩, h16⟩, h17⟩, h18⟩, h19⟩, h20⟩, h21⟩, h22⟩ := h
      split at h21
      · rename_i hcd
        split at h21
        · rename_i hvs
          split at h22
          · rename_i hcc
            have h22 := of_decide_eq_true h22
            subst h22
            subst e5 e6 e7
            rename_i oc od qual p9 p8 p7 p6 a3 p5 a5 p4 p3 f' p2 s8 p1 p0 scope cc doc pm an cda ct osl _ cl1 dc1 vs sl1 _ file tok _ cl0 dc0 D sl0
            subst e8
            exact ⟨fI, hfI, h0, oc, od, qual, scope, doc, pm, an, cda, cc, ct, osl, p9, p8, p7, p6, a3, p5, a5, p4, p3, p2, p1, p0, cl1, cl0, dc1, dc0, vs, sl1, sl0, file, tok, hk, h13, h15, h16, h17, h18, h19, fun x hx => of_decide_eq_true (by simpa using List.all_eq_true.1 h20 x hx), hcd, hvs, h21, hcc, h14⟩
          · cases h22
        · cases h21
      · cases h21
    · cases h
  · cases h
theorem badB_ok {K : PySem.W.Frag} {prog : Program} {mg : Str → Option Value} {nm f : Str} (hmg : ∀ v, PySem.W.nsIn K mainGlobals nm = some (some v) → mg nm = some v) (h : badB K prog nm f = true) : BadTxt K mg prog nm f (He.ga K nm) := by
  unfold badB at h
  simp only [Bool.and_eq_true, decide_eq_true_eq, Bool.not_eq_true', He.eqO] at h
  obtain ⟨⟨⟨⟨⟨⟨⟨⟨⟨⟨⟨⟨⟨⟨⟨⟨⟨h1, h2⟩, h3⟩, h4⟩, h5⟩, h6⟩, h7⟩, h8⟩, h9⟩, h10⟩, h11⟩, h12⟩, h13⟩, h14⟩, h15⟩, h16⟩, h17⟩, h18⟩ := h
  exact ⟨hmg _ h1, clsB_ok h2, h3, h4, h5, h6, h7, h8, h9, h10, h11, h12, h13, h14, h15, h16, h17, initB_ok h18⟩
end SH
end

section
set_option autoImplicit false
set_option linter.all false
set_option maxRecDepth 100000
/-! Strandhues: calls by name are bound. -/
namespace SH
open PySem PySem.Spec PyProof.Rows L2
theorem look_none {l : List (Str × Value)} {k : Str} (h : k ∉ l.map (·.1)) : l.lookup k = none := by
  induction l with
  | nil => rfl
  | cons x l ih =>
    simp only [List.map_cons, List.mem_cons, not_or] at h
    rw [List.lookup_cons, show (k == x.1) = false from beq_eq_false_iff_ne.mpr h.1]
    exact ih h.2
theorem loop_kw {ps : List Str} {f : Str × Value → (List (Str × Value) × List (Str × Value)) → Sem (ForInStep (List (Str × Value) × List (Str × Value)))} (hf : ∀ x sl, ps.contains x.1 = true → sl.lookup x.1 = none → f x (sl, []) = pure (.yield (sl ++ [(x.1, x.2)], []))) :
    ∀ (l sl : List (Str × Value)), (∀ x ∈ l, ps.contains x.1 = true) → (sl.map (·.1) ++ l.map (·.1)).Nodup → forIn l (sl, ([] : List (Str × Value))) f = pure (sl ++ l, [])
  | [], sl, _, _ => by simp
  | x :: l, sl, h1, h2 => by
    have hn : x.1 ∉ sl.map (·.1) := fun hx => by
      have := (List.nodup_append.mp h2).2.2 x.1 hx x.1 (by simp)
      exact this rfl
    rw [List.forIn_cons, hf x sl (h1 x List.mem_cons_self) (look_none hn), pure_bind]
    show forIn l (sl ++ [x], ([] : List (Str × Value))) f = _
    rw [loop_kw hf l (sl ++ [x]) (fun y hy => h1 y (List.mem_cons_of_mem _ hy)) (by simpa using h2)]
    simp
theorem look_zip {α : Type} : ∀ {ns : List Str} {vs : List α} {i : Nat} {a : Str} {v : α}, ns.Nodup → ns[i]? = some a → vs[i]? = some v → (ns.zip vs).lookup a = some v
  | [], _, _, _, _, _, h, _ => by simp at h
  | _ :: _, [], _, _, _, _, _, h => by simp at h
  | n :: ns, u :: vs, 0, a, v, nd, h, g => by
    simp at h g
    subst h g
    simp [List.lookup_cons]
  | n :: ns, u :: vs, i + 1, a, v, nd, h, g => by
    have nd' := List.nodup_cons.mp nd
    simp at h g
    have hm : a ∈ ns := List.mem_of_getElem? h
    have : (a == n) = false := beq_eq_false_iff_ne.mpr fun e => nd'.1 (by rw [← e]; exact hm)
    rw [List.zip_cons_cons, List.lookup_cons, this]
    exact look_zip nd'.2 h g
/-- names of the places given, then the keywords; perm puts them in the parameters' order -/
def kwB (ps : List Str) (np : Nat) (ks : List Str) (perm : List Nat) : Bool := !ps.isEmpty && decide (np + ks.length = ps.length) && decide ((ps.take np ++ ks).Nodup) && (ks.all fun k => ps.contains k) && decide (perm.map (fun i => (ps.take np ++ ks)[i]?) = ps.map some)
theorem perm_look {ns : List Str} {vs : List Value} (nd : ns.Nodup) (hl : vs.length = ns.length) : ∀ {perm : List Nat} {ps : List Str}, perm.map (fun i => ns[i]?) = ps.map some →
    (ps.filterMap fun n => ((ns.zip vs).lookup n).map (n, ·)) = ps.zip (perm.map fun i => vs.getD i .none) ∧ (ps.filter fun n => ((ns.zip vs).lookup n).isNone) = []
  | [], [], _ => ⟨rfl, rfl⟩
  | [], _ :: _, h => by simp at h
  | _ :: _, [], h => by simp at h
  | i :: perm, p :: ps, h => by
    simp only [List.map_cons, List.cons.injEq] at h
    obtain ⟨h1, h2⟩ := h
    have ih := perm_look nd hl h2
    have hi : i < vs.length := by rw [hl]; exact (List.getElem?_eq_some_iff.mp h1).1
    have hv : vs[i]? = some (vs.getD i .none) := by
      rw [List.getD_eq_getElem?_getD, List.getElem?_eq_getElem hi]; rfl
    have hk := look_zip nd h1 hv
    refine ⟨?_, ?_⟩
    · rw [List.filterMap_cons, hk, List.map_cons, List.zip_cons_cons, ih.1]; rfl
    · rw [List.filter_cons, hk, ih.2]; rfl
theorem zip_takeL {α : Type} : ∀ {ps : List Str} {us : List α} {np : Nat}, us.length = np → ps.zip us = (ps.take np).zip us
  | [], _, _, _ => by simp
  | _ :: _, [], np, h => by simp
  | p :: ps, u :: us, 0, h => by simp at h
  | p :: ps, u :: us, np + 1, h => by
    rw [List.take_succ_cons, List.zip_cons_cons, List.zip_cons_cons, zip_takeL (np := np) (by simpa using h)]
theorem bind_kw {fd : FuncData} {ps ks : List Str} {np : Nat} {perm : List Nat} (h1 : fd.params.posonlyargs = []) (h2 : fd.params.args.map (·.arg) = ps) (h3 : fd.params.kwonlyargs = []) (h4 : fd.params.vararg = none) (h5 : fd.params.kwarg = none) (h6 : fd.defaults = .none) (hk : kwB ps np ks perm = true)
    (us ws : List Value) (hu : us.length = np) (hw : ws.length = ks.length) :
    bindArgs fd ⟨us, ks.zip ws⟩ = pure (ps.zip (perm.map fun i => (us ++ ws).getD i .none)) := by
  unfold kwB at hk
  simp only [Bool.and_eq_true, decide_eq_true_eq, List.all_eq_true] at hk
  obtain ⟨⟨⟨⟨_, k1⟩, k2⟩, k3⟩, k4⟩ := hk
  have hl1 : (ps.take np).length = np := by rw [List.length_take]; omega
  have m1 : (ps.zip us).map (·.1) = ps.take np := by
    rw [zip_takeL hu, List.map_fst_zip (by rw [hl1, hu]; exact Nat.le_refl _)]
  have m2 : (ks.zip ws).map (·.1) = ks := List.map_fst_zip (by rw [hw]; exact Nat.le_refl _)
  have ez : ps.zip us ++ ks.zip ws = (ps.take np ++ ks).zip (us ++ ws) := by
    rw [zip_takeL hu, List.zip_append (by rw [hl1, hu])]
  have pl := perm_look (vs := us ++ ws) k2 (by simp [hl1, hu, hw]) k4
  unfold bindArgs
  simp only [h1, h2, h3, h4, h5, h6, List.map_nil, List.nil_append, List.append_nil, seqItems?, pure_bind, Option.getD_none]
  rw [loop_kw (ps := ps) (fun x sl g1 g2 => by simp [List.contains_iff_mem.mp g1, g2]) (ks.zip ws) (ps.zip us) (fun x hx => k3 _ (by rw [← m2]; exact List.mem_map_of_mem hx)) (by rw [m1, m2]; exact k2)]
  rw [pure_bind, ez]
  have hlt : ¬ us.length > ps.length := by omega
  simp only [hlt, pl.1, pl.2]
  simp [hlt, pl.1, pl.2]
  rfl
end SH
end

section
set_option autoImplicit false
set_option linter.all false
set_option maxRecDepth 100000
set_option maxHeartbeats 4000000
/-! Strandhues: all of the text, from the facts that the head tells. -/
namespace SH
open PySem PySem.Spec PyProof.Rows L2

/-- everything that a law's own texts say -/
structure LawD where
  Γ : Gc
  bl : List Str
  tf : List He.Defn
  fn : List He.DefD
def fscB (N ps : List Str) (sc : Scope) : Bool := decide (sc.kind = .function) && !sc.isCoroutine && !sc.isGenerator && decide N.Nodup && decide (N.take ps.length = ps) && (ps.all fun x => decide (sc.names.lookup x = some .local) || decide (sc.names.lookup x = some .cell)) && sc.names.all fun y => !decide (y.2 = .free)
theorem fscB_ok {N ps : List Str} {sc : Scope} (h : fscB N ps sc = true) : FnScope N ps sc := by
  unfold fscB at h
  simp only [Bool.and_eq_true, decide_eq_true_eq, Bool.not_eq_true', List.all_eq_true, Bool.or_eq_true, decide_eq_false_iff_not] at h
  obtain ⟨⟨⟨⟨⟨⟨h1, h2⟩, h3⟩, h4⟩, h5⟩, h6⟩, h7⟩ := h
  exact ⟨h1, h2, h3, h4, h5, h6, h7⟩
/-- parameters by place alone, no defaults -/
def parB (ps : List Str) (d : He.DefD) : Bool := d.dfl.isEmpty && d.kwd.isEmpty && d.params.posonlyargs.isEmpty && decide (d.params.args.map (·.arg) = ps) && d.params.kwonlyargs.isEmpty && d.params.vararg.isNone && d.params.kwarg.isNone && decide ps.Nodup
def nameB (x : Str) (d : He.DefD) : Bool := decide (d.at_ = (x, none)) && decide (d.name = x) && decide (d.qual = x)
/-- one def's text is what its data says -/
def defB (L : LawD) (f : Nat) (fd : FD) (d : He.DefD) : Bool := nameB fd.name d && parB fd.params d && fscB fd.names fd.params d.scope && chkSs L.Γ L.bl fd.names (L.tf.contains (fd.name, none)) d.scope fd.body (unDoc d.body) && L.Γ.kw.all fun q => !decide (q.1 = f) || kwB fd.params q.2.1 q.2.2.1 q.2.2.2
def refShape (nm fl : Str) : List Stmt → Bool
  | [.Try [.Expr (.Call (.Name s1 _) [] [] _) _] [.ExceptHandler (some (.Name s2 _)) (some s3) [.Return (some (.Attribute (.Name s4 _) s5 _)) _] _] [] [] _, .Return (some (.Constant (.str s6) _ _)) _] =>
    decide (s1 = Str.ofString "call") && decide (s2 = nm) && decide (s3 = Str.ofString "e") && decide (s4 = Str.ofString "e") && decide (s5 = fl) && decide (s6 = Str.ofString "")
  | _ => false
def refB (nm fl : Str) (d : He.DefD) : Bool := nameB (Str.ofString "_law_refused") d && parB [("call" : Str)] d && fscB [("call" : Str), ("e" : Str)] [("call" : Str)] d.scope && refShape nm fl d.body && decide (d.scope.names.lookup nm = some .globalImplicit) && decide (d.scope.names.lookup ("e" : Str) = some .local) &&
  (decide (d.scope.names.lookup ("call" : Str) = some .local) || decide (d.scope.names.lookup ("call" : Str) = some .cell))
/-- the text alone -/
def txtB (L : LawD) : Bool := ((List.range L.Γ.Φ.length).all fun f => match L.Γ.Φ[f]?, L.fn[f]? with
    | some fd, some d => defB L f fd d
    | _, _ => false) &&
  (L.tf.isEmpty || match L.Γ.exn[0]?, L.fn[L.Γ.Φ.length]? with
    | some p, some d => refB p.1 p.2 d
    | _, _ => false) && L.tf.all (fun p => decide (p.2 = none)) &&
  L.Γ.exn.all fun p => (decide (p.2 = Str.ofString "name") || decide (p.2 = Str.ofString "word") || decide (p.2 = Str.ofString "line")) && !(p.1 == ("__debug__" : Str))
def globB (K : PySem.W.Frag) (g : Str × T) : Bool := match g.2 with
  | .int i => (He.Fa.int g.1 i).ok K
  | .str z => (He.Fa.str g.1 z).ok K
  | _ => false
/-- what the head sees -/
def exB (prog : Program) (L : LawD) (K : PySem.W.Frag) : Bool := (L.bl.all fun x => (He.Fa.free x).ok K) && (L.Γ.Φ.all fun fd => (He.Fa.glo fd.name).ok K) && L.Γ.glob.all (globB K) && (L.Γ.exn.all fun p => badB K prog p.1 p.2) && decide ((L.tf.map fun p => (He.cT K p).2).Nodup) && (L.tf.isEmpty || (He.Fa.glo (Str.ofString "_law_refused")).ok K)
/-- where they stand -/
def LawD.ga (L : LawD) (K : PySem.W.Frag) : Ga := { L.Γ with
  ca := fun c => match L.Γ.exn[c]? with
    | some p => He.ga K p.1
    | none => 0
  Tb := L.tf.map fun p => ((He.cT K p).2, p.1 ++ ".<locals>." ++ "<lambda>") }
section
variable {L : LawD} {P : Program} {w : World} {K : PySem.W.Frag} {h base : Heap} {mg : Str → Option Value}
theorem par_bind {ps : List Str} {d : He.DefD} (hp : parB ps d = true) {kV doc pm : Value} {an : Option Addr} {cdv ct : Value} (us : List Value) (hl : us.length = ps.length) : bindArgs (PySem.W.fnOf d.name d.qual d.params d.body d.scope .none kV doc pm an cdv ct) ⟨us, []⟩ = pure (ps.zip us) := by
  unfold parB at hp
  simp only [Bool.and_eq_true, decide_eq_true_eq, List.isEmpty_iff, Option.isNone_iff_eq_none] at hp
  obtain ⟨⟨⟨⟨⟨⟨⟨h1, h2⟩, h3⟩, h4⟩, h5⟩, h6⟩, h7⟩, h8⟩ := hp
  exact bind_gen h3 h4 h5 h6 h7 rfl h8 us hl
theorem par_dv {ps : List Str} {d : He.DefD} (hp : parB ps d = true) : d.dvs K = [] := by
  unfold parB at hp
  simp only [Bool.and_eq_true, List.isEmpty_iff] at hp
  obtain ⟨⟨⟨⟨⟨⟨⟨h1, h2⟩, h3⟩, h4⟩, h5⟩, h6⟩, h7⟩, h8⟩ := hp
  unfold He.DefD.dvs
  rw [h1]; rfl
theorem par_kw {ps ks : List Str} {np : Nat} {perm : List Nat} {d : He.DefD} (hp : parB ps d = true) (hk : kwB ps np ks perm = true) {kV doc pm : Value} {an : Option Addr} {cdv ct : Value} :
    KBinds K (PySem.W.fnOf d.name d.qual d.params d.body d.scope .none kV doc pm an cdv ct) ps ks (kwG .none np ks.length perm) (kwG .non np ks.length perm) := by
  unfold parB at hp
  simp only [Bool.and_eq_true, decide_eq_true_eq, List.isEmpty_iff, Option.isNone_iff_eq_none] at hp
  obtain ⟨⟨⟨⟨⟨⟨⟨h1, h2⟩, h3⟩, h4⟩, h5⟩, h6⟩, h7⟩, h8⟩ := hp
  refine ⟨fun s us ws _ hl => ?_, fun r rz => kwG_rel r rz⟩
  unfold kwG at hl ⊢
  split at hl
  · rename_i hc
    rw [if_pos hc]
    exact .of_eq (bind_kw h3 h4 h5 h6 h7 rfl hk us ws hc.1 hc.2)
  · rename_i hc
    unfold kwB at hk
    cases ps with
    | nil => simp at hk
    | cons _ _ => simp at hl
theorem def_fnT {prog : Program} {f : Nat} {fd : FD} {d : He.DefD} {fdat : FuncData} (X : K.In h) (G : h.Ns mainGlobals mg) (hx : exB prog L K = true) (ht : txtB L = true) (hf : L.Γ.Φ[f]? = some fd) (hd : L.fn[f]? = some d) (F : FunD K d.name d.qual d.params d.body d.scope (d.dvs K) (d.kws K) (He.fAd K d.at_) fdat)
    (hrf : L.tf.contains (fd.name, none) = true → ∃ (c Pt : Addr) (nm fl : Str) (C : Addr), (L.ga K).excAt 0 = some (nm, fl, C) ∧ RefTxt K mg base nm fl ∧ LamX.TabB base mg c Pt ∧ He.codeOf K (fd.name, none) = c ∧ (Pt, fd.name ++ ".<locals>." ++ "<lambda>") ∈ (L.ga K).Tb ∧ (∀ p ∈ (L.ga K).Tb, p.1 = Pt → p.2 = fd.name ++ ".<locals>." ++ "<lambda>")) :
    FnT (L.ga K) L.bl P K mg base f fd := by
  have hB : defB L f fd d = true := by
    unfold txtB at ht
    simp only [Bool.and_eq_true, List.all_eq_true, List.mem_range] at ht
    have := ht.1.1.1 f (List.getElem?_eq_some_iff.mp hf).1
    rw [hf, hd] at this
    exact this
  unfold defB at hB
  simp only [Bool.and_eq_true] at hB
  obtain ⟨⟨⟨⟨b1, b2⟩, b3⟩, b4⟩, b5⟩ := hB
  unfold nameB at b1
  simp only [Bool.and_eq_true, decide_eq_true_eq] at b1
  obtain ⟨⟨n1, n2⟩, n3⟩ := b1
  have hmg : mg fd.name = some (.ref (He.ga K fd.name)) := by
    unfold exB at hx
    simp only [Bool.and_eq_true, List.all_eq_true] at hx
    exact He.glo_ok X G (hx.1.1.1.1.2 fd (List.mem_of_getElem? hf))
  have ha : He.fAd K d.at_ = He.ga K fd.name := by rw [n1]; rfl
  rw [ha, par_dv b2] at F
  obtain ⟨oc, od, dV, kV, doc, pm, an, cdv, ct, osl, e1, e2, e3, e4, e5⟩ := F.ex
  subst e1
  rcases e4 with ⟨_, rfl⟩ | ⟨z, _⟩
  · refine ⟨He.ga K fd.name, oc, od, d.name, d.qual, d.params, d.body, d.scope, .none, kV, doc, pm, cdv, ct, an, osl, L.tf.contains (fd.name, none), hmg, F.kp, e2, e3, .all fun us hl => par_bind b2 us hl, fun np ks perm hm => ?_, fscB_ok b3, b4, fun hr => ?_⟩
    · have := List.all_eq_true.mp b5 _ hm
      simp at this
      exact par_kw b2 this
    · obtain ⟨c, Pt, nm, fl, C, r1, r2, r3, r4, r5, r6⟩ := hrf hr
      obtain ⟨c', hc'⟩ := He.codeIn_ref e3
      have := He.codeOf_eq (p := (fd.name, none)) (c := c') e2 hc'
      rw [n3]
      exact ⟨c, Pt, nm, fl, C, r1, r2, r3, by rw [hc', ← this, r4], r5, r6⟩
  · exact absurd rfl z
theorem ref_ok {nm fl : Str} {d : He.DefD} {fdat : FuncData} (X : K.In h) (G : h.Ns mainGlobals mg) (hg : (He.Fa.glo (Str.ofString "_law_refused")).ok K = true) (hB : refB nm fl d = true) (F : FunD K d.name d.qual d.params d.body d.scope (d.dvs K) (d.kws K) (He.fAd K d.at_) fdat) : RefTxt K mg base nm fl := by
  unfold refB at hB
  simp only [Bool.and_eq_true, decide_eq_true_eq] at hB
  obtain ⟨⟨⟨⟨⟨⟨b1, b2⟩, b3⟩, b4⟩, b5⟩, b6⟩, b7⟩ := hB
  unfold nameB at b1
  simp only [Bool.and_eq_true, decide_eq_true_eq] at b1
  obtain ⟨⟨n1, n2⟩, n3⟩ := b1
  have hmg := He.glo_ok X G hg
  have ha : He.fAd K d.at_ = He.ga K (Str.ofString "_law_refused") := by rw [n1]; rfl
  rw [ha, par_dv b2] at F
  obtain ⟨oc, od, dV, kV, doc, pm, an, cdv, ct, osl, e1, e2, e3, e4, e5⟩ := F.ex
  subst e1
  have hbind := fun us hl => par_bind (d := d) b2 (kV := kV) (doc := doc) (pm := pm) (an := an) (cdv := cdv) (ct := ct) us hl
  rcases e4 with ⟨_, rfl⟩ | ⟨z, _⟩
  · obtain ⟨dat, dnm, dq, dp, db, ds, ddf, dkw⟩ := d
    simp only at n1 n2 n3 b4 b5 b6 b7 e2 e3 hbind b3
    subst n2 n3
    unfold refShape at b4
    split at b4
    · rename_i s1 p1 p2 p3 s2 p4 s3 s4 p5 s5 p6 p7 p8 p9 s6 j p10 p11
      simp only [Bool.and_eq_true, decide_eq_true_eq] at b4
      obtain ⟨⟨⟨⟨⟨rfl, rfl⟩, rfl⟩, rfl⟩, rfl⟩, rfl⟩ := b4
      refine ⟨He.ga K (Str.ofString "_law_refused"), oc, od, dp, ds, .none, kV, doc, pm, cdv, ct, an, osl, j, p1, p2, p3, p4, p5, p6, p7, p8, p9, p10, p11, hmg, F.kp, e2, e3, .all fun us hl => hbind us hl, fscB_ok b3, ?_, b5, b6⟩
      simp only [Bool.or_eq_true, decide_eq_true_eq] at b7
      rcases b7 with z | z
      · exact .inl z
      · exact .inr (.inl z)
    · cases b4
  · exact absurd rfl z
theorem nodup_key {α β : Type} {f : α → β} : ∀ {l : List α}, (l.map f).Nodup → ∀ x ∈ l, ∀ y ∈ l, f x = f y → x = y
  | [], _, x, h, _, _, _ => by cases h
  | a :: l, nd, x, hx, y, hy, e => by
    have nd' := List.nodup_cons.mp nd
    rcases List.mem_cons.mp hx with h1 | h1 <;> rcases List.mem_cons.mp hy with h2 | h2
    · rw [h1, h2]
    · subst h1
      exact absurd (show f x ∈ l.map f by rw [e]; exact List.mem_map_of_mem h2) nd'.1
    · subst h2
      exact absurd (show f y ∈ l.map f by rw [← e]; exact List.mem_map_of_mem h1) nd'.1
    · exact nodup_key nd'.2 x h1 y h2 e
theorem txt_of {fa : List He.Fa} {ts : List He.Tab} {hh : Heap} (X : K.In h) (G : h.Ns mainGlobals mg) (ht : txtB L = true) (c : He.SaysX fa L.fn ts L.tf (exB P L) w hh K) (TB : ∀ p ∈ L.tf, LamX.TabB base mg (He.cT K p).1 (He.cT K p).2) : TxT (L.ga K) L.bl P K mg base := by
  have hx := c.more
  have hx' := hx
  have ht' := ht
  unfold exB at hx'
  unfold txtB at ht'
  simp only [Bool.and_eq_true, List.all_eq_true, List.mem_range, decide_eq_true_eq] at hx' ht'
  obtain ⟨⟨⟨⟨⟨x1, x2⟩, x3⟩, x4⟩, x5⟩, x6⟩ := hx'
  obtain ⟨⟨⟨t1, t2⟩, t3⟩, t4⟩ := ht'
  have hex : ∀ (i : Nat) (nm f : Str) (C : Addr), (L.ga K).excAt i = some (nm, f, C) → L.Γ.exn[i]? = some (nm, f) ∧ C = He.ga K nm := fun i nm f C e => by
    unfold Ga.excAt LawD.ga at e
    simp only at e
    cases q : L.Γ.exn[i]? with
    | none => rw [q] at e; cases e
    | some p => rw [q] at e; cases e; exact ⟨rfl, rfl⟩
  refine ⟨⟨fun x hx => He.free_ok X G (x1 x hx), fun i x t hg => ?_⟩, fun i nm f C e => ?_, fun f fd hf => ?_⟩
  · have hg' := x3 _ (List.mem_of_getElem? hg)
    unfold globB at hg'
    cases t with
    | int j =>
      obtain ⟨t, e⟩ := He.int_ok X G hg'
      exact ⟨_, .int j, e, ⟨t, rfl⟩, fun ι H => by simp only [Rep]⟩
    | str z =>
      obtain ⟨t, e⟩ := He.str_ok X G hg'
      exact ⟨_, .str z, e, ⟨t, rfl⟩, fun ι H => by simp only [Rep]⟩
    | _ => simp at hg'
  · obtain ⟨e1, rfl⟩ := hex i nm f C e
    have hb := x4 _ (List.mem_of_getElem? e1)
    have hn := t4 _ (List.mem_of_getElem? e1)
    refine ⟨badB_ok (fun v hv => PySem.W.mg_of X G hv) hb, ?_, ?_⟩
    · have := hn.1
      simp only [Bool.or_eq_true, decide_eq_true_eq] at this
      rcases this with (z | z) | z
      · exact .inl z
      · exact .inr (.inl z)
      · exact .inr (.inr z)
    · simpa using hn.2
  · have hlt := (List.getElem?_eq_some_iff.mp hf).1
    have t1f := t1 f hlt
    have hf : L.Γ.Φ[f]? = some fd := hf
    rw [hf] at t1f
    cases hd : L.fn[f]? with
    | none => rw [hd] at t1f; cases t1f
    | some d =>
      obtain ⟨fdat, F⟩ := c.t.d.defs (List.mem_of_getElem? hd)
      refine def_fnT X G hx ht hf hd F fun hr => ?_
      have hm : (fd.name, none) ∈ L.tf := by simpa using hr
      have hne : L.tf.isEmpty = false := by
        cases q : L.tf with
        | nil => rw [q] at hm; cases hm
        | cons _ _ => rfl
      rw [hne] at t2 x6
      simp only [Bool.false_or] at t2 x6
      cases e0 : L.Γ.exn[0]? with
      | none => rw [e0] at t2; simp at t2
      | some p =>
        rw [e0] at t2
        cases ed : L.fn[L.Γ.Φ.length]? with
        | none => rw [ed] at t2; simp at t2
        | some dr =>
          rw [ed] at t2
          obtain ⟨fdr, Fr⟩ := c.t.d.defs (List.mem_of_getElem? ed)
          refine ⟨(He.cT K (fd.name, none)).1, (He.cT K (fd.name, none)).2, p.1, p.2, He.ga K p.1, ?_, ref_ok X G (by simpa using x6) (by simpa using t2) Fr, TB _ hm, rfl, List.mem_map_of_mem (f := fun p : He.Defn => ((He.cT K p).2, p.1 ++ ".<locals>." ++ "<lambda>")) hm, fun p' hp' e' => ?_⟩
          · unfold Ga.excAt LawD.ga
            simp only
            rw [e0]
          · obtain ⟨p2, hp2, rfl⟩ := List.mem_map.mp hp'
            have := nodup_key x5 p2 hp2 _ hm e'
            rw [this]
/-- the end, for every law of this form -/
theorem law_end {l : PySem.W.OpenLaw} {fa : List He.Fa} {ts : List He.Tab} {n m : Nat} {fa0 : Addr} {fd : FD} (X : K.In h) (G : h.Ns mainGlobals mg) (ht : txtB L = true) (c : He.SaysX fa L.fn ts L.tf (exB l.prog L) w h K) (f : Nat) (hf : L.Γ.Φ[f]? = some fd) (hp : fd.params = [("script" : Str)])
    (hfa : mg fd.name = some (.ref fa0)) (hm : m ≤ LINE) (hrun : ∀ ns : List Int, ns.length ≤ m → callN L.Γ.Φ L.Γ.w n f [.scr ns] [] = .ok (.bl true) []) : LamX.LawAtS l w K (L2.CX l.prog w) (3 * n) m "script" mg fa0 h := by
  have hx := c.more
  have key : ∀ base : Heap, (∀ p ∈ L.tf, LamX.TabB base mg (He.cT K p).1 (He.cT K p).2) → ∃ fdat, FnE (L.ga K) l.prog w K mg base (3 * n) n f fd fa0 fdat := fun base TB => by
    obtain ⟨a, fdat, e⟩ := fns_ok (w := w) (txt_of X G ht c TB) n f fd hf
    have := e.nm
    rw [hfa] at this
    cases this
    exact ⟨fdat, e⟩
  cases hd : L.fn[f]? with
  | none =>
    unfold txtB at ht
    simp only [Bool.and_eq_true, List.all_eq_true, List.mem_range] at ht
    have := ht.1.1.1 f (List.getElem?_eq_some_iff.mp hf).1
    rw [hf, hd] at this
    cases this
  | some d =>
    obtain ⟨fdat, F⟩ := c.t.d.defs (List.mem_of_getElem? hd)
    have hB : nameB fd.name d = true ∧ parB fd.params d = true := by
      unfold txtB at ht
      simp only [Bool.and_eq_true, List.all_eq_true, List.mem_range] at ht
      have := ht.1.1.1 f (List.getElem?_eq_some_iff.mp hf).1
      rw [hf, hd] at this
      unfold defB at this
      simp only [Bool.and_eq_true] at this
      exact ⟨this.1.1.1.1, this.1.1.1.2⟩
    have ha : He.fAd K d.at_ = fa0 := by
      have n1 := hB.1
      unfold nameB at n1
      simp only [Bool.and_eq_true, decide_eq_true_eq] at n1
      unfold exB at hx
      simp only [Bool.and_eq_true, List.all_eq_true] at hx
      have := He.glo_ok X G (hx.1.1.1.1.2 fd (List.mem_of_getElem? hf))
      rw [hfa] at this
      cases this
      rw [n1.1.1]; rfl
    rw [ha, par_dv hB.2] at F
    refine ⟨fdat, L.tf.map (He.cT K), spF (L.ga K) K n f fd, fun p hp => ?_, fun p hp => ?_, fun p hp => ?_, fun s u => ?_, fun H a ns hl _ hT hS => ?_, fun base X' G' TB => ?_⟩
    · obtain ⟨q, hq, rfl⟩ := List.mem_map.mp hp
      exact c.empty q hq
    · obtain ⟨q, hq, rfl⟩ := List.mem_map.mp hp
      exact c.out q hq
    · obtain ⟨q, hq, rfl⟩ := List.mem_map.mp hp
      exact PySem.W.codeHd_of_K X (c.hd q hq)
    · have h2 := hB.2
      rw [hp] at h2
      exact F.bindsA (ps := [("script" : Str)]) (fun kV doc pm an cdv ct us hl => par_bind h2 us hl) s [u] rfl
    · refine ⟨⟨[], []⟩, [], [.scr ns], ⟨⟨rfl, fun i j c e => by simp at e, fun i c e => by simp at e, fun i xs e => by simp at e, fun b hb => (by cases hb), fun i c e => by simp at e⟩, fun p hp => ?_⟩, ?_, by rw [hp]; rfl, ?_⟩
      · obtain ⟨q, hq, rfl⟩ := List.mem_map.mp hp
        exact LamX.TabS.nil (hT _ (List.mem_map_of_mem hq))
      · simp only [Reps, Rep]
        refine ⟨⟨a, rfl, ?_, Nat.le_trans hl hm⟩, trivial⟩
        rcases hS with (s | s) | s
        · exact .inr (.inl ⟨s, ⟨fun i z => by simp at z, fun z => by simp at z⟩⟩)
        · exact .inl s
        · exact .inr (.inr s)
      · have := hrun ns hl
        show PostG _ _ _ _ _ _ (callN L.Γ.Φ L.Γ.w n f [.scr ns] []) _
        rw [this]
        intro ι2 H2 v w2 f2 r
        simpa only [Rep] using r
    · obtain ⟨fdat', e⟩ := key base fun p hp => TB _ (List.mem_map_of_mem hp)
      obtain ⟨oc, od, osl, lk⟩ := e.lk
      obtain ⟨oc', od', dV, kV, doc, pm, an, cdv, ct, osl', _, lk', _⟩ := F.ex
      rw [lk] at lk'
      cases lk'
      have := e.ok
      rw [hp] at this
      exact this
end
end SH
end

section
set_option autoImplicit false
set_option linter.all false
set_option maxRecDepth 100000
set_option maxHeartbeats 2000000
/-! Strandhues: the head's Hook: the module's objects and the statics. -/
namespace SH
open PySem PySem.Spec PyProof.Rows L2
/-- what the module's names reach, and the statics with their dict -/
def asY (g : Addr → Option Obj) (n : Nat) : List Addr := He.asD g n ++ cStatics :: (match g cStatics with
  | some o => He.refsD o
  | none => [])
def obsY (n : Nat) (fn : List He.DefD) (tf : List He.Defn) (ex : PySem.W.Frag → Bool) (g : Addr → Option Obj) : He.AlX :=
  let K := He.frT g (asY g n)
  (He.obsT [] fn [] K, ex K && He.tabsB g tf K)
theorem saysY_of {n : Nat} {fn : List He.DefD} {tf : List He.Defn} {ex : PySem.W.Frag → Bool} {w : World} {h : Heap} (e : obsY n fn tf ex h.get? = He.valX fn [] w) :
    He.SaysX [] fn [] tf ex w h (He.frT h.get? (asY h.get? n)) := by
  generalize hK : He.frT h.get? (asY h.get? n) = K at e ⊢
  have e1 : He.obsT [] fn [] K = He.valT fn [] w := by
    have := congrArg Prod.fst e
    unfold obsY at this
    rw [hK] at this
    exact this
  have e2 : (ex K && He.tabsB h.get? tf K) = true := by
    have := congrArg Prod.snd e
    unfold obsY at this
    rw [hK] at this
    exact this
  obtain ⟨h1, h2⟩ := He.ba e2
  unfold He.tabsB at h2
  have pick : ∀ p ∈ tf, PySem.W.codeHdIn K (He.cT K p).1 (He.cT K p).2 = true ∧ ∃ o, h.get? (He.cT K p).2 = some o ∧ He.emptyTab o = true := by
    intro p hp
    have z := He.ba (List.all_eq_true.mp h2 p hp)
    refine ⟨z.1, ?_⟩
    have z2 := z.2
    split at z2
    · rename_i o ho
      exact ⟨o, ho, z2⟩
    · cases z2
  refine ⟨e1, h1, fun p hp => (pick p hp).1, fun p hp => ?_, fun p hp => ?_⟩
  · obtain ⟨_, o, q, z⟩ := pick p hp
    have := He.frT_none (as := asY h.get? n) q z
    rw [hK] at this
    exact this
  · obtain ⟨_, o, q, z⟩ := pick p hp
    rw [q, He.emptyTab_eq z]
def hookY (n : Nat) (fn : List He.DefD) (tf : List He.Defn) (ex : PySem.W.Frag → Bool) : PySem.W.Hook where
  α := He.AlX
  obs := fun s => obsY n fn tf ex s.heap.get?
  val := fun w => He.valX fn [] w
  says := fun w h => ∃ K : PySem.W.Frag, K.In h ∧ He.SaysX [] fn [] tf ex w h K
  of := fun _ _ e => ⟨_, He.frT_in, saysY_of e⟩
  keeps := fun _ _ _ ⟨K, i, c⟩ k => ⟨K, i.keeps k, c.t, c.more, c.hd, c.out, fun p hp => k _ _ (c.empty p hp)⟩
theorem obsY_eq {n : Nat} {fn : List He.DefD} {tf : List He.Defn} {ex : PySem.W.Frag → Bool} {g : Addr → Option Obj} {s : Shared} (h : ∀ a, g a = s.heap.get? a) : obsY n fn tf ex g = (hookY n fn tf ex).obs s := by
  rw [funext h]; rfl
theorem noCX {P : Program} {w : World} {outer : List PySem.Env} {H : Hp} {s s' : Shared} {u : Value} (z : L2.CX P w outer H s (fun _ _ _ => False) u s') : False := by
  obtain ⟨_, _, _, _, _, _, _, _, _, _, _, _, e⟩ := z
  exact e
end SH
end

section
set_option autoImplicit false
set_option linter.all false
set_option maxRecDepth 100000
set_option maxHeartbeats 4000000
/-! Strandhues: laws about the interpreter, for the mathematics. -/
namespace SH
open PySem

/-! ### calls -/
theorem call_rt {Φ : Prog} {w n f : Nat} {fd : FD} {xs : List T} {h h' : Hs} {t : T} (hf : Φ[f]? = some fd) (hl : xs.length = fd.params.length) (e : evSs (callN Φ w n) w fd.body (startT fd xs) h = .rt t h') : callN Φ w (n + 1) f xs h = finT fd.fresh h.length t h' := by
  simp only [callN, hf, hl, if_true, e]
theorem call_nx {Φ : Prog} {w n f : Nat} {fd : FD} {xs : List T} {h h' : Hs} {σ : Env} (hf : Φ[f]? = some fd) (hl : xs.length = fd.params.length) (e : evSs (callN Φ w n) w fd.body (startT fd xs) h = .nx σ h') : callN Φ w (n + 1) f xs h = finT fd.fresh h.length .non h' := by
  simp only [callN, hf, hl, if_true, e]
theorem call_ex {Φ : Prog} {w n f c : Nat} {fd : FD} {xs : List T} {h h' : Hs} {t : T} (hf : Φ[f]? = some fd) (hl : xs.length = fd.params.length) (e : evSs (callN Φ w n) w fd.body (startT fd xs) h = .ex c t h') : callN Φ w (n + 1) f xs h = if okD 60 t then .ex c t (h'.take h.length) else .bad := by
  simp only [callN, hf, hl, if_true, e]
/-- data is handed back as it is -/
theorem fin_ok {n : Nat} {t : T} {h : Hs} (ht : okD 60 t = true) : finT false n t h = .ok t (h.take n) := by
  unfold finT
  cases t <;> first | (simp only [okD] at ht; exact absurd ht Bool.false_ne_true) | (simp only [Bool.false_eq_true, if_false, ht, if_true])
theorem call_ok {Φ : Prog} {w n f : Nat} {fd : FD} {xs : List T} {h h' : Hs} {t : T} (hf : Φ[f]? = some fd) (hfr : fd.fresh = false) (hl : xs.length = fd.params.length) (ht : okD 60 t = true) (e : evSs (callN Φ w n) w fd.body (startT fd xs) h = .rt t h') : callN Φ w (n + 1) f xs h = .ok t (h'.take h.length) := by
  rw [call_rt hf hl e, hfr, fin_ok ht]
/-- .. and the heap is as it was -/
theorem call_ok0 {Φ : Prog} {w n f : Nat} {fd : FD} {xs : List T} {h : Hs} {t : T} (hf : Φ[f]? = some fd) (hfr : fd.fresh = false) (hl : xs.length = fd.params.length) (ht : okD 60 t = true) (e : evSs (callN Φ w n) w fd.body (startT fd xs) h = .rt t h) : callN Φ w (n + 1) f xs h = .ok t h := by
  rw [call_ok hf hfr hl ht e, List.take_length]

/-- the def at f -/
structure Is (Φ : Prog) (f np nn : Nat) (b : List S) : Prop where
  ex : ∃ fd, Φ[f]? = some fd ∧ fd.fresh = false ∧ fd.params.length = np ∧ fd.names.length = nn ∧ fd.body = b
section
variable {Φ : Prog} {f np nn w n c : Nat} {b : List S} {xs : List T} {h h' : Hs} {t : T} {σ : Env}
abbrev st0 (xs : List T) (nn : Nat) : Env := xs.map some ++ List.replicate (nn - xs.length) none
theorem Is.rt (I : Is Φ f np nn b) (hl : xs.length = np) (ht : okD 60 t = true) (e : evSs (callN Φ w n) w b (st0 xs nn) h = .rt t h') : callN Φ w (n + 1) f xs h = .ok t (h'.take h.length) := by
  obtain ⟨fd, h1, h2, h3, h4, rfl⟩ := I.ex
  exact call_ok h1 h2 (hl.trans h3.symm) ht (by unfold startT; rw [h4]; exact e)
theorem Is.rt0 (I : Is Φ f np nn b) (hl : xs.length = np) (ht : okD 60 t = true) (e : evSs (callN Φ w n) w b (st0 xs nn) h = .rt t h) : callN Φ w (n + 1) f xs h = .ok t h := by
  rw [I.rt hl ht e, List.take_length]
theorem Is.nx (I : Is Φ f np nn b) (hl : xs.length = np) (e : evSs (callN Φ w n) w b (st0 xs nn) h = .nx σ h') : callN Φ w (n + 1) f xs h = .ok .non (h'.take h.length) := by
  obtain ⟨fd, h1, h2, h3, h4, rfl⟩ := I.ex
  rw [call_nx h1 (hl.trans h3.symm) (by unfold startT; rw [h4]; exact e), h2]
  rfl
theorem Is.nx0 (I : Is Φ f np nn b) (hl : xs.length = np) (e : evSs (callN Φ w n) w b (st0 xs nn) h = .nx σ h) : callN Φ w (n + 1) f xs h = .ok .non h := by
  rw [I.nx hl e, List.take_length]
theorem Is.exn (I : Is Φ f np nn b) (hl : xs.length = np) (ht : okD 60 t = true) (e : evSs (callN Φ w n) w b (st0 xs nn) h = .ex c t h') : callN Φ w (n + 1) f xs h = .ex c t (h'.take h.length) := by
  obtain ⟨fd, h1, h2, h3, h4, rfl⟩ := I.ex
  rw [call_ex h1 (hl.trans h3.symm) (by unfold startT; rw [h4]; exact e), if_pos ht]
end

/-! ### comprehensions -/
theorem compR_of {f : T → Hs → R (Option T)} {g : T → Option T} {h : Hs} : ∀ {xs : List T}, (∀ x ∈ xs, f x h = .ok (g x) h) → compR f xs h = .ok (xs.filterMap g) h
  | [], _ => rfl
  | x :: xs, hf => by
    have ih := compR_of (xs := xs) fun y hy => hf y (List.mem_cons_of_mem _ hy)
    simp only [compR, hf x List.mem_cons_self, R.bind_ok, ih, List.filterMap_cons]
    cases g x <;> rfl
theorem compR_map {f : T → Hs → R (Option T)} {g : T → T} {h : Hs} {xs : List T} (hf : ∀ x ∈ xs, f x h = .ok (some (g x)) h) : compR f xs h = .ok (xs.map g) h := by
  rw [compR_of (g := fun x => some (g x)) hf, List.filterMap_eq_map']
/-- turns that change the heap -/
theorem compR_inv {f : T → Hs → R (Option T)} {P : Nat → Hs → Prop} {Q : Option T → Prop} : ∀ {xs : List T} {i : Nat} {h : Hs}, P i h → (∀ x ∈ xs, ∀ (j : Nat) (h : Hs), P j h → ∃ o h', f x h = .ok o h' ∧ P (j + 1) h' ∧ Q o) →
    ∃ (os : List (Option T)) (h' : Hs), os.length = xs.length ∧ (∀ o ∈ os, Q o) ∧ P (i + xs.length) h' ∧ compR f xs h = .ok (os.filterMap id) h'
  | [], i, h, hp, _ => ⟨[], h, rfl, fun _ z => (by cases z), hp, rfl⟩
  | x :: xs, i, h, hp, hf => by
    obtain ⟨o, h1, e1, p1, q1⟩ := hf x List.mem_cons_self i h hp
    obtain ⟨os, h2, l2, q2, p2, e2⟩ := compR_inv (xs := xs) p1 fun y hy => hf y (List.mem_cons_of_mem _ hy)
    refine ⟨o :: os, h2, by simp [l2], fun y hy => ?_, by simpa [Nat.add_assoc, Nat.add_comm 1] using p2, ?_⟩
    · rcases List.mem_cons.mp hy with rfl | hy
      · exact q1
      · exact q2 y hy
    · simp only [compR, e1, R.bind_ok, e2, List.filterMap_cons]
      cases o <;> rfl

/-! ### expressions, one by one -/
section
variable {call : Calls} {σ : Env} {h h1 h' : Hs}
theorem ev_cons {e : E} {es : List E} {x : T} {xs : List T} (he : evE call e σ h = .ok x h1) (hs : evEs call es σ h1 = .ok xs h') : evEs call (e :: es) σ h = .ok (x :: xs) h' := by
  simp only [evEs, he, R.bind_ok, hs]
theorem ev_nil : evEs call [] σ h = .ok [] h := by simp only [evEs]
theorem ev_newl {es : List E} {xs : List T} (hs : evEs call es σ h = .ok xs h') : evE call (.new (.lst es)) σ h = .ok (.ref h'.length) (h' ++ [.lst xs]) := by
  simp only [evE, hs, R.bind_ok]
theorem ev_tup {es : List E} {xs : List T} (hs : evEs call es σ h = .ok xs h') : evE call (.tup es) σ h = .ok (.tup xs) h' := by
  simp only [evE, hs, R.bind_ok]
theorem ev_call {f : Nat} {es kws : List E} {perm : List Nat} {xs ys zs : List T} {r : R T} {h2 : Hs} (hs : evEs call es σ h = .ok xs h1) (hk : evEs call kws σ h1 = .ok ys h2) (hp : permT perm (xs ++ ys) = some zs) (hc : call f zs h2 = r) : evE call (.call f es kws perm) σ h = r := by
  simp only [evE, hs, hk, R.bind_ok, hp, R.of_some, hc]
theorem ev_var {i : Nat} {t : T} (hi : σ[i]? = some (some t)) : evE call (.var i) σ h = .ok t h := by simp only [evE, hi]
theorem ev_con {t : T} : evE call (.con t) σ h = .ok t h := by simp only [evE]
end

/-! ### comprehensions, one by one -/
section
variable {call : Calls} {σ : Env} {h h1 h' : Hs} {elt : E} {g : G} {it : I} {own : List Nat} {xs : List T}
theorem ev_comp {k : T → T} (hi : evI call it σ h = .ok xs h1) (hf : ∀ x ∈ xs, ∃ σ', asgG g x (wipeT σ own) = some σ' ∧ evE call elt σ' h1 = .ok (k x) h1) : evE call (.comp elt g it none own) σ h = .ok (.lst (xs.map k)) h1 := by
  have e := compR_map (f := fun x h => (R.of (asgG g x (wipeT σ own)) h).bind fun σ' h => asB (evC call none σ' h) fun k h => if k then (evE call elt σ' h).bind fun y h => .ok (some y) h else .ok none h) (g := k) (h := h1) (xs := xs) fun x hx => by
    obtain ⟨σ', e1, e2⟩ := hf x hx
    simp only [e1, R.of_some, R.bind_ok, evC, asB_ok, if_true, e2]
  simp only [evE, hi, R.bind_ok]
  exact congrArg (fun r => (noEx r).bind fun ys h => R.ok (T.lst ys) h) e
theorem ev_compF {k : T → T} {p : T → Bool} {c : E} (hi : evI call it σ h = .ok xs h1) (hf : ∀ x ∈ xs, ∃ σ', asgG g x (wipeT σ own) = some σ' ∧ evE call c σ' h1 = .ok (.bl (p x)) h1 ∧ (p x = true → evE call elt σ' h1 = .ok (k x) h1)) : evE call (.comp elt g it (some c) own) σ h = .ok (.lst ((xs.filter p).map k)) h1 := by
  have e := compR_of (f := fun x h => (R.of (asgG g x (wipeT σ own)) h).bind fun σ' h => asB (evC call (some c) σ' h) fun k h => if k then (evE call elt σ' h).bind fun y h => .ok (some y) h else .ok none h) (g := fun x => if p x then some (k x) else none) (h := h1) (xs := xs) fun x hx => by
    obtain ⟨σ', e1, e2, e3⟩ := hf x hx
    cases hp : p x with
    | false =>
      rw [hp] at e2
      simp [e1, R.of_some, R.bind_ok, evC, asB_ok, e2]
    | true =>
      rw [hp] at e2
      simp only [e1, R.of_some, R.bind_ok, evC, asB_ok, if_true, e2, e3 hp]
  have e4 : ∀ xs : List T, xs.filterMap (fun x => if p x then some (k x) else none) = (xs.filter p).map k := fun xs => by
    induction xs with
    | nil => rfl
    | cons x xs ih => cases hp : p x <;> simp only [List.filterMap_cons, List.filter_cons, hp, Bool.false_eq_true, if_false, if_true, ih, List.map_cons]
  rw [e4] at e
  simp only [evE, hi, R.bind_ok]
  exact congrArg (fun r => (noEx r).bind fun ys h => R.ok (T.lst ys) h) e
theorem bls_map {α : Type} {g : α → Bool} : ∀ {xs : List α}, blsOf (xs.map fun x => T.bl (g x)) = some (xs.map g)
  | [] => rfl
  | x :: xs => by simp only [List.map_cons, blsOf, bls_map]
theorem ints_map {α : Type} {g : α → Int} : ∀ {xs : List α}, intsOf (xs.map fun x => T.int (g x)) = some (xs.map g)
  | [] => rfl
  | x :: xs => by simp only [List.map_cons, intsOf, ints_map]
theorem ev_all {α : Type} {p : α → Bool} {ys : List α} {e : E} (he : evE call e σ h = .ok (.lst (ys.map fun y => .bl (p y))) h') : evE call (.blt .allL [e]) σ h = .ok (.bl (ys.all p)) h' := by
  simp only [evE, evEs, he, R.bind_ok, bltT, bls_map, R.of_some, List.all_map]
  rfl
theorem ev_any {α : Type} {p : α → Bool} {ys : List α} {e : E} (he : evE call e σ h = .ok (.lst (ys.map fun y => .bl (p y))) h') : evE call (.blt .anyL [e]) σ h = .ok (.bl (ys.any p)) h' := by
  simp only [evE, evEs, he, R.bind_ok, bltT, bls_map, R.of_some, List.any_map]
  rfl
theorem ev_and {a b : E} {x y : Bool} (ha : evE call a σ h = .ok (.bl x) h) (hb : x = true → evE call b σ h = .ok (.bl y) h) : evE call (.andE a b) σ h = .ok (.bl (x && y)) h := by
  simp only [evE, ha, asB_ok]
  cases x with
  | false => rfl
  | true => rw [if_pos rfl, hb rfl]; rfl
theorem ev_or {a b : E} {x y : Bool} (ha : evE call a σ h = .ok (.bl x) h) (hb : x = false → evE call b σ h = .ok (.bl y) h) : evE call (.orE a b) σ h = .ok (.bl (x || y)) h := by
  simp only [evE, ha, asB_ok]
  cases x with
  | false => simp only [Bool.false_eq_true, if_false, hb rfl, asB_ok, Bool.false_or]
  | true => rfl
theorem ev_not {a : E} {x : Bool} (ha : evE call a σ h = .ok (.bl x) h') : evE call (.notE a) σ h = .ok (.bl (!x)) h' := by
  simp only [evE, ha, asB_ok]
end

/-! ### statements, one by one -/
section
variable {call : Calls} {w : Nat} {ss : List S} {σ σ' : Env} {h h1 h' : Hs}
theorem ss_asg {g : G} {e : E} {x : T} (he : evE call e σ h = .ok x h') (ha : asgG g x σ = some σ') : evSs call w (.asg g e :: ss) σ h = evSs call w ss σ' h' := by
  simp only [evSs, evS, he, R.out_ok, ha, O.seq_nx]
theorem ss_set {i : Nat} {e : E} {x : T} (he : evE call e σ h = .ok x h') (hi : i < σ.length) : evSs call w (.asg (.name i) e :: ss) σ h = evSs call w ss (σ.set i (some x)) h' := by
  simp only [evSs, evS, he, R.out_ok, asgG, hi, if_true, O.seq_nx]
theorem ss_ret {e : E} {t : T} (he : evE call e σ h = .ok t h') : evSs call w (.ret e :: ss) σ h = .rt t h' := by
  simp only [evSs, evS, he, R.out_ok, O.seq_rt]
theorem ss_drop {e : E} {t : T} (he : evE call e σ h = .ok t h') : evSs call w (.drop e :: ss) σ h = evSs call w ss σ h' := by
  simp only [evSs, evS, he, R.out_ok, O.seq_nx]
theorem ss_if_t {c : E} {a b : List S} (hc : evE call c σ h = .ok (.bl true) h') : evSs call w (.ite c a b :: ss) σ h = (evSs call w a σ h').seq fun σ h => evSs call w ss σ h := by
  simp only [evSs, evS, hc, outB_ok, if_true]
theorem ss_if_f {c : E} {a : List S} (hc : evE call c σ h = .ok (.bl false) h') : evSs call w (.ite c a [] :: ss) σ h = evSs call w ss σ h' := by
  simp only [evSs, evS, hc, outB_ok, Bool.false_eq_true, if_false, O.seq_nx]
theorem ss_if_ret {c e : E} {a' b : List S} {t : T} (hc : evE call c σ h = .ok (.bl true) h1) (he : evE call e σ h1 = .ok t h') : evSs call w (.ite c (.ret e :: a') b :: ss) σ h = .rt t h' := by
  rw [ss_if_t hc, ss_ret he]; rfl
/-- a for's turn -/
abbrev turn (call : Calls) (w : Nat) (g : G) (body : List S) : T → Env → Hs → O := fun x σ h => match asgG g x σ with
  | some σ' => evSs call w body σ' h
  | none => .bad
theorem ss_for {g : G} {it : I} {body : List S} {xs : List T} (hi : evI call it σ h = .ok xs h1) (hl : loopO (turn call w g body) xs σ h1 = .nx σ' h') : evSs call w (.forS g it body :: ss) σ h = evSs call w ss σ' h' := by
  simp only [evSs, evS, hi, R.out_ok]
  exact (congrArg (fun o => O.seq o fun σ h => evSs call w ss σ h) hl).trans rfl
theorem ss_for_rt {g : G} {it : I} {body : List S} {xs : List T} {t : T} (hi : evI call it σ h = .ok xs h1) (hl : loopO (turn call w g body) xs σ h1 = .rt t h') : evSs call w (.forS g it body :: ss) σ h = .rt t h' := by
  simp only [evSs, evS, hi, R.out_ok]
  exact (congrArg (fun o => O.seq o fun σ h => evSs call w ss σ h) hl).trans rfl
end

/-! ### loops -/
theorem loop_inv {f : T → Env → Hs → O} {P : Nat → Env → Hs → Prop} : ∀ {xs : List T} {i : Nat} {σ : Env} {h : Hs}, P i σ h → (∀ x ∈ xs, ∀ (j : Nat) (σ : Env) (h : Hs), P j σ h → ∃ σ' h', f x σ h = .nx σ' h' ∧ P (j + 1) σ' h') →
    ∃ σ' h', loopO f xs σ h = .nx σ' h' ∧ P (i + xs.length) σ' h'
  | [], i, σ, h, hp, _ => ⟨σ, h, rfl, hp⟩
  | x :: xs, i, σ, h, hp, hf => by
    obtain ⟨σ1, h1, e1, p1⟩ := hf x List.mem_cons_self i σ h hp
    obtain ⟨σ2, h2, e2, p2⟩ := loop_inv (xs := xs) p1 fun y hy => hf y (List.mem_cons_of_mem _ hy)
    exact ⟨σ2, h2, by simp only [loopO, e1, e2], by simpa [Nat.add_assoc, Nat.add_comm 1] using p2⟩
/-- the same, the turn's number told -/
theorem loop_at {f : T → Env → Hs → O} {P : Nat → Env → Hs → Prop} : ∀ {xs : List T} {i : Nat} {σ : Env} {h : Hs}, P i σ h → (∀ (j : Nat) (x : T), xs[j]? = some x → ∀ (σ : Env) (h : Hs), P (i + j) σ h → ∃ σ' h', f x σ h = .nx σ' h' ∧ P (i + j + 1) σ' h') →
    ∃ σ' h', loopO f xs σ h = .nx σ' h' ∧ P (i + xs.length) σ' h'
  | [], i, σ, h, hp, _ => ⟨σ, h, rfl, hp⟩
  | x :: xs, i, σ, h, hp, hf => by
    obtain ⟨σ1, h1, e1, p1⟩ := hf 0 x rfl σ h hp
    obtain ⟨σ2, h2, e2, p2⟩ := loop_at (xs := xs) (i := i + 1) p1 fun j y hy σ h p => by
      have := hf (j + 1) y hy σ h (by rw [show i + (j + 1) = i + 1 + j by omega]; exact p)
      rw [show i + (j + 1) + 1 = i + 1 + j + 1 by omega] at this
      exact this
    exact ⟨σ2, h2, by simp only [loopO, e1, e2], by rw [show i + (x :: xs).length = i + 1 + xs.length by simp; omega]; exact p2⟩
/-- a search: the first item that answers ends it -/
theorem loop_find {f : T → Env → Hs → O} {P : Env → Prop} {r : T → Option T} {h : Hs} : ∀ {xs : List T} {σ : Env}, P σ → (∀ x ∈ xs, ∀ σ, P σ → (∀ t, r x = some t → f x σ h = .rt t h) ∧ (r x = none → ∃ σ', P σ' ∧ f x σ h = .nx σ' h)) →
    (∀ t, xs.findSome? r = some t → loopO f xs σ h = .rt t h) ∧ (xs.findSome? r = none → ∃ σ', P σ' ∧ loopO f xs σ h = .nx σ' h)
  | [], σ, hp, _ => ⟨fun t e => by simp at e, fun _ => ⟨σ, hp, rfl⟩⟩
  | x :: xs, σ, hp, hf => by
    obtain ⟨a, b⟩ := hf x List.mem_cons_self σ hp
    cases e : r x with
    | some u =>
      refine ⟨fun t et => ?_, fun et => ?_⟩
      · rw [List.findSome?_cons, e] at et
        cases et
        simp only [loopO, a u e]
      · rw [List.findSome?_cons, e] at et
        cases et
    | none =>
      obtain ⟨σ1, p1, e1⟩ := b e
      have ih := loop_find (xs := xs) p1 fun y hy => hf y (List.mem_cons_of_mem _ hy)
      refine ⟨fun t et => ?_, fun et => ?_⟩
      · rw [List.findSome?_cons, e] at et
        simp only [loopO, e1]
        exact ih.1 t et
      · rw [List.findSome?_cons, e] at et
        simp only [loopO, e1]
        exact ih.2 et
end SH
end

section
set_option autoImplicit false
set_option linter.all false
set_option maxRecDepth 100000
set_option maxHeartbeats 4000000
/-! Strandhues: the dice. -/
namespace SH
open PySem

/-- the dice stand at d; the count is at most m -/
def Dice (h : Hs) (d m : Nat) : Prop := ∃ a b c : Int, h[d]? = some (.lst [.int a, .int b, .int c]) ∧ 0 ≤ a ∧ 0 ≤ b ∧ b < 2147480009 ∧ 0 ≤ c ∧ c ≤ m
theorem Dice.lt {h : Hs} {d m : Nat} (D : Dice h d m) : d < h.length := by
  obtain ⟨a, b, c, e, _⟩ := D
  exact (List.getElem?_eq_some_iff.mp e).1
theorem Dice.le {h : Hs} {d m m' : Nat} (D : Dice h d m) (hm : m ≤ m') : Dice h d m' := by
  obtain ⟨a, b, c, e, h1, h2, h3, h4, h5⟩ := D
  exact ⟨a, b, c, e, h1, h2, h3, h4, by omega⟩
/-- h' is h but for what stands at d -/
def But (d : Nat) (h h' : Hs) : Prop := h'.length = h.length ∧ ∀ i, i ≠ d → h'[i]? = h[i]?
theorem But.refl (d : Nat) (h : Hs) : But d h h := ⟨rfl, fun _ _ => rfl⟩
theorem But.trans {d : Nat} {h h1 h2 : Hs} (a : But d h h1) (b : But d h1 h2) : But d h h2 := ⟨b.1.trans a.1, fun i n => (b.2 i n).trans (a.2 i n)⟩
theorem But.set {d : Nat} {h : Hs} {o : Cell} : But d h (h.set d o) := ⟨by simp, fun i n => by rw [List.getElem?_set_ne (fun z => n z.symm)]⟩
theorem ixN_of {n : Nat} {k : Nat} (h : k < n) : L2.ixN n (k : Int) = some k := by
  unfold L2.ixN
  simp [h]
def f_roll (nm nd nt nf : Str) : FD := { name := nm, params := [nd, nt], names := [nd, nt, nf], body := [.ite (.cmp .gt (.idx (.var 0) (.con (T.int 0))) (.con (T.int 0))) [.asg (.name 2) (.bin .mod (.blt .intOf [.idx (.var 0) (.con (T.int 0))]) (.var 1)),
    .setI (.var 0) (.con (T.int 0)) (.bin .fdiv (.idx (.var 0) (.con (T.int 0))) (.var 1)),
    .ret (.var 2)] [],
    .setI (.var 0) (.con (T.int 2)) (.bin .add (.idx (.var 0) (.con (T.int 2))) (.con (T.int 1))),
    .setI (.var 0) (.con (T.int 1)) (.bin .mod (.blt .intOf [.bin .add (.bin .add (.bin .mul (.idx (.var 0) (.con (T.int 1))) (.con (T.int 48271))) (.bin .mul (.bin .mul (.idx (.var 0) (.con (T.int 2))) (.idx (.var 0) (.con (T.int 2)))) (.con (T.int 2003)))) (.con (T.int 91))]) (.con (T.int 2147480009))),
    .ret (.bin .mod (.blt .intOf [.bin .fdiv (.idx (.var 0) (.con (T.int 1))) (.con (T.int 197))]) (.var 1))] }
theorem set_set {α : Type} (l : List α) (i : Nat) (a b : α) : (l.set i a).set i b = l.set i b := by simp
theorem roll_ok {Φ : Prog} {w n f d m : Nat} {nm nd nt nf : Str} {h : Hs} {total : Int} (hf : Φ[f]? = some (f_roll nm nd nt nf)) (D : Dice h d m) (h0 : 0 < total) (h1 : total < 1073741824) (hm : m < 1000000000) :
    ∃ (v : Int) (h' : Hs), callN Φ w (n + 1) f [.ref d, .int total] h = .ok (.int v) h' ∧ 0 ≤ v ∧ v < total ∧ Dice h' d (m + 1) ∧ But d h h' := by
  have hd := D.lt
  obtain ⟨a, b, c, e, a0, b0, b1, c0, c1⟩ := D
  by_cases ha : 0 < a
  · refine ⟨a % total, h.set d (.lst [.int (a / total), .int b, .int c]), ?_, Int.emod_nonneg _ (by omega), Int.emod_lt_of_pos _ h0, ⟨a / total, b, c, by simp [hd], Int.ediv_nonneg a0 (by omega), b0, b1, c0, by omega⟩, But.set⟩
    refine (call_ok hf rfl rfl (t := .int (a % total)) (h' := h.set d (.lst [.int (a / total), .int b, .int c])) rfl ?_).trans ?_
    · simp [f_roll, startT, evSs, evS, evE, evEs, bltT, binT, cmpT, idxT, seqOf, e, L2.atI, L2.ixN, ha, h0, h1, asgG, setT, okD]
    · rw [← List.length_set (as := h) (i := d) (a := .lst [.int (a / total), .int b, .int c]), List.take_length]
  · have : a = 0 := by omega
    subst this
    have m1 : mulOk b 48271 = true := by simp [mulOk, two64]
    have m2 : mulOk (c + 1) (c + 1) = true := by
      have z1 : decide (-two64 < c + 1) = true := decide_eq_true (by unfold two64; omega)
      have z2 : decide (c + 1 < two64) = true := decide_eq_true (by unfold two64; omega)
      simp [mulOk, z1, z2]
    have m3 : mulOk ((c + 1) * (c + 1)) 2003 = true := by simp [mulOk, two64]
    have hs : ∀ x, (h.set d x)[d]? = some x := fun x => List.getElem?_set_self hd
    generalize hb : (b * 48271 + (c + 1) * (c + 1) * 2003 + 91) % 2147480009 = b'
    have b2 : 0 ≤ b' := by rw [← hb]; exact Int.emod_nonneg _ (by decide)
    have b3 : b' < 2147480009 := by rw [← hb]; exact Int.emod_lt_of_pos _ (by decide)
    refine ⟨b' / 197 % total, h.set d (.lst [.int 0, .int b', .int (c + 1)]), ?_, Int.emod_nonneg _ (by omega), Int.emod_lt_of_pos _ h0, ⟨0, b', c + 1, by simp [hd], by omega, b2, b3, by omega, by omega⟩, But.set⟩
    refine (call_ok hf rfl rfl (t := .int (b' / 197 % total)) (h' := h.set d (.lst [.int 0, .int b', .int (c + 1)])) rfl ?_).trans ?_
    · simp [f_roll, startT, evSs, evS, evE, evEs, bltT, binT, cmpT, idxT, seqOf, e, hs, L2.atI, L2.ixN, h0, h1, asgG, setT, okD, m1, m2, m3, hb]
    · rw [← List.length_set (as := h) (i := d) (a := .lst [.int 0, .int b', .int (c + 1)]), List.take_length]
/-- things[roll] -/
def f_pick (nm nd nt : Str) (r : Nat) : FD := { name := nm, params := [nd, nt], names := [nd, nt], body := [.ret (.idx (.var 1) (.call r [.var 0, .blt .len [.var 1]] [] [0, 1]))] }
theorem okDs_at {k : Nat} : ∀ {xs : List T} {x : T}, okDs k xs = true → x ∈ xs → okD k x = true
  | [], _, _, h => by cases h
  | y :: ys, x, h, hm => by
    simp only [okDs, Bool.and_eq_true] at h
    rcases List.mem_cons.mp hm with rfl | hm
    · exact h.1
    · exact okDs_at h.2 hm
theorem okDs_all {k : Nat} : ∀ {xs : List T}, (∀ x ∈ xs, okD k x = true) → okDs k xs = true
  | [], _ => by simp [okDs]
  | y :: ys, h => by
    simp only [okDs, Bool.and_eq_true]
    exact ⟨h y List.mem_cons_self, okDs_all fun x hx => h x (List.mem_cons_of_mem _ hx)⟩
mutual
theorem okD_up {k : Nat} : ∀ {x : T}, okD k x = true → okD (k + 1) x = true
  | .non, _ => by simp only [okD]
  | .bl _, _ => by simp only [okD]
  | .int _, _ => by simp only [okD]
  | .str _, h => by simpa only [okD] using h
  | .tup xs, h => by
    cases k with
    | zero => simp [okD] at h
    | succ k =>
      simp only [okD] at h ⊢
      exact okDs_up h
  | .lst xs, h => by
    cases k with
    | zero => simp [okD] at h
    | succ k =>
      simp only [okD] at h ⊢
      exact okDs_up h
  | .scr _, h => by simp [okD] at h
  | .ref _, h => by simp [okD] at h
  | .fn _, h => by simp [okD] at h
theorem okDs_up {k : Nat} : ∀ {xs : List T}, okDs k xs = true → okDs (k + 1) xs = true
  | [], _ => by simp only [okDs]
  | y :: ys, h => by
    simp only [okDs, Bool.and_eq_true] at h ⊢
    exact ⟨okD_up h.1, okDs_up h.2⟩
end
theorem pick_ok {Φ : Prog} {w n f r d m : Nat} {nm nd nt nm' nd' nt' nf' : Str} {h : Hs} {xs : List T} (hf : Φ[f]? = some (f_pick nm nd nt r)) (hr : Φ[r]? = some (f_roll nm' nd' nt' nf')) (D : Dice h d m) (h0 : xs ≠ []) (h1 : xs.length < 1000000000) (hx : okDs 59 xs = true) (hm : m < 1000000000) :
    ∃ (k : Nat) (t : T) (h' : Hs), xs[k]? = some t ∧ callN Φ w (n + 2) f [.ref d, .lst xs] h = .ok t h' ∧ Dice h' d (m + 1) ∧ But d h h' := by
  have hl : 0 < xs.length := List.length_pos_iff.mpr h0
  obtain ⟨v, h', e, v0, v1, D', B⟩ := roll_ok (w := w) (n := n) hr D (total := (xs.length : Nat)) (by omega) (by omega) hm
  have hk : v.toNat < xs.length := by omega
  refine ⟨v.toNat, xs[v.toNat], h', List.getElem?_eq_getElem hk, ?_, D', B⟩
  have hok : okD 60 xs[v.toNat] = true := okD_up (okDs_at hx (List.getElem_mem hk))
  refine (call_ok hf rfl rfl (t := xs[v.toNat]) (h' := h') hok ?_).trans (by rw [← B.1, List.take_length])
  have ev : ((v.toNat : Nat) : Int) = v := by omega
  have ea : L2.atI xs v = some xs[v.toNat] := by
    unfold L2.atI L2.ixN
    rw [if_pos v0, if_pos (by omega)]
    exact List.getElem?_eq_getElem hk
  simp [f_pick, startT, evSs, evS, evE, evEs, bltT, idxT, seqOf, permT, e, ea]
def f_dice (nm ns np no nx nc : Str) : FD := { name := nm, params := [ns, np], names := [ns, np, no, nx, nc], fresh := true, body := [.asg (.name 2) (.ite (.cmp .lt (.var 1) (.blt .len [.var 0])) (.idx (.var 0) (.var 1)) (.bin .add (.bin .mul (.con (T.int 811)) (.var 1)) (.con (T.int 37)))),
    .asg (.name 3) (.bin .add (.con (T.int 700001)) (.bin .mul (.con (T.int 6947)) (.var 1))),
    .forS (.name 4) (.val (.bin .add (.slc (.var 0) none (some (.con (T.int 6)))) (.lst [.var 2]))) [.asg (.name 3) (.bin .mod (.blt .intOf [.bin .add (.bin .mul (.var 3) (.con (T.int 69621))) (.bin .mod (.blt .intOf [.var 4]) (.con (T.int 2147480009)))]) (.con (T.int 2147480009)))],
    .ret (.new (.lst [.ite (.orE (.cmp .lt (.var 2) (.con (T.int 0))) (.cmp .ge (.var 2) (.bin .pow (.con (T.int 10)) (.con (T.int 16))))) (.blt .absI [.var 2]) (.con (T.int 0)), .var 3, .con (T.int 0)]))] }
theorem cutM_len {xs : List T} {lo hi : Option Int} : (cutT xs lo hi).length ≤ xs.length := by
  unfold cutT
  rw [List.length_take, List.length_drop]
  omega
theorem cut_ints {ns : List Int} {lo hi : Option Int} : ∃ ms : List Int, cutT (ns.map T.int) lo hi = ms.map T.int := by
  unfold cutT
  exact ⟨_, by rw [← List.map_drop, ← List.map_take]⟩
theorem dice_ok {Φ : Prog} {w n f : Nat} {nm a1 a2 a3 a4 a5 : Str} {h : Hs} {ns : List Int} {spot : Nat} (hf : Φ[f]? = some (f_dice nm a1 a2 a3 a4 a5)) (hn : ns.length ≤ 1000) (hs : spot < 1000) :
    ∃ o : Cell, callN Φ w (n + 1) f [.scr ns, .int (spot : Nat)] h = .ok (.ref h.length) (h ++ [o]) ∧ Dice (h ++ [o]) h.length 0 := by
  obtain ⟨own, eo⟩ : ∃ own : Int, evE (callN Φ w n) (.ite (.cmp .lt (.var 1) (.blt .len [.var 0])) (.idx (.var 0) (.var 1)) (.bin .add (.bin .mul (.con (T.int 811)) (.var 1)) (.con (T.int 37)))) [some (.scr ns), some (.int (spot : Nat)), none, none, none] h = .ok (.int own) h := by
    by_cases hl : spot < ns.length
    · refine ⟨ns[spot], ?_⟩
      have ea : L2.atI (ns.map T.int) (spot : Nat) = some (T.int ns[spot]) := by
        unfold L2.atI
        rw [ixN_of (by simpa using hl)]
        simp [hl]
      simp [evE, evEs, bltT, cmpT, seqOf, hl, idxT, ea]
    · have hm : mulOk 811 (spot : Nat) = true := by simp [mulOk, two64]
      exact ⟨811 * (spot : Nat) + 37, by simp [evE, evEs, bltT, cmpT, seqOf, hl, binT, hm]⟩
  have hm2 : mulOk 6947 (spot : Nat) = true := by simp [mulOk, two64]
  obtain ⟨ms, em⟩ := cut_ints (ns := ns) (lo := none) (hi := some 6)
  have hml : ms.length ≤ 1000 := by
    have := cutM_len (xs := ns.map T.int) (lo := none) (hi := some 6)
    rw [em] at this
    simp at this
    omega
  obtain ⟨σ', h', e1, hp⟩ := loop_inv (f := fun x σ h => match asgG (.name 4) x σ with
      | some σ' => evSs (callN Φ w n) w [.asg (.name 3) (.bin .mod (.blt .intOf [.bin .add (.bin .mul (.var 3) (.con (T.int 69621))) (.bin .mod (.blt .intOf [.var 4]) (.con (T.int 2147480009)))]) (.con (T.int 2147480009)))] σ' h
      | none => .bad) (P := fun _ σ h' => h' = h ∧ ∃ (x : Int) (c : Option T), σ = [some (.scr ns), some (.int (spot : Nat)), some (.int own), some (.int x), c] ∧ 0 ≤ x ∧ x < 2147480009)
    (xs := (ms ++ [own]).map T.int) (i := 0) (σ := [some (.scr ns), some (.int (spot : Nat)), some (.int own), some (.int (700001 + 6947 * (spot : Nat))), none]) (h := h) ⟨rfl, _, _, rfl, by omega, by omega⟩
    (fun x hx j σ h1 hp => by
      obtain ⟨rfl, y, c, rfl, y0, y1⟩ := hp
      obtain ⟨z, _, rfl⟩ := List.mem_map.mp hx
      have m1 : mulOk y 69621 = true := by simp [mulOk, two64]
      refine ⟨_, h1, ?_, rfl, (y * 69621 + z % 2147480009) % 2147480009, some (.int z), rfl, Int.emod_nonneg _ (by decide), Int.emod_lt_of_pos _ (by decide)⟩
      simp [asgG, evSs, evS, evE, evEs, bltT, binT, m1])
  obtain ⟨rfl, y, c, rfl, y0, y1⟩ := hp
  obtain ⟨a, ea, a0⟩ : ∃ a : Int, evE (callN Φ w n) (.ite (.orE (.cmp .lt (.var 2) (.con (T.int 0))) (.cmp .ge (.var 2) (.bin .pow (.con (T.int 10)) (.con (T.int 16))))) (.blt .absI [.var 2]) (.con (T.int 0))) [some (.scr ns), some (.int (spot : Nat)), some (.int own), some (.int y), c] h' = .ok (.int a) h' ∧ 0 ≤ a := by
    by_cases hneg : own < 0
    · exact ⟨-own, by simp [evE, evEs, bltT, cmpT, binT, hneg], by omega⟩
    · by_cases hbig : (10 : Int) ^ 16 ≤ own
      · exact ⟨own, by
          have hbig : (10000000000000000 : Int) ≤ own := hbig
          simp [evE, evEs, bltT, cmpT, binT, hneg, hbig], by omega⟩
      · exact ⟨0, by
          have hbig : ¬ (10000000000000000 : Int) ≤ own := hbig
          simp [evE, evEs, bltT, cmpT, binT, hneg, hbig], by omega⟩
  refine ⟨.lst [.int a, .int y, .int 0], ?_, a, y, 0, by simp, a0, y0, y1, by omega, by omega⟩
  have e2 : evSs (callN Φ w n) w (f_dice nm a1 a2 a3 a4 a5).body (startT (f_dice nm a1 a2 a3 a4 a5) [.scr ns, .int (spot : Nat)]) h' = .rt (.ref h'.length) (h' ++ [.lst [.int a, .int y, .int 0]]) := by
    have st : startT (f_dice nm a1 a2 a3 a4 a5) [.scr ns, .int (spot : Nat)] = [some (.scr ns), some (.int (spot : Nat)), none, none, none] := rfl
    rw [st]
    have hle : ms.length + 1 ≤ LINE := by
      have : LINE = 16777216 := rfl
      omega
    refine (ss_set eo (by simp)).trans ((ss_set (x := .int (700001 + 6947 * (spot : Nat))) (h' := h') (by simp [evE, binT, hm2]) (by simp)).trans ((ss_for (xs := (ms ++ [own]).map T.int) (h1 := h') ?_ e1).trans (ss_ret ?_)))
    · simp [evI, evE, evEs, evO, intO, slcT, seqOf, em, binT, isLst, hle, walkT]
    · exact ev_newl (ev_cons ea (ev_cons (ev_var rfl) (ev_cons ev_con ev_nil)))
  rw [call_rt hf rfl e2]
  simp [finT, f_dice, okDs, okD]
end SH
end

section
set_option autoImplicit false
set_option linter.all false
set_option maxRecDepth 100000
set_option maxHeartbeats 4000000
/-! Strandhues: tables, and how the laws make them. -/
namespace SH
open PySem

/-- the row, the table of a map of places -/
def rowT (n : Nat) (m : Nat → Nat) : T := .tup ((List.range n).map fun j => .int (m j : Nat))
def tabT (n : Nat) (M : Nat → Nat → Nat) : T := .tup ((List.range n).map fun i => rowT n (M i))
def rowsD (n : Nat) (M : Nat → Nat → Nat) : Prop := ∀ i j, i < n → j < n → M i j < n
/-- a table with entries of its own size, at most k wide -/
def IsTab (k : Nat) (t : T) : Prop := ∃ n M, t = tabT n M ∧ 1 ≤ n ∧ n ≤ k ∧ rowsD n M
theorem tab_of (rows : List (List Nat)) (h : decide (1 ≤ rows.length) = true) (h2 : (rows.all fun r => decide (r.length = rows.length) && r.all fun x => decide (x < rows.length)) = true) :
    ∃ M, T.tup (rows.map fun r => .tup (r.map fun x => .int (x : Nat))) = tabT rows.length M ∧ rowsD rows.length M := by
  have h2 := List.all_eq_true.mp h2
  refine ⟨fun i j => (rows.getD i []).getD j 0, ?_, fun i j hi hj => ?_⟩
  · unfold tabT rowT
    congr 1
    refine List.ext_getElem (by simp) fun i h1 h3 => ?_
    have hi : i < rows.length := by simpa using h1
    have hr := h2 _ (List.getElem_mem hi)
    simp only [Bool.and_eq_true, decide_eq_true_eq] at hr
    simp only [List.getElem_map, List.getElem_range]
    congr 1
    refine List.ext_getElem (by simp [hr.1]) fun j h4 h5 => ?_
    have hj : j < rows[i].length := by simpa using h4
    simp [List.getD_eq_getElem?_getD, hi, hj]
  · have hr := h2 _ (List.getElem_mem hi)
    simp only [Bool.and_eq_true, decide_eq_true_eq, List.all_eq_true] at hr
    have hj' : j < rows[i].length := by omega
    have := hr.2 _ (List.getElem_mem hj')
    simpa [List.getD_eq_getElem?_getD, hi, hj'] using this
theorem okD_row {k n : Nat} {m : Nat → Nat} : okD (k + 1) (rowT n m) = true := by
  unfold rowT
  simp only [okD]
  refine okDs_all fun x hx => ?_
  obtain ⟨j, _, rfl⟩ := List.mem_map.mp hx
  simp only [okD]
theorem okD_tab {k n : Nat} {M : Nat → Nat → Nat} : okD (k + 2) (tabT n M) = true := by
  unfold tabT
  simp only [okD]
  refine okDs_all fun x hx => ?_
  obtain ⟨i, _, rfl⟩ := List.mem_map.mp hx
  exact okD_row
def b_law_known (c_law_pick : Nat) : List S := [.par [1, 2] [.tup [.tup [.con (T.int 0), .con (T.int 0)], .tup [.con (T.int 1), .con (T.int 1)]], .tup [.tup [.con (T.int 0), .con (T.int 2), .con (T.int 1)], .tup [.con (T.int 2), .con (T.int 1), .con (T.int 0)], .tup [.con (T.int 1), .con (T.int 0), .con (T.int 2)]]],
    .ret (.call c_law_pick [.var 0, .lst [.tup [.tup [.con (T.int 0)]], .var 1, .var 2, .var 2, .tup [.tup [.con (T.int 0), .con (T.int 0), .con (T.int 1)], .tup [.con (T.int 1), .con (T.int 1), .con (T.int 0)], .tup [.con (T.int 2), .con (T.int 2), .con (T.int 2)]], .tup [.tup [.con (T.int 0), .con (T.int 0), .con (T.int 0)], .tup [.con (T.int 1), .con (T.int 1), .con (T.int 1)], .tup [.con (T.int 2), .con (T.int 2), .con (T.int 2)]], .tup [.tup [.con (T.int 0), .con (T.int 2), .con (T.int 0), .con (T.int 2)], .tup [.con (T.int 3), .con (T.int 1), .con (T.int 3), .con (T.int 1)], .tup [.con (T.int 2), .con (T.int 0), .con (T.int 2), .con (T.int 0)], .tup [.con (T.int 1), .con (T.int 3), .con (T.int 1), .con (T.int 3)]], .tup [.tup [.con (T.int 0), .con (T.int 2), .con (T.int 3), .con (T.int 1)], .tup [.con (T.int 3), .con (T.int 1), .con (T.int 0), .con (T.int 2)], .tup [.con (T.int 1), .con (T.int 3), .con (T.int 2), .con (T.int 0)], .tup [.con (T.int 2), .con (T.int 0), .con (T.int 1), .con (T.int 3)]]]] [] [0, 1])]
def b_law_table (c_law_roll : Nat) (c_law_pick : Nat) (c_law_known : Nat) : List S := [.ite (.cmp .eq (.call c_law_roll [.var 0, .con (T.int 3)] [] [0, 1]) (.con (T.int 0))) [.ret (.call c_law_known [.var 0] [] [0])] [],
    .asg (.name 2) (.bin .add (.con (T.int 1)) (.call c_law_roll [.var 0, .var 1] [] [0, 1])),
    .asg (.name 3) (.new (.lst [])),
    .forS (.name 4) (.rng [.var 2]) [.par [5, 6] [.rng false [.var 2], .new (.lst [])],
    .forS (.name 7) (.rng [.var 2]) [.asg (.name 8) (.call c_law_pick [.var 0, .var 5] [] [0, 1]),
    .asg (.name 5) (.ite (.cmp .eq (.call c_law_roll [.var 0, .con (T.int 9)] [] [0, 1]) (.con (T.int 0))) (.var 5) (.comp (.var 9) (.name 9) (.val (.var 5)) (some (.cmp .ne (.var 9) (.var 8))) [9])),
    .asg (.name 5) (.ite (.cmp .gt (.blt .len [.var 5]) (.con (T.int 0))) (.var 5) (.lst [.con (T.int 0)])),
    .app (.var 6) (.var 8)],
    .freeze 6,
    .app (.var 3) (.var 6)],
    .freeze 3,
    .asg (.name 10) (.new (.comp (.new (.comp (.idx (.idx (.var 3) (.var 4)) (.var 11)) (.name 4) (.rng [.var 2]) none [4])) (.name 11) (.rng [.var 2]) none [11])),
    .ite (.cmp .eq (.call c_law_roll [.var 0, .con (T.int 2)] [] [0, 1]) (.con (T.int 0))) [.forS (.name 8) (.rng [.var 2]) [.setI (.idx (.var 10) (.var 8)) (.var 8) (.var 8)]] [],
    .freeze 10,
    .ret (.blt .tupleOf [.comp (.blt .tupleOf [.var 11]) (.name 11) (.val (.var 10)) none [11]])]

def knownL : List (List (List Nat)) := [[[0]], [[0, 0], [1, 1]], [[0, 2, 1], [2, 1, 0], [1, 0, 2]], [[0, 2, 1], [2, 1, 0], [1, 0, 2]], [[0, 0, 1], [1, 1, 0], [2, 2, 2]], [[0, 0, 0], [1, 1, 1], [2, 2, 2]], [[0, 2, 0, 2], [3, 1, 3, 1], [2, 0, 2, 0], [1, 3, 1, 3]], [[0, 2, 3, 1], [3, 1, 0, 2], [1, 3, 2, 0], [2, 0, 1, 3]]]
def knownT (rows : List (List Nat)) : T := .tup (rows.map fun r => .tup (r.map fun x => .int (x : Nat)))
theorem known_ok {Φ : Prog} {w n f r p d m : Nat} {h : Hs} {nm nd nt nm' nd' nt' nf' : Str} (hf : Is Φ f 1 3 (b_law_known p)) (hp : Φ[p]? = some (f_pick nm nd nt r)) (hr : Φ[r]? = some (f_roll nm' nd' nt' nf')) (D : Dice h d m) (hm : m < 1000000000) :
    ∃ rows h', rows ∈ knownL ∧ callN Φ w (n + 3) f [.ref d] h = .ok (knownT rows) h' ∧ Dice h' d (m + 1) ∧ But d h h' := by
  obtain ⟨k, t, h', ek, ec, D', B⟩ := pick_ok (w := w) (n := n) hp hr D (xs := knownL.map knownT) (by simp [knownL]) (by simp [knownL]) (by decide) hm
  rw [List.getElem?_map] at ek
  cases e : knownL[k]? with
  | none => rw [e] at ek; cases ek
  | some rows =>
    rw [e] at ek
    cases ek
    have hmem : rows ∈ knownL := List.mem_of_getElem? e
    have hok : okD 60 (knownT rows) = true := (show ∀ rows ∈ knownL, okD 60 (knownT rows) = true by decide) rows hmem
    refine ⟨rows, h', hmem, ?_, D', B⟩
    refine (hf.rt (t := knownT rows) (h' := h') rfl hok ?_).trans (by rw [← B.1, List.take_length])
    have ec' := ec
    simp only [knownL, knownT, List.map_cons, List.map_nil] at ec'
    simp [b_law_known, evSs, evS, evE, evEs, parT, permT]
    exact congrArg (fun q => O.seq (R.out q fun t h => O.rt t h) _) ec
end SH
end

section
set_option autoImplicit false
set_option linter.all false
set_option maxRecDepth 100000
set_option maxHeartbeats 4000000
/-! Strandhues: the shared tests of the text. -/
namespace SH
open PySem
def b_demand : List S := [.ite (.notE (.var 0)) [.raise 0 (.var 1)] []]
def b_is_in : List S := [.ret (.andE (.isi (.var 0) .int) (.andE (.notE (.isi (.var 0) .bool)) (.cmp2 .le .le (.var 1) (.var 0) (.var 2))))]
def b_is_tuple : List S := [.ret (.andE (.isi (.var 0) .tuple) (.cmp2 .le .le (.var 1) (.blt .len [.var 0]) (.var 2)))]
def b_are_in (c_is_in : Nat) (c_is_tuple : Nat) : List S := [.ret (.andE (.call c_is_tuple [.var 0, .var 1, .var 2] [] [0, 1, 2]) (.blt .allL [.comp (.call c_is_in [.var 5, .var 3, .var 4] [] [0, 1, 2]) (.name 5) (.val (.var 0)) none [5]]))]
def b_rows_over : List S := [.asg (.name 2) (.lst [.tup []]),
    .forS (.name 3) (.rng [.var 0]) [.asg (.name 4) (.new (.lst [])),
    .forS (.name 5) (.val (.var 2)) [.ext (.var 4) (.comp (.bin .add (.var 5) (.tup [.var 6])) (.name 6) (.rng [.var 1]) none [6])],
    .freeze 4,
    .asg (.name 2) (.var 4)],
    .ret (.var 2)]
def b_is_table (c_is_tuple : Nat) (c_are_in : Nat) : List S := [.ite (.notE (.call c_is_tuple [.var 0, .con (T.int 1), .glo 0 (T.int 5)] [] [0, 1, 2])) [.ret (.con (T.bl false))] [],
    .asg (.name 1) (.blt .len [.var 0]),
    .ret (.blt .allL [.comp (.call c_are_in [.var 2, .var 1, .var 1, .con (T.int 0), .bin .sub (.var 1) (.con (T.int 1))] [] [0, 1, 2, 3, 4]) (.name 2) (.val (.var 0)) none [2]])]
def b_demand_table (c_demand : Nat) (c_is_table : Nat) : List S := [.drop (.call c_demand [.call c_is_table [.var 0] [] [0], .var 1] [] [0, 1])]

/-- no cell, no script -/
def plain : T → Bool
  | .scr _ => false
  | .ref _ => false
  | .fn _ => false
  | _ => true
theorem plain_of {k : Nat} {x : T} (h : okD k x = true) : plain x = true := by
  cases x <;> first | rfl | (simp [okD] at h)
def inZ (x : T) (lo hi : Int) : Bool := match x with
  | .int v => decide (lo ≤ v) && decide (v ≤ hi)
  | _ => false
def tupB (x : T) (lo hi : Nat) : Bool := match x with
  | .tup xs => decide (lo ≤ xs.length) && decide (xs.length ≤ hi)
  | _ => false
section
variable {Φ : Prog} {w n f : Nat} {h : Hs}
theorem is_in_ok {x : T} {lo hi : Int} (I : Is Φ f 3 3 b_is_in) (hx : plain x = true) : callN Φ w (n + 1) f [x, .int lo, .int hi] h = .ok (.bl (inZ x lo hi)) h := by
  refine I.rt0 rfl rfl ?_
  cases x <;> first | (simp [plain] at hx; done) | skip
  all_goals simp [b_is_in, evSs, evS, evE, isiT, cmpT, inZ]
  rename_i v
  by_cases h1 : lo ≤ v <;> simp [h1]
theorem is_tuple_ok {x : T} {lo hi : Nat} (I : Is Φ f 3 3 b_is_tuple) (hx : plain x = true) : callN Φ w (n + 1) f [x, .int (lo : Nat), .int (hi : Nat)] h = .ok (.bl (SH.tupB x lo hi)) h := by
  refine I.rt0 rfl rfl ?_
  cases x <;> first | (simp [plain] at hx; done) | skip
  all_goals simp [b_is_tuple, evSs, evS, evE, evEs, isiT, cmpT, SH.tupB, bltT, seqOf]
  rename_i xs
  by_cases h1 : lo ≤ xs.length <;> simp [h1]
theorem demand_ok {x : T} (I : Is Φ f 2 2 b_demand) : callN Φ w (n + 1) f [.bl true, x] h = .ok .non h := by
  refine I.nx0 (σ := [some (.bl true), some x]) rfl ?_
  simp [b_demand, evSs, evS, evE, st0]
theorem demand_ex {s : Str} (I : Is Φ f 2 2 b_demand) (hs : strOkB s = true) : callN Φ w (n + 1) f [.bl false, .str s] h = .ex 0 (.str s) h := by
  refine (I.exn (t := .str s) (h' := h) rfl (by simpa only [okD] using hs) ?_).trans (by rw [List.take_length])
  simp [b_demand, evSs, evS, evE, okD, hs]
def areB (x : T) (a b : Nat) (lo hi : Int) : Bool := match x with
  | .tup xs => decide (a ≤ xs.length) && decide (xs.length ≤ b) && xs.all fun y => inZ y lo hi
  | _ => false
theorem are_in_ok {p q a b : Nat} {x : T} {lo hi : Int} (I : Is Φ f 5 6 (b_are_in p q)) (Ip : Is Φ p 3 3 b_is_in) (Iq : Is Φ q 3 3 b_is_tuple) (hx : okD 60 x = true) : callN Φ w (n + 2) f [x, .int (a : Nat), .int (b : Nat), .int lo, .int hi] h = .ok (.bl (areB x a b lo hi)) h := by
  refine I.rt0 rfl rfl ?_
  have e1 := is_tuple_ok (w := w) (n := n) (h := h) (lo := a) (hi := b) Iq (plain_of hx)
  cases ht : SH.tupB x a b with
  | false =>
    rw [ht] at e1
    have : areB x a b lo hi = false := by
      cases x <;> first | rfl | skip
      simp only [SH.tupB] at ht
      simp only [areB, ht, Bool.false_and]
    simp [b_are_in, evSs, evS, evE, evEs, permT, e1, this]
  | true =>
    rw [ht] at e1
    cases x <;> first | (simp [SH.tupB] at ht; done) | skip
    rename_i xs
    have hxs : okDs 59 xs = true := by simpa only [okD] using hx
    have : areB (.tup xs) a b lo hi = (true && xs.all fun y => inZ y lo hi) := by
      simp only [SH.tupB] at ht
      simp only [areB, ht]
    rw [this]
    refine ss_ret (ev_and (by simp [evE, evEs, permT, e1]) fun _ => ev_all (ev_comp (xs := xs) (k := fun y => .bl (inZ y lo hi)) (by simp [evI, evE, walkT]) fun y hy => ?_))
    have e2 := is_in_ok (w := w) (n := n) (h := h) (lo := lo) (hi := hi) Ip (plain_of (okDs_at hxs hy))
    exact ⟨_, rfl, by simp [evE, evEs, permT, e2, wipeT]⟩
def isTableB (x : T) : Bool := match x with
  | .tup xs => decide (1 ≤ xs.length) && decide (xs.length ≤ 5) && xs.all fun y => areB y xs.length xs.length 0 ((xs.length : Nat) - 1)
  | _ => false
theorem is_table_ok {p q r : Nat} {x : T} (I : Is Φ f 1 3 (b_is_table q r)) (Ir : Is Φ r 5 6 (b_are_in p q)) (Ip : Is Φ p 3 3 b_is_in) (Iq : Is Φ q 3 3 b_is_tuple) (hx : okD 60 x = true) : callN Φ w (n + 3) f [x] h = .ok (.bl (isTableB x)) h := by
  refine I.rt0 rfl rfl ?_
  have e1 := is_tuple_ok (w := w) (n := n + 1) (h := h) (lo := 1) (hi := 5) Iq (plain_of hx)
  cases ht : SH.tupB x 1 5 with
  | false =>
    rw [ht] at e1
    have : isTableB x = false := by
      cases x <;> first | rfl | skip
      simp only [SH.tupB] at ht
      simp only [isTableB, ht, Bool.false_and]
    rw [this]
    exact ss_if_ret (h1 := h) (ev_not (x := false) (by simpa [evE, evEs, permT] using e1)) ev_con
  | true =>
    rw [ht] at e1
    cases x <;> first | (simp [SH.tupB] at ht; done) | skip
    rename_i xs
    have hxs : okDs 59 xs = true := by simpa only [okD] using hx
    have : isTableB (.tup xs) = xs.all fun y => areB y xs.length xs.length 0 ((xs.length : Nat) - 1) := by
      simp only [SH.tupB] at ht
      simp only [isTableB, ht, Bool.true_and]
    rw [this]
    refine (ss_if_f (h' := h) (ev_not (x := true) (by simpa [evE, evEs, permT] using e1))).trans ?_
    refine (ss_set (x := .int (xs.length : Nat)) (h' := h) (by simp [evE, evEs, bltT, seqOf]) (by simp)).trans ?_
    refine ss_ret (ev_all (ev_comp (xs := xs) (k := fun y => .bl (areB y xs.length xs.length 0 ((xs.length : Nat) - 1))) (by simp [evI, evE, walkT]) fun y hy => ?_))
    have e2 := are_in_ok (w := w) (n := n) (h := h) (a := xs.length) (b := xs.length) (lo := 0) (hi := (xs.length : Nat) - 1) Ir Ip Iq (okD_up (okDs_at hxs hy))
    exact ⟨_, rfl, by simp [evE, evEs, permT, binT, e2, wipeT]⟩
theorem tab_good {k : Nat} {M : Nat → Nat → Nat} (h1 : 1 ≤ k) (h5 : k ≤ 5) (hM : rowsD k M) : isTableB (tabT k M) = true := by
  unfold tabT isTableB
  simp only [List.length_map, List.length_range, h1, h5, decide_true, Bool.true_and, List.all_eq_true]
  intro y hy
  obtain ⟨i, hi, rfl⟩ := List.mem_map.mp hy
  unfold rowT areB
  simp only [List.length_map, List.length_range, Nat.le_refl, decide_true, Bool.true_and, List.all_eq_true]
  intro z hz
  obtain ⟨j, hj, rfl⟩ := List.mem_map.mp hz
  have := hM i j (List.mem_range.mp hi) (List.mem_range.mp hj)
  simp only [inZ, Bool.and_eq_true, decide_eq_true_eq]
  omega
theorem demand_table_ok {p q r s u : Nat} {x y : T} (I : Is Φ f 2 2 (b_demand_table s u)) (Iu : Is Φ u 1 3 (b_is_table q r)) (Is' : Is Φ s 2 2 b_demand) (Ir : Is Φ r 5 6 (b_are_in p q)) (Ip : Is Φ p 3 3 b_is_in) (Iq : Is Φ q 3 3 b_is_tuple) (hx : okD 60 x = true) (ht : isTableB x = true) :
    callN Φ w (n + 4) f [x, y] h = .ok .non h := by
  have e1 := is_table_ok (w := w) (n := n) (h := h) Iu Ir Ip Iq hx
  rw [ht] at e1
  have e2 := demand_ok (w := w) (n := n + 2) (h := h) (x := y) Is'
  refine I.nx0 (σ := [some x, some y]) rfl ?_
  refine (ss_drop (t := .non) (h' := h) ?_).trans (by simp [evSs, st0])
  simp [evE, evEs, permT, e1, e2]
end
end SH
end

section
set_option autoImplicit false
set_option linter.all false
set_option maxRecDepth 100000
set_option maxHeartbeats 4000000
/-! Strandhues: ranges, rows over a size. -/
namespace SH
open PySem

/-- a search over things of any kind -/
theorem loop_findM {α : Type} {emb : α → T} {f : T → Env → Hs → O} {P : Env → Prop} {r : α → Option T} {h : Hs} : ∀ {l : List α} {σ : Env}, P σ → (∀ x ∈ l, ∀ σ, P σ → match r x with
      | some t => f (emb x) σ h = .rt t h
      | none => ∃ σ', P σ' ∧ f (emb x) σ h = .nx σ' h) →
    match l.findSome? r with
      | some t => loopO f (l.map emb) σ h = .rt t h
      | none => ∃ σ', P σ' ∧ loopO f (l.map emb) σ h = .nx σ' h
  | [], σ, hp, _ => ⟨σ, hp, rfl⟩
  | x :: l, σ, hp, hf => by
    have h1 := hf x List.mem_cons_self σ hp
    rw [List.findSome?_cons]
    cases e : r x with
    | some t =>
      rw [e] at h1
      simp only [List.map_cons, loopO, h1]
    | none =>
      rw [e] at h1
      obtain ⟨σ1, p1, e1⟩ := h1
      have ih := loop_findM (l := l) (σ := σ1) p1 fun y hy => hf y (List.mem_cons_of_mem _ hy)
      simp only [List.map_cons, loopO, e1]
      exact ih
def natT (n : Nat) : T := .int (n : Nat)
theorem rngL_nat {n : Nat} : rngL 0 n = (List.range n).map natT := by
  unfold rngL natT
  exact List.map_congr_left fun i _ => by rw [Int.zero_add]
theorem rng_nat {n : Nat} (hn : n ≤ 1000000) : rngT [.int (n : Nat)] = some ((List.range n).map natT) := by
  have h : ((n : Nat) : Int) ≤ 1000000 ∧ -two62 ≤ ((n : Nat) : Int) := ⟨by omega, by unfold two62; omega⟩
  simp only [rngT, if_pos h, Int.toNat_natCast, rngL_nat]
theorem rng_two {a b : Nat} (ha : a ≤ 1000000) (hb : b ≤ 1000000) : rngT [.int (a : Nat), .int (b : Nat)] = some ((List.range (b - a)).map fun i => natT (a + i)) := by
  have h : -two62 ≤ ((a : Nat) : Int) ∧ ((a : Nat) : Int) < two62 ∧ -two62 ≤ ((b : Nat) : Int) ∧ ((b : Nat) : Int) < two62 ∧ ((b : Nat) : Int) - (a : Nat) ≤ 1000000 := ⟨by unfold two62; omega, by unfold two62; omega, by unfold two62; omega, by unfold two62; omega, by omega⟩
  have e : (((b : Nat) : Int) - (a : Nat)).toNat = b - a := by omega
  simp only [rngT, if_pos h, e]
  unfold rngL natT
  exact congrArg some (List.map_congr_left fun i _ => by simp)
/-- the rows of m places over n, in order -/
def rowsOver (n : Nat) : Nat → List (List Nat)
  | 0 => [[]]
  | m + 1 => (rowsOver n m).flatMap fun r => (List.range n).map fun x => r ++ [x]
def tupN (r : List Nat) : T := .tup (r.map natT)
theorem rowsOver_len {n : Nat} : ∀ {m : Nat} {r : List Nat}, r ∈ rowsOver n m → r.length = m
  | 0, r, h => by simp [rowsOver] at h; simp [h]
  | m + 1, r, h => by
    simp only [rowsOver, List.mem_flatMap, List.mem_map] at h
    obtain ⟨r', h1, x, _, rfl⟩ := h
    simp [rowsOver_len h1]
theorem rowsOver_size {n : Nat} : ∀ {m : Nat}, (rowsOver n m).length = n ^ m
  | 0 => rfl
  | m + 1 => by
    have : ∀ l : List (List Nat), (l.flatMap fun r => (List.range n).map fun x => r ++ [x]).length = l.length * n := fun l => by
      induction l with
      | nil => simp
      | cons a l ih => simp [List.flatMap_cons, ih, Nat.succ_mul, Nat.add_comm]
    rw [rowsOver, this, rowsOver_size, Nat.pow_succ]
theorem okD_tupN {k : Nat} {r : List Nat} : okD (k + 1) (tupN r) = true := by
  unfold tupN
  simp only [okD]
  refine okDs_all fun x hx => ?_
  obtain ⟨j, _, rfl⟩ := List.mem_map.mp hx
  simp only [natT, okD]
section
variable {Φ : Prog} {w n f : Nat} {h : Hs}
theorem rows_turn {call : Calls} {s : Nat} {r : List Nat} {σ : Env} {hh : Hs} {i : Nat} (h5 : σ[5]? = some (some (tupN r))) (h1 : σ[1]? = some (some (natT s))) (hl : σ.length = 7) (hs : s ≤ 1000) (hr : r.length ≤ 1000) :
    evE call (.comp (.bin .add (.var 5) (.tup [.var 6])) (.name 6) (.rng [.var 1]) none [6]) σ hh = .ok (.lst ((List.range s).map fun x => tupN (r ++ [x]))) hh := by
  have hle : r.length + 1 ≤ LINE := by
    have : LINE = 16777216 := rfl
    omega
  have e := ev_comp (call := call) (σ := σ) (h := hh) (h1 := hh) (elt := .bin .add (.var 5) (.tup [.var 6])) (g := .name 6) (it := .rng [.var 1]) (own := [6]) (xs := (List.range s).map natT) (k := fun x => match x with
      | .int v => tupN (r ++ [v.toNat])
      | t => t) (by
        have := rng_nat (n := s) (by omega)
        simp only [evI, evEs, evE, h1, R.bind_ok, natT, this, R.of_some]) fun x hx => by
      obtain ⟨j, _, rfl⟩ := List.mem_map.mp hx
      refine ⟨(wipeT σ [6]).set 6 (some (natT j)), by simp [asgG, wipeT, hl], ?_⟩
      have g5 : ((wipeT σ [6]).set 6 (some (natT j)))[5]? = some (some (tupN r)) := by
        simp only [wipeT]
        rw [List.getElem?_set_ne (by decide), List.getElem?_set_ne (by decide), h5]
      have g6 : ((wipeT σ [6]).set 6 (some (natT j)))[6]? = some (some (natT j)) := by
        simp only [wipeT]
        rw [List.getElem?_set_self (by simp [hl])]
      generalize (wipeT σ [6]).set 6 (some (natT j)) = σ' at g5 g6 ⊢
      simp [evE, evEs, g5, g6, tupN, binT, hle, natT]
  rw [e, List.map_map]
  congr 2
def flatN (s : Nat) (l : List (List Nat)) : List T := l.flatMap fun r => (List.range s).map fun x => tupN (r ++ [x])
theorem flatN_len {s : Nat} {l : List (List Nat)} : (flatN s l).length = l.length * s := by
  unfold flatN
  induction l with
  | nil => simp
  | cons a l ih => simp [List.flatMap_cons, ih, Nat.succ_mul, Nat.add_comm]
theorem flatN_rows {s i : Nat} : flatN s (rowsOver s i) = (rowsOver s (i + 1)).map tupN := by
  unfold flatN
  rw [rowsOver, List.map_flatMap]
  congr 1
  funext r
  rw [List.map_map]; rfl
theorem at_end {h : Hs} {o : Cell} : (h ++ [o])[h.length]? = some o := by simp
theorem set_end {h : Hs} {o o' : Cell} : (h ++ [o]).set h.length o' = h ++ [o'] := by simp
theorem rows_inner {call : Calls} {c s i : Nat} {a x : T} {rs : List (List Nat)} {hh : Hs} {s5 s6 : Option T} (hs : s ≤ 1000) (hr : ∀ r ∈ rs, r.length ≤ 1000) (hlen : rs.length * s ≤ 1000000) (b : T) (hc : c = hh.length) :
    ∃ s5' s6', loopO (turn call w (.name 5) [.ext (.var 4) (.comp (.bin .add (.var 5) (.tup [.var 6])) (.name 6) (.rng [.var 1]) none [6])]) (rs.map tupN) [some a, some (natT s), some b, some x, some (.ref c), s5, s6] (hh ++ [.lst []]) =
      .nx [some a, some (natT s), some b, some x, some (.ref c), s5', s6'] (hh ++ [.lst (flatN s rs)]) := by
  subst hc
  obtain ⟨σ', h', el, h1, s5', s6', h2⟩ := loop_at (f := turn call w (.name 5) [.ext (.var 4) (.comp (.bin .add (.var 5) (.tup [.var 6])) (.name 6) (.rng [.var 1]) none [6])]) (xs := rs.map tupN) (i := 0) (σ := [some a, some (natT s), some b, some x, some (.ref hh.length), s5, s6]) (h := hh ++ [.lst []])
    (P := fun j σ h' => h' = hh ++ [.lst (flatN s (rs.take j))] ∧ ∃ s5 s6, σ = [some a, some (natT s), some b, some x, some (.ref hh.length), s5, s6]) ⟨rfl, s5, s6, rfl⟩ fun j y hy σ h' hP => by
      obtain ⟨rfl, t5, t6, rfl⟩ := hP
      rw [List.getElem?_map] at hy
      cases hj : rs[j]? with
      | none => rw [hj] at hy; cases hy
      | some r =>
        rw [hj] at hy
        cases hy
        have hjl := (List.getElem?_eq_some_iff.mp hj).1
        have hrl := hr r (List.mem_of_getElem? hj)
        rw [Nat.zero_add]
        have e := rows_turn (call := call) (s := s) (r := r) (σ := [some a, some (natT s), some b, some x, some (.ref hh.length), some (tupN r), t6]) (hh := hh ++ [.lst (flatN s (rs.take j))]) (i := 0) rfl rfl rfl hs hrl
        refine ⟨[some a, some (natT s), some b, some x, some (.ref hh.length), some (tupN r), t6], hh ++ [.lst (flatN s (rs.take (j + 1)))], ?_, rfl, _, _, rfl⟩
        have hk : (flatN s (rs.take j)).length + ((List.range s).map fun x => tupN (r ++ [x])).length ≤ LINE := by
          have hL : LINE = 16777216 := rfl
          rw [flatN_len, List.length_map, List.length_range, List.length_take, Nat.min_eq_left (by omega)]
          have : (j + 1) * s ≤ rs.length * s := Nat.mul_le_mul_right s hjl
          rw [Nat.succ_mul] at this
          omega
        have hd : okDs 50 ((List.range s).map fun x => tupN (r ++ [x])) = true := okDs_all fun z hz => by
          obtain ⟨v, _, rfl⟩ := List.mem_map.mp hz
          exact okD_tupN
        have ef : flatN s (rs.take j) ++ ((List.range s).map fun x => tupN (r ++ [x])) = flatN s (rs.take (j + 1)) := by
          rw [List.take_succ, hj]
          unfold flatN
          simp
        have ev : evE call (.var 4) [some a, some (natT s), some b, some x, some (.ref hh.length), some (tupN r), t6] (hh ++ [.lst (flatN s (rs.take j))]) = .ok (.ref hh.length) (hh ++ [.lst (flatN s (rs.take j))]) := by simp [evE]
        have ecb : cellB (hh ++ [.lst (flatN s (rs.take j))]) (.ref hh.length) = true := by simp only [cellB, at_end]
        have ex : extT (hh ++ [.lst (flatN s (rs.take j))]) (.ref hh.length) (.lst ((List.range s).map fun x => tupN (r ++ [x]))) = some (hh ++ [.lst (flatN s (rs.take (j + 1)))]) := by
          simp only [extT, at_end]
          rw [if_pos ⟨hk, hd⟩, ef, set_end]
        show evSs call w _ [some a, some (natT s), some b, some x, some (.ref hh.length), some (tupN r), t6] _ = _
        simp only [evSs, evS, ev, R.out_ok, ecb, if_true, e, ex, O.seq_nx]
  refine ⟨s5', s6', ?_⟩
  rw [el, h1, h2]
  rw [Nat.zero_add, List.length_map, List.take_length]
theorem rows_ok {m s : Nat} (I : Is Φ f 2 7 b_rows_over) (hm : m ≤ 1000) (hs : s ≤ 1000) (hp : ∀ i, i ≤ m → s ^ i ≤ 1000000) : callN Φ w (n + 1) f [natT m, natT s] h = .ok (.lst ((rowsOver s m).map tupN)) h := by
  obtain ⟨σ', h', el, ht, s3, s4, s5, s6, rfl⟩ := loop_at (f := turn (callN Φ w n) w (.name 3) [.asg (.name 4) (.new (.lst [])),
    .forS (.name 5) (.val (.var 2)) [.ext (.var 4) (.comp (.bin .add (.var 5) (.tup [.var 6])) (.name 6) (.rng [.var 1]) none [6])],
    .freeze 4,
    .asg (.name 2) (.var 4)]) (xs := (List.range m).map natT) (i := 0) (h := h) (σ := [some (natT m), some (natT s), some (.lst [.tup []]), none, none, none, none])
    (P := fun i σ hh => hh.take h.length = h ∧ ∃ s3 s4 s5 s6, σ = [some (natT m), some (natT s), some (.lst ((rowsOver s i).map tupN)), s3, s4, s5, s6])
    ⟨List.take_length, none, none, none, none, rfl⟩
    fun i x hx σ hh hP => by
      obtain ⟨ht, s3, s4, s5, s6, rfl⟩ := hP
      rw [Nat.zero_add]
      have hi : i < m := by
        have := (List.getElem?_eq_some_iff.mp hx).1
        simpa using this
      have hsz : (rowsOver s i).length * s ≤ 1000000 := by
        rw [rowsOver_size, ← Nat.pow_succ]
        exact hp (i + 1) hi
      obtain ⟨u5, u6, e⟩ := rows_inner (call := callN Φ w n) (w := w) (c := hh.length) (s := s) (i := i) (a := natT m) (x := x) (rs := rowsOver s i) (hh := hh) (s5 := s5) (s6 := s6) hs (fun r hr => by rw [rowsOver_len hr]; omega) hsz (.lst ((rowsOver s i).map tupN)) rfl
      have hlh : h.length ≤ hh.length := by
        have := congrArg List.length ht
        rw [List.length_take] at this
        omega
      refine ⟨[some (natT m), some (natT s), some (.lst ((rowsOver s (i + 1)).map tupN)), some x, some (.lst ((rowsOver s (i + 1)).map tupN)), u5, u6], hh ++ [.dead], ?_, ?_, some x, some (.lst ((rowsOver s (i + 1)).map tupN)), u5, u6, rfl⟩
      · show evSs (callN Φ w n) w _ [some (natT m), some (natT s), some (.lst ((rowsOver s i).map tupN)), some x, s4, s5, s6] hh = _
        refine (ss_set (x := .ref hh.length) (h' := hh ++ [.lst []]) (by simp [evE, evEs]) (by simp)).trans ?_
        refine (ss_for (xs := (rowsOver s i).map tupN) (h1 := hh ++ [.lst []]) (by simp [evI, evE, walkT]) e).trans ?_
        rw [flatN_rows]
        simp [evSs, evS, evE, freezeT, asgG]
      · rw [List.take_append_of_le_length hlh, ht]
  refine (I.rt (t := .lst ((rowsOver s m).map tupN)) (h' := h') rfl ?_ ?_).trans (by rw [ht])
  · simp only [okD]
    refine okDs_all fun z hz => ?_
    obtain ⟨r, _, rfl⟩ := List.mem_map.mp hz
    exact okD_tupN
  · refine (ss_set (x := .lst [.tup []]) (h' := h) (by simp [evE, evEs]) (by simp [st0])).trans ?_
    refine (ss_for (xs := (List.range m).map natT) (h1 := h) ?_ el).trans (ss_ret ?_)
    · have := rng_nat (n := m) (by omega)
      simp [evI, evEs, evE, st0, natT] at this ⊢
      simp [this, natT]
    · simp [evE]
end
end SH
end

section
set_option autoImplicit false
set_option linter.all false
set_option maxRecDepth 100000
set_option maxHeartbeats 4000000
/-! Strandhues: tables that fit. -/
namespace SH
open PySem
def b_unlevel (c_rows_over : Nat) : List S := [.forS (.tup [.name 1, .name 2, .name 3]) (.val (.call c_rows_over [.con (T.int 3), .blt .len [.var 0]] [] [0, 1])) [.ite (.cmp .ne (.idx (.idx (.var 0) (.idx (.idx (.var 0) (.var 1)) (.var 2))) (.var 3)) (.idx (.idx (.var 0) (.idx (.idx (.var 0) (.var 1)) (.var 3))) (.idx (.idx (.var 0) (.var 2)) (.var 3)))) [.ret (.tup [.var 1, .var 2, .var 3])] []],
    .ret (.con (T.non))]
def b_misfit_of (c_unlevel : Nat) : List S := [.asg (.name 1) (.blt .len [.var 0]),
    .forS (.name 2) (.rng [.var 1]) [.ite (.cmp .ne (.idx (.idx (.var 0) (.var 2)) (.var 2)) (.var 2)) [.ret (.tup [.con (T.str (Str.ofString "twist")), .var 2])] []],
    .forS (.name 2) (.rng [.var 1]) [.forS (.name 3) (.rng [.bin .add (.var 2) (.con (T.int 1)), .var 1]) [.forS (.name 4) (.rng [.var 1]) [.ite (.cmp .eq (.idx (.idx (.var 0) (.var 2)) (.var 4)) (.idx (.idx (.var 0) (.var 3)) (.var 4))) [.ret (.tup [.con (T.str (Str.ofString "slip")), .var 2, .var 3, .var 4])] []]]],
    .asg (.name 5) (.call c_unlevel [.var 0] [] [0]),
    .ret (.ite (.isN (.var 5)) (.con (T.non)) (.bin .add (.tup [.con (T.str (Str.ofString "slide"))]) (.var 5)))]
def b_does_fit (c_demand_table : Nat) (c_misfit_of : Nat) : List S := [.drop (.call c_demand_table [.var 0, .con (T.str (Str.ofString "table"))] [] [0, 1]),
    .ret (.isN (.call c_misfit_of [.var 0] [] [0]))]
def b_misfit (c_demand_table : Nat) (c_misfit_of : Nat) : List S := [.drop (.call c_demand_table [.var 0, .con (T.str (Str.ofString "table"))] [] [0, 1]),
    .ret (.call c_misfit_of [.var 0] [] [0])]

theorem at_range {n i : Nat} {g : Nat → T} (hi : i < n) : L2.atI ((List.range n).map g) (i : Nat) = some (g i) := by
  unfold L2.atI
  rw [ixN_of (by simpa using hi)]
  simp [hi]
section
variable {call : Calls} {σ : Env} {h h' : Hs}
theorem ev_row {a i : E} {n x : Nat} {M : Nat → Nat → Nat} (ha : evE call a σ h = .ok (tabT n M) h) (hi : evE call i σ h = .ok (natT x) h) (hx : x < n) : evE call (.idx a i) σ h = .ok (rowT n (M x)) h := by
  simp only [evE, ha, hi, R.bind_ok, natT, idxT, tabT, seqOf, at_range hx, R.of_some]
theorem ev_cell {a i : E} {n x : Nat} {m : Nat → Nat} (ha : evE call a σ h = .ok (rowT n m) h) (hi : evE call i σ h = .ok (natT x) h) (hx : x < n) : evE call (.idx a i) σ h = .ok (natT (m x)) h := by
  simp only [evE, ha, hi, R.bind_ok, natT, idxT, rowT, seqOf, at_range hx, R.of_some]
/-- t[i][j] -/
theorem ev_at {a i j : E} {n x y : Nat} {M : Nat → Nat → Nat} (ha : evE call a σ h = .ok (tabT n M) h) (hi : evE call i σ h = .ok (natT x) h) (hj : evE call j σ h = .ok (natT y) h) (hx : x < n) (hy : y < n) : evE call (.idx (.idx a i) j) σ h = .ok (natT (M x y)) h :=
  ev_cell (ev_row ha hi hx) hj hy
theorem cmp_neI {i j : Int} : cmpT .ne h (.int i) (.int j) = some (!(i == j)) := by simp only [cmpT, now, okD, Bool.and_self, if_true, eqv]
theorem cmp_eqI {i j : Int} : cmpT .eq h (.int i) (.int j) = some (i == j) := by simp only [cmpT, now, okD, Bool.and_self, if_true, eqv]
theorem nat_beq {x y : Nat} : (((x : Nat) : Int) == ((y : Nat) : Int)) = decide (x = y) := by
  by_cases e : x = y
  · subst e; simp
  · have : ((x : Nat) : Int) ≠ y := by omega
    simp [e, this]
theorem ev_neN {a b : E} {x y : Nat} (ha : evE call a σ h = .ok (natT x) h) (hb : evE call b σ h = .ok (natT y) h) : evE call (.cmp .ne a b) σ h = .ok (.bl (decide (x ≠ y))) h := by
  unfold natT at ha hb
  simp only [evE, ha, hb, R.bind_ok, cmp_neI, nat_beq, Option.map_some, R.of_some, decide_not]
theorem ev_eqN {a b : E} {x y : Nat} (ha : evE call a σ h = .ok (natT x) h) (hb : evE call b σ h = .ok (natT y) h) : evE call (.cmp .eq a b) σ h = .ok (.bl (decide (x = y))) h := by
  unfold natT at ha hb
  simp only [evE, ha, hb, R.bind_ok, cmp_eqI, nat_beq, Option.map_some, R.of_some]
end
/-- the first triple at which the table is not level -/
def unlev (M : Nat → Nat → Nat) (r : List Nat) : Bool := match r with
  | [a, b, c] => decide (M (M a b) c ≠ M (M a c) (M b c))
  | _ => false
theorem rows_lt {n : Nat} : ∀ {m : Nat} {r : List Nat}, r ∈ rowsOver n m → ∀ x ∈ r, x < n
  | 0, r, h, x, hx => by simp [rowsOver] at h; subst h; cases hx
  | m + 1, r, h, x, hx => by
    simp only [rowsOver, List.mem_flatMap, List.mem_map] at h
    obtain ⟨r', h1, y, hy, rfl⟩ := h
    rcases List.mem_append.mp hx with hx | hx
    · exact rows_lt h1 x hx
    · simp at hx; subst hx; exact List.mem_range.mp hy
section
variable {Φ : Prog} {w n f : Nat} {h : Hs}
theorem unlevel_ok {p k : Nat} {M : Nat → Nat → Nat} (I : Is Φ f 1 4 (b_unlevel p)) (Ip : Is Φ p 2 7 b_rows_over) (hk : k ≤ 8) (hM : rowsD k M) :
    callN Φ w (n + 2) f [tabT k M] h = .ok (match (rowsOver k 3).find? (unlev M) with
      | some r => tupN r
      | none => .non) h := by
  have er := rows_ok (w := w) (n := n) (h := h) (m := 3) (s := k) Ip (by omega) (by omega) (fun i hi => by
    have h1 : k ^ i ≤ 8 ^ i := Nat.pow_le_pow_left hk i
    have h2 : (8 : Nat) ^ i ≤ 8 ^ 3 := Nat.pow_le_pow_right (by omega) hi
    omega)
  have key := loop_findM (emb := tupN) (f := turn (callN Φ w (n + 1)) w (.tup [.name 1, .name 2, .name 3]) [.ite (.cmp .ne (.idx (.idx (.var 0) (.idx (.idx (.var 0) (.var 1)) (.var 2))) (.var 3)) (.idx (.idx (.var 0) (.idx (.idx (.var 0) (.var 1)) (.var 3))) (.idx (.idx (.var 0) (.var 2)) (.var 3)))) [.ret (.tup [.var 1, .var 2, .var 3])] []])
    (P := fun σ => ∃ a b c, σ = [some (tabT k M), a, b, c]) (h := h) (l := rowsOver k 3) (σ := [some (tabT k M), none, none, none])
    (r := fun r => if unlev M r then some (tupN r) else none) ⟨none, none, none, rfl⟩ (fun r hr σ hP => by
      obtain ⟨s1, s2, s3, rfl⟩ := hP
      have hl := rowsOver_len hr
      match r, hl with
      | [a, b, c], _ =>
        have ha := rows_lt hr a (by simp)
        have hb := rows_lt hr b (by simp)
        have hc := rows_lt hr c (by simp)
        have v0 : evE (callN Φ w (n + 1)) (.var 0) [some (tabT k M), some (natT a), some (natT b), some (natT c)] h = .ok (tabT k M) h := by simp [evE]
        have v1 : evE (callN Φ w (n + 1)) (.var 1) [some (tabT k M), some (natT a), some (natT b), some (natT c)] h = .ok (natT a) h := by simp [evE]
        have v2 : evE (callN Φ w (n + 1)) (.var 2) [some (tabT k M), some (natT a), some (natT b), some (natT c)] h = .ok (natT b) h := by simp [evE]
        have v3 : evE (callN Φ w (n + 1)) (.var 3) [some (tabT k M), some (natT a), some (natT b), some (natT c)] h = .ok (natT c) h := by simp [evE]
        have hne := ev_neN (ev_at v0 (ev_at v0 v1 v2 ha hb) v3 (hM a b ha hb) hc) (ev_at v0 (ev_at v0 v1 v3 ha hc) (ev_at v0 v2 v3 hb hc) (hM a c ha hc) (hM b c hb hc))
        have eu : unlev M [a, b, c] = decide (M (M a b) c ≠ M (M a c) (M b c)) := rfl
        rw [← eu] at hne
        have et : turn (callN Φ w (n + 1)) w (.tup [.name 1, .name 2, .name 3]) [.ite (.cmp .ne (.idx (.idx (.var 0) (.idx (.idx (.var 0) (.var 1)) (.var 2))) (.var 3)) (.idx (.idx (.var 0) (.idx (.idx (.var 0) (.var 1)) (.var 3))) (.idx (.idx (.var 0) (.var 2)) (.var 3)))) [.ret (.tup [.var 1, .var 2, .var 3])] []] (tupN [a, b, c]) [some (tabT k M), s1, s2, s3] h
          = evSs (callN Φ w (n + 1)) w [.ite (.cmp .ne (.idx (.idx (.var 0) (.idx (.idx (.var 0) (.var 1)) (.var 2))) (.var 3)) (.idx (.idx (.var 0) (.idx (.idx (.var 0) (.var 1)) (.var 3))) (.idx (.idx (.var 0) (.var 2)) (.var 3)))) [.ret (.tup [.var 1, .var 2, .var 3])] []] [some (tabT k M), some (natT a), some (natT b), some (natT c)] h := rfl
        rw [et]
        cases hu : unlev M [a, b, c] with
        | true =>
          rw [hu] at hne
          exact ss_if_ret hne (ev_tup (ev_cons v1 (ev_cons v2 (ev_cons v3 ev_nil))))
        | false =>
          rw [hu] at hne
          exact ⟨[some (tabT k M), some (natT a), some (natT b), some (natT c)], ⟨_, _, _, rfl⟩, (ss_if_f hne).trans (by simp only [evSs])⟩)
  have hi : evI (callN Φ w (n + 1)) (.val (.call p [.con (T.int 3), .blt .len [.var 0]] [] [0, 1])) [some (tabT k M), none, none, none] h = .ok ((rowsOver k 3).map tupN) h := by
    have e3 : natT 3 = T.int 3 := rfl
    rw [e3] at er
    have elen : bltT .len h [tabT k M] = some (natT k) := by simp [bltT, tabT, seqOf, natT]
    simp [evI, evE, evEs, permT, elen, er, walkT]
  have ef : ∀ l : List (List Nat), l.findSome? (fun r => if unlev M r then some (tupN r) else none) = (l.find? (unlev M)).map tupN := fun l => by
    induction l with
    | nil => rfl
    | cons a l ih => cases hu : unlev M a <;> simp [List.findSome?_cons, List.find?_cons, hu, ih]
  rw [ef] at key
  cases hfd : (rowsOver k 3).find? (unlev M) with
  | some r =>
    rw [hfd] at key
    exact I.rt0 rfl okD_tupN (ss_for_rt hi key)
  | none =>
    rw [hfd] at key
    obtain ⟨σ', hP, key⟩ := key
    exact I.rt0 rfl rfl ((ss_for hi key).trans (ss_ret ev_con))
end
end SH
end

section
set_option autoImplicit false
set_option linter.all false
set_option maxRecDepth 100000
set_option maxHeartbeats 4000000
/-! Strandhues: misfits. -/
namespace SH
open PySem
abbrev sTwist : T := .str (Str.ofString "twist")
abbrev sSlip : T := .str (Str.ofString "slip")
abbrev sSlide : T := .str (Str.ofString "slide")
theorem okTwist : strOkB (Str.ofString "twist") = true := by decide +kernel
theorem okSlip : strOkB (Str.ofString "slip") = true := by decide +kernel
theorem okSlide : strOkB (Str.ofString "slide") = true := by decide +kernel
def twistOf (M : Nat → Nat → Nat) (i : Nat) : Option T := if M i i ≠ i then some (.tup [sTwist, natT i]) else none
def slip3 (M : Nat → Nat → Nat) (a b c : Nat) : Option T := if M a c = M b c then some (.tup [sSlip, natT a, natT b, natT c]) else none
def slip2 (k : Nat) (M : Nat → Nat → Nat) (a b : Nat) : Option T := (List.range k).findSome? (slip3 M a b)
def slip1 (k : Nat) (M : Nat → Nat → Nat) (a : Nat) : Option T := ((List.range (k - (a + 1))).map (a + 1 + ·)).findSome? (slip2 k M a)
def slideOf (M : Nat → Nat → Nat) (r : List Nat) : Option T := if unlev M r then some (.tup (sSlide :: r.map natT)) else none
def misT (k : Nat) (M : Nat → Nat → Nat) : T := match (List.range k).findSome? (twistOf M) with
  | some t => t
  | none => match (List.range k).findSome? (slip1 k M) with
    | some t => t
    | none => match (rowsOver k 3).findSome? (slideOf M) with
      | some t => t
      | none => .non
theorem find_slide {M : Nat → Nat → Nat} : ∀ {l : List (List Nat)}, l.findSome? (slideOf M) = (l.find? (unlev M)).map fun r => .tup (sSlide :: r.map natT)
  | [] => rfl
  | a :: l => by
    unfold slideOf
    cases hu : unlev M a <;> simp [List.findSome?_cons, List.find?_cons, hu]
    exact find_slide (l := l)
section
variable {Φ : Prog} {w n f : Nat} {h : Hs}
/-- `return` in a turn, or on -/
theorem turn_if {call : Calls} {c e : E} {σ : Env} {t : T} {b : Bool} (hc : evE call c σ h = .ok (.bl b) h) (he : evE call e σ h = .ok t h) : evSs call w [.ite c [.ret e] []] σ h = if b then .rt t h else .nx σ h := by
  cases b with
  | true => rw [ss_if_ret hc he]; rfl
  | false => rw [ss_if_f hc]; simp only [evSs]; rfl
def slipB : List S := [.ite (.cmp .eq (.idx (.idx (.var 0) (.var 2)) (.var 4)) (.idx (.idx (.var 0) (.var 3)) (.var 4))) [.ret (.tup [.con sSlip, .var 2, .var 3, .var 4])] []]
def twistB : List S := [.ite (.cmp .ne (.idx (.idx (.var 0) (.var 2)) (.var 2)) (.var 2)) [.ret (.tup [.con sTwist, .var 2])] []]
def slipC : List S := [.forS (.name 3) (.rng [.bin .add (.var 2) (.con (T.int 1)), .var 1]) [.forS (.name 4) (.rng [.var 1]) slipB]]
theorem rng_up {a k : Nat} (hk : k ≤ 8) (ha : a < k) : rngT [.int ((a + 1 : Nat) : Int), .int (k : Nat)] = some ((List.range (k - (a + 1))).map fun i => natT (a + 1 + i)) := rng_two (a := a + 1) (b := k) (by omega) (by omega)
theorem ev_up {call : Calls} {σ : Env} {h : Hs} {a k : Nat} (h2 : σ[2]? = some (some (natT a))) (h1 : σ[1]? = some (some (natT k))) : evEs call [.bin .add (.var 2) (.con (T.int 1)), .var 1] σ h = .ok [.int ((a + 1 : Nat) : Int), .int (k : Nat)] h := by
  have e1 : ((a : Nat) : Int) + 1 = ((a + 1 : Nat) : Int) := by omega
  simp only [evEs, evE, h1, h2, R.bind_ok, natT, binT, R.of_some, e1]
theorem up_map {a k : Nat} : (List.range (k - (a + 1))).map (fun i => natT (a + 1 + i)) = (((List.range (k - (a + 1))).map (a + 1 + ·)).map natT) := by
  rw [List.map_map]
  exact List.map_congr_left fun i _ => rfl
theorem evi_up {call : Calls} {σ : Env} {h : Hs} {a k : Nat} (hk : k ≤ 8) (ha : a < k) (h2 : σ[2]? = some (some (natT a))) (h1 : σ[1]? = some (some (natT k))) : evI call (.rng [.bin .add (.var 2) (.con (T.int 1)), .var 1]) σ h = .ok (((List.range (k - (a + 1))).map (a + 1 + ·)).map natT) h := by
  have := rng_up hk ha
  rw [up_map] at this
  have e0 := ev_up (call := call) (h := h) h2 h1
  unfold evI
  rw [e0, R.bind_ok, this, R.of_some]
section
variable {call : Calls} {w k : Nat} {h : Hs} {M : Nat → Nat → Nat}
theorem rngk_ok (hk : k ≤ 8) (σ : Env) (hσ : σ[1]? = some (some (natT k))) : evI call (.rng [.var 1]) σ h = .ok ((List.range k).map natT) h := by
  have := rng_nat (n := k) (by omega)
  simp only [evI, evEs, evE, hσ, R.bind_ok, natT, this, R.of_some]
theorem twist_loop (hM : rowsD k M) : match (List.range k).findSome? (twistOf M) with
    | some t => loopO (turn call w (.name 2) twistB) ((List.range k).map natT) [some (tabT k M), some (natT k), none, none, none, none] h = .rt t h
    | none => ∃ σ', (∃ a, σ' = [some (tabT k M), some (natT k), a, none, none, none]) ∧ loopO (turn call w (.name 2) twistB) ((List.range k).map natT) [some (tabT k M), some (natT k), none, none, none, none] h = .nx σ' h := by
  have L1 := loop_findM (emb := natT) (f := turn call w (.name 2) twistB)
    (P := fun σ => ∃ a, σ = [some (tabT k M), some (natT k), a, none, none, none]) (h := h) (l := List.range k) (r := twistOf M) (σ := [some (tabT k M), some (natT k), none, none, none, none]) ⟨_, rfl⟩ fun i hi σ hP => by
      obtain ⟨a, rfl⟩ := hP
      have hi := List.mem_range.mp hi
      generalize hσ : ([some (tabT k M), some (natT k), some (natT i), none, none, none] : Env) = σ1
      have v0 : evE call (.var 0) σ1 h = .ok (tabT k M) h := by subst hσ; simp [evE]
      have v2 : evE call (.var 2) σ1 h = .ok (natT i) h := by subst hσ; simp [evE]
      have e := turn_if (w := w) (ev_neN (ev_at v0 v2 v2 hi hi) v2) (ev_tup (ev_cons (ev_con (t := sTwist)) (ev_cons v2 ev_nil)))
      have et : turn call w (.name 2) twistB (natT i) [some (tabT k M), some (natT k), a, none, none, none] h = evSs call w twistB σ1 h := by subst hσ; rfl
      rw [et, show evSs call w twistB σ1 h = _ from e]
      unfold twistOf
      by_cases hne : M i i ≠ i
      · rw [if_pos hne]; simp [hne]
      · rw [if_neg hne]
        refine ⟨σ1, ⟨_, hσ.symm⟩, ?_⟩
        simp at hne
        simp [hne]
  exact L1
theorem slip3_loop (hM : rowsD k M) : ∀ a b : Nat, a < k → b < k → ∀ s4 : Option T, match slip2 k M a b with
      | some t => loopO (turn call w (.name 4) slipB) ((List.range k).map natT) [some (tabT k M), some (natT k), some (natT a), some (natT b), s4, none] h = .rt t h
      | none => ∃ σ', (∃ c, σ' = [some (tabT k M), some (natT k), some (natT a), some (natT b), c, none]) ∧ loopO (turn call w (.name 4) slipB) ((List.range k).map natT) [some (tabT k M), some (natT k), some (natT a), some (natT b), s4, none] h = .nx σ' h := fun a b ha hb s4 =>
    loop_findM (emb := natT) (f := turn call w (.name 4) slipB) (P := fun σ => ∃ c, σ = [some (tabT k M), some (natT k), some (natT a), some (natT b), c, none]) (h := h) (l := List.range k) (r := slip3 M a b) ⟨s4, rfl⟩ fun c hc σ hP => by
      obtain ⟨s4, rfl⟩ := hP
      have hc := List.mem_range.mp hc
      generalize hσ : ([some (tabT k M), some (natT k), some (natT a), some (natT b), some (natT c), none] : Env) = σ1
      have v0 : evE call (.var 0) σ1 h = .ok (tabT k M) h := by subst hσ; simp [evE]
      have v2 : evE call (.var 2) σ1 h = .ok (natT a) h := by subst hσ; simp [evE]
      have v3 : evE call (.var 3) σ1 h = .ok (natT b) h := by subst hσ; simp [evE]
      have v4 : evE call (.var 4) σ1 h = .ok (natT c) h := by subst hσ; simp [evE]
      have e := turn_if (w := w) (ev_eqN (ev_at v0 v2 v4 ha hc) (ev_at v0 v3 v4 hb hc)) (ev_tup (ev_cons (ev_con (t := sSlip)) (ev_cons v2 (ev_cons v3 (ev_cons v4 ev_nil)))))
      have et : turn call w (.name 4) slipB (natT c) [some (tabT k M), some (natT k), some (natT a), some (natT b), s4, none] h = evSs call w slipB σ1 h := by subst hσ; rfl
      rw [et, show evSs call w slipB σ1 h = _ from e]
      unfold slip3
      by_cases hne : M a c = M b c
      · rw [if_pos hne]; simp [hne]
      · rw [if_neg hne]
        exact ⟨σ1, ⟨_, hσ.symm⟩, by simp [hne]⟩
theorem slip2_loop (hk : k ≤ 8) (hM : rowsD k M) : ∀ a : Nat, a < k → ∀ s3 s4 : Option T, match slip1 k M a with
      | some t => loopO (turn call w (.name 3) [.forS (.name 4) (.rng [.var 1]) slipB]) (((List.range (k - (a + 1))).map (a + 1 + ·)).map natT) [some (tabT k M), some (natT k), some (natT a), s3, s4, none] h = .rt t h
      | none => ∃ σ', (∃ b c, σ' = [some (tabT k M), some (natT k), some (natT a), b, c, none]) ∧ loopO (turn call w (.name 3) [.forS (.name 4) (.rng [.var 1]) slipB]) (((List.range (k - (a + 1))).map (a + 1 + ·)).map natT) [some (tabT k M), some (natT k), some (natT a), s3, s4, none] h = .nx σ' h := fun a ha s3 s4 =>
    loop_findM (emb := natT) (f := turn call w (.name 3) [.forS (.name 4) (.rng [.var 1]) slipB]) (P := fun σ => ∃ b c, σ = [some (tabT k M), some (natT k), some (natT a), b, c, none]) (h := h) (r := slip2 k M a) ⟨s3, s4, rfl⟩ fun b hb σ hP => by
      obtain ⟨s3, s4, rfl⟩ := hP
      obtain ⟨b', hb', rfl⟩ := List.mem_map.mp hb
      have hb' := List.mem_range.mp hb'
      have t3 := slip3_loop (call := call) (w := w) (h := h) hM a (a + 1 + b') ha (by omega) s4
      have et : turn call w (.name 3) [.forS (.name 4) (.rng [.var 1]) slipB] (natT (a + 1 + b')) [some (tabT k M), some (natT k), some (natT a), s3, s4, none] h = evSs call w [.forS (.name 4) (.rng [.var 1]) slipB] [some (tabT k M), some (natT k), some (natT a), some (natT (a + 1 + b')), s4, none] h := rfl
      rw [et]
      cases e : slip2 k M a (a + 1 + b') with
      | some t =>
        rw [e] at t3
        exact ss_for_rt (rngk_ok hk _ rfl) t3
      | none =>
        rw [e] at t3
        obtain ⟨σ', ⟨c, rfl⟩, t3⟩ := t3
        exact ⟨[some (tabT k M), some (natT k), some (natT a), some (natT (a + 1 + b')), c, none], ⟨_, _, rfl⟩, (ss_for (rngk_ok hk _ rfl) t3).trans (by simp only [evSs])⟩
theorem slip1_loop (hk : k ≤ 8) (hM : rowsD k M) (a : Option T) : match (List.range k).findSome? (slip1 k M) with
    | some t => loopO (turn call w (.name 2) slipC) ((List.range k).map natT) [some (tabT k M), some (natT k), a, none, none, none] h = .rt t h
    | none => ∃ σ', (∃ a b c, σ' = [some (tabT k M), some (natT k), a, b, c, none]) ∧ loopO (turn call w (.name 2) slipC) ((List.range k).map natT) [some (tabT k M), some (natT k), a, none, none, none] h = .nx σ' h :=
  loop_findM (emb := natT) (f := turn call w (.name 2) slipC)
    (P := fun σ => ∃ a b c, σ = [some (tabT k M), some (natT k), a, b, c, none]) (h := h) (l := List.range k) (r := slip1 k M) (σ := [some (tabT k M), some (natT k), a, none, none, none]) ⟨a, none, none, rfl⟩ fun a ha σ hP => by
      obtain ⟨s2, s3, s4, rfl⟩ := hP
      have ha := List.mem_range.mp ha
      have t2 := slip2_loop (call := call) (w := w) (h := h) hk hM a ha s3 s4
      have et : turn call w (.name 2) slipC (natT a) [some (tabT k M), some (natT k), s2, s3, s4, none] h = evSs call w [.forS (.name 3) (.rng [.bin .add (.var 2) (.con (T.int 1)), .var 1]) [.forS (.name 4) (.rng [.var 1]) slipB]] [some (tabT k M), some (natT k), some (natT a), s3, s4, none] h := rfl
      have er : evI call (.rng [.bin .add (.var 2) (.con (T.int 1)), .var 1]) [some (tabT k M), some (natT k), some (natT a), s3, s4, none] h = .ok (((List.range (k - (a + 1))).map (a + 1 + ·)).map natT) h := evi_up hk ha rfl rfl
      rw [et]
      cases e : slip1 k M a with
      | some t =>
        rw [e] at t2
        exact ss_for_rt er t2
      | none =>
        rw [e] at t2
        obtain ⟨σ', ⟨b, c, rfl⟩, t2⟩ := t2
        exact ⟨[some (tabT k M), some (natT k), some (natT a), b, c, none], ⟨_, _, _, rfl⟩, (ss_for er t2).trans (by simp only [evSs])⟩
end
theorem misfit_of_ok {p q k : Nat} {M : Nat → Nat → Nat} (I : Is Φ f 1 6 (b_misfit_of q)) (Iq : Is Φ q 1 4 (b_unlevel p)) (Ip : Is Φ p 2 7 b_rows_over) (hk : k ≤ 8) (hM : rowsD k M) :
    callN Φ w (n + 3) f [tabT k M] h = .ok (misT k M) h := by
  have eu := unlevel_ok (w := w) (n := n) (h := h) Iq Ip hk hM
  generalize hcall : callN Φ w (n + 2) = call at eu
  have L1 := twist_loop (call := call) (w := w) (h := h) hM
  have L2 := fun a => slip1_loop (call := call) (w := w) (h := h) hk hM a
  have hm : evE call (.blt .len [.var 0]) (st0 [tabT k M] 6) h = .ok (natT k) h := by
    simp [evE, evEs, st0, bltT, tabT, seqOf, natT]
  have b1 : evSs call w (b_misfit_of q) (st0 [tabT k M] 6) h = evSs call w ((b_misfit_of q).drop 1) [some (tabT k M), some (natT k), none, none, none, none] h := ss_set hm (by simp [st0])
  unfold misT
  cases e1 : (List.range k).findSome? (twistOf M) with
  | some t =>
    rw [e1] at L1
    have hok : okD 60 t = true := by
      obtain ⟨i, _, hi⟩ := List.exists_of_findSome?_eq_some e1
      unfold twistOf at hi
      split at hi
      · cases hi; simp only [okD, okDs, natT, okTwist, Bool.and_self]
      · cases hi
    exact I.rt0 rfl hok (by rw [hcall, b1]; exact ss_for_rt (rngk_ok hk _ rfl) L1)
  | none =>
    rw [e1] at L1
    obtain ⟨σ1, ⟨a1, rfl⟩, L1⟩ := L1
    have L2 := L2 a1
    cases e2 : (List.range k).findSome? (slip1 k M) with
    | some t =>
      rw [e2] at L2
      have hok : okD 60 t = true := by
        obtain ⟨i, _, hi⟩ := List.exists_of_findSome?_eq_some e2
        obtain ⟨j, _, hi⟩ := List.exists_of_findSome?_eq_some hi
        obtain ⟨l, _, hi⟩ := List.exists_of_findSome?_eq_some hi
        unfold slip3 at hi
        split at hi
        · cases hi; simp only [okD, okDs, natT, okSlip, Bool.and_self]
        · cases hi
      exact I.rt0 rfl hok (by rw [hcall, b1]; exact (ss_for (rngk_ok hk _ rfl) L1).trans (ss_for_rt (rngk_ok hk _ rfl) L2))
    | none =>
      rw [e2] at L2
      obtain ⟨σ2, ⟨a2, b2, c2, rfl⟩, L2⟩ := L2
      rw [find_slide]
      have eu2 : evE call (.call q [.var 0] [] [0]) [some (tabT k M), some (natT k), a2, b2, c2, none] h = .ok (match (rowsOver k 3).find? (unlev M) with
        | some r => tupN r
        | none => .non) h := ev_call (zs := [tabT k M]) (ev_cons (ev_var rfl) ev_nil) ev_nil rfl eu
      have b2 : ∀ t, okD 60 t = true → evE call (.ite (.isN (.var 5)) (.con (T.non)) (.bin .add (.tup [.con sSlide]) (.var 5))) [some (tabT k M), some (natT k), a2, b2, c2, some (match (rowsOver k 3).find? (unlev M) with
        | some r => tupN r
        | none => .non)] h = .ok t h → callN Φ w (n + 3) f [tabT k M] h = .ok t h := fun t ht e => I.rt0 rfl ht (by
          rw [hcall, b1]
          exact (ss_for (rngk_ok hk _ rfl) L1).trans ((ss_for (rngk_ok hk _ rfl) L2).trans ((ss_set eu2 (by simp)).trans (ss_ret e))))
      cases e3 : (rowsOver k 3).find? (unlev M) with
      | none =>
        refine b2 .non rfl ?_
        rw [e3]
        simp [evE, isNT]
      | some r =>
        have hl := rowsOver_len (List.mem_of_find?_eq_some e3)
        refine b2 (.tup (sSlide :: r.map natT)) ?_ ?_
        · match r, hl with
          | [a, b, c], _ => simp only [List.map_cons, List.map_nil, okD, okDs, natT, okSlide, Bool.and_self]
        · rw [e3]
          have hL : LINE = 16777216 := rfl
          have h4 : ([sSlide].length + (r.map natT).length) ≤ LINE := by simp only [List.length_map, hl, List.length_cons, List.length_nil]; omega
          have e5 : binT .add h (.tup [sSlide]) (.tup (r.map natT)) = some (.tup (sSlide :: r.map natT)) := by
            simp only [binT]
            rw [if_pos h4]; rfl
          simp only [evE, evEs, tupN, isNT, e5, List.getElem?_cons_succ, List.getElem?_cons_zero, R.bind_ok, R.of_some, Option.map_some, asB_ok, Bool.false_eq_true, if_false]
end
end SH
end

section
set_option autoImplicit false
set_option linter.all false
set_option maxRecDepth 100000
set_option maxHeartbeats 4000000
/-! Strandhues: a run on no heap is a run on any heap. -/
namespace SH
open PySem
mutual
def shT (k : Nat) : T → T
  | .non => .non
  | .bl b => .bl b
  | .int i => .int i
  | .str s => .str s
  | .tup xs => .tup (shTs k xs)
  | .lst xs => .lst (shTs k xs)
  | .scr ns => .scr ns
  | .ref a => .ref (a + k)
  | .fn f => .fn f
def shTs (k : Nat) : List T → List T
  | [] => []
  | x :: xs => shT k x :: shTs k xs
end
theorem shTs_map {k : Nat} : ∀ {xs : List T}, shTs k xs = xs.map (shT k)
  | [] => rfl
  | x :: xs => by rw [shTs, shTs_map, List.map_cons]
def shC (k : Nat) : Cell → Cell
  | .lst xs => .lst (xs.map (shT k))
  | .dic kvs => .dic (kvs.map fun q => (shT k q.1, shT k q.2))
  | .ins c fs => .ins c (fs.map fun q => (q.1, shT k q.2))
  | .dead => .dead
def shH (p h : Hs) : Hs := p ++ h.map (shC p.length)
def shV (k : Nat) (σ : Env) : Env := σ.map (Option.map (shT k))
def shR {α β : Type} (p : Hs) (g : α → β) : R α → R β
  | .ok a h => .ok (g a) (shH p h)
  | .ex c a h => .ex c (shT p.length a) (shH p h)
  | .bad => .bad
def shO (p : Hs) : O → O
  | .nx σ h => .nx (shV p.length σ) (shH p h)
  | .rt t h => .rt (shT p.length t) (shH p h)
  | .bk σ h => .bk (shV p.length σ) (shH p h)
  | .ct σ h => .ct (shV p.length σ) (shH p h)
  | .ex c a h => .ex c (shT p.length a) (shH p h)
  | .bad => .bad
section
variable {p h : Hs} {k : Nat}
theorem shH_at {a : Nat} : (shH p h)[a + p.length]? = (h[a]?).map (shC p.length) := by
  unfold shH
  rw [List.getElem?_append_right (by omega), Nat.add_sub_cancel, List.getElem?_map]
theorem shH_len : (shH p h).length = h.length + p.length := by simp [shH, Nat.add_comm]
theorem shH_set {a : Nat} {o : Cell} : (shH p h).set (a + p.length) (shC p.length o) = shH p (h.set a o) := by
  unfold shH
  rw [List.set_append_right _ _ (by omega), Nat.add_sub_cancel, List.map_set]
theorem shH_app {o : Cell} : shH p h ++ [shC p.length o] = shH p (h ++ [o]) := by simp [shH]
theorem shH_take {m : Nat} : (shH p h).take (m + p.length) = shH p (h.take m) := by
  unfold shH
  rw [List.take_append, List.take_of_length_le (by omega), Nat.add_sub_cancel, List.map_take]
mutual
theorem okD_sh : ∀ {j : Nat} {t : T}, okD j (shT k t) = okD j t
  | _, .non => rfl
  | _, .bl _ => rfl
  | _, .int _ => rfl
  | _, .str _ => rfl
  | 0, .tup _ => by simp only [shT, okD]
  | j + 1, .tup xs => by simp only [shT, okD]; exact okDs_sh
  | 0, .lst _ => by simp only [shT, okD]
  | j + 1, .lst xs => by simp only [shT, okD]; exact okDs_sh
  | _, .scr _ => by simp only [shT, okD]
  | _, .ref _ => by simp only [shT, okD]
  | _, .fn _ => by simp only [shT, okD]
theorem okDs_sh : ∀ {j : Nat} {xs : List T}, okDs j (shTs k xs) = okDs j xs
  | _, [] => rfl
  | j, x :: xs => by simp only [shTs, okDs]; rw [okD_sh, okDs_sh]
end
mutual
theorem okD_id : ∀ {j : Nat} {t : T}, okD j t = true → shT k t = t
  | _, .non, _ => rfl
  | _, .bl _, _ => rfl
  | _, .int _, _ => rfl
  | _, .str _, _ => rfl
  | 0, .tup _, h => by simp [okD] at h
  | j + 1, .tup xs, h => by simp only [okD] at h; simp only [shT, okDs_id h]
  | 0, .lst _, h => by simp [okD] at h
  | j + 1, .lst xs, h => by simp only [okD] at h; simp only [shT, okDs_id h]
  | _, .scr _, h => by simp [okD] at h
  | _, .ref _, h => by simp [okD] at h
  | _, .fn _, h => by simp [okD] at h
theorem okDs_id : ∀ {j : Nat} {xs : List T}, okDs j xs = true → shTs k xs = xs
  | _, [], _ => rfl
  | j, x :: xs, h => by
    simp only [okDs, Bool.and_eq_true] at h
    simp only [shTs, okD_id h.1, okDs_id h.2]
end
theorem okDm_sh {j : Nat} {xs : List T} : okDs j (xs.map (shT k)) = okDs j xs := by rw [← shTs_map, okDs_sh]
theorem okDm_id {j : Nat} {xs : List T} (h : okDs j xs = true) : xs.map (shT k) = xs := by rw [← shTs_map, okDs_id h]
theorem ints_sh {α : Type} {l : List α} {g : α → Int} : (l.map fun i => T.int (g i)).map (shT k) = l.map fun i => T.int (g i) := by
  rw [List.map_map]; rfl
theorem ints_sh' {l : List Int} : (l.map T.int).map (shT k) = l.map T.int := by
  rw [List.map_map]; rfl
theorem seqOf_sh {t : T} : seqOf (shH p h) (shT p.length t) = (seqOf h t).map (List.map (shT p.length)) := by
  cases t <;> simp only [shT, seqOf, Option.map_none, Option.map_some, shTs_map, ints_sh']
  rename_i a
  rw [shH_at]
  cases h[a]? with
  | none => rfl
  | some o => cases o <;> rfl
theorem now_sh {t : T} : now (shH p h) (shT p.length t) = shT p.length (now h t) := by
  cases t <;> simp only [shT, now, shTs_map, ints_sh']
  rename_i a
  rw [shH_at]
  cases h[a]? with
  | none => rfl
  | some o => cases o <;> simp only [Option.map_some, shC, shT, shTs_map]
theorem isLst_sh {t : T} : isLst (shT k t) = isLst t := by cases t <;> rfl
theorem rep_sh {n : Nat} {xs : List T} : (List.replicate n xs).flatten.map (shT k) = (List.replicate n (xs.map (shT k))).flatten := by
  rw [List.map_flatten, List.map_replicate]
theorem ite_sh {c : Prop} [Decidable c] {α β : Type} {a b : Option α} {g : α → β} : (if c then a else b).map g = if c then a.map g else b.map g := by split <;> rfl
theorem binT_lst {x y : T} (e : ∀ q : Hs, ∀ x y : T, True → True) : (if isLst (shT p.length x) && isLst (shT p.length y) then match seqOf (shH p h) (shT p.length x), seqOf (shH p h) (shT p.length y) with
      | some xs, some ys => if xs.length + ys.length ≤ LINE then some (T.lst (xs ++ ys)) else none
      | _, _ => none
      else none) = (if isLst x && isLst y then match seqOf h x, seqOf h y with
      | some xs, some ys => if xs.length + ys.length ≤ LINE then some (T.lst (xs ++ ys)) else none
      | _, _ => none
      else none).map (shT p.length) := by
  rw [isLst_sh, isLst_sh, seqOf_sh, seqOf_sh, ite_sh]
  cases seqOf h x <;> cases seqOf h y <;> simp only [Option.map_none, Option.map_some, ite_sh, List.length_map, shT, shTs_map, List.map_append]
theorem binT_sh {op : BOp} {x y : T} : binT op (shH p h) (shT p.length x) (shT p.length y) = (binT op h x y).map (shT p.length) := by
  cases op
  · have e := binT_lst (p := p) (h := h) (x := x) (y := y) (fun _ _ _ _ => trivial)
    cases x <;> cases y <;> first | exact e | (simp only [shT, binT, ite_sh, Option.map_some, Option.map_none, shTs_map, List.length_map, List.map_append])
  all_goals cases x <;> cases y <;> simp only [shT, binT, ite_sh, Option.map_some, Option.map_none, shTs_map, List.length_map, rep_sh]
theorem intsOf_sh : ∀ {xs : List T}, intsOf (xs.map (shT k)) = intsOf xs
  | [] => rfl
  | x :: xs => by cases x <;> simp only [List.map_cons, shT, intsOf, intsOf_sh]
theorem blsOf_sh : ∀ {xs : List T}, blsOf (xs.map (shT k)) = blsOf xs
  | [] => rfl
  | x :: xs => by cases x <;> simp only [List.map_cons, shT, blsOf, blsOf_sh]
theorem flatT_sh {x : T} : flatT (shT k x) = flatT x := by cases x <;> rfl
theorem flatT_id {x : T} (h : flatT x = true) : shT k x = x := by
  cases x <;> first | rfl | (simp [flatT] at h)
theorem flats_id {xs : List T} (h : xs.all flatT = true) : xs.map (shT k) = xs := by
  induction xs with
  | nil => rfl
  | cons x xs ih =>
    simp only [List.all_cons, Bool.and_eq_true] at h
    rw [List.map_cons, flatT_id h.1, ih h.2]
theorem flats_sh {xs : List T} : (xs.map (shT k)).all flatT = xs.all flatT := by
  rw [List.all_map]
  congr 1
  funext x
  exact flatT_sh
theorem inT_seq {x y : T} : (match seqOf (shH p h) (shT p.length y) with
    | some ys => if okD 60 (shT p.length x) && okDs 59 ys then some (memT (shT p.length x) ys) else none
    | none => none) = match seqOf h y with
    | some ys => if okD 60 x && okDs 59 ys then some (memT x ys) else none
    | none => none := by
  rw [seqOf_sh]
  cases seqOf h y with
  | none => rfl
  | some ys =>
    simp only [Option.map_some, okD_sh, okDm_sh]
    by_cases e : (okD 60 x && okDs 59 ys) = true
    · rw [if_pos e, if_pos e]
      simp only [Bool.and_eq_true] at e
      rw [okD_id e.1, okDm_id e.2]
    · rw [if_neg e, if_neg e]
theorem inT_sh {x y : T} : inT (shH p h) (shT p.length x) (shT p.length y) = inT h x y := by
  have e := inT_seq (p := p) (h := h) (x := x) (y := y)
  cases y <;> first | exact e | skip
  rename_i ys
  simp only [shT, inT, shTs_map, flatT_sh, flats_sh]
  by_cases e : (flatT x && ys.all flatT) = true
  · rw [if_pos e, if_pos e]
    simp only [Bool.and_eq_true] at e
    rw [flatT_id e.1, flats_id e.2]
  · rw [if_neg e, if_neg e]
    simp only [okD_sh, okDm_sh]
    by_cases e2 : (okD 60 x && okDs 59 ys) = true
    · rw [if_pos e2, if_pos e2]
      simp only [Bool.and_eq_true] at e2
      rw [okD_id e2.1, okDm_id e2.2]
    · rw [if_neg e2, if_neg e2]
theorem cmpT_sh {op : COp} {x y : T} : cmpT op (shH p h) (shT p.length x) (shT p.length y) = cmpT op h x y := by
  have hs : ∀ g : T → T → Bool, (if okD 60 (now (shH p h) (shT p.length x)) && okD 60 (now (shH p h) (shT p.length y)) then some (g (now (shH p h) (shT p.length x)) (now (shH p h) (shT p.length y))) else none) = if okD 60 (now h x) && okD 60 (now h y) then some (g (now h x) (now h y)) else none := fun g => by
    rw [now_sh, now_sh, okD_sh, okD_sh]
    by_cases e : (okD 60 (now h x) && okD 60 (now h y)) = true
    · rw [if_pos e, if_pos e]
      simp only [Bool.and_eq_true] at e
      rw [okD_id e.1, okD_id e.2]
    · rw [if_neg e, if_neg e]
  cases op
  · exact hs eqv
  · exact hs fun a b => !eqv a b
  · cases x <;> cases y <;> rfl
  · cases x <;> cases y <;> rfl
  · cases x <;> cases y <;> rfl
  · cases x <;> cases y <;> rfl
  · exact inT_sh
  · exact congrArg (Option.map not) inT_sh
theorem isNT_sh {x : T} : isNT (shT k x) = isNT x := by cases x <;> rfl
theorem isiT_sh {ty : Ty} {x : T} : isiT (shH p h) ty (shT p.length x) = isiT h ty x := by
  cases x <;> try rfl
  rename_i a
  simp only [shT, isiT]
  rw [shH_at]
  cases h[a]? with
  | none => rfl
  | some o => cases o <;> rfl
theorem bltT_sh {b : Blt} {xs : List T} : bltT b (shH p h) (xs.map (shT p.length)) = (bltT b h xs).map (shT p.length) := by
  match xs with
  | [] => cases b <;> rfl
  | x :: y :: z :: r => cases b <;> first | rfl | (cases x <;> rfl) | (cases x <;> cases y <;> rfl)
  | [x, y] => cases b <;> cases x <;> cases y <;> rfl
  | [x] =>
    have e := seqOf_sh (p := p) (h := h) (t := x)
    cases b <;> (try first | rfl | (cases x <;> rfl))
    all_goals simp only [List.map_cons, List.map_nil]
    · have e1 : (match seqOf (shH p h) (shT p.length x) with
        | some ys => some (T.int (ys.length : Nat))
        | none => none) = (match seqOf h x with
        | some ys => some (T.int (ys.length : Nat))
        | none => none).map (shT p.length) := by
        rw [e]
        cases seqOf h x <;> simp only [Option.map_none, Option.map_some, List.length_map, shT]
      cases x <;> first | exact e1 | simp only [shT, bltT, ite_sh, Option.map_some, Option.map_none]
    · simp only [bltT, e]
      cases seqOf h x with
      | none => rfl
      | some ys =>
        simp only [Option.map_some, intsOf_sh]
        rcases intsOf ys with _ | (_ | ⟨a, l⟩) <;> rfl
    · simp only [bltT, e]
      cases seqOf h x with
      | none => rfl
      | some ys =>
        simp only [Option.map_some, intsOf_sh]
        rcases intsOf ys with _ | (_ | ⟨a, l⟩) <;> rfl
    · cases x <;> try rfl
      simp only [bltT, shT, shTs_map, blsOf_sh]
      rename_i ys
      cases blsOf ys <;> rfl
    · cases x <;> try rfl
      simp only [bltT, shT, shTs_map, blsOf_sh]
      rename_i ys
      cases blsOf ys <;> rfl
    · cases x <;> try rfl
      simp only [bltT, shT, shTs_map, intsOf_sh]
      rename_i ys
      cases intsOf ys <;> rfl
    · simp only [bltT, e]
      cases seqOf h x <;> simp only [Option.map_none, Option.map_some, shT, shTs_map]
    · simp only [bltT, e]
      cases seqOf h x <;> simp only [Option.map_none, Option.map_some, shT, shTs_map]
    · have e1 : (match seqOf (shH p h) (shT p.length x) with
        | some ys => match intsOf ys with
          | some ns => some (T.lst ((sortI ns).map T.int))
          | none => none
        | none => none) = (match seqOf h x with
        | some ys => match intsOf ys with
          | some ns => some (T.lst ((sortI ns).map T.int))
          | none => none
        | none => none).map (shT p.length) := by
        rw [e]
        cases seqOf h x with
        | none => rfl
        | some ys =>
          simp only [Option.map_some, intsOf_sh]
          cases intsOf ys <;> simp only [Option.map_none, Option.map_some, shT, shTs_map, ints_sh']
      cases x <;> first | exact e1 | rfl
    · simp only [bltT, e]
      cases seqOf h x with
      | none => rfl
      | some ys =>
        simp only [Option.map_some, intsOf_sh]
        cases intsOf ys <;> simp only [Option.map_none, Option.map_some, shT, ite_sh]
    · simp only [bltT, e]
      cases seqOf h x with
      | none => rfl
      | some ys =>
        simp only [Option.map_some, intsOf_sh]
        cases intsOf ys <;> simp only [Option.map_none, Option.map_some, shT, ite_sh, shTs_map, ints_sh']
theorem atI_sh {xs : List T} {i : Int} : L2.atI (xs.map (shT k)) i = (L2.atI xs i).map (shT k) := by
  unfold L2.atI
  rw [List.length_map]
  cases L2.ixN xs.length i with
  | none => rfl
  | some j => simp [List.getElem?_map]
theorem idxT_sh {x i : T} : idxT (shH p h) (shT p.length x) (shT p.length i) = (idxT h x i).map (shT p.length) := by
  cases i <;> try rfl
  simp only [shT, idxT, seqOf_sh]
  cases seqOf h x with
  | none => rfl
  | some xs => simp only [Option.map_some, atI_sh]
theorem cutT_sh {xs : List T} {lo hi : Option Int} : cutT (xs.map (shT k)) lo hi = (cutT xs lo hi).map (shT k) := by
  unfold cutT
  rw [List.length_map, ← List.map_drop, ← List.map_take]
theorem slcT_sh {x : T} {lo hi : Option Int} : slcT (shH p h) (shT p.length x) lo hi = (slcT h x lo hi).map (shT p.length) := by
  have e1 : (match seqOf (shH p h) (shT p.length x) with
    | some xs => some (T.lst (cutT xs lo hi))
    | none => none) = (match seqOf h x with
    | some xs => some (T.lst (cutT xs lo hi))
    | none => none).map (shT p.length) := by
    rw [seqOf_sh]
    cases seqOf h x <;> simp only [Option.map_none, Option.map_some, shT, shTs_map, cutT_sh]
  cases x <;> first | exact e1 | simp only [shT, slcT, shTs_map, cutT_sh, Option.map_some]
theorem revT_sh {x : T} : revT (shH p h) (shT p.length x) = (revT h x).map (shT p.length) := by
  cases x <;> first | rfl | simp only [shT, revT, shTs_map, List.map_reverse, Option.map_some]
theorem idxB_sh {x : T} : idxB (shT k x) = idxB x := by cases x <;> rfl
theorem idxOfT_sh {x y : T} : idxOfT (shH p h) (shT p.length x) (shT p.length y) = (idxOfT h x y).map (shT p.length) := by
  unfold idxOfT
  rw [seqOf_sh]
  cases seqOf h x with
  | none => rfl
  | some xs =>
    simp only [Option.map_some, okD_sh, okDm_sh, ite_sh]
    by_cases e : (okDs 59 xs && okD 60 y) = true
    · rw [if_pos e, if_pos e]
      simp only [Bool.and_eq_true] at e
      rw [okD_id e.2, okDm_id e.1]
      cases findT y xs <;> rfl
    · rw [if_neg e, if_neg e]; rfl
theorem rngL_sh {lo : Int} {n : Nat} : (rngL lo n).map (shT k) = rngL lo n := by unfold rngL; exact ints_sh
theorem rngT_sh {xs : List T} : rngT (xs.map (shT k)) = (rngT xs).map (List.map (shT k)) := by
  match xs with
  | [] => rfl
  | x :: y :: z :: r => cases x <;> cases y <;> rfl
  | [x] => cases x <;> simp only [List.map_cons, List.map_nil, shT, rngT, ite_sh, Option.map_some, Option.map_none, rngL_sh]
  | [x, y] => cases x <;> cases y <;> simp only [List.map_cons, List.map_nil, shT, rngT, ite_sh, Option.map_some, Option.map_none, rngL_sh]
theorem walkT_sh {x : T} : walkT (shT k x) = (walkT x).map (List.map (shT k)) := by
  cases x <;> simp only [shT, walkT, Option.map_some, Option.map_none, shTs_map, ints_sh']
theorem enumF_sh : ∀ {n : Nat} {xs : List T}, enumFrom' n (xs.map (shT k)) = (enumFrom' n xs).map (shT k)
  | _, [] => rfl
  | n, x :: xs => by simp only [List.map_cons, enumFrom', enumF_sh, shT, shTs]
theorem enumOf_sh {x : T} : enumOf (shT k x) = (enumOf x).map (List.map (shT k)) := by
  cases x <;> simp only [shT, enumOf, Option.map_some, Option.map_none, shTs_map, enumF_sh]
theorem zipT_sh : ∀ {xs ys : List T}, zipT (xs.map (shT k)) (ys.map (shT k)) = (zipT xs ys).map (shT k)
  | [], _ => by simp [zipT]
  | x :: xs, [] => by simp [zipT]
  | x :: xs, y :: ys => by simp only [List.map_cons, zipT, zipT_sh, shT, shTs]
theorem zipOf_sh {x y : T} : zipOf (shT k x) (shT k y) = (zipOf x y).map (List.map (shT k)) := by
  cases x <;> cases y <;> simp only [shT, zipOf, Option.map_some, Option.map_none, shTs_map, zipT_sh]
theorem permT_sh : ∀ {perm : List Nat} {xs : List T}, permT perm (xs.map (shT k)) = (permT perm xs).map (List.map (shT k))
  | [], _ => rfl
  | i :: is, xs => by
    have ih := permT_sh (perm := is) (xs := xs)
    unfold permT at ih ⊢
    simp only [List.getElem?_map] at ih ⊢
    simp only [List.mapM_cons, ih]
    cases xs[i]? <;> cases is.mapM fun i => xs[i]? <;> rfl
theorem intO_sh {x : T} : intO (shT k x) = intO x := by cases x <;> rfl
theorem shV_len {σ : Env} : (shV k σ).length = σ.length := by simp [shV]
theorem shV_at {σ : Env} {i : Nat} : (shV k σ)[i]? = (σ[i]?).map (Option.map (shT k)) := by simp [shV]
theorem shV_set {σ : Env} {i : Nat} {x : Option T} : (shV k σ).set i (x.map (shT k)) = shV k (σ.set i x) := by simp [shV, List.map_set]
mutual
theorem asgG_sh : ∀ {g : G} {x : T} {σ : Env}, asgG g (shT k x) (shV k σ) = (asgG g x σ).map (shV k)
  | .name i, x, σ => by
    simp only [asgG, shV_len, ite_sh, Option.map_some, Option.map_none]
    rw [← shV_set]; rfl
  | .tup gs, x, σ => by
    cases x <;> simp only [shT, asgG, Option.map_none, shTs_map]
    exact asgGs_sh
theorem asgGs_sh : ∀ {gs : List G} {xs : List T} {σ : Env}, asgGs gs (xs.map (shT k)) (shV k σ) = (asgGs gs xs σ).map (shV k)
  | [], [], σ => rfl
  | [], _ :: _, σ => rfl
  | g :: gs, [], σ => rfl
  | g :: gs, x :: xs, σ => by
    simp only [List.map_cons, asgGs, asgG_sh]
    cases asgG g x σ with
    | none => rfl
    | some σ' => simp only [Option.map_some, asgGs_sh]
end
theorem wipeT_sh {σ : Env} : ∀ {own : List Nat}, wipeT (shV k σ) own = shV k (wipeT σ own)
  | [] => rfl
  | v :: vs => by
    simp only [wipeT, wipeT_sh]
    exact shV_set (x := none)
theorem setT_sh {x i v : T} : setT (shH p h) (shT p.length x) (shT p.length i) (shT p.length v) = (setT h x i v).map (shH p) := by
  cases x <;> try rfl
  cases i <;> try rfl
  rename_i a i
  simp only [shT, setT, shH_at]
  cases h[a]? with
  | none => rfl
  | some o =>
    cases o <;> try rfl
    simp only [Option.map_some, shC, List.length_map]
    rename_i xs
    cases L2.ixN xs.length i with
    | none => rfl
    | some j =>
      simp only [okD_sh, ite_sh, Option.map_some, Option.map_none]
      rw [← shH_set]
      simp only [shC, List.map_set]
theorem cellB_sh {x : T} : cellB (shH p h) (shT p.length x) = cellB h x := by
  cases x <;> try rfl
  rename_i a
  simp only [shT, cellB, shH_at]
  cases h[a]? with
  | none => rfl
  | some o => cases o <;> rfl
theorem appT_sh {x v : T} : appT (shH p h) (shT p.length x) (shT p.length v) = (appT h x v).map (shH p) := by
  cases x <;> try rfl
  rename_i a
  simp only [shT, appT, shH_at]
  cases h[a]? with
  | none => rfl
  | some o =>
    cases o <;> try rfl
    simp only [Option.map_some, shC, List.length_map, okD_sh, ite_sh, Option.map_none]
    rw [← shH_set]
    simp only [shC, List.map_append, List.map_cons, List.map_nil]
theorem extT_sh {x v : T} : extT (shH p h) (shT p.length x) (shT p.length v) = (extT h x v).map (shH p) := by
  cases x <;> try rfl
  rename_i a
  simp only [shT, extT, shH_at]
  cases h[a]? with
  | none => rfl
  | some o =>
    cases o <;> try rfl
    cases v <;> try rfl
    all_goals simp only [Option.map_some, shC, List.length_map, okDm_sh, ite_sh, Option.map_none, shT, shTs_map]
    all_goals rw [← shH_set]
    all_goals simp only [shC, List.map_append]
theorem freezeT_sh {x : T} : freezeT (shH p h) (shT p.length x) = (freezeT h x).map fun q => (shT p.length q.1, shH p q.2) := by
  cases x <;> try rfl
  rename_i a
  simp only [shT, freezeT, shH_at]
  cases h[a]? with
  | none => rfl
  | some o =>
    cases o <;> try rfl
    simp only [Option.map_some, shC, shT, shTs_map]
    rw [← shH_set]; rfl
theorem parT_sh : ∀ {is : List Nat} {xs : List T} {σ : Env}, parT is (xs.map (shT k)) (shV k σ) = (parT is xs σ).map (shV k)
  | [], [], σ => rfl
  | [], _ :: _, σ => rfl
  | _ :: _, [], σ => rfl
  | i :: is, x :: xs, σ => by
    simp only [List.map_cons, parT, shV_len, ite_sh, Option.map_none]
    rw [← parT_sh, ← shV_set]; rfl
end
end SH
end

section
set_option autoImplicit false
set_option linter.all false
set_option maxRecDepth 100000
set_option maxHeartbeats 4000000
/-! Strandhues: a run on no heap is a run on any heap: the interpreter. -/
namespace SH
open PySem
mutual
/-- all constants are data -/
def cE : E → Bool
  | .var _ => true
  | .con t => okD 60 t
  | .glo _ t => okD 60 t
  | .tup es => cEs es
  | .lst es => cEs es
  | .bin _ a b => cE a && cE b
  | .neg a => cE a
  | .cmp _ a b => cE a && cE b
  | .cmp2 _ _ a b c => cE a && cE b && cE c
  | .isN a => cE a
  | .notN a => cE a
  | .andE a b => cE a && cE b
  | .orE a b => cE a && cE b
  | .notE a => cE a
  | .ite c a b => cE c && cE a && cE b
  | .idx a i => cE a && cE i
  | .slc a lo hi => cE a && cEo lo && cEo hi
  | .rev a => cE a
  | .idxOf a x => cE a && cE x
  | .blt _ es => cEs es
  | .rng _ es => cEs es
  | .isi a _ => cE a
  | .call _ es kws _ => cEs es && cEs kws
  | .comp elt _ it c _ => cE elt && cI it && cEo c
  | .refused a => cE a
  | .new a => cE a
def cEs : List E → Bool
  | [] => true
  | e :: es => cE e && cEs es
def cEo : Option E → Bool
  | none => true
  | some e => cE e
def cI : I → Bool
  | .val a => cE a
  | .rng es => cEs es
  | .enum a => cE a
  | .zip a b => cE a && cE b
end
mutual
def cS : S → Bool
  | .asg _ e => cE e
  | .par _ es => cEs es
  | .aug _ _ e => cE e
  | .setI x i e => cE x && cE i && cE e
  | .app x e => cE x && cE e
  | .ext x e => cE x && cE e
  | .drop e => cE e
  | .ret e => cE e
  | .retN => true
  | .ite c a b => cE c && cSs a && cSs b
  | .forS _ it body => cI it && cSs body
  | .whileS c body => cE c && cSs body
  | .brk => true
  | .cnt => true
  | .pass => true
  | .raise _ e => cE e
  | .freeze _ => true
def cSs : List S → Bool
  | [] => true
  | s :: ss => cS s && cSs ss
end
section
variable {p : Hs}
theorem bind_sh {α β γ δ : Type} {r : R α} {r' : R γ} {g : α → γ} {g2 : β → δ} {f : α → Hs → R β} {f' : γ → Hs → R δ} (e : r' = shR p g r) (hf : ∀ a h, f' (g a) (shH p h) = shR p g2 (f a h)) : r'.bind f' = shR p g2 (r.bind f) := by
  rw [e]
  cases r with
  | ok a h => exact hf a h
  | ex c a h => rfl
  | bad => rfl
theorem of_sh {α β : Type} {o : Option α} {o' : Option β} {g : α → β} {h : Hs} (e : o' = o.map g) : R.of o' (shH p h) = shR p g (R.of o h) := by
  rw [e]
  cases o <;> rfl
theorem ofB_sh {o o' : Option Bool} {h : Hs} (e : o' = o) : R.of (o'.map T.bl) (shH p h) = shR p (shT p.length) (R.of (o.map T.bl) h) := by
  rw [e]
  cases o <;> rfl
theorem asB_sh {α β : Type} {r r' : R T} {g : α → β} {f : Bool → Hs → R α} {f' : Bool → Hs → R β} (e : r' = shR p (shT p.length) r) (hf : ∀ a h, f' a (shH p h) = shR p g (f a h)) : asB r' f' = shR p g (asB r f) := by
  rw [e]
  cases r with
  | ok a h =>
    cases a <;> first | rfl | exact hf _ h
  | ex c a h => rfl
  | bad => rfl
theorem compR_sh {f f' : T → Hs → R (Option T)} (hf : ∀ x h, f' (shT p.length x) (shH p h) = shR p (Option.map (shT p.length)) (f x h)) : ∀ {xs : List T} {h : Hs}, compR f' (xs.map (shT p.length)) (shH p h) = shR p (List.map (shT p.length)) (compR f xs h)
  | [], h => rfl
  | x :: xs, h => by
    simp only [List.map_cons, compR]
    refine bind_sh (hf x h) fun o h => bind_sh (compR_sh hf) fun ys h => ?_
    cases o <;> rfl
theorem noEx_sh {α β : Type} {g : α → β} {r : R α} : noEx (shR p g r) = shR p g (noEx r) := by cases r <;> rfl
/-- calls that do the same on a heap ahead -/
def CallSh (p : Hs) (call : Calls) : Prop := ∀ f xs h, call f (xs.map (shT p.length)) (shH p h) = shR p (shT p.length) (call f xs h)
variable {call : Calls} (hc : CallSh p call)
include hc
mutual
theorem evE_sh : ∀ (e : E), cE e = true → ∀ (σ : Env) (h : Hs), evE call e (shV p.length σ) (shH p h) = shR p (shT p.length) (evE call e σ h)
  | .var i, _, σ, h => by
    simp only [evE, shV_at]
    rcases σ[i]? with _ | (_ | t) <;> rfl
  | .con t, k, σ, h => by
    simp only [cE] at k
    simp only [evE, shR, okD_id k]
  | .glo _ t, k, σ, h => by
    simp only [cE] at k
    simp only [evE, shR, okD_id k]
  | .tup es, k, σ, h => by
    simp only [cE] at k
    simp only [evE]
    exact bind_sh (evEs_sh es k σ h) fun xs h => by simp only [shR, shT, shTs_map]
  | .lst es, k, σ, h => by
    simp only [cE] at k
    simp only [evE]
    exact bind_sh (evEs_sh es k σ h) fun xs h => by simp only [shR, shT, shTs_map]
  | .bin op a b, k, σ, h => by
    simp only [cE, Bool.and_eq_true] at k
    simp only [evE]
    exact bind_sh (evE_sh a k.1 σ h) fun x h => bind_sh (evE_sh b k.2 σ h) fun y h => of_sh binT_sh
  | .neg a, k, σ, h => by
    simp only [cE] at k
    simp only [evE]
    exact bind_sh (evE_sh a k σ h) fun x h => by cases x <;> rfl
  | .cmp op a b, k, σ, h => by
    simp only [cE, Bool.and_eq_true] at k
    simp only [evE]
    exact bind_sh (evE_sh a k.1 σ h) fun x h => bind_sh (evE_sh b k.2 σ h) fun y h => ofB_sh cmpT_sh
  | .cmp2 op op' a b c, k, σ, h => by
    simp only [cE, Bool.and_eq_true] at k
    simp only [evE]
    refine bind_sh (evE_sh a k.1.1 σ h) fun x h => bind_sh (evE_sh b k.1.2 σ h) fun y h => bind_sh (g := id) (of_sh (g := id) (cmpT_sh.trans (by cases cmpT op h x y <;> rfl))) fun q h => ?_
    cases q
    · rfl
    · exact bind_sh (evE_sh c k.2 σ h) fun y h => ofB_sh cmpT_sh
  | .isN a, k, σ, h => by
    simp only [cE] at k
    simp only [evE]
    exact bind_sh (evE_sh a k σ h) fun x h => ofB_sh isNT_sh
  | .notN a, k, σ, h => by
    simp only [cE] at k
    simp only [evE]
    exact bind_sh (evE_sh a k σ h) fun x h => by rw [isNT_sh]; cases isNT x <;> rfl
  | .andE a b, k, σ, h => by
    simp only [cE, Bool.and_eq_true] at k
    simp only [evE]
    refine asB_sh (evE_sh a k.1 σ h) fun q h => ?_
    cases q
    · rfl
    · exact asB_sh (evE_sh b k.2 σ h) fun q h => rfl
  | .orE a b, k, σ, h => by
    simp only [cE, Bool.and_eq_true] at k
    simp only [evE]
    refine asB_sh (evE_sh a k.1 σ h) fun q h => ?_
    cases q
    · exact asB_sh (evE_sh b k.2 σ h) fun q h => rfl
    · rfl
  | .notE a, k, σ, h => by
    simp only [cE] at k
    simp only [evE]
    exact asB_sh (evE_sh a k σ h) fun q h => rfl
  | .ite c a b, k, σ, h => by
    simp only [cE, Bool.and_eq_true] at k
    simp only [evE]
    refine asB_sh (evE_sh c k.1.1 σ h) fun q h => ?_
    cases q
    · exact evE_sh b k.2 σ h
    · exact evE_sh a k.1.2 σ h
  | .idx a i, k, σ, h => by
    simp only [cE, Bool.and_eq_true] at k
    simp only [evE]
    exact bind_sh (evE_sh a k.1 σ h) fun x h => bind_sh (evE_sh i k.2 σ h) fun y h => of_sh idxT_sh
  | .slc a lo hi, k, σ, h => by
    simp only [cE, Bool.and_eq_true] at k
    simp only [evE]
    exact bind_sh (evE_sh a k.1.1 σ h) fun x h => bind_sh (g := id) (evO_sh lo k.1.2 σ h) fun y h => bind_sh (g := id) (evO_sh hi k.2 σ h) fun z h => of_sh slcT_sh
  | .rev a, k, σ, h => by
    simp only [cE] at k
    simp only [evE]
    exact bind_sh (evE_sh a k σ h) fun x h => of_sh revT_sh
  | .idxOf a i, k, σ, h => by
    simp only [cE, Bool.and_eq_true] at k
    simp only [evE]
    refine bind_sh (evE_sh a k.1 σ h) fun x h => ?_
    rw [idxB_sh]
    cases idxB x
    · rfl
    · exact bind_sh (evE_sh i k.2 σ h) fun y h => of_sh idxOfT_sh
  | .blt b es, k, σ, h => by
    simp only [cE] at k
    simp only [evE]
    exact bind_sh (evEs_sh es k σ h) fun xs h => of_sh bltT_sh
  | .rng tp es, k, σ, h => by
    simp only [cE] at k
    simp only [evE]
    refine bind_sh (evEs_sh es k σ h) fun xs h => of_sh ?_
    rw [rngT_sh]
    cases rngT xs with
    | none => rfl
    | some ys => cases tp <;> simp only [Option.map_some, shT, shTs_map, if_true, Bool.false_eq_true, if_false]
  | .isi a ty, k, σ, h => by
    simp only [cE] at k
    simp only [evE]
    exact bind_sh (evE_sh a k σ h) fun x h => ofB_sh isiT_sh
  | .call f es kws perm, k, σ, h => by
    simp only [cE, Bool.and_eq_true] at k
    simp only [evE]
    refine bind_sh (evEs_sh es k.1 σ h) fun xs h => bind_sh (evEs_sh kws k.2 σ h) fun ys h => ?_
    rw [← List.map_append]
    exact bind_sh (of_sh permT_sh) fun zs h => hc f zs h
  | .comp elt g it c own, k, σ, h => by
    simp only [cE, Bool.and_eq_true] at k
    simp only [evE]
    refine bind_sh (evI_sh it k.1.2 σ h) fun xs h => bind_sh (g := List.map (shT p.length)) ?_ fun ys h => by simp only [shR, shT, shTs_map]
    rw [← noEx_sh]
    refine congrArg noEx (compR_sh fun x h => ?_)
    refine bind_sh (g := shV p.length) (of_sh (by rw [wipeT_sh, asgG_sh])) fun σ' h => asB_sh (evC_sh c k.2 σ' h) fun q h => ?_
    cases q
    · rfl
    · exact bind_sh (evE_sh elt k.1.1 σ' h) fun y h => rfl
  | .refused a, k, σ, h => by
    simp only [cE] at k
    simp only [evE]
    rw [evE_sh a k σ h]
    cases evE call a σ h with
    | ok a h => rfl
    | ex c a h => cases c <;> rfl
    | bad => rfl
  | .new a, k, σ, h => by
    simp only [cE] at k
    simp only [evE]
    refine bind_sh (evE_sh a k σ h) fun x h => ?_
    cases x <;> try rfl
    simp only [shT, shR, shH_len, ← shH_app, shC, shTs_map]
theorem evEs_sh : ∀ (es : List E), cEs es = true → ∀ (σ : Env) (h : Hs), evEs call es (shV p.length σ) (shH p h) = shR p (List.map (shT p.length)) (evEs call es σ h)
  | [], _, σ, h => rfl
  | e :: es, k, σ, h => by
    simp only [cEs, Bool.and_eq_true] at k
    simp only [evEs]
    exact bind_sh (evE_sh e k.1 σ h) fun x h => bind_sh (evEs_sh es k.2 σ h) fun xs h => rfl
theorem evO_sh : ∀ (e : Option E), cEo e = true → ∀ (σ : Env) (h : Hs), evO call e (shV p.length σ) (shH p h) = shR p id (evO call e σ h)
  | none, _, σ, h => rfl
  | some e, k, σ, h => by
    simp only [cEo] at k
    simp only [evO]
    refine bind_sh (evE_sh e k σ h) fun x h => ?_
    rw [intO_sh]
    cases intO x <;> rfl
theorem evC_sh : ∀ (e : Option E), cEo e = true → ∀ (σ : Env) (h : Hs), evC call e (shV p.length σ) (shH p h) = shR p (shT p.length) (evC call e σ h)
  | none, _, σ, h => rfl
  | some e, k, σ, h => by
    simp only [cEo] at k
    simp only [evC]
    exact evE_sh e k σ h
theorem evI_sh : ∀ (i : I), cI i = true → ∀ (σ : Env) (h : Hs), evI call i (shV p.length σ) (shH p h) = shR p (List.map (shT p.length)) (evI call i σ h)
  | .val a, k, σ, h => by
    simp only [cI] at k
    simp only [evI]
    exact bind_sh (evE_sh a k σ h) fun x h => of_sh walkT_sh
  | .rng es, k, σ, h => by
    simp only [cI] at k
    simp only [evI]
    exact bind_sh (evEs_sh es k σ h) fun xs h => of_sh rngT_sh
  | .enum a, k, σ, h => by
    simp only [cI] at k
    simp only [evI]
    exact bind_sh (evE_sh a k σ h) fun x h => of_sh enumOf_sh
  | .zip a b, k, σ, h => by
    simp only [cI, Bool.and_eq_true] at k
    simp only [evI]
    exact bind_sh (evE_sh a k.1 σ h) fun x h => bind_sh (evE_sh b k.2 σ h) fun y h => of_sh zipOf_sh
end
omit hc in
theorem out_sh {α γ : Type} {r : R α} {r' : R γ} {g : α → γ} {f : α → Hs → O} {f' : γ → Hs → O} (e : r' = shR p g r) (hf : ∀ a h, f' (g a) (shH p h) = shO p (f a h)) : r'.out f' = shO p (r.out f) := by
  rw [e]
  cases r with
  | ok a h => exact hf a h
  | ex c a h => rfl
  | bad => rfl
omit hc in
theorem outB_sh {r r' : R T} {f f' : Bool → Hs → O} (e : r' = shR p (shT p.length) r) (hf : ∀ a h, f' a (shH p h) = shO p (f a h)) : outB r' f' = shO p (outB r f) := by
  rw [e]
  cases r with
  | ok a h =>
    cases a <;> first | rfl | exact hf _ h
  | ex c a h => rfl
  | bad => rfl
omit hc in
theorem seq_sh {o o' : O} {f f' : Env → Hs → O} (e : o' = shO p o) (hf : ∀ σ h, f' (shV p.length σ) (shH p h) = shO p (f σ h)) : o'.seq f' = shO p (o.seq f) := by
  rw [e]
  cases o <;> first | rfl | exact hf _ _
omit hc in
theorem loop_sh {f f' : T → Env → Hs → O} (hf : ∀ x σ h, f' (shT p.length x) (shV p.length σ) (shH p h) = shO p (f x σ h)) : ∀ {xs : List T} {σ : Env} {h : Hs}, loopO f' (xs.map (shT p.length)) (shV p.length σ) (shH p h) = shO p (loopO f xs σ h)
  | [], σ, h => rfl
  | x :: xs, σ, h => by
    simp only [List.map_cons, loopO, hf]
    cases f x σ h <;> first | rfl | exact loop_sh hf
omit hc in
theorem while_sh {c c' : Env → Hs → R T} {f f' : Env → Hs → O} (hcc : ∀ σ h, c' (shV p.length σ) (shH p h) = shR p (shT p.length) (c σ h)) (hf : ∀ σ h, f' (shV p.length σ) (shH p h) = shO p (f σ h)) : ∀ {n : Nat} {σ : Env} {h : Hs}, whileO c' f' n (shV p.length σ) (shH p h) = shO p (whileO c f n σ h)
  | 0, σ, h => rfl
  | n + 1, σ, h => by
    simp only [whileO]
    refine outB_sh (hcc σ h) fun q h => ?_
    cases q
    · rfl
    · simp only [if_true, hf]
      cases f σ h <;> first | rfl | exact while_sh hcc hf
variable {w : Nat}
mutual
theorem evS_sh : ∀ (s : S), cS s = true → ∀ (σ : Env) (h : Hs), evS call w s (shV p.length σ) (shH p h) = shO p (evS call w s σ h)
  | .asg g e, k, σ, h => by
    simp only [cS] at k
    simp only [evS]
    refine out_sh (evE_sh hc e k σ h) fun x h => ?_
    rw [asgG_sh]
    cases asgG g x σ <;> rfl
  | .par is es, k, σ, h => by
    simp only [cS] at k
    simp only [evS]
    refine out_sh (evEs_sh hc es k σ h) fun x h => ?_
    rw [parT_sh]
    cases parT is x σ <;> rfl
  | .aug i op e, k, σ, h => by
    simp only [cS] at k
    simp only [evS, shV_at]
    rcases hi : σ[i]? with _ | (_ | x)
    · rfl
    · rfl
    · refine out_sh (evE_sh hc e k σ h) fun y h => ?_
      cases x <;> try rfl
      cases y <;> try rfl
      rename_i a b
      have e1 := binT_sh (p := p) (h := h) (op := op) (x := .int a) (y := .int b)
      simp only [shT] at e1 ⊢
      rw [e1]
      cases binT op h (.int a) (.int b) with
      | none => rfl
      | some z =>
        simp only [Option.map_some, shO]
        rw [← shV_set]; rfl
  | .setI x i e, k, σ, h => by
    simp only [cS, Bool.and_eq_true] at k
    simp only [evS]
    refine out_sh (evE_sh hc e k.2 σ h) fun v h => out_sh (evE_sh hc x k.1.1 σ h) fun o h => out_sh (evE_sh hc i k.1.2 σ h) fun j h => ?_
    rw [setT_sh]
    cases setT h o j v <;> rfl
  | .app x e, k, σ, h => by
    simp only [cS, Bool.and_eq_true] at k
    simp only [evS]
    refine out_sh (evE_sh hc x k.1 σ h) fun o h => ?_
    rw [cellB_sh]
    cases cellB h o
    · rfl
    · refine out_sh (evE_sh hc e k.2 σ h) fun v h => ?_
      rw [appT_sh]
      cases appT h o v <;> rfl
  | .ext x e, k, σ, h => by
    simp only [cS, Bool.and_eq_true] at k
    simp only [evS]
    refine out_sh (evE_sh hc x k.1 σ h) fun o h => ?_
    rw [cellB_sh]
    cases cellB h o
    · rfl
    · refine out_sh (evE_sh hc e k.2 σ h) fun v h => ?_
      rw [extT_sh]
      cases extT h o v <;> rfl
  | .drop e, k, σ, h => by
    simp only [cS] at k
    simp only [evS]
    exact out_sh (evE_sh hc e k σ h) fun x h => rfl
  | .ret e, k, σ, h => by
    simp only [cS] at k
    simp only [evS]
    exact out_sh (evE_sh hc e k σ h) fun x h => rfl
  | .retN, _, σ, h => rfl
  | .ite c a b, k, σ, h => by
    simp only [cS, Bool.and_eq_true] at k
    simp only [evS]
    refine outB_sh (evE_sh hc c k.1.1 σ h) fun q h => ?_
    cases q
    · exact evSs_sh b k.2 σ h
    · exact evSs_sh a k.1.2 σ h
  | .forS g it body, k, σ, h => by
    simp only [cS, Bool.and_eq_true] at k
    simp only [evS]
    refine out_sh (evI_sh hc it k.1 σ h) fun xs h => loop_sh fun x σ h => ?_
    rw [asgG_sh]
    cases asgG g x σ with
    | none => rfl
    | some σ' => exact evSs_sh body k.2 σ' h
  | .whileS c body, k, σ, h => by
    simp only [cS, Bool.and_eq_true] at k
    simp only [evS]
    exact while_sh (fun σ h => evE_sh hc c k.1 σ h) fun σ h => evSs_sh body k.2 σ h
  | .brk, _, σ, h => rfl
  | .cnt, _, σ, h => rfl
  | .pass, _, σ, h => rfl
  | .raise c e, k, σ, h => by
    simp only [cS] at k
    simp only [evS]
    refine out_sh (evE_sh hc e k σ h) fun x h => ?_
    rw [okD_sh]
    cases okD 50 x <;> rfl
  | .freeze i, _, σ, h => by
    simp only [evS, shV_at]
    rcases σ[i]? with _ | (_ | x)
    · rfl
    · rfl
    · simp only [Option.map_some, freezeT_sh]
      cases freezeT h x with
      | none => rfl
      | some q =>
        simp only [Option.map_some, shO]
        rw [← shV_set]; rfl
theorem evSs_sh : ∀ (ss : List S), cSs ss = true → ∀ (σ : Env) (h : Hs), evSs call w ss (shV p.length σ) (shH p h) = shO p (evSs call w ss σ h)
  | [], _, σ, h => rfl
  | s :: ss, k, σ, h => by
    simp only [cSs, Bool.and_eq_true] at k
    simp only [evSs]
    exact seq_sh (evS_sh s k.1 σ h) fun σ h => evSs_sh ss k.2 σ h
end
omit hc in
theorem fin_sh {fr : Bool} {n : Nat} {t : T} {h : Hs} : finT fr (n + p.length) (shT p.length t) (shH p h) = shR p (shT p.length) (finT fr n t h) := by
  have hd : (if okD 60 (shT p.length t) then R.ok (shT p.length t) ((shH p h).take (n + p.length)) else .bad) = shR p (shT p.length) (if okD 60 t then R.ok t (h.take n) else .bad) := by
    rw [okD_sh, shH_take]
    cases okD 60 t <;> rfl
  cases fr with
  | true =>
    cases t <;> try rfl
    rename_i a
    simp only [finT, shT, if_true, shH_at, Nat.add_le_add_iff_right]
    by_cases e : n ≤ a
    · simp only [if_pos e]
      cases h[a]? with
      | none => rfl
      | some o =>
        cases o <;> try rfl
        rename_i xs
        simp only [Option.map_some, shC, okDm_sh, shH_take]
        cases okDs 59 xs
        · rfl
        · simp only [if_true, shR, shT]
          rw [← shH_app]; rfl
    · simp only [if_neg e]; rfl
  | false =>
    cases t <;> first | exact hd | skip
    rename_i a
    simp only [finT, shT, Bool.false_eq_true, if_false, shH_at, Nat.add_lt_add_iff_right, shH_take]
    by_cases e : a < n
    · simp only [if_pos e]; rfl
    · simp only [if_neg e]
      cases h[a]? with
      | none => rfl
      | some o =>
        cases o <;> try rfl
        rename_i xs
        simp only [Option.map_some, shC, okDm_sh]
        cases okDs 59 xs
        · rfl
        · simp only [if_true, shR, shT, shTs_map]
omit hc in
theorem call_sh {Φ : Prog} (hΦ : (Φ.all fun fd => cSs fd.body) = true) : ∀ n, CallSh p (callN Φ w n)
  | 0 => fun f xs h => rfl
  | n + 1 => fun f xs h => by
    simp only [callN]
    cases hf : Φ[f]? with
    | none => rfl
    | some fd =>
      simp only [List.length_map]
      by_cases hl : xs.length = fd.params.length
      · simp only [if_pos hl]
        have hb : cSs fd.body = true := List.all_eq_true.mp hΦ fd (List.mem_of_getElem? hf)
        have es : startT fd (xs.map (shT p.length)) = shV p.length (startT fd xs) := by
          simp [startT, shV, Function.comp_def]
        rw [es, evSs_sh (call_sh hΦ n) fd.body hb]
        cases evSs (callN Φ w n) w fd.body (startT fd xs) h with
        | rt t h' => simp only [shO, shH_len]; exact fin_sh
        | nx σ h' => simp only [shO, shH_len]; exact fin_sh (t := .non)
        | ex c a h' =>
          simp only [shO, shH_len, okD_sh, shH_take]
          cases okD 60 a <;> rfl
        | bk _ _ => rfl
        | ct _ _ => rfl
        | bad => rfl
      · simp only [if_neg hl]; rfl
omit hc in
/-- a run on no heap that hands back data is a run on any heap -/
theorem call_any {Φ : Prog} (hΦ : (Φ.all fun fd => cSs fd.body) = true) {n f : Nat} {xs : List T} {t : T} {h : Hs} (hx : okDs 60 xs = true) (ht : okD 60 t = true) (e : callN Φ w n f xs [] = .ok t []) : callN Φ w n f xs h = .ok t h := by
  have := call_sh (p := h) (w := w) hΦ n f xs []
  rw [okDm_id hx, e] at this
  simpa [shH, shR, okD_id ht] using this
end
end SH
end

section
set_option autoImplicit false
set_option linter.all false
set_option maxRecDepth 100000
set_option maxHeartbeats 4000000
/-! Strandhues: the laws' tables. -/
namespace SH
open PySem
theorem okDs_nats {k : Nat} {l : List Nat} : okDs k (l.map natT) = true := okDs_all fun x hx => by
  obtain ⟨v, _, rfl⟩ := List.mem_map.mp hx
  simp only [natT, okD]
section
variable {Φ : Prog} {w n r p d m : Nat} {nm nd nt nm' nd' nt' nf' : Str} {h : Hs}
theorem pick_nat {left : List Nat} (hp : Φ[p]? = some (f_pick nm nd nt r)) (hr : Φ[r]? = some (f_roll nm' nd' nt' nf')) (D : Dice h d m) (h0 : left ≠ []) (h1 : left.length < 1000000000) (hm : m < 1000000000) :
    ∃ v h', v ∈ left ∧ callN Φ w (n + 2) p [.ref d, .lst (left.map natT)] h = .ok (natT v) h' ∧ Dice h' d (m + 1) ∧ But d h h' := by
  obtain ⟨k, t, h', e1, e2, D', B⟩ := pick_ok (w := w) (n := n) hp hr D (xs := left.map natT) (by simpa using h0) (by simpa using h1) okDs_nats hm
  rw [List.getElem?_map] at e1
  cases e : left[k]? with
  | none => rw [e] at e1; cases e1
  | some v =>
    rw [e] at e1
    cases e1
    exact ⟨v, h', List.mem_of_getElem? e, e2, D', B⟩
theorem roll_nat {total : Nat} (hr : Φ[r]? = some (f_roll nm' nd' nt' nf')) (D : Dice h d m) (h0 : 0 < total) (h1 : total < 1000000000) (hm : m < 1000000000) :
    ∃ v h', v < total ∧ callN Φ w (n + 1) r [.ref d, natT total] h = .ok (natT v) h' ∧ Dice h' d (m + 1) ∧ But d h h' := by
  obtain ⟨v, h', e, v0, v1, D', B⟩ := roll_ok (w := w) (n := n) hr D (total := (total : Nat)) (by omega) (by omega) hm
  refine ⟨v.toNat, h', by omega, ?_, D', B⟩
  unfold natT
  rw [e, Int.toNat_of_nonneg v0]
end
theorem filter_ne {call : Calls} {σ : Env} {h : Hs} {left : List Nat} {v i j k : Nat} (hl : σ.length = 12) (h5 : σ[5]? = some (some (.lst (left.map natT)))) (h8 : σ[8]? = some (some (natT v))) :
    evE call (.comp (.var 9) (.name 9) (.val (.var 5)) (some (.cmp .ne (.var 9) (.var 8))) [9]) σ h = .ok (.lst ((left.filter fun x => decide (x ≠ v)).map natT)) h := by
  have e := ev_compF (call := call) (σ := σ) (h := h) (h1 := h) (elt := .var 9) (g := .name 9) (it := .val (.var 5)) (own := [9]) (xs := left.map natT) (k := id) (p := fun x => match x with
      | .int a => decide (a ≠ (v : Nat))
      | _ => false) (c := .cmp .ne (.var 9) (.var 8)) (by simp [evI, evE, h5, walkT]) fun x hx => by
      obtain ⟨a, _, rfl⟩ := List.mem_map.mp hx
      refine ⟨(wipeT σ [9]).set 9 (some (natT a)), by simp [asgG, wipeT, hl], ?_, fun _ => ?_⟩
      · have g8 : ((wipeT σ [9]).set 9 (some (natT a)))[8]? = some (some (natT v)) := by
          simp only [wipeT]
          rw [List.getElem?_set_ne (by decide), List.getElem?_set_ne (by decide), h8]
        have g9 : ((wipeT σ [9]).set 9 (some (natT a)))[9]? = some (some (natT a)) := by
          simp only [wipeT]
          rw [List.getElem?_set_self (by simp [hl])]
        generalize (wipeT σ [9]).set 9 (some (natT a)) = σ' at g8 g9 ⊢
        rw [ev_neN (x := a) (y := v) (ev_var g9) (ev_var g8)]
        simp [natT]
        omega
      · refine ev_var ?_
        simp only [wipeT]
        rw [List.getElem?_set_self (by simp [hl])]; rfl
  rw [e, List.filter_map, List.map_map]
  congr 3
  refine List.filter_congr fun x _ => ?_
  simp [natT]
  omega
/-- a search-free loop over numbers -/
def tbInner (r p : Nat) : List S := [.asg (.name 8) (.call p [.var 0, .var 5] [] [0, 1]),
    .asg (.name 5) (.ite (.cmp .eq (.call r [.var 0, .con (T.int 9)] [] [0, 1]) (.con (T.int 0))) (.var 5) (.comp (.var 9) (.name 9) (.val (.var 5)) (some (.cmp .ne (.var 9) (.var 8))) [9])),
    .asg (.name 5) (.ite (.cmp .gt (.blt .len [.var 5]) (.con (T.int 0))) (.var 5) (.lst [.con (T.int 0)])),
    .app (.var 6) (.var 8)]
def lstN (l : List Nat) : T := .lst (l.map natT)
/-- h' is h but for what stands at d and at c -/
def But2 (d c : Nat) (h h' : Hs) : Prop := h'.length = h.length ∧ ∀ i, i ≠ d → i ≠ c → h'[i]? = h[i]?
theorem inner_turn {Φ : Prog} {w n r p d c m k b : Nat} {nm nd nt nm' nd' nt' nf' : Str} {h : Hs} {left own : List Nat} {x x1 : T} {s3 s4 s7 s8 s9 s10 s11 : Option T} (hp : Φ[p]? = some (f_pick nm nd nt r)) (hr : Φ[r]? = some (f_roll nm' nd' nt' nf'))
    (D : Dice h d m) (hdc : d ≠ c) (hc : h[c]? = some (.lst (own.map natT))) (hl0 : left ≠ []) (hl : ∀ x ∈ left, x < k) (hll : left.length ≤ 1000) (hol : own.length ≤ 1000) (hk : 0 < k) (hm : m + 2 < 1000000000) :
    ∃ v left' h', v < k ∧ left' ≠ [] ∧ (∀ x ∈ left', x < k) ∧ left'.length ≤ 1000 ∧ Dice h' d (m + 2) ∧ h'[c]? = some (.lst ((own ++ [v]).map natT)) ∧ But2 d c h h' ∧
      evSs (callN Φ w (n + 2)) w (tbInner r p) [some (.ref d), some x1, some (natT k), s3, s4, some (lstN left), some (.ref c), s7, s8, s9, s10, s11] h = .nx [some (.ref d), some x1, some (natT k), s3, s4, some (lstN left'), some (.ref c), s7, some (natT v), s9, s10, s11] h' := by
  obtain ⟨v, h1, hv, e1, D1, B1⟩ := pick_nat (w := w) (n := n) hp hr D hl0 (by omega) (by omega)
  obtain ⟨q, h2, hq, e2, D2, B2⟩ := roll_nat (w := w) (n := n + 1) (total := 9) hr D1 (by omega) (by omega) (by omega)
  have hvk := hl v hv
  have hc2 : h2[c]? = some (.lst (own.map natT)) := by rw [B2.2 c (fun z => hdc z.symm), B1.2 c (fun z => hdc z.symm), hc]
  have hcl : c < h2.length := (List.getElem?_eq_some_iff.mp hc2).1
  generalize hcall : callN Φ w (n + 2) = call at e1 e2
  have t9 : natT 9 = T.int 9 := rfl
  rw [t9] at e2
  have a1 : evE call (.call p [.var 0, .var 5] [] [0, 1]) [some (.ref d), some x1, some (natT k), s3, s4, some (lstN left), some (.ref c), s7, s8, s9, s10, s11] h = .ok (natT v) h1 :=
    ev_call (zs := [.ref d, lstN left]) (ev_cons (ev_var rfl) (ev_cons (ev_var rfl) ev_nil)) ev_nil rfl e1
  -- left thereafter
  obtain ⟨l1, hl1, a2⟩ : ∃ l1 : List Nat, (∀ x ∈ l1, x ∈ left) ∧ evE call (.ite (.cmp .eq (.call r [.var 0, .con (T.int 9)] [] [0, 1]) (.con (T.int 0))) (.var 5) (.comp (.var 9) (.name 9) (.val (.var 5)) (some (.cmp .ne (.var 9) (.var 8))) [9])) [some (.ref d), some x1, some (natT k), s3, s4, some (lstN left), some (.ref c), s7, some (natT v), s9, s10, s11] h1 = .ok (lstN l1) h2 ∧ l1.length ≤ left.length := by
    have b1 : evE call (.cmp .eq (.call r [.var 0, .con (T.int 9)] [] [0, 1]) (.con (T.int 0))) [some (.ref d), some x1, some (natT k), s3, s4, some (lstN left), some (.ref c), s7, some (natT v), s9, s10, s11] h1 = .ok (.bl (decide (q = 0))) h2 := by
      have b0 := ev_call (call := call) (f := r) (es := [.var 0, .con (T.int 9)]) (kws := []) (perm := [0, 1]) (σ := [some (.ref d), some x1, some (natT k), s3, s4, some (lstN left), some (.ref c), s7, some (natT v), s9, s10, s11]) (h := h1) (zs := [.ref d, .int 9]) (ev_cons (ev_var rfl) (ev_cons ev_con ev_nil)) ev_nil rfl e2
      rw [evE, b0, R.bind_ok, ev_con, R.bind_ok, natT, cmp_eqI]
      have : (((q : Nat) : Int) == 0) = decide (q = 0) := by
        by_cases z : q = 0
        · subst z; rfl
        · have : ((q : Nat) : Int) ≠ 0 := by omega
          simp [z, this]
      rw [this]; rfl
    by_cases z : q = 0
    · refine ⟨left, fun _ hx => hx, ?_, Nat.le_refl _⟩
      rw [evE, b1, asB_ok, if_pos (by simp [z])]
      exact ev_var rfl
    · refine ⟨left.filter fun x => decide (x ≠ v), fun x hx => (List.mem_filter.mp hx).1, ?_, List.length_filter_le _ _⟩
      rw [evE, b1, asB_ok, if_neg (by simp [z])]
      exact filter_ne (i := 0) (j := 0) (k := 0) rfl rfl rfl
  obtain ⟨a2, hl1l⟩ := a2
  obtain ⟨l2, hl2, hl20, a3, hl2l⟩ : ∃ l2 : List Nat, (∀ x ∈ l2, x < k) ∧ l2 ≠ [] ∧ evE call (.ite (.cmp .gt (.blt .len [.var 5]) (.con (T.int 0))) (.var 5) (.lst [.con (T.int 0)])) [some (.ref d), some x1, some (natT k), s3, s4, some (lstN l1), some (.ref c), s7, some (natT v), s9, s10, s11] h2 = .ok (lstN l2) h2 ∧ l2.length ≤ 1000 := by
    have b1 : evE call (.cmp .gt (.blt .len [.var 5]) (.con (T.int 0))) [some (.ref d), some x1, some (natT k), s3, s4, some (lstN l1), some (.ref c), s7, some (natT v), s9, s10, s11] h2 = .ok (.bl (decide (0 < l1.length))) h2 := by
      simp [evE, evEs, bltT, lstN, seqOf, cmpT]
    by_cases z : 0 < l1.length
    · refine ⟨l1, fun x hx => hl x (hl1 x hx), List.length_pos_iff.mp z, ?_, by omega⟩
      rw [evE, b1, asB_ok, if_pos (by simp [z])]
      exact ev_var rfl
    · refine ⟨[0], fun x hx => by simp at hx; omega, by simp, ?_, by simp⟩
      rw [evE, b1, asB_ok, if_neg (by simp [z])]
      simp [evE, evEs, lstN, natT]
  have hLI : LINE = 16777216 := rfl
  have ex : appT h2 (.ref c) (natT v) = some (h2.set c (.lst ((own ++ [v]).map natT))) := by
    simp only [appT, hc2, List.length_map]
    rw [if_pos ⟨by omega, by simp only [natT, okD]⟩]
    simp
  have ecb : cellB h2 (.ref c) = true := by simp only [cellB, hc2]
  obtain ⟨da, db, dc, de, dr⟩ := D2
  refine ⟨v, l2, h2.set c (.lst ((own ++ [v]).map natT)), hvk, hl20, hl2, hl2l, ⟨da, db, dc, ?_, dr⟩, ?_, ⟨?_, fun i hi hi' => ?_⟩, ?_⟩
  · rw [List.getElem?_set_ne (fun z => hdc z.symm)]; exact de
  · rw [List.getElem?_set_self hcl]
  · rw [List.length_set, B2.1, B1.1]
  · rw [List.getElem?_set_ne (fun z => hi' z.symm), B2.2 i hi, B1.2 i hi]
  · unfold tbInner
    refine (ss_set a1 (by simp)).trans ((ss_set a2 (by simp)).trans ((ss_set a3 (by simp)).trans ?_))
    have a4 : evE call (.var 6) [some (.ref d), some x1, some (natT k), s3, s4, some (lstN l2), some (.ref c), s7, some (natT v), s9, s10, s11] h2 = .ok (.ref c) h2 := ev_var rfl
    have a5 : evE call (.var 8) [some (.ref d), some x1, some (natT k), s3, s4, some (lstN l2), some (.ref c), s7, some (natT v), s9, s10, s11] h2 = .ok (natT v) h2 := ev_var rfl
    show evSs call w [.app (.var 6) (.var 8)] [some (.ref d), some x1, some (natT k), s3, s4, some (lstN l2), some (.ref c), s7, some (natT v), s9, s10, s11] h2 = _
    simp only [evSs, evS, a4, a5, R.out_ok, ecb, if_true, ex, O.seq_nx]
theorem inner_loop {Φ : Prog} {w n r p d c m k : Nat} {nm nd nt nm' nd' nt' nf' : Str} {h : Hs} {x1 : T} {s3 s4 s7 s8 s9 s10 s11 : Option T} (hp : Φ[p]? = some (f_pick nm nd nt r)) (hr : Φ[r]? = some (f_roll nm' nd' nt' nf'))
    (D : Dice h d m) (hdc : d ≠ c) (hc : h[c]? = some (.lst [])) (hk : 0 < k) (hk1 : k ≤ 1000) (hm : m + 2 * k < 1000000000) :
    ∃ (own : List Nat) (σ' : Env) (h' : Hs), own.length = k ∧ (∀ x ∈ own, x < k) ∧ Dice h' d (m + 2 * k) ∧ h'[c]? = some (.lst (own.map natT)) ∧ But2 d c h h' ∧ (∃ s5 s7 s8, σ' = [some (.ref d), some x1, some (natT k), s3, s4, s5, some (.ref c), s7, s8, s9, s10, s11]) ∧
      loopO (turn (callN Φ w (n + 2)) w (.name 7) (tbInner r p)) ((List.range k).map natT) [some (.ref d), some x1, some (natT k), s3, s4, some (lstN (List.range k)), some (.ref c), s7, s8, s9, s10, s11] h = .nx σ' h' := by
  obtain ⟨σ', h', e, own, left, s7', s8', rfl, h1, h2, h3, h4, h5, h6, h7, h8⟩ := loop_at (f := turn (callN Φ w (n + 2)) w (.name 7) (tbInner r p)) (xs := (List.range k).map natT) (i := 0) (h := h) (σ := [some (.ref d), some x1, some (natT k), s3, s4, some (lstN (List.range k)), some (.ref c), s7, s8, s9, s10, s11])
    (P := fun j σ h' => ∃ (own left : List Nat) (s7 s8 : Option T), σ = [some (.ref d), some x1, some (natT k), s3, s4, some (lstN left), some (.ref c), s7, s8, s9, s10, s11] ∧ own.length = j ∧ (∀ x ∈ own, x < k) ∧ left ≠ [] ∧ (∀ x ∈ left, x < k) ∧ left.length ≤ 1000 ∧ Dice h' d (m + 2 * j) ∧ h'[c]? = some (.lst (own.map natT)) ∧ But2 d c h h')
    ⟨[], List.range k, s7, s8, rfl, rfl, fun x hx => (by cases hx), fun z => (by have := congrArg List.length z; simp at this; omega), fun x hx => List.mem_range.mp hx, by simpa using hk1, D, hc, rfl, fun _ _ _ => rfl⟩
    fun j x hx σ h1 hP => by
      obtain ⟨own, left, t7, t8, rfl, p1, p2, p3, p4, p5, p6, p7, p8⟩ := hP
      rw [Nat.zero_add] at p1 p6 ⊢
      have hj : j < k := by
        have := (List.getElem?_eq_some_iff.mp hx).1
        simpa using this
      obtain ⟨v, left', h2, q1, q2, q3, q4, q5, q6, q7, q8⟩ := inner_turn (w := w) (n := n) (k := k) (b := 0) (x := x) (x1 := x1) (s3 := s3) (s4 := s4) (s7 := some x) (s8 := t8) (s9 := s9) (s10 := s10) (s11 := s11) hp hr p6 hdc p7 p3 p4 p5 (by omega) hk (by omega)
      refine ⟨[some (.ref d), some x1, some (natT k), s3, s4, some (lstN left'), some (.ref c), some x, some (natT v), s9, s10, s11], h2, q8, own ++ [v], left', some x, some (natT v), rfl, by simp [p1], fun y hy => ?_, q2, q3, q4, by rw [Nat.mul_succ]; exact q5, q6, q7.1.trans p8.1, fun i hi hi' => (q7.2 i hi hi').trans (p8.2 i hi hi')⟩
      rcases List.mem_append.mp hy with hy | hy
      · exact p2 y hy
      · simp at hy; subst hy; exact q1
  rw [Nat.zero_add, List.length_map, List.length_range] at h1 h6
  exact ⟨own, [some (.ref d), some x1, some (natT k), s3, s4, some (lstN left), some (.ref c), s7', s8', s9, s10, s11], h', h1, h2, h6, h7, h8, ⟨_, _, _, rfl⟩, e⟩
end SH
end

section
set_option autoImplicit false
set_option linter.all false
set_option maxRecDepth 100000
set_option maxHeartbeats 4000000
/-! Strandhues: the laws' tables, their columns. -/
namespace SH
open PySem
theorem Dice.app {h : Hs} {d m : Nat} {q : Hs} (D : Dice h d m) : Dice (h ++ q) d m := by
  have hl := D.lt
  obtain ⟨a, b, c, e, r⟩ := D
  exact ⟨a, b, c, by rw [List.getElem?_append_left hl, e], r⟩
theorem Dice.set {h : Hs} {d m c : Nat} {o : Cell} (D : Dice h d m) (hc : c ≠ d) : Dice (h.set c o) d m := by
  obtain ⟨a, b, e, f, r⟩ := D
  exact ⟨a, b, e, by rw [List.getElem?_set_ne hc, f], r⟩
def tbOuter (r p : Nat) : List S := [.par [5, 6] [.rng false [.var 2], .new (.lst [])],
    .forS (.name 7) (.rng [.var 2]) (tbInner r p),
    .freeze 6,
    .app (.var 3) (.var 6)]
/-- columns, rows: k lists of k numbers below k -/
def Sq (k : Nat) (l : List Nat) : Prop := l.length = k ∧ ∀ x ∈ l, x < k
theorem okD_lstN {j : Nat} {l : List Nat} : okD (j + 1) (lstN l) = true := by
  unfold lstN
  simp only [okD]
  exact okDs_nats
theorem outer_turn {Φ : Prog} {w n r p d b m k : Nat} {nm nd nt nm' nd' nt' nf' : Str} {h hb : Hs} {cols : List (List Nat)} {x x1 : T} {s4 s5 s6 s7 s8 s9 s10 s11 : Option T} (hp : Φ[p]? = some (f_pick nm nd nt r)) (hr : Φ[r]? = some (f_roll nm' nd' nt' nf'))
    (D : Dice h d m) (hdb : d < b) (hc : h[b]? = some (.lst (cols.map lstN))) (hk : 0 < k) (hk1 : k ≤ 1000) (hm : m + 2 * k < 1000000000) (hbl : cols.length ≤ 1000) (hbb : ∀ i, i ≠ d → i < b → h[i]? = hb[i]?) :
    ∃ own u5 u6 u7 u8 h', Sq k own ∧ Dice h' d (m + 2 * k) ∧ h'[b]? = some (.lst ((cols ++ [own]).map lstN)) ∧ (∀ i, i ≠ d → i < b → h'[i]? = hb[i]?) ∧
      evSs (callN Φ w (n + 2)) w (tbOuter r p) [some (.ref d), some x1, some (natT k), some (.ref b), some x, s5, s6, s7, s8, s9, s10, s11] h = .nx [some (.ref d), some x1, some (natT k), some (.ref b), some x, u5, u6, u7, u8, s9, s10, s11] h' := by
  have hbl' : b < h.length := (List.getElem?_eq_some_iff.mp hc).1
  obtain ⟨own, σ', h1, l1, l2, D1, c1, B1, ⟨t5, t7, t8, rfl⟩, e1⟩ := inner_loop (w := w) (n := n) (c := h.length) (h := h ++ [.lst []]) (x1 := x1) (k := k) (s3 := some (.ref b)) (s4 := some x) (s7 := s7) (s8 := s8) (s9 := s9) (s10 := s10) (s11 := s11) hp hr D.app (by omega) (by simp) hk hk1 hm
  have hlen : h1.length = h.length + 1 := by rw [B1.1]; simp
  have hb1 : h1[b]? = some (.lst (cols.map lstN)) := by
    rw [B1.2 b (by omega) (by omega), List.getElem?_append_left hbl', hc]
  have hLI : LINE = 16777216 := rfl
  have ex : appT (h1.set h.length .dead) (.ref b) (lstN own) = some ((h1.set h.length .dead).set b (.lst ((cols ++ [own]).map lstN))) := by
    have z : (h1.set h.length .dead)[b]? = some (.lst (cols.map lstN)) := by rw [List.getElem?_set_ne (by omega), hb1]
    simp only [appT, z, List.length_map]
    rw [if_pos ⟨by omega, okD_lstN⟩]
    simp
  refine ⟨own, t5, some (lstN own), t7, t8, (h1.set h.length .dead).set b (.lst ((cols ++ [own]).map lstN)), ⟨l1, l2⟩, (D1.set (by omega)).set (by omega), ?_, fun i hi hi' => ?_, ?_⟩
  · rw [List.getElem?_set_self (by simp; omega)]
  · rw [List.getElem?_set_ne (by omega), List.getElem?_set_ne (by omega), B1.2 i hi (by omega), List.getElem?_append_left (by omega), hbb i hi hi']
  · unfold tbOuter
    have r1 : evEs (callN Φ w (n + 2)) [.rng false [.var 2], .new (.lst [])] [some (.ref d), some x1, some (natT k), some (.ref b), some x, s5, s6, s7, s8, s9, s10, s11] h = .ok [lstN (List.range k), .ref h.length] (h ++ [.lst []]) := by
      have r0 := rng_nat (n := k) (by omega)
      refine ev_cons ?_ (ev_cons (ev_newl (xs := []) ev_nil) ev_nil)
      simp only [evE, evEs, List.getElem?_cons_succ, List.getElem?_cons_zero, R.bind_ok, natT]
      rw [r0]; rfl
    have r2 : evI (callN Φ w (n + 2)) (.rng [.var 2]) [some (.ref d), some x1, some (natT k), some (.ref b), some x, some (lstN (List.range k)), some (.ref h.length), s7, s8, s9, s10, s11] (h ++ [.lst []]) = .ok ((List.range k).map natT) (h ++ [.lst []]) := by
      have r0 := rng_nat (n := k) (by omega)
      simp only [evI, evE, evEs, List.getElem?_cons_succ, List.getElem?_cons_zero, R.bind_ok, natT]
      rw [r0]; rfl
    have r3 : evSs (callN Φ w (n + 2)) w [.par [5, 6] [.rng false [.var 2], .new (.lst [])], .forS (.name 7) (.rng [.var 2]) (tbInner r p), .freeze 6, .app (.var 3) (.var 6)] [some (.ref d), some x1, some (natT k), some (.ref b), some x, s5, s6, s7, s8, s9, s10, s11] h
      = evSs (callN Φ w (n + 2)) w [.forS (.name 7) (.rng [.var 2]) (tbInner r p), .freeze 6, .app (.var 3) (.var 6)] [some (.ref d), some x1, some (natT k), some (.ref b), some x, some (lstN (List.range k)), some (.ref h.length), s7, s8, s9, s10, s11] (h ++ [.lst []]) := by
      rw [evSs, evS, r1]; rfl
    rw [r3]
    refine (ss_for r2 e1).trans ?_
    have r4 : freezeT h1 (.ref h.length) = some (lstN own, h1.set h.length .dead) := by simp only [freezeT, c1, lstN]
    have r5 : evSs (callN Φ w (n + 2)) w [.freeze 6, .app (.var 3) (.var 6)] [some (.ref d), some x1, some (natT k), some (.ref b), some x, t5, some (.ref h.length), t7, t8, s9, s10, s11] h1
      = evSs (callN Φ w (n + 2)) w [.app (.var 3) (.var 6)] [some (.ref d), some x1, some (natT k), some (.ref b), some x, t5, some (lstN own), t7, t8, s9, s10, s11] (h1.set h.length .dead) := by
      rw [evSs, evS]
      simp only [List.getElem?_cons_succ, List.getElem?_cons_zero, r4, O.seq_nx]
      rfl
    rw [r5]
    have ecb : cellB (h1.set h.length .dead) (.ref b) = true := by
      simp only [cellB]
      rw [List.getElem?_set_ne (by omega), hb1]
    simp only [evSs, evS, evE, List.getElem?_cons_succ, List.getElem?_cons_zero, R.out_ok, ecb, if_true, ex, O.seq_nx]
theorem outer_loop {Φ : Prog} {w n r p d b m k : Nat} {nm nd nt nm' nd' nt' nf' : Str} {hb : Hs} {x1 : T} {s4 s5 s6 s7 s8 s9 s10 s11 : Option T} (hp : Φ[p]? = some (f_pick nm nd nt r)) (hr : Φ[r]? = some (f_roll nm' nd' nt' nf'))
    (D : Dice hb d m) (hb0 : b = hb.length) (hk : 0 < k) (hk1 : k ≤ 1000) (hm : m + 2 * k * k < 1000000000) :
    ∃ (cols : List (List Nat)) (u4 u5 u6 u7 u8 : Option T) (h' : Hs), cols.length = k ∧ (∀ c ∈ cols, Sq k c) ∧ Dice h' d (m + 2 * k * k) ∧ h'[b]? = some (.lst (cols.map lstN)) ∧ (∀ i, i ≠ d → i < b → h'[i]? = hb[i]?) ∧
      loopO (turn (callN Φ w (n + 2)) w (.name 4) (tbOuter r p)) ((List.range k).map natT) [some (.ref d), some x1, some (natT k), some (.ref b), s4, s5, s6, s7, s8, s9, s10, s11] (hb ++ [.lst []]) = .nx [some (.ref d), some x1, some (natT k), some (.ref b), u4, u5, u6, u7, u8, s9, s10, s11] h' := by
  have hdb := D.lt
  obtain ⟨σ', h', e, cols, t4, t5, t6, t7, t8, rfl, h1, h2, h3, h4, h5⟩ := loop_at (f := turn (callN Φ w (n + 2)) w (.name 4) (tbOuter r p)) (xs := (List.range k).map natT) (i := 0) (h := hb ++ [.lst []]) (σ := [some (.ref d), some x1, some (natT k), some (.ref b), s4, s5, s6, s7, s8, s9, s10, s11])
    (P := fun j σ h' => ∃ (cols : List (List Nat)) (s4 s5 s6 s7 s8 : Option T), σ = [some (.ref d), some x1, some (natT k), some (.ref b), s4, s5, s6, s7, s8, s9, s10, s11] ∧ cols.length = j ∧ (∀ c ∈ cols, Sq k c) ∧ Dice h' d (m + 2 * k * j) ∧ h'[b]? = some (.lst (cols.map lstN)) ∧ (∀ i, i ≠ d → i < b → h'[i]? = hb[i]?))
    ⟨[], s4, s5, s6, s7, s8, rfl, rfl, fun c hc => (by cases hc), D.app, by subst hb0; simp, fun i hi hi' => by rw [List.getElem?_append_left (by omega)]⟩
    fun j x hx σ h1 hP => by
      obtain ⟨cols, t4, t5, t6, t7, t8, rfl, p1, p2, p3, p4, p5⟩ := hP
      rw [Nat.zero_add] at p1 p3 ⊢
      have hj : j < k := by
        have := (List.getElem?_eq_some_iff.mp hx).1
        simpa using this
      have hjk : 2 * k * (j + 1) ≤ 2 * k * k := Nat.mul_le_mul_left _ hj
      rw [Nat.mul_succ] at hjk
      obtain ⟨own, u5, u6, u7, u8, h2, q1, q2, q3, q4, q5⟩ := outer_turn (w := w) (n := n) (x := x) (x1 := x1) (s4 := t4) (s5 := t5) (s6 := t6) (s7 := t7) (s8 := t8) (s9 := s9) (s10 := s10) (s11 := s11) hp hr p3 (by omega) p4 hk hk1 (by omega) (by omega) p5
      refine ⟨[some (.ref d), some x1, some (natT k), some (.ref b), some x, u5, u6, u7, u8, s9, s10, s11], h2, q5, cols ++ [own], some x, u5, u6, u7, u8, rfl, by simp [p1], fun c hc => ?_, by rw [Nat.mul_succ, ← Nat.add_assoc]; exact q2, q3, q4⟩
      rcases List.mem_append.mp hc with hc | hc
      · exact p2 c hc
      · simp at hc; subst hc; exact q1
  rw [Nat.zero_add, List.length_map, List.length_range] at h1 h3
  exact ⟨cols, t4, t5, t6, t7, t8, h', h1, h2, h3, h4, h5, e⟩
end SH
end

section
set_option autoImplicit false
set_option linter.all false
set_option maxRecDepth 100000
set_option maxHeartbeats 4000000
/-! Strandhues: the laws' tables, their rows. -/
namespace SH
open PySem
theorem compR_new {f : T → Hs → R (Option T)} {g : T → List T} : ∀ {xs : List T} {h : Hs}, (∀ x ∈ xs, ∀ h', f x h' = .ok (some (.ref h'.length)) (h' ++ [.lst (g x)])) → compR f xs h = .ok ((List.range xs.length).map fun i => T.ref (h.length + i)) (h ++ xs.map fun x => .lst (g x))
  | [], h, _ => by simp [compR]
  | x :: xs, h, hf => by
    have ih := compR_new (xs := xs) (h := h ++ [.lst (g x)]) fun y hy => hf y (List.mem_cons_of_mem _ hy)
    simp only [compR, hf x List.mem_cons_self, R.bind_ok, ih]
    rw [List.length_cons, List.range_succ_eq_map, List.map_cons, List.map_map, List.map_cons, List.append_assoc]
    congr 2
    refine List.map_congr_left fun i _ => ?_
    simp only [List.length_append, List.length_cons, List.length_nil, Function.comp]
    congr 1
    omega
theorem ev_comp_new {call : Calls} {σ : Env} {h h1 : Hs} {e : E} {g : G} {it : I} {own : List Nat} {xs : List T} {k : T → List T} (hi : evI call it σ h = .ok xs h1) (hf : ∀ x ∈ xs, ∃ σ', asgG g x (wipeT σ own) = some σ' ∧ ∀ h', evE call e σ' h' = .ok (.lst (k x)) h') :
    evE call (.comp (.new e) g it none own) σ h = .ok (.lst ((List.range xs.length).map fun i => T.ref (h1.length + i))) (h1 ++ xs.map fun x => .lst (k x)) := by
  have e := compR_new (f := fun x h => (R.of (asgG g x (wipeT σ own)) h).bind fun σ' h => asB (evC call none σ' h) fun k h => if k then (evE call (.new e) σ' h).bind fun y h => .ok (some y) h else .ok none h) (g := k) (h := h1) (xs := xs) fun x hx h' => by
    obtain ⟨σ', e1, e2⟩ := hf x hx
    simp only [e1, R.of_some, R.bind_ok, evC, asB_ok, if_true, evE, e2]
  simp only [evE, hi, R.bind_ok] at e ⊢
  rw [e]; rfl
/-- a row of columns -/
def rowOf (cols : List (List Nat)) (k i : Nat) : List Nat := (List.range k).map fun c => (cols.getD c []).getD i 0
theorem rowOf_sq {cols : List (List Nat)} {k i : Nat} (hc : cols.length = k) (hs : ∀ c ∈ cols, Sq k c) (hi : i < k) : Sq k (rowOf cols k i) := by
  refine ⟨by simp [rowOf], fun x hx => ?_⟩
  unfold rowOf at hx
  obtain ⟨c, hc', rfl⟩ := List.mem_map.mp hx
  have hcl : c < cols.length := by rw [hc]; exact List.mem_range.mp hc'
  obtain ⟨s1, s2⟩ := hs _ (List.getElem_mem hcl)
  have hil : i < cols[c].length := by omega
  simp only [List.getD_eq_getElem?_getD, List.getElem?_eq_getElem hcl, Option.getD_some, List.getElem?_eq_getElem hil]
  exact s2 _ (List.getElem_mem hil)
theorem row_ok {call : Calls} {σ : Env} {h : Hs} {cols : List (List Nat)} {k i : Nat} (hl : σ.length = 12) (h2 : σ[2]? = some (some (natT k))) (h3 : σ[3]? = some (some (.lst (cols.map lstN)))) (h11 : σ[11]? = some (some (natT i))) (hk : k ≤ 1000) (hc : cols.length = k) (hs : ∀ c ∈ cols, Sq k c) (hi : i < k) :
    evE call (.comp (.idx (.idx (.var 3) (.var 4)) (.var 11)) (.name 4) (.rng [.var 2]) none [4]) σ h = .ok (lstN (rowOf cols k i)) h := by
  have r0 := rng_nat (n := k) (by omega)
  have e := ev_comp (call := call) (σ := σ) (h := h) (h1 := h) (elt := .idx (.idx (.var 3) (.var 4)) (.var 11)) (g := .name 4) (it := .rng [.var 2]) (own := [4]) (xs := (List.range k).map natT) (k := fun x => match x with
      | .int c => natT ((cols.getD c.toNat []).getD i 0)
      | t => t) (by
        simp only [evI, evEs, evE, h2, R.bind_ok, natT]
        rw [r0]; rfl) fun x hx => by
      obtain ⟨c, hc', rfl⟩ := List.mem_map.mp hx
      have hc' := List.mem_range.mp hc'
      refine ⟨(wipeT σ [4]).set 4 (some (natT c)), by simp [asgG, wipeT, hl], ?_⟩
      have g3 : ((wipeT σ [4]).set 4 (some (natT c)))[3]? = some (some (.lst (cols.map lstN))) := by
        simp only [wipeT]
        rw [List.getElem?_set_ne (by decide), List.getElem?_set_ne (by decide), h3]
      have g11 : ((wipeT σ [4]).set 4 (some (natT c)))[11]? = some (some (natT i)) := by
        simp only [wipeT]
        rw [List.getElem?_set_ne (by decide), List.getElem?_set_ne (by decide), h11]
      have g4 : ((wipeT σ [4]).set 4 (some (natT c)))[4]? = some (some (natT c)) := by
        simp only [wipeT]
        rw [List.getElem?_set_self (by simp [hl])]
      generalize (wipeT σ [4]).set 4 (some (natT c)) = σ' at g3 g4 g11 ⊢
      have hcl : c < cols.length := by omega
      obtain ⟨s1, s2⟩ := hs _ (List.getElem_mem hcl)
      have hil : i < cols[c].length := by omega
      have a1 : L2.atI (cols.map lstN) (c : Nat) = some (lstN cols[c]) := by
        unfold L2.atI
        rw [ixN_of (by simpa using hcl)]
        simp [hcl]
      have a2 : L2.atI (cols[c].map natT) (i : Nat) = some (natT cols[c][i]) := by
        unfold L2.atI
        rw [ixN_of (by simpa using hil)]
        simp [hil]
      have g3' : evE call (.var 3) σ' h = .ok (.lst (cols.map lstN)) h := ev_var g3
      have g4' : evE call (.var 4) σ' h = .ok (natT c) h := ev_var g4
      have g11' : evE call (.var 11) σ' h = .ok (natT i) h := ev_var g11
      rw [evE, evE, g3', R.bind_ok, g4', R.bind_ok]
      have b1 : idxT h (.lst (cols.map lstN)) (natT c) = some (lstN cols[c]) := a1
      rw [b1, R.of_some, R.bind_ok, g11', R.bind_ok]
      have b2 : idxT h (lstN cols[c]) (natT i) = some (natT cols[c][i]) := a2
      rw [b2, R.of_some]
      simp only [natT, Int.toNat_natCast, List.getD_eq_getElem?_getD, List.getElem?_eq_getElem hcl, Option.getD_some, List.getElem?_eq_getElem hil]
  rw [e]
  unfold lstN rowOf
  rw [List.map_map, List.map_map]
  congr 2
/-- rows that stand at L, in order -/
def RowsAt (h : Hs) (L : Nat) (rows : List (List Nat)) : Prop := ∀ i r, rows[i]? = some r → h[L + i]? = some (.lst (r.map natT))
def refsOf (L k : Nat) : List T := (List.range k).map fun i => T.ref (L + i)
theorem rows_new {call : Calls} {w : Nat} {x0 x1 : T} {h : Hs} {cols : List (List Nat)} {k : Nat} {ss : List S} {s4 s5 s6 s7 s8 s9 s10 s11 : Option T} (hk : k ≤ 1000) (hc : cols.length = k) (hs : ∀ c ∈ cols, Sq k c) :
    ∃ h', evSs call w (.asg (.name 10) (.new (.comp (.new (.comp (.idx (.idx (.var 3) (.var 4)) (.var 11)) (.name 4) (.rng [.var 2]) none [4])) (.name 11) (.rng [.var 2]) none [11])) :: ss) [some x0, some x1, some (natT k), some (.lst (cols.map lstN)), s4, s5, s6, s7, s8, s9, s10, s11] h
      = evSs call w ss [some x0, some x1, some (natT k), some (.lst (cols.map lstN)), s4, s5, s6, s7, s8, s9, some (.ref (h.length + k)), s11] h' ∧ h'.length = h.length + k + 1 ∧ (∀ i, i < h.length → h'[i]? = h[i]?) ∧ h'[h.length + k]? = some (.lst (refsOf h.length k)) ∧ RowsAt h' h.length ((List.range k).map (rowOf cols k)) := by
  have r0 := rng_nat (n := k) (by omega)
  have e := ev_comp_new (call := call) (σ := [some x0, some x1, some (natT k), some (.lst (cols.map lstN)), s4, s5, s6, s7, s8, s9, s10, s11]) (h := h) (h1 := h) (e := .comp (.idx (.idx (.var 3) (.var 4)) (.var 11)) (.name 4) (.rng [.var 2]) none [4]) (g := .name 11) (it := .rng [.var 2]) (own := [11]) (xs := (List.range k).map natT)
    (k := fun x => match x with
      | .int i => (rowOf cols k i.toNat).map natT
      | _ => []) (by
        simp only [evI, evEs, evE, List.getElem?_cons_succ, List.getElem?_cons_zero, R.bind_ok, natT]
        rw [r0]; rfl) fun x hx => by
      obtain ⟨i, hi, rfl⟩ := List.mem_map.mp hx
      have hi := List.mem_range.mp hi
      exact ⟨[some x0, some x1, some (natT k), some (.lst (cols.map lstN)), s4, s5, s6, s7, s8, s9, s10, some (natT i)], rfl, fun h' => row_ok rfl rfl rfl rfl hk hc hs hi⟩
  simp only [List.length_map, List.length_range, List.map_map] at e
  generalize hq : (h ++ (List.range k).map _) = h2 at e
  have hl2 : h2.length = h.length + k := by rw [← hq]; simp
  refine ⟨h2 ++ [.lst (refsOf h.length k)], ?_, by simp [hl2], fun i hi => ?_, ?_, fun i r hr => ?_⟩
  · refine (ss_set (x := .ref (h.length + k)) (h' := h2 ++ [.lst (refsOf h.length k)]) ?_ (by simp)).trans rfl
    rw [evE, e, R.bind_ok]
    simp only [hl2, refsOf]
  · rw [List.getElem?_append_left (by omega), ← hq, List.getElem?_append_left hi]
  · rw [← hl2]; simp
  · rw [List.getElem?_map] at hr
    have hik : i < k := by
      by_cases z : i < k
      · exact z
      · rw [List.getElem?_eq_none (by simpa using z)] at hr; cases hr
    rw [List.getElem?_range hik] at hr
    cases hr
    rw [List.getElem?_append_left (by omega), ← hq, List.getElem?_append_right (by omega), Nat.add_sub_cancel_left, List.getElem?_map, List.getElem?_range hik]
    simp [natT]
theorem ref_at {L k i : Nat} {h : Hs} {b : Nat} (hb : h[b]? = some (.lst (refsOf L k))) (hi : i < k) : idxT h (.ref b) (natT i) = some (.ref (L + i)) := by
  simp only [idxT, natT, seqOf, hb, refsOf]
  exact at_range hi
def diagB : List S := [.setI (.idx (.var 10) (.var 8)) (.var 8) (.var 8)]
theorem diag_loop {call : Calls} {w L k b : Nat} {x0 x1 x3 : T} {h : Hs} {rows : List (List Nat)} {s4 s5 s6 s7 s8 s9 s11 : Option T} (hbk : b = L + k) (hl : rows.length = k) (hs : ∀ r ∈ rows, Sq k r) (hr : RowsAt h L rows) (hb : h[b]? = some (.lst (refsOf L k))) :
    ∃ (rows' : List (List Nat)) (s8' : Option T) (h' : Hs), rows'.length = k ∧ (∀ r ∈ rows', Sq k r) ∧ RowsAt h' L rows' ∧ h'[b]? = some (.lst (refsOf L k)) ∧ h'.length = h.length ∧ (∀ i, i < L → h'[i]? = h[i]?) ∧
      loopO (turn call w (.name 8) diagB) ((List.range k).map natT) [some x0, some x1, some (natT k), some x3, s4, s5, s6, s7, s8, s9, some (.ref b), s11] h = .nx [some x0, some x1, some (natT k), some x3, s4, s5, s6, s7, s8', s9, some (.ref b), s11] h' := by
  obtain ⟨σ', h', e, rows', t8, rfl, h1, h2, h3, h4, h5, h6⟩ := loop_at (f := turn call w (.name 8) diagB) (xs := (List.range k).map natT) (i := 0) (h := h) (σ := [some x0, some x1, some (natT k), some x3, s4, s5, s6, s7, s8, s9, some (.ref b), s11])
    (P := fun j σ h' => ∃ (rows' : List (List Nat)) (s8' : Option T), σ = [some x0, some x1, some (natT k), some x3, s4, s5, s6, s7, s8', s9, some (.ref b), s11] ∧ rows'.length = k ∧ (∀ r ∈ rows', Sq k r) ∧ RowsAt h' L rows' ∧ h'[b]? = some (.lst (refsOf L k)) ∧ h'.length = h.length ∧ ∀ i, i < L → h'[i]? = h[i]?)
    ⟨rows, s8, rfl, hl, hs, hr, hb, rfl, fun _ _ => rfl⟩ fun j x hx σ h1 hP => by
      obtain ⟨rows', t8, rfl, p1, p2, p3, p4, p5, p6⟩ := hP
      have hj : j < k := by
        have := (List.getElem?_eq_some_iff.mp hx).1
        simpa using this
      rw [List.getElem?_map, List.getElem?_range hj] at hx
      cases hx
      have hjr : j < rows'.length := by omega
      have q1 := p3 j rows'[j] (List.getElem?_eq_getElem hjr)
      have sq := p2 _ (List.getElem_mem hjr)
      have hjl : L + j < h1.length := (List.getElem?_eq_some_iff.mp q1).1
      have es : setT h1 (.ref (L + j)) (natT j) (natT j) = some (h1.set (L + j) (.lst ((rows'[j].set j j).map natT))) := by
        simp only [setT, natT, q1, List.length_map]
        rw [ixN_of (by rw [sq.1]; exact hj)]
        simp only [okD, if_true]
        rw [List.map_set]; rfl
      refine ⟨[some x0, some x1, some (natT k), some x3, s4, s5, s6, s7, some (natT j), s9, some (.ref b), s11], h1.set (L + j) (.lst ((rows'[j].set j j).map natT)), ?_, rows'.set j (rows'[j].set j j), some (natT j), rfl, by simp [p1], fun r hr => ?_, fun i r hir => ?_, ?_, by simp [p5], fun i hi => ?_⟩
      · show evSs call w [.setI (.idx (.var 10) (.var 8)) (.var 8) (.var 8)] [some x0, some x1, some (natT k), some x3, s4, s5, s6, s7, some (natT j), s9, some (.ref b), s11] h1 = _
        simp only [evSs, evS, evE, List.getElem?_cons_succ, List.getElem?_cons_zero, R.bind_ok, R.out_ok, ref_at p4 hj, R.of_some, es, O.seq_nx]
      · rcases List.mem_or_eq_of_mem_set hr with hr | rfl
        · exact p2 r hr
        · refine ⟨by simp [sq.1], fun y hy => ?_⟩
          rcases List.mem_or_eq_of_mem_set hy with hy | rfl
          · exact sq.2 y hy
          · exact hj
      · by_cases z : i = j
        · subst z
          rw [List.getElem?_set_self hjr] at hir
          cases hir
          rw [List.getElem?_set_self hjl]
        · rw [List.getElem?_set_ne (fun q => z q.symm)] at hir
          rw [List.getElem?_set_ne (by omega)]
          exact p3 i r hir
      · rw [List.getElem?_set_ne (by omega), p4]
      · rw [List.getElem?_set_ne (by omega), p6 i hi]
  exact ⟨rows', t8, h', h1, h2, h3, h4, h5, h6, e⟩
/-- the rows as tuples -/
theorem rows_out {call : Calls} {L k : Nat} {σ : Env} {h : Hs} {rows : List (List Nat)} (hl : rows.length = k) (hr : RowsAt h L rows) (h10 : σ[10]? = some (some (.lst (refsOf L k)))) (hσ : σ.length = 12) :
    evE call (.blt .tupleOf [.comp (.blt .tupleOf [.var 11]) (.name 11) (.val (.var 10)) none [11]]) σ h = .ok (.tup (rows.map tupN)) h := by
  have e := ev_comp (call := call) (σ := σ) (h := h) (h1 := h) (elt := .blt .tupleOf [.var 11]) (g := .name 11) (it := .val (.var 10)) (own := [11]) (xs := refsOf L k) (k := fun x => match x with
      | .ref a => tupN (rows.getD (a - L) [])
      | t => t) (by simp [evI, evE, h10, walkT]) fun x hx => by
      unfold refsOf at hx
      obtain ⟨i, hi, rfl⟩ := List.mem_map.mp hx
      have hi := List.mem_range.mp hi
      have hir : i < rows.length := by omega
      have q := hr i rows[i] (List.getElem?_eq_getElem hir)
      refine ⟨(wipeT σ [11]).set 11 (some (.ref (L + i))), by simp [asgG, wipeT, hσ], ?_⟩
      have g : ((wipeT σ [11]).set 11 (some (.ref (L + i))))[11]? = some (some (.ref (L + i))) := by
        simp only [wipeT]
        rw [List.getElem?_set_self (by simp [hσ])]
      simp [evE, evEs, g, bltT, seqOf, q, tupN, List.getD_eq_getElem?_getD, hir]
  rw [evE, evEs, e, R.bind_ok, evEs, R.bind_ok, R.bind_ok]
  have e2 : (refsOf L k).map (fun x => match x with
      | .ref a => tupN (rows.getD (a - L) [])
      | t => t) = rows.map tupN := by
    unfold refsOf
    rw [List.map_map]
    refine List.ext_getElem (by simp [hl]) fun i h1 h2 => ?_
    have hir : i < rows.length := by simpa using h2
    simp [List.getD_eq_getElem?_getD, hir]
  rw [e2]; rfl
end SH
end

section
set_option autoImplicit false
set_option linter.all false
set_option maxRecDepth 100000
set_option maxHeartbeats 4000000
/-! Strandhues: the laws' tables are tables. -/
namespace SH
open PySem
theorem tab_rows {rows : List (List Nat)} {k : Nat} (h1 : 1 ≤ k) (hl : rows.length = k) (hs : ∀ r ∈ rows, Sq k r) : ∃ M, T.tup (rows.map tupN) = tabT k M ∧ rowsD k M := by
  subst hl
  obtain ⟨M, e, hM⟩ := tab_of rows (by simpa using h1) (by
    simp only [List.all_eq_true, Bool.and_eq_true, decide_eq_true_eq]
    exact fun r hr => ⟨(hs r hr).1, (hs r hr).2⟩)
  exact ⟨M, e, hM⟩
theorem known_tab : ∀ rows ∈ knownL, 1 ≤ rows.length ∧ rows.length ≤ 4 ∧ ∀ r ∈ rows, r.length = rows.length ∧ ∀ x ∈ r, x < rows.length := by decide
theorem known_is {rows : List (List Nat)} (h : rows ∈ knownL) : ∃ k M, knownT rows = tabT k M ∧ 1 ≤ k ∧ k ≤ 4 ∧ rowsD k M := by
  obtain ⟨h1, h2, h3⟩ := known_tab rows h
  obtain ⟨M, e, hM⟩ := tab_rows h1 rfl h3
  exact ⟨rows.length, M, e, h1, h2, hM⟩
theorem ev_is0 {call : Calls} {σ : Env} {h h' : Hs} {e : E} {q : Nat} (he : evE call e σ h = .ok (natT q) h') : evE call (.cmp .eq e (.con (T.int 0))) σ h = .ok (.bl (decide (q = 0))) h' := by
  rw [evE, he, R.bind_ok, ev_con, R.bind_ok, natT, cmp_eqI]
  have : (((q : Nat) : Int) == 0) = decide (q = 0) := by
    by_cases z : q = 0
    · subst z; rfl
    · have : ((q : Nat) : Int) ≠ 0 := by omega
      simp [z, this]
  rw [this]; rfl
theorem But.take {d : Nat} {h h' : Hs} (hl : h.length ≤ h'.length) (hb : ∀ i, i ≠ d → i < h.length → h'[i]? = h[i]?) : But d h (h'.take h.length) := by
  refine ⟨by simp [hl], fun i hi => ?_⟩
  by_cases z : i < h.length
  · rw [List.getElem?_take_of_lt z, hb i hi z]
  · rw [List.getElem?_eq_none (by simp; omega), List.getElem?_eq_none (by omega)]
theorem Dice.take {h : Hs} {d m n : Nat} (D : Dice h d m) (hd : d < n) : Dice (h.take n) d m := by
  obtain ⟨a, b, c, e, r⟩ := D
  exact ⟨a, b, c, by rw [List.getElem?_take_of_lt hd, e], r⟩
section
variable {Φ : Prog} {w n f r p kn d m most : Nat} {h : Hs} {nm nd nt nm' nd' nt' nf' : Str}
theorem table_ok (I : Is Φ f 2 12 (b_law_table r p kn)) (Ik : Is Φ kn 1 3 (b_law_known p)) (hp : Φ[p]? = some (f_pick nm nd nt r)) (hr : Φ[r]? = some (f_roll nm' nd' nt' nf')) (D : Dice h d m) (h1 : 1 ≤ most) (h8 : most ≤ 8) (hm : m + 1000 < 1000000000) :
    ∃ k M h', callN Φ w (n + 4) f [.ref d, natT most] h = .ok (tabT k M) h' ∧ 1 ≤ k ∧ k ≤ max 4 most ∧ rowsD k M ∧ Dice h' d (m + 200) ∧ But d h h' := by
  have hd := D.lt
  obtain ⟨q, ha, hq, e1, D1, B1⟩ := roll_nat (w := w) (n := n + 2) (total := 3) hr D (by omega) (by omega) (by omega)
  have t3 : natT 3 = T.int 3 := rfl
  rw [t3] at e1
  have c1 : evE (callN Φ w (n + 3)) (.cmp .eq (.call r [.var 0, .con (T.int 3)] [] [0, 1]) (.con (T.int 0))) (st0 [.ref d, natT most] 12) h = .ok (.bl (decide (q = 0))) ha :=
    ev_is0 (ev_call (zs := [.ref d, .int 3]) (ev_cons (ev_var rfl) (ev_cons ev_con ev_nil)) ev_nil rfl e1)
  by_cases z : q = 0
  · obtain ⟨rows, hb, hmem, e2, D2, B2⟩ := known_ok (w := w) (n := n) Ik hp hr D1 (by omega)
    obtain ⟨k, M, e3, k1, k4, hM⟩ := known_is hmem
    rw [e3] at e2
    refine ⟨k, M, hb, ?_, k1, by omega, hM, D2.le (by omega), B1.trans B2⟩
    refine (I.rt (t := tabT k M) (h' := hb) rfl okD_tab ?_).trans (by rw [← B1.1, ← B2.1, List.take_length])
    refine ss_if_ret (h1 := ha) (by rw [c1]; simp [z]) ?_
    exact ev_call (zs := [.ref d]) (ev_cons (ev_var rfl) ev_nil) ev_nil rfl e2
  · obtain ⟨q2, hb, hq2, e2, D2, B2⟩ := roll_nat (w := w) (n := n + 2) (total := most) hr D1 (by omega) (by omega) (by omega)
    have hk8 : 1 + q2 ≤ 8 := by omega
    generalize hk : 1 + q2 = k at hk8
    have c2 : evE (callN Φ w (n + 3)) (.bin .add (.con (T.int 1)) (.call r [.var 0, .var 1] [] [0, 1])) (st0 [.ref d, natT most] 12) ha = .ok (natT k) hb := by
      have b0 := ev_call (call := callN Φ w (n + 3)) (f := r) (es := [.var 0, .var 1]) (kws := []) (perm := [0, 1]) (σ := st0 [.ref d, natT most] 12) (h := ha) (zs := [.ref d, natT most]) (ev_cons (ev_var rfl) (ev_cons (ev_var rfl) ev_nil)) ev_nil rfl e2
      rw [evE, ev_con, R.bind_ok, b0, R.bind_ok, ← hk]
      have z : (1 : Int) + ((q2 : Nat) : Int) = ((1 + q2 : Nat) : Int) := by omega
      simp only [natT, binT, z]; rfl
    have hbl : hb.length = h.length := by rw [B2.1, B1.1]
    have r0 := rng_nat (n := k) (by omega)
    have rk : ∀ (σ : Env) (h : Hs), σ[2]? = some (some (natT k)) → evI (callN Φ w (n + 3)) (.rng [.var 2]) σ h = .ok ((List.range k).map natT) h := fun σ h hσ => by
      simp only [evI, evE, evEs, hσ, R.bind_ok, natT]
      rw [r0]; rfl
    have hkk : 2 * k * k ≤ 2 * 8 * 8 := Nat.mul_le_mul (Nat.mul_le_mul (Nat.le_refl 2) hk8) hk8
    obtain ⟨cols, u4, u5, u6, u7, u8, hc, l1, l2, D3, l3, l4, e3⟩ := outer_loop (w := w) (n := n + 1) (b := hb.length) (hb := hb) (k := k) (x1 := natT most) (s4 := none) (s5 := none) (s6 := none) (s7 := none) (s8 := none) (s9 := none) (s10 := none) (s11 := none) hp hr D2 rfl (by omega) (by omega) (by omega)
    have hcl : hb.length < hc.length := (List.getElem?_eq_some_iff.mp l3).1
    have D4 : Dice (hc.set hb.length .dead) d (m + 1 + 1 + 2 * k * k) := D3.set (by omega)
    obtain ⟨hd', e4, m1, m2, m3, m4⟩ := rows_new (call := callN Φ w (n + 3)) (w := w) (x0 := .ref d) (x1 := natT most) (h := hc.set hb.length .dead) (cols := cols) (k := k) (s4 := u4) (s5 := u5) (s6 := u6) (s7 := u7) (s8 := u8) (s9 := none) (s10 := none) (s11 := none) (ss := [.ite (.cmp .eq (.call r [.var 0, .con (T.int 2)] [] [0, 1]) (.con (T.int 0))) [.forS (.name 8) (.rng [.var 2]) diagB] [], .freeze 10, .ret (.blt .tupleOf [.comp (.blt .tupleOf [.var 11]) (.name 11) (.val (.var 10)) none [11]])]) (by omega) l1 l2
    have hlL : (hc.set hb.length .dead).length = hc.length := by simp
    rw [hlL] at e4 m1 m2 m3 m4
    have D5 : Dice hd' d (m + 1 + 1 + 2 * k * k) := by
      obtain ⟨a, b, c, e, rr⟩ := D4
      exact ⟨a, b, c, by rw [m2 d (by omega), e], rr⟩
    obtain ⟨q3, he, hq3, e5, D6, B6⟩ := roll_nat (w := w) (n := n + 2) (total := 2) hr D5 (by omega) (by omega) (by omega)
    have t2 : natT 2 = T.int 2 := rfl
    rw [t2] at e5
    -- the heap behind the rows
    have hbe : ∀ i, i ≠ d → i < h.length → he[i]? = h[i]? := fun i hi hi' => by
      rw [B6.2 i hi, m2 i (by omega), List.getElem?_set_ne (by omega), l4 i hi (by omega), B2.2 i hi, B1.2 i hi]
    have m3' : he[hc.length + k]? = some (.lst (refsOf hc.length k)) := by rw [B6.2 _ (by omega), m3]
    have m4' : RowsAt he hc.length ((List.range k).map (rowOf cols k)) := fun i r hir => by
      rw [B6.2 _ (by omega)]; exact m4 i r hir
    have hsq : ∀ r ∈ (List.range k).map (rowOf cols k), Sq k r := fun r hr => by
      obtain ⟨i, hi, rfl⟩ := List.mem_map.mp hr
      exact rowOf_sq l1 l2 (List.mem_range.mp hi)
    -- the ends
    have fin : ∀ (rows : List (List Nat)) (v8 : Option T) (hf : Hs), rows.length = k → (∀ r ∈ rows, Sq k r) → RowsAt hf hc.length rows → hf[hc.length + k]? = some (.lst (refsOf hc.length k)) → hf.length = he.length → (∀ i, i < hc.length → hf[i]? = he[i]?) →
        evSs (callN Φ w (n + 3)) w [.ite (.cmp .eq (.call r [.var 0, .con (T.int 2)] [] [0, 1]) (.con (T.int 0))) [.forS (.name 8) (.rng [.var 2]) diagB] [], .freeze 10, .ret (.blt .tupleOf [.comp (.blt .tupleOf [.var 11]) (.name 11) (.val (.var 10)) none [11]])] [some (.ref d), some (natT most), some (natT k), some (.lst (cols.map lstN)), u4, u5, u6, u7, u8, none, some (.ref (hc.length + k)), none] hd'
          = evSs (callN Φ w (n + 3)) w [.freeze 10, .ret (.blt .tupleOf [.comp (.blt .tupleOf [.var 11]) (.name 11) (.val (.var 10)) none [11]])] [some (.ref d), some (natT most), some (natT k), some (.lst (cols.map lstN)), u4, u5, u6, u7, v8, none, some (.ref (hc.length + k)), none] hf →
        ∃ k M h', callN Φ w (n + 4) f [.ref d, natT most] h = .ok (tabT k M) h' ∧ 1 ≤ k ∧ k ≤ max 4 most ∧ rowsD k M ∧ Dice h' d (m + 200) ∧ But d h h' := fun rows v8 hf p1 p2 p3 p4 p5 p6 p7 => by
      obtain ⟨M, eM, hM⟩ := tab_rows (by omega) p1 p2
      have D7 : Dice hf d (m + 200) := by
        obtain ⟨a, b, c, e, rr⟩ := D6.le (m' := m + 200) (by omega)
        exact ⟨a, b, c, by rw [p6 d (by omega), e], rr⟩
      refine ⟨k, M, (hf.set (hc.length + k) .dead).take h.length, ?_, by omega, by omega, hM, (D7.set (by omega)).take hd, But.take ?_ fun i hi hi' => ?_⟩
      · refine I.rt (t := tabT k M) (h' := hf.set (hc.length + k) .dead) rfl okD_tab ?_
        refine (ss_if_f (h' := ha) (by rw [c1]; simp [z])).trans ?_
        refine (ss_set c2 (by simp [st0])).trans ?_
        refine (ss_set (x := .ref hb.length) (h' := hb ++ [.lst []]) (ev_newl ev_nil) (by simp [st0])).trans ?_
        refine (ss_for (rk _ _ rfl) e3).trans ?_
        have f1 : freezeT hc (.ref hb.length) = some (.lst (cols.map lstN), hc.set hb.length .dead) := by simp only [freezeT, l3]
        rw [evSs, evS]
        simp only [List.getElem?_cons_succ, List.getElem?_cons_zero, f1, O.seq_nx]
        refine Eq.trans ?_ (e4.trans (p7.trans ?_))
        · rfl
        · have f2 : freezeT hf (.ref (hc.length + k)) = some (.lst (refsOf hc.length k), hf.set (hc.length + k) .dead) := by simp only [freezeT, p4]
          rw [evSs, evS]
          simp only [List.getElem?_cons_succ, List.getElem?_cons_zero, f2, O.seq_nx]
          rw [← eM]
          refine ss_ret (rows_out (L := hc.length) (k := k) p1 (fun i r hir => ?_) rfl rfl)
          have hik : i < k := by
            rw [← p1]
            exact (List.getElem?_eq_some_iff.mp hir).1
          rw [List.getElem?_set_ne (by omega)]
          exact p3 i r hir
      · have : he.length = hd'.length := B6.1
        simp; omega
      · rw [List.getElem?_set_ne (by omega), p6 i (by omega), hbe i hi hi']
    have c3 : evE (callN Φ w (n + 3)) (.cmp .eq (.call r [.var 0, .con (T.int 2)] [] [0, 1]) (.con (T.int 0))) [some (.ref d), some (natT most), some (natT k), some (.lst (cols.map lstN)), u4, u5, u6, u7, u8, none, some (.ref (hc.length + k)), none] hd' = .ok (.bl (decide (q3 = 0))) he :=
      ev_is0 (ev_call (zs := [.ref d, .int 2]) (ev_cons (ev_var rfl) (ev_cons ev_con ev_nil)) ev_nil rfl e5)
    by_cases z3 : q3 = 0
    · obtain ⟨rows', v8, hf, p1, p2, p3, p4, p5, p6, p7⟩ := diag_loop (call := callN Φ w (n + 3)) (w := w) (L := hc.length) (k := k) (b := hc.length + k) (x0 := .ref d) (x1 := natT most) (x3 := .lst (cols.map lstN)) (h := he) (s4 := u4) (s5 := u5) (s6 := u6) (s7 := u7) (s8 := u8) (s9 := none) (s11 := none) rfl (by simp) hsq m4' m3'
      refine fin rows' v8 hf p1 p2 p3 p4 p5 p6 ?_
      rw [ss_if_t (h' := he) (by rw [c3]; simp [z3]), ss_for (rk _ _ rfl) p7]
      simp only [evSs, O.seq_nx]
    · refine fin _ u8 he (by simp) hsq m4' m3' rfl (fun _ _ => rfl) ?_
      rw [ss_if_f (h' := he) (by rw [c3]; simp [z3])]
end
end SH
end

section
set_option autoImplicit false
set_option linter.all false
set_option maxRecDepth 100000
set_option maxHeartbeats 4000000
/-! Strandhues: still, clear, level, fitting tables. -/
namespace SH
open PySem
def b_is_still (c_demand_table : Nat) : List S := [.drop (.call c_demand_table [.var 0, .con (T.str (Str.ofString "table"))] [] [0, 1]),
    .ret (.blt .allL [.comp (.cmp .eq (.idx (.idx (.var 0) (.var 1)) (.var 1)) (.var 1)) (.name 1) (.rng [.blt .len [.var 0]]) none [1]])]
def b_is_clear (c_demand_table : Nat) (c_is_clear_of : Nat) : List S := [.drop (.call c_demand_table [.var 0, .con (T.str (Str.ofString "table"))] [] [0, 1]),
    .ret (.call c_is_clear_of [.var 0] [] [0])]
def b_is_clear_of : List S := [.asg (.name 1) (.blt .len [.var 0]),
    .ret (.blt .allL [.comp (.cmp .eq (.blt .lenSet [.comp (.idx (.var 2) (.var 3)) (.name 2) (.val (.var 0)) none [2]]) (.var 1)) (.name 3) (.rng [.var 1]) none [3]])]
def b_is_level (c_demand_table : Nat) (c_unlevel : Nat) : List S := [.drop (.call c_demand_table [.var 0, .con (T.str (Str.ofString "table"))] [] [0, 1]),
    .ret (.isN (.call c_unlevel [.var 0] [] [0]))]
abbrev sTable : T := .str (Str.ofString "table")
theorem okTable : strOkB (Str.ofString "table") = true := by decide +kernel
theorem demand_drop {call : Calls} {w dt : Nat} {σ : Env} {h : Hs} {ss : List S} {x : T} (h0 : σ[0]? = some (some x)) (e : call dt [x, sTable] h = .ok .non h) :
    evSs call w (.drop (.call dt [.var 0, .con sTable] [] [0, 1]) :: ss) σ h = evSs call w ss σ h :=
  ss_drop (ev_call (zs := [x, sTable]) (ev_cons (ev_var h0) (ev_cons ev_con ev_nil)) ev_nil rfl e)
/-- `x is None` -/
def noneB : T → Bool
  | .non => true
  | _ => false
theorem isN_ok {x : T} (hx : plain x = true) : isNT x = some (noneB x) := by cases x <;> first | rfl | (simp [plain] at hx)
theorem ev_isN {call : Calls} {σ : Env} {h h' : Hs} {e : E} {x : T} (hx : plain x = true) (he : evE call e σ h = .ok x h') : evE call (.isN e) σ h = .ok (.bl (noneB x)) h' := by
  rw [evE, he, R.bind_ok, isN_ok hx]; rfl
theorem ev_len {call : Calls} {σ : Env} {h h' : Hs} {e : E} {xs : List T} (he : evE call e σ h = .ok (.tup xs) h') : evE call (.blt .len [e]) σ h = .ok (natT xs.length) h' := by
  rw [evE, evEs, he, R.bind_ok, evEs, R.bind_ok, R.bind_ok]; rfl
theorem ev_lenL {call : Calls} {σ : Env} {h h' : Hs} {e : E} {xs : List T} (he : evE call e σ h = .ok (.lst xs) h') : evE call (.blt .len [e]) σ h = .ok (natT xs.length) h' := by
  rw [evE, evEs, he, R.bind_ok, evEs, R.bind_ok, R.bind_ok]; rfl
theorem ev_lenT {call : Calls} {σ : Env} {h h' : Hs} {e : E} {k : Nat} {M : Nat → Nat → Nat} (he : evE call e σ h = .ok (tabT k M) h') : evE call (.blt .len [e]) σ h = .ok (natT k) h' := by
  have := ev_len he
  simpa using this
theorem ev_rng {call : Calls} {σ : Env} {h h' : Hs} {e : E} {k : Nat} (hk : k ≤ 1000000) (he : evE call e σ h = .ok (natT k) h') : evI call (.rng [e]) σ h = .ok ((List.range k).map natT) h' := by
  rw [evI, evEs, he, R.bind_ok, evEs, R.bind_ok, R.bind_ok, natT, rng_nat hk]; rfl
theorem okD_pl {x : T} (h : okD 60 x = true) : plain x = true := plain_of h
theorem misT_ok {k : Nat} {M : Nat → Nat → Nat} : okD 60 (misT k M) = true := by
  unfold misT
  cases e1 : (List.range k).findSome? (twistOf M) with
  | some t =>
    obtain ⟨i, _, hi⟩ := List.exists_of_findSome?_eq_some e1
    unfold twistOf at hi
    split at hi
    · cases hi; simp only [okD, okDs, natT, okTwist, Bool.and_self]
    · cases hi
  | none =>
    cases e2 : (List.range k).findSome? (slip1 k M) with
    | some t =>
      obtain ⟨i, _, hi⟩ := List.exists_of_findSome?_eq_some e2
      obtain ⟨j, _, hi⟩ := List.exists_of_findSome?_eq_some hi
      obtain ⟨l, _, hi⟩ := List.exists_of_findSome?_eq_some hi
      unfold slip3 at hi
      split at hi
      · cases hi; simp only [okD, okDs, natT, okSlip, Bool.and_self]
      · cases hi
    | none =>
      cases e3 : (rowsOver k 3).findSome? (slideOf M) with
      | none => rfl
      | some t =>
        obtain ⟨r, hr, hi⟩ := List.exists_of_findSome?_eq_some e3
        unfold slideOf at hi
        split at hi
        · cases hi
          have hl := rowsOver_len hr
          match r, hl with
          | [a, b, c], _ => simp only [List.map_cons, List.map_nil, okD, okDs, natT, okSlide, Bool.and_self]
        · cases hi
def stillB (k : Nat) (M : Nat → Nat → Nat) : Bool := (List.range k).all fun i => decide (M i i = i)
def colI (k : Nat) (M : Nat → Nat → Nat) (c : Nat) : List Int := (List.range k).map fun r => ((M r c : Nat) : Int)
def clearB (k : Nat) (M : Nat → Nat → Nat) : Bool := (List.range k).all fun c => decide ((dedupI (colI k M c)).length = k)
def levelB (k : Nat) (M : Nat → Nat → Nat) : Bool := ((rowsOver k 3).find? (unlev M)).isNone
section
variable {Φ : Prog} {w n f dt : Nat} {h : Hs} {k : Nat} {M : Nat → Nat → Nat}
theorem does_fit_ok {p q g : Nat} (I : Is Φ f 1 1 (b_does_fit dt g)) (Ig : Is Φ g 1 6 (b_misfit_of q)) (Iq : Is Φ q 1 4 (b_unlevel p)) (Ip : Is Φ p 2 7 b_rows_over) (hd : callN Φ w (n + 3) dt [tabT k M, sTable] h = .ok .non h) (hk : k ≤ 8) (hM : rowsD k M) :
    callN Φ w (n + 4) f [tabT k M] h = .ok (.bl (noneB (misT k M))) h := by
  have e := misfit_of_ok (w := w) (n := n) (h := h) Ig Iq Ip hk hM
  refine I.rt0 rfl rfl ((demand_drop rfl hd).trans (ss_ret (ev_isN (okD_pl misT_ok) ?_)))
  exact ev_call (zs := [tabT k M]) (ev_cons (ev_var rfl) ev_nil) ev_nil rfl e
theorem misfit_ok {p q g : Nat} (I : Is Φ f 1 1 (b_misfit dt g)) (Ig : Is Φ g 1 6 (b_misfit_of q)) (Iq : Is Φ q 1 4 (b_unlevel p)) (Ip : Is Φ p 2 7 b_rows_over) (hd : callN Φ w (n + 3) dt [tabT k M, sTable] h = .ok .non h) (hk : k ≤ 8) (hM : rowsD k M) :
    callN Φ w (n + 4) f [tabT k M] h = .ok (misT k M) h := by
  have e := misfit_of_ok (w := w) (n := n) (h := h) Ig Iq Ip hk hM
  refine I.rt0 rfl misT_ok ((demand_drop rfl hd).trans (ss_ret ?_))
  exact ev_call (zs := [tabT k M]) (ev_cons (ev_var rfl) ev_nil) ev_nil rfl e
theorem is_level_ok {p q : Nat} (I : Is Φ f 1 1 (b_is_level dt q)) (Iq : Is Φ q 1 4 (b_unlevel p)) (Ip : Is Φ p 2 7 b_rows_over) (hd : callN Φ w (n + 2) dt [tabT k M, sTable] h = .ok .non h) (hk : k ≤ 8) (hM : rowsD k M) :
    callN Φ w (n + 3) f [tabT k M] h = .ok (.bl (levelB k M)) h := by
  have e := unlevel_ok (w := w) (n := n) (h := h) Iq Ip hk hM
  refine I.rt0 rfl rfl ((demand_drop rfl hd).trans (ss_ret ?_))
  have e2 := ev_call (call := callN Φ w (n + 2)) (f := q) (es := [.var 0]) (kws := []) (perm := [0]) (σ := st0 [tabT k M] 1) (zs := [tabT k M]) (ev_cons (ev_var rfl) ev_nil) ev_nil rfl e
  unfold levelB
  cases hf : (rowsOver k 3).find? (unlev M) with
  | none =>
    rw [hf] at e2
    exact ev_isN rfl e2
  | some r =>
    rw [hf] at e2
    exact ev_isN (x := tupN r) rfl e2
theorem ev_allN {call : Calls} {σ : Env} {h : Hs} {e ln : E} {i k : Nat} {p : Nat → Bool} {own : List Nat} (hk : k ≤ 1000000) (hl : evE call ln σ h = .ok (natT k) h) (hw : ∀ c, ∃ σ', asgG (.name i) (natT c) (wipeT σ own) = some σ' ∧ (c < k → evE call e σ' h = .ok (.bl (p c)) h)) :
    evE call (.blt .allL [.comp e (.name i) (.rng [ln]) none own]) σ h = .ok (.bl ((List.range k).all p)) h := by
  refine ev_all (ys := List.range k) (p := p) ?_
  have := ev_comp (call := call) (σ := σ) (h := h) (h1 := h) (elt := e) (g := .name i) (it := .rng [ln]) (own := own) (xs := (List.range k).map natT) (k := fun x => match x with
    | .int v => .bl (p v.toNat)
    | t => t) (ev_rng hk hl) fun x hx => by
      obtain ⟨c, hc, rfl⟩ := List.mem_map.mp hx
      obtain ⟨σ', e1, e2⟩ := hw c
      exact ⟨σ', e1, e2 (List.mem_range.mp hc)⟩
  rw [this, List.map_map]
  congr 2
theorem is_still_ok (I : Is Φ f 1 2 (b_is_still dt)) (hd : callN Φ w n dt [tabT k M, sTable] h = .ok .non h) (hk : k ≤ 8) :
    callN Φ w (n + 1) f [tabT k M] h = .ok (.bl (stillB k M)) h := by
  refine I.rt0 rfl rfl ((demand_drop rfl hd).trans (ss_ret ?_))
  refine ev_allN (k := k) (by omega) (ev_lenT (ev_var rfl)) fun c => ⟨[some (tabT k M), some (natT c)], rfl, fun hc => ?_⟩
  exact ev_eqN (ev_at (ev_var rfl) (ev_var rfl) (ev_var rfl) hc hc) (ev_var rfl)
theorem walk_tab {call : Calls} {σ : Env} {h : Hs} {e : E} (he : evE call e σ h = .ok (tabT k M) h) : evI call (.val e) σ h = .ok ((List.range k).map fun i => rowT k (M i)) h := by
  rw [evI, he, R.bind_ok]; rfl
theorem lenSet_ok {call : Calls} {σ : Env} {h : Hs} {e : E} {l : List Nat} (hl : l.length ≤ 4000) (he : evE call e σ h = .ok (.lst (l.map natT)) h) : evE call (.blt .lenSet [e]) σ h = .ok (natT (dedupI (l.map fun x => ((x : Nat) : Int))).length) h := by
  rw [evE, evEs, he, R.bind_ok, evEs, R.bind_ok, R.bind_ok]
  have e1 : intsOf (l.map natT) = some (l.map fun x => ((x : Nat) : Int)) := ints_map (g := fun x : Nat => ((x : Nat) : Int))
  simp only [bltT, seqOf, e1, List.length_map, hl, if_true]; rfl
theorem is_clear_of_ok (I : Is Φ f 1 4 b_is_clear_of) (hk : k ≤ 8) : callN Φ w (n + 1) f [tabT k M] h = .ok (.bl (clearB k M)) h := by
  refine I.rt0 rfl rfl ((ss_set (ev_lenT (ev_var rfl)) (by simp [st0])).trans (ss_ret ?_))
  refine ev_allN (k := k) (by omega) (ev_var rfl) fun c => ⟨[some (tabT k M), some (natT k), none, some (natT c)], rfl, fun hc => ?_⟩
  refine ev_eqN (x := (dedupI (colI k M c)).length) ?_ (ev_var rfl)
  have e1 := lenSet_ok (call := callN Φ w n) (σ := [some (tabT k M), some (natT k), none, some (natT c)]) (h := h) (e := .comp (.idx (.var 2) (.var 3)) (.name 2) (.val (.var 0)) none [2]) (l := (List.range k).map fun r => M r c) (by simp; omega) (by
    have := ev_comp (call := callN Φ w n) (σ := [some (tabT k M), some (natT k), none, some (natT c)]) (h := h) (h1 := h) (elt := .idx (.var 2) (.var 3)) (g := .name 2) (it := .val (.var 0)) (own := [2]) (xs := (List.range k).map fun i => rowT k (M i)) (k := fun x => match x with
      | .tup xs => xs.getD c .non
      | t => t) (walk_tab (ev_var rfl)) fun x hx => by
        obtain ⟨i, hi, rfl⟩ := List.mem_map.mp hx
        refine ⟨[some (tabT k M), some (natT k), some (rowT k (M i)), some (natT c)], rfl, ?_⟩
        rw [ev_cell (ev_var rfl) (ev_var rfl) hc]
        simp [rowT, List.getD_eq_getElem?_getD, hc, natT]
    rw [this, List.map_map, List.map_map]
    congr 2
    refine List.map_congr_left fun i hi => ?_
    simp [rowT, List.getD_eq_getElem?_getD, hc, natT])
  rw [e1, List.map_map]; rfl
theorem is_clear_ok {g : Nat} (I : Is Φ f 1 1 (b_is_clear dt g)) (Ig : Is Φ g 1 4 b_is_clear_of) (hd : callN Φ w (n + 1) dt [tabT k M, sTable] h = .ok .non h) (hk : k ≤ 8) :
    callN Φ w (n + 2) f [tabT k M] h = .ok (.bl (clearB k M)) h := by
  have e := is_clear_of_ok (w := w) (n := n) (h := h) (M := M) Ig hk
  refine I.rt0 rfl rfl ((demand_drop rfl hd).trans (ss_ret ?_))
  exact ev_call (zs := [tabT k M]) (ev_cons (ev_var rfl) ev_nil) ev_nil rfl e
end
end SH
end

section
set_option autoImplicit false
set_option linter.all false
set_option maxRecDepth 100000
set_option maxHeartbeats 4000000
/-! Strandhues: what shows a misfit. -/
namespace SH
open PySem
def b_is_misfit (c_demand_table : Nat) (c_is_misfit_of : Nat) : List S := [.drop (.call c_demand_table [.var 0, .con (T.str (Str.ofString "table"))] [] [0, 1]),
    .ret (.call c_is_misfit_of [.var 0, .var 1] [] [0, 1])]
def b_is_misfit_of (c_is_in : Nat) (c_is_tuple : Nat) : List S := [.asg (.name 2) (.blt .len [.var 0]),
    .ite (.orE (.notE (.call c_is_tuple [.var 1, .con (T.int 2), .con (T.int 4)] [] [0, 1, 2])) (.notE (.blt .allL [.comp (.call c_is_in [.var 3, .con (T.int 0), .bin .sub (.var 2) (.con (T.int 1))] [] [0, 1, 2]) (.name 3) (.val (.slc (.var 1) (some (.con (T.int 1))) none)) none [3]]))) [.ret (.con (T.bl false))] [],
    .ite (.andE (.cmp .eq (.idx (.var 1) (.con (T.int 0))) (.con (T.str (Str.ofString "twist")))) (.cmp .eq (.blt .len [.var 1]) (.con (T.int 2)))) [.ret (.cmp .ne (.idx (.idx (.var 0) (.idx (.var 1) (.con (T.int 1)))) (.idx (.var 1) (.con (T.int 1)))) (.idx (.var 1) (.con (T.int 1))))] [],
    .ite (.orE (.cmp .ne (.blt .len [.var 1]) (.con (T.int 4))) (.cmp .notin (.idx (.var 1) (.con (T.int 0))) (.tup [.con (T.str (Str.ofString "slip")), .con (T.str (Str.ofString "slide"))]))) [.ret (.con (T.bl false))] [],
    .asg (.tup [.name 4, .name 5, .name 6]) (.slc (.var 1) (some (.con (T.int 1))) none),
    .ite (.cmp .eq (.idx (.var 1) (.con (T.int 0))) (.con (T.str (Str.ofString "slip")))) [.ret (.andE (.cmp .ne (.var 4) (.var 5)) (.cmp .eq (.idx (.idx (.var 0) (.var 4)) (.var 6)) (.idx (.idx (.var 0) (.var 5)) (.var 6))))] [],
    .ret (.cmp .ne (.idx (.idx (.var 0) (.idx (.idx (.var 0) (.var 4)) (.var 5))) (.var 6)) (.idx (.idx (.var 0) (.idx (.idx (.var 0) (.var 4)) (.var 6))) (.idx (.idx (.var 0) (.var 5)) (.var 6))))]
def b_law_shows : List S := [.ite (.orE (.notE (.isi (.var 1) .tuple)) (.orE (.cmp .notin (.blt .len [.var 1]) (.tup [.con (T.int 2), .con (T.int 4)])) (.notE (.blt .allL [.comp (.andE (.isi (.var 2) .int) (.andE (.notE (.isi (.var 2) .bool)) (.cmp2 .le .lt (.con (T.int 0)) (.var 2) (.blt .len [.var 0])))) (.name 2) (.val (.slc (.var 1) (some (.con (T.int 1))) none)) none [2]])))) [.ret (.con (T.bl false))] [],
    .ite (.cmp .eq (.idx (.var 1) (.con (T.int 0))) (.con (T.str (Str.ofString "twist")))) [.ret (.andE (.cmp .eq (.blt .len [.var 1]) (.con (T.int 2))) (.cmp .ne (.idx (.idx (.var 0) (.idx (.var 1) (.con (T.int 1)))) (.idx (.var 1) (.con (T.int 1)))) (.idx (.var 1) (.con (T.int 1)))))] [],
    .ite (.cmp .eq (.blt .len [.var 1]) (.con (T.int 2))) [.ret (.con (T.bl false))] [],
    .asg (.tup [.name 3, .name 4, .name 5, .name 6]) (.var 1),
    .ite (.cmp .eq (.var 3) (.con (T.str (Str.ofString "slip")))) [.ret (.andE (.cmp .ne (.var 4) (.var 5)) (.cmp .eq (.idx (.idx (.var 0) (.var 4)) (.var 6)) (.idx (.idx (.var 0) (.var 5)) (.var 6))))] [],
    .ret (.andE (.cmp .eq (.var 3) (.con (T.str (Str.ofString "slide")))) (.cmp .ne (.idx (.idx (.var 0) (.idx (.idx (.var 0) (.var 4)) (.var 5))) (.var 6)) (.idx (.idx (.var 0) (.idx (.idx (.var 0) (.var 4)) (.var 6))) (.idx (.idx (.var 0) (.var 5)) (.var 6)))))]
def b_law_all (c_law_shows : Nat) : List S := [.asg (.name 1) (.rng false [.blt .len [.var 0]]),
    .asg (.name 2) (.comp (.tup [.con (T.str (Str.ofString "twist")), .var 3]) (.name 3) (.val (.var 1)) none [3]),
    .forS (.name 3) (.val (.var 1)) [.forS (.name 4) (.rng [.bin .add (.var 3) (.con (T.int 1)), .blt .len [.var 0]]) [.asg (.name 2) (.bin .add (.var 2) (.comp (.tup [.con (T.str (Str.ofString "slip")), .var 3, .var 4, .var 5]) (.name 5) (.val (.var 1)) none [5]))]],
    .forS (.name 3) (.val (.var 1)) [.forS (.name 4) (.val (.var 1)) [.asg (.name 2) (.bin .add (.var 2) (.comp (.tup [.con (T.str (Str.ofString "slide")), .var 3, .var 4, .var 5]) (.name 5) (.val (.var 1)) none [5]))]],
    .ret (.comp (.var 6) (.name 6) (.val (.var 2)) (some (.call c_law_shows [.var 0, .var 6] [] [0, 1])) [6])]
def b_law_fits : List S := [.asg (.name 1) (.blt .len [.var 0]),
    .forS (.name 2) (.rng [.var 1]) [.ite (.orE (.cmp .ne (.idx (.idx (.var 0) (.var 2)) (.var 2)) (.var 2)) (.cmp .ne (.blt .lenSet [.comp (.idx (.idx (.var 0) (.var 3)) (.var 2)) (.name 3) (.rng [.var 1]) none [3]]) (.var 1))) [.ret (.con (T.bl false))] [],
    .forS (.name 4) (.rng [.var 1]) [.ite (.blt .anyL [.comp (.cmp .ne (.idx (.idx (.var 0) (.idx (.idx (.var 0) (.var 2)) (.var 4))) (.var 5)) (.idx (.idx (.var 0) (.idx (.idx (.var 0) (.var 2)) (.var 5))) (.idx (.idx (.var 0) (.var 4)) (.var 5)))) (.name 5) (.rng [.var 1]) none [5]]) [.ret (.con (T.bl false))] []]],
    .ret (.con (T.bl true))]

theorem cut_tail {x : T} {xs : List T} : cutT (x :: xs) (some 1) none = xs := by
  simp [cutT, HT.sIx]
def inK (k : Nat) : T → Option Nat
  | .int v => if 0 ≤ v ∧ v < k then some v.toNat else none
  | _ => none
def slipB' (M : Nat → Nat → Nat) (a b c : Nat) : Bool := decide (a ≠ b) && decide (M a c = M b c)
def slideB (M : Nat → Nat → Nat) (a b c : Nat) : Bool := decide (M (M a b) c ≠ M (M a c) (M b c))
def misB (k : Nat) (M : Nat → Nat → Nat) : T → Bool
  | .tup [x, y] => match inK k y with
    | some a => eqv x sTwist && decide (M a a ≠ a)
    | none => false
  | .tup [x, y, z, u] => match inK k y, inK k z, inK k u with
    | some a, some b, some c => (eqv x sSlip && slipB' M a b c) || (eqv x sSlide && slideB M a b c)
    | _, _, _ => false
  | _ => false
theorem inK_nat {k : Nat} {y : T} {a : Nat} (h : inK k y = some a) : y = natT a ∧ a < k := by
  cases y <;> simp [inK] at h
  rename_i v
  obtain ⟨⟨h1, h2⟩, rfl⟩ := h
  exact ⟨by unfold natT; congr 1; omega, by omega⟩
theorem inK_of {k a : Nat} (h : a < k) : inK k (natT a) = some a := by
  simp [inK, natT, h]
theorem inK_in {k : Nat} {y : T} : inZ y 0 ((k : Nat) - 1) = (inK k y).isSome := by
  cases y <;> try rfl
  rename_i v
  simp only [inZ, inK]
  by_cases h : 0 ≤ v ∧ v < k
  · rw [if_pos h]
    simp; omega
  · rw [if_neg h]
    simp; omega
theorem eqv_is {x : T} {s : Str} (h : eqv x (.str s) = true) : x = .str s := by
  cases x <;> simp [eqv] at h
  rw [h]
theorem eqv_flip {x : T} {s : Str} : eqv (.str s) x = eqv x (.str s) := by
  cases x <;> try (simp only [eqv]; done)
  rename_i t
  by_cases e : s = t
  · subst e; rfl
  · have : t ≠ s := fun z => e z.symm
    simp only [eqv]
    rw [beq_false_of_ne e, beq_false_of_ne this]
theorem atI_nat {xs : List T} {i : Nat} {t : T} (h : xs[i]? = some t) : L2.atI xs (i : Nat) = some t := by
  unfold L2.atI
  rw [ixN_of (List.getElem?_eq_some_iff.mp h).1]
  exact h
theorem ne12 : (Str.ofString "twist" == Str.ofString "slip") = false := by decide +kernel
theorem ne13 : (Str.ofString "twist" == Str.ofString "slide") = false := by decide +kernel
theorem ne23 : (Str.ofString "slip" == Str.ofString "slide") = false := by decide +kernel
/-- at most one kind -/
theorem kinds_of {x : T} : (eqv x sTwist = true → eqv x sSlip = false ∧ eqv x sSlide = false) ∧ (eqv x sSlip = true → eqv x sSlide = false) := by
  refine ⟨fun h => ?_, fun h => ?_⟩
  · rw [eqv_is h]
    exact ⟨by simp only [eqv]; exact ne12, by simp only [eqv]; exact ne13⟩
  · rw [eqv_is h]
    simp only [eqv]; exact ne23
section
variable {call : Calls} {σ : Env} {h : Hs}
theorem now_flat {x : T} (hx : flatT x = true) : now h x = x := by cases x <;> first | rfl | (simp [flatT] at hx)
theorem ev_eqS {e : E} {x : T} {s : Str} (hx : flatT x = true) (ok : okD 60 x = true) (hs : strOkB s = true) (he : evE call e σ h = .ok x h) : evE call (.cmp .eq e (.con (.str s))) σ h = .ok (.bl (eqv x (.str s))) h := by
  have h1 : okD 60 (T.str s) = true := by simpa only [okD] using hs
  have h2 : now h (T.str s) = .str s := rfl
  rw [evE, he, R.bind_ok, ev_con, R.bind_ok]
  simp only [cmpT, now_flat hx, h2, ok, h1, Bool.and_self, if_true]; rfl
theorem ev_cmp2 {a b c : E} {x y z : T} {op op' : COp} {k1 k2 : Bool} (ha : evE call a σ h = .ok x h) (hb : evE call b σ h = .ok y h) (h1 : cmpT op h x y = some k1) (h2 : k1 = true → evE call c σ h = .ok z h ∧ cmpT op' h y z = some k2) : evE call (.cmp2 op op' a b c) σ h = .ok (.bl (k1 && k2)) h := by
  rw [evE, ha, R.bind_ok, hb, R.bind_ok, h1, R.of_some, R.bind_ok]
  cases k1 with
  | false => rfl
  | true => rw [if_pos rfl, (h2 rfl).1, R.bind_ok, (h2 rfl).2]; rfl
theorem ev_at0 {x : T} {xs : List T} (hv : σ[1]? = some (some (.tup (x :: xs)))) : evE call (.idx (.var 1) (.con (T.int 0))) σ h = .ok x h := by
  have e : idxT h (.tup (x :: xs)) (.int 0) = some x := atI_nat (i := 0) rfl
  rw [evE, ev_var hv, R.bind_ok, ev_con, R.bind_ok, e]; rfl
theorem ev_at1 {x y : T} {xs : List T} (hv : σ[1]? = some (some (.tup (x :: y :: xs)))) : evE call (.idx (.var 1) (.con (T.int 1))) σ h = .ok y h := by
  have e : idxT h (.tup (x :: y :: xs)) (.int 1) = some y := atI_nat (i := 1) rfl
  rw [evE, ev_var hv, R.bind_ok, ev_con, R.bind_ok, e]; rfl
theorem ev_lenC {e : E} {xs : List T} {c : Nat} (he : evE call e σ h = .ok (.tup xs) h) : evE call (.cmp .eq (.blt .len [e]) (.con (T.int (c : Nat)))) σ h = .ok (.bl (decide (xs.length = c))) h :=
  ev_eqN (ev_len he) ev_con
theorem ev_lenC' {e : E} {xs : List T} {c : Nat} (he : evE call e σ h = .ok (.tup xs) h) : evE call (.cmp .ne (.blt .len [e]) (.con (T.int (c : Nat)))) σ h = .ok (.bl (decide (xs.length ≠ c))) h :=
  ev_neN (ev_len he) ev_con
theorem ev_tail {e : E} {x : T} {xs : List T} (he : evE call e σ h = .ok (.tup (x :: xs)) h) : evE call (.slc e (some (.con (T.int 1))) none) σ h = .ok (.tup xs) h := by
  rw [evE, he, R.bind_ok, evO, ev_con, R.bind_ok, intO, R.of_some, R.bind_ok, evO, R.bind_ok, slcT, cut_tail]; rfl
theorem ev_sub1 {e : E} {k : Nat} (he : evE call e σ h = .ok (natT k) h) : evE call (.bin .sub e (.con (T.int 1))) σ h = .ok (.int ((k : Nat) - 1)) h := by
  rw [evE, he, R.bind_ok, ev_con, R.bind_ok]; rfl
end
/-- in a tuple's tail all are colours -/
def tailK (k : Nat) (xs : List T) : Bool := xs.all fun y => (inK k y).isSome
theorem misB_tail {k : Nat} {M : Nat → Nat → Nat} {x : T} {xs : List T} (h : tailK k xs = false) : misB k M (.tup (x :: xs)) = false := by
  match xs with
  | [] => rfl
  | [y] =>
    simp [tailK] at h
    simp [misB, h]
  | [y, z] => rfl
  | [y, z, u] =>
    simp only [tailK, List.all_cons, List.all_nil, Bool.and_true] at h
    simp only [misB]
    cases e1 : inK k y <;> cases e2 : inK k z <;> cases e3 : inK k u <;> simp [e1, e2, e3] at h ⊢
  | y :: z :: u :: q :: r => rfl
section
variable {Φ : Prog} {w n f : Nat} {h : Hs} {k : Nat} {M : Nat → Nat → Nat}
theorem is_misfit_of_ok {p q : Nat} {v : T} (I : Is Φ f 2 7 (b_is_misfit_of p q)) (Ip : Is Φ p 3 3 b_is_in) (Iq : Is Φ q 3 3 b_is_tuple) (hv : okD 60 v = true) (hf : ∀ x xs, v = .tup (x :: xs) → flatT x = true) (hk : k ≤ 8) (hM : rowsD k M) :
    callN Φ w (n + 2) f [tabT k M, v] h = .ok (.bl (misB k M v)) h := by
  refine I.rt0 rfl rfl ?_
  generalize hq : callN Φ w (n + 1) = call
  refine (ss_set (ev_lenT (ev_var rfl)) (by simp [st0])).trans ?_
  show evSs call w _ [some (tabT k M), some v, some (natT k), none, none, none, none] h = _
  have v1 : evE call (.var 1) [some (tabT k M), some v, some (natT k), none, none, none, none] h = .ok v h := ev_var rfl
  have e1 := is_tuple_ok (w := w) (n := n) (h := h) (lo := 2) (hi := 4) Iq (plain_of hv)
  rw [hq] at e1
  have c1 : evE call (.notE (.call q [.var 1, .con (T.int 2), .con (T.int 4)] [] [0, 1, 2])) [some (tabT k M), some v, some (natT k), none, none, none, none] h = .ok (.bl (!SH.tupB v 2 4)) h :=
    ev_not (ev_call (zs := [v, .int 2, .int 4]) (ev_cons v1 (ev_cons ev_con (ev_cons ev_con ev_nil))) ev_nil rfl e1)
  cases ht : SH.tupB v 2 4 with
  | false =>
    rw [ht] at c1
    have hm : misB k M v = false := by
      cases v <;> try rfl
      rename_i xs
      match xs, ht with
      | [], _ => rfl
      | [_], _ => rfl
      | [_, _], ht => simp [SH.tupB] at ht
      | [_, _, _], ht => simp [SH.tupB] at ht
      | [_, _, _, _], ht => simp [SH.tupB] at ht
      | _ :: _ :: _ :: _ :: _ :: _, _ => rfl
    rw [hm]
    exact ss_if_ret (ev_or (y := false) c1 (fun z => by cases z)) ev_con
  | true =>
    rw [ht] at c1
    cases v <;> first | (simp [SH.tupB] at ht; done) | skip
    rename_i xs
    match xs, ht, hv, hf, v1, c1 with
    | [], ht, _, _, _, _ => simp [SH.tupB] at ht
    | x :: xs, ht, hv, hf, v1, c1 =>
      have hx := hf x xs rfl
      have hxs : okDs 59 (x :: xs) = true := by simpa only [okD] using hv
      simp only [okDs, Bool.and_eq_true] at hxs
      have ok := okD_up hxs.1
      have c2 : evE call (.notE (.blt .allL [.comp (.call p [.var 3, .con (T.int 0), .bin .sub (.var 2) (.con (T.int 1))] [] [0, 1, 2]) (.name 3) (.val (.slc (.var 1) (some (.con (T.int 1))) none)) none [3]])) [some (tabT k M), some (.tup (x :: xs)), some (natT k), none, none, none, none] h = .ok (.bl (!tailK k xs)) h := by
        refine ev_not (ev_all (p := fun y => (inK k y).isSome) (ev_comp (xs := xs) (k := fun y => .bl (inK k y).isSome) ?_ fun y hy => ⟨[some (tabT k M), some (.tup (x :: xs)), some (natT k), some y, none, none, none], rfl, ?_⟩))
        · rw [evI, ev_tail v1, R.bind_ok]; rfl
        · have e2 := is_in_ok (w := w) (n := n) (h := h) (lo := 0) (hi := (k : Nat) - 1) Ip (plain_of (okDs_at hxs.2 hy))
          rw [hq, inK_in] at e2
          exact ev_call (zs := [y, .int 0, .int ((k : Nat) - 1)]) (ev_cons (ev_var rfl) (ev_cons ev_con (ev_cons (ev_sub1 (ev_var rfl)) ev_nil))) ev_nil rfl e2
      have c3 := ev_or c1 fun _ => c2
      cases hta : tailK k xs with
      | false =>
        rw [hta] at c3
        rw [misB_tail hta]
        exact ss_if_ret c3 ev_con
      | true =>
        rw [hta] at c3
        refine (ss_if_f c3).trans ?_
        have v0 : evE call (.idx (.var 1) (.con (T.int 0))) [some (tabT k M), some (.tup (x :: xs)), some (natT k), none, none, none, none] h = .ok x h := ev_at0 rfl
        have c4 := ev_and (ev_eqS hx ok okTwist v0) fun _ => ev_lenC (c := 2) v1
        have c5 : evE call (.cmp .notin (.idx (.var 1) (.con (T.int 0))) (.tup [.con sSlip, .con sSlide])) [some (tabT k M), some (.tup (x :: xs)), some (natT k), none, none, none, none] h = .ok (.bl (!(eqv x sSlip || eqv x sSlide))) h := by
          rw [evE, v0, R.bind_ok, ev_tup (ev_cons ev_con (ev_cons ev_con ev_nil)), R.bind_ok]
          have fl : [sSlip, sSlide].all flatT = true := rfl
          simp only [cmpT, inT, hx, fl, Bool.and_self, if_true, memT, List.any_cons, List.any_nil, Bool.or_false, eqv_flip]; rfl
        match xs, ht, hta, v1, v0, c4, c5 with
        | [], ht, _, _, _, _, _ => simp [SH.tupB] at ht
        | [y], _, hta, v1, v0, c4, c5 =>
          simp only [tailK, List.all_cons, List.all_nil, Bool.and_true] at hta
          obtain ⟨a, ha⟩ := Option.isSome_iff_exists.mp hta
          obtain ⟨rfl, hak⟩ := inK_nat ha
          simp only [misB, ha]
          simp only [List.length_cons, List.length_nil, Nat.zero_add, Nat.reduceAdd, decide_true, Bool.and_true] at c4
          cases hb : eqv x sTwist with
          | true =>
            rw [hb] at c4
            exact ss_if_ret c4 (ev_neN (ev_at (ev_var rfl) (ev_at1 rfl) (ev_at1 rfl) hak hak) (ev_at1 rfl))
          | false =>
            rw [hb] at c4
            refine (ss_if_f c4).trans ?_
            exact ss_if_ret (ev_or (y := false) (x := true) (ev_lenC' (c := 4) v1) fun z => by cases z) ev_con
        | [y, z], _, hta, v1, v0, c4, c5 =>
          have : (eqv x sTwist && decide ([x, y, z].length = 2)) = false := by simp
          rw [this] at c4
          refine (ss_if_f c4).trans ?_
          exact ss_if_ret (ev_or (y := false) (x := true) (ev_lenC' (c := 4) v1) fun z => by cases z) ev_con
        | [y, z, u], _, hta, v1, v0, c4, c5 =>
          have : (eqv x sTwist && decide ([x, y, z, u].length = 2)) = false := by simp
          rw [this] at c4
          refine (ss_if_f c4).trans ?_
          simp only [tailK, List.all_cons, List.all_nil, Bool.and_true, Bool.and_eq_true] at hta
          obtain ⟨h1, h2, h3⟩ := hta
          obtain ⟨a, ha⟩ := Option.isSome_iff_exists.mp h1
          obtain ⟨b, hb⟩ := Option.isSome_iff_exists.mp h2
          obtain ⟨c, hc⟩ := Option.isSome_iff_exists.mp h3
          obtain ⟨rfl, hak⟩ := inK_nat ha
          obtain ⟨rfl, hbk⟩ := inK_nat hb
          obtain ⟨rfl, hck⟩ := inK_nat hc
          simp only [misB, ha, hb, hc]
          have c6 := ev_or (x := false) (ev_lenC' (c := 4) v1) fun _ => c5
          rw [Bool.false_or] at c6
          cases hs : (eqv x sSlip || eqv x sSlide) with
          | false =>
            rw [hs] at c6
            simp only [Bool.or_eq_false_iff] at hs
            rw [hs.1, hs.2]
            exact ss_if_ret c6 ev_con
          | true =>
            rw [hs] at c6
            refine (ss_if_f c6).trans ?_
            refine (ss_asg (x := .tup [natT a, natT b, natT c]) (h' := h) (σ' := [some (tabT k M), some (.tup [x, natT a, natT b, natT c]), some (natT k), none, some (natT a), some (natT b), some (natT c)]) (ev_tail v1) rfl).trans ?_
            have w0 : evE call (.var 0) [some (tabT k M), some (.tup [x, natT a, natT b, natT c]), some (natT k), none, some (natT a), some (natT b), some (natT c)] h = .ok (tabT k M) h := ev_var rfl
            have w4 : evE call (.var 4) [some (tabT k M), some (.tup [x, natT a, natT b, natT c]), some (natT k), none, some (natT a), some (natT b), some (natT c)] h = .ok (natT a) h := ev_var rfl
            have w5 : evE call (.var 5) [some (tabT k M), some (.tup [x, natT a, natT b, natT c]), some (natT k), none, some (natT a), some (natT b), some (natT c)] h = .ok (natT b) h := ev_var rfl
            have w6 : evE call (.var 6) [some (tabT k M), some (.tup [x, natT a, natT b, natT c]), some (natT k), none, some (natT a), some (natT b), some (natT c)] h = .ok (natT c) h := ev_var rfl
            have c7 := ev_eqS (s := Str.ofString "slip") hx ok okSlip (ev_at0 (call := call) (h := h) (σ := [some (tabT k M), some (.tup [x, natT a, natT b, natT c]), some (natT k), none, some (natT a), some (natT b), some (natT c)]) rfl)
            cases hsl : eqv x sSlip with
            | true =>
              rw [hsl] at c7
              rw [kinds_of.2 hsl]
              simp only [Bool.true_and, Bool.false_and, Bool.or_false]
              exact ss_if_ret c7 (ev_and (ev_neN w4 w5) fun _ => ev_eqN (ev_at w0 w4 w6 hak hck) (ev_at w0 w5 w6 hbk hck))
            | false =>
              rw [hsl] at c7 hs
              rw [Bool.false_or] at hs
              rw [hs]
              simp only [Bool.true_and, Bool.false_and, Bool.false_or]
              refine (ss_if_f c7).trans (ss_ret ?_)
              exact ev_neN (ev_at w0 (ev_at w0 w4 w5 hak hbk) w6 (hM a b hak hbk) hck) (ev_at w0 (ev_at w0 w4 w6 hak hck) (ev_at w0 w5 w6 hbk hck) (hM a c hak hck) (hM b c hbk hck))
        | _ :: _ :: _ :: _ :: _, ht, _, _, _, _, _ => simp [SH.tupB] at ht
theorem law_shows_ok {v : T} (I : Is Φ f 2 7 b_law_shows) (hv : okD 60 v = true) (hf : ∀ x xs, v = .tup (x :: xs) → flatT x = true) (hk : k ≤ 8) (hM : rowsD k M) :
    callN Φ w (n + 1) f [tabT k M, v] h = .ok (.bl (misB k M v)) h := by
  refine I.rt0 rfl rfl ?_
  generalize hq : callN Φ w n = call
  show evSs call w _ [some (tabT k M), some v, none, none, none, none, none] h = _
  have v1 : evE call (.var 1) [some (tabT k M), some v, none, none, none, none, none] h = .ok v h := ev_var rfl
  by_cases htp : ∃ xs, v = .tup xs
  · obtain ⟨xs, rfl⟩ := htp
    have c1 : evE call (.notE (.isi (.var 1) .tuple)) [some (tabT k M), some (.tup xs), none, none, none, none, none] h = .ok (.bl false) h := by
      simp [evE, isiT]
    have c2 : evE call (.cmp .notin (.blt .len [.var 1]) (.tup [.con (T.int 2), .con (T.int 4)])) [some (tabT k M), some (.tup xs), none, none, none, none, none] h = .ok (.bl (!(decide (xs.length = 2) || decide (xs.length = 4)))) h := by
      rw [evE, ev_len v1, R.bind_ok, ev_tup (ev_cons ev_con (ev_cons ev_con ev_nil)), R.bind_ok]
      have z2 : ((2 : Int) == ((xs.length : Nat) : Int)) = decide (xs.length = 2) := by
        rw [show (2 : Int) = ((2 : Nat) : Int) from rfl, nat_beq]
        simp [eq_comm]
      have z4 : ((4 : Int) == ((xs.length : Nat) : Int)) = decide (xs.length = 4) := by
        rw [show (4 : Int) = ((4 : Nat) : Int) from rfl, nat_beq]
        simp [eq_comm]
      simp only [cmpT, inT, natT, flatT, List.all_cons, List.all_nil, Bool.and_self, if_true, memT, List.any_cons, List.any_nil, Bool.or_false, eqv, z2, z4]; rfl
    cases hl : (decide (xs.length = 2) || decide (xs.length = 4)) with
    | false =>
      rw [hl] at c2
      have hm : misB k M (.tup xs) = false := by
        match xs, hl with
        | [], _ => rfl
        | [_], _ => rfl
        | [_, _], hl => simp at hl
        | [_, _, _], _ => rfl
        | [_, _, _, _], hl => simp at hl
        | _ :: _ :: _ :: _ :: _ :: _, _ => rfl
      rw [hm]
      exact ss_if_ret (ev_or (y := true) c1 fun _ => ev_or (x := true) (y := false) c2 fun z => by cases z) ev_con
    | true =>
      rw [hl] at c2
      match xs, hl, hv, hf, v1, c1, c2 with
      | [], hl, _, _, _, _, _ => simp at hl
      | x :: xs, hl, hv, hf, v1, c1, c2 =>
        have hx := hf x xs rfl
        have hxs : okDs 59 (x :: xs) = true := by simpa only [okD] using hv
        simp only [okDs, Bool.and_eq_true] at hxs
        have ok := okD_up hxs.1
        have c3 : evE call (.notE (.blt .allL [.comp (.andE (.isi (.var 2) .int) (.andE (.notE (.isi (.var 2) .bool)) (.cmp2 .le .lt (.con (T.int 0)) (.var 2) (.blt .len [.var 0])))) (.name 2) (.val (.slc (.var 1) (some (.con (T.int 1))) none)) none [2]])) [some (tabT k M), some (.tup (x :: xs)), none, none, none, none, none] h = .ok (.bl (!tailK k xs)) h := by
          refine ev_not (ev_all (p := fun y => (inK k y).isSome) (ev_comp (xs := xs) (k := fun y => .bl (inK k y).isSome) ?_ fun y hy => ⟨[some (tabT k M), some (.tup (x :: xs)), some y, none, none, none, none], rfl, ?_⟩))
          · rw [evI, ev_tail v1, R.bind_ok]; rfl
          · have el : evE call (.blt .len [.var 0]) [some (tabT k M), some (.tup (x :: xs)), some y, none, none, none, none] h = .ok (natT k) h := ev_lenT (ev_var rfl)
            have hpl := plain_of (okDs_at hxs.2 hy)
            clear hy
            cases y <;> first | (simp [plain] at hpl; done) | (simp [evE, isiT, inK]; done) | skip
            rename_i z
            have ez : (inK k (.int z)).isSome = (decide (0 ≤ z) && decide (z < (k : Nat))) := by
              simp only [inK]
              by_cases z0 : 0 ≤ z ∧ z < (k : Nat)
              · rw [if_pos z0]; simp [z0.1, z0.2]
              · rw [if_neg z0]
                by_cases z1 : 0 ≤ z
                · have z2 : ¬ z < (k : Nat) := fun q => z0 ⟨z1, q⟩
                  simp [z1, z2]
                · simp [z1]
            rw [ez]
            refine (ev_and (x := true) (y := decide (0 ≤ z) && decide (z < (k : Nat))) (by simp [evE, isiT]) fun _ => ?_).trans (by rw [Bool.true_and])
            refine (ev_and (x := true) (y := decide (0 ≤ z) && decide (z < (k : Nat))) (by simp [evE, isiT]) fun _ => ?_).trans (by rw [Bool.true_and])
            exact ev_cmp2 ev_con (ev_var rfl) rfl fun _ => ⟨el, rfl⟩
        have c4 := ev_or c1 fun _ => ev_or c2 fun _ => c3
        simp only [Bool.not_true, Bool.false_or] at c4
        cases hta : tailK k xs with
        | false =>
          rw [hta] at c4
          rw [misB_tail hta]
          exact ss_if_ret c4 ev_con
        | true =>
          rw [hta] at c4
          refine (ss_if_f c4).trans ?_
          have c5 := ev_eqS (s := Str.ofString "twist") hx ok okTwist (ev_at0 (call := call) (h := h) (σ := [some (tabT k M), some (.tup (x :: xs)), none, none, none, none, none]) rfl)
          match xs, hl, hta, v1, c5 with
          | [], hl, _, _, _ => simp at hl
          | [_, _], hl, _, _, _ => simp at hl
          | _ :: _ :: _ :: _ :: _, hl, _, _, _ => simp at hl
          | [y], _, hta, v1, c5 =>
            simp only [tailK, List.all_cons, List.all_nil, Bool.and_true] at hta
            obtain ⟨a, ha⟩ := Option.isSome_iff_exists.mp hta
            obtain ⟨rfl, hak⟩ := inK_nat ha
            simp only [misB, ha]
            cases hb : eqv x sTwist with
            | true =>
              rw [hb] at c5
              have c6 := ev_and (ev_lenC (c := 2) v1) fun _ => ev_neN (ev_at (ev_var (i := 0) rfl) (ev_at1 rfl) (ev_at1 rfl) hak hak) (ev_at1 (call := call) (h := h) (σ := [some (tabT k M), some (.tup [x, natT a]), none, none, none, none, none]) rfl)
              exact ss_if_ret c5 c6
            | false =>
              rw [hb] at c5
              refine (ss_if_f c5).trans ?_
              exact ss_if_ret (ev_lenC (c := 2) v1) ev_con
          | [y, z, u], _, hta, v1, c5 =>
            simp only [tailK, List.all_cons, List.all_nil, Bool.and_true, Bool.and_eq_true] at hta
            obtain ⟨h1, h2, h3⟩ := hta
            obtain ⟨a, ha⟩ := Option.isSome_iff_exists.mp h1
            obtain ⟨b, hb⟩ := Option.isSome_iff_exists.mp h2
            obtain ⟨c, hc⟩ := Option.isSome_iff_exists.mp h3
            obtain ⟨rfl, hak⟩ := inK_nat ha
            obtain ⟨rfl, hbk⟩ := inK_nat hb
            obtain ⟨rfl, hck⟩ := inK_nat hc
            simp only [misB, ha, hb, hc]
            cases htw : eqv x sTwist with
            | true =>
              rw [htw] at c5
              rw [(kinds_of.1 htw).1, (kinds_of.1 htw).2]
              exact ss_if_ret c5 (ev_and (x := false) (y := false) (ev_lenC (c := 2) v1) fun z => by cases z)
            | false =>
              rw [htw] at c5
              refine (ss_if_f c5).trans ((ss_if_f (ev_lenC (c := 2) v1)).trans ?_)
              refine (ss_asg (x := .tup [x, natT a, natT b, natT c]) (h' := h) (σ' := [some (tabT k M), some (.tup [x, natT a, natT b, natT c]), none, some x, some (natT a), some (natT b), some (natT c)]) v1 rfl).trans ?_
              have w0 : evE call (.var 0) [some (tabT k M), some (.tup [x, natT a, natT b, natT c]), none, some x, some (natT a), some (natT b), some (natT c)] h = .ok (tabT k M) h := ev_var rfl
              have w3 : evE call (.var 3) [some (tabT k M), some (.tup [x, natT a, natT b, natT c]), none, some x, some (natT a), some (natT b), some (natT c)] h = .ok x h := ev_var rfl
              have w4 : evE call (.var 4) [some (tabT k M), some (.tup [x, natT a, natT b, natT c]), none, some x, some (natT a), some (natT b), some (natT c)] h = .ok (natT a) h := ev_var rfl
              have w5 : evE call (.var 5) [some (tabT k M), some (.tup [x, natT a, natT b, natT c]), none, some x, some (natT a), some (natT b), some (natT c)] h = .ok (natT b) h := ev_var rfl
              have w6 : evE call (.var 6) [some (tabT k M), some (.tup [x, natT a, natT b, natT c]), none, some x, some (natT a), some (natT b), some (natT c)] h = .ok (natT c) h := ev_var rfl
              have c7 := ev_eqS (s := Str.ofString "slip") hx ok okSlip w3
              cases hsl : eqv x sSlip with
              | true =>
                rw [hsl] at c7
                rw [kinds_of.2 hsl]
                simp only [Bool.true_and, Bool.false_and, Bool.or_false]
                exact ss_if_ret c7 (ev_and (ev_neN w4 w5) fun _ => ev_eqN (ev_at w0 w4 w6 hak hck) (ev_at w0 w5 w6 hbk hck))
              | false =>
                rw [hsl] at c7
                simp only [Bool.false_and, Bool.false_or]
                refine (ss_if_f c7).trans (ss_ret ?_)
                exact ev_and (ev_eqS hx ok okSlide w3) fun _ => ev_neN (ev_at w0 (ev_at w0 w4 w5 hak hbk) w6 (hM a b hak hbk) hck) (ev_at w0 (ev_at w0 w4 w6 hak hck) (ev_at w0 w5 w6 hbk hck) (hM a c hak hck) (hM b c hbk hck))
  · have hm : misB k M v = false := by
      cases v <;> first | rfl | (exact absurd ⟨_, rfl⟩ htp)
    rw [hm]
    have c1 : evE call (.notE (.isi (.var 1) .tuple)) [some (tabT k M), some v, none, none, none, none, none] h = .ok (.bl true) h := by
      have hp := plain_of hv
      cases v <;> first | (exact absurd ⟨_, rfl⟩ htp) | (simp [plain] at hp; done) | simp [evE, isiT]
    exact ss_if_ret (ev_or (x := true) (y := false) c1 fun z => by cases z) ev_con
end
end SH
end

section
set_option autoImplicit false
set_option linter.all false
set_option maxRecDepth 100000
set_option maxHeartbeats 4000000
/-! Strandhues: all misfits; tables that fit, by the law. -/
namespace SH
open PySem
theorem loop_acc {α : Type} {emb : α → T} {f : T → Env → Hs → O} {P : List T → Env → Prop} {g : α → List T} {h : Hs} {B : Nat} : ∀ {l : List α} {acc : List T} {σ : Env}, P acc σ → (acc ++ l.flatMap g).length ≤ B →
    (∀ x ∈ l, ∀ acc σ, P acc σ → (acc ++ g x).length ≤ B → ∃ σ', f (emb x) σ h = .nx σ' h ∧ P (acc ++ g x) σ') → ∃ σ', loopO f (l.map emb) σ h = .nx σ' h ∧ P (acc ++ l.flatMap g) σ'
  | [], acc, σ, hp, _, _ => ⟨σ, rfl, by simpa using hp⟩
  | x :: l, acc, σ, hp, hb, hf => by
    rw [List.flatMap_cons, ← List.append_assoc] at hb ⊢
    obtain ⟨σ1, e1, p1⟩ := hf x List.mem_cons_self acc σ hp (by rw [List.length_append] at hb; omega)
    obtain ⟨σ2, e2, p2⟩ := loop_acc (l := l) p1 hb fun y hy => hf y (List.mem_cons_of_mem _ hy)
    exact ⟨σ2, by simp only [List.map_cons, loopO, e1, e2], p2⟩
theorem ev_addL {call : Calls} {σ : Env} {h h1 h2 : Hs} {a b : E} {xs ys : List T} (ha : evE call a σ h = .ok (.lst xs) h1) (hb : evE call b σ h1 = .ok (.lst ys) h2) (hl : xs.length + ys.length ≤ LINE) : evE call (.bin .add a b) σ h = .ok (.lst (xs ++ ys)) h2 := by
  have e : binT .add h2 (.lst xs) (.lst ys) = some (.lst (xs ++ ys)) := by
    simp only [binT, isLst, seqOf, Bool.and_self, if_true]
    rw [if_pos hl]
  rw [evE, ha, R.bind_ok, hb, R.bind_ok, e]; rfl
theorem ev_addT {call : Calls} {σ : Env} {h h1 h2 : Hs} {a b : E} {xs ys : List T} (ha : evE call a σ h = .ok (.tup xs) h1) (hb : evE call b σ h1 = .ok (.tup ys) h2) (hl : xs.length + ys.length ≤ LINE) : evE call (.bin .add a b) σ h = .ok (.tup (xs ++ ys)) h2 := by
  have e : binT .add h2 (.tup xs) (.tup ys) = some (.tup (xs ++ ys)) := by
    simp only [binT]
    rw [if_pos hl]
  rw [evE, ha, R.bind_ok, hb, R.bind_ok, e]; rfl
theorem ev_addN {call : Calls} {σ : Env} {h h1 h2 : Hs} {a b : E} {x y : Nat} (ha : evE call a σ h = .ok (natT x) h1) (hb : evE call b σ h1 = .ok (natT y) h2) : evE call (.bin .add a b) σ h = .ok (natT (x + y)) h2 := by
  rw [evE, ha, R.bind_ok, hb, R.bind_ok]
  simp only [natT, binT, Int.natCast_add]; rfl
/-- a comprehension over a list of numbers -/
theorem ev_compN {call : Calls} {σ : Env} {h : Hs} {elt : E} {g : G} {it : I} {own : List Nat} {l : List Nat} {k : Nat → T} (hi : evI call it σ h = .ok (l.map natT) h) (hf : ∀ x ∈ l, ∃ σ', asgG g (natT x) (wipeT σ own) = some σ' ∧ evE call elt σ' h = .ok (k x) h) : evE call (.comp elt g it none own) σ h = .ok (.lst (l.map k)) h := by
  have e := ev_comp (call := call) (σ := σ) (h := h) (h1 := h) (elt := elt) (g := g) (it := it) (own := own) (xs := l.map natT) (k := fun x => match x with
    | .int v => k v.toNat
    | t => t) hi fun x hx => by
      obtain ⟨c, hc, rfl⟩ := List.mem_map.mp hx
      obtain ⟨σ', e1, e2⟩ := hf c hc
      exact ⟨σ', e1, e2⟩
  rw [e, List.map_map]
  congr 2
theorem walk_nat {call : Calls} {σ : Env} {h : Hs} {e : E} {l : List Nat} (he : evE call e σ h = .ok (.lst (l.map natT)) h) : evI call (.val e) σ h = .ok (l.map natT) h := by
  rw [evI, he, R.bind_ok]; rfl
theorem ev_rng2 {call : Calls} {σ : Env} {h : Hs} {a b : E} {x y : Nat} (hx : x ≤ 1000000) (hy : y ≤ 1000000) (ha : evE call a σ h = .ok (natT x) h) (hb : evE call b σ h = .ok (natT y) h) : evI call (.rng [a, b]) σ h = .ok (((List.range (y - x)).map (x + ·)).map natT) h := by
  have := rng_two hx hy
  rw [evI, evEs, ha, R.bind_ok, evEs, hb, R.bind_ok, evEs, R.bind_ok, R.bind_ok, R.bind_ok, natT, natT, this, List.map_map]; rfl
def twT (a : Nat) : T := .tup [sTwist, natT a]
def slT (a b c : Nat) : T := .tup [sSlip, natT a, natT b, natT c]
def sdT (a b c : Nat) : T := .tup [sSlide, natT a, natT b, natT c]
def ups (k a : Nat) : List Nat := (List.range (k - (a + 1))).map (a + 1 + ·)
def slipsOf (k : Nat) : List T := (List.range k).flatMap fun a => (ups k a).flatMap fun b => (List.range k).map (slT a b)
def slidesOf (k : Nat) : List T := (List.range k).flatMap fun a => (List.range k).flatMap fun b => (List.range k).map (sdT a b)
def allU (k : Nat) : List T := (List.range k).map twT ++ slipsOf k ++ slidesOf k
def allT (k : Nat) (M : Nat → Nat → Nat) : List T := (allU k).filter (misB k M)
theorem allU_len : ∀ k, k < 9 → (allU k).length ≤ 2000 := by decide +kernel
theorem allU_mem {k : Nat} {x : T} (h : x ∈ allU k) : (∃ a, a < k ∧ x = twT a) ∨ (∃ a b c, a < b ∧ b < k ∧ c < k ∧ x = slT a b c) ∨ (∃ a b c, a < k ∧ b < k ∧ c < k ∧ x = sdT a b c) := by
  unfold allU slipsOf slidesOf ups at h
  simp only [List.mem_append, List.mem_map, List.mem_flatMap, List.mem_range] at h
  rcases h with (⟨a, ha, rfl⟩ | ⟨a, ha, b, ⟨b', hb, rfl⟩, c, hc, rfl⟩) | ⟨a, ha, b, hb, c, hc, rfl⟩
  · exact .inl ⟨a, ha, rfl⟩
  · exact .inr (.inl ⟨a, _, c, by omega, by omega, hc, rfl⟩)
  · exact .inr (.inr ⟨a, b, c, ha, hb, hc, rfl⟩)
theorem allU_ok {k : Nat} {x : T} (h : x ∈ allU k) : okD 1 x = true ∧ ∀ y ys, x = .tup (y :: ys) → flatT y = true := by
  rcases allU_mem h with ⟨a, _, rfl⟩ | ⟨a, b, c, _, _, _, rfl⟩ | ⟨a, b, c, _, _, _, rfl⟩
  · refine ⟨?_, fun y ys e => ?_⟩
    · simp only [twT, okD, okDs, natT, okTwist, Bool.and_self]
    · unfold twT at e; cases e; rfl
  · refine ⟨?_, fun y ys e => ?_⟩
    · simp only [slT, okD, okDs, natT, okSlip, Bool.and_self]
    · unfold slT at e; cases e; rfl
  · refine ⟨?_, fun y ys e => ?_⟩
    · simp only [sdT, okD, okDs, natT, okSlide, Bool.and_self]
    · unfold sdT at e; cases e; rfl
theorem okD_add {k : Nat} {x : T} (h : okD k x = true) : ∀ j, okD (k + j) x = true
  | 0 => h
  | j + 1 => okD_up (okD_add h j)
theorem okDs_add {k : Nat} {xs : List T} (h : ∀ x ∈ xs, okD k x = true) (j : Nat) : okDs (k + j) xs = true := okDs_all fun x hx => okD_add (h x hx) j
section
variable {Φ : Prog} {w n f : Nat} {h : Hs} {k : Nat} {M : Nat → Nat → Nat}
theorem tri_row {call : Calls} {s : Str} {x0 x2 : T} {a b : Nat} {s5 s6 : Option T} :
    evE call (.comp (.tup [.con (.str s), .var 3, .var 4, .var 5]) (.name 5) (.val (.var 1)) none [5]) [some x0, some (.lst ((List.range k).map natT)), some x2, some (natT a), some (natT b), s5, s6] h = .ok (.lst ((List.range k).map fun c => .tup [.str s, natT a, natT b, natT c])) h :=
  ev_compN (l := List.range k) (walk_nat (ev_var rfl)) fun c hc => ⟨[some x0, some (.lst ((List.range k).map natT)), some x2, some (natT a), some (natT b), some (natT c), s6], rfl, ev_tup (ev_cons ev_con (ev_cons (ev_var rfl) (ev_cons (ev_var rfl) (ev_cons (ev_var rfl) ev_nil))))⟩
/-- the turns over two: a row is put behind -/
theorem tri_in {call : Calls} {s : Str} {x0 : T} {a : Nat} {s4 s5 s6 : Option T} {acc : List T} {l : List Nat} (hb : (acc ++ l.flatMap fun b => (List.range k).map fun c => T.tup [.str s, natT a, natT b, natT c]).length ≤ 2000) :
    ∃ s4' s5', loopO (turn call w (.name 4) [.asg (.name 2) (.bin .add (.var 2) (.comp (.tup [.con (.str s), .var 3, .var 4, .var 5]) (.name 5) (.val (.var 1)) none [5]))]) (l.map natT) [some x0, some (.lst ((List.range k).map natT)), some (.lst acc), some (natT a), s4, s5, s6] h
      = .nx [some x0, some (.lst ((List.range k).map natT)), some (.lst (acc ++ l.flatMap fun b => (List.range k).map fun c => T.tup [.str s, natT a, natT b, natT c])), some (natT a), s4', s5', s6] h := by
  obtain ⟨σ', e, s4', s5', rfl⟩ := loop_acc (emb := natT) (f := turn call w (.name 4) [.asg (.name 2) (.bin .add (.var 2) (.comp (.tup [.con (.str s), .var 3, .var 4, .var 5]) (.name 5) (.val (.var 1)) none [5]))]) (h := h) (B := 2000)
    (P := fun acc σ => ∃ s4 s5, σ = [some x0, some (.lst ((List.range k).map natT)), some (.lst acc), some (natT a), s4, s5, s6]) (g := fun b => (List.range k).map fun c => T.tup [.str s, natT a, natT b, natT c]) (l := l) (acc := acc) ⟨s4, s5, rfl⟩ hb fun b hb acc σ hP hl => by
      obtain ⟨s4, s5, rfl⟩ := hP
      have hL : LINE = 16777216 := rfl
      rw [List.length_append] at hl
      refine ⟨[some x0, some (.lst ((List.range k).map natT)), some (.lst (acc ++ (List.range k).map fun c => T.tup [.str s, natT a, natT b, natT c])), some (natT a), some (natT b), s5, s6], ?_, _, _, rfl⟩
      show evSs call w _ [some x0, some (.lst ((List.range k).map natT)), some (.lst acc), some (natT a), some (natT b), s5, s6] h = _
      exact (ss_set (ev_addL (ev_var rfl) tri_row (by omega)) (by simp)).trans (by rw [evSs]; rfl)
  exact ⟨s4', s5', e⟩
theorem law_all_ok {q : Nat} (I : Is Φ f 1 7 (b_law_all q)) (Iq : Is Φ q 2 7 b_law_shows) (hk : k ≤ 8) (hM : rowsD k M) :
    callN Φ w (n + 2) f [tabT k M] h = .ok (.lst (allT k M)) h := by
  have hL : LINE = 16777216 := rfl
  have hok : okD 60 (.lst (allT k M)) = true := by
    simp only [okD]
    exact okDs_add (k := 1) (fun x hx => (allU_ok (List.mem_filter.mp hx).1).1) 58
  refine I.rt0 rfl hok ?_
  generalize hq : callN Φ w (n + 1) = call
  have hlen := allU_len k (by omega)
  have hlen1 : ((List.range k).map twT ++ slipsOf k).length ≤ 2000 := by
    unfold allU at hlen
    rw [List.length_append] at hlen
    omega
  have e1 : evE call (.rng false [.blt .len [.var 0]]) (st0 [tabT k M] 7) h = .ok (.lst ((List.range k).map natT)) h := by
    have r0 := rng_nat (n := k) (by omega)
    rw [evE, evEs, ev_lenT (ev_var rfl), R.bind_ok, evEs, R.bind_ok, R.bind_ok, natT, r0]; rfl
  refine (ss_set e1 (by simp [st0])).trans ?_
  refine (ss_set (x := .lst ((List.range k).map twT)) (h' := h) (ev_compN (l := List.range k) (walk_nat (ev_var rfl)) fun c hc => ⟨[some (tabT k M), some (.lst ((List.range k).map natT)), none, some (natT c), none, none, none], rfl, ev_tup (ev_cons ev_con (ev_cons (ev_var rfl) ev_nil))⟩) (by simp [st0])).trans ?_
  show evSs call w _ [some (tabT k M), some (.lst ((List.range k).map natT)), some (.lst ((List.range k).map twT)), none, none, none, none] h = _
  obtain ⟨σ1, f1, s3, s4, s5, rfl⟩ := loop_acc (emb := natT) (f := turn call w (.name 3) [.forS (.name 4) (.rng [.bin .add (.var 3) (.con (T.int 1)), .blt .len [.var 0]]) [.asg (.name 2) (.bin .add (.var 2) (.comp (.tup [.con sSlip, .var 3, .var 4, .var 5]) (.name 5) (.val (.var 1)) none [5]))]]) (h := h) (B := 2000)
    (P := fun acc σ => ∃ s3 s4 s5, σ = [some (tabT k M), some (.lst ((List.range k).map natT)), some (.lst acc), s3, s4, s5, none]) (g := fun a => (ups k a).flatMap fun b => (List.range k).map (slT a b)) (l := List.range k) (acc := (List.range k).map twT) (σ := [some (tabT k M), some (.lst ((List.range k).map natT)), some (.lst ((List.range k).map twT)), none, none, none, none]) ⟨none, none, none, rfl⟩ hlen1 fun a ha acc σ hP hl => by
      obtain ⟨s3, s4, s5, rfl⟩ := hP
      have ha := List.mem_range.mp ha
      obtain ⟨u4, u5, e⟩ := tri_in (call := call) (w := w) (h := h) (k := k) (s := Str.ofString "slip") (x0 := tabT k M) (a := a) (s4 := s4) (s5 := s5) (s6 := none) (acc := acc) (l := ups k a) hl
      refine ⟨[some (tabT k M), some (.lst ((List.range k).map natT)), some (.lst (acc ++ (ups k a).flatMap fun b => (List.range k).map (slT a b))), some (natT a), u4, u5, none], ?_, _, _, _, rfl⟩
      show evSs call w _ [some (tabT k M), some (.lst ((List.range k).map natT)), some (.lst acc), some (natT a), s4, s5, none] h = _
      exact (ss_for (ev_rng2 (x := a + 1) (y := k) (by omega) (by omega) (ev_addN (y := 1) (ev_var rfl) ev_con) (ev_lenT (ev_var rfl))) e).trans (by rw [evSs]; rfl)
  obtain ⟨σ2, f2, t3, t4, t5, rfl⟩ := loop_acc (emb := natT) (f := turn call w (.name 3) [.forS (.name 4) (.val (.var 1)) [.asg (.name 2) (.bin .add (.var 2) (.comp (.tup [.con sSlide, .var 3, .var 4, .var 5]) (.name 5) (.val (.var 1)) none [5]))]]) (h := h) (B := 2000)
    (P := fun acc σ => ∃ s3 s4 s5, σ = [some (tabT k M), some (.lst ((List.range k).map natT)), some (.lst acc), s3, s4, s5, none]) (g := fun a => (List.range k).flatMap fun b => (List.range k).map (sdT a b)) (l := List.range k) (acc := (List.range k).map twT ++ slipsOf k) (σ := [some (tabT k M), some (.lst ((List.range k).map natT)), some (.lst ((List.range k).map twT ++ slipsOf k)), s3, s4, s5, none]) ⟨s3, s4, s5, rfl⟩ hlen fun a ha acc σ hP hl => by
      obtain ⟨s3, s4, s5, rfl⟩ := hP
      have ha := List.mem_range.mp ha
      obtain ⟨u4, u5, e⟩ := tri_in (call := call) (w := w) (h := h) (k := k) (s := Str.ofString "slide") (x0 := tabT k M) (a := a) (s4 := s4) (s5 := s5) (s6 := none) (acc := acc) (l := List.range k) hl
      refine ⟨[some (tabT k M), some (.lst ((List.range k).map natT)), some (.lst (acc ++ (List.range k).flatMap fun b => (List.range k).map (sdT a b))), some (natT a), u4, u5, none], ?_, _, _, _, rfl⟩
      show evSs call w _ [some (tabT k M), some (.lst ((List.range k).map natT)), some (.lst acc), some (natT a), s4, s5, none] h = _
      exact (ss_for (walk_nat (ev_var rfl)) e).trans (by rw [evSs]; rfl)
  refine (ss_for (walk_nat (ev_var rfl)) f1).trans ((ss_for (walk_nat (ev_var rfl)) f2).trans (ss_ret ?_))
  have e3 := ev_compF (call := call) (σ := [some (tabT k M), some (.lst ((List.range k).map natT)), some (.lst (allU k)), t3, t4, t5, none]) (h := h) (h1 := h) (elt := .var 6) (g := .name 6) (it := .val (.var 2)) (own := [6]) (xs := allU k) (k := id) (p := misB k M) (c := .call q [.var 0, .var 6] [] [0, 1]) (by rw [evI, ev_var rfl, R.bind_ok]; rfl) fun x hx => by
    obtain ⟨o1, o2⟩ := allU_ok hx
    have e4 := law_shows_ok (w := w) (n := n) (h := h) Iq (okD_add o1 59) o2 hk hM
    rw [hq] at e4
    exact ⟨[some (tabT k M), some (.lst ((List.range k).map natT)), some (.lst (allU k)), t3, t4, t5, some x], rfl, ev_call (zs := [tabT k M, x]) (ev_cons (ev_var rfl) (ev_cons (ev_var rfl) ev_nil)) ev_nil rfl e4, fun _ => ev_var rfl⟩
  rw [List.map_id] at e3
  exact e3
theorem is_misfit_ok {p q g dt : Nat} {v : T} (I : Is Φ f 2 2 (b_is_misfit dt g)) (Ig : Is Φ g 2 7 (b_is_misfit_of p q)) (Ip : Is Φ p 3 3 b_is_in) (Iq : Is Φ q 3 3 b_is_tuple) (hd : callN Φ w (n + 2) dt [tabT k M, sTable] h = .ok .non h) (hv : okD 60 v = true) (hf : ∀ x xs, v = .tup (x :: xs) → flatT x = true) (hk : k ≤ 8) (hM : rowsD k M) :
    callN Φ w (n + 3) f [tabT k M, v] h = .ok (.bl (misB k M v)) h := by
  have e := is_misfit_of_ok (w := w) (n := n) (h := h) Ig Ip Iq hv hf hk hM
  refine I.rt0 rfl rfl ((demand_drop rfl hd).trans (ss_ret ?_))
  exact ev_call (zs := [tabT k M, v]) (ev_cons (ev_var rfl) (ev_cons (ev_var rfl) ev_nil)) ev_nil rfl e
end
end SH
end

section
set_option autoImplicit false
set_option linter.all false
set_option maxRecDepth 100000
set_option maxHeartbeats 4000000
/-! Strandhues: tables that fit, by the law; what misfits say. -/
namespace SH
open PySem
def fitsR2 (k : Nat) (M : Nat → Nat → Nat) (a b : Nat) : Option T := if (List.range k).any (slideB M a b) then some (.bl false) else none
def fitsR1 (k : Nat) (M : Nat → Nat → Nat) (a : Nat) : Option T := if decide (M a a ≠ a) || decide ((dedupI (colI k M a)).length ≠ k) then some (.bl false) else (List.range k).findSome? (fitsR2 k M a)
def fitsB (k : Nat) (M : Nat → Nat → Nat) : Bool := ((List.range k).findSome? (fitsR1 k M)).isNone
theorem fitsR2_is {k a b : Nat} {M : Nat → Nat → Nat} {t : T} (h : fitsR2 k M a b = some t) : t = .bl false := by
  unfold fitsR2 at h
  split at h
  · cases h; rfl
  · cases h
theorem fitsR1_is {k a : Nat} {M : Nat → Nat → Nat} {t : T} (h : fitsR1 k M a = some t) : t = .bl false := by
  unfold fitsR1 at h
  split at h
  · cases h; rfl
  · obtain ⟨b, _, hb⟩ := List.exists_of_findSome?_eq_some h
    exact fitsR2_is hb
section
variable {Φ : Prog} {w n f : Nat} {h : Hs} {k : Nat} {M : Nat → Nat → Nat}
theorem ev_anyN {call : Calls} {σ : Env} {h : Hs} {e ln : E} {i k : Nat} {p : Nat → Bool} {own : List Nat} (hk : k ≤ 1000000) (hl : evE call ln σ h = .ok (natT k) h) (hw : ∀ c, c < k → ∃ σ', asgG (.name i) (natT c) (wipeT σ own) = some σ' ∧ evE call e σ' h = .ok (.bl (p c)) h) :
    evE call (.blt .anyL [.comp e (.name i) (.rng [ln]) none own]) σ h = .ok (.bl ((List.range k).any p)) h :=
  ev_any (ys := List.range k) (p := p) (ev_compN (l := List.range k) (ev_rng hk hl) fun c hc => hw c (List.mem_range.mp hc))
def fitsIn : List S := [.ite (.blt .anyL [.comp (.cmp .ne (.idx (.idx (.var 0) (.idx (.idx (.var 0) (.var 2)) (.var 4))) (.var 5)) (.idx (.idx (.var 0) (.idx (.idx (.var 0) (.var 2)) (.var 5))) (.idx (.idx (.var 0) (.var 4)) (.var 5)))) (.name 5) (.rng [.var 1]) none [5]]) [.ret (.con (T.bl false))] []]
theorem fits_in {call : Calls} {w a : Nat} {s3 s4 s5 : Option T} (hk : k ≤ 8) (hM : rowsD k M) (ha : a < k) : match (List.range k).findSome? (fitsR2 k M a) with
    | some t => loopO (turn call w (.name 4) fitsIn) ((List.range k).map natT) [some (tabT k M), some (natT k), some (natT a), s3, s4, s5] h = .rt t h
    | none => ∃ σ', (∃ s3 s4 s5, σ' = [some (tabT k M), some (natT k), some (natT a), s3, s4, s5]) ∧ loopO (turn call w (.name 4) fitsIn) ((List.range k).map natT) [some (tabT k M), some (natT k), some (natT a), s3, s4, s5] h = .nx σ' h :=
  loop_findM (emb := natT) (f := turn call w (.name 4) fitsIn) (P := fun σ => ∃ s3 s4 s5, σ = [some (tabT k M), some (natT k), some (natT a), s3, s4, s5]) (h := h) (l := List.range k) (r := fitsR2 k M a) ⟨s3, s4, s5, rfl⟩ fun b hb σ hP => by
    obtain ⟨s3, s4, s5, rfl⟩ := hP
    have hb := List.mem_range.mp hb
    have e := ev_anyN (call := call) (σ := [some (tabT k M), some (natT k), some (natT a), s3, some (natT b), s5]) (h := h) (i := 5) (own := [5]) (ln := .var 1) (k := k) (p := slideB M a b) (e := .cmp .ne (.idx (.idx (.var 0) (.idx (.idx (.var 0) (.var 2)) (.var 4))) (.var 5)) (.idx (.idx (.var 0) (.idx (.idx (.var 0) (.var 2)) (.var 5))) (.idx (.idx (.var 0) (.var 4)) (.var 5)))) (by omega) (ev_var rfl) fun c hc => by
      refine ⟨[some (tabT k M), some (natT k), some (natT a), s3, some (natT b), some (natT c)], rfl, ?_⟩
      have w0 : evE call (.var 0) [some (tabT k M), some (natT k), some (natT a), s3, some (natT b), some (natT c)] h = .ok (tabT k M) h := ev_var rfl
      have w2 : evE call (.var 2) [some (tabT k M), some (natT k), some (natT a), s3, some (natT b), some (natT c)] h = .ok (natT a) h := ev_var rfl
      have w4 : evE call (.var 4) [some (tabT k M), some (natT k), some (natT a), s3, some (natT b), some (natT c)] h = .ok (natT b) h := ev_var rfl
      have w5 : evE call (.var 5) [some (tabT k M), some (natT k), some (natT a), s3, some (natT b), some (natT c)] h = .ok (natT c) h := ev_var rfl
      exact ev_neN (ev_at w0 (ev_at w0 w2 w4 ha hb) w5 (hM a b ha hb) hc) (ev_at w0 (ev_at w0 w2 w5 ha hc) (ev_at w0 w4 w5 hb hc) (hM a c ha hc) (hM b c hb hc))
    have e2 := turn_if (w := w) e (ev_con (t := T.bl false))
    have et : turn call w (.name 4) fitsIn (natT b) [some (tabT k M), some (natT k), some (natT a), s3, s4, s5] h = evSs call w fitsIn [some (tabT k M), some (natT k), some (natT a), s3, some (natT b), s5] h := rfl
    rw [et, show evSs call w fitsIn [some (tabT k M), some (natT k), some (natT a), s3, some (natT b), s5] h = _ from e2]
    unfold fitsR2
    cases (List.range k).any (slideB M a b) with
    | true => rfl
    | false => exact ⟨[some (tabT k M), some (natT k), some (natT a), s3, some (natT b), s5], ⟨_, _, _, rfl⟩, rfl⟩
theorem law_fits_ok (I : Is Φ f 1 6 b_law_fits) (hk : k ≤ 8) (hM : rowsD k M) : callN Φ w (n + 1) f [tabT k M] h = .ok (.bl (fitsB k M)) h := by
  refine I.rt0 rfl rfl ?_
  generalize hq : callN Φ w n = call
  refine (ss_set (ev_lenT (ev_var rfl)) (by simp [st0])).trans ?_
  show evSs call w _ [some (tabT k M), some (natT k), none, none, none, none] h = _
  have key := loop_findM (emb := natT) (f := turn call w (.name 2) [.ite (.orE (.cmp .ne (.idx (.idx (.var 0) (.var 2)) (.var 2)) (.var 2)) (.cmp .ne (.blt .lenSet [.comp (.idx (.idx (.var 0) (.var 3)) (.var 2)) (.name 3) (.rng [.var 1]) none [3]]) (.var 1))) [.ret (.con (T.bl false))] [],
    .forS (.name 4) (.rng [.var 1]) fitsIn]) (P := fun σ => ∃ s2 s3 s4 s5, σ = [some (tabT k M), some (natT k), s2, s3, s4, s5]) (h := h) (l := List.range k) (r := fitsR1 k M) (σ := [some (tabT k M), some (natT k), none, none, none, none]) ⟨none, none, none, none, rfl⟩ fun a ha σ hP => by
    obtain ⟨s2, s3, s4, s5, rfl⟩ := hP
    have ha := List.mem_range.mp ha
    have et : turn call w (.name 2) [.ite (.orE (.cmp .ne (.idx (.idx (.var 0) (.var 2)) (.var 2)) (.var 2)) (.cmp .ne (.blt .lenSet [.comp (.idx (.idx (.var 0) (.var 3)) (.var 2)) (.name 3) (.rng [.var 1]) none [3]]) (.var 1))) [.ret (.con (T.bl false))] [],
      .forS (.name 4) (.rng [.var 1]) fitsIn] (natT a) [some (tabT k M), some (natT k), s2, s3, s4, s5] h = evSs call w [.ite (.orE (.cmp .ne (.idx (.idx (.var 0) (.var 2)) (.var 2)) (.var 2)) (.cmp .ne (.blt .lenSet [.comp (.idx (.idx (.var 0) (.var 3)) (.var 2)) (.name 3) (.rng [.var 1]) none [3]]) (.var 1))) [.ret (.con (T.bl false))] [],
      .forS (.name 4) (.rng [.var 1]) fitsIn] [some (tabT k M), some (natT k), some (natT a), s3, s4, s5] h := rfl
    rw [et]
    have v0 : evE call (.var 0) [some (tabT k M), some (natT k), some (natT a), s3, s4, s5] h = .ok (tabT k M) h := ev_var rfl
    have v2 : evE call (.var 2) [some (tabT k M), some (natT k), some (natT a), s3, s4, s5] h = .ok (natT a) h := ev_var rfl
    have c2 := lenSet_ok (call := call) (σ := [some (tabT k M), some (natT k), some (natT a), s3, s4, s5]) (h := h) (e := .comp (.idx (.idx (.var 0) (.var 3)) (.var 2)) (.name 3) (.rng [.var 1]) none [3]) (l := (List.range k).map fun r => M r a) (by simp; omega) (by
      have := ev_compN (call := call) (σ := [some (tabT k M), some (natT k), some (natT a), s3, s4, s5]) (h := h) (elt := .idx (.idx (.var 0) (.var 3)) (.var 2)) (g := .name 3) (it := .rng [.var 1]) (own := [3]) (l := List.range k) (k := fun r => natT (M r a)) (ev_rng (by omega) (ev_var rfl)) fun c hc => ⟨[some (tabT k M), some (natT k), some (natT a), some (natT c), s4, s5], rfl, ev_at (ev_var rfl) (ev_var rfl) (ev_var rfl) (List.mem_range.mp hc) ha⟩
      rw [this, List.map_map]; rfl)
    rw [List.map_map] at c2
    have c1 := ev_or (ev_neN (ev_at v0 v2 v2 ha ha) v2) fun _ => ev_neN (x := (dedupI (colI k M a)).length) (y := k) c2 (ev_var (i := 1) rfl)
    unfold fitsR1
    cases hc : (decide (M a a ≠ a) || decide ((dedupI (colI k M a)).length ≠ k)) with
    | true =>
      rw [hc] at c1
      simp only [if_true]
      exact ss_if_ret c1 ev_con
    | false =>
      rw [hc] at c1
      simp only [Bool.false_eq_true, if_false]
      have ti := fits_in (call := call) (w := w) (h := h) (a := a) (s3 := s3) (s4 := s4) (s5 := s5) hk hM ha
      cases e : (List.range k).findSome? (fitsR2 k M a) with
      | some t =>
        rw [e] at ti
        exact (ss_if_f c1).trans (ss_for_rt (ev_rng (by omega) (ev_var rfl)) ti)
      | none =>
        rw [e] at ti
        obtain ⟨σ', ⟨u3, u4, u5, rfl⟩, ti⟩ := ti
        exact ⟨[some (tabT k M), some (natT k), some (natT a), u3, u4, u5], ⟨_, _, _, _, rfl⟩, (ss_if_f c1).trans ((ss_for (ev_rng (by omega) (ev_var rfl)) ti).trans (by rw [evSs]))⟩
  unfold fitsB
  cases e : (List.range k).findSome? (fitsR1 k M) with
  | some t =>
    rw [e] at key
    obtain ⟨a, _, ha⟩ := List.exists_of_findSome?_eq_some e
    have := fitsR1_is ha
    subst this
    exact ss_for_rt (ev_rng (by omega) (ev_var rfl)) key
  | none =>
    rw [e] at key
    obtain ⟨σ', ⟨s2, s3, s4, s5, rfl⟩, key⟩ := key
    exact (ss_for (ev_rng (by omega) (ev_var rfl)) key).trans (ss_ret ev_con)
end
/-! ### the plain law -/
theorem dedup_le : ∀ {l : List Int}, (dedupI l).length ≤ l.length
  | [] => by simp [dedupI]
  | x :: r => by
    have := dedup_le (l := r)
    simp only [dedupI]
    split
    · rw [List.length_cons]; omega
    · rw [List.length_cons, List.length_cons]; omega
theorem dedupM_nodup : ∀ {l : List Int}, (dedupI l).length = l.length ↔ l.Nodup
  | [] => by simp [dedupI]
  | x :: r => by
    have ih := dedupM_nodup (l := r)
    have le := dedup_le (l := r)
    simp only [dedupI]
    by_cases h : r.contains x = true
    · rw [if_pos h]
      have hx : x ∈ r := by simpa using h
      constructor
      · intro e; rw [List.length_cons] at e; omega
      · intro e; exact absurd hx (List.nodup_cons.mp e).1
    · rw [if_neg h]
      have hx : x ∉ r := by simpa using h
      rw [List.length_cons, List.length_cons, List.nodup_cons, Nat.add_right_cancel_iff, ih]
      exact ⟨fun e => ⟨hx, e⟩, fun e => e.2⟩
theorem nodup_map {k : Nat} {g : Nat → Int} : ((List.range k).map g).Nodup ↔ ∀ a b, a < b → b < k → g a ≠ g b := by
  unfold List.Nodup
  rw [List.pairwise_map]
  rw [List.pairwise_iff_getElem]
  constructor
  · intro e a b hab hb
    have := e a b (by simp; omega) (by simpa using hb) hab
    simpa using this
  · intro e i j hi hj hij
    simp only [List.getElem_range]
    exact e i j hij (by simpa using hj)
section
variable {k : Nat} {M : Nat → Nat → Nat}
theorem col_ok {c : Nat} : (dedupI (colI k M c)).length = k ↔ ∀ a b, a < b → b < k → M a c ≠ M b c := by
  have h1 : (colI k M c).length = k := by simp [colI]
  have h2 := dedupM_nodup (l := colI k M c)
  rw [h1] at h2
  rw [h2]
  unfold colI
  rw [nodup_map]
  constructor
  · intro e a b ha hb z; exact e a b ha hb (by rw [z])
  · intro e a b ha hb z; exact e a b ha hb (by omega)
theorem rows3 : rowsOver k 3 = (List.range k).flatMap fun a => (List.range k).flatMap fun b => (List.range k).map fun c => [a, b, c] := by
  have e1 : rowsOver k 1 = (List.range k).map fun a => [a] := by
    simp only [rowsOver, List.flatMap_cons, List.flatMap_nil, List.append_nil, List.nil_append]
  have e2 : rowsOver k 2 = (List.range k).flatMap fun a => (List.range k).map fun b => [a, b] := by
    rw [rowsOver, e1, List.flatMap_map]; rfl
  rw [rowsOver, e2, List.flatMap_assoc]
  congr 1
  funext a
  rw [List.flatMap_map]
  rfl
end
end SH
end

section
set_option autoImplicit false
set_option linter.all false
set_option maxRecDepth 100000
set_option maxHeartbeats 4000000
/-! Strandhues: the plain law about misfits. -/
namespace SH
open PySem
section
variable {k : Nat} {M : Nat → Nat → Nat}
def twP (k : Nat) (M : Nat → Nat → Nat) : Prop := ∀ a, a < k → M a a = a
def slP (k : Nat) (M : Nat → Nat → Nat) : Prop := ∀ a b c, a < b → b < k → c < k → M a c ≠ M b c
def sdP (k : Nat) (M : Nat → Nat → Nat) : Prop := ∀ a b c, a < k → b < k → c < k → M (M a b) c = M (M a c) (M b c)
theorem still_iff : stillB k M = true ↔ twP k M := by
  simp only [stillB, List.all_eq_true, List.mem_range, decide_eq_true_eq, twP]
theorem clear_iff : clearB k M = true ↔ slP k M := by
  simp only [clearB, List.all_eq_true, List.mem_range, decide_eq_true_eq, slP, col_ok]
  exact ⟨fun h a b c ha hb hc => h c hc a b ha hb, fun h c hc a b ha hb => h a b c ha hb hc⟩
theorem mem_rows3 {r : List Nat} : r ∈ rowsOver k 3 ↔ ∃ a b c, a < k ∧ b < k ∧ c < k ∧ r = [a, b, c] := by
  rw [rows3]
  simp only [List.mem_flatMap, List.mem_map, List.mem_range]
  constructor
  · rintro ⟨a, ha, b, hb, c, hc, rfl⟩; exact ⟨a, b, c, ha, hb, hc, rfl⟩
  · rintro ⟨a, b, c, ha, hb, hc, rfl⟩; exact ⟨a, ha, b, hb, c, hc, rfl⟩
theorem level_iff : levelB k M = true ↔ sdP k M := by
  unfold levelB sdP
  rw [Option.isNone_iff_eq_none, List.find?_eq_none]
  constructor
  · intro h a b c ha hb hc
    have := h [a, b, c] (mem_rows3.mpr ⟨a, b, c, ha, hb, hc, rfl⟩)
    simpa [unlev] using this
  · intro h r hr
    obtain ⟨a, b, c, ha, hb, hc, rfl⟩ := mem_rows3.mp hr
    simpa [unlev] using h a b c ha hb hc
theorem fits_iff : fitsB k M = true ↔ twP k M ∧ slP k M ∧ sdP k M := by
  unfold fitsB
  rw [Option.isNone_iff_eq_none, List.findSome?_eq_none_iff]
  have h1 : ∀ a, fitsR1 k M a = none ↔ M a a = a ∧ (∀ x y, x < y → y < k → M x a ≠ M y a) ∧ ∀ b, b < k → ∀ c, c < k → M (M a b) c = M (M a c) (M b c) := fun a => by
    unfold fitsR1
    by_cases z : (decide (M a a ≠ a) || decide ((dedupI (colI k M a)).length ≠ k)) = true
    · rw [if_pos z]
      simp only [Bool.or_eq_true, decide_eq_true_eq] at z
      constructor
      · intro e; cases e
      · rintro ⟨e1, e2, _⟩
        rcases z with z | z
        · exact absurd e1 z
        · exact absurd (col_ok.mpr e2) z
    · rw [if_neg z]
      simp only [Bool.or_eq_true, decide_eq_true_eq, not_or, Decidable.not_not] at z
      rw [List.findSome?_eq_none_iff]
      have h2 : ∀ b, fitsR2 k M a b = none ↔ ∀ c, c < k → M (M a b) c = M (M a c) (M b c) := fun b => by
        unfold fitsR2
        by_cases q : (List.range k).any (slideB M a b) = true
        · rw [if_pos q]
          simp only [List.any_eq_true, List.mem_range, slideB, decide_eq_true_eq] at q
          obtain ⟨c, hc, q⟩ := q
          constructor
          · intro e; cases e
          · intro e; exact absurd (e c hc) q
        · rw [if_neg q]
          simp only [List.any_eq_true, List.mem_range, slideB, decide_eq_true_eq, not_exists, not_and, Decidable.not_not] at q
          exact ⟨fun _ => q, fun _ => rfl⟩
      simp only [h2, List.mem_range]
      exact ⟨fun e => ⟨z.1, col_ok.mp z.2, e⟩, fun e => e.2.2⟩
  simp only [h1, List.mem_range]
  constructor
  · intro e
    exact ⟨fun a ha => (e a ha).1, fun a b c ha hb hc => (e c hc).2.1 a b ha hb, fun a b c ha hb hc => (e a ha).2.2 b hb c hc⟩
  · rintro ⟨e1, e2, e3⟩ a ha
    exact ⟨e1 a ha, fun x y hx hy => e2 x y a hx hy ha, fun b hb c hc => e3 a b c ha hb hc⟩
theorem eqv_self {s : Str} : eqv (.str s) (.str s) = true := by simp only [eqv]; exact beq_self_eq_true s
theorem eqv_off {s t : Str} (h : (s == t) = false) : eqv (.str s) (.str t) = false := by simp only [eqv]; exact h
theorem mis_tw {a : Nat} (ha : a < k) : misB k M (twT a) = decide (M a a ≠ a) := by
  simp only [misB, twT, inK_of ha, eqv_self, Bool.true_and]
theorem mis_sl {a b c : Nat} (ha : a < k) (hb : b < k) (hc : c < k) : misB k M (slT a b c) = slipB' M a b c := by
  simp only [misB, slT, inK_of ha, inK_of hb, inK_of hc, eqv_self, Bool.true_and, eqv_off ne23, Bool.false_and, Bool.or_false]
theorem mis_sd {a b c : Nat} (ha : a < k) (hb : b < k) (hc : c < k) : misB k M (sdT a b c) = slideB M a b c := by
  have e : eqv sSlide sSlip = false := by rw [eqv_flip]; exact eqv_off ne23
  simp only [misB, sdT, inK_of ha, inK_of hb, inK_of hc, eqv_self, Bool.true_and, e, Bool.false_and, Bool.false_or]
theorem find_map {α : Type} {f : α → T} {p : T → Bool} {r : α → Option T} : ∀ {l : List α}, (∀ x ∈ l, r x = if p (f x) then some (f x) else none) → (l.map f).find? p = l.findSome? r
  | [], _ => rfl
  | x :: l, h => by
    have e := h x List.mem_cons_self
    have ih := find_map (l := l) fun y hy => h y (List.mem_cons_of_mem _ hy)
    rw [List.map_cons, List.find?_cons, List.findSome?_cons, e]
    cases p (f x) with
    | true => rfl
    | false => exact ih
theorem find_flat {α : Type} {f : α → List T} {p : T → Bool} {r : α → Option T} : ∀ {l : List α}, (∀ x ∈ l, r x = (f x).find? p) → (l.flatMap f).find? p = l.findSome? r
  | [], _ => rfl
  | x :: l, h => by
    have e := h x List.mem_cons_self
    have ih := find_flat (l := l) fun y hy => h y (List.mem_cons_of_mem _ hy)
    rw [List.flatMap_cons, List.find?_append, List.findSome?_cons, e]
    cases (f x).find? p with
    | some t => rfl
    | none => exact ih
theorem slides_map : slidesOf k = (rowsOver k 3).map fun r => T.tup (sSlide :: r.map natT) := by
  rw [rows3]
  unfold slidesOf
  simp only [List.map_flatMap, List.map_map]; rfl
theorem misT_head : misT k M = ((allT k M).head?).getD .non := by
  unfold allT
  rw [List.head?_filter]
  unfold allU
  rw [List.find?_append, List.find?_append]
  have e1 : ((List.range k).map twT).find? (misB k M) = (List.range k).findSome? (twistOf M) := find_map fun a ha => by
    rw [mis_tw (List.mem_range.mp ha)]
    unfold twistOf twT
    by_cases z : M a a ≠ a <;> simp [z]
  have e2 : (slipsOf k).find? (misB k M) = (List.range k).findSome? (slip1 k M) := find_flat fun a ha => by
    have ha := List.mem_range.mp ha
    refine (find_flat fun b hb => ?_).symm
    unfold ups at hb
    obtain ⟨b', hb', rfl⟩ := List.mem_map.mp hb
    have hb' := List.mem_range.mp hb'
    refine (find_map fun c hc => ?_).symm
    have hc := List.mem_range.mp hc
    rw [mis_sl ha (by omega) hc]
    unfold slip3 slT slipB'
    have z1 : a ≠ a + 1 + b' := by omega
    by_cases z : M a c = M (a + 1 + b') c
    · simp [z, z1]
    · simp [z, z1]
  have e3 : (slidesOf k).find? (misB k M) = (rowsOver k 3).findSome? (slideOf M) := by
    rw [slides_map]
    refine find_map fun r hr => ?_
    obtain ⟨a, b, c, ha, hb, hc, rfl⟩ := mem_rows3.mp hr
    have := mis_sd (M := M) ha hb hc
    unfold sdT at this
    simp only [List.map_cons, List.map_nil, this]
    unfold slideOf slideB unlev
    rfl
  rw [e1, e2, e3]
  unfold misT
  cases (List.range k).findSome? (twistOf M) with
  | some t => rfl
  | none =>
    cases (List.range k).findSome? (slip1 k M) with
    | some t => rfl
    | none => cases (rowsOver k 3).findSome? (slideOf M) <;> rfl
theorem allT_mem {x : T} : x ∈ allT k M ↔ (∃ a, a < k ∧ x = twT a ∧ M a a ≠ a) ∨ (∃ a b c, a < b ∧ b < k ∧ c < k ∧ x = slT a b c ∧ M a c = M b c) ∨ (∃ a b c, a < k ∧ b < k ∧ c < k ∧ x = sdT a b c ∧ M (M a b) c ≠ M (M a c) (M b c)) := by
  unfold allT
  rw [List.mem_filter]
  constructor
  · rintro ⟨hx, hm⟩
    rcases allU_mem hx with ⟨a, ha, rfl⟩ | ⟨a, b, c, hab, hb, hc, rfl⟩ | ⟨a, b, c, ha, hb, hc, rfl⟩
    · rw [mis_tw ha] at hm
      exact .inl ⟨a, ha, rfl, by simpa using hm⟩
    · rw [mis_sl (by omega) hb hc] at hm
      simp only [slipB', Bool.and_eq_true, decide_eq_true_eq] at hm
      exact .inr (.inl ⟨a, b, c, hab, hb, hc, rfl, hm.2⟩)
    · rw [mis_sd ha hb hc] at hm
      simp only [slideB, decide_eq_true_eq] at hm
      exact .inr (.inr ⟨a, b, c, ha, hb, hc, rfl, hm⟩)
  · unfold allU slipsOf slidesOf ups
    rintro (⟨a, ha, rfl, h⟩ | ⟨a, b, c, hab, hb, hc, rfl, h⟩ | ⟨a, b, c, ha, hb, hc, rfl, h⟩)
    · refine ⟨List.mem_append_left _ (List.mem_append_left _ (List.mem_map.mpr ⟨a, List.mem_range.mpr ha, rfl⟩)), ?_⟩
      rw [mis_tw ha]; simpa using h
    · refine ⟨List.mem_append_left _ (List.mem_append_right _ ?_), ?_⟩
      · simp only [List.mem_flatMap, List.mem_map, List.mem_range]
        exact ⟨a, by omega, b, ⟨b - (a + 1), by omega, by omega⟩, c, hc, rfl⟩
      · rw [mis_sl (by omega) hb hc]
        simp only [slipB', Bool.and_eq_true, decide_eq_true_eq]
        exact ⟨by omega, h⟩
    · refine ⟨List.mem_append_right _ ?_, ?_⟩
      · simp only [List.mem_flatMap, List.mem_map, List.mem_range]
        exact ⟨a, ha, b, hb, c, hc, rfl⟩
      · rw [mis_sd ha hb hc]
        simp only [slideB, decide_eq_true_eq]
        exact h
def kindB (s : Str) : T → Bool
  | .tup (y :: _) => eqv y (.str s)
  | _ => false
theorem kind_tw : (allT k M).any (kindB (Str.ofString "twist")) = !stillB k M := by
  rw [Bool.eq_iff_iff, Bool.not_eq_true', ← Bool.not_eq_true, still_iff, List.any_eq_true]
  constructor
  · rintro ⟨x, hx, hk⟩ h
    rcases allT_mem.mp hx with ⟨a, ha, rfl, h1⟩ | ⟨a, b, c, hab, hb, hc, rfl, h1⟩ | ⟨a, b, c, ha, hb, hc, rfl, h1⟩
    · exact h1 (h a ha)
    · exact absurd ((show eqv sSlip sTwist = true from hk).symm.trans (eqv_flip.trans (eqv_off ne12))) (by decide)
    · exact absurd ((show eqv sSlide sTwist = true from hk).symm.trans (eqv_flip.trans (eqv_off ne13))) (by decide)
  · intro h
    simp only [twP, Classical.not_forall] at h
    obtain ⟨a, ha, h⟩ := h
    exact ⟨twT a, allT_mem.mpr (.inl ⟨a, ha, rfl, h⟩), eqv_self⟩
theorem kind_sl : (allT k M).any (kindB (Str.ofString "slip")) = !clearB k M := by
  rw [Bool.eq_iff_iff, Bool.not_eq_true', ← Bool.not_eq_true, clear_iff, List.any_eq_true]
  constructor
  · rintro ⟨x, hx, hk⟩ h
    rcases allT_mem.mp hx with ⟨a, ha, rfl, h1⟩ | ⟨a, b, c, hab, hb, hc, rfl, h1⟩ | ⟨a, b, c, ha, hb, hc, rfl, h1⟩
    · exact absurd ((show eqv sTwist sSlip = true from hk).symm.trans (eqv_off ne12)) (by decide)
    · exact h a b c hab hb hc h1
    · exact absurd ((show eqv sSlide sSlip = true from hk).symm.trans (eqv_flip.trans (eqv_off ne23))) (by decide)
  · intro h
    simp only [slP, Classical.not_forall, Decidable.not_not] at h
    obtain ⟨a, b, c, hab, hb, hc, h⟩ := h
    exact ⟨slT a b c, allT_mem.mpr (.inr (.inl ⟨a, b, c, hab, hb, hc, rfl, h⟩)), eqv_self⟩
theorem kind_sd : (allT k M).any (kindB (Str.ofString "slide")) = !levelB k M := by
  rw [Bool.eq_iff_iff, Bool.not_eq_true', ← Bool.not_eq_true, level_iff, List.any_eq_true]
  constructor
  · rintro ⟨x, hx, hk⟩ h
    rcases allT_mem.mp hx with ⟨a, ha, rfl, h1⟩ | ⟨a, b, c, hab, hb, hc, rfl, h1⟩ | ⟨a, b, c, ha, hb, hc, rfl, h1⟩
    · exact absurd ((show eqv sTwist sSlide = true from hk).symm.trans (eqv_off ne13)) (by decide)
    · exact absurd ((show eqv sSlip sSlide = true from hk).symm.trans (eqv_off ne23)) (by decide)
    · exact h1 (h a b c ha hb hc)
  · intro h
    simp only [sdP, Classical.not_forall] at h
    obtain ⟨a, b, c, ha, hb, hc, h⟩ := h
    exact ⟨sdT a b c, allT_mem.mpr (.inr (.inr ⟨a, b, c, ha, hb, hc, rfl, h⟩)), eqv_self⟩
theorem all_nil : allT k M = [] ↔ twP k M ∧ slP k M ∧ sdP k M := by
  rw [List.eq_nil_iff_forall_not_mem]
  constructor
  · intro h
    refine ⟨fun a ha => ?_, fun a b c hab hb hc e => ?_, fun a b c ha hb hc => ?_⟩
    · apply Decidable.byContradiction
      intro e
      exact h _ (allT_mem.mpr (.inl ⟨a, ha, rfl, e⟩))
    · exact h _ (allT_mem.mpr (.inr (.inl ⟨a, b, c, hab, hb, hc, rfl, e⟩)))
    · apply Decidable.byContradiction
      intro e
      exact h _ (allT_mem.mpr (.inr (.inr ⟨a, b, c, ha, hb, hc, rfl, e⟩)))
  · rintro ⟨h1, h2, h3⟩ x hx
    rcases allT_mem.mp hx with ⟨a, ha, rfl, e⟩ | ⟨a, b, c, hab, hb, hc, rfl, e⟩ | ⟨a, b, c, ha, hb, hc, rfl, e⟩
    · exact e (h1 a ha)
    · exact h2 a b c hab hb hc e
    · exact e (h3 a b c ha hb hc)
theorem none_nil : noneB (misT k M) = decide ((allT k M).length = 0) := by
  rw [misT_head]
  cases e : allT k M with
  | nil => rfl
  | cons x xs =>
    have hx : x ∈ allT k M := by rw [e]; exact List.mem_cons_self
    rw [List.head?_cons, Option.getD_some]
    rcases allT_mem.mp hx with ⟨a, ha, rfl, _⟩ | ⟨a, b, c, hab, hb, hc, rfl, _⟩ | ⟨a, b, c, ha, hb, hc, rfl, _⟩ <;> rfl
theorem none_fits : noneB (misT k M) = fitsB k M := by
  rw [none_nil, Bool.eq_iff_iff, fits_iff, ← all_nil, decide_eq_true_eq, List.length_eq_zero_iff]
end
end SH
end

section
set_option autoImplicit false
set_option linter.all false
set_option maxRecDepth 100000
set_option maxHeartbeats 4000000
/-! Strandhues: more rules for the laws. -/
namespace SH
open PySem
mutual
theorem eqv_refl : ∀ {j : Nat} {x : T}, okD j x = true → eqv x x = true
  | _, .non, _ => by simp only [eqv]
  | _, .bl b, _ => by simp only [eqv]; exact beq_self_eq_true b
  | _, .int i, _ => by simp only [eqv]; exact beq_self_eq_true i
  | _, .str s, _ => eqv_self
  | 0, .tup _, h => by simp [okD] at h
  | j + 1, .tup xs, h => by
    simp only [okD] at h
    simp only [eqv]; exact eqvs_refl h
  | 0, .lst _, h => by simp [okD] at h
  | j + 1, .lst xs, h => by
    simp only [okD] at h
    simp only [eqv]; exact eqvs_refl h
  | _, .scr _, h => by simp [okD] at h
  | _, .ref _, h => by simp [okD] at h
  | _, .fn _, h => by simp [okD] at h
theorem eqvs_refl : ∀ {j : Nat} {xs : List T}, okDs j xs = true → eqvs xs xs = true
  | _, [], _ => by simp only [eqvs]
  | j, x :: xs, h => by
    simp only [okDs, Bool.and_eq_true] at h
    simp only [eqvs, Bool.and_eq_true]
    exact ⟨eqv_refl h.1, eqvs_refl h.2⟩
end
theorem now_ok {j : Nat} {x : T} {h : Hs} (hx : okD j x = true) : now h x = x := by
  cases x <;> first | rfl | (simp [okD] at hx)
section
variable {call : Calls} {σ : Env} {h h1 h2 : Hs}
/-- equal data -/
theorem ev_neD {a b : E} {x y : T} (hx : okD 60 x = true) (hy : okD 60 y = true) (ha : evE call a σ h = .ok x h1) (hb : evE call b σ h1 = .ok y h2) : evE call (.cmp .ne a b) σ h = .ok (.bl (!eqv x y)) h2 := by
  rw [evE, ha, R.bind_ok, hb, R.bind_ok]
  simp only [cmpT, now_ok hx, now_ok hy, hx, hy, Bool.and_self, if_true]; rfl
theorem ev_eqD {a b : E} {x y : T} (hx : okD 60 x = true) (hy : okD 60 y = true) (ha : evE call a σ h = .ok x h1) (hb : evE call b σ h1 = .ok y h2) : evE call (.cmp .eq a b) σ h = .ok (.bl (eqv x y)) h2 := by
  rw [evE, ha, R.bind_ok, hb, R.bind_ok]
  simp only [cmpT, now_ok hx, now_ok hy, hx, hy, Bool.and_self, if_true]; rfl
theorem ev_neSame {a b : E} {x : T} (hx : okD 60 x = true) (ha : evE call a σ h = .ok x h1) (hb : evE call b σ h1 = .ok x h2) : evE call (.cmp .ne a b) σ h = .ok (.bl false) h2 := by
  rw [ev_neD hx hx ha hb, eqv_refl hx]; rfl
theorem ev_ite {c a b : E} {k : Bool} {t : T} (hc : evE call c σ h = .ok (.bl k) h1) (ht : k = true → evE call a σ h1 = .ok t h2) (hf : k = false → evE call b σ h1 = .ok t h2) : evE call (.ite c a b) σ h = .ok t h2 := by
  rw [evE, hc, asB_ok]
  cases k with
  | true => rw [if_pos rfl]; exact ht rfl
  | false => rw [if_neg (by decide)]; exact hf rfl
theorem ev_gt0 {e : E} {n : Nat} (he : evE call e σ h = .ok (natT n) h) : evE call (.cmp .gt e (.con (T.int 0))) σ h = .ok (.bl (decide (0 < n))) h := by
  rw [evE, he, R.bind_ok, ev_con, R.bind_ok]
  have : decide ((0 : Int) < ((n : Nat) : Int)) = decide (0 < n) := by
    by_cases z : 0 < n
    · have : (0 : Int) < ((n : Nat) : Int) := by omega
      simp [z, this]
    · have : ¬ (0 : Int) < ((n : Nat) : Int) := by omega
      simp [z, this]
  simp only [cmpT, natT, this]; rfl
theorem ev_orF {a b : E} (ha : evE call a σ h = .ok (.bl false) h) (hb : evE call b σ h = .ok (.bl false) h) : evE call (.orE a b) σ h = .ok (.bl false) h := ev_or ha fun _ => hb
theorem ev_notT {a : E} (ha : evE call a σ h = .ok (.bl true) h) : evE call (.notE a) σ h = .ok (.bl false) h := ev_not ha
theorem ev_idxN {a i : E} {xs : List T} {x : T} {k : Nat} (ha : evE call a σ h = .ok (.lst xs) h) (hi : evE call i σ h = .ok (natT k) h) (hx : xs[k]? = some x) : evE call (.idx a i) σ h = .ok x h := by
  have e : idxT h (.lst xs) (natT k) = some x := atI_nat hx
  rw [evE, ha, R.bind_ok, hi, R.bind_ok, e]; rfl
theorem ev_idxT {a i : E} {xs : List T} {x : T} {k : Nat} (ha : evE call a σ h = .ok (.tup xs) h) (hi : evE call i σ h = .ok (natT k) h) (hx : xs[k]? = some x) : evE call (.idx a i) σ h = .ok x h := by
  have e : idxT h (.tup xs) (natT k) = some x := atI_nat hx
  rw [evE, ha, R.bind_ok, hi, R.bind_ok, e]; rfl
theorem ev_tupleL {a : E} {xs : List T} (ha : evE call a σ h = .ok (.lst xs) h1) : evE call (.blt .tupleOf [a]) σ h = .ok (.tup xs) h1 := by
  rw [evE, evEs, ha, R.bind_ok, evEs, R.bind_ok, R.bind_ok]; rfl
theorem compR_at {f : T → Hs → R (Option T)} {P : Nat → Hs → Prop} {Q : T → Prop} : ∀ {xs : List T} {i : Nat} {h : Hs}, P i h → (∀ (j : Nat) (x : T), xs[j]? = some x → ∀ h, P (i + j) h → ∃ y h', f x h = .ok (some y) h' ∧ P (i + j + 1) h' ∧ Q y) →
    ∃ ys h', ys.length = xs.length ∧ (∀ y ∈ ys, Q y) ∧ P (i + xs.length) h' ∧ compR f xs h = .ok ys h'
  | [], i, h, hp, _ => ⟨[], h, rfl, fun _ z => (by cases z), hp, rfl⟩
  | x :: xs, i, h, hp, hf => by
    obtain ⟨y, h1, e1, p1, q1⟩ := hf 0 x rfl h hp
    obtain ⟨ys, h2, l2, q2, p2, e2⟩ := compR_at (xs := xs) (i := i + 1) p1 fun j z hz h p => by
      have := hf (j + 1) z hz h (by rw [show i + (j + 1) = i + 1 + j by omega]; exact p)
      rw [show i + (j + 1) + 1 = i + 1 + j + 1 by omega] at this
      exact this
    refine ⟨y :: ys, h2, by simp [l2], fun z hz => ?_, by rw [show i + (x :: xs).length = i + 1 + xs.length by simp; omega]; exact p2, by simp only [compR, e1, R.bind_ok, e2]⟩
    rcases List.mem_cons.mp hz with rfl | hz
    · exact q1
    · exact q2 z hz
/-- a comprehension whose turns change the heap -/
theorem ev_comp_at {elt : E} {g : G} {it : I} {own : List Nat} {xs : List T} {P : Nat → Hs → Prop} {Q : T → Prop} (hi : evI call it σ h = .ok xs h1) (hp : P 0 h1) (hf : ∀ (j : Nat) (x : T), xs[j]? = some x → ∃ σ', asgG g x (wipeT σ own) = some σ' ∧ ∀ h, P j h → ∃ y h', evE call elt σ' h = .ok y h' ∧ P (j + 1) h' ∧ Q y) :
    ∃ ys h', evE call (.comp elt g it none own) σ h = .ok (.lst ys) h' ∧ ys.length = xs.length ∧ (∀ y ∈ ys, Q y) ∧ P xs.length h' := by
  obtain ⟨ys, h', hl, hq, hp', e⟩ := compR_at (f := fun x h => (R.of (asgG g x (wipeT σ own)) h).bind fun σ' h => asB (evC call none σ' h) fun k h => if k then (evE call elt σ' h).bind fun y h => .ok (some y) h else .ok none h) (P := P) (Q := Q) (i := 0) (h := h1) (xs := xs) hp fun j x hx h hj => by
    obtain ⟨σ', e1, e2⟩ := hf j x hx
    rw [Nat.zero_add] at hj ⊢
    obtain ⟨y, h', e3, p3, q3⟩ := e2 h hj
    exact ⟨y, h', by simp only [e1, R.of_some, R.bind_ok, evC, asB_ok, if_true, e3], p3, q3⟩
  rw [Nat.zero_add] at hp'
  refine ⟨ys, h', ?_, hl, hq, hp'⟩
  simp only [evE, hi, R.bind_ok]
  exact congrArg (fun r => (noEx r).bind fun ys h => R.ok (T.lst ys) h) e
end
end SH
end

section
set_option autoImplicit false
set_option linter.all false
set_option maxRecDepth 100000
set_option maxHeartbeats 4000000
/-! Strandhues: sorted lists; tidied rings. -/
namespace SH
open PySem
def b_is_sign (c_is_in : Nat) : List S := [.ret (.andE (.call c_is_in [.var 0, .neg (.con (T.int 1)), .con (T.int 1)] [] [0, 1, 2]) (.cmp .ne (.var 0) (.con (T.int 0))))]
def b_over : List S := [.ret (.bin .mul (.con (T.int 2)) (.var 0))]
def b_under : List S := [.ret (.bin .add (.bin .mul (.con (T.int 2)) (.var 0)) (.con (T.int 1)))]
def b_is_under : List S := [.ret (.cmp .eq (.bin .mod (.var 0) (.con (T.int 2))) (.con (T.int 1)))]
def b_tidied_ring : List S := [.ite (.cmp .eq (.blt .len [.var 0]) (.con (T.int 0))) [.ret (.tup [])] [],
    .asg (.name 1) (.idxOf (.var 0) (.blt .minL [.var 0])),
    .ret (.blt .tupleOf [.bin .add (.slc (.var 0) (some (.var 1)) none) (.slc (.var 0) none (some (.var 1)))])]
def b_law_tidy : List S := [.ite (.cmp .eq (.blt .len [.var 0]) (.con (T.int 0))) [.ret (.tup [])] [],
    .asg (.name 1) (.idxOf (.blt .listOf [.var 0]) (.blt .minL [.var 0])),
    .ret (.blt .tupleOf [.bin .add (.slc (.blt .listOf [.var 0]) (some (.var 1)) none) (.slc (.blt .listOf [.var 0]) none (some (.var 1)))])]

/-! ### sorted lists -/
theorem insM_perm {x : Int} : ∀ {l : List Int}, (insI x l).Perm (x :: l)
  | [] => by simp [insI]
  | y :: r => by
    simp only [insI]
    split
    · exact List.Perm.refl _
    · exact (List.Perm.cons y insM_perm).trans (List.Perm.swap x y r)
theorem sortM_perm : ∀ {l : List Int}, (sortI l).Perm l
  | [] => by simp [sortI]
  | x :: r => by
    simp only [sortI]
    exact insM_perm.trans (List.Perm.cons x sortM_perm)
theorem insI_comm {x y : Int} : ∀ {l : List Int}, insI x (insI y l) = insI y (insI x l)
  | [] => by
    simp only [insI]
    by_cases h1 : x ≤ y <;> by_cases h2 : y ≤ x
    · have : x = y := by omega
      subst this; rfl
    · simp [h1, h2]
    · simp [h1, h2]
    · omega
  | z :: r => by
    have ih := insI_comm (x := x) (y := y) (l := r)
    simp only [insI]
    by_cases h1 : x ≤ z <;> by_cases h2 : y ≤ z <;> by_cases h3 : x ≤ y <;> by_cases h4 : y ≤ x <;> simp only [h1, h2, h3, h4, if_true, if_false, insI] <;> first | omega | rfl | exact congrArg (z :: ·) ih | skip
    all_goals (have : x = y := by omega) <;> subst this <;> rfl
theorem sortI_of {l m : List Int} (h : l.Perm m) : sortI l = sortI m := by
  induction h with
  | nil => rfl
  | cons x _ ih => simp only [sortI, ih]
  | swap x y l => simp only [sortI]; exact insI_comm
  | trans _ _ a b => exact a.trans b
def castL (l : List Nat) : List Int := l.map fun x => ((x : Nat) : Int)
theorem sortI_range : ∀ (n a : Nat), sortI (castL (List.range' a n)) = castL (List.range' a n)
  | 0, _ => rfl
  | n + 1, a => by
    have ih := sortI_range n (a + 1)
    rw [List.range'_succ]
    unfold castL at ih ⊢
    rw [List.map_cons, sortI, ih]
    cases n with
    | zero => rfl
    | succ n =>
      rw [List.range'_succ, List.map_cons, insI, if_pos (by omega)]
theorem sortI_nats {l : List Nat} {m : Nat} (h : l.Perm (List.range m)) : sortI (castL l) = castL (List.range m) := by
  have e := sortI_of (show (castL l).Perm (castL (List.range m)) from h.map _)
  rw [e, List.range_eq_range', sortI_range]
/-- sorted, the list is range(m) -/
def srtB (m : Nat) (l : List Nat) : Bool := eqv (.lst ((sortI (castL l)).map T.int)) (.lst ((List.range m).map natT))
theorem eqvs_ints : ∀ {a b : List Int}, eqvs (a.map T.int) (b.map T.int) = true → a = b
  | [], [], _ => rfl
  | x :: a, y :: b, h => by
    simp only [List.map_cons, eqvs, Bool.and_eq_true, eqv, beq_iff_eq] at h
    rw [h.1, eqvs_ints h.2]
  | [], _ :: _, h => by simp [eqvs] at h
  | _ :: _, [], h => by simp [eqvs] at h
theorem natT_cast {l : List Nat} : l.map natT = (castL l).map T.int := by
  unfold castL
  rw [List.map_map]; rfl
theorem srt_iff {m : Nat} {l : List Nat} : srtB m l = true ↔ l.Perm (List.range m) := by
  constructor
  · intro h
    unfold srtB at h
    simp only [eqv] at h
    rw [natT_cast] at h
    have e := eqvs_ints h
    have p : (castL l).Perm (castL (List.range m)) := e ▸ (sortM_perm (l := castL l)).symm
    have hm : ∀ q : List Nat, (castL q).map Int.toNat = q := fun q => by
      unfold castL
      rw [List.map_map]
      simp [Function.comp_def]
    have := p.map Int.toNat
    rwa [hm, hm] at this
  · intro h
    unfold srtB
    rw [sortI_nats h, natT_cast]
    exact eqv_refl (j := 5) (by simp only [okD]; exact okDs_all fun x hx => by obtain ⟨i, _, rfl⟩ := List.mem_map.mp hx; simp only [okD])
/-! ### the least item, the first place -/
def minN : Nat → List Nat → Nat
  | m, [] => m
  | m, x :: r => minN (if x < m then x else m) r
theorem minI_cast : ∀ {r : List Nat} {m : Nat}, minI (m : Nat) (castL r) = ((minN m r : Nat) : Int)
  | [], m => rfl
  | x :: r, m => by
    have e : castL (x :: r) = ((x : Nat) : Int) :: castL r := rfl
    rw [e]
    simp only [minI, minN]
    by_cases h : x < m
    · have : ((x : Nat) : Int) < ((m : Nat) : Int) := by omega
      rw [if_pos h, if_pos this, minI_cast]
    · have : ¬ ((x : Nat) : Int) < ((m : Nat) : Int) := by omega
      rw [if_neg h, if_neg this, minI_cast]
theorem minN_mem : ∀ {r : List Nat} {m : Nat}, minN m r ∈ m :: r
  | [], m => by simp [minN]
  | x :: r, m => by
    simp only [minN]
    have := minN_mem (r := r) (m := if x < m then x else m)
    rcases List.mem_cons.mp this with e | e
    · by_cases h : x < m
      · rw [if_pos h] at e ⊢; rw [e]; simp
      · rw [if_neg h] at e ⊢; rw [e]; simp
    · exact List.mem_cons_of_mem _ (List.mem_cons_of_mem _ e)
theorem minN_le : ∀ {r : List Nat} {m : Nat}, ∀ x ∈ m :: r, minN m r ≤ x
  | [], m, x, hx => by simp at hx; simp [minN, hx]
  | y :: r, m, x, hx => by
    simp only [minN]
    have h0 := minN_le (r := r) (m := if y < m then y else m) (if y < m then y else m) List.mem_cons_self
    rcases List.mem_cons.mp hx with rfl | hx
    · by_cases h : y < x
      · rw [if_pos h] at h0 ⊢; omega
      · rw [if_neg h] at h0 ⊢; omega
    · rcases List.mem_cons.mp hx with rfl | hx
      · by_cases h : x < m
        · rw [if_pos h] at h0 ⊢; omega
        · rw [if_neg h] at h0 ⊢; omega
      · exact minN_le (r := r) x (List.mem_cons_of_mem _ hx)
theorem minN_eq {r : List Nat} {m : Nat} (h : ∀ x ∈ r, m ≤ x) : minN m r = m := by
  have h1 := minN_le (r := r) (m := m) m List.mem_cons_self
  rcases List.mem_cons.mp (minN_mem (r := r) (m := m)) with e | e
  · exact e
  · have := h _ e; omega
def idxN (m : Nat) : List Nat → Option Nat
  | [] => none
  | y :: r => if y = m then some 0 else match idxN m r with
    | some k => some (k + 1)
    | none => none
theorem eqv_nat {x y : Nat} : eqv (natT x) (natT y) = decide (x = y) := by
  simp only [natT, eqv]; exact nat_beq
theorem find_cast {m : Nat} : ∀ {l : List Nat}, findT (natT m) (l.map natT) = idxN m l
  | [] => rfl
  | y :: r => by
    simp only [List.map_cons, findT, idxN, eqv_nat, find_cast (l := r), decide_eq_true_eq] <;> rfl
theorem idxN_some {m : Nat} : ∀ {l : List Nat}, m ∈ l → ∃ k, idxN m l = some k ∧ k < l.length ∧ l[k]? = some m
  | [], h => by cases h
  | y :: r, h => by
    simp only [idxN]
    by_cases e : y = m
    · rw [if_pos e]; exact ⟨0, rfl, by simp, by simp [e]⟩
    · rw [if_neg e]
      rcases List.mem_cons.mp h with rfl | h
      · exact absurd rfl e
      · obtain ⟨k, e1, e2, e3⟩ := idxN_some h
        rw [e1]; exact ⟨k + 1, rfl, by simp; omega, by simpa using e3⟩
theorem idxN_at {l : List Nat} (hn : l.Nodup) : ∀ {k m : Nat}, l[k]? = some m → idxN m l = some k := by
  induction l with
  | nil => intro k m h; simp at h
  | cons y r ih =>
    intro k m h
    have hc := List.nodup_cons.mp hn
    simp only [idxN]
    cases k with
    | zero =>
      simp only [List.getElem?_cons_zero, Option.some.injEq] at h
      rw [if_pos h]
    | succ k =>
      have h' : r[k]? = some m := by simpa using h
      have : y ≠ m := fun e => hc.1 (e ▸ List.mem_of_getElem? h')
      rw [if_neg this, ih hc.2 h']
/-! ### tidied rings -/
def tidyN : List Nat → List Nat
  | [] => []
  | n :: ns => match idxN (minN n ns) (n :: ns) with
    | some p => (n :: ns).drop p ++ (n :: ns).take p
    | none => []
theorem tidy_cons {n : Nat} {ns : List Nat} : ∃ p, idxN (minN n ns) (n :: ns) = some p ∧ p < (n :: ns).length ∧ (n :: ns)[p]? = some (minN n ns) ∧ tidyN (n :: ns) = (n :: ns).drop p ++ (n :: ns).take p := by
  obtain ⟨p, e1, e2, e3⟩ := idxN_some (minN_mem (r := ns) (m := n))
  exact ⟨p, e1, e2, e3, by simp only [tidyN, e1]⟩
theorem tidy_perm : ∀ {l : List Nat}, (tidyN l).Perm l
  | [] => List.Perm.refl _
  | n :: ns => by
    obtain ⟨p, _, _, _, e⟩ := tidy_cons (n := n) (ns := ns)
    rw [e]
    exact List.perm_append_comm.trans (by rw [List.take_append_drop])
theorem tidy_idem : ∀ {l : List Nat}, tidyN (tidyN l) = tidyN l
  | [] => rfl
  | n :: ns => by
    obtain ⟨p, e1, e2, e3, e⟩ := tidy_cons (n := n) (ns := ns)
    have hp := tidy_perm (l := n :: ns)
    have hd : (n :: ns).drop p = minN n ns :: (n :: ns).drop (p + 1) := by
      rw [List.drop_eq_getElem_cons e2]
      congr 1
      have := List.getElem?_eq_getElem e2
      rw [e3] at this
      exact (Option.some.inj this).symm
    rw [hd, List.cons_append] at e
    have hle : ∀ x ∈ (n :: ns).drop (p + 1) ++ (n :: ns).take p, minN n ns ≤ x := fun x hx => by
      refine minN_le x (hp.subset ?_)
      rw [e]
      exact List.mem_cons_of_mem _ hx
    rw [e]
    obtain ⟨q, f1, f2, f3, f⟩ := tidy_cons (n := minN n ns) (ns := (n :: ns).drop (p + 1) ++ (n :: ns).take p)
    rw [minN_eq hle] at f1
    simp only [idxN, if_true, Option.some.injEq] at f1
    subst f1
    rw [f]
    simp
theorem cut_from {xs : List T} {p : Nat} (h : p ≤ xs.length) : cutT xs (some (p : Nat)) none = xs.drop p := by
  unfold cutT
  rw [HT.sIx_nat, HT.sIx_none, Nat.min_eq_left h]
  exact List.take_of_length_le (by simp)
theorem cut_to {xs : List T} {p : Nat} (h : p ≤ xs.length) : cutT xs none (some (p : Nat)) = xs.take p := by
  unfold cutT
  rw [HT.sIx_nat, HT.sIx_none, Nat.min_eq_left h]
  simp
section
variable {Φ : Prog} {w n f : Nat} {h : Hs}
section
variable {call : Calls} {σ : Env}
theorem ev_idxOf {a i : E} {x : T} {xs : List T} {y : T} {k : Nat} (hx : idxB x = true) (ha : evE call a σ h = .ok x h) (hs : seqOf h x = some xs) (hi : evE call i σ h = .ok y h) (o1 : okDs 59 xs = true) (o2 : okD 60 y = true) (hf : findT y xs = some k) : evE call (.idxOf a i) σ h = .ok (natT k) h := by
  rw [evE, ha, R.bind_ok, if_pos hx, hi, R.bind_ok]
  simp only [idxOfT, hs, o1, o2, Bool.and_self, if_true, hf]; rfl
theorem ev_minN {a : E} {x : T} {n : Nat} {ns : List Nat} (ha : evE call a σ h = .ok x h) (hs : seqOf h x = some ((n :: ns).map natT)) : evE call (.blt .minL [a]) σ h = .ok (natT (minN n ns)) h := by
  rw [evE, evEs, ha, R.bind_ok, evEs, R.bind_ok, R.bind_ok]
  have e1 : intsOf ((n :: ns).map natT) = some (((n : Nat) : Int) :: castL ns) := ints_map (g := fun x : Nat => ((x : Nat) : Int)) (xs := n :: ns)
  simp only [bltT, hs, e1, minI_cast]; rfl
theorem ev_listOf {a : E} {x : T} {xs : List T} (ha : evE call a σ h = .ok x h) (hs : seqOf h x = some xs) : evE call (.blt .listOf [a]) σ h = .ok (.lst xs) h := by
  rw [evE, evEs, ha, R.bind_ok, evEs, R.bind_ok, R.bind_ok]
  simp only [bltT, hs]; rfl
theorem ev_slcT {a : E} {lo hi : Option E} {xs : List T} {l u : Option Int} (ha : evE call a σ h = .ok (.tup xs) h) (hl : evO call lo σ h = .ok l h) (hu : evO call hi σ h = .ok u h) : evE call (.slc a lo hi) σ h = .ok (.tup (cutT xs l u)) h := by
  rw [evE, ha, R.bind_ok, hl, R.bind_ok, hu, R.bind_ok]; rfl
theorem ev_slcL {a : E} {lo hi : Option E} {xs : List T} {l u : Option Int} (ha : evE call a σ h = .ok (.lst xs) h) (hl : evO call lo σ h = .ok l h) (hu : evO call hi σ h = .ok u h) : evE call (.slc a lo hi) σ h = .ok (.lst (cutT xs l u)) h := by
  rw [evE, ha, R.bind_ok, hl, R.bind_ok, hu, R.bind_ok]; rfl
theorem evO_none : evO call none σ h = .ok none h := by rw [evO]
theorem evO_nat {e : E} {k : Nat} (he : evE call e σ h = .ok (natT k) h) : evO call (some e) σ h = .ok (some ((k : Nat) : Int)) h := by
  rw [evO, he, R.bind_ok]; rfl
theorem ev_tupOf {a : E} {x : T} {xs : List T} {h1 : Hs} (ha : evE call a σ h = .ok x h1) (hs : seqOf h1 x = some xs) : evE call (.blt .tupleOf [a]) σ h = .ok (.tup xs) h1 := by
  rw [evE, evEs, ha, R.bind_ok, evEs, R.bind_ok, R.bind_ok]
  simp only [bltT, hs]; rfl
end
theorem tidied_ok {l : List Nat} (I : Is Φ f 1 2 b_tidied_ring) (hl : l.length ≤ 1000) : callN Φ w (n + 1) f [tupN l] h = .ok (tupN (tidyN l)) h := by
  have hL : LINE = 16777216 := rfl
  refine I.rt0 rfl okD_tupN ?_
  have v0 : evE (callN Φ w n) (.var 0) (st0 [tupN l] 2) h = .ok (.tup (l.map natT)) h := ev_var rfl
  have c0 : evE (callN Φ w n) (.cmp .eq (.blt .len [.var 0]) (.con (T.int 0))) (st0 [tupN l] 2) h = .ok (.bl (decide ((l.map natT).length = 0))) h := ev_eqN (y := 0) (ev_len v0) ev_con
  cases l with
  | nil => exact ss_if_ret c0 (ev_tup ev_nil)
  | cons x xs =>
    obtain ⟨p, e1, e2, e3, e⟩ := tidy_cons (n := x) (ns := xs)
    rw [e]
    refine (ss_if_f c0).trans ?_
    have i0 := ev_idxOf (k := p) (x := tupN (x :: xs)) rfl v0 rfl (ev_minN (ns := xs) v0 rfl) okDs_nats (by simp only [natT, okD]) (by rw [find_cast]; exact e1)
    refine (ss_set i0 (by simp [st0])).trans (ss_ret ?_)
    have w0 : evE (callN Φ w n) (.var 0) ((st0 [tupN (x :: xs)] 2).set 1 (some (natT p))) h = .ok (.tup ((x :: xs).map natT)) h := ev_var rfl
    have w1 : evE (callN Φ w n) (.var 1) ((st0 [tupN (x :: xs)] 2).set 1 (some (natT p))) h = .ok (natT p) h := ev_var rfl
    have hlen : ((x :: xs).map natT).length = (x :: xs).length := by simp
    have := ev_tupOf (ev_addT (ev_slcT w0 (evO_nat w1) evO_none) (ev_slcT w0 evO_none (evO_nat w1)) (by
      have := cutM_len (xs := (x :: xs).map natT) (lo := some ((p : Nat) : Int)) (hi := none)
      have := cutM_len (xs := (x :: xs).map natT) (lo := none) (hi := some ((p : Nat) : Int))
      omega)) (h1 := h) rfl
    rw [cut_from (by rw [hlen]; omega), cut_to (by rw [hlen]; omega), ← List.map_drop, ← List.map_take, ← List.map_append] at this
    exact this
theorem law_tidy_ok {l : List Nat} {x : T} (I : Is Φ f 1 2 b_law_tidy) (hx : x = tupN l ∨ x = lstN l) (hl : l.length ≤ 1000) : callN Φ w (n + 1) f [x] h = .ok (tupN (tidyN l)) h := by
  have hL : LINE = 16777216 := rfl
  refine I.rt0 rfl okD_tupN ?_
  have hs : seqOf h x = some (l.map natT) := by rcases hx with rfl | rfl <;> rfl
  have v0 : evE (callN Φ w n) (.var 0) (st0 [x] 2) h = .ok x h := ev_var rfl
  have c0 : evE (callN Φ w n) (.cmp .eq (.blt .len [.var 0]) (.con (T.int 0))) (st0 [x] 2) h = .ok (.bl (decide (l.length = 0))) h := by
    refine ev_eqN (y := 0) ?_ ev_con
    rcases hx with rfl | rfl
    · exact (ev_len (xs := l.map natT) v0).trans (by rw [List.length_map])
    · exact (ev_lenL (xs := l.map natT) v0).trans (by rw [List.length_map])
  cases l with
  | nil => exact ss_if_ret c0 (ev_tup ev_nil)
  | cons y xs =>
    obtain ⟨p, e1, e2, e3, e⟩ := tidy_cons (n := y) (ns := xs)
    rw [e]
    refine (ss_if_f c0).trans ?_
    have i0 := ev_idxOf (k := p) (x := .lst ((y :: xs).map natT)) rfl (ev_listOf v0 hs) rfl (ev_minN (ns := xs) v0 hs) okDs_nats (by simp only [natT, okD]) (by rw [find_cast]; exact e1)
    refine (ss_set i0 (by simp [st0])).trans (ss_ret ?_)
    have w0 : evE (callN Φ w n) (.blt .listOf [.var 0]) ((st0 [x] 2).set 1 (some (natT p))) h = .ok (.lst ((y :: xs).map natT)) h := ev_listOf (ev_var rfl) hs
    have w1 : evE (callN Φ w n) (.var 1) ((st0 [x] 2).set 1 (some (natT p))) h = .ok (natT p) h := ev_var rfl
    have hlen : ((y :: xs).map natT).length = (y :: xs).length := by simp
    have := ev_tupOf (ev_addL (ev_slcL w0 (evO_nat w1) evO_none) (ev_slcL w0 evO_none (evO_nat w1)) (by
      have := cutM_len (xs := (y :: xs).map natT) (lo := some ((p : Nat) : Int)) (hi := none)
      have := cutM_len (xs := (y :: xs).map natT) (lo := none) (hi := some ((p : Nat) : Int))
      omega)) (h1 := h) rfl
    rw [cut_from (by rw [hlen]; omega), cut_to (by rw [hlen]; omega), ← List.map_drop, ← List.map_take, ← List.map_append] at this
    exact this
def sgnB : T → Bool
  | .int v => decide (-1 ≤ v) && decide (v ≤ 1) && decide (v ≠ 0)
  | _ => false
theorem is_sign_ok {p : Nat} {x : T} (I : Is Φ f 1 1 (b_is_sign p)) (Ip : Is Φ p 3 3 b_is_in) (hx : okD 60 x = true) : callN Φ w (n + 2) f [x] h = .ok (.bl (sgnB x)) h := by
  refine I.rt0 rfl rfl (ss_ret ?_)
  have e1 := is_in_ok (w := w) (n := n) (h := h) (lo := -1) (hi := 1) Ip (plain_of hx)
  have c1 : evE (callN Φ w (n + 1)) (.call p [.var 0, .neg (.con (T.int 1)), .con (T.int 1)] [] [0, 1, 2]) (st0 [x] 1) h = .ok (.bl (inZ x (-1) 1)) h := by
    refine ev_call (zs := [x, .int (-1), .int 1]) (ev_cons (ev_var rfl) (ev_cons ?_ (ev_cons ev_con ev_nil))) ev_nil rfl e1
    rw [evE, ev_con, R.bind_ok]
  have hh : sgnB x = (inZ x (-1) 1 && match x with | .int v => decide (v ≠ 0) | _ => false) := by cases x <;> rfl
  rw [hh]
  refine ev_and c1 fun hz => ?_
  cases x <;> simp [inZ] at hz
  rename_i v
  have := ev_neD (call := callN Φ w (n + 1)) (σ := st0 [.int v] 1) (h := h) (h1 := h) (h2 := h) (a := .var 0) (b := .con (T.int 0)) (x := .int v) (y := .int 0) rfl rfl (ev_var rfl) ev_con
  rw [this]
  simp only [eqv]
  by_cases z : v = 0
  · subst z; rfl
  · simp [z]
end
end SH
end

section
set_option autoImplicit false
set_option linter.all false
set_option maxRecDepth 100000
set_option maxHeartbeats 4000000
/-! Strandhues: what is a drawing. -/
namespace SH
open PySem
def b_is_drawing (c_is_in : Nat) (c_is_tuple : Nat) (c_is_sign : Nat) (c_tidied_ring : Nat) : List S := [.ite (.orE (.notE (.call c_is_tuple [.var 0, .con (T.int 3), .con (T.int 3)] [] [0, 1, 2])) (.notE (.call c_is_tuple [.idx (.var 0) (.con (T.int 0)), .con (T.int 0), .glo 0 (T.int 8)] [] [0, 1, 2]))) [.ret (.con (T.bl false))] [],
    .ite (.orE (.notE (.blt .allL [.comp (.call c_is_sign [.var 1] [] [0]) (.name 1) (.val (.idx (.var 0) (.con (T.int 0)))) none [1]])) (.notE (.call c_is_tuple [.idx (.var 0) (.con (T.int 1)), .con (T.int 0), .glo 1 (T.int 4)] [] [0, 1, 2]))) [.ret (.con (T.bl false))] [],
    .asg (.name 2) (.bin .mul (.con (T.int 2)) (.blt .len [.idx (.var 0) (.con (T.int 0))])),
    .ite (.orE (.notE (.call c_is_tuple [.idx (.var 0) (.con (T.int 2)), .con (T.int 0), .glo 2 (T.int 4)] [] [0, 1, 2])) (.notE (.blt .allL [.comp (.call c_is_tuple [.var 1, .con (T.int 0), .var 2] [] [0, 1, 2]) (.name 1) (.val (.bin .add (.idx (.var 0) (.con (T.int 1))) (.idx (.var 0) (.con (T.int 2))))) none [1]]))) [.ret (.con (T.bl false))] [],
    .asg (.name 3) (.new (.lst [])),
    .forS (.name 1) (.val (.bin .add (.idx (.var 0) (.con (T.int 1))) (.idx (.var 0) (.con (T.int 2))))) [.ext (.var 3) (.var 1)],
    .freeze 3,
    .asg (.name 4) (.andE (.blt .allL [.comp (.call c_is_in [.var 5, .con (T.int 0), .bin .sub (.var 2) (.con (T.int 1))] [] [0, 1, 2]) (.name 5) (.val (.var 3)) none [5]]) (.cmp .eq (.blt .sorted [.var 3]) (.rng false [.var 2]))),
    .ret (.andE (.var 4) (.blt .allL [.comp (.cmp .eq (.call c_tidied_ring [.var 1] [] [0]) (.var 1)) (.name 1) (.val (.idx (.var 0) (.con (T.int 1)))) none [1]]))]
def b_demand_drawing (c_demand : Nat) (c_is_drawing : Nat) : List S := [.drop (.call c_demand [.call c_is_drawing [.var 0] [] [0], .var 1] [] [0, 1])]
def b_law_is (c_law_tidy : Nat) : List S := [.ite (.orE (.notE (.isi (.var 0) .tuple)) (.orE (.cmp .ne (.blt .len [.var 0]) (.con (T.int 3))) (.notE (.blt .allL [.comp (.isi (.var 1) .tuple) (.name 1) (.val (.var 0)) none [1]])))) [.ret (.con (T.bl false))] [],
    .asg (.tup [.name 2, .name 3, .name 4]) (.var 0),
    .ite (.orE (.cmp .gt (.blt .len [.var 2]) (.con (T.int 8))) (.orE (.cmp .gt (.blt .len [.var 3]) (.con (T.int 4))) (.orE (.cmp .gt (.blt .len [.var 4]) (.con (T.int 4))) (.notE (.blt .allL [.comp (.isi (.var 1) .tuple) (.name 1) (.val (.bin .add (.var 3) (.var 4))) none [1]]))))) [.ret (.con (T.bl false))] [],
    .asg (.name 5) (.lst []),
    .forS (.name 1) (.val (.bin .add (.var 3) (.var 4))) [.asg (.name 5) (.bin .add (.var 5) (.blt .listOf [.var 1]))],
    .ite (.notE (.blt .allL [.comp (.andE (.isi (.var 6) .int) (.notE (.isi (.var 6) .bool))) (.name 6) (.val (.bin .add (.blt .listOf [.var 2]) (.var 5))) none [6]])) [.ret (.con (T.bl false))] [],
    .ite (.orE (.blt .anyL [.comp (.cmp .notin (.var 7) (.tup [.con (T.int 1), .neg (.con (T.int 1))])) (.name 7) (.val (.var 2)) none [7]]) (.cmp .ne (.blt .sorted [.var 5]) (.rng false [.bin .mul (.con (T.int 2)) (.blt .len [.var 2])]))) [.ret (.con (T.bl false))] [],
    .ret (.blt .allL [.comp (.cmp .eq (.var 1) (.call c_law_tidy [.var 1] [] [0])) (.name 1) (.val (.var 3)) none [1]])]

/-- a row of passes, or what is none: [] , None -/
def ringT : List Nat ⊕ Bool → T
  | .inl l => tupN l
  | .inr true => .lst []
  | .inr false => .non
def lefts : List (List Nat ⊕ Bool) → Option (List (List Nat))
  | [] => some []
  | .inl l :: r => match lefts r with
    | some ls => some (l :: ls)
    | none => none
  | .inr _ :: _ => none
theorem lefts_some : ∀ {R : List (List Nat ⊕ Bool)} {ls : List (List Nat)}, lefts R = some ls → R = ls.map Sum.inl
  | [], ls, h => by simp [lefts] at h; subst h; rfl
  | .inl l :: r, ls, h => by
    simp only [lefts] at h
    cases e : lefts r with
    | none => rw [e] at h; cases h
    | some q =>
      rw [e] at h
      cases h
      rw [lefts_some e]; rfl
  | .inr _ :: _, _, h => by simp [lefts] at h
theorem lefts_none : ∀ {R : List (List Nat ⊕ Bool)}, lefts R = none → ∃ b, Sum.inr b ∈ R
  | [], h => by simp [lefts] at h
  | .inl l :: r, h => by
    simp only [lefts] at h
    cases e : lefts r with
    | none =>
      obtain ⟨b, hb⟩ := lefts_none e
      exact ⟨b, List.mem_cons_of_mem _ hb⟩
    | some q => rw [e] at h; cases h
  | .inr b :: _, _ => ⟨b, List.mem_cons_self⟩
theorem ringT_inl {ls : List (List Nat)} : (ls.map Sum.inl).map ringT = ls.map tupN := by rw [List.map_map]; rfl
theorem okD_ring {k : Nat} {x : List Nat ⊕ Bool} : okD (k + 1) (ringT x) = true := by
  rcases x with l | b
  · exact okD_tupN
  · cases b <;> simp only [ringT, okD, okDs]
def drB (S : List T) (rings opens : List (List Nat)) : Bool := decide (S.length ≤ 8) && S.all sgnB && decide (rings.length ≤ 4) && decide (opens.length ≤ 4) && srtB (2 * S.length) (rings ++ opens).flatten && rings.all fun l => decide (tidyN l = l)
def drV (S : List T) (R : List (List Nat ⊕ Bool)) (O : List (List Nat)) : Bool := match lefts R with
  | some rings => drB S rings O
  | none => false
def valT (S : List T) (R : List (List Nat ⊕ Bool)) (O : List (List Nat)) : T := .tup [.tup S, .tup (R.map ringT), .tup (O.map tupN)]
theorem eqv_tupN {a b : List Nat} : eqv (tupN a) (tupN b) = decide (a = b) := by
  have h : ∀ a b : List Nat, eqvs (a.map natT) (b.map natT) = decide (a = b) := fun a => by
    induction a with
    | nil => intro b; cases b <;> simp [eqvs]
    | cons x a ih =>
      intro b
      cases b with
      | nil => simp [eqvs]
      | cons y b =>
        simp only [List.map_cons, eqvs, eqv_nat, ih]
        by_cases h1 : x = y <;> by_cases h2 : a = b <;> simp [h1, h2]
  unfold tupN
  simp only [eqv]
  exact h a b
section
variable {Φ : Prog} {w n f : Nat} {h : Hs}
section
variable {call : Calls} {σ : Env}
theorem ev_glo {k : Nat} {t : T} : evE call (.glo k t) σ h = .ok t h := by simp only [evE]
theorem ev_sorted {a : E} {x : T} {l : List Nat} (ha : evE call a σ h = .ok (.lst (l.map natT)) h) : evE call (.blt .sorted [a]) σ h = .ok (.lst ((sortI (castL l)).map T.int)) h := by
  rw [evE, evEs, ha, R.bind_ok, evEs, R.bind_ok, R.bind_ok]
  have e1 : intsOf (l.map natT) = some (castL l) := ints_map (g := fun x : Nat => ((x : Nat) : Int))
  simp only [bltT, seqOf, e1]; rfl
theorem ev_rngL {a : E} {k : Nat} (hk : k ≤ 1000000) (ha : evE call a σ h = .ok (natT k) h) : evE call (.rng false [a]) σ h = .ok (.lst ((List.range k).map natT)) h := by
  rw [evE, evEs, ha, R.bind_ok, evEs, R.bind_ok, R.bind_ok, natT, rng_nat hk]; rfl
theorem ev_mulN {a b : E} {x y : Nat} (hx : x < 1000000) (ha : evE call a σ h = .ok (natT x) h) (hb : evE call b σ h = .ok (natT y) h) : evE call (.bin .mul a b) σ h = .ok (natT (x * y)) h := by
  rw [evE, ha, R.bind_ok, hb, R.bind_ok]
  have hm : mulOk ((x : Nat) : Int) ((y : Nat) : Int) = true := by
    have z1 : decide (-two64 < ((x : Nat) : Int)) = true := decide_eq_true (by unfold two64; omega)
    have z2 : decide (((x : Nat) : Int) < two64) = true := decide_eq_true (by unfold two64; omega)
    simp [mulOk, z1, z2]
  simp only [natT, binT, hm, if_true, Int.natCast_mul]; rfl
theorem walk_lstT {e : E} {xs : List T} {h1 : Hs} (he : evE call e σ h = .ok (.lst xs) h1) : evI call (.val e) σ h = .ok xs h1 := by
  rw [evI, he, R.bind_ok]; rfl
theorem walk_tupT {e : E} {xs : List T} {h1 : Hs} (he : evE call e σ h = .ok (.tup xs) h1) : evI call (.val e) σ h = .ok xs h1 := by
  rw [evI, he, R.bind_ok]; rfl
theorem compR_emb {α : Type} {f : T → Hs → R (Option T)} {emb k : α → T} : ∀ {l : List α}, (∀ x ∈ l, f (emb x) h = .ok (some (k x)) h) → compR f (l.map emb) h = .ok (l.map k) h
  | [], _ => rfl
  | x :: l, hf => by
    have ih := compR_emb (l := l) fun y hy => hf y (List.mem_cons_of_mem _ hy)
    simp only [List.map_cons, compR, hf x List.mem_cons_self, R.bind_ok, ih]
/-- a comprehension over things of any kind -/
theorem ev_compM {α : Type} {emb k : α → T} {l : List α} {e : E} {g : G} {it : I} {own : List Nat} {h0 : Hs} (hi : evI call it σ h0 = .ok (l.map emb) h) (hf : ∀ x ∈ l, ∃ σ', asgG g (emb x) (wipeT σ own) = some σ' ∧ evE call e σ' h = .ok (k x) h) : evE call (.comp e g it none own) σ h0 = .ok (.lst (l.map k)) h := by
  have key := compR_emb (f := fun x h => (R.of (asgG g x (wipeT σ own)) h).bind fun σ' h => asB (evC call none σ' h) fun k h => if k then (evE call e σ' h).bind fun y h => .ok (some y) h else .ok none h) (emb := emb) (k := k) (h := h) (l := l) fun x hx => by
    obtain ⟨σ', e1, e2⟩ := hf x hx
    simp only [e1, R.of_some, R.bind_ok, evC, asB_ok, if_true, e2]
  simp only [evE, hi, R.bind_ok]
  exact congrArg (fun r => (noEx r).bind fun ys h => R.ok (T.lst ys) h) key
/-- all of a comprehension over things of any kind -/
theorem ev_allM {α : Type} {emb : α → T} {p : α → Bool} {l : List α} {e : E} {g : G} {it : I} {own : List Nat} (hi : evI call it σ h = .ok (l.map emb) h) (hf : ∀ x ∈ l, ∃ σ', asgG g (emb x) (wipeT σ own) = some σ' ∧ evE call e σ' h = .ok (.bl (p x)) h) : evE call (.blt .allL [.comp e g it none own]) σ h = .ok (.bl (l.all p)) h :=
  ev_all (ys := l) (p := p) (ev_compM hi hf)
theorem ev_anyM {α : Type} {emb : α → T} {p : α → Bool} {l : List α} {e : E} {g : G} {it : I} {own : List Nat} (hi : evI call it σ h = .ok (l.map emb) h) (hf : ∀ x ∈ l, ∃ σ', asgG g (emb x) (wipeT σ own) = some σ' ∧ evE call e σ' h = .ok (.bl (p x)) h) : evE call (.blt .anyL [.comp e g it none own]) σ h = .ok (.bl (l.any p)) h :=
  ev_any (ys := l) (p := p) (ev_compM hi hf)
end
theorem flat_loop {call : Calls} {w : Nat} {v x2 : T} {rows : List (List Nat)} (hr : rows.length ≤ 1000) (hl : rows.flatten.length ≤ 1000000) {s1 : Option T} :
    ∃ s1', loopO (turn call w (.name 1) [.ext (.var 3) (.var 1)]) (rows.map tupN) [some v, s1, some x2, some (.ref h.length), none, none] (h ++ [.lst []]) = .nx [some v, s1', some x2, some (.ref h.length), none, none] (h ++ [.lst (rows.flatten.map natT)]) := by
  obtain ⟨σ', h', e, rfl, s1', rfl⟩ := loop_at (f := turn call w (.name 1) [.ext (.var 3) (.var 1)]) (xs := rows.map tupN) (i := 0) (h := h ++ [.lst []]) (σ := [some v, s1, some x2, some (.ref h.length), none, none])
    (P := fun j σ h' => h' = h ++ [.lst ((rows.take j).flatten.map natT)] ∧ ∃ s1, σ = [some v, s1, some x2, some (.ref h.length), none, none]) ⟨by simp, s1, rfl⟩ fun j x hx σ h1 hP => by
      obtain ⟨rfl, s1, rfl⟩ := hP
      rw [List.getElem?_map] at hx
      cases hj : rows[j]? with
      | none => rw [hj] at hx; cases hx
      | some r =>
        rw [hj] at hx
        cases hx
        rw [Nat.zero_add]
        have hL : LINE = 16777216 := rfl
        have et : (rows.take (j + 1)).flatten = (rows.take j).flatten ++ r := by
          rw [List.take_succ, hj]; simp
        have hle : ((rows.take j).flatten.map natT).length + (r.map natT).length ≤ LINE := by
          have h1 : (rows.take (j + 1)).flatten.length ≤ rows.flatten.length := by
            have := congrArg (fun l => l.flatten.length) (List.take_append_drop (j + 1) rows)
            simp only [List.flatten_append, List.length_append] at this
            omega
          rw [et, List.length_append] at h1
          simp only [List.length_map]
          omega
        have ex : extT (h ++ [.lst ((rows.take j).flatten.map natT)]) (.ref h.length) (tupN r) = some (h ++ [.lst ((rows.take (j + 1)).flatten.map natT)]) := by
          simp only [extT, tupN, at_end]
          rw [if_pos ⟨hle, okDs_nats⟩, set_end, et, List.map_append]
        have ecb : cellB (h ++ [.lst ((rows.take j).flatten.map natT)]) (.ref h.length) = true := by simp only [cellB, at_end]
        refine ⟨[some v, some (tupN r), some x2, some (.ref h.length), none, none], h ++ [.lst ((rows.take (j + 1)).flatten.map natT)], ?_, rfl, _, rfl⟩
        show evSs call w [.ext (.var 3) (.var 1)] [some v, some (tupN r), some x2, some (.ref h.length), none, none] _ = _
        simp only [evSs, evS, evE, List.getElem?_cons_succ, List.getElem?_cons_zero, R.out_ok, ecb, if_true, ex, O.seq_nx]
  refine ⟨s1', ?_⟩
  rw [e, Nat.zero_add, List.length_map, List.take_length]
theorem srt_len {m : Nat} {l : List Nat} (hs : srtB m l = true) : l.length = m := by
  have := (srt_iff.mp hs).length_eq
  simpa using this
theorem srt_lt {m : Nat} {l : List Nat} (hs : srtB m l = true) : ∀ x ∈ l, x < m := fun x hx => List.mem_range.mp ((srt_iff.mp hs).subset hx)
theorem okD_ints {k : Nat} {l : List Int} : okD (k + 1) (.lst (l.map T.int)) = true := by
  simp only [okD]
  exact okDs_all fun x hx => by
    obtain ⟨i, _, rfl⟩ := List.mem_map.mp hx
    simp only [okD]
theorem is_drawing_ok {p q r t : Nat} {S : List T} {R : List (List Nat ⊕ Bool)} {O : List (List Nat)} (I : Is Φ f 1 6 (b_is_drawing p q r t)) (Ip : Is Φ p 3 3 b_is_in) (Iq : Is Φ q 3 3 b_is_tuple) (Ir : Is Φ r 1 1 (b_is_sign p)) (It : Is Φ t 1 2 b_tidied_ring)
    (hS : ∀ x ∈ S, okD 50 x = true) (hl1 : S.length ≤ 1000) (hl2 : R.length ≤ 100) (hl3 : O.length ≤ 100) (hR : ∀ l, Sum.inl l ∈ R → l.length ≤ 1000) (hO : ∀ l ∈ O, l.length ≤ 1000) : callN Φ w (n + 3) f [valT S R O] h = .ok (.bl (drV S R O)) h := by
  have hL : LINE = 16777216 := rfl
  have fin : ∀ (b : Bool) (h' : Hs), h'.take h.length = h → evSs (callN Φ w (n + 2)) w (b_is_drawing p q r t) (st0 [valT S R O] 6) h = .rt (.bl b) h' → b = drV S R O → callN Φ w (n + 3) f [valT S R O] h = .ok (.bl (drV S R O)) h := fun b h' ht e eb => by
    subst eb
    exact (I.rt rfl rfl e).trans (by rw [ht])
  have E1 : ∀ (x : T) (a b : Nat) (h : Hs), plain x = true → callN Φ w (n + 2) q [x, .int (a : Nat), .int (b : Nat)] h = .ok (.bl (SH.tupB x a b)) h := fun x a b h hx => is_tuple_ok (w := w) (n := n + 1) (h := h) Iq hx
  have E2 : ∀ (x : T) (h : Hs), okD 60 x = true → callN Φ w (n + 2) r [x] h = .ok (.bl (sgnB x)) h := fun x h hx => is_sign_ok (w := w) (n := n) (h := h) Ir Ip hx
  have E3 : ∀ (x : Nat) (hi : Int) (h : Hs), callN Φ w (n + 2) p [natT x, .int 0, .int hi] h = .ok (.bl (inZ (natT x) 0 hi)) h := fun x hi h => is_in_ok (w := w) (n := n + 1) (h := h) Ip rfl
  have E4 : ∀ (l : List Nat) (h : Hs), l.length ≤ 1000 → callN Φ w (n + 2) t [tupN l] h = .ok (tupN (tidyN l)) h := fun l h hl => tidied_ok (w := w) (n := n + 1) (h := h) It hl
  generalize callN Φ w (n + 2) = call at E1 E2 E3 E4 fin
  have v0 : ∀ σ : Env, σ[0]? = some (some (valT S R O)) → ∀ h, evE call (.idx (.var 0) (.con (T.int 0))) σ h = .ok (.tup S) h := fun σ hσ h => ev_idxT (k := 0) (xs := [.tup S, .tup (R.map ringT), .tup (O.map tupN)]) (ev_var hσ) ev_con rfl
  have v1 : ∀ σ : Env, σ[0]? = some (some (valT S R O)) → ∀ h, evE call (.idx (.var 0) (.con (T.int 1))) σ h = .ok (.tup (R.map ringT)) h := fun σ hσ h => ev_idxT (k := 1) (xs := [.tup S, .tup (R.map ringT), .tup (O.map tupN)]) (ev_var hσ) ev_con rfl
  have v2 : ∀ σ : Env, σ[0]? = some (some (valT S R O)) → ∀ h, evE call (.idx (.var 0) (.con (T.int 2))) σ h = .ok (.tup (O.map tupN)) h := fun σ hσ h => ev_idxT (k := 2) (xs := [.tup S, .tup (R.map ringT), .tup (O.map tupN)]) (ev_var hσ) ev_con rfl
  have v12 : ∀ σ : Env, σ[0]? = some (some (valT S R O)) → ∀ h, evE call (.bin .add (.idx (.var 0) (.con (T.int 1))) (.idx (.var 0) (.con (T.int 2)))) σ h = .ok (.tup ((R ++ O.map Sum.inl).map ringT)) h := fun σ hσ h => by
    have := ev_addT (v1 σ hσ h) (v2 σ hσ h) (by simp; omega)
    rw [this, List.map_append, ringT_inl]
  have s0 : (st0 [valT S R O] 6)[0]? = some (some (valT S R O)) := rfl
  -- the first tests
  have c1 : evE call (.orE (.notE (.call q [.var 0, .con (T.int 3), .con (T.int 3)] [] [0, 1, 2])) (.notE (.call q [.idx (.var 0) (.con (T.int 0)), .con (T.int 0), .glo 0 (T.int 8)] [] [0, 1, 2]))) (st0 [valT S R O] 6) h = .ok (.bl (!decide (S.length ≤ 8))) h := by
    have a1 := ev_call (call := call) (f := q) (es := [.var 0, .con (T.int 3), .con (T.int 3)]) (kws := []) (perm := [0, 1, 2]) (σ := st0 [valT S R O] 6) (zs := [valT S R O, .int (3 : Nat), .int (3 : Nat)]) (ev_cons (ev_var s0) (ev_cons ev_con (ev_cons ev_con ev_nil))) ev_nil rfl (E1 (valT S R O) 3 3 h rfl)
    have a2 := ev_call (call := call) (f := q) (es := [.idx (.var 0) (.con (T.int 0)), .con (T.int 0), .glo 0 (T.int 8)]) (kws := []) (perm := [0, 1, 2]) (σ := st0 [valT S R O] 6) (zs := [.tup S, .int (0 : Nat), .int (8 : Nat)]) (ev_cons (v0 _ s0 h) (ev_cons ev_con (ev_cons ev_glo ev_nil))) ev_nil rfl (E1 (.tup S) 0 8 h rfl)
    have := ev_or (ev_not a1) fun _ => ev_not a2
    simpa [SH.tupB, valT] using this
  cases b1 : decide (S.length ≤ 8) with
  | false =>
    rw [b1] at c1
    refine fin false h List.take_length (ss_if_ret c1 ev_con) ?_
    unfold drV drB
    cases lefts R <;> simp [b1]
  | true =>
    rw [b1] at c1
    have c2 : evE call (.orE (.notE (.blt .allL [.comp (.call r [.var 1] [] [0]) (.name 1) (.val (.idx (.var 0) (.con (T.int 0)))) none [1]])) (.notE (.call q [.idx (.var 0) (.con (T.int 1)), .con (T.int 0), .glo 1 (T.int 4)] [] [0, 1, 2]))) (st0 [valT S R O] 6) h = .ok (.bl (!S.all sgnB || !decide (R.length ≤ 4))) h := by
      have a1 := ev_allM (call := call) (σ := st0 [valT S R O] 6) (h := h) (emb := id) (p := sgnB) (l := S) (e := .call r [.var 1] [] [0]) (g := .name 1) (own := [1]) ((walk_tupT (v0 _ s0 h)).trans (by rw [List.map_id])) fun x hx => ⟨(st0 [valT S R O] 6).set 1 (some x), rfl, ev_call (zs := [x]) (ev_cons (ev_var rfl) ev_nil) ev_nil rfl (E2 x h (okD_add (hS x hx) 10))⟩
      have a2 := ev_call (call := call) (f := q) (es := [.idx (.var 0) (.con (T.int 1)), .con (T.int 0), .glo 1 (T.int 4)]) (kws := []) (perm := [0, 1, 2]) (σ := st0 [valT S R O] 6) (zs := [.tup (R.map ringT), .int (0 : Nat), .int (4 : Nat)]) (ev_cons (v1 _ s0 h) (ev_cons ev_con (ev_cons ev_glo ev_nil))) ev_nil rfl (E1 (.tup (R.map ringT)) 0 4 h rfl)
      have := ev_or (ev_not a1) fun _ => ev_not a2
      simpa [SH.tupB] using this
    cases b2 : (!S.all sgnB || !decide (R.length ≤ 4)) with
    | true =>
      rw [b2] at c2
      refine fin false h List.take_length ((ss_if_f c1).trans (ss_if_ret c2 ev_con)) ?_
      unfold drV
      cases e : lefts R with
      | none => rfl
      | some ls =>
        have := lefts_some e
        show false = drB S ls O
        unfold drB
        have hls : ls.length = R.length := by rw [this]; simp
        rw [Bool.or_eq_true, Bool.not_eq_true', Bool.not_eq_true'] at b2
        rcases b2 with b2 | b2
        · rw [b2]; simp
        · rw [hls, b2]; simp
    | false =>
      rw [b2] at c2
      rw [Bool.or_eq_false_iff, Bool.not_eq_false', Bool.not_eq_false'] at b2
      have c3 : evE call (.bin .mul (.con (T.int 2)) (.blt .len [.idx (.var 0) (.con (T.int 0))])) (st0 [valT S R O] 6) h = .ok (natT (2 * S.length)) h := ev_mulN (x := 2) (by omega) ev_con (ev_len (v0 _ s0 h))
      have s1 : ((st0 [valT S R O] 6).set 2 (some (natT (2 * S.length))))[0]? = some (some (valT S R O)) := rfl
      have c4 : evE call (.orE (.notE (.call q [.idx (.var 0) (.con (T.int 2)), .con (T.int 0), .glo 2 (T.int 4)] [] [0, 1, 2])) (.notE (.blt .allL [.comp (.call q [.var 1, .con (T.int 0), .var 2] [] [0, 1, 2]) (.name 1) (.val (.bin .add (.idx (.var 0) (.con (T.int 1))) (.idx (.var 0) (.con (T.int 2))))) none [1]]))) ((st0 [valT S R O] 6).set 2 (some (natT (2 * S.length)))) h = .ok (.bl (!decide (O.length ≤ 4) || !(R ++ O.map Sum.inl).all fun x => SH.tupB (ringT x) 0 (2 * S.length))) h := by
        have a1 := ev_call (call := call) (f := q) (es := [.idx (.var 0) (.con (T.int 2)), .con (T.int 0), .glo 2 (T.int 4)]) (kws := []) (perm := [0, 1, 2]) (σ := (st0 [valT S R O] 6).set 2 (some (natT (2 * S.length)))) (zs := [.tup (O.map tupN), .int (0 : Nat), .int (4 : Nat)]) (ev_cons (v2 _ s1 h) (ev_cons ev_con (ev_cons ev_glo ev_nil))) ev_nil rfl (E1 (.tup (O.map tupN)) 0 4 h rfl)
        have a2 := ev_allM (call := call) (σ := (st0 [valT S R O] 6).set 2 (some (natT (2 * S.length)))) (h := h) (emb := ringT) (p := fun x => SH.tupB (ringT x) 0 (2 * S.length)) (l := R ++ O.map Sum.inl) (e := .call q [.var 1, .con (T.int 0), .var 2] [] [0, 1, 2]) (g := .name 1) (own := [1]) (walk_tupT (v12 _ s1 h)) fun x hx => ⟨((st0 [valT S R O] 6).set 2 (some (natT (2 * S.length)))).set 1 (some (ringT x)), rfl, ev_call (zs := [ringT x, .int (0 : Nat), natT (2 * S.length)]) (ev_cons (ev_var rfl) (ev_cons ev_con (ev_cons (ev_var rfl) ev_nil))) ev_nil rfl (E1 (ringT x) 0 (2 * S.length) h (plain_of (okD_ring (k := 5))))⟩
        have := ev_or (ev_not a1) fun _ => ev_not a2
        simpa [SH.tupB] using this
      have go : evSs call w (b_is_drawing p q r t) (st0 [valT S R O] 6) h = evSs call w ((b_is_drawing p q r t).drop 3) ((st0 [valT S R O] 6).set 2 (some (natT (2 * S.length)))) h :=
        (ss_if_f c1).trans ((ss_if_f c2).trans (ss_set c3 (by simp [st0])))
      cases b3 : (!decide (O.length ≤ 4) || !(R ++ O.map Sum.inl).all fun x => SH.tupB (ringT x) 0 (2 * S.length)) with
      | true =>
        rw [b3] at c4
        refine fin false h List.take_length (go.trans (ss_if_ret c4 ev_con)) ?_
        unfold drV
        cases e : lefts R with
        | none => rfl
        | some ls =>
          have hR' := lefts_some e
          show false = drB S ls O
          cases hd : drB S ls O with
          | false => rfl
          | true =>
            exfalso
            unfold drB at hd
            simp only [Bool.and_eq_true, decide_eq_true_eq] at hd
            rw [Bool.or_eq_true, Bool.not_eq_true', Bool.not_eq_true', decide_eq_false_iff_not] at b3
            rcases b3 with b3 | b3
            · exact b3 hd.1.1.2
            · have hlen := srt_len hd.1.2
              rw [List.all_eq_false] at b3
              obtain ⟨x, hx, hb⟩ := b3
              rw [hR', ← List.map_append] at hx
              obtain ⟨l, hl, rfl⟩ := List.mem_map.mp hx
              apply hb
              have : l.length ≤ (ls ++ O).flatten.length := (List.sublist_flatten_of_mem hl).length_le
              simp only [ringT, tupN, SH.tupB, List.length_map, Bool.and_eq_true, decide_eq_true_eq]
              omega
      | false =>
        rw [b3] at c4
        rw [Bool.or_eq_false_iff, Bool.not_eq_false', Bool.not_eq_false'] at b3
        cases e : lefts R with
        | none =>
          exfalso
          obtain ⟨b, hb⟩ := lefts_none e
          have := List.all_eq_true.mp b3.2 (Sum.inr b) (List.mem_append_left _ hb)
          cases b <;> simp [ringT, SH.tupB] at this
        | some ls =>
          have hR' := lefts_some e
          subst hR'
          have hrow : ∀ l ∈ ls ++ O, l.length ≤ 2 * S.length := fun l hl => by
            have := List.all_eq_true.mp b3.2 (Sum.inl l) (by rw [← List.map_append]; exact List.mem_map.mpr ⟨l, hl, rfl⟩)
            simpa [ringT, tupN, SH.tupB] using this
          have hS8 : S.length ≤ 8 := of_decide_eq_true b1
          have hlsl : (ls.map (Sum.inl (β := Bool))).length ≤ 100 := hl2
          rw [List.length_map] at hlsl
          have hfl : (ls ++ O).flatten.length ≤ 1000000 := by
            rw [List.length_flatten]
            have : ((ls ++ O).map List.length).sum ≤ (ls ++ O).length * 16 := by
              have key : ∀ q : List (List Nat), (∀ l ∈ q, l.length ≤ 16) → (q.map List.length).sum ≤ q.length * 16 := fun q => by
                induction q with
                | nil => intro _; simp
                | cons x q ih =>
                  intro hq
                  have h1 := hq x List.mem_cons_self
                  have h2 := ih fun y hy => hq y (List.mem_cons_of_mem _ hy)
                  simp only [List.map_cons, List.sum_cons, List.length_cons]
                  omega
              exact key _ fun l hl => by have := hrow l hl; omega
            rw [List.length_append] at this
            omega
          obtain ⟨s1', el⟩ := flat_loop (call := call) (w := w) (h := h) (v := valT S (ls.map Sum.inl) O) (x2 := natT (2 * S.length)) (rows := ls ++ O) (s1 := none) (by rw [List.length_append]; omega) hfl
          have hi : evI call (.val (.bin .add (.idx (.var 0) (.con (T.int 1))) (.idx (.var 0) (.con (T.int 2))))) [some (valT S (ls.map Sum.inl) O), none, some (natT (2 * S.length)), some (.ref h.length), none, none] (h ++ [.lst []]) = .ok ((ls ++ O).map tupN) (h ++ [.lst []]) := by
            rw [walk_tupT (v12 _ rfl _), ← List.map_append, ringT_inl]
          have fz : freezeT (h ++ [.lst ((ls ++ O).flatten.map natT)]) (.ref h.length) = some (lstN (ls ++ O).flatten, h ++ [.dead]) := by
            simp only [freezeT, at_end, set_end, lstN]
          have w2 : ∀ σ : Env, σ[2]? = some (some (natT (2 * S.length))) → evE call (.bin .sub (.var 2) (.con (T.int 1))) σ (h ++ [.dead]) = .ok (.int ((2 * S.length : Nat) - 1)) (h ++ [.dead]) := fun σ hσ => ev_sub1 (ev_var hσ)
          have c5 : evE call (.blt .allL [.comp (.call p [.var 5, .con (T.int 0), .bin .sub (.var 2) (.con (T.int 1))] [] [0, 1, 2]) (.name 5) (.val (.var 3)) none [5]]) [some (valT S (ls.map Sum.inl) O), s1', some (natT (2 * S.length)), some (lstN (ls ++ O).flatten), none, none] (h ++ [.dead]) = .ok (.bl ((ls ++ O).flatten.all fun x => inZ (natT x) 0 ((2 * S.length : Nat) - 1))) (h ++ [.dead]) :=
            ev_allM (emb := natT) (walk_lstT (ev_var rfl)) fun x hx => ⟨[some (valT S (ls.map Sum.inl) O), s1', some (natT (2 * S.length)), some (lstN (ls ++ O).flatten), none, some (natT x)], rfl, ev_call (zs := [natT x, .int 0, .int ((2 * S.length : Nat) - 1)]) (ev_cons (ev_var rfl) (ev_cons ev_con (ev_cons (w2 _ rfl) ev_nil))) ev_nil rfl (E3 x _ _)⟩
          have c6 : evE call (.cmp .eq (.blt .sorted [.var 3]) (.rng false [.var 2])) [some (valT S (ls.map Sum.inl) O), s1', some (natT (2 * S.length)), some (lstN (ls ++ O).flatten), none, none] (h ++ [.dead]) = .ok (.bl (srtB (2 * S.length) (ls ++ O).flatten)) (h ++ [.dead]) :=
            ev_eqD okD_ints okD_lstN (ev_sorted (x := .non) (ev_var rfl)) (ev_rngL (by omega) (ev_var rfl))
          have c7 := ev_and c5 fun _ => c6
          have c8 : ∀ b : Bool, evE call (.blt .allL [.comp (.cmp .eq (.call t [.var 1] [] [0]) (.var 1)) (.name 1) (.val (.idx (.var 0) (.con (T.int 1)))) none [1]]) [some (valT S (ls.map Sum.inl) O), s1', some (natT (2 * S.length)), some (lstN (ls ++ O).flatten), some (.bl b), none] (h ++ [.dead]) = .ok (.bl (ls.all fun l => decide (tidyN l = l))) (h ++ [.dead]) := fun b =>
            ev_allM (emb := tupN) ((walk_tupT (v1 _ rfl _)).trans (by rw [ringT_inl])) fun l hl => ⟨[some (valT S (ls.map Sum.inl) O), some (tupN l), some (natT (2 * S.length)), some (lstN (ls ++ O).flatten), some (.bl b), none], rfl, by
              rw [← eqv_tupN]
              have hll := hR l (List.mem_map.mpr ⟨l, hl, rfl⟩)
              exact ev_eqD okD_tupN okD_tupN (ev_call (zs := [tupN l]) (ev_cons (ev_var rfl) ev_nil) ev_nil rfl (E4 l _ hll)) (ev_var rfl)⟩
          have c9 := ev_and (call := call) (σ := [some (valT S (ls.map Sum.inl) O), s1', some (natT (2 * S.length)), some (lstN (ls ++ O).flatten), some (.bl ((ls ++ O).flatten.all (fun x => inZ (natT x) 0 ((2 * S.length : Nat) - 1)) && srtB (2 * S.length) (ls ++ O).flatten)), none]) (h := h ++ [.dead]) (a := .var 4) (ev_var rfl) fun _ => c8 _
          refine fin (((ls ++ O).flatten.all (fun x => inZ (natT x) 0 ((2 * S.length : Nat) - 1)) && srtB (2 * S.length) (ls ++ O).flatten) && ls.all fun l => decide (tidyN l = l)) (h ++ [.dead]) (by simp) ?_ ?_
          · refine go.trans ((ss_if_f c4).trans ?_)
            refine (ss_set (x := .ref h.length) (h' := h ++ [.lst []]) (ev_newl ev_nil) (by simp [st0])).trans ?_
            refine (ss_for hi el).trans ?_
            rw [evSs, evS]
            simp only [List.getElem?_cons_succ, List.getElem?_cons_zero, fz, SH.O.seq_nx]
            refine (ss_set c7 (by simp)).trans (ss_ret ?_)
            exact c9
          · unfold drV
            rw [e]
            show _ = drB S ls O
            unfold drB
            have h4 : decide (O.length ≤ 4) = true := b3.1
            have hR4 : decide (ls.length ≤ 4) = true := by have := b2.2; rwa [List.length_map] at this
            rw [b1, b2.1, hR4, h4]
            simp only [Bool.true_and]
            cases hsr : srtB (2 * S.length) (ls ++ O).flatten with
            | false => simp
            | true =>
              have : ((ls ++ O).flatten.all fun x => inZ (natT x) 0 ((2 * S.length : Nat) - 1)) = true := by
                rw [List.all_eq_true]
                intro x hx
                have := srt_lt hsr x hx
                simp only [inZ, natT, Bool.and_eq_true, decide_eq_true_eq]
                omega
              rw [this]; simp
end
end SH
end

section
set_option autoImplicit false
set_option linter.all false
set_option maxRecDepth 100000
set_option maxHeartbeats 4000000
/-! Strandhues: what is a drawing, by the law. -/
namespace SH
open PySem
/-- an int, a bool -/
def sgT (x : T) : Prop := (∃ v, x = .int v) ∨ ∃ b, x = .bl b
def isLeftB : List Nat ⊕ Bool → Bool
  | .inl _ => true
  | .inr _ => false
theorem lefts_all {R : List (List Nat ⊕ Bool)} : (lefts R).isSome = R.all isLeftB := by
  induction R with
  | nil => rfl
  | cons x R ih =>
    rcases x with l | b
    · simp only [lefts, List.all_cons, isLeftB, Bool.true_and, ← ih]
      cases lefts R <;> rfl
    · rfl
def isTupT : T → Bool
  | .tup _ => true
  | _ => false
def intB : T → Bool
  | .int _ => true
  | _ => false
section
variable {Φ : Prog} {w n f : Nat} {h : Hs}
section
variable {call : Calls} {σ : Env}
theorem ev_gtC {e : E} {x k : Nat} (he : evE call e σ h = .ok (natT x) h) : evE call (.cmp .gt e (.con (T.int (k : Nat)))) σ h = .ok (.bl (decide (k < x))) h := by
  rw [evE, he, R.bind_ok, ev_con, R.bind_ok]
  have : decide (((k : Nat) : Int) < ((x : Nat) : Int)) = decide (k < x) := by
    by_cases z : k < x
    · have : ((k : Nat) : Int) < ((x : Nat) : Int) := by omega
      simp [z, this]
    · have : ¬ ((k : Nat) : Int) < ((x : Nat) : Int) := by omega
      simp [z, this]
  simp only [cmpT, natT, this]; rfl
theorem ev_isTup {e : E} {x : T} (he : evE call e σ h = .ok x h) (hp : plain x = true) : evE call (.isi e .tuple) σ h = .ok (.bl (isTupT x)) h := by
  rw [evE, he, R.bind_ok]
  cases x <;> first | rfl | (simp [plain] at hp)
theorem ev_notin {e e2 : E} {x : T} {ys : List T} (hx : flatT x = true) (hy : ys.all flatT = true) (he : evE call e σ h = .ok x h) (he2 : evE call e2 σ h = .ok (.tup ys) h) : evE call (.cmp .notin e e2) σ h = .ok (.bl (!memT x ys)) h := by
  rw [evE, he, R.bind_ok, he2, R.bind_ok]
  simp only [cmpT, inT, hx, hy, Bool.and_self, if_true]; rfl
end
theorem law_is_ok {t : Nat} {S : List T} {R : List (List Nat ⊕ Bool)} {O : List (List Nat)} (I : Is Φ f 1 8 (b_law_is t)) (It : Is Φ t 1 2 b_law_tidy)
    (hS : ∀ x ∈ S, sgT x) (hl1 : S.length ≤ 1000) (hl2 : R.length ≤ 100) (hl3 : O.length ≤ 100) (hR : ∀ l, Sum.inl l ∈ R → l.length ≤ 1000) (hO : ∀ l ∈ O, l.length ≤ 1000) : callN Φ w (n + 2) f [valT S R O] h = .ok (.bl (drV S R O)) h := by
  have hL : LINE = 16777216 := rfl
  have fin : ∀ b : Bool, evSs (callN Φ w (n + 1)) w (b_law_is t) (st0 [valT S R O] 8) h = .rt (.bl b) h → b = drV S R O → callN Φ w (n + 2) f [valT S R O] h = .ok (.bl (drV S R O)) h := fun b e eb => by
    subst eb
    exact I.rt0 rfl rfl e
  have E4 : ∀ (l : List Nat), l.length ≤ 1000 → callN Φ w (n + 1) t [tupN l] h = .ok (tupN (tidyN l)) h := fun l hl => law_tidy_ok (w := w) (n := n) (h := h) It (.inl rfl) hl
  generalize callN Φ w (n + 1) = call at E4 fin
  have hplS : ∀ x ∈ S, plain x = true ∧ flatT x = true := fun x hx => by
    rcases hS x hx with ⟨v, rfl⟩ | ⟨b, rfl⟩ <;> exact ⟨rfl, rfl⟩
  have c1 : evE call (.orE (.notE (.isi (.var 0) .tuple)) (.orE (.cmp .ne (.blt .len [.var 0]) (.con (T.int 3))) (.notE (.blt .allL [.comp (.isi (.var 1) .tuple) (.name 1) (.val (.var 0)) none [1]])))) (st0 [valT S R O] 8) h = .ok (.bl false) h := by
    refine ev_orF (ev_notT (ev_isTup (x := valT S R O) (ev_var rfl) rfl)) (ev_orF (ev_lenC' (c := 3) (xs := [.tup S, .tup (R.map ringT), .tup (O.map tupN)]) (ev_var rfl)) (ev_notT ?_))
    have := ev_allM (call := call) (σ := st0 [valT S R O] 8) (h := h) (emb := T.tup) (p := fun _ => true) (l := [S, R.map ringT, O.map tupN]) (e := .isi (.var 1) .tuple) (g := .name 1) (it := .val (.var 0)) (own := [1]) (walk_tupT (ev_var rfl)) fun x hx => ⟨(st0 [valT S R O] 8).set 1 (some (.tup x)), rfl, ev_isTup (x := .tup x) (ev_var rfl) rfl⟩
    simpa using this
  have go1 : evSs call w (b_law_is t) (st0 [valT S R O] 8) h = evSs call w ((b_law_is t).drop 2) [some (valT S R O), none, some (.tup S), some (.tup (R.map ringT)), some (.tup (O.map tupN)), none, none, none] h :=
    (ss_if_f c1).trans (ss_asg (x := valT S R O) (h' := h) (ev_var rfl) rfl)
  have c34 : ∀ σ : Env, σ[3]? = some (some (.tup (R.map ringT))) → σ[4]? = some (some (.tup (O.map tupN))) → evE call (.bin .add (.var 3) (.var 4)) σ h = .ok (.tup ((R ++ O.map Sum.inl).map ringT)) h := fun σ h3 h4 => by
    have := ev_addT (call := call) (σ := σ) (h := h) (h1 := h) (h2 := h) (ev_var h3) (ev_var h4) (by simp; omega)
    rw [this, List.map_append, ringT_inl]
  have c2 : evE call (.orE (.cmp .gt (.blt .len [.var 2]) (.con (T.int 8))) (.orE (.cmp .gt (.blt .len [.var 3]) (.con (T.int 4))) (.orE (.cmp .gt (.blt .len [.var 4]) (.con (T.int 4))) (.notE (.blt .allL [.comp (.isi (.var 1) .tuple) (.name 1) (.val (.bin .add (.var 3) (.var 4))) none [1]]))))) [some (valT S R O), none, some (.tup S), some (.tup (R.map ringT)), some (.tup (O.map tupN)), none, none, none] h
      = .ok (.bl (decide (8 < S.length) || (decide (4 < R.length) || (decide (4 < O.length) || !(R ++ O.map Sum.inl).all isLeftB)))) h := by
    have a1 := ev_gtC (call := call) (σ := [some (valT S R O), none, some (.tup S), some (.tup (R.map ringT)), some (.tup (O.map tupN)), none, none, none]) (h := h) (k := 8) (ev_len (xs := S) (ev_var (i := 2) rfl))
    have a2 := ev_gtC (call := call) (σ := [some (valT S R O), none, some (.tup S), some (.tup (R.map ringT)), some (.tup (O.map tupN)), none, none, none]) (h := h) (k := 4) (ev_len (xs := R.map ringT) (ev_var (i := 3) rfl))
    have a3 := ev_gtC (call := call) (σ := [some (valT S R O), none, some (.tup S), some (.tup (R.map ringT)), some (.tup (O.map tupN)), none, none, none]) (h := h) (k := 4) (ev_len (xs := O.map tupN) (ev_var (i := 4) rfl))
    have a4 := ev_allM (call := call) (σ := [some (valT S R O), none, some (.tup S), some (.tup (R.map ringT)), some (.tup (O.map tupN)), none, none, none]) (h := h) (emb := ringT) (p := isLeftB) (l := R ++ O.map Sum.inl) (e := .isi (.var 1) .tuple) (g := .name 1) (own := [1]) (walk_tupT (c34 _ rfl rfl)) fun x hx => ⟨[some (valT S R O), some (ringT x), some (.tup S), some (.tup (R.map ringT)), some (.tup (O.map tupN)), none, none, none], rfl, (ev_isTup (x := ringT x) (ev_var rfl) (plain_of (okD_ring (k := 5)))).trans (by rcases x with l | b; rfl; cases b <;> rfl)⟩
    rw [List.length_map] at a2 a3
    exact ev_or a1 fun _ => ev_or a2 fun _ => ev_or a3 fun _ => ev_not a4
  cases b2 : (decide (8 < S.length) || (decide (4 < R.length) || (decide (4 < O.length) || !(R ++ O.map Sum.inl).all isLeftB))) with
  | true =>
    rw [b2] at c2
    refine fin false (go1.trans (ss_if_ret c2 ev_con)) ?_
    unfold drV
    cases e : lefts R with
    | none => rfl
    | some ls =>
      show false = drB S ls O
      have hR' := lefts_some e
      cases hd : drB S ls O with
      | false => rfl
      | true =>
        exfalso
        unfold drB at hd
        simp only [Bool.and_eq_true, decide_eq_true_eq] at hd
        have h1 := hd.1.1.1.1.1
        have h2 := hd.1.1.1.2
        have h3 := hd.1.1.2
        have hrl : R.length = ls.length := by rw [hR']; simp
        simp only [Bool.or_eq_true, decide_eq_true_eq, Bool.not_eq_true'] at b2
        rcases b2 with b2 | b2 | b2 | b2
        · omega
        · omega
        · omega
        · rw [hR', ← List.map_append, List.all_map] at b2
          have : (ls ++ O).all (isLeftB ∘ Sum.inl) = true := by rw [List.all_eq_true]; intro x _; rfl
          rw [this] at b2; cases b2
  | false =>
    rw [b2] at c2
    simp only [Bool.or_eq_false_iff, decide_eq_false_iff_not, Bool.not_eq_false', Nat.not_lt] at b2
    obtain ⟨h8, h4, h4', hall⟩ := b2
    rw [List.all_append, Bool.and_eq_true, ← lefts_all] at hall
    obtain ⟨ls, e⟩ := Option.isSome_iff_exists.mp hall.1
    have hR' := lefts_some e
    subst hR'
    rw [List.length_map] at h4
    have hrow : ∀ l ∈ ls ++ O, l.length ≤ 1000 := fun l hl => by
      rcases List.mem_append.mp hl with hl | hl
      · exact hR l (List.mem_map.mpr ⟨l, hl, rfl⟩)
      · exact hO l hl
    have hfl : (ls ++ O).flatten.length ≤ 1000000 := by
      rw [List.length_flatten]
      have key : ∀ q : List (List Nat), (∀ l ∈ q, l.length ≤ 1000) → (q.map List.length).sum ≤ q.length * 1000 := fun q => by
        induction q with
        | nil => intro _; simp
        | cons x q ih =>
          intro hq
          have h1 := hq x List.mem_cons_self
          have h2 := ih fun y hy => hq y (List.mem_cons_of_mem _ hy)
          simp only [List.map_cons, List.sum_cons, List.length_cons]
          omega
      have := key _ hrow
      rw [List.length_append] at this
      omega
    have hfm : ∀ q : List (List Nat), q.flatMap (fun l => l.map natT) = q.flatten.map natT := fun q => by
      induction q with
      | nil => rfl
      | cons x q ih => rw [List.flatMap_cons, List.flatten_cons, List.map_append, ih]
    obtain ⟨σ', el, s1', rfl⟩ := loop_acc (emb := tupN) (f := turn call w (.name 1) [.asg (.name 5) (.bin .add (.var 5) (.blt .listOf [.var 1]))]) (h := h) (B := 1000000) (g := fun l => l.map natT) (l := ls ++ O) (acc := [])
      (P := fun acc σ => ∃ s1, σ = [some (valT S (ls.map Sum.inl) O), s1, some (.tup S), some (.tup ((ls.map Sum.inl).map ringT)), some (.tup (O.map tupN)), some (.lst acc), none, none]) (σ := [some (valT S (ls.map Sum.inl) O), none, some (.tup S), some (.tup ((ls.map Sum.inl).map ringT)), some (.tup (O.map tupN)), some (.lst []), none, none]) ⟨none, rfl⟩ (by rw [List.nil_append, hfm, List.length_map]; exact hfl) fun l hl acc σ hP hb => by
        obtain ⟨s1, rfl⟩ := hP
        rw [List.length_append] at hb
        refine ⟨[some (valT S (ls.map Sum.inl) O), some (tupN l), some (.tup S), some (.tup ((ls.map Sum.inl).map ringT)), some (.tup (O.map tupN)), some (.lst (acc ++ l.map natT)), none, none], ?_, _, rfl⟩
        show evSs call w _ [some (valT S (ls.map Sum.inl) O), some (tupN l), some (.tup S), some (.tup ((ls.map Sum.inl).map ringT)), some (.tup (O.map tupN)), some (.lst acc), none, none] h = _
        exact (ss_set (ev_addL (ev_var rfl) (ev_listOf (xs := l.map natT) (ev_var rfl) rfl) (by omega)) (by simp)).trans (by rw [evSs]; rfl)
    rw [List.nil_append, hfm] at el
    have hi : evI call (.val (.bin .add (.var 3) (.var 4))) [some (valT S (ls.map Sum.inl) O), none, some (.tup S), some (.tup ((ls.map Sum.inl).map ringT)), some (.tup (O.map tupN)), some (.lst []), none, none] h = .ok ((ls ++ O).map tupN) h := by
      rw [walk_tupT (c34 _ rfl rfl), ← List.map_append, ringT_inl]
    have c3 : evE call (.notE (.blt .allL [.comp (.andE (.isi (.var 6) .int) (.notE (.isi (.var 6) .bool))) (.name 6) (.val (.bin .add (.blt .listOf [.var 2]) (.var 5))) none [6]])) [some (valT S (ls.map Sum.inl) O), s1', some (.tup S), some (.tup ((ls.map Sum.inl).map ringT)), some (.tup (O.map tupN)), some (.lst ((ls ++ O).flatten.map natT)), none, none] h = .ok (.bl (!(S ++ (ls ++ O).flatten.map natT).all intB)) h := by
      refine ev_not (ev_allM (emb := id) (p := intB) (l := S ++ (ls ++ O).flatten.map natT) ((walk_lstT (ev_addL (ev_listOf (xs := S) (ev_var rfl) rfl) (ev_var rfl) (by simp only [List.length_map]; omega))).trans (by rw [List.map_id])) fun x hx => ⟨[some (valT S (ls.map Sum.inl) O), s1', some (.tup S), some (.tup ((ls.map Sum.inl).map ringT)), some (.tup (O.map tupN)), some (.lst ((ls ++ O).flatten.map natT)), some x, none], rfl, ?_⟩)
      have hx' : sgT x := by
        rcases List.mem_append.mp hx with hx | hx
        · exact hS x hx
        · obtain ⟨v, _, rfl⟩ := List.mem_map.mp hx
          exact .inl ⟨_, rfl⟩
      rcases hx' with ⟨v, rfl⟩ | ⟨b, rfl⟩ <;> simp [evE, isiT, intB]
    have go2 : evSs call w (b_law_is t) (st0 [valT S (ls.map Sum.inl) O] 8) h = evSs call w ((b_law_is t).drop 5) [some (valT S (ls.map Sum.inl) O), s1', some (.tup S), some (.tup ((ls.map Sum.inl).map ringT)), some (.tup (O.map tupN)), some (.lst ((ls ++ O).flatten.map natT)), none, none] h := by
      refine go1.trans ((ss_if_f c2).trans ?_)
      refine (ss_set (x := .lst []) (h' := h) (by simp [evE, evEs]) (by simp)).trans ?_
      exact ss_for hi el
    have hdrV : drV S (ls.map Sum.inl) O = drB S ls O := by
      unfold drV
      rw [e]
    rw [hdrV] at fin ⊢
    have hnat : ((ls ++ O).flatten.map natT).all intB = true := by
      rw [List.all_eq_true]
      intro x hx
      obtain ⟨v, _, rfl⟩ := List.mem_map.mp hx
      rfl
    rw [List.all_append, hnat, Bool.and_true] at c3
    cases b3 : S.all intB with
    | false =>
      rw [b3] at c3
      refine fin false (go2.trans (ss_if_ret c3 ev_con)) ?_
      have : S.all sgnB = false := by
        rw [List.all_eq_false] at b3 ⊢
        obtain ⟨x, hx, hb⟩ := b3
        refine ⟨x, hx, ?_⟩
        cases x <;> simp [intB, sgnB] at hb ⊢
      unfold drB
      rw [this]; simp
    | true =>
      rw [b3] at c3
      have hint := List.all_eq_true.mp b3
      have c4 : evE call (.orE (.blt .anyL [.comp (.cmp .notin (.var 7) (.tup [.con (T.int 1), .neg (.con (T.int 1))])) (.name 7) (.val (.var 2)) none [7]]) (.cmp .ne (.blt .sorted [.var 5]) (.rng false [.bin .mul (.con (T.int 2)) (.blt .len [.var 2])]))) [some (valT S (ls.map Sum.inl) O), s1', some (.tup S), some (.tup ((ls.map Sum.inl).map ringT)), some (.tup (O.map tupN)), some (.lst ((ls ++ O).flatten.map natT)), none, none] h = .ok (.bl (!S.all sgnB || !srtB (2 * S.length) (ls ++ O).flatten)) h := by
        have a1 := ev_anyM (call := call) (σ := [some (valT S (ls.map Sum.inl) O), s1', some (.tup S), some (.tup ((ls.map Sum.inl).map ringT)), some (.tup (O.map tupN)), some (.lst ((ls ++ O).flatten.map natT)), none, none]) (h := h) (emb := id) (p := fun x => !memT x [.int 1, .int (-1)]) (l := S) (e := .cmp .notin (.var 7) (.tup [.con (T.int 1), .neg (.con (T.int 1))])) (g := .name 7) (it := .val (.var 2)) (own := [7]) ((walk_tupT (ev_var rfl)).trans (by rw [List.map_id])) fun x hx => ⟨[some (valT S (ls.map Sum.inl) O), s1', some (.tup S), some (.tup ((ls.map Sum.inl).map ringT)), some (.tup (O.map tupN)), some (.lst ((ls ++ O).flatten.map natT)), none, some x], rfl, ev_notin (hplS x hx).2 rfl (ev_var rfl) (ev_tup (ev_cons ev_con (ev_cons (by rw [evE, ev_con, R.bind_ok]) ev_nil)))⟩
        have ha : (S.any fun x => !memT x [.int 1, .int (-1)]) = !S.all sgnB := by
          rw [← List.not_all_eq_any_not]
          congr 1
          have hh : ∀ q : List T, (∀ x ∈ q, intB x = true) → (q.all fun x => memT x [.int 1, .int (-1)]) = q.all sgnB := fun q => by
            induction q with
            | nil => intro _; rfl
            | cons x q ih =>
              intro hq
              have h1 := hq x List.mem_cons_self
              rw [List.all_cons, List.all_cons, ih fun y hy => hq y (List.mem_cons_of_mem _ hy)]
              congr 1
              cases x <;> simp [intB] at h1
              rename_i v
              simp only [memT, List.any_cons, List.any_nil, Bool.or_false, eqv, sgnB]
              by_cases z1 : v = 1
              · subst z1; rfl
              · by_cases z2 : v = -1
                · subst z2; rfl
                · have e1 : ((1 : Int) == v) = false := beq_eq_false_iff_ne.mpr (fun z => z1 z.symm)
                  have e2 : ((-1 : Int) == v) = false := beq_eq_false_iff_ne.mpr (fun z => z2 z.symm)
                  rw [e1, e2]
                  by_cases z3 : -1 ≤ v
                  · by_cases z4 : v ≤ 1
                    · have : v = 0 := by omega
                      subst this; rfl
                    · simp [z4]
                  · simp [z3]
          exact hh S hint
        rw [ha] at a1
        refine ev_or a1 fun _ => ?_
        have a2 := ev_neD (call := call) (σ := [some (valT S (ls.map Sum.inl) O), s1', some (.tup S), some (.tup ((ls.map Sum.inl).map ringT)), some (.tup (O.map tupN)), some (.lst ((ls ++ O).flatten.map natT)), none, none]) (h := h) (h1 := h) (h2 := h) okD_ints okD_lstN (ev_sorted (x := .non) (l := (ls ++ O).flatten) (ev_var (i := 5) rfl)) (ev_rngL (k := 2 * S.length) (by omega) (ev_mulN (x := 2) (by omega) ev_con (ev_len (xs := S) (ev_var (i := 2) rfl))))
        exact a2
      cases b4 : (!S.all sgnB || !srtB (2 * S.length) (ls ++ O).flatten) with
      | true =>
        rw [b4] at c4
        refine fin false (go2.trans ((ss_if_f c3).trans (ss_if_ret c4 ev_con))) ?_
        rw [Bool.or_eq_true, Bool.not_eq_true', Bool.not_eq_true'] at b4
        unfold drB
        rcases b4 with b4 | b4 <;> rw [b4] <;> simp
      | false =>
        rw [b4] at c4
        rw [Bool.or_eq_false_iff, Bool.not_eq_false', Bool.not_eq_false'] at b4
        have c5 : evE call (.blt .allL [.comp (.cmp .eq (.var 1) (.call t [.var 1] [] [0])) (.name 1) (.val (.var 3)) none [1]]) [some (valT S (ls.map Sum.inl) O), s1', some (.tup S), some (.tup ((ls.map Sum.inl).map ringT)), some (.tup (O.map tupN)), some (.lst ((ls ++ O).flatten.map natT)), none, none] h = .ok (.bl (ls.all fun l => decide (tidyN l = l))) h :=
          ev_allM (emb := tupN) ((walk_tupT (ev_var rfl)).trans (by rw [ringT_inl])) fun l hl => ⟨[some (valT S (ls.map Sum.inl) O), some (tupN l), some (.tup S), some (.tup ((ls.map Sum.inl).map ringT)), some (.tup (O.map tupN)), some (.lst ((ls ++ O).flatten.map natT)), none, none], rfl, by
            have := ev_eqD (call := call) (σ := [some (valT S (ls.map Sum.inl) O), some (tupN l), some (.tup S), some (.tup ((ls.map Sum.inl).map ringT)), some (.tup (O.map tupN)), some (.lst ((ls ++ O).flatten.map natT)), none, none]) (h := h) (h1 := h) (h2 := h) (a := .var 1) (b := .call t [.var 1] [] [0]) (x := tupN l) (y := tupN (tidyN l)) okD_tupN okD_tupN (ev_var rfl) (ev_call (zs := [tupN l]) (ev_cons (ev_var rfl) ev_nil) ev_nil rfl (E4 l (hrow l (List.mem_append_left _ hl))))
            rw [this, eqv_tupN]
            congr 2
            by_cases z : l = tidyN l
            · rw [decide_eq_true z, decide_eq_true z.symm]
            · rw [decide_eq_false z, decide_eq_false fun q => z q.symm]⟩
        refine fin _ (go2.trans ((ss_if_f c3).trans ((ss_if_f c4).trans (ss_ret c5)))) ?_
        unfold drB
        rw [b4.1, b4.2]
        have h8' : decide (S.length ≤ 8) = true := decide_eq_true h8
        have h4a : decide (ls.length ≤ 4) = true := decide_eq_true h4
        have h4b : decide (O.length ≤ 4) = true := decide_eq_true h4'
        rw [h8', h4a, h4b]
        simp
end
end SH
end

section
set_option autoImplicit false
set_option linter.all false
set_option maxRecDepth 100000
set_option maxHeartbeats 4000000
/-! Strandhues: drawings: strands, places, sums of signs. -/
namespace SH
open PySem
def b_strands_of : List S := [.ret (.bin .add (.idx (.var 0) (.con (T.int 2))) (.idx (.var 0) (.con (T.int 1))))]
def b_strand_of (c_strands_of : Nat) : List S := [.forS (.tup [.name 2, .name 3]) (.enum (.call c_strands_of [.var 0] [] [0])) [.ite (.cmp .isin (.var 1) (.var 3)) [.ret (.tup [.var 2, .idxOf (.var 3) (.var 1)])] []],
    .ret (.con (T.non))]
def b_crossings (c_demand_drawing : Nat) : List S := [.drop (.call c_demand_drawing [.var 0, .con (T.str (Str.ofString "drawing"))] [] [0, 1]),
    .ret (.blt .len [.idx (.var 0) (.con (T.int 0))])]
def b_strands (c_demand_drawing : Nat) (c_strands_of : Nat) : List S := [.drop (.call c_demand_drawing [.var 0, .con (T.str (Str.ofString "drawing"))] [] [0, 1]),
    .ret (.call c_strands_of [.var 0] [] [0])]
def b_where (c_demand : Nat) (c_is_in : Nat) (c_demand_drawing : Nat) (c_strand_of : Nat) : List S := [.drop (.call c_demand_drawing [.var 0, .con (T.str (Str.ofString "drawing"))] [] [0, 1]),
    .drop (.call c_demand [.call c_is_in [.var 1, .con (T.int 0), .bin .sub (.bin .mul (.con (T.int 2)) (.blt .len [.idx (.var 0) (.con (T.int 0))])) (.con (T.int 1))] [] [0, 1, 2], .con (T.str (Str.ofString "one"))] [] [0, 1]),
    .ret (.call c_strand_of [.var 0, .var 1] [] [0, 1])]
def b_over_sum (c_demand : Nat) (c_is_in : Nat) (c_demand_drawing : Nat) (c_strands_of : Nat) (c_over_sum_of : Nat) : List S := [.drop (.call c_demand_drawing [.var 0, .con (T.str (Str.ofString "drawing"))] [] [0, 1]),
    .asg (.name 3) (.blt .len [.call c_strands_of [.var 0] [] [0]]),
    .drop (.call c_demand [.call c_is_in [.var 1, .con (T.int 0), .bin .sub (.var 3) (.con (T.int 1))] [] [0, 1, 2], .con (T.str (Str.ofString "one"))] [] [0, 1]),
    .drop (.call c_demand [.call c_is_in [.var 2, .con (T.int 0), .bin .sub (.var 3) (.con (T.int 1))] [] [0, 1, 2], .con (T.str (Str.ofString "other"))] [] [0, 1]),
    .ret (.call c_over_sum_of [.var 0, .var 1, .var 2] [] [0, 1, 2])]
def b_over_sum_of (c_over : Nat) (c_under : Nat) (c_strands_of : Nat) : List S := [.par [3, 4] [.idx (.call c_strands_of [.var 0] [] [0]) (.var 1), .idx (.call c_strands_of [.var 0] [] [0]) (.var 2)],
    .ret (.blt .sumL [.comp (.var 6) (.tup [.name 5, .name 6]) (.enum (.idx (.var 0) (.con (T.int 0)))) (some (.andE (.cmp .isin (.call c_over [.var 5] [] [0]) (.var 3)) (.cmp .isin (.call c_under [.var 5] [] [0]) (.var 4)))) [5, 6]])]
def b_over_sums (c_demand_drawing : Nat) (c_strands_of : Nat) (c_over_sum_of : Nat) : List S := [.drop (.call c_demand_drawing [.var 0, .con (T.str (Str.ofString "drawing"))] [] [0, 1]),
    .par [1, 2] [.blt .len [.call c_strands_of [.var 0] [] [0]], .new (.lst [])],
    .forS (.name 3) (.rng [.var 1]) [.ext (.var 2) (.comp (.call c_over_sum_of [.var 0, .var 3, .var 4] [] [0, 1, 2]) (.name 4) (.rng [.var 1]) (some (.cmp .ne (.var 4) (.var 3))) [4])],
    .freeze 2,
    .ret (.blt .tupleOf [.var 2])]
def b_passes_under (c_is_under : Nat) (c_demand_drawing : Nat) (c_strands_of : Nat) : List S := [.drop (.call c_demand_drawing [.var 0, .con (T.str (Str.ofString "drawing"))] [] [0, 1]),
    .ret (.blt .tupleOf [.comp (.blt .len [.comp (.con (T.int 1)) (.name 1) (.val (.var 2)) (some (.call c_is_under [.var 1] [] [0])) [1]]) (.name 2) (.val (.call c_strands_of [.var 0] [] [0])) none [2]])]
def b_strings (c_demand_drawing : Nat) (c_strands_of : Nat) : List S := [.drop (.call c_demand_drawing [.var 0, .con (T.str (Str.ofString "drawing"))] [] [0, 1]),
    .ret (.slc (.call c_strands_of [.var 0] [] [0]) none (some (.blt .len [.idx (.var 0) (.con (T.int 2))])))]
def b_law_rows : List S := [.ret (.bin .add (.comp (.blt .listOf [.var 1]) (.name 1) (.val (.idx (.var 0) (.con (T.int 2)))) none [1]) (.comp (.blt .listOf [.var 1]) (.name 1) (.val (.idx (.var 0) (.con (T.int 1)))) none [1]))]

def drT (S : List Int) (R O : List (List Nat)) : T := .tup [.tup (S.map T.int), .tup (R.map tupN), .tup (O.map tupN)]
theorem drT_val {S : List Int} {R O : List (List Nat)} : valT (S.map T.int) (R.map Sum.inl) O = drT S R O := by
  unfold valT drT
  rw [ringT_inl]
theorem lefts_inl : ∀ {R : List (List Nat)}, lefts (R.map Sum.inl) = some R
  | [] => rfl
  | l :: r => by
    rw [List.map_cons, lefts, lefts_inl]
theorem drV_inl {S : List T} {R O : List (List Nat)} : drV S (R.map Sum.inl) O = drB S R O := by
  unfold drV
  rw [lefts_inl]
/-- a drawing -/
structure GoodD (S : List Int) (R O : List (List Nat)) : Prop where
  s8 : S.length ≤ 8
  r4 : R.length ≤ 4
  o4 : O.length ≤ 4
  sg : ∀ s ∈ S, s = 1 ∨ s = -1
  pm : (R ++ O).flatten.Perm (List.range (2 * S.length))
  td : ∀ l ∈ R, tidyN l = l
theorem GoodD.dr {S : List Int} {R O : List (List Nat)} (g : GoodD S R O) : drB (S.map T.int) R O = true := by
  unfold drB
  rw [List.length_map, srt_iff.mpr g.pm, decide_eq_true g.s8, decide_eq_true g.r4, decide_eq_true g.o4]
  simp only [Bool.true_and, Bool.and_true, Bool.and_eq_true, List.all_eq_true, decide_eq_true_eq]
  refine ⟨fun x hx => ?_, g.td⟩
  obtain ⟨s, hs, rfl⟩ := List.mem_map.mp hx
  rcases g.sg s hs with rfl | rfl <;> rfl
theorem GoodD.row {S : List Int} {R O : List (List Nat)} (g : GoodD S R O) : ∀ l ∈ R ++ O, l.length ≤ 16 := fun l hl => by
  have h1 := (List.sublist_flatten_of_mem hl).length_le
  have h2 := g.pm.length_eq
  rw [List.length_range] at h2
  have := g.s8
  omega
theorem GoodD.strands {S : List Int} {R O : List (List Nat)} (g : GoodD S R O) : (O ++ R).flatten.Perm (List.range (2 * S.length)) := by
  refine List.Perm.trans ?_ g.pm
  rw [List.flatten_append, List.flatten_append]
  exact List.perm_append_comm
theorem okD_rows {k : Nat} {l : List (List Nat)} : okDs (k + 1) (l.map tupN) = true := okDs_all fun x hx => by
  obtain ⟨q, _, rfl⟩ := List.mem_map.mp hx
  exact okD_tupN
theorem okD_dr {S : List Int} {R O : List (List Nat)} : okD 50 (drT S R O) = true := by
  unfold drT
  simp only [okD, okDs, Bool.and_true, Bool.and_eq_true]
  exact ⟨okDs_all fun x hx => by obtain ⟨i, _, rfl⟩ := List.mem_map.mp hx; simp only [okD], okD_rows, okD_rows⟩
/-- the place of a pass -/
def strN (one : Nat) : Nat → List (List Nat) → Option T
  | _, [] => none
  | k, l :: r => match idxN one l with
    | some i => some (.tup [natT k, natT i])
    | none => strN one (k + 1) r
theorem mem_idx {one : Nat} : ∀ {l : List Nat}, memT (natT one) (l.map natT) = (idxN one l).isSome
  | [] => rfl
  | y :: r => by
    have ih := mem_idx (one := one) (l := r)
    unfold memT at ih ⊢
    simp only [List.map_cons, List.any_cons, eqv_nat, ih, idxN]
    by_cases e : y = one
    · simp [e]
    · simp only [e, decide_false, Bool.false_or, if_false]
      cases idxN one r <;> rfl
theorem mem_contains {one : Nat} : ∀ {l : List Nat}, memT (natT one) (l.map natT) = l.contains one
  | [] => rfl
  | y :: r => by
    have ih := mem_contains (one := one) (l := r)
    unfold memT at ih ⊢
    simp only [List.map_cons, List.any_cons, eqv_nat, ih, List.contains_cons]
    congr 1
    by_cases e : y = one
    · subst e; simp
    · have : (one == y) = false := beq_eq_false_iff_ne.mpr (fun z => e z.symm)
      simp [e, this]
theorem strN_at {one : Nat} : ∀ {rows : List (List Nat)} {k a p : Nat} {row : List Nat}, rows.flatten.Nodup → rows[a]? = some row → row[p]? = some one → strN one k rows = some (.tup [natT (k + a), natT p])
  | [], k, a, p, row, _, h, _ => by simp at h
  | l :: r, k, a, p, row, hn, h, hp => by
    rw [List.flatten_cons, List.nodup_append] at hn
    simp only [strN]
    cases a with
    | zero =>
      simp only [List.getElem?_cons_zero, Option.some.injEq] at h
      subst h
      rw [idxN_at hn.1 hp]; rfl
    | succ a =>
      have h' : r[a]? = some row := by simpa using h
      have hm : one ∈ r.flatten := List.mem_flatten.mpr ⟨row, List.mem_of_getElem? h', List.mem_of_getElem? hp⟩
      have hnot : one ∉ l := fun hl => hn.2.2 one hl one hm rfl
      have : idxN one l = none := by
        cases e : idxN one l with
        | none => rfl
        | some i =>
          exfalso
          have h1 := mem_idx (one := one) (l := l)
          rw [e, mem_contains] at h1
          exact hnot (by simpa using h1)
      rw [this]
      simp only
      rw [strN_at hn.2.1 h' hp]
      congr 3
      congr 1
      omega
/-- the signs at which the one strand passes over the other -/
def ovN (first second : List Nat) : Nat → List Int → List Int
  | _, [] => []
  | c, s :: r => if first.contains (2 * c) && second.contains (2 * c + 1) then s :: ovN first second (c + 1) r else ovN first second (c + 1) r
def ovS (S : List Int) (first second : List Nat) : Int := (ovN first second 0 S).sum
section
variable {Φ : Prog} {w n f : Nat} {h : Hs}
section
variable {call : Calls} {σ : Env}
theorem ev_inN {a b : E} {x : T} {l : List Nat} {one : Nat} (hx : x = tupN l ∨ x = lstN l) (ha : evE call a σ h = .ok (natT one) h) (hb : evE call b σ h = .ok x h) : evE call (.cmp .isin a b) σ h = .ok (.bl (l.contains one)) h := by
  rw [evE, ha, R.bind_ok, hb, R.bind_ok]
  have o1 : okDs 59 (l.map natT) = true := okDs_nats
  have o2 : okD 60 (natT one) = true := by simp only [natT, okD]
  have f1 : (l.map natT).all flatT = true := by
    rw [List.all_eq_true]
    intro y hy
    obtain ⟨v, _, rfl⟩ := List.mem_map.mp hy
    rfl
  have f2 : flatT (natT one) = true := rfl
  rcases hx with rfl | rfl
  · simp only [cmpT, tupN, inT, f1, f2, Bool.and_self, if_true, mem_contains]; rfl
  · simp only [cmpT, lstN, inT, seqOf, o1, o2, Bool.and_self, if_true, mem_contains]; rfl
theorem ev_ov {a b : Nat} {e c : E} {own : List Nat} {S : List Int} {first second : List Nat} (he : evE call e σ h = .ok (.tup (S.map T.int)) h)
    (hc : ∀ (k : Nat) (s : Int), ∃ σ', asgG (.tup [.name a, .name b]) (.tup [natT k, .int s]) (wipeT σ own) = some σ' ∧ evE call c σ' h = .ok (.bl (first.contains (2 * k) && second.contains (2 * k + 1))) h ∧ evE call (.var b) σ' h = .ok (.int s) h) :
    evE call (.blt .sumL [.comp (.var b) (.tup [.name a, .name b]) (.enum e) (some c) own]) σ h = .ok (.int (ovS S first second)) h := by
  have hi : evI call (.enum e) σ h = .ok (enumFrom' 0 (S.map T.int)) h := by
    rw [evI, he, R.bind_ok]; rfl
  have key : ∀ (f : T → Hs → R (Option T)), (∀ (k : Nat) (s : Int), f (.tup [natT k, .int s]) h = .ok (if first.contains (2 * k) && second.contains (2 * k + 1) then some (.int s) else none) h) → ∀ (S : List Int) (k : Nat), compR f (enumFrom' k (S.map T.int)) h = .ok ((ovN first second k S).map T.int) h := fun f hf S => by
    induction S with
    | nil => intro k; rfl
    | cons s S ih =>
      intro k
      have h1 := hf k s
      simp only [natT] at h1
      simp only [List.map_cons, enumFrom', compR, h1, R.bind_ok, ih (k + 1), ovN]
      by_cases z : (first.contains (2 * k) && second.contains (2 * k + 1)) = true
      · rw [if_pos z, if_pos z]; rfl
      · rw [if_neg z, if_neg z]
  have k1 := key (fun x h => (R.of (asgG (.tup [.name a, .name b]) x (wipeT σ own)) h).bind fun σ' h => asB (evC call (some c) σ' h) fun k h => if k then (evE call (.var b) σ' h).bind fun y h => .ok (some y) h else .ok none h) (fun k s => by
    obtain ⟨σ', e1, e2, e3⟩ := hc k s
    simp only [e1, R.of_some, R.bind_ok, evC, e2, asB_ok]
    by_cases z : (first.contains (2 * k) && second.contains (2 * k + 1)) = true
    · rw [if_pos z, if_pos z, e3]; rfl
    · rw [if_neg z, if_neg z]) S 0
  have k2 : evE call (.comp (.var b) (.tup [.name a, .name b]) (.enum e) (some c) own) σ h = .ok (.lst ((ovN first second 0 S).map T.int)) h := by
    rw [evE, hi, R.bind_ok]
    exact congrArg (fun r => (noEx r).bind fun ys h => R.ok (T.lst ys) h) k1
  have e1 : intsOf ((ovN first second 0 S).map T.int) = some (ovN first second 0 S) := (ints_map (g := fun x : Int => x) (xs := ovN first second 0 S)).trans (by rw [List.map_id'])
  rw [evE, evEs, k2, R.bind_ok, evEs, R.bind_ok, R.bind_ok]
  simp only [bltT, e1]; rfl
theorem ev_dr {k : Nat} {S : List Int} {R O : List (List Nat)} {x : T} (h0 : σ[0]? = some (some (drT S R O))) (hx : [T.tup (S.map T.int), .tup (R.map tupN), .tup (O.map tupN)][k]? = some x) : evE call (.idx (.var 0) (.con (T.int (k : Nat)))) σ h = .ok x h :=
  ev_idxT (k := k) (xs := [.tup (S.map T.int), .tup (R.map tupN), .tup (O.map tupN)]) (ev_var h0) ev_con hx
end
variable {S : List Int} {R O : List (List Nat)}
theorem drawing_ok {p q r t : Nat} (I : Is Φ f 1 6 (b_is_drawing p q r t)) (Ip : Is Φ p 3 3 b_is_in) (Iq : Is Φ q 3 3 b_is_tuple) (Ir : Is Φ r 1 1 (b_is_sign p)) (It : Is Φ t 1 2 b_tidied_ring) (g : GoodD S R O) : callN Φ w (n + 3) f [drT S R O] h = .ok (.bl true) h := by
  have g8 := g.s8
  have g4 := g.r4
  have g5 := g.o4
  have := is_drawing_ok (w := w) (n := n) (h := h) (S := S.map T.int) (R := R.map Sum.inl) (O := O) I Ip Iq Ir It (fun x hx => by obtain ⟨i, _, rfl⟩ := List.mem_map.mp hx; simp only [okD]) (by simp; omega) (by simp; omega) (by omega)
    (fun l hl => by
      obtain ⟨q, hq, e⟩ := List.mem_map.mp hl
      cases e
      have := g.row l (List.mem_append_left _ hq); omega) (fun l hl => by have := g.row l (List.mem_append_right _ hl); omega)
  rw [drT_val, drV_inl, g.dr] at this
  exact this
theorem demand_drawing_ok {p q r t c d : Nat} {y : T} (I : Is Φ f 2 2 (b_demand_drawing c d)) (Ic : Is Φ c 2 2 b_demand) (Id : Is Φ d 1 6 (b_is_drawing p q r t)) (Ip : Is Φ p 3 3 b_is_in) (Iq : Is Φ q 3 3 b_is_tuple) (Ir : Is Φ r 1 1 (b_is_sign p)) (It : Is Φ t 1 2 b_tidied_ring) (g : GoodD S R O) :
    callN Φ w (n + 4) f [drT S R O, y] h = .ok .non h := by
  have e1 := drawing_ok (w := w) (n := n) (h := h) Id Ip Iq Ir It g
  have e2 := demand_ok (w := w) (n := n + 2) (h := h) (x := y) Ic
  refine I.nx0 (σ := [some (drT S R O), some y]) rfl ?_
  exact (ss_drop (ev_call (zs := [.bl true, y]) (ev_cons (ev_call (zs := [drT S R O]) (ev_cons (ev_var rfl) ev_nil) ev_nil rfl e1) (ev_cons (ev_var rfl) ev_nil)) ev_nil rfl e2)).trans (by rw [evSs]; rfl)
theorem strands_of_ok (I : Is Φ f 1 1 b_strands_of) (hl : O.length + R.length ≤ 1000) : callN Φ w (n + 1) f [drT S R O] h = .ok (.tup ((O ++ R).map tupN)) h := by
  have hL : LINE = 16777216 := rfl
  have e := ev_addT (call := callN Φ w n) (σ := st0 [drT S R O] 1) (h := h) (ev_dr (k := 2) rfl rfl) (ev_dr (k := 1) rfl rfl) (by simp only [List.length_map]; omega)
  rw [← List.map_append] at e
  exact I.rt0 rfl (by simp only [okD]; exact okD_rows) (ss_ret e)
abbrev sDrawing : T := .str (Str.ofString "drawing")
theorem crossings_ok {dd : Nat} (I : Is Φ f 1 1 (b_crossings dd)) (hd : callN Φ w n dd [drT S R O, sDrawing] h = .ok .non h) : callN Φ w (n + 1) f [drT S R O] h = .ok (natT S.length) h := by
  refine I.rt0 rfl (by simp only [natT, okD]) ((ss_drop (ev_call (zs := [drT S R O, sDrawing]) (ev_cons (ev_var rfl) (ev_cons ev_con ev_nil)) ev_nil rfl hd)).trans (ss_ret ?_))
  have := ev_len (call := callN Φ w n) (σ := st0 [drT S R O] 1) (h := h) (ev_dr (k := 0) rfl rfl)
  rwa [List.length_map] at this
theorem strands_ok {dd s : Nat} (I : Is Φ f 1 1 (b_strands dd s)) (Is' : Is Φ s 1 1 b_strands_of) (hl : O.length + R.length ≤ 1000) (hd : callN Φ w (n + 1) dd [drT S R O, sDrawing] h = .ok .non h) : callN Φ w (n + 2) f [drT S R O] h = .ok (.tup ((O ++ R).map tupN)) h := by
  have e := strands_of_ok (w := w) (n := n) (h := h) (S := S) (R := R) (O := O) Is' hl
  exact I.rt0 rfl (by simp only [okD]; exact okD_rows) ((ss_drop (ev_call (zs := [drT S R O, sDrawing]) (ev_cons (ev_var rfl) (ev_cons ev_con ev_nil)) ev_nil rfl hd)).trans (ss_ret (ev_call (zs := [drT S R O]) (ev_cons (ev_var rfl) ev_nil) ev_nil rfl e)))
theorem strings_ok {dd s : Nat} (I : Is Φ f 1 1 (b_strings dd s)) (Is' : Is Φ s 1 1 b_strands_of) (hl : O.length + R.length ≤ 1000) (hd : callN Φ w (n + 1) dd [drT S R O, sDrawing] h = .ok .non h) : callN Φ w (n + 2) f [drT S R O] h = .ok (.tup (O.map tupN)) h := by
  have e := strands_of_ok (w := w) (n := n) (h := h) (S := S) (R := R) (O := O) Is' hl
  refine I.rt0 rfl (by simp only [okD]; exact okD_rows) ((ss_drop (ev_call (zs := [drT S R O, sDrawing]) (ev_cons (ev_var rfl) (ev_cons ev_con ev_nil)) ev_nil rfl hd)).trans (ss_ret ?_))
  have a1 := ev_call (call := callN Φ w (n + 1)) (f := s) (es := [.var 0]) (kws := []) (perm := [0]) (σ := st0 [drT S R O] 1) (zs := [drT S R O]) (ev_cons (ev_var rfl) ev_nil) ev_nil rfl e
  have a2 := ev_len (call := callN Φ w (n + 1)) (σ := st0 [drT S R O] 1) (h := h) (ev_dr (k := 2) rfl rfl)
  have := ev_slcT a1 evO_none (evO_nat a2)
  rw [cut_to (by simp)] at this
  rw [List.length_map, List.map_append] at this
  rw [List.take_left' (by simp)] at this
  exact this
theorem strand_loop {call : Calls} {one : Nat} {d : T} : ∀ {rows : List (List Nat)} {k : Nat} {s2 s3 : Option T}, match strN one k rows with
    | some t => loopO (turn call w (.tup [.name 2, .name 3]) [.ite (.cmp .isin (.var 1) (.var 3)) [.ret (.tup [.var 2, .idxOf (.var 3) (.var 1)])] []]) (enumFrom' k (rows.map tupN)) [some d, some (natT one), s2, s3] h = .rt t h
    | none => ∃ s2' s3', loopO (turn call w (.tup [.name 2, .name 3]) [.ite (.cmp .isin (.var 1) (.var 3)) [.ret (.tup [.var 2, .idxOf (.var 3) (.var 1)])] []]) (enumFrom' k (rows.map tupN)) [some d, some (natT one), s2, s3] h = .nx [some d, some (natT one), s2', s3'] h
  | [], k, s2, s3 => ⟨s2, s3, rfl⟩
  | l :: r, k, s2, s3 => by
    have c1 := ev_inN (call := call) (σ := [some d, some (natT one), some (natT k), some (tupN l)]) (h := h) (one := one) (.inl rfl) (ev_var (i := 1) rfl) (ev_var (i := 3) rfl)
    have et : turn call w (.tup [.name 2, .name 3]) [.ite (.cmp .isin (.var 1) (.var 3)) [.ret (.tup [.var 2, .idxOf (.var 3) (.var 1)])] []] (.tup [.int (k : Nat), tupN l]) [some d, some (natT one), s2, s3] h = evSs call w [.ite (.cmp .isin (.var 1) (.var 3)) [.ret (.tup [.var 2, .idxOf (.var 3) (.var 1)])] []] [some d, some (natT one), some (natT k), some (tupN l)] h := rfl
    have hm := mem_idx (one := one) (l := l)
    rw [mem_contains] at hm
    rw [hm] at c1
    simp only [strN, List.map_cons, enumFrom']
    cases e : idxN one l with
    | some i =>
      rw [e] at c1
      simp only [loopO, et]
      have c2 := ev_idxOf (call := call) (σ := [some d, some (natT one), some (natT k), some (tupN l)]) (h := h) (k := i) (x := tupN l) rfl (ev_var (i := 3) rfl) rfl (ev_var (i := 1) rfl) okDs_nats (by simp only [natT, okD]) (by rw [find_cast]; exact e)
      rw [ss_if_ret c1 (ev_tup (ev_cons (ev_var rfl) (ev_cons c2 ev_nil)))]
    | none =>
      rw [e] at c1
      have ih := strand_loop (call := call) (one := one) (d := d) (rows := r) (k := k + 1) (s2 := some (natT k)) (s3 := some (tupN l))
      simp only [loopO, et]
      rw [ss_if_f c1, evSs]
      exact ih
theorem okD_strN {one : Nat} : ∀ {rows : List (List Nat)} {k : Nat} {t : T}, strN one k rows = some t → okD 60 t = true
  | [], _, _, h => by cases h
  | l :: r, k, t, h => by
    simp only [strN] at h
    cases e : idxN one l with
    | some i =>
      rw [e] at h
      cases h
      simp only [okD, okDs, natT, Bool.and_self]
    | none =>
      rw [e] at h
      exact okD_strN h
theorem strand_of_ok {s one : Nat} {t : T} (I : Is Φ f 2 4 (b_strand_of s)) (Is' : Is Φ s 1 1 b_strands_of) (hl : O.length + R.length ≤ 1000) (ht : strN one 0 (O ++ R) = some t) : callN Φ w (n + 2) f [drT S R O, natT one] h = .ok t h := by
  have e := strands_of_ok (w := w) (n := n) (h := h) (S := S) (R := R) (O := O) Is' hl
  have lp := strand_loop (call := callN Φ w (n + 1)) (w := w) (h := h) (one := one) (d := drT S R O) (rows := O ++ R) (k := 0) (s2 := none) (s3 := none)
  rw [ht] at lp
  refine I.rt0 rfl (okD_strN ht) (ss_for_rt ?_ lp)
  rw [evI, ev_call (zs := [drT S R O]) (ev_cons (ev_var rfl) ev_nil) ev_nil rfl e, SH.R.bind_ok]; rfl
end
end SH
end

section
set_option autoImplicit false
set_option linter.all false
set_option maxRecDepth 100000
set_option maxHeartbeats 4000000
/-! Strandhues: drawings: places, sums of signs, passes under. -/
namespace SH
open PySem
def undN (l : List Nat) : Nat := (l.filter fun x => decide (x % 2 = 1)).length
def ovAll (S : List Int) (rows : List (List Nat)) (a b : Nat) : T := .int (ovS S (rows.getD a []) (rows.getD b []))
def sumsOf (S : List Int) (rows : List (List Nat)) : List T := (List.range rows.length).flatMap fun a => ((List.range rows.length).filter fun b => decide (b ≠ a)).map fun b => ovAll S rows a b
theorem sums_row {S : List Int} {rows : List (List Nat)} {a : Nat} : (((List.range rows.length).filter fun b => decide (b ≠ a)).map fun b => ovAll S rows a b) = (List.range rows.length).flatMap fun b => if decide (a ≠ b) then [ovAll S rows a b] else [] := by
  generalize List.range rows.length = l
  induction l with
  | nil => rfl
  | cons x l ih =>
    rw [List.flatMap_cons, ← ih, List.filter_cons]
    by_cases z : x = a
    · subst z; simp
    · have z' : a ≠ x := fun q => z q.symm
      simp [z, z']
section
variable {Φ : Prog} {w n f : Nat} {h : Hs}
section
variable {call : Calls} {σ σ' : Env} {ss : List S}
theorem ss_par {is : List Nat} {es : List E} {xs : List T} {h' : Hs} (he : evEs call es σ h = .ok xs h') (hp : parT is xs σ = some σ') : evSs call w (.par is es :: ss) σ h = evSs call w ss σ' h' := by
  rw [evSs, evS, he, R.out_ok, hp, O.seq_nx]
theorem compR_embF {α : Type} {f : T → Hs → R (Option T)} {emb k : α → T} {p : α → Bool} : ∀ {l : List α}, (∀ x ∈ l, f (emb x) h = .ok (if p x then some (k x) else none) h) → compR f (l.map emb) h = .ok ((l.filter p).map k) h
  | [], _ => rfl
  | x :: l, hf => by
    have ih := compR_embF (l := l) fun y hy => hf y (List.mem_cons_of_mem _ hy)
    simp only [List.map_cons, compR, hf x List.mem_cons_self, R.bind_ok, ih]
    cases hp : p x <;> simp [List.filter_cons, hp]
/-- a comprehension with a test, over things of any kind -/
theorem ev_compFM {α : Type} {emb k : α → T} {p : α → Bool} {l : List α} {e c : E} {g : G} {it : I} {own : List Nat} {h0 : Hs} (hi : evI call it σ h0 = .ok (l.map emb) h) (hf : ∀ x ∈ l, ∃ σ', asgG g (emb x) (wipeT σ own) = some σ' ∧ evE call c σ' h = .ok (.bl (p x)) h ∧ evE call e σ' h = .ok (k x) h) : evE call (.comp e g it (some c) own) σ h0 = .ok (.lst ((l.filter p).map k)) h := by
  have key := compR_embF (f := fun x h => (R.of (asgG g x (wipeT σ own)) h).bind fun σ' h => asB (evC call (some c) σ' h) fun k h => if k then (evE call e σ' h).bind fun y h => .ok (some y) h else .ok none h) (emb := emb) (k := k) (p := p) (h := h) (l := l) fun x hx => by
    obtain ⟨σ', e1, e2, e3⟩ := hf x hx
    simp only [e1, R.of_some, R.bind_ok, evC, e2, asB_ok, e3]
    cases p x <;> rfl
  simp only [evE, hi, R.bind_ok]
  exact congrArg (fun r => (noEx r).bind fun ys h => R.ok (T.lst ys) h) key
end
theorem over_ok {c : Nat} (I : Is Φ f 1 1 b_over) : callN Φ w (n + 1) f [natT c] h = .ok (natT (2 * c)) h :=
  I.rt0 rfl (by simp only [natT, okD]) (ss_ret (ev_mulN (x := 2) (by omega) ev_con (ev_var rfl)))
theorem under_ok {c : Nat} (I : Is Φ f 1 1 b_under) : callN Φ w (n + 1) f [natT c] h = .ok (natT (2 * c + 1)) h :=
  I.rt0 rfl (by simp only [natT, okD]) (ss_ret (ev_addN (y := 1) (ev_mulN (x := 2) (by omega) ev_con (ev_var rfl)) ev_con))
theorem is_under_ok {c : Nat} (I : Is Φ f 1 1 b_is_under) : callN Φ w (n + 1) f [natT c] h = .ok (.bl (decide (c % 2 = 1))) h := by
  refine I.rt0 rfl rfl (ss_ret (ev_eqN (x := c % 2) (y := 1) ?_ ev_con))
  have v0 : evE (callN Φ w n) (.var 0) (st0 [natT c] 1) h = .ok (natT c) h := ev_var rfl
  rw [evE, v0, R.bind_ok, ev_con, R.bind_ok]
  simp only [natT, binT]
  rw [if_pos (by omega)]; rfl
variable {S : List Int} {R O : List (List Nat)}
theorem getD_at {rows : List (List Nat)} {a : Nat} {l : List Nat} (h : rows[a]? = some l) : rows.getD a [] = l := by
  rw [List.getD_eq_getElem?_getD, h]; rfl
theorem over_sum_of_ok {ov un s a b : Nat} (I : Is Φ f 3 7 (b_over_sum_of ov un s)) (Io : Is Φ ov 1 1 b_over) (Iu : Is Φ un 1 1 b_under) (Is' : Is Φ s 1 1 b_strands_of) (hl : O.length + R.length ≤ 1000) (ha : a < (O ++ R).length) (hb : b < (O ++ R).length) :
    callN Φ w (n + 2) f [drT S R O, natT a, natT b] h = .ok (ovAll S (O ++ R) a b) h := by
  obtain ⟨first, h1⟩ : ∃ l, (O ++ R)[a]? = some l := ⟨_, List.getElem?_eq_getElem ha⟩
  obtain ⟨second, h2⟩ : ∃ l, (O ++ R)[b]? = some l := ⟨_, List.getElem?_eq_getElem hb⟩
  unfold ovAll
  rw [getD_at h1, getD_at h2]
  have e := strands_of_ok (w := w) (n := n) (h := h) (S := S) (R := R) (O := O) Is' hl
  have e1 : ∀ c, callN Φ w (n + 1) ov [natT c] h = .ok (natT (2 * c)) h := fun c => over_ok (w := w) (n := n) (h := h) Io
  have e2 : ∀ c, callN Φ w (n + 1) un [natT c] h = .ok (natT (2 * c + 1)) h := fun c => under_ok (w := w) (n := n) (h := h) Iu
  refine I.rt0 rfl rfl ?_
  generalize callN Φ w (n + 1) = call at e e1 e2
  have c0 : ∀ σ : Env, σ[0]? = some (some (drT S R O)) → evE call (.call s [.var 0] [] [0]) σ h = .ok (.tup ((O ++ R).map tupN)) h := fun σ hσ => ev_call (zs := [drT S R O]) (ev_cons (ev_var hσ) ev_nil) ev_nil rfl e
  have i1 : ((O ++ R).map tupN)[a]? = some (tupN first) := by rw [List.getElem?_map, h1]; rfl
  have i2 : ((O ++ R).map tupN)[b]? = some (tupN second) := by rw [List.getElem?_map, h2]; rfl
  refine (ss_par (xs := [tupN first, tupN second]) (h' := h) (σ' := [some (drT S R O), some (natT a), some (natT b), some (tupN first), some (tupN second), none, none]) (ev_cons (ev_idxT (c0 _ rfl) (ev_var rfl) i1) (ev_cons (ev_idxT (c0 _ rfl) (ev_var rfl) i2) ev_nil)) rfl).trans (ss_ret ?_)
  refine ev_ov (a := 5) (b := 6) (own := [5, 6]) (S := S) (first := first) (second := second) (ev_dr (k := 0) rfl rfl) fun k s => ⟨[some (drT S R O), some (natT a), some (natT b), some (tupN first), some (tupN second), some (natT k), some (.int s)], rfl, ?_, ev_var rfl⟩
  exact ev_and (ev_inN (.inl rfl) (ev_call (zs := [natT k]) (ev_cons (ev_var rfl) ev_nil) ev_nil rfl (e1 k)) (ev_var rfl)) fun _ => ev_inN (.inl rfl) (ev_call (zs := [natT k]) (ev_cons (ev_var rfl) ev_nil) ev_nil rfl (e2 k)) (ev_var rfl)
theorem demand_in {call : Calls} {σ : Env} {ss : List SH.S} {c i : Nat} {e1 e2 : E} {one m : Nat} {s : Str} (hc : call c [.bl true, .str s] h = .ok .non h) (hi : call i [natT one, .int 0, .int ((m : Nat) - 1)] h = .ok (.bl (inZ (natT one) 0 ((m : Nat) - 1))) h) (h1 : evE call e1 σ h = .ok (natT one) h) (h2 : evE call e2 σ h = .ok (natT m) h) (hm : one < m) :
    evSs call w (.drop (.call c [.call i [e1, .con (T.int 0), .bin .sub e2 (.con (T.int 1))] [] [0, 1, 2], .con (.str s)] [] [0, 1]) :: ss) σ h = evSs call w ss σ h := by
  have hz : inZ (natT one) 0 ((m : Nat) - 1) = true := by
    simp only [inZ, natT, Bool.and_eq_true, decide_eq_true_eq]
    omega
  rw [hz] at hi
  exact ss_drop (ev_call (zs := [.bl true, .str s]) (ev_cons (ev_call (zs := [natT one, .int 0, .int ((m : Nat) - 1)]) (ev_cons h1 (ev_cons ev_con (ev_cons (ev_sub1 h2) ev_nil))) ev_nil rfl hi) (ev_cons ev_con ev_nil)) ev_nil rfl hc)
theorem drop_drawing {call : Calls} {σ : Env} {ss : List SH.S} {dd : Nat} (h0 : σ[0]? = some (some (drT S R O))) (hd : call dd [drT S R O, sDrawing] h = .ok .non h) : evSs call w (.drop (.call dd [.var 0, .con sDrawing] [] [0, 1]) :: ss) σ h = evSs call w ss σ h :=
  ss_drop (ev_call (zs := [drT S R O, sDrawing]) (ev_cons (ev_var h0) (ev_cons ev_con ev_nil)) ev_nil rfl hd)
theorem where_ok {c i dd so s one : Nat} {t : T} (I : Is Φ f 2 2 (b_where c i dd so)) (Ic : Is Φ c 2 2 b_demand) (Ii : Is Φ i 3 3 b_is_in) (Iso : Is Φ so 2 4 (b_strand_of s)) (Is' : Is Φ s 1 1 b_strands_of) (hl : O.length + R.length ≤ 1000) (hd : callN Φ w (n + 2) dd [drT S R O, sDrawing] h = .ok .non h) (ho : one < 2 * S.length) (ht : strN one 0 (O ++ R) = some t) :
    callN Φ w (n + 3) f [drT S R O, natT one] h = .ok t h := by
  have e1 := strand_of_ok (w := w) (n := n) (h := h) (S := S) (R := R) (O := O) Iso Is' hl ht
  have e2 := demand_ok (w := w) (n := n + 1) (h := h) (x := .str (Str.ofString "one")) Ic
  have e3 := is_in_ok (w := w) (n := n + 1) (h := h) (x := natT one) (lo := 0) (hi := (2 * S.length : Nat) - 1) Ii rfl
  refine I.rt0 rfl (okD_strN ht) ((drop_drawing rfl hd).trans ((demand_in e2 e3 (ev_var rfl) ?_ ho).trans (ss_ret (ev_call (zs := [drT S R O, natT one]) (ev_cons (ev_var rfl) (ev_cons (ev_var rfl) ev_nil)) ev_nil rfl e1))))
  have := ev_mulN (call := callN Φ w (n + 2)) (σ := st0 [drT S R O, natT one] 2) (h := h) (x := 2) (by omega) ev_con (ev_len (ev_dr (k := 0) rfl rfl))
  rwa [List.length_map] at this
theorem over_sum_ok {c i dd s os ov un a b : Nat} (I : Is Φ f 3 4 (b_over_sum c i dd s os)) (Ic : Is Φ c 2 2 b_demand) (Ii : Is Φ i 3 3 b_is_in) (Ios : Is Φ os 3 7 (b_over_sum_of ov un s)) (Io : Is Φ ov 1 1 b_over) (Iu : Is Φ un 1 1 b_under) (Is' : Is Φ s 1 1 b_strands_of) (hl : O.length + R.length ≤ 1000) (hd : callN Φ w (n + 2) dd [drT S R O, sDrawing] h = .ok .non h) (ha : a < (O ++ R).length) (hb : b < (O ++ R).length) :
    callN Φ w (n + 3) f [drT S R O, natT a, natT b] h = .ok (ovAll S (O ++ R) a b) h := by
  have e0 := strands_of_ok (w := w) (n := n + 1) (h := h) (S := S) (R := R) (O := O) Is' hl
  have e1 := over_sum_of_ok (w := w) (n := n) (h := h) (S := S) Ios Io Iu Is' hl ha hb
  have e2 := demand_ok (w := w) (n := n + 1) (h := h) (x := .str (Str.ofString "one")) Ic
  have e2' := demand_ok (w := w) (n := n + 1) (h := h) (x := .str (Str.ofString "other")) Ic
  have e3 := is_in_ok (w := w) (n := n + 1) (h := h) (x := natT a) (lo := 0) (hi := ((O ++ R).length : Nat) - 1) Ii rfl
  have e3' := is_in_ok (w := w) (n := n + 1) (h := h) (x := natT b) (lo := 0) (hi := ((O ++ R).length : Nat) - 1) Ii rfl
  have c1 := ev_len (call := callN Φ w (n + 2)) (σ := st0 [drT S R O, natT a, natT b] 4) (h := h) (ev_call (perm := [0]) (kws := []) (zs := [drT S R O]) (ev_cons (ev_var (i := 0) rfl) ev_nil) (ev_nil) rfl e0)
  rw [List.length_map] at c1
  refine I.rt0 rfl rfl ((drop_drawing rfl hd).trans ((ss_set c1 (by simp [st0])).trans ?_))
  refine (demand_in e2 e3 (ev_var rfl) (ev_var rfl) ha).trans ((demand_in e2' e3' (ev_var rfl) (ev_var rfl) hb).trans (ss_ret ?_))
  exact ev_call (zs := [drT S R O, natT a, natT b]) (ev_cons (ev_var rfl) (ev_cons (ev_var rfl) (ev_cons (ev_var rfl) ev_nil))) ev_nil rfl e1
theorem okD_sums {k : Nat} {l : List (List Nat)} : okDs k (sumsOf S l) = true := okDs_all fun x hx => by
  unfold sumsOf at hx
  obtain ⟨a, _, hx⟩ := List.mem_flatMap.mp hx
  obtain ⟨b, _, rfl⟩ := List.mem_map.mp hx
  simp only [ovAll, okD]
theorem over_sums_ok {dd s os ov un : Nat} (I : Is Φ f 1 5 (b_over_sums dd s os)) (Ios : Is Φ os 3 7 (b_over_sum_of ov un s)) (Io : Is Φ ov 1 1 b_over) (Iu : Is Φ un 1 1 b_under) (Is' : Is Φ s 1 1 b_strands_of) (hl : O.length + R.length ≤ 100) (hd : callN Φ w (n + 2) dd [drT S R O, sDrawing] h = .ok .non h) :
    callN Φ w (n + 3) f [drT S R O] h = .ok (.tup (sumsOf S (O ++ R))) h := by
  have hL : LINE = 16777216 := rfl
  have e0 := strands_of_ok (w := w) (n := n + 1) (h := h) (S := S) (R := R) (O := O) Is' (by omega)
  have e1 : ∀ (h : Hs) (a b : Nat), a < (O ++ R).length → b < (O ++ R).length → callN Φ w (n + 2) os [drT S R O, natT a, natT b] h = .ok (ovAll S (O ++ R) a b) h := fun h a b ha hb => over_sum_of_ok (w := w) (n := n) (h := h) (S := S) Ios Io Iu Is' (by omega) ha hb
  have hm : (O ++ R).length ≤ 100 := by rw [List.length_append]; exact hl
  refine (I.rt (t := .tup (sumsOf S (O ++ R))) (h' := h ++ [.dead]) rfl (by simp only [okD]; exact okD_sums) ?_).trans (by simp)
  generalize callN Φ w (n + 2) = call at e0 e1 hd
  have c1 := ev_len (call := call) (σ := st0 [drT S R O] 5) (h := h) (ev_call (perm := [0]) (kws := []) (zs := [drT S R O]) (ev_cons (ev_var (i := 0) rfl) ev_nil) (ev_nil) rfl e0)
  rw [List.length_map] at c1
  refine (drop_drawing rfl hd).trans ((ss_par (xs := [natT (O ++ R).length, .ref h.length]) (h' := h ++ [.lst []]) (σ' := [some (drT S R O), some (natT (O ++ R).length), some (.ref h.length), none, none]) (ev_cons c1 (ev_cons (ev_newl ev_nil) ev_nil)) rfl).trans ?_)
  generalize hrows : O ++ R = rows at hm e0 e1 c1
  have row : ∀ (h : Hs) (a : Nat) (s4 : Option T), a < rows.length → evE call (.comp (.call os [.var 0, .var 3, .var 4] [] [0, 1, 2]) (.name 4) (.rng [.var 1]) (some (.cmp .ne (.var 4) (.var 3))) [4]) [some (drT S R O), some (natT rows.length), some (.ref h.length), some (natT a), s4] h = .ok (.lst (((List.range rows.length).filter fun b => decide (b ≠ a)).map fun b => ovAll S rows a b)) h := fun h a s4 ha =>
    ev_compFM (emb := natT) (l := List.range rows.length) (ev_rng (by omega) (ev_var rfl)) fun b hb => ⟨[some (drT S R O), some (natT rows.length), some (.ref h.length), some (natT a), some (natT b)], rfl, ev_neN (ev_var rfl) (ev_var rfl), ev_call (zs := [drT S R O, natT a, natT b]) (ev_cons (ev_var rfl) (ev_cons (ev_var rfl) (ev_cons (ev_var rfl) ev_nil))) ev_nil rfl (e1 h a b ha (List.mem_range.mp hb))⟩
  have row' : ∀ (h h' : Hs) (a : Nat) (s4 : Option T), a < rows.length → evE call (.comp (.call os [.var 0, .var 3, .var 4] [] [0, 1, 2]) (.name 4) (.rng [.var 1]) (some (.cmp .ne (.var 4) (.var 3))) [4]) [some (drT S R O), some (natT rows.length), some (.ref h.length), some (natT a), s4] h' = .ok (.lst (((List.range rows.length).filter fun b => decide (b ≠ a)).map fun b => ovAll S rows a b)) h' := fun h h' a s4 ha =>
    ev_compFM (emb := natT) (l := List.range rows.length) (ev_rng (by omega) (ev_var rfl)) fun b hb => ⟨[some (drT S R O), some (natT rows.length), some (.ref h.length), some (natT a), some (natT b)], rfl, ev_neN (ev_var rfl) (ev_var rfl), ev_call (zs := [drT S R O, natT a, natT b]) (ev_cons (ev_var rfl) (ev_cons (ev_var rfl) (ev_cons (ev_var rfl) ev_nil))) ev_nil rfl (e1 h' a b ha (List.mem_range.mp hb))⟩
  have hpre : ∀ j, ((List.range j).flatMap fun a => ((List.range rows.length).filter fun b => decide (b ≠ a)).map fun b => ovAll S rows a b).length ≤ j * rows.length := fun j => by
    induction j with
    | zero => simp
    | succ j ih =>
      rw [List.range_succ, List.flatMap_append, List.length_append, List.flatMap_cons, List.flatMap_nil, List.append_nil, List.length_map, Nat.succ_mul]
      have := List.length_filter_le (fun b => decide (b ≠ j)) (List.range rows.length)
      rw [List.length_range] at this
      omega
  obtain ⟨σ', h', el, rfl, s3, s4, rfl⟩ := loop_at (f := turn call w (.name 3) [.ext (.var 2) (.comp (.call os [.var 0, .var 3, .var 4] [] [0, 1, 2]) (.name 4) (.rng [.var 1]) (some (.cmp .ne (.var 4) (.var 3))) [4])]) (xs := (List.range rows.length).map natT) (i := 0) (h := h ++ [.lst []]) (σ := [some (drT S R O), some (natT rows.length), some (.ref h.length), none, none])
    (P := fun j σ h' => h' = h ++ [.lst ((List.range j).flatMap fun a => ((List.range rows.length).filter fun b => decide (b ≠ a)).map fun b => ovAll S rows a b)] ∧ ∃ s3 s4, σ = [some (drT S R O), some (natT rows.length), some (.ref h.length), s3, s4]) ⟨rfl, none, none, rfl⟩ fun j x hx σ h1 hP => by
      obtain ⟨rfl, s3, s4, rfl⟩ := hP
      have hj : j < rows.length := by
        have := (List.getElem?_eq_some_iff.mp hx).1
        simpa using this
      rw [List.getElem?_map, List.getElem?_range hj] at hx
      cases hx
      rw [Nat.zero_add]
      refine ⟨[some (drT S R O), some (natT rows.length), some (.ref h.length), some (natT j), s4], h ++ [.lst ((List.range (j + 1)).flatMap fun a => ((List.range rows.length).filter fun b => decide (b ≠ a)).map fun b => ovAll S rows a b)], ?_, rfl, _, _, rfl⟩
      show evSs call w _ [some (drT S R O), some (natT rows.length), some (.ref h.length), some (natT j), s4] _ = _
      have er := row' h (h ++ [.lst ((List.range j).flatMap fun a => ((List.range rows.length).filter fun b => decide (b ≠ a)).map fun b => ovAll S rows a b)]) j s4 hj
      have hle : ((List.range j).flatMap fun a => ((List.range rows.length).filter fun b => decide (b ≠ a)).map fun b => ovAll S rows a b).length + (((List.range rows.length).filter fun b => decide (b ≠ j)).map fun b => ovAll S rows j b).length ≤ LINE := by
        have h1 := hpre j
        have h2 := List.length_filter_le (fun b => decide (b ≠ j)) (List.range rows.length)
        rw [List.length_range] at h2
        rw [List.length_map]
        have : j * rows.length ≤ 100 * 100 := Nat.mul_le_mul (by omega) hm
        omega
      have ed : okDs 50 (((List.range rows.length).filter fun b => decide (b ≠ j)).map fun b => ovAll S rows j b) = true := okDs_all fun x hx => by
        obtain ⟨b, _, rfl⟩ := List.mem_map.mp hx
        simp only [ovAll, okD]
      have ex : extT (h ++ [.lst ((List.range j).flatMap fun a => ((List.range rows.length).filter fun b => decide (b ≠ a)).map fun b => ovAll S rows a b)]) (.ref h.length) (.lst (((List.range rows.length).filter fun b => decide (b ≠ j)).map fun b => ovAll S rows j b)) = some (h ++ [.lst ((List.range (j + 1)).flatMap fun a => ((List.range rows.length).filter fun b => decide (b ≠ a)).map fun b => ovAll S rows a b)]) := by
        simp only [extT, at_end]
        rw [if_pos ⟨hle, ed⟩, set_end, List.range_succ, List.flatMap_append, List.flatMap_cons, List.flatMap_nil, List.append_nil]
      have ecb : cellB (h ++ [.lst ((List.range j).flatMap fun a => ((List.range rows.length).filter fun b => decide (b ≠ a)).map fun b => ovAll S rows a b)]) (.ref h.length) = true := by simp only [cellB, at_end]
      rw [evSs, evS, ev_var (i := 2) rfl, SH.R.out_ok, if_pos ecb, er, SH.R.out_ok, ex]
      simp only [SH.O.seq_nx, evSs]
  refine (ss_for (ev_rng (by omega) (ev_var rfl)) el).trans ?_
  rw [Nat.zero_add, List.length_map, List.length_range]
  have fz : freezeT (h ++ [.lst (sumsOf S rows)]) (.ref h.length) = some (.lst (sumsOf S rows), h ++ [.dead]) := by simp only [freezeT, at_end, set_end]
  show evSs call w [.freeze 2, .ret (.blt .tupleOf [.var 2])] [some (drT S R O), some (natT rows.length), some (.ref h.length), s3, s4] (h ++ [.lst (sumsOf S rows)]) = _
  rw [evSs, evS]
  simp only [List.getElem?_cons_succ, List.getElem?_cons_zero, fz, SH.O.seq_nx]
  exact ss_ret (ev_tupOf (x := .lst (sumsOf S rows)) (ev_var rfl) rfl)
theorem passes_under_ok {u dd s : Nat} (I : Is Φ f 1 3 (b_passes_under u dd s)) (Iu : Is Φ u 1 1 b_is_under) (Is' : Is Φ s 1 1 b_strands_of) (hl : O.length + R.length ≤ 1000) (hd : callN Φ w (n + 1) dd [drT S R O, sDrawing] h = .ok .non h) :
    callN Φ w (n + 2) f [drT S R O] h = .ok (.tup ((O ++ R).map fun l => natT (undN l))) h := by
  have e0 := strands_of_ok (w := w) (n := n) (h := h) (S := S) (R := R) (O := O) Is' hl
  have e1 : ∀ c, callN Φ w (n + 1) u [natT c] h = .ok (.bl (decide (c % 2 = 1))) h := fun c => is_under_ok (w := w) (n := n) (h := h) Iu
  refine I.rt0 rfl ?_ ((drop_drawing rfl hd).trans (ss_ret ?_))
  · simp only [okD]
    exact okDs_all fun x hx => by obtain ⟨l, _, rfl⟩ := List.mem_map.mp hx; simp only [natT, okD]
  · refine ev_tupOf (ev_compM (emb := tupN) (l := O ++ R) (walk_tupT (ev_call (zs := [drT S R O]) (ev_cons (ev_var rfl) ev_nil) ev_nil rfl e0)) fun l hl => ⟨[some (drT S R O), none, some (tupN l)], rfl, ?_⟩) rfl
    have := ev_lenL (ev_compFM (call := callN Φ w (n + 1)) (σ := [some (drT S R O), none, some (tupN l)]) (h := h) (h0 := h) (emb := natT) (k := fun _ => T.int 1) (p := fun x => decide (x % 2 = 1)) (l := l) (e := .con (T.int 1)) (c := .call u [.var 1] [] [0]) (g := .name 1) (it := .val (.var 2)) (own := [1]) (walk_tupT (ev_var rfl)) fun x hx => ⟨[some (drT S R O), some (natT x), some (tupN l)], rfl, ev_call (zs := [natT x]) (ev_cons (ev_var rfl) ev_nil) ev_nil rfl (e1 x), ev_con⟩)
    rw [List.length_map] at this
    exact this
theorem law_rows_ok (I : Is Φ f 1 2 b_law_rows) (hl : O.length + R.length ≤ 1000) : callN Φ w (n + 1) f [drT S R O] h = .ok (.lst ((O ++ R).map lstN)) h := by
  have hL : LINE = 16777216 := rfl
  refine I.rt0 rfl (by simp only [okD]; exact okDs_all fun x hx => by obtain ⟨q, _, rfl⟩ := List.mem_map.mp hx; exact okD_lstN) (ss_ret ?_)
  have a : ∀ (k : Nat) (q : List (List Nat)), evE (callN Φ w n) (.idx (.var 0) (.con (T.int (k : Nat)))) (st0 [drT S R O] 2) h = .ok (.tup (q.map tupN)) h → evE (callN Φ w n) (.comp (.blt .listOf [.var 1]) (.name 1) (.val (.idx (.var 0) (.con (T.int (k : Nat))))) none [1]) (st0 [drT S R O] 2) h = .ok (.lst (q.map lstN)) h := fun k q hq =>
    ev_compM (emb := tupN) (l := q) (walk_tupT hq) fun l hl => ⟨[some (drT S R O), some (tupN l)], rfl, ev_listOf (x := tupN l) (ev_var rfl) rfl⟩
  have := ev_addL (a 2 O (ev_dr (k := 2) rfl rfl)) (a 1 R (ev_dr (k := 1) rfl rfl)) (by simp only [List.length_map]; omega)
  rw [← List.map_append] at this
  exact this
end
end SH
end

section
set_option autoImplicit false
set_option linter.all false
set_option maxRecDepth 100000
set_option maxHeartbeats 4000000
/-! Strandhues: the laws' drawings. -/
namespace SH
open PySem
def b_law_drawing (c_law_roll : Nat) (c_law_pick : Nat) (c_law_tidy : Nat) : List S := [.asg (.name 4) (.new (.lst [.call c_law_roll [.var 0, .bin .add (.var 2) (.con (T.int 1))] [] [0, 1], .call c_law_roll [.var 0, .bin .add (.var 3) (.con (T.int 1))] [] [0, 1]])),
    .ite (.cmp .eq (.bin .add (.idx (.var 4) (.con (T.int 0))) (.idx (.var 4) (.con (T.int 1)))) (.con (T.int 0))) [.setI (.var 4) (.ite (.cmp .gt (.var 2) (.con (T.int 0))) (.con (T.int 0)) (.con (T.int 1))) (.con (T.int 1))] [],
    .freeze 4,
    .par [5, 6] [.call c_law_roll [.var 0, .bin .add (.var 1) (.con (T.int 1))] [] [0, 1], .bin .add (.idx (.var 4) (.con (T.int 0))) (.idx (.var 4) (.con (T.int 1)))],
    .par [7, 8] [.new (.comp (.lst []) (.name 9) (.rng [.var 6]) none [9]), .rng false [.bin .mul (.con (T.int 2)) (.var 5)]],
    .forS (.name 10) (.rng [.bin .mul (.con (T.int 2)) (.var 5)]) [.asg (.name 11) (.call c_law_pick [.var 0, .var 8] [] [0, 1]),
    .asg (.name 8) (.comp (.var 12) (.name 12) (.val (.var 8)) (some (.cmp .ne (.var 12) (.var 11))) [12]),
    .asg (.name 13) (.call c_law_roll [.var 0, .var 6] [] [0, 1]),
    .setI (.var 7) (.var 13) (.bin .add (.idx (.var 7) (.var 13)) (.lst [.var 11]))],
    .freeze 7,
    .asg (.name 14) (.blt .tupleOf [.comp (.call c_law_pick [.var 0, .lst [.con (T.int 1), .neg (.con (T.int 1))]] [] [0, 1]) (.name 15) (.rng [.var 5]) none [15]]),
    .ret (.tup [.var 14, .blt .tupleOf [.comp (.call c_law_tidy [.var 16] [] [0]) (.name 16) (.val (.slc (.var 7) (some (.idx (.var 4) (.con (T.int 1)))) none)) none [16]], .blt .tupleOf [.comp (.blt .tupleOf [.var 16]) (.name 16) (.val (.slc (.var 7) none (some (.idx (.var 4) (.con (T.int 1)))))) none [16]]])]

def drLoop (r p : Nat) : List S := [.asg (.name 11) (.call p [.var 0, .var 8] [] [0, 1]),
    .asg (.name 8) (.comp (.var 12) (.name 12) (.val (.var 8)) (some (.cmp .ne (.var 12) (.var 11))) [12]),
    .asg (.name 13) (.call r [.var 0, .var 6] [] [0, 1]),
    .setI (.var 7) (.var 13) (.bin .add (.idx (.var 7) (.var 13)) (.lst [.var 11]))]
theorem take_out {left : List Nat} {v : Nat} (hn : left.Nodup) (hv : v ∈ left) : (v :: left.filter fun x => decide (x ≠ v)).Perm left := by
  have h1 := List.perm_cons_erase hv
  have h2 := hn.erase_eq_filter v
  rw [h2] at h1
  refine List.Perm.trans ?_ h1.symm
  refine List.Perm.of_eq ?_
  congr 1
  refine List.filter_congr fun x _ => ?_
  by_cases e : x = v
  · subst e; simp
  · simp [e]
theorem put_in : ∀ {rows : List (List Nat)} {a v : Nat} {l : List Nat}, rows[a]? = some l → (rows.set a (l ++ [v])).flatten.Perm (v :: rows.flatten)
  | [], a, v, l, h => by simp at h
  | q :: rows, 0, v, l, h => by
    simp only [List.getElem?_cons_zero, Option.some.injEq] at h
    subst h
    rw [List.set_cons_zero, List.flatten_cons, List.flatten_cons, List.append_assoc]
    exact List.perm_middle
  | q :: rows, a + 1, v, l, h => by
    have h' : rows[a]? = some l := by simpa using h
    have ih := put_in (v := v) h'
    rw [List.set_cons_succ, List.flatten_cons, List.flatten_cons]
    exact (List.Perm.append_left q ih).trans List.perm_middle
theorem lstN_at {rows : List (List Nat)} {hh : Hs} {r a : Nat} {l : List Nat} (hr : hh[r]? = some (.lst (rows.map lstN))) (ha : rows[a]? = some l) : idxT hh (.ref r) (natT a) = some (lstN l) := by
  simp only [idxT, natT, seqOf, hr]
  exact atI_nat (by rw [List.getElem?_map, ha]; rfl)
theorem dr_turn {Φ : Prog} {w n r p d m rr many total : Nat} {nm nd nt nm' nd' nt' nf' : Str} {hh : Hs} {rows : List (List Nat)} {left : List Nat} {x1 x2 x3 x4 : T} {s9 s10 s11 s12 s13 s14 s15 s16 : Option T} (hp : Φ[p]? = some (f_pick nm nd nt r)) (hr : Φ[r]? = some (f_roll nm' nd' nt' nf'))
    (D : Dice hh d m) (hdr : d < rr) (hrow : hh[rr]? = some (.lst (rows.map lstN))) (hl : rows.length = total) (ht : 1 ≤ total) (ht2 : total ≤ 1000) (hle : left ≠ []) (hpm : (rows.flatten ++ left).Perm (List.range many)) (hmany : many ≤ 1000) (hm : m + 2 < 1000000000) :
    ∃ (rows' : List (List Nat)) (left' : List Nat) (s11' s13' : Option T) (h' : Hs), rows'.length = total ∧ (rows'.flatten ++ left').Perm (List.range many) ∧ left.length = left'.length + 1 ∧ Dice h' d (m + 2) ∧ h'[rr]? = some (.lst (rows'.map lstN)) ∧ But2 d rr hh h' ∧
      evSs (callN Φ w (n + 2)) w (drLoop r p) [some (.ref d), some x1, some x2, some x3, some x4, some (natT (many / 2)), some (natT total), some (.ref rr), some (lstN left), s9, s10, s11, s12, s13, s14, s15, s16] hh = .nx [some (.ref d), some x1, some x2, some x3, some x4, some (natT (many / 2)), some (natT total), some (.ref rr), some (lstN left'), s9, s10, s11', s12, s13', s14, s15, s16] h' := by
  have hL : LINE = 16777216 := rfl
  have hlen := hpm.length_eq
  rw [List.length_append, List.length_range] at hlen
  have hnd : left.Nodup := by
    have := hpm.nodup_iff.mpr List.nodup_range
    exact (List.nodup_append.mp this).2.1
  obtain ⟨v, h1, hv, e1, D1, B1⟩ := pick_nat (w := w) (n := n) hp hr D hle (by omega) (by omega)
  obtain ⟨a, h2, ha, e2, D2, B2⟩ := roll_nat (w := w) (n := n + 1) (total := total) hr D1 (by omega) (by omega) (by omega)
  have hrow2 : h2[rr]? = some (.lst (rows.map lstN)) := by rw [B2.2 rr (by omega), B1.2 rr (by omega), hrow]
  have hrl : rr < h2.length := (List.getElem?_eq_some_iff.mp hrow2).1
  have hal : a < rows.length := by omega
  have hra := List.getElem?_eq_getElem hal
  have hto := take_out hnd hv
  have hrlen : rows[a].length ≤ 1000 := by
    have h3 := (List.sublist_flatten_of_mem (List.getElem_mem hal)).length_le
    omega
  have es : setT h2 (.ref rr) (natT a) (lstN (rows[a] ++ [v])) = some (h2.set rr (.lst ((rows.set a (rows[a] ++ [v])).map lstN))) := by
    simp only [setT, natT, hrow2, List.length_map]
    rw [ixN_of hal]
    simp only [okD_lstN (j := 49), if_true]
    rw [List.map_set]
  refine ⟨rows.set a (rows[a] ++ [v]), left.filter fun x => decide (x ≠ v), some (natT v), some (natT a), h2.set rr (.lst ((rows.set a (rows[a] ++ [v])).map lstN)), by simp [hl], ?_, ?_, D2.set (by omega), ?_, ⟨by rw [List.length_set, B2.1, B1.1], fun i hi hi' => by rw [List.getElem?_set_ne (fun z => hi' z.symm), B2.2 i hi, B1.2 i hi]⟩, ?_⟩
  · refine List.Perm.trans (List.Perm.append_right _ (put_in hra)) (List.Perm.trans ?_ hpm)
    rw [List.cons_append]
    refine List.Perm.trans List.perm_middle.symm ?_
    exact List.Perm.append_left _ hto
  · have := hto.length_eq
    rw [List.length_cons] at this
    omega
  · rw [List.getElem?_set_self hrl]
  · generalize hcall : callN Φ w (n + 2) = call at e1 e2
    unfold drLoop
    have a1 : evE call (.call p [.var 0, .var 8] [] [0, 1]) [some (.ref d), some x1, some x2, some x3, some x4, some (natT (many / 2)), some (natT total), some (.ref rr), some (lstN left), s9, s10, s11, s12, s13, s14, s15, s16] hh = .ok (natT v) h1 :=
      ev_call (zs := [.ref d, lstN left]) (ev_cons (ev_var rfl) (ev_cons (ev_var rfl) ev_nil)) ev_nil rfl e1
    have a2 : evE call (.comp (.var 12) (.name 12) (.val (.var 8)) (some (.cmp .ne (.var 12) (.var 11))) [12]) [some (.ref d), some x1, some x2, some x3, some x4, some (natT (many / 2)), some (natT total), some (.ref rr), some (lstN left), s9, s10, some (natT v), s12, s13, s14, s15, s16] h1 = .ok (lstN (left.filter fun x => decide (x ≠ v))) h1 :=
      ev_compFM (emb := natT) (k := natT) (l := left) (walk_nat (ev_var rfl)) fun x hx => ⟨[some (.ref d), some x1, some x2, some x3, some x4, some (natT (many / 2)), some (natT total), some (.ref rr), some (lstN left), s9, s10, some (natT v), some (natT x), s13, s14, s15, s16], rfl, ev_neN (ev_var rfl) (ev_var rfl), ev_var rfl⟩
    have a3 : evE call (.call r [.var 0, .var 6] [] [0, 1]) [some (.ref d), some x1, some x2, some x3, some x4, some (natT (many / 2)), some (natT total), some (.ref rr), some (lstN (left.filter fun x => decide (x ≠ v))), s9, s10, some (natT v), s12, s13, s14, s15, s16] h1 = .ok (natT a) h2 :=
      ev_call (zs := [.ref d, natT total]) (ev_cons (ev_var rfl) (ev_cons (ev_var rfl) ev_nil)) ev_nil rfl e2
    refine (ss_set a1 (by simp)).trans ((ss_set a2 (by simp)).trans ((ss_set a3 (by simp)).trans ?_))
    show evSs call w [.setI (.var 7) (.var 13) (.bin .add (.idx (.var 7) (.var 13)) (.lst [.var 11]))] [some (.ref d), some x1, some x2, some x3, some x4, some (natT (many / 2)), some (natT total), some (.ref rr), some (lstN (left.filter fun x => decide (x ≠ v))), s9, s10, some (natT v), s12, some (natT a), s14, s15, s16] h2 = _
    have a4 : evE call (.bin .add (.idx (.var 7) (.var 13)) (.lst [.var 11])) [some (.ref d), some x1, some x2, some x3, some x4, some (natT (many / 2)), some (natT total), some (.ref rr), some (lstN (left.filter fun x => decide (x ≠ v))), s9, s10, some (natT v), s12, some (natT a), s14, s15, s16] h2 = .ok (lstN (rows[a] ++ [v])) h2 := by
      have i1 : evE call (.idx (.var 7) (.var 13)) [some (.ref d), some x1, some x2, some x3, some x4, some (natT (many / 2)), some (natT total), some (.ref rr), some (lstN (left.filter fun x => decide (x ≠ v))), s9, s10, some (natT v), s12, some (natT a), s14, s15, s16] h2 = .ok (lstN rows[a]) h2 := by
        rw [evE, ev_var (i := 7) rfl, R.bind_ok, ev_var (i := 13) rfl, R.bind_ok, lstN_at hrow2 hra]; rfl
      have i2 : evE call (.lst [.var 11]) [some (.ref d), some x1, some x2, some x3, some x4, some (natT (many / 2)), some (natT total), some (.ref rr), some (lstN (left.filter fun x => decide (x ≠ v))), s9, s10, some (natT v), s12, some (natT a), s14, s15, s16] h2 = .ok (.lst [natT v]) h2 := by
        rw [evE, ev_cons (ev_var (i := 11) rfl) ev_nil, R.bind_ok]
      have := ev_addL i1 i2 (by simp only [List.length_map, List.length_cons, List.length_nil]; omega)
      rw [this]
      unfold lstN
      rw [List.map_append]; rfl
    rw [evSs, evS, a4, R.out_ok, ev_var (i := 7) rfl, R.out_ok, ev_var (i := 13) rfl, R.out_ok, es]
    simp only [O.seq_nx, evSs]
theorem dr_loop {Φ : Prog} {w n r p d m rr many total : Nat} {nm nd nt nm' nd' nt' nf' : Str} {hh : Hs} {x1 x2 x3 x4 : T} {s9 s10 s11 s12 s13 s14 s15 s16 : Option T} (hp : Φ[p]? = some (f_pick nm nd nt r)) (hr : Φ[r]? = some (f_roll nm' nd' nt' nf'))
    (D : Dice hh d m) (hdr : d < rr) (hrow : hh[rr]? = some (.lst ((List.replicate total ([] : List Nat)).map lstN))) (ht : 1 ≤ total) (ht2 : total ≤ 1000) (hmany : many ≤ 1000) (hm : m + 2 * many < 1000000000) :
    ∃ (rows' : List (List Nat)) (s8 s10' s11' s13' : Option T) (h' : Hs), rows'.length = total ∧ rows'.flatten.Perm (List.range many) ∧ Dice h' d (m + 2 * many) ∧ h'[rr]? = some (.lst (rows'.map lstN)) ∧ But2 d rr hh h' ∧
      loopO (turn (callN Φ w (n + 2)) w (.name 10) (drLoop r p)) ((List.range many).map natT) [some (.ref d), some x1, some x2, some x3, some x4, some (natT (many / 2)), some (natT total), some (.ref rr), some (lstN (List.range many)), s9, s10, s11, s12, s13, s14, s15, s16] hh = .nx [some (.ref d), some x1, some x2, some x3, some x4, some (natT (many / 2)), some (natT total), some (.ref rr), s8, s9, s10', s11', s12, s13', s14, s15, s16] h' := by
  obtain ⟨σ', h', e, rows, left, t10, t11, t13, rfl, h1, h2, h3, h4, h5, h6⟩ := loop_at (f := turn (callN Φ w (n + 2)) w (.name 10) (drLoop r p)) (xs := (List.range many).map natT) (i := 0) (h := hh) (σ := [some (.ref d), some x1, some x2, some x3, some x4, some (natT (many / 2)), some (natT total), some (.ref rr), some (lstN (List.range many)), s9, s10, s11, s12, s13, s14, s15, s16])
    (P := fun j σ h' => ∃ (rows : List (List Nat)) (left : List Nat) (s10' s11' s13' : Option T), σ = [some (.ref d), some x1, some x2, some x3, some x4, some (natT (many / 2)), some (natT total), some (.ref rr), some (lstN left), s9, s10', s11', s12, s13', s14, s15, s16] ∧ rows.length = total ∧ (rows.flatten ++ left).Perm (List.range many) ∧ left.length + j = many ∧ Dice h' d (m + 2 * j) ∧ h'[rr]? = some (.lst (rows.map lstN)) ∧ But2 d rr hh h')
    ⟨List.replicate total [], List.range many, s10, s11, s13, rfl, by simp, by simp, by simp, D, hrow, rfl, fun _ _ _ => rfl⟩ fun j x hx σ h1 hP => by
      obtain ⟨rows, left, t10, t11, t13, rfl, p1, p2, p3, p4, p5, p6⟩ := hP
      rw [Nat.zero_add] at p3 p4 ⊢
      have hj : j < many := by
        have := (List.getElem?_eq_some_iff.mp hx).1
        simpa using this
      obtain ⟨rows', left', u11, u13, h2, q1, q2, q3, q4, q5, q6, q7⟩ := dr_turn (w := w) (n := n) (x1 := x1) (x2 := x2) (x3 := x3) (x4 := x4) (s9 := s9) (s10 := some x) (s11 := t11) (s12 := s12) (s13 := t13) (s14 := s14) (s15 := s15) (s16 := s16) hp hr p4 hdr p5 p1 ht ht2 (by intro z; rw [z] at p3; simp at p3; omega) p2 hmany (by omega)
      exact ⟨[some (.ref d), some x1, some x2, some x3, some x4, some (natT (many / 2)), some (natT total), some (.ref rr), some (lstN left'), s9, some x, u11, s12, u13, s14, s15, s16], h2, q7, rows', left', some x, u11, u13, rfl, q1, q2, by omega, by rw [Nat.mul_succ]; exact q4, q5, q6.1.trans p6.1, fun i hi hi' => (q6.2 i hi hi').trans (p6.2 i hi hi')⟩
  rw [Nat.zero_add, List.length_map, List.length_range] at h3 h4
  have hl0 : left = [] := List.eq_nil_of_length_eq_zero (by omega)
  subst hl0
  rw [List.append_nil] at h2
  exact ⟨rows, some (lstN []), t10, t11, t13, h', h1, h2, h4, h5, h6, e⟩
theorem signs_of : ∀ {ys : List T}, (∀ y ∈ ys, y = .int 1 ∨ y = .int (-1)) → ∃ S : List Int, ys = S.map T.int ∧ ∀ s ∈ S, s = 1 ∨ s = -1
  | [], _ => ⟨[], rfl, fun _ h => by cases h⟩
  | y :: ys, h => by
    obtain ⟨S, e, hS⟩ := signs_of (ys := ys) fun z hz => h z (List.mem_cons_of_mem _ hz)
    rcases h y List.mem_cons_self with rfl | rfl
    · exact ⟨1 :: S, by rw [e]; rfl, fun s hs => by
        rcases List.mem_cons.mp hs with rfl | hs
        · exact .inl rfl
        · exact hS s hs⟩
    · exact ⟨-1 :: S, by rw [e]; rfl, fun s hs => by
        rcases List.mem_cons.mp hs with rfl | hs
        · exact .inr rfl
        · exact hS s hs⟩
end SH
end

section
set_option autoImplicit false
set_option linter.all false
set_option maxRecDepth 100000
set_option maxHeartbeats 4000000
/-! Strandhues: the laws' drawings are drawings. -/
namespace SH
open PySem
theorem ev_new {call : Calls} {σ : Env} {h h1 : Hs} {e : E} {xs : List T} (he : evE call e σ h = .ok (.lst xs) h1) : evE call (.new e) σ h = .ok (.ref h1.length) (h1 ++ [.lst xs]) := by
  rw [evE, he, R.bind_ok]
theorem rep_lst {total : Nat} : (List.range total).map (fun _ => T.lst []) = (List.replicate total ([] : List Nat)).map lstN := by
  simp [lstN, List.map_const']
theorem flat_tidy {k : Nat} {rows : List (List Nat)} : ((rows.drop k).map tidyN ++ rows.take k).flatten.Perm rows.flatten := by
  have key : ∀ q : List (List Nat), (q.map tidyN).flatten.Perm q.flatten := fun q => by
    induction q with
    | nil => exact List.Perm.refl _
    | cons x q ih =>
      rw [List.map_cons, List.flatten_cons, List.flatten_cons]
      exact (List.Perm.append_right _ tidy_perm).trans (List.Perm.append_left _ ih)
  have h1 : rows.flatten = (rows.take k).flatten ++ (rows.drop k).flatten := by rw [← List.flatten_append, List.take_append_drop]
  rw [List.flatten_append, h1]
  exact (List.Perm.append_right _ (key _)).trans List.perm_append_comm
section
variable {Φ : Prog} {w n f r p t d m most rings opens : Nat} {h : Hs} {nm nd nt nm' nd' nt' nf' : Str}
theorem law_drawing_ok (I : Is Φ f 4 17 (b_law_drawing r p t)) (It : Is Φ t 1 2 b_law_tidy) (hp : Φ[p]? = some (f_pick nm nd nt r)) (hr : Φ[r]? = some (f_roll nm' nd' nt' nf')) (D : Dice h d m) (h8 : most ≤ 8) (hr4 : rings ≤ 4) (ho4 : opens ≤ 4) (h1 : 1 ≤ rings + opens) (hm : m + 1000 < 1000000000) :
    ∃ S R O h', callN Φ w (n + 3) f [.ref d, natT most, natT rings, natT opens] h = .ok (drT S R O) h' ∧ GoodD S R O ∧ S.length ≤ most ∧ R.length ≤ rings ∧ O.length ≤ opens ∧ 1 ≤ R.length + O.length ∧ Dice h' d (m + 100) ∧ But d h h' := by
  have hL : LINE = 16777216 := rfl
  have hd := D.lt
  obtain ⟨k0, ha, hk0, e1, D1, B1⟩ := roll_nat (w := w) (n := n + 1) (total := rings + 1) hr D (by omega) (by omega) (by omega)
  obtain ⟨k1, hb, hk1, e2, D2, B2⟩ := roll_nat (w := w) (n := n + 1) (total := opens + 1) hr D1 (by omega) (by omega) (by omega)
  have hbl : hb.length = h.length := by rw [B2.1, B1.1]
  -- the kinds
  obtain ⟨q0, q1, hq0, hq1, hq, ek⟩ : ∃ q0 q1 : Nat, q0 ≤ rings ∧ q1 ≤ opens ∧ 1 ≤ q0 + q1 ∧ ∀ (ss : List S), evSs (callN Φ w (n + 2)) w (.ite (.cmp .eq (.bin .add (.idx (.var 4) (.con (T.int 0))) (.idx (.var 4) (.con (T.int 1)))) (.con (T.int 0))) [.setI (.var 4) (.ite (.cmp .gt (.var 2) (.con (T.int 0))) (.con (T.int 0)) (.con (T.int 1))) (.con (T.int 1))] [] :: ss) ((st0 [.ref d, natT most, natT rings, natT opens] 17).set 4 (some (.ref hb.length))) (hb ++ [.lst [natT k0, natT k1]])
      = evSs (callN Φ w (n + 2)) w ss ((st0 [.ref d, natT most, natT rings, natT opens] 17).set 4 (some (.ref hb.length))) (hb ++ [.lst [natT q0, natT q1]]) := by
    have ix : ∀ (i k : Nat) (x : T), [natT k0, natT k1][i]? = some x → evE (callN Φ w (n + 2)) (.idx (.var 4) (.con (T.int (i : Nat)))) ((st0 [.ref d, natT most, natT rings, natT opens] 17).set 4 (some (.ref hb.length))) (hb ++ [.lst [natT k0, natT k1]]) = .ok x (hb ++ [.lst [natT k0, natT k1]]) := fun i k x hx => by
      have : idxT (hb ++ [.lst [natT k0, natT k1]]) (.ref hb.length) (.int (i : Nat)) = some x := by
        simp only [idxT, seqOf, at_end]
        exact atI_nat hx
      rw [evE, ev_var (i := 4) rfl, R.bind_ok, ev_con, R.bind_ok, this]; rfl
    have c1 : evE (callN Φ w (n + 2)) (.cmp .eq (.bin .add (.idx (.var 4) (.con (T.int 0))) (.idx (.var 4) (.con (T.int 1)))) (.con (T.int 0))) ((st0 [.ref d, natT most, natT rings, natT opens] 17).set 4 (some (.ref hb.length))) (hb ++ [.lst [natT k0, natT k1]]) = .ok (.bl (decide (k0 + k1 = 0))) (hb ++ [.lst [natT k0, natT k1]]) := ev_is0 (ev_addN (ix 0 0 _ rfl) (ix 1 0 _ rfl))
    by_cases z : k0 + k1 = 0
    · have v2 : evE (callN Φ w (n + 2)) (.ite (.cmp .gt (.var 2) (.con (T.int 0))) (.con (T.int 0)) (.con (T.int 1))) ((st0 [.ref d, natT most, natT rings, natT opens] 17).set 4 (some (.ref hb.length))) (hb ++ [.lst [natT k0, natT k1]]) = .ok (natT (if 0 < rings then 0 else 1)) (hb ++ [.lst [natT k0, natT k1]]) := by
        refine ev_ite (ev_gt0 (ev_var rfl)) (fun q => ?_) fun q => ?_
        · rw [if_pos (of_decide_eq_true q)]; exact ev_con
        · rw [if_neg (of_decide_eq_false q)]; exact ev_con
      have hk0 : k0 = 0 := by omega
      have hk1 : k1 = 0 := by omega
      refine ⟨if 0 < rings then 1 else 0, if 0 < rings then 0 else 1, by split <;> omega, by split <;> omega, by split <;> omega, fun ss => ?_⟩
      rw [ss_if_t (c1.trans (by rw [decide_eq_true z]))]
      have es : setT (hb ++ [.lst [natT k0, natT k1]]) (.ref hb.length) (natT (if 0 < rings then 0 else 1)) (.int 1) = some (hb ++ [.lst [natT (if 0 < rings then 1 else 0), natT (if 0 < rings then 0 else 1)]]) := by
        by_cases q : 0 < rings
        · simp only [q, if_true, setT, natT, at_end]
          rw [ixN_of (by simp)]
          simp only [okD, if_true, set_end, hk1]; rfl
        · simp only [q, if_false, setT, natT, at_end]
          rw [ixN_of (by simp)]
          simp only [okD, if_true, set_end, hk0]; rfl
      rw [evSs, evS, ev_con, R.out_ok, ev_var (i := 4) rfl, R.out_ok, v2, R.out_ok, es]
      simp only [O.seq_nx, evSs]
    · exact ⟨k0, k1, by omega, by omega, by omega, fun ss => by rw [ss_if_f (c1.trans (by rw [decide_eq_false z]))]⟩
  have D3 : Dice (hb ++ [.dead]) d (m + 1 + 1) := D2.app
  obtain ⟨mm, h3, hmm, e3, D4, B3⟩ := roll_nat (w := w) (n := n + 1) (total := most + 1) hr D3 (by omega) (by omega) (by omega)
  have h3l : h3.length = h.length + 1 := by rw [B3.1]; simp [hbl]
  have D5 : Dice (h3 ++ [.lst ((List.replicate (q0 + q1) ([] : List Nat)).map lstN)]) d (m + 1 + 1 + 1) := D4.app
  obtain ⟨rows, s8, s10, s11, s13, h5, l1, l2, D6, l3, B5, e5⟩ := dr_loop (w := w) (n := n) (rr := h3.length) (many := 2 * mm) (total := q0 + q1) (x1 := natT most) (x2 := natT rings) (x3 := natT opens) (x4 := .lst [natT q0, natT q1]) (s9 := none) (s10 := none) (s11 := none) (s12 := none) (s13 := none) (s14 := none) (s15 := none) (s16 := none) hp hr D5 (by omega) (by simp) (by omega) (by omega) (by omega) (by omega)
  rw [show 2 * mm / 2 = mm by omega] at e5
  have h5l : h5.length = h.length + 2 := by rw [B5.1]; simp [h3l]
  have D7 : Dice (h5.set h3.length .dead) d (m + 1 + 1 + 1 + 2 * (2 * mm)) := D6.set (by omega)
  -- the signs
  generalize hcall : callN Φ w (n + 2) = call at e1 e2 ek e3 e5
  have E7 : ∀ (hh : Hs) (mx : Nat), Dice hh d mx → mx < 1000000000 → ∃ (t : T) (h' : Hs), (t = .int 1 ∨ t = .int (-1)) ∧ call p [.ref d, .lst [.int 1, .int (-1)]] hh = .ok t h' ∧ Dice h' d (mx + 1) ∧ But d hh h' := fun hh mx Dh hmx => by
    obtain ⟨k, t, h', ek, ec, D', B⟩ := pick_ok (w := w) (n := n) hp hr Dh (xs := [.int 1, .int (-1)]) (by simp) (by simp) (by decide) hmx
    refine ⟨t, h', ?_, by rw [← hcall]; exact ec, D', B⟩
    have := List.mem_of_getElem? ek
    simpa using this
  have Et : ∀ (l : List Nat) (hh : Hs), l.length ≤ 1000 → call t [lstN l] hh = .ok (tupN (tidyN l)) hh := fun l hh hl => by
    rw [← hcall]
    exact law_tidy_ok (w := w) (n := n + 1) It (.inr rfl) hl
  obtain ⟨ys, h7, e7, y1, y2, D8, B7⟩ := ev_comp_at (call := call) (σ := [some (.ref d), some (natT most), some (natT rings), some (natT opens), some (.lst [natT q0, natT q1]), some (natT mm), some (natT (q0 + q1)), some (.lst (rows.map lstN)), s8, none, s10, s11, none, s13, none, none, none]) (h := h5.set h3.length .dead) (h1 := h5.set h3.length .dead) (elt := .call p [.var 0, .lst [.con (T.int 1), .neg (.con (T.int 1))]] [] [0, 1]) (g := .name 15) (it := .rng [.var 5]) (own := [15]) (xs := (List.range mm).map natT)
    (P := fun j hh => Dice hh d (m + 1 + 1 + 1 + 2 * (2 * mm) + j) ∧ But d (h5.set h3.length .dead) hh) (Q := fun y => y = .int 1 ∨ y = .int (-1)) (ev_rng (by omega) (ev_var rfl)) ⟨D7, But.refl _ _⟩ fun j x hx => by
      have hj : j < mm := by
        have := (List.getElem?_eq_some_iff.mp hx).1
        simpa using this
      refine ⟨[some (.ref d), some (natT most), some (natT rings), some (natT opens), some (.lst [natT q0, natT q1]), some (natT mm), some (natT (q0 + q1)), some (.lst (rows.map lstN)), s8, none, s10, s11, none, s13, none, some x, none], rfl, fun hh hP => ?_⟩
      obtain ⟨t, h', ht, et, Dt, Bt⟩ := E7 hh _ hP.1 (by omega)
      exact ⟨t, h', ev_call (zs := [.ref d, .lst [.int 1, .int (-1)]]) (ev_cons (ev_var rfl) (ev_cons (by rw [evE, ev_cons ev_con (ev_cons (x := .int (-1)) (h1 := hh) (by rw [evE, ev_con, R.bind_ok]) ev_nil), R.bind_ok]) ev_nil)) ev_nil rfl et, ⟨Dt, hP.2.trans Bt⟩, ht⟩
  obtain ⟨Sg, eS, hSg⟩ := signs_of y2
  subst eS
  rw [List.length_map] at y1
  rw [List.length_map, List.length_range] at D8 y1
  have h7l : h7.length = h.length + 2 := by rw [B7.1]; simp [h5l]
  have hkeep : ∀ i, i ≠ d → i < h.length → h7[i]? = h[i]? := fun i hi hi' => by
    rw [B7.2 i hi, List.getElem?_set_ne (by omega), B5.2 i hi (by omega), List.getElem?_append_left (by omega), B3.2 i hi, List.getElem?_append_left (by omega), B2.2 i hi, B1.2 i hi]
  have hrl : ∀ l ∈ rows, l.length ≤ 1000 := fun l hl => by
    have h3 := (List.sublist_flatten_of_mem hl).length_le
    have := l2.length_eq
    rw [List.length_range] at this
    omega
  have hpm : ((rows.drop q1).map tidyN ++ rows.take q1).flatten.Perm (List.range (2 * Sg.length)) := by
    rw [y1]
    exact flat_tidy.trans l2
  refine ⟨Sg, (rows.drop q1).map tidyN, rows.take q1, h7.take h.length, ?_, ⟨by omega, by simp [l1]; omega, by simp [l1]; omega, hSg, hpm, fun l hl => ?_⟩, by omega, by simp [l1]; omega, by simp [l1]; omega, by simp [l1]; omega, (D8.le (by omega)).take hd, But.take (by omega) hkeep⟩
  · refine I.rt rfl (okD_add okD_dr 10) ?_
    rw [hcall]
    have c0 : evE call (.new (.lst [.call r [.var 0, .bin .add (.var 2) (.con (T.int 1))] [] [0, 1], .call r [.var 0, .bin .add (.var 3) (.con (T.int 1))] [] [0, 1]])) (st0 [.ref d, natT most, natT rings, natT opens] 17) h = .ok (.ref hb.length) (hb ++ [.lst [natT k0, natT k1]]) :=
      ev_newl (ev_cons (ev_call (zs := [.ref d, natT (rings + 1)]) (ev_cons (ev_var rfl) (ev_cons (ev_addN (y := 1) (ev_var rfl) ev_con) ev_nil)) ev_nil rfl e1) (ev_cons (ev_call (zs := [.ref d, natT (opens + 1)]) (ev_cons (ev_var rfl) (ev_cons (ev_addN (y := 1) (ev_var rfl) ev_con) ev_nil)) ev_nil rfl e2) ev_nil))
    refine (ss_set c0 (by simp [st0])).trans ((ek _).trans ?_)
    have f1 : freezeT (hb ++ [.lst [natT q0, natT q1]]) (.ref hb.length) = some (.lst [natT q0, natT q1], hb ++ [.dead]) := by simp only [freezeT, at_end, set_end]
    show evSs call w (.freeze 4 :: _) [some (.ref d), some (natT most), some (natT rings), some (natT opens), some (.ref hb.length), none, none, none, none, none, none, none, none, none, none, none, none] (hb ++ [.lst [natT q0, natT q1]]) = _
    rw [evSs, evS]
    simp only [List.getElem?_cons_succ, List.getElem?_cons_zero, f1, O.seq_nx]
    show evSs call w _ [some (.ref d), some (natT most), some (natT rings), some (natT opens), some (.lst [natT q0, natT q1]), none, none, none, none, none, none, none, none, none, none, none, none] (hb ++ [.dead]) = _
    have ix : ∀ (σ : Env) (i : Nat) (hh : Hs) (x : T), σ[4]? = some (some (.lst [natT q0, natT q1])) → [natT q0, natT q1][i]? = some x → evE call (.idx (.var 4) (.con (T.int (i : Nat)))) σ hh = .ok x hh := fun σ i hh x hσ hx => ev_idxN (k := i) (ev_var hσ) ev_con hx
    refine (ss_par (xs := [natT mm, natT (q0 + q1)]) (h' := h3) (σ' := [some (.ref d), some (natT most), some (natT rings), some (natT opens), some (.lst [natT q0, natT q1]), some (natT mm), some (natT (q0 + q1)), none, none, none, none, none, none, none, none, none, none]) (ev_cons (ev_call (zs := [.ref d, natT (most + 1)]) (ev_cons (ev_var rfl) (ev_cons (ev_addN (y := 1) (ev_var rfl) ev_con) ev_nil)) ev_nil rfl e3) (ev_cons (ev_addN (ix _ 0 _ _ rfl rfl) (ix _ 1 _ _ rfl rfl)) ev_nil)) rfl).trans ?_
    have c7 : evE call (.new (.comp (.lst []) (.name 9) (.rng [.var 6]) none [9])) [some (.ref d), some (natT most), some (natT rings), some (natT opens), some (.lst [natT q0, natT q1]), some (natT mm), some (natT (q0 + q1)), none, none, none, none, none, none, none, none, none, none] h3 = .ok (.ref h3.length) (h3 ++ [.lst ((List.replicate (q0 + q1) ([] : List Nat)).map lstN)]) := by
      rw [← rep_lst]
      exact ev_new (ev_compM (emb := natT) (k := fun _ => T.lst []) (l := List.range (q0 + q1)) (ev_rng (by omega) (ev_var rfl)) fun x hx => ⟨[some (.ref d), some (natT most), some (natT rings), some (natT opens), some (.lst [natT q0, natT q1]), some (natT mm), some (natT (q0 + q1)), none, none, some (natT x), none, none, none, none, none, none, none], rfl, by rw [evE, evEs, R.bind_ok]⟩)
    refine (ss_par (xs := [.ref h3.length, lstN (List.range (2 * mm))]) (h' := h3 ++ [.lst ((List.replicate (q0 + q1) ([] : List Nat)).map lstN)]) (σ' := [some (.ref d), some (natT most), some (natT rings), some (natT opens), some (.lst [natT q0, natT q1]), some (natT mm), some (natT (q0 + q1)), some (.ref h3.length), some (lstN (List.range (2 * mm))), none, none, none, none, none, none, none, none]) (ev_cons c7 (ev_cons (ev_rngL (by omega) (ev_mulN (x := 2) (by omega) ev_con (ev_var rfl))) ev_nil)) rfl).trans ?_
    refine (ss_for (ev_rng (k := 2 * mm) (by omega) (ev_mulN (x := 2) (by omega) ev_con (ev_var rfl))) e5).trans ?_
    have f2 : freezeT h5 (.ref h3.length) = some (.lst (rows.map lstN), h5.set h3.length .dead) := by simp only [freezeT, l3]
    rw [evSs, evS]
    simp only [List.getElem?_cons_succ, List.getElem?_cons_zero, f2, O.seq_nx]
    show evSs call w _ [some (.ref d), some (natT most), some (natT rings), some (natT opens), some (.lst [natT q0, natT q1]), some (natT mm), some (natT (q0 + q1)), some (.lst (rows.map lstN)), s8, none, s10, s11, none, s13, none, none, none] (h5.set h3.length .dead) = _
    refine (ss_set (ev_tupOf e7 rfl) (by simp)).trans (ss_ret ?_)
    show evE call _ [some (.ref d), some (natT most), some (natT rings), some (natT opens), some (.lst [natT q0, natT q1]), some (natT mm), some (natT (q0 + q1)), some (.lst (rows.map lstN)), s8, none, s10, s11, none, s13, some (.tup (Sg.map T.int)), none, none] h7 = _
    have c16 : ∀ l : List Nat, ([some (.ref d), some (natT most), some (natT rings), some (natT opens), some (.lst [natT q0, natT q1]), some (natT mm), some (natT (q0 + q1)), some (.lst (rows.map lstN)), s8, none, s10, s11, none, s13, some (.tup (Sg.map T.int)), none, some (lstN l)] : Env)[16]? = some (some (lstN l)) := fun l => rfl
    have cr : evE call (.slc (.var 7) (some (.idx (.var 4) (.con (T.int 1)))) none) [some (.ref d), some (natT most), some (natT rings), some (natT opens), some (.lst [natT q0, natT q1]), some (natT mm), some (natT (q0 + q1)), some (.lst (rows.map lstN)), s8, none, s10, s11, none, s13, some (.tup (Sg.map T.int)), none, none] h7 = .ok (.lst ((rows.drop q1).map lstN)) h7 := by
      have := ev_slcL (call := call) (σ := [some (.ref d), some (natT most), some (natT rings), some (natT opens), some (.lst [natT q0, natT q1]), some (natT mm), some (natT (q0 + q1)), some (.lst (rows.map lstN)), s8, none, s10, s11, none, s13, some (.tup (Sg.map T.int)), none, none]) (h := h7) (a := .var 7) (xs := rows.map lstN) (ev_var rfl) (evO_nat (ix _ 1 h7 _ rfl rfl)) evO_none
      rw [cut_from (by simp [l1]), ← List.map_drop] at this
      exact this
    have co : evE call (.slc (.var 7) none (some (.idx (.var 4) (.con (T.int 1))))) [some (.ref d), some (natT most), some (natT rings), some (natT opens), some (.lst [natT q0, natT q1]), some (natT mm), some (natT (q0 + q1)), some (.lst (rows.map lstN)), s8, none, s10, s11, none, s13, some (.tup (Sg.map T.int)), none, none] h7 = .ok (.lst ((rows.take q1).map lstN)) h7 := by
      have := ev_slcL (call := call) (σ := [some (.ref d), some (natT most), some (natT rings), some (natT opens), some (.lst [natT q0, natT q1]), some (natT mm), some (natT (q0 + q1)), some (.lst (rows.map lstN)), s8, none, s10, s11, none, s13, some (.tup (Sg.map T.int)), none, none]) (h := h7) (a := .var 7) (xs := rows.map lstN) (ev_var rfl) evO_none (evO_nat (ix _ 1 h7 _ rfl rfl))
      rw [cut_to (by simp [l1]), ← List.map_take] at this
      exact this
    unfold drT
    refine ev_tup (ev_cons (h1 := h7) (ev_var rfl) (ev_cons (h1 := h7) ?_ (ev_cons (h1 := h7) ?_ ev_nil)))
    · rw [List.map_map]
      exact ev_tupOf (ev_compM (emb := lstN) (k := fun l => tupN (tidyN l)) (l := rows.drop q1) (walk_lstT cr) fun l hl => ⟨[some (.ref d), some (natT most), some (natT rings), some (natT opens), some (.lst [natT q0, natT q1]), some (natT mm), some (natT (q0 + q1)), some (.lst (rows.map lstN)), s8, none, s10, s11, none, s13, some (.tup (Sg.map T.int)), none, some (lstN l)], rfl, ev_call (zs := [lstN l]) (ev_cons (ev_var (c16 l)) ev_nil) ev_nil rfl (Et l h7 (hrl l (List.mem_of_mem_drop hl)))⟩) rfl
    · exact ev_tupOf (ev_compM (emb := lstN) (k := tupN) (l := rows.take q1) (walk_lstT co) fun l hl => ⟨[some (.ref d), some (natT most), some (natT rings), some (natT opens), some (.lst [natT q0, natT q1]), some (natT mm), some (natT (q0 + q1)), some (.lst (rows.map lstN)), s8, none, s10, s11, none, s13, some (.tup (Sg.map T.int)), none, some (lstN l)], rfl, ev_tupOf (x := lstN l) (ev_var (c16 l)) rfl⟩) rfl
  · obtain ⟨q, _, rfl⟩ := List.mem_map.mp hl
    exact tidy_idem
end
end SH
end

section
set_option autoImplicit false
set_option linter.all false
set_option maxRecDepth 100000
set_option maxHeartbeats 4000000
/-! Strandhues: changed drawings. -/
namespace SH
open PySem
def b_law_changed (c_law_roll : Nat) (c_law_pick : Nat) : List S := [.asg (.tup [.name 2, .name 3, .name 4]) (.var 1),
    .asg (.name 5) (.call c_law_roll [.var 0, .con (T.int 6)] [] [0, 1]),
    .ite (.cmp .eq (.var 5) (.con (T.int 0))) [.ret (.tup [.bin .add (.var 2) (.tup [.call c_law_pick [.var 0, .lst [.con (T.int 1), .neg (.con (T.int 1)), .con (T.int 0), .con (T.bl true)]] [] [0, 1]]), .var 3, .var 4])] [],
    .ite (.cmp .eq (.var 5) (.con (T.int 1))) [.ret (.tup [.var 2, .bin .add (.var 3) (.tup [.call c_law_pick [.var 0, .lst [.tup [], .tup [.con (T.int 0)], .lst [], .con (T.non), .tup [.con (T.int 1), .con (T.int 0)]]] [] [0, 1]]), .var 4])] [],
    .ite (.cmp .eq (.var 5) (.con (T.int 2))) [.ret (.tup [.var 2, .blt .tupleOf [.comp (.bin .add (.slc (.var 6) (some (.con (T.int 1))) none) (.slc (.var 6) none (some (.con (T.int 1))))) (.name 6) (.val (.var 3)) none [6]], .var 4])] [],
    .ite (.cmp .eq (.var 5) (.con (T.int 3))) [.ret (.tup [.var 2, .var 3, .blt .tupleOf [.comp (.slc (.var 6) (some (.con (T.int 1))) none) (.name 6) (.val (.var 4)) none [6]]])] [],
    .ite (.cmp .eq (.var 5) (.con (T.int 4))) [.ret (.tup [.var 2, .var 3, .var 4, .tup []])] [],
    .ret (.tup [.var 2, .blt .tupleOf [.comp (.blt .tupleOf [.comp (.ite (.cmp .ne (.var 7) (.con (T.int 0))) (.var 7) (.bin .mul (.con (T.int 0)) (.blt .len [.var 2]))) (.name 7) (.val (.var 6)) none [7]]) (.name 6) (.val (.var 3)) none [6]], .blt .tupleOf [.comp (.rev (.var 6)) (.name 6) (.val (.var 4)) none [6]]])]

theorem cut_from' {xs : List T} {p : Nat} : cutT xs (some (p : Nat)) none = xs.drop p := by
  by_cases h : p ≤ xs.length
  · exact cut_from h
  · unfold cutT
    rw [HT.sIx_nat, HT.sIx_none, Nat.min_eq_right (by omega), List.drop_of_length_le (Nat.le_refl _), List.drop_of_length_le (by omega)]
    simp
theorem cut_to' {xs : List T} {p : Nat} : cutT xs none (some (p : Nat)) = xs.take p := by
  by_cases h : p ≤ xs.length
  · exact cut_to h
  · unfold cutT
    rw [HT.sIx_nat, HT.sIx_none, Nat.min_eq_right (by omega)]
    simp
    rw [List.take_of_length_le (by omega)]
/-- a value that a drawing is changed to -/
def Chg (v : T) : Prop := (∃ S' R' O', v = valT S' R' O' ∧ (∀ x ∈ S', sgT x) ∧ S'.length ≤ 9 ∧ R'.length ≤ 5 ∧ O'.length ≤ 4 ∧ (∀ l, Sum.inl l ∈ R' → l.length ≤ 16) ∧ ∀ l ∈ O', l.length ≤ 16) ∨ ∃ a b c d, v = .tup [a, b, c, d]
theorem okD_sg {k : Nat} {x : T} (h : sgT x) : okD k x = true := by
  rcases h with ⟨v, rfl⟩ | ⟨b, rfl⟩ <;> simp only [okD]
theorem okD_val {S : List T} {R : List (List Nat ⊕ Bool)} {O : List (List Nat)} (h : ∀ x ∈ S, sgT x) : okD 50 (valT S R O) = true := by
  unfold valT
  simp only [okD, okDs, Bool.and_true, Bool.and_eq_true]
  exact ⟨okDs_all fun x hx => okD_sg (h x hx), okDs_all fun x hx => by obtain ⟨q, _, rfl⟩ := List.mem_map.mp hx; exact okD_ring, okD_rows⟩
section
variable {Φ : Prog} {w n f : Nat} {h : Hs}
theorem drawing_four {p q r t : Nat} {a b c d : T} (I : Is Φ f 1 6 (b_is_drawing p q r t)) (Iq : Is Φ q 3 3 b_is_tuple) : callN Φ w (n + 2) f [.tup [a, b, c, d]] h = .ok (.bl false) h := by
  have e1 := is_tuple_ok (w := w) (n := n) (h := h) (x := .tup [a, b, c, d]) (lo := 3) (hi := 3) Iq rfl
  exact I.rt0 rfl rfl (ss_if_ret (ev_or (x := true) (y := false) (ev_not (x := false) (ev_call (zs := [.tup [a, b, c, d], .int (3 : Nat), .int (3 : Nat)]) (ev_cons (ev_var rfl) (ev_cons ev_con (ev_cons ev_con ev_nil))) ev_nil rfl e1)) fun z => by cases z) ev_con)
theorem law_is_four {t : Nat} {a b c d : T} (I : Is Φ f 1 8 (b_law_is t)) : callN Φ w (n + 1) f [.tup [a, b, c, d]] h = .ok (.bl false) h :=
  I.rt0 rfl rfl (ss_if_ret (ev_or (y := true) (ev_notT (ev_isTup (x := .tup [a, b, c, d]) (ev_var rfl) rfl)) fun _ => ev_or (x := true) (y := false) (ev_lenC' (c := 3) (xs := [a, b, c, d]) (ev_var rfl)) fun z => by cases z) ev_con)
theorem chg_same {p q r t lt fd fi : Nat} {v : T} (Id : Is Φ fd 1 6 (b_is_drawing p q r t)) (Ip : Is Φ p 3 3 b_is_in) (Iq : Is Φ q 3 3 b_is_tuple) (Ir : Is Φ r 1 1 (b_is_sign p)) (It : Is Φ t 1 2 b_tidied_ring) (Ii : Is Φ fi 1 8 (b_law_is lt)) (Ilt : Is Φ lt 1 2 b_law_tidy) (hv : Chg v) :
    ∃ b : Bool, callN Φ w (n + 3) fd [v] h = .ok (.bl b) h ∧ callN Φ w (n + 3) fi [v] h = .ok (.bl b) h := by
  rcases hv with ⟨S', R', O', rfl, h1, h2, h3, h4, h5, h6⟩ | ⟨a, b, c, d, rfl⟩
  · exact ⟨drV S' R' O', is_drawing_ok (w := w) (n := n) (h := h) Id Ip Iq Ir It (fun x hx => okD_sg (h1 x hx)) (by omega) (by omega) (by omega) (fun l hl => by have := h5 l hl; omega) (fun l hl => by have := h6 l hl; omega),
      law_is_ok (w := w) (n := n + 1) (h := h) Ii Ilt h1 (by omega) (by omega) (by omega) (fun l hl => by have := h5 l hl; omega) (fun l hl => by have := h6 l hl; omega)⟩
  · exact ⟨false, drawing_four (w := w) (n := n + 1) Id Iq, law_is_four (w := w) (n := n + 2) Ii⟩
def oddRings : List (List Nat ⊕ Bool) := [.inl [], .inl [0], .inr true, .inr false, .inl [1, 0]]
def oddSigns : List T := [.int 1, .int (-1), .int 0, .bl true]
theorem law_changed_ok {r p d m : Nat} {nm nd nt nm' nd' nt' nf' : Str} {S : List Int} {R O : List (List Nat)} (I : Is Φ f 2 8 (b_law_changed r p)) (hp : Φ[p]? = some (f_pick nm nd nt r)) (hr : Φ[r]? = some (f_roll nm' nd' nt' nf')) (D : Dice h d m) (g : GoodD S R O) (hm : m + 10 < 1000000000) :
    ∃ v h', callN Φ w (n + 3) f [.ref d, drT S R O] h = .ok v h' ∧ Chg v ∧ okD 60 v = true ∧ Dice h' d (m + 2) ∧ But d h h' := by
  have hL : LINE = 16777216 := rfl
  have g8 := g.s8
  have g4 := g.r4
  have g5 := g.o4
  have gr := g.row
  obtain ⟨k, ha, hk, e1, D1, B1⟩ := roll_nat (w := w) (n := n + 1) (total := 6) hr D (by omega) (by omega) (by omega)
  have sgS : ∀ x ∈ S.map T.int, sgT x := fun x hx => by obtain ⟨i, _, rfl⟩ := List.mem_map.mp hx; exact .inl ⟨i, rfl⟩
  have E2 : ∀ (xs : List T), xs ≠ [] → xs.length < 1000 → okDs 59 xs = true → ∃ t h', t ∈ xs ∧ callN Φ w (n + 2) p [.ref d, .lst xs] ha = .ok t h' ∧ Dice h' d (m + 2) ∧ But d ha h' := fun xs h0 h1 h2 => by
    obtain ⟨i, t, h', ei, ec, D', B⟩ := pick_ok (w := w) (n := n) hp hr D1 (xs := xs) h0 (by omega) h2 (by omega)
    exact ⟨t, h', List.mem_of_getElem? ei, ec, D', B⟩
  have fin : ∀ (v : T) (h' : Hs), Chg v → okD 60 v = true → Dice h' d (m + 2) → But d ha h' → evSs (callN Φ w (n + 2)) w (b_law_changed r p) (st0 [.ref d, drT S R O] 8) h = .rt v h' → ∃ v h', callN Φ w (n + 3) f [.ref d, drT S R O] h = .ok v h' ∧ Chg v ∧ okD 60 v = true ∧ Dice h' d (m + 2) ∧ But d h h' := fun v h' hc ho hD hB he =>
    ⟨v, h', (I.rt rfl ho he).trans (by rw [← B1.1, ← hB.1, List.take_length]), hc, ho, hD, B1.trans hB⟩
  generalize callN Φ w (n + 2) = call at e1 E2 fin
  have t6 : natT 6 = T.int 6 := rfl
  have go : evSs call w (b_law_changed r p) (st0 [.ref d, drT S R O] 8) h = evSs call w ((b_law_changed r p).drop 2) [some (.ref d), some (drT S R O), some (.tup (S.map T.int)), some (.tup (R.map tupN)), some (.tup (O.map tupN)), some (natT k), none, none] ha :=
    (ss_asg (x := drT S R O) (h' := h) (ev_var rfl) rfl).trans (ss_set (ev_call (zs := [.ref d, natT 6]) (ev_cons (ev_var rfl) (ev_cons ev_con ev_nil)) ev_nil rfl e1) (by simp))
  have ck : ∀ i : Nat, evE call (.cmp .eq (.var 5) (.con (T.int (i : Nat)))) [some (.ref d), some (drT S R O), some (.tup (S.map T.int)), some (.tup (R.map tupN)), some (.tup (O.map tupN)), some (natT k), none, none] ha = .ok (.bl (decide (k = i))) ha := fun i => ev_eqN (y := i) (ev_var rfl) ev_con
  have v2 : ∀ hh, evE call (.var 2) [some (.ref d), some (drT S R O), some (.tup (S.map T.int)), some (.tup (R.map tupN)), some (.tup (O.map tupN)), some (natT k), none, none] hh = .ok (.tup (S.map T.int)) hh := fun hh => ev_var rfl
  have v3 : ∀ hh, evE call (.var 3) [some (.ref d), some (drT S R O), some (.tup (S.map T.int)), some (.tup (R.map tupN)), some (.tup (O.map tupN)), some (natT k), none, none] hh = .ok (.tup (R.map tupN)) hh := fun hh => ev_var rfl
  have v4 : ∀ hh, evE call (.var 4) [some (.ref d), some (drT S R O), some (.tup (S.map T.int)), some (.tup (R.map tupN)), some (.tup (O.map tupN)), some (natT k), none, none] hh = .ok (.tup (O.map tupN)) hh := fun hh => ev_var rfl
  have hR16 : ∀ l, Sum.inl l ∈ R.map (Sum.inl (β := Bool)) → l.length ≤ 16 := fun l hl => by
    obtain ⟨q, hq, e⟩ := List.mem_map.mp hl
    cases e
    exact gr l (List.mem_append_left _ hq)
  have hO16 : ∀ l ∈ O, l.length ≤ 16 := fun l hl => gr l (List.mem_append_right _ hl)
  by_cases z0 : k = 0
  · obtain ⟨t, h', ht, et, Dt, Bt⟩ := E2 oddSigns (by simp [oddSigns]) (by simp [oddSigns]) (by decide)
    have st : sgT t := by
      simp only [oddSigns, List.mem_cons, List.not_mem_nil, or_false] at ht
      rcases ht with rfl | rfl | rfl | rfl
      · exact .inl ⟨_, rfl⟩
      · exact .inl ⟨_, rfl⟩
      · exact .inl ⟨_, rfl⟩
      · exact .inr ⟨_, rfl⟩
    have hs : ∀ x ∈ S.map T.int ++ [t], sgT x := fun x hx => by
      rcases List.mem_append.mp hx with hx | hx
      · exact sgS x hx
      · simp at hx; subst hx; exact st
    refine fin (valT (S.map T.int ++ [t]) (R.map Sum.inl) O) h' (.inl ⟨_, _, _, rfl, hs, by simp; omega, by simp; omega, g5, hR16, hO16⟩) (okD_add (okD_val hs) 10) Dt Bt (go.trans ?_)
    refine ss_if_ret ((ck 0).trans (by rw [decide_eq_true z0])) ?_
    unfold valT
    rw [ringT_inl]
    refine ev_tup (ev_cons (h1 := h') (ev_addT (h1 := ha) (v2 ha) (ev_tup (ev_cons (h1 := h') (ev_call (zs := [.ref d, .lst oddSigns]) (ev_cons (ev_var rfl) (ev_cons ?_ ev_nil)) ev_nil rfl et) ev_nil)) (by simp; omega)) (ev_cons (v3 h') (ev_cons (v4 h') ev_nil)))
    rw [evE, ev_cons ev_con (ev_cons (x := .int (-1)) (h1 := ha) (by rw [evE, ev_con, SH.R.bind_ok]) (ev_cons ev_con (ev_cons ev_con ev_nil))), SH.R.bind_ok]; rfl
  · have f0 := ss_if_f (call := call) (w := w) (a := [.ret (.tup [.bin .add (.var 2) (.tup [.call p [.var 0, .lst [.con (T.int 1), .neg (.con (T.int 1)), .con (T.int 0), .con (T.bl true)]] [] [0, 1]]), .var 3, .var 4])]) (ss := (b_law_changed r p).drop 3) ((ck 0).trans (by rw [decide_eq_false z0]))
    have go := go.trans f0
    by_cases z1 : k = 1
    · obtain ⟨t, h', ht, et, Dt, Bt⟩ := E2 (oddRings.map ringT) (by simp [oddRings]) (by simp [oddRings]) (by decide)
      obtain ⟨x, hx, rfl⟩ := List.mem_map.mp ht
      have hx16 : ∀ l, Sum.inl l ∈ R.map (Sum.inl (β := Bool)) ++ [x] → l.length ≤ 16 := fun l hl => by
        rcases List.mem_append.mp hl with hl | hl
        · exact hR16 l hl
        · simp at hl
          subst hl
          simp only [oddRings, List.mem_cons, List.not_mem_nil, or_false, Sum.inl.injEq, reduceCtorEq, false_or] at hx
          rcases hx with rfl | rfl | rfl <;> simp
      refine fin (valT (S.map T.int) (R.map Sum.inl ++ [x]) O) h' (.inl ⟨_, _, _, rfl, sgS, by simp; omega, by simp; omega, g5, hx16, hO16⟩) (okD_add (okD_val sgS) 10) Dt Bt (go.trans ?_)
      refine ss_if_ret ((ck 1).trans (by rw [decide_eq_true z1])) ?_
      unfold valT
      rw [List.map_append, ringT_inl]
      refine ev_tup (ev_cons (v2 ha) (ev_cons (h1 := h') (ev_addT (h1 := ha) (v3 ha) (ev_tup (ev_cons (h1 := h') (ev_call (zs := [.ref d, .lst (oddRings.map ringT)]) (ev_cons (ev_var rfl) (ev_cons ?_ ev_nil)) ev_nil rfl et) ev_nil)) (by simp; omega)) (ev_cons (v4 h') ev_nil)))
      rw [evE, ev_cons (ev_tup ev_nil) (ev_cons (ev_tup (ev_cons ev_con ev_nil)) (ev_cons (x := .lst []) (h1 := ha) (by rw [evE, evEs, SH.R.bind_ok]) (ev_cons ev_con (ev_cons (ev_tup (ev_cons ev_con (ev_cons ev_con ev_nil))) ev_nil)))), SH.R.bind_ok]; rfl
    · have f1 := ss_if_f (call := call) (w := w) (a := [.ret (.tup [.var 2, .bin .add (.var 3) (.tup [.call p [.var 0, .lst [.tup [], .tup [.con (T.int 0)], .lst [], .con (T.non), .tup [.con (T.int 1), .con (T.int 0)]]] [] [0, 1]]), .var 4])]) (ss := (b_law_changed r p).drop 4) ((ck 1).trans (by rw [decide_eq_false z1]))
      have go := go.trans f1
      by_cases z2 : k = 2
      · have hx16 : ∀ l, Sum.inl l ∈ (R.map fun l => l.drop 1 ++ l.take 1).map (Sum.inl (β := Bool)) → l.length ≤ 16 := fun l hl => by
          obtain ⟨q, hq, e⟩ := List.mem_map.mp hl
          cases e
          obtain ⟨l', hl', rfl⟩ := List.mem_map.mp hq
          have := gr l' (List.mem_append_left _ hl')
          simp; omega
        refine fin (valT (S.map T.int) ((R.map fun l => l.drop 1 ++ l.take 1).map Sum.inl) O) ha (.inl ⟨_, _, _, rfl, sgS, by simp; omega, by simp; omega, g5, hx16, hO16⟩) (okD_add (okD_val sgS) 10) (D1.le (by omega)) (But.refl _ _) (go.trans ?_)
        refine ss_if_ret ((ck 2).trans (by rw [decide_eq_true z2])) ?_
        unfold valT
        rw [ringT_inl, List.map_map]
        refine ev_tup (ev_cons (v2 ha) (ev_cons (h1 := ha) (ev_tupOf (ev_compM (emb := tupN) (k := fun l => tupN (l.drop 1 ++ l.take 1)) (l := R) (walk_tupT (v3 ha)) fun l hl => ⟨[some (.ref d), some (drT S R O), some (.tup (S.map T.int)), some (.tup (R.map tupN)), some (.tup (O.map tupN)), some (natT k), some (tupN l), none], rfl, ?_⟩) rfl) (ev_cons (v4 ha) ev_nil)))
        have hl16 := gr l (List.mem_append_left _ hl)
        have := ev_addT (ev_slcT (call := call) (σ := [some (.ref d), some (drT S R O), some (.tup (S.map T.int)), some (.tup (R.map tupN)), some (.tup (O.map tupN)), some (natT k), some (tupN l), none]) (h := ha) (a := .var 6) (xs := l.map natT) (ev_var rfl) (evO_nat (k := 1) (e := .con (T.int 1)) ev_con) evO_none) (ev_slcT (a := .var 6) (xs := l.map natT) (ev_var rfl) evO_none (evO_nat (k := 1) (e := .con (T.int 1)) ev_con)) (by
          have q1 := cutM_len (xs := l.map natT) (lo := some ((1 : Nat) : Int)) (hi := none)
          have q2 := cutM_len (xs := l.map natT) (lo := none) (hi := some ((1 : Nat) : Int))
          rw [List.length_map] at q1 q2
          omega)
        rw [cut_from', cut_to', ← List.map_drop, ← List.map_take, ← List.map_append] at this
        exact this
      · have f2 := ss_if_f (call := call) (w := w) (a := [.ret (.tup [.var 2, .blt .tupleOf [.comp (.bin .add (.slc (.var 6) (some (.con (T.int 1))) none) (.slc (.var 6) none (some (.con (T.int 1))))) (.name 6) (.val (.var 3)) none [6]], .var 4])]) (ss := (b_law_changed r p).drop 5) ((ck 2).trans (by rw [decide_eq_false z2]))
        have go := go.trans f2
        by_cases z3 : k = 3
        · have hx16 : ∀ l ∈ O.map fun l => l.drop 1, l.length ≤ 16 := fun l hl => by
            obtain ⟨l', hl', rfl⟩ := List.mem_map.mp hl
            have := hO16 l' hl'
            simp; omega
          refine fin (valT (S.map T.int) (R.map Sum.inl) (O.map fun l => l.drop 1)) ha (.inl ⟨_, _, _, rfl, sgS, by simp; omega, by simp; omega, by simp; omega, hR16, hx16⟩) (okD_add (okD_val sgS) 10) (D1.le (by omega)) (But.refl _ _) (go.trans ?_)
          refine ss_if_ret ((ck 3).trans (by rw [decide_eq_true z3])) ?_
          unfold valT
          rw [ringT_inl, List.map_map]
          refine ev_tup (ev_cons (v2 ha) (ev_cons (v3 ha) (ev_cons (h1 := ha) (ev_tupOf (ev_compM (emb := tupN) (k := fun l => tupN (l.drop 1)) (l := O) (walk_tupT (v4 ha)) fun l hl => ⟨[some (.ref d), some (drT S R O), some (.tup (S.map T.int)), some (.tup (R.map tupN)), some (.tup (O.map tupN)), some (natT k), some (tupN l), none], rfl, ?_⟩) rfl) ev_nil)))
          have := ev_slcT (call := call) (σ := [some (.ref d), some (drT S R O), some (.tup (S.map T.int)), some (.tup (R.map tupN)), some (.tup (O.map tupN)), some (natT k), some (tupN l), none]) (h := ha) (a := .var 6) (xs := l.map natT) (ev_var rfl) (evO_nat (k := 1) (e := .con (T.int 1)) ev_con) evO_none
          rw [cut_from', ← List.map_drop] at this
          exact this
        · have f3 := ss_if_f (call := call) (w := w) (a := [.ret (.tup [.var 2, .var 3, .blt .tupleOf [.comp (.slc (.var 6) (some (.con (T.int 1))) none) (.name 6) (.val (.var 4)) none [6]]])]) (ss := (b_law_changed r p).drop 6) ((ck 3).trans (by rw [decide_eq_false z3]))
          have go := go.trans f3
          by_cases z4 : k = 4
          · refine fin (.tup [.tup (S.map T.int), .tup (R.map tupN), .tup (O.map tupN), .tup []]) ha (.inr ⟨_, _, _, _, rfl⟩) ?_ (D1.le (by omega)) (But.refl _ _) (go.trans ?_)
            · simp only [okD, okDs, Bool.and_true, Bool.and_eq_true]
              exact ⟨okDs_all fun x hx => okD_sg (sgS x hx), okD_rows, okD_rows⟩
            · exact ss_if_ret ((ck 4).trans (by rw [decide_eq_true z4])) (ev_tup (ev_cons (v2 ha) (ev_cons (v3 ha) (ev_cons (v4 ha) (ev_cons (ev_tup ev_nil) ev_nil)))))
          · have f4 := ss_if_f (call := call) (w := w) (a := [.ret (.tup [.var 2, .var 3, .var 4, .tup []])]) (ss := (b_law_changed r p).drop 7) ((ck 4).trans (by rw [decide_eq_false z4]))
            have go := go.trans f4
            have hx16 : ∀ l ∈ O.map List.reverse, l.length ≤ 16 := fun l hl => by
              obtain ⟨l', hl', rfl⟩ := List.mem_map.mp hl
              have := hO16 l' hl'
              simpa using this
            refine fin (valT (S.map T.int) (R.map Sum.inl) (O.map List.reverse)) ha (.inl ⟨_, _, _, rfl, sgS, by simp; omega, by simp; omega, by simp; omega, hR16, hx16⟩) (okD_add (okD_val sgS) 10) (D1.le (by omega)) (But.refl _ _) (go.trans (ss_ret ?_))
            unfold valT
            rw [ringT_inl, List.map_map]
            refine ev_tup (ev_cons (v2 ha) (ev_cons (h1 := ha) (ev_tupOf (ev_compM (emb := tupN) (k := tupN) (l := R) (walk_tupT (v3 ha)) fun l hl => ⟨[some (.ref d), some (drT S R O), some (.tup (S.map T.int)), some (.tup (R.map tupN)), some (.tup (O.map tupN)), some (natT k), some (tupN l), none], rfl, ?_⟩) rfl) (ev_cons (h1 := ha) (ev_tupOf (ev_compM (emb := tupN) (k := fun l => tupN l.reverse) (l := O) (walk_tupT (v4 ha)) fun l hl => ⟨[some (.ref d), some (drT S R O), some (.tup (S.map T.int)), some (.tup (R.map tupN)), some (.tup (O.map tupN)), some (natT k), some (tupN l), none], rfl, ?_⟩) rfl) ev_nil)))
            · refine ev_tupOf (ev_compM (emb := natT) (k := natT) (l := l) (walk_tupT (ev_var rfl)) fun x hx => ⟨[some (.ref d), some (drT S R O), some (.tup (S.map T.int)), some (.tup (R.map tupN)), some (.tup (O.map tupN)), some (natT k), some (tupN l), some (natT x)], rfl, ?_⟩) rfl
              refine ev_ite (ev_neN (x := x) (y := 0) (ev_var rfl) ev_con) (fun _ => ev_var rfl) fun q => ?_
              have hx0 : x = 0 := by simpa using q
              subst hx0
              have := ev_mulN (call := call) (σ := [some (.ref d), some (drT S R O), some (.tup (S.map T.int)), some (.tup (R.map tupN)), some (.tup (O.map tupN)), some (natT k), some (tupN l), some (natT 0)]) (h := ha) (x := 0) (a := .con (T.int 0)) (b := .blt .len [.var 2]) (by omega) ev_con (ev_len (xs := S.map T.int) (ev_var rfl))
              rw [Nat.zero_mul] at this
              exact this
            · rw [evE, ev_var (i := 6) rfl, SH.R.bind_ok]
              simp only [tupN, revT, List.map_reverse]; rfl
end
end SH
end

section
set_option maxRecDepth 100000
namespace k00
open SH PySem
def f_demand : FD := { name := (Str.ofString "demand"), params := [(Str.ofString "is_good"), (Str.ofString "name")], names := [(Str.ofString "is_good"), (Str.ofString "name")], body := [.ite (.notE (.var 0)) [.raise 0 (.var 1)] []] }
def f_is_in : FD := { name := (Str.ofString "is_in"), params := [(Str.ofString "value"), (Str.ofString "low"), (Str.ofString "high")], names := [(Str.ofString "value"), (Str.ofString "low"), (Str.ofString "high")], body := [.ret (.andE (.isi (.var 0) .int) (.andE (.notE (.isi (.var 0) .bool)) (.cmp2 .le .le (.var 1) (.var 0) (.var 2))))] }
def f_is_tuple : FD := { name := (Str.ofString "is_tuple"), params := [(Str.ofString "value"), (Str.ofString "least"), (Str.ofString "most")], names := [(Str.ofString "value"), (Str.ofString "least"), (Str.ofString "most")], body := [.ret (.andE (.isi (.var 0) .tuple) (.cmp2 .le .le (.var 1) (.blt .len [.var 0]) (.var 2)))] }
def f_is_sign : FD := { name := (Str.ofString "is_sign"), params := [(Str.ofString "value")], names := [(Str.ofString "value")], body := [.ret (.andE (.call 1 [.var 0, .neg (.con (T.int 1)), .con (T.int 1)] [] [0, 1, 2]) (.cmp .ne (.var 0) (.con (T.int 0))))] }
def f_over : FD := { name := (Str.ofString "over"), params := [(Str.ofString "crossing")], names := [(Str.ofString "crossing")], body := [.ret (.bin .mul (.con (T.int 2)) (.var 0))] }
def f_under : FD := { name := (Str.ofString "under"), params := [(Str.ofString "crossing")], names := [(Str.ofString "crossing")], body := [.ret (.bin .add (.bin .mul (.con (T.int 2)) (.var 0)) (.con (T.int 1)))] }
def f_is_under : FD := { name := (Str.ofString "is_under"), params := [(Str.ofString "one")], names := [(Str.ofString "one")], body := [.ret (.cmp .eq (.bin .mod (.var 0) (.con (T.int 2))) (.con (T.int 1)))] }
def f_tidied_ring : FD := { name := (Str.ofString "tidied_ring"), params := [(Str.ofString "ring")], names := [(Str.ofString "ring"), (Str.ofString "place")], body := [.ite (.cmp .eq (.blt .len [.var 0]) (.con (T.int 0))) [.ret (.tup [])] [],
    .asg (.name 1) (.idxOf (.var 0) (.blt .minL [.var 0])),
    .ret (.blt .tupleOf [.bin .add (.slc (.var 0) (some (.var 1)) none) (.slc (.var 0) none (some (.var 1)))])] }
def f_is_drawing : FD := { name := (Str.ofString "is_drawing"), params := [(Str.ofString "value")], names := [(Str.ofString "value"), (Str.ofString "own"), (Str.ofString "many"), (Str.ofString "passes"), (Str.ofString "good"), (Str.ofString "one")], body := [.ite (.orE (.notE (.call 2 [.var 0, .con (T.int 3), .con (T.int 3)] [] [0, 1, 2])) (.notE (.call 2 [.idx (.var 0) (.con (T.int 0)), .con (T.int 0), .glo 0 (T.int 8)] [] [0, 1, 2]))) [.ret (.con (T.bl false))] [],
    .ite (.orE (.notE (.blt .allL [.comp (.call 3 [.var 1] [] [0]) (.name 1) (.val (.idx (.var 0) (.con (T.int 0)))) none [1]])) (.notE (.call 2 [.idx (.var 0) (.con (T.int 1)), .con (T.int 0), .glo 1 (T.int 4)] [] [0, 1, 2]))) [.ret (.con (T.bl false))] [],
    .asg (.name 2) (.bin .mul (.con (T.int 2)) (.blt .len [.idx (.var 0) (.con (T.int 0))])),
    .ite (.orE (.notE (.call 2 [.idx (.var 0) (.con (T.int 2)), .con (T.int 0), .glo 2 (T.int 4)] [] [0, 1, 2])) (.notE (.blt .allL [.comp (.call 2 [.var 1, .con (T.int 0), .var 2] [] [0, 1, 2]) (.name 1) (.val (.bin .add (.idx (.var 0) (.con (T.int 1))) (.idx (.var 0) (.con (T.int 2))))) none [1]]))) [.ret (.con (T.bl false))] [],
    .asg (.name 3) (.new (.lst [])),
    .forS (.name 1) (.val (.bin .add (.idx (.var 0) (.con (T.int 1))) (.idx (.var 0) (.con (T.int 2))))) [.ext (.var 3) (.var 1)],
    .freeze 3,
    .asg (.name 4) (.andE (.blt .allL [.comp (.call 1 [.var 5, .con (T.int 0), .bin .sub (.var 2) (.con (T.int 1))] [] [0, 1, 2]) (.name 5) (.val (.var 3)) none [5]]) (.cmp .eq (.blt .sorted [.var 3]) (.rng false [.var 2]))),
    .ret (.andE (.var 4) (.blt .allL [.comp (.cmp .eq (.call 7 [.var 1] [] [0]) (.var 1)) (.name 1) (.val (.idx (.var 0) (.con (T.int 1)))) none [1]]))] }
def f_demand_drawing : FD := { name := (Str.ofString "demand_drawing"), params := [(Str.ofString "drawing"), (Str.ofString "name")], names := [(Str.ofString "drawing"), (Str.ofString "name")], body := [.drop (.call 0 [.call 8 [.var 0] [] [0], .var 1] [] [0, 1])] }
def f_strands_of : FD := { name := (Str.ofString "strands_of"), params := [(Str.ofString "drawing")], names := [(Str.ofString "drawing")], body := [.ret (.bin .add (.idx (.var 0) (.con (T.int 2))) (.idx (.var 0) (.con (T.int 1))))] }
def f_strand_of : FD := { name := (Str.ofString "strand_of"), params := [(Str.ofString "drawing"), (Str.ofString "one")], names := [(Str.ofString "drawing"), (Str.ofString "one"), (Str.ofString "number"), (Str.ofString "own")], body := [.forS (.tup [.name 2, .name 3]) (.enum (.call 10 [.var 0] [] [0])) [.ite (.cmp .isin (.var 1) (.var 3)) [.ret (.tup [.var 2, .idxOf (.var 3) (.var 1)])] []],
    .ret (.con (T.non))] }
def f_crossings : FD := { name := (Str.ofString "crossings"), params := [(Str.ofString "drawing")], names := [(Str.ofString "drawing")], body := [.drop (.call 9 [.var 0, .con (T.str (Str.ofString "drawing"))] [] [0, 1]),
    .ret (.blt .len [.idx (.var 0) (.con (T.int 0))])] }
def f_strands : FD := { name := (Str.ofString "strands"), params := [(Str.ofString "drawing")], names := [(Str.ofString "drawing")], body := [.drop (.call 9 [.var 0, .con (T.str (Str.ofString "drawing"))] [] [0, 1]),
    .ret (.call 10 [.var 0] [] [0])] }
def f_where : FD := { name := (Str.ofString "where"), params := [(Str.ofString "drawing"), (Str.ofString "one")], names := [(Str.ofString "drawing"), (Str.ofString "one")], body := [.drop (.call 9 [.var 0, .con (T.str (Str.ofString "drawing"))] [] [0, 1]),
    .drop (.call 0 [.call 1 [.var 1, .con (T.int 0), .bin .sub (.bin .mul (.con (T.int 2)) (.blt .len [.idx (.var 0) (.con (T.int 0))])) (.con (T.int 1))] [] [0, 1, 2], .con (T.str (Str.ofString "one"))] [] [0, 1]),
    .ret (.call 11 [.var 0, .var 1] [] [0, 1])] }
def f_over_sum : FD := { name := (Str.ofString "over_sum"), params := [(Str.ofString "drawing"), (Str.ofString "one"), (Str.ofString "other")], names := [(Str.ofString "drawing"), (Str.ofString "one"), (Str.ofString "other"), (Str.ofString "many")], body := [.drop (.call 9 [.var 0, .con (T.str (Str.ofString "drawing"))] [] [0, 1]),
    .asg (.name 3) (.blt .len [.call 10 [.var 0] [] [0]]),
    .drop (.call 0 [.call 1 [.var 1, .con (T.int 0), .bin .sub (.var 3) (.con (T.int 1))] [] [0, 1, 2], .con (T.str (Str.ofString "one"))] [] [0, 1]),
    .drop (.call 0 [.call 1 [.var 2, .con (T.int 0), .bin .sub (.var 3) (.con (T.int 1))] [] [0, 1, 2], .con (T.str (Str.ofString "other"))] [] [0, 1]),
    .ret (.call 16 [.var 0, .var 1, .var 2] [] [0, 1, 2])] }
def f_over_sum_of : FD := { name := (Str.ofString "over_sum_of"), params := [(Str.ofString "drawing"), (Str.ofString "one"), (Str.ofString "other")], names := [(Str.ofString "drawing"), (Str.ofString "one"), (Str.ofString "other"), (Str.ofString "first"), (Str.ofString "second"), (Str.ofString "crossing"), (Str.ofString "sign")], body := [.par [3, 4] [.idx (.call 10 [.var 0] [] [0]) (.var 1), .idx (.call 10 [.var 0] [] [0]) (.var 2)],
    .ret (.blt .sumL [.comp (.var 6) (.tup [.name 5, .name 6]) (.enum (.idx (.var 0) (.con (T.int 0)))) (some (.andE (.cmp .isin (.call 4 [.var 5] [] [0]) (.var 3)) (.cmp .isin (.call 5 [.var 5] [] [0]) (.var 4)))) [5, 6]])] }
def f_over_sums : FD := { name := (Str.ofString "over_sums"), params := [(Str.ofString "drawing")], names := [(Str.ofString "drawing"), (Str.ofString "many"), (Str.ofString "found"), (Str.ofString "one"), (Str.ofString "other")], body := [.drop (.call 9 [.var 0, .con (T.str (Str.ofString "drawing"))] [] [0, 1]),
    .par [1, 2] [.blt .len [.call 10 [.var 0] [] [0]], .new (.lst [])],
    .forS (.name 3) (.rng [.var 1]) [.ext (.var 2) (.comp (.call 16 [.var 0, .var 3, .var 4] [] [0, 1, 2]) (.name 4) (.rng [.var 1]) (some (.cmp .ne (.var 4) (.var 3))) [4])],
    .freeze 2,
    .ret (.blt .tupleOf [.var 2])] }
def f_passes_under : FD := { name := (Str.ofString "passes_under"), params := [(Str.ofString "drawing")], names := [(Str.ofString "drawing"), (Str.ofString "one"), (Str.ofString "own")], body := [.drop (.call 9 [.var 0, .con (T.str (Str.ofString "drawing"))] [] [0, 1]),
    .ret (.blt .tupleOf [.comp (.blt .len [.comp (.con (T.int 1)) (.name 1) (.val (.var 2)) (some (.call 6 [.var 1] [] [0])) [1]]) (.name 2) (.val (.call 10 [.var 0] [] [0])) none [2]])] }
def f_strings : FD := { name := (Str.ofString "strings"), params := [(Str.ofString "drawing")], names := [(Str.ofString "drawing")], body := [.drop (.call 9 [.var 0, .con (T.str (Str.ofString "drawing"))] [] [0, 1]),
    .ret (.slc (.call 10 [.var 0] [] [0]) none (some (.blt .len [.idx (.var 0) (.con (T.int 2))])))] }
def f_law_dice : FD := { name := (Str.ofString "_law_dice"), params := [(Str.ofString "script"), (Str.ofString "spot")], names := [(Str.ofString "script"), (Str.ofString "spot"), (Str.ofString "own"), (Str.ofString "mixed"), (Str.ofString "cell")], fresh := true, body := [.asg (.name 2) (.ite (.cmp .lt (.var 1) (.blt .len [.var 0])) (.idx (.var 0) (.var 1)) (.bin .add (.bin .mul (.con (T.int 811)) (.var 1)) (.con (T.int 37)))),
    .asg (.name 3) (.bin .add (.con (T.int 700001)) (.bin .mul (.con (T.int 6947)) (.var 1))),
    .forS (.name 4) (.val (.bin .add (.slc (.var 0) none (some (.con (T.int 6)))) (.lst [.var 2]))) [.asg (.name 3) (.bin .mod (.blt .intOf [.bin .add (.bin .mul (.var 3) (.con (T.int 69621))) (.bin .mod (.blt .intOf [.var 4]) (.con (T.int 2147480009)))]) (.con (T.int 2147480009)))],
    .ret (.new (.lst [.ite (.orE (.cmp .lt (.var 2) (.con (T.int 0))) (.cmp .ge (.var 2) (.bin .pow (.con (T.int 10)) (.con (T.int 16))))) (.blt .absI [.var 2]) (.con (T.int 0)), .var 3, .con (T.int 0)]))] }
def f_law_roll : FD := { name := (Str.ofString "_law_roll"), params := [(Str.ofString "dice"), (Str.ofString "total")], names := [(Str.ofString "dice"), (Str.ofString "total"), (Str.ofString "found")], body := [.ite (.cmp .gt (.idx (.var 0) (.con (T.int 0))) (.con (T.int 0))) [.asg (.name 2) (.bin .mod (.blt .intOf [.idx (.var 0) (.con (T.int 0))]) (.var 1)),
    .setI (.var 0) (.con (T.int 0)) (.bin .fdiv (.idx (.var 0) (.con (T.int 0))) (.var 1)),
    .ret (.var 2)] [],
    .setI (.var 0) (.con (T.int 2)) (.bin .add (.idx (.var 0) (.con (T.int 2))) (.con (T.int 1))),
    .setI (.var 0) (.con (T.int 1)) (.bin .mod (.blt .intOf [.bin .add (.bin .add (.bin .mul (.idx (.var 0) (.con (T.int 1))) (.con (T.int 48271))) (.bin .mul (.bin .mul (.idx (.var 0) (.con (T.int 2))) (.idx (.var 0) (.con (T.int 2)))) (.con (T.int 2003)))) (.con (T.int 91))]) (.con (T.int 2147480009))),
    .ret (.bin .mod (.blt .intOf [.bin .fdiv (.idx (.var 0) (.con (T.int 1))) (.con (T.int 197))]) (.var 1))] }
def f_law_pick : FD := { name := (Str.ofString "_law_pick"), params := [(Str.ofString "dice"), (Str.ofString "things")], names := [(Str.ofString "dice"), (Str.ofString "things")], body := [.ret (.idx (.var 1) (.call 21 [.var 0, .blt .len [.var 1]] [] [0, 1]))] }
def f_law_tidy : FD := { name := (Str.ofString "_law_tidy"), params := [(Str.ofString "row")], names := [(Str.ofString "row"), (Str.ofString "at")], body := [.ite (.cmp .eq (.blt .len [.var 0]) (.con (T.int 0))) [.ret (.tup [])] [],
    .asg (.name 1) (.idxOf (.blt .listOf [.var 0]) (.blt .minL [.var 0])),
    .ret (.blt .tupleOf [.bin .add (.slc (.blt .listOf [.var 0]) (some (.var 1)) none) (.slc (.blt .listOf [.var 0]) none (some (.var 1)))])] }
def f_law_drawing : FD := { name := (Str.ofString "_law_drawing"), params := [(Str.ofString "dice"), (Str.ofString "most"), (Str.ofString "rings"), (Str.ofString "opens")], names := [(Str.ofString "dice"), (Str.ofString "most"), (Str.ofString "rings"), (Str.ofString "opens"), (Str.ofString "kinds"), (Str.ofString "many"), (Str.ofString "total"), (Str.ofString "rows"), (Str.ofString "left"), (Str.ofString "strand"), (Str.ofString "turn"), (Str.ofString "own"), (Str.ofString "one"), (Str.ofString "at"), (Str.ofString "signs"), (Str.ofString "crossing"), (Str.ofString "row")], body := [.asg (.name 4) (.new (.lst [.call 21 [.var 0, .bin .add (.var 2) (.con (T.int 1))] [] [0, 1], .call 21 [.var 0, .bin .add (.var 3) (.con (T.int 1))] [] [0, 1]])),
    .ite (.cmp .eq (.bin .add (.idx (.var 4) (.con (T.int 0))) (.idx (.var 4) (.con (T.int 1)))) (.con (T.int 0))) [.setI (.var 4) (.ite (.cmp .gt (.var 2) (.con (T.int 0))) (.con (T.int 0)) (.con (T.int 1))) (.con (T.int 1))] [],
    .freeze 4,
    .par [5, 6] [.call 21 [.var 0, .bin .add (.var 1) (.con (T.int 1))] [] [0, 1], .bin .add (.idx (.var 4) (.con (T.int 0))) (.idx (.var 4) (.con (T.int 1)))],
    .par [7, 8] [.new (.comp (.lst []) (.name 9) (.rng [.var 6]) none [9]), .rng false [.bin .mul (.con (T.int 2)) (.var 5)]],
    .forS (.name 10) (.rng [.bin .mul (.con (T.int 2)) (.var 5)]) [.asg (.name 11) (.call 22 [.var 0, .var 8] [] [0, 1]),
    .asg (.name 8) (.comp (.var 12) (.name 12) (.val (.var 8)) (some (.cmp .ne (.var 12) (.var 11))) [12]),
    .asg (.name 13) (.call 21 [.var 0, .var 6] [] [0, 1]),
    .setI (.var 7) (.var 13) (.bin .add (.idx (.var 7) (.var 13)) (.lst [.var 11]))],
    .freeze 7,
    .asg (.name 14) (.blt .tupleOf [.comp (.call 22 [.var 0, .lst [.con (T.int 1), .neg (.con (T.int 1))]] [] [0, 1]) (.name 15) (.rng [.var 5]) none [15]]),
    .ret (.tup [.var 14, .blt .tupleOf [.comp (.call 23 [.var 16] [] [0]) (.name 16) (.val (.slc (.var 7) (some (.idx (.var 4) (.con (T.int 1)))) none)) none [16]], .blt .tupleOf [.comp (.blt .tupleOf [.var 16]) (.name 16) (.val (.slc (.var 7) none (some (.idx (.var 4) (.con (T.int 1)))))) none [16]]])] }
def f_law_rows : FD := { name := (Str.ofString "_law_rows"), params := [(Str.ofString "drawing")], names := [(Str.ofString "drawing"), (Str.ofString "row")], body := [.ret (.bin .add (.comp (.blt .listOf [.var 1]) (.name 1) (.val (.idx (.var 0) (.con (T.int 2)))) none [1]) (.comp (.blt .listOf [.var 1]) (.name 1) (.val (.idx (.var 0) (.con (T.int 1)))) none [1]))] }
def f_law_made : FD := { name := (Str.ofString "_law_made"), params := [(Str.ofString "signs"), (Str.ofString "rows"), (Str.ofString "opens")], names := [(Str.ofString "signs"), (Str.ofString "rows"), (Str.ofString "opens"), (Str.ofString "row")], body := [.ret (.tup [.blt .tupleOf [.var 0], .blt .tupleOf [.comp (.call 23 [.var 3] [] [0]) (.name 3) (.val (.slc (.var 1) (some (.var 2)) none)) none [3]], .blt .tupleOf [.comp (.blt .tupleOf [.var 3]) (.name 3) (.val (.slc (.var 1) none (some (.var 2)))) none [3]]])] }
def f_law_is : FD := { name := (Str.ofString "_law_is"), params := [(Str.ofString "value")], names := [(Str.ofString "value"), (Str.ofString "own"), (Str.ofString "signs"), (Str.ofString "rings"), (Str.ofString "opens"), (Str.ofString "passes"), (Str.ofString "one"), (Str.ofString "sign")], body := [.ite (.orE (.notE (.isi (.var 0) .tuple)) (.orE (.cmp .ne (.blt .len [.var 0]) (.con (T.int 3))) (.notE (.blt .allL [.comp (.isi (.var 1) .tuple) (.name 1) (.val (.var 0)) none [1]])))) [.ret (.con (T.bl false))] [],
    .asg (.tup [.name 2, .name 3, .name 4]) (.var 0),
    .ite (.orE (.cmp .gt (.blt .len [.var 2]) (.con (T.int 8))) (.orE (.cmp .gt (.blt .len [.var 3]) (.con (T.int 4))) (.orE (.cmp .gt (.blt .len [.var 4]) (.con (T.int 4))) (.notE (.blt .allL [.comp (.isi (.var 1) .tuple) (.name 1) (.val (.bin .add (.var 3) (.var 4))) none [1]]))))) [.ret (.con (T.bl false))] [],
    .asg (.name 5) (.lst []),
    .forS (.name 1) (.val (.bin .add (.var 3) (.var 4))) [.asg (.name 5) (.bin .add (.var 5) (.blt .listOf [.var 1]))],
    .ite (.notE (.blt .allL [.comp (.andE (.isi (.var 6) .int) (.notE (.isi (.var 6) .bool))) (.name 6) (.val (.bin .add (.blt .listOf [.var 2]) (.var 5))) none [6]])) [.ret (.con (T.bl false))] [],
    .ite (.orE (.blt .anyL [.comp (.cmp .notin (.var 7) (.tup [.con (T.int 1), .neg (.con (T.int 1))])) (.name 7) (.val (.var 2)) none [7]]) (.cmp .ne (.blt .sorted [.var 5]) (.rng false [.bin .mul (.con (T.int 2)) (.blt .len [.var 2])]))) [.ret (.con (T.bl false))] [],
    .ret (.blt .allL [.comp (.cmp .eq (.var 1) (.call 23 [.var 1] [] [0])) (.name 1) (.val (.var 3)) none [1]])] }
def f_law_changed : FD := { name := (Str.ofString "_law_changed"), params := [(Str.ofString "dice"), (Str.ofString "drawing")], names := [(Str.ofString "dice"), (Str.ofString "drawing"), (Str.ofString "signs"), (Str.ofString "rings"), (Str.ofString "opens"), (Str.ofString "kind"), (Str.ofString "own"), (Str.ofString "one")], body := [.asg (.tup [.name 2, .name 3, .name 4]) (.var 1),
    .asg (.name 5) (.call 21 [.var 0, .con (T.int 6)] [] [0, 1]),
    .ite (.cmp .eq (.var 5) (.con (T.int 0))) [.ret (.tup [.bin .add (.var 2) (.tup [.call 22 [.var 0, .lst [.con (T.int 1), .neg (.con (T.int 1)), .con (T.int 0), .con (T.bl true)]] [] [0, 1]]), .var 3, .var 4])] [],
    .ite (.cmp .eq (.var 5) (.con (T.int 1))) [.ret (.tup [.var 2, .bin .add (.var 3) (.tup [.call 22 [.var 0, .lst [.tup [], .tup [.con (T.int 0)], .lst [], .con (T.non), .tup [.con (T.int 1), .con (T.int 0)]]] [] [0, 1]]), .var 4])] [],
    .ite (.cmp .eq (.var 5) (.con (T.int 2))) [.ret (.tup [.var 2, .blt .tupleOf [.comp (.bin .add (.slc (.var 6) (some (.con (T.int 1))) none) (.slc (.var 6) none (some (.con (T.int 1))))) (.name 6) (.val (.var 3)) none [6]], .var 4])] [],
    .ite (.cmp .eq (.var 5) (.con (T.int 3))) [.ret (.tup [.var 2, .var 3, .blt .tupleOf [.comp (.slc (.var 6) (some (.con (T.int 1))) none) (.name 6) (.val (.var 4)) none [6]]])] [],
    .ite (.cmp .eq (.var 5) (.con (T.int 4))) [.ret (.tup [.var 2, .var 3, .var 4, .tup []])] [],
    .ret (.tup [.var 2, .blt .tupleOf [.comp (.blt .tupleOf [.comp (.ite (.cmp .ne (.var 7) (.con (T.int 0))) (.var 7) (.bin .mul (.con (T.int 0)) (.blt .len [.var 2]))) (.name 7) (.val (.var 6)) none [7]]) (.name 6) (.val (.var 3)) none [6]], .blt .tupleOf [.comp (.rev (.var 6)) (.name 6) (.val (.var 4)) none [6]]])] }
def f_law_last : FD := { name := (Str.ofString "_law_last"), params := [], names := [(Str.ofString "ring"), (Str.ofString "told")], body := [.asg (.name 0) (.tup [.tup [.con (T.int 1), .neg (.con (T.int 1))], .tup [.tup [.con (T.int 0), .con (T.int 3)], .tup [.con (T.int 1), .con (T.int 2)]], .tup []]),
    .asg (.name 1) (.lst [.refused (.call 12 [.con (T.non)] [] [0]), .refused (.call 13 [.tup [.tup [], .tup [.tup [.con (T.int 1), .con (T.int 0)]], .tup []]] [] [0]), .refused (.call 19 [.lst []] [] [0]), .refused (.call 14 [.var 0, .con (T.int 4)] [] [0, 1]), .refused (.call 14 [.tup [.tup [.con (T.int 2)], .tup [.tup [.con (T.int 0), .con (T.int 1)]], .tup []], .con (T.int 0)] [] [0, 1]), .refused (.call 15 [.var 0, .con (T.int 2), .con (T.int 0)] [] [0, 1, 2]), .refused (.call 15 [.var 0, .con (T.int 0), .con (T.bl true)] [] [0, 1, 2]), .refused (.call 17 [.tup [.tup []]] [] [0]), .refused (.call 18 [.con (T.int 0)] [] [0])]),
    .ite (.cmp .ne (.var 1) (.lst [.con (T.str (Str.ofString "drawing")), .con (T.str (Str.ofString "drawing")), .con (T.str (Str.ofString "drawing")), .con (T.str (Str.ofString "one")), .con (T.str (Str.ofString "drawing")), .con (T.str (Str.ofString "one")), .con (T.str (Str.ofString "other")), .con (T.str (Str.ofString "drawing")), .con (T.str (Str.ofString "drawing"))])) [.ret (.con (T.bl false))] [],
    .ite (.orE (.call 8 [.tup [.tup [.con (T.int 1)], .tup [.tup [.con (T.int 1), .con (T.int 0)]], .tup []]] [] [0]) (.orE (.call 8 [.tup [.tup [.con (T.int 1)], .tup [.tup [.con (T.int 0), .con (T.int 1)]], .lst []]] [] [0]) (.orE (.notE (.call 8 [] [.tup [.tup [.con (T.int 1)], .tup [.tup [.con (T.int 0), .con (T.int 1)]], .tup []]] [0])) (.notE (.call 8 [.tup [.tup [], .tup [], .tup []]] [] [0]))))) [.ret (.con (T.bl false))] [],
    .ret (.andE (.cmp .eq (.call 17 [.var 0] [] [0]) (.tup [.con (T.int 1), .neg (.con (T.int 1))])) (.andE (.cmp .eq (.call 15 [.tup [.tup [.con (T.int 1), .con (T.int 1)], .tup [.tup [.con (T.int 0), .con (T.int 1), .con (T.int 2), .con (T.int 3)]], .tup []], .con (T.int 0), .con (T.int 0)] [] [0, 1, 2]) (.con (T.int 2))) (.andE (.cmp .eq (.call 18 [.var 0] [] [0]) (.tup [.con (T.int 1), .con (T.int 1)])) (.cmp .eq (.call 14 [.var 0, .con (T.int 3)] [] [0, 1]) (.tup [.con (T.int 0), .con (T.int 1)])))))] }
def f_law : FD := { name := (Str.ofString "law"), params := [(Str.ofString "script")], names := [(Str.ofString "script"), (Str.ofString "spot"), (Str.ofString "dice"), (Str.ofString "drawing"), (Str.ofString "rows"), (Str.ofString "row"), (Str.ofString "one"), (Str.ofString "at"), (Str.ofString "place"), (Str.ofString "sums"), (Str.ofString "other"), (Str.ofString "own"), (Str.ofString "sign"), (Str.ofString "turn")], body := [.forS (.name 1) (.rng [.blt .max2 [.con (T.int 1), .blt .min2 [.con (T.int 6), .blt .len [.var 0]]]]) [.asg (.name 2) (.call 20 [.var 0, .var 1] [] [0, 1]),
    .asg (.name 3) (.call 24 [.var 2, .con (T.int 5), .con (T.int 2), .con (T.int 2)] [] [0, 1, 2, 3]),
    .asg (.name 4) (.call 25 [.var 3] [] [0]),
    .ite (.orE (.notE (.call 8 [.var 3] [] [0])) (.orE (.cmp .ne (.call 12 [] [.var 3] [0]) (.blt .len [.idx (.var 3) (.con (T.int 0))])) (.cmp .ne (.call 13 [] [.var 3] [0]) (.blt .tupleOf [.comp (.blt .tupleOf [.var 5]) (.name 5) (.val (.var 4)) none [5]])))) [.ret (.con (T.bl false))] [],
    .ite (.orE (.cmp .ne (.call 19 [] [.var 3] [0]) (.idx (.var 3) (.con (T.int 2)))) (.cmp .ne (.call 18 [] [.var 3] [0]) (.blt .tupleOf [.comp (.blt .len [.comp (.con (T.int 1)) (.name 6) (.val (.var 5)) (some (.cmp .ne (.var 6) (.bin .mul (.con (T.int 2)) (.bin .fdiv (.var 6) (.con (T.int 2)))))) [6]]) (.name 5) (.val (.var 4)) none [5]]))) [.ret (.con (T.bl false))] [],
    .forS (.tup [.name 7, .name 5]) (.enum (.var 4)) [.forS (.tup [.name 8, .name 6]) (.enum (.var 5)) [.ite (.cmp .ne (.call 14 [] [.var 3, .var 6] [0, 1]) (.tup [.var 7, .var 8])) [.ret (.con (T.bl false))] []]],
    .asg (.name 9) (.lst []),
    .forS (.name 6) (.rng [.blt .len [.var 4]]) [.forS (.name 10) (.rng [.blt .len [.var 4]]) [.asg (.name 11) (.blt .sumL [.comp (.var 12) (.tup [.name 7, .name 12]) (.enum (.idx (.var 3) (.con (T.int 0)))) (some (.andE (.cmp .isin (.bin .mul (.con (T.int 2)) (.var 7)) (.idx (.var 4) (.var 6))) (.cmp .isin (.bin .add (.bin .mul (.con (T.int 2)) (.var 7)) (.con (T.int 1))) (.idx (.var 4) (.var 10))))) [7, 12]]),
    .ite (.cmp .ne (.call 15 [] [.var 3, .var 6, .var 10] [0, 1, 2]) (.var 11)) [.ret (.con (T.bl false))] [],
    .asg (.name 9) (.bin .add (.var 9) (.ite (.cmp .ne (.var 6) (.var 10)) (.lst [.var 11]) (.lst [])))]],
    .ite (.cmp .ne (.call 17 [] [.var 3] [0]) (.blt .tupleOf [.var 9])) [.ret (.con (T.bl false))] [],
    .forS (.name 13) (.rng [.con (T.int 4)]) [.asg (.name 11) (.call 28 [.var 2, .var 3] [] [0, 1]),
    .ite (.cmp .ne (.call 8 [.var 11] [] [0]) (.call 27 [.var 11] [] [0])) [.ret (.con (T.bl false))] []]],
    .ret (.call 29 [] [] [])] }
def prog : Prog := [f_demand, f_is_in, f_is_tuple, f_is_sign, f_over, f_under, f_is_under, f_tidied_ring, f_is_drawing, f_demand_drawing, f_strands_of, f_strand_of, f_crossings, f_strands, f_where, f_over_sum, f_over_sum_of, f_over_sums, f_passes_under, f_strings, f_law_dice, f_law_roll, f_law_pick, f_law_tidy, f_law_drawing, f_law_rows, f_law_made, f_law_is, f_law_changed, f_law_last, f_law]
end k00
end

section
set_option autoImplicit false
set_option linter.all false
set_option maxRecDepth 100000
set_option maxHeartbeats 4000000
/-! Strandhues: the law k00. -/
namespace k00
open SH PySem
theorem consts : (prog.all fun fd => cSs fd.body) = true := by decide +kernel
theorem last0 : (match callN prog 5000 19 29 [] [] with | .ok (.bl true) [] => true | _ => false) = true := by decide +kernel
theorem last_ok {h : Hs} : callN prog 5000 19 29 [] h = .ok (.bl true) h := by
  refine call_any consts rfl rfl ?_
  have := last0
  generalize callN prog 5000 19 29 [] [] = r at this
  cases r with
  | ok t h =>
    cases t <;> try (cases this)
    rename_i b
    cases b <;> cases h <;> first | rfl | cases this
  | ex _ _ _ => cases this
  | bad => cases this
/-- the defs of the law -/
structure Lk (Φ : Prog) : Prop where
  I_demand : Is Φ 0 2 2 b_demand
  I_is_in : Is Φ 1 3 3 b_is_in
  I_is_tuple : Is Φ 2 3 3 b_is_tuple
  I_is_sign : Is Φ 3 1 1 (b_is_sign 1)
  I_over : Is Φ 4 1 1 b_over
  I_under : Is Φ 5 1 1 b_under
  I_is_under : Is Φ 6 1 1 b_is_under
  I_tidied : Is Φ 7 1 2 b_tidied_ring
  I_is_drawing : Is Φ 8 1 6 (b_is_drawing 1 2 3 7)
  I_dd : Is Φ 9 2 2 (b_demand_drawing 0 8)
  I_strands_of : Is Φ 10 1 1 b_strands_of
  I_strand_of : Is Φ 11 2 4 (b_strand_of 10)
  I_crossings : Is Φ 12 1 1 (b_crossings 9)
  I_strands : Is Φ 13 1 1 (b_strands 9 10)
  I_where : Is Φ 14 2 2 (b_where 0 1 9 11)
  I_over_sum : Is Φ 15 3 4 (b_over_sum 0 1 9 10 16)
  I_over_sum_of : Is Φ 16 3 7 (b_over_sum_of 4 5 10)
  I_over_sums : Is Φ 17 1 5 (b_over_sums 9 10 16)
  I_passes : Is Φ 18 1 3 (b_passes_under 6 9 10)
  I_strings : Is Φ 19 1 1 (b_strings 9 10)
  I_tidy : Is Φ 23 1 2 b_law_tidy
  I_drawing : Is Φ 24 4 17 (b_law_drawing 21 22 23)
  I_rows : Is Φ 25 1 2 b_law_rows
  I_is : Is Φ 27 1 8 (b_law_is 23)
  I_changed : Is Φ 28 2 8 (b_law_changed 21 22)
  F_dice : Φ[20]? = some (f_dice (Str.ofString "_law_dice") (Str.ofString "script") (Str.ofString "spot") (Str.ofString "own") (Str.ofString "mixed") (Str.ofString "cell"))
  F_roll : Φ[21]? = some (f_roll (Str.ofString "_law_roll") (Str.ofString "dice") (Str.ofString "total") (Str.ofString "found"))
  F_pick : Φ[22]? = some (f_pick (Str.ofString "_law_pick") (Str.ofString "dice") (Str.ofString "things") 21)
theorem lk : Lk prog := ⟨⟨_, rfl, rfl, rfl, rfl, rfl⟩, ⟨_, rfl, rfl, rfl, rfl, rfl⟩, ⟨_, rfl, rfl, rfl, rfl, rfl⟩, ⟨_, rfl, rfl, rfl, rfl, rfl⟩, ⟨_, rfl, rfl, rfl, rfl, rfl⟩, ⟨_, rfl, rfl, rfl, rfl, rfl⟩, ⟨_, rfl, rfl, rfl, rfl, rfl⟩, ⟨_, rfl, rfl, rfl, rfl, rfl⟩, ⟨_, rfl, rfl, rfl, rfl, rfl⟩, ⟨_, rfl, rfl, rfl, rfl, rfl⟩, ⟨_, rfl, rfl, rfl, rfl, rfl⟩, ⟨_, rfl, rfl, rfl, rfl, rfl⟩, ⟨_, rfl, rfl, rfl, rfl, rfl⟩, ⟨_, rfl, rfl, rfl, rfl, rfl⟩, ⟨_, rfl, rfl, rfl, rfl, rfl⟩, ⟨_, rfl, rfl, rfl, rfl, rfl⟩, ⟨_, rfl, rfl, rfl, rfl, rfl⟩, ⟨_, rfl, rfl, rfl, rfl, rfl⟩, ⟨_, rfl, rfl, rfl, rfl, rfl⟩, ⟨_, rfl, rfl, rfl, rfl, rfl⟩, ⟨_, rfl, rfl, rfl, rfl, rfl⟩, ⟨_, rfl, rfl, rfl, rfl, rfl⟩, ⟨_, rfl, rfl, rfl, rfl, rfl⟩, ⟨_, rfl, rfl, rfl, rfl, rfl⟩, ⟨_, rfl, rfl, rfl, rfl, rfl⟩, rfl, rfl, rfl⟩
def whereB : List S := [.ite (.cmp .ne (.call 14 [] [.var 3, .var 6] [0, 1]) (.tup [.var 7, .var 8])) [.ret (.con (T.bl false))] []]
def sumB : List S := [.asg (.name 11) (.blt .sumL [.comp (.var 12) (.tup [.name 7, .name 12]) (.enum (.idx (.var 3) (.con (T.int 0)))) (some (.andE (.cmp .isin (.bin .mul (.con (T.int 2)) (.var 7)) (.idx (.var 4) (.var 6))) (.cmp .isin (.bin .add (.bin .mul (.con (T.int 2)) (.var 7)) (.con (T.int 1))) (.idx (.var 4) (.var 10))))) [7, 12]]),
    .ite (.cmp .ne (.call 15 [] [.var 3, .var 6, .var 10] [0, 1, 2]) (.var 11)) [.ret (.con (T.bl false))] [],
    .asg (.name 9) (.bin .add (.var 9) (.ite (.cmp .ne (.var 6) (.var 10)) (.lst [.var 11]) (.lst [])))]
def chgB : List S := [.asg (.name 11) (.call 28 [.var 2, .var 3] [] [0, 1]),
    .ite (.cmp .ne (.call 8 [.var 11] [] [0]) (.call 27 [.var 11] [] [0])) [.ret (.con (T.bl false))] []]
def turnB : List S := [.asg (.name 2) (.call 20 [.var 0, .var 1] [] [0, 1]),
    .asg (.name 3) (.call 24 [.var 2, .con (T.int 5), .con (T.int 2), .con (T.int 2)] [] [0, 1, 2, 3]),
    .asg (.name 4) (.call 25 [.var 3] [] [0]),
    .ite (.orE (.notE (.call 8 [.var 3] [] [0])) (.orE (.cmp .ne (.call 12 [] [.var 3] [0]) (.blt .len [.idx (.var 3) (.con (T.int 0))])) (.cmp .ne (.call 13 [] [.var 3] [0]) (.blt .tupleOf [.comp (.blt .tupleOf [.var 5]) (.name 5) (.val (.var 4)) none [5]])))) [.ret (.con (T.bl false))] [],
    .ite (.orE (.cmp .ne (.call 19 [] [.var 3] [0]) (.idx (.var 3) (.con (T.int 2)))) (.cmp .ne (.call 18 [] [.var 3] [0]) (.blt .tupleOf [.comp (.blt .len [.comp (.con (T.int 1)) (.name 6) (.val (.var 5)) (some (.cmp .ne (.var 6) (.bin .mul (.con (T.int 2)) (.bin .fdiv (.var 6) (.con (T.int 2)))))) [6]]) (.name 5) (.val (.var 4)) none [5]]))) [.ret (.con (T.bl false))] [],
    .forS (.tup [.name 7, .name 5]) (.enum (.var 4)) [.forS (.tup [.name 8, .name 6]) (.enum (.var 5)) whereB],
    .asg (.name 9) (.lst []),
    .forS (.name 6) (.rng [.blt .len [.var 4]]) [.forS (.name 10) (.rng [.blt .len [.var 4]]) sumB],
    .ite (.cmp .ne (.call 17 [] [.var 3] [0]) (.blt .tupleOf [.var 9])) [.ret (.con (T.bl false))] [],
    .forS (.name 13) (.rng [.con (T.int 4)]) chgB]
def b_law : List S := [.forS (.name 1) (.rng [.blt .max2 [.con (T.int 1), .blt .min2 [.con (T.int 6), .blt .len [.var 0]]]]) turnB, .ret (.call 29 [] [] [])]
theorem I_law : Is prog 30 1 14 b_law := ⟨_, rfl, rfl, rfl, rfl, rfl⟩
theorem loop_enum {α : Type} {emb : α → T} {f : T → SH.Env → Hs → O} {P : SH.Env → Prop} {h : Hs} : ∀ {l : List α} {k : Nat} {σ : SH.Env}, P σ → (∀ (i : Nat) (x : α), l[i]? = some x → ∀ σ, P σ → ∃ σ', f (.tup [natT (k + i), emb x]) σ h = .nx σ' h ∧ P σ') → ∃ σ', loopO f (enumFrom' k (l.map emb)) σ h = .nx σ' h ∧ P σ'
  | [], k, σ, hp, _ => ⟨σ, rfl, hp⟩
  | x :: l, k, σ, hp, hf => by
    obtain ⟨σ1, e1, p1⟩ := hf 0 x rfl σ hp
    obtain ⟨σ2, e2, p2⟩ := loop_enum (l := l) (k := k + 1) p1 fun i y hy σ p => by
      have := hf (i + 1) y (by simpa using hy) σ p
      rw [show k + (i + 1) = k + 1 + i by omega] at this
      exact this
    have e1' : f (.tup [.int (k : Nat), emb x]) σ h = .nx σ1 h := e1
    exact ⟨σ2, by simp only [List.map_cons, enumFrom', loopO, e1', e2], p2⟩
theorem odd_iff {x : Nat} : decide (x ≠ 2 * (x / 2)) = decide (x % 2 = 1) := by
  by_cases h : x % 2 = 1
  · have : x ≠ 2 * (x / 2) := by omega
    simp [h, this]
  · have : x = 2 * (x / 2) := by omega
    rw [decide_eq_false h, decide_eq_false (fun z => z this)]
theorem ev_fdiv2 {call : Calls} {σ : SH.Env} {h : Hs} {e : E} {x : Nat} (he : evE call e σ h = .ok (natT x) h) : evE call (.bin .fdiv e (.con (T.int 2))) σ h = .ok (natT (x / 2)) h := by
  rw [evE, he, SH.R.bind_ok, ev_con, SH.R.bind_ok]
  simp only [natT, binT]
  rw [if_pos (by omega)]
  have : ((x : Nat) : Int) / 2 = ((x / 2 : Nat) : Int) := by omega
  rw [this]; rfl
section
variable {Φ : Prog} (L : Lk Φ) {w n : Nat} {h : Hs}
include L
theorem chg_loop {d m : Nat} {S : List Int} {R O : List (List Nat)} (g : GoodD S R O) {x0 x1 x4 : T} {s5 s6 s7 s8 s9 s10 s11 s12 s13 : Option T} (D : Dice h d m) (hm : m ≤ 1000) :
    ∃ s11' s13' h', loopO (turn (callN Φ w (n + 19)) w (.name 13) chgB) ((List.range 4).map natT) [some x0, some x1, some (.ref d), some (drT S R O), some x4, s5, s6, s7, s8, s9, s10, s11, s12, s13] h = .nx [some x0, some x1, some (.ref d), some (drT S R O), some x4, s5, s6, s7, s8, s9, s10, s11', s12, s13'] h' := by
  obtain ⟨σ', h', e, ⟨t11, t13, rfl⟩, _⟩ := loop_at (f := turn (callN Φ w (n + 19)) w (.name 13) chgB) (xs := (List.range 4).map natT) (i := 0) (h := h) (σ := [some x0, some x1, some (.ref d), some (drT S R O), some x4, s5, s6, s7, s8, s9, s10, s11, s12, s13])
    (P := fun j σ h' => (∃ s11 s13, σ = [some x0, some x1, some (.ref d), some (drT S R O), some x4, s5, s6, s7, s8, s9, s10, s11, s12, s13]) ∧ Dice h' d (m + 2 * j)) ⟨⟨s11, s13, rfl⟩, D⟩ fun j x hx σ h hP => by
      obtain ⟨⟨t11, t13, rfl⟩, Dj⟩ := hP
      have hj : j < 4 := by
        have := (List.getElem?_eq_some_iff.mp hx).1
        simpa using this
      rw [Nat.zero_add] at Dj ⊢
      obtain ⟨v, h', ev, hc, hv, D', B'⟩ := law_changed_ok (w := w) (n := n + 16) L.I_changed L.F_pick L.F_roll Dj g (by omega)
      obtain ⟨b, e1, e2⟩ := chg_same (w := w) (n := n + 16) (h := h') L.I_is_drawing L.I_is_in L.I_is_tuple L.I_is_sign L.I_tidied L.I_is L.I_tidy hc
      refine ⟨[some x0, some x1, some (.ref d), some (drT S R O), some x4, s5, s6, s7, s8, s9, s10, some v, s12, some x], h', ?_, ⟨some v, some x, rfl⟩, by rw [Nat.mul_succ]; exact D'⟩
      show evSs (callN Φ w (n + 19)) w chgB [some x0, some x1, some (.ref d), some (drT S R O), some x4, s5, s6, s7, s8, s9, s10, t11, s12, some x] h = _
      unfold chgB
      refine (ss_set (ev_call (zs := [.ref d, drT S R O]) (ev_cons (ev_var rfl) (ev_cons (ev_var rfl) ev_nil)) ev_nil rfl ev) (by simp)).trans ?_
      refine (ss_if_f (h' := h') (ev_neSame (x := .bl b) rfl (ev_call (zs := [v]) (ev_cons (ev_var rfl) ev_nil) ev_nil rfl e1) (ev_call (zs := [v]) (ev_cons (ev_var rfl) ev_nil) ev_nil rfl e2))).trans ?_
      rw [evSs]; rfl
  exact ⟨t11, t13, h', e⟩
omit L in
theorem where_loop {call : Calls} {S : List Int} {R O : List (List Nat)} (g : GoodD S R O) {x0 x1 x2 : T} {s5 s6 s7 s8 s9 s10 s11 s12 s13 : Option T} (hc : ∀ one t, one < 2 * S.length → strN one 0 (O ++ R) = some t → call 14 [drT S R O, natT one] h = .ok t h) :
    ∃ s5' s6' s7' s8', loopO (turn call w (.tup [.name 7, .name 5]) [.forS (.tup [.name 8, .name 6]) (.enum (.var 5)) whereB]) (enumFrom' 0 ((O ++ R).map lstN)) [some x0, some x1, some x2, some (drT S R O), some (.lst ((O ++ R).map lstN)), s5, s6, s7, s8, s9, s10, s11, s12, s13] h = .nx [some x0, some x1, some x2, some (drT S R O), some (.lst ((O ++ R).map lstN)), s5', s6', s7', s8', s9, s10, s11, s12, s13] h := by
  have hnd : (O ++ R).flatten.Nodup := g.strands.nodup_iff.mpr List.nodup_range
  obtain ⟨σ', e, t5, t6, t7, t8, rfl⟩ := loop_enum (emb := lstN) (f := turn call w (.tup [.name 7, .name 5]) [.forS (.tup [.name 8, .name 6]) (.enum (.var 5)) whereB]) (h := h) (l := O ++ R) (k := 0) (σ := [some x0, some x1, some x2, some (drT S R O), some (.lst ((O ++ R).map lstN)), s5, s6, s7, s8, s9, s10, s11, s12, s13])
    (P := fun σ => ∃ s5 s6 s7 s8, σ = [some x0, some x1, some x2, some (drT S R O), some (.lst ((O ++ R).map lstN)), s5, s6, s7, s8, s9, s10, s11, s12, s13]) ⟨s5, s6, s7, s8, rfl⟩ fun a row ha σ hP => by
      obtain ⟨u5, u6, u7, u8, rfl⟩ := hP
      obtain ⟨σ', e, t6, t8, rfl⟩ := loop_enum (emb := natT) (f := turn call w (.tup [.name 8, .name 6]) whereB) (h := h) (l := row) (k := 0) (σ := [some x0, some x1, some x2, some (drT S R O), some (.lst ((O ++ R).map lstN)), some (lstN row), u6, some (natT (0 + a)), u8, s9, s10, s11, s12, s13])
        (P := fun σ => ∃ s6 s8, σ = [some x0, some x1, some x2, some (drT S R O), some (.lst ((O ++ R).map lstN)), some (lstN row), s6, some (natT (0 + a)), s8, s9, s10, s11, s12, s13]) ⟨u6, u8, rfl⟩ fun p one hp σ hP => by
          obtain ⟨v6, v8, rfl⟩ := hP
          have hst := strN_at (k := 0) hnd ha hp
          have hlt : one < 2 * S.length := by
            have hm : one ∈ (O ++ R).flatten := List.mem_flatten.mpr ⟨row, List.mem_of_getElem? ha, List.mem_of_getElem? hp⟩
            exact List.mem_range.mp (g.strands.subset hm)
          have e1 := hc one _ hlt hst
          refine ⟨[some x0, some x1, some x2, some (drT S R O), some (.lst ((O ++ R).map lstN)), some (lstN row), some (natT one), some (natT (0 + a)), some (natT (0 + p)), s9, s10, s11, s12, s13], ?_, _, _, rfl⟩
          show evSs call w whereB [some x0, some x1, some x2, some (drT S R O), some (.lst ((O ++ R).map lstN)), some (lstN row), some (natT one), some (natT (0 + a)), some (natT (0 + p)), s9, s10, s11, s12, s13] h = _
          unfold whereB
          rw [Nat.zero_add] at e1 ⊢
          rw [Nat.zero_add]
          refine (ss_if_f (h' := h) (ev_neSame (x := .tup [natT a, natT p]) (by simp only [okD, okDs, natT, Bool.and_self]) (ev_call (zs := [drT S R O, natT one]) ev_nil (ev_cons (ev_var rfl) (ev_cons (ev_var rfl) ev_nil)) rfl e1) (ev_tup (ev_cons (ev_var rfl) (ev_cons (ev_var rfl) ev_nil))))).trans ?_
          rw [evSs]
      refine ⟨[some x0, some x1, some x2, some (drT S R O), some (.lst ((O ++ R).map lstN)), some (lstN row), t6, some (natT (0 + a)), t8, s9, s10, s11, s12, s13], ?_, _, _, _, _, rfl⟩
      show evSs call w _ [some x0, some x1, some x2, some (drT S R O), some (.lst ((O ++ R).map lstN)), some (lstN row), u6, some (natT (0 + a)), u8, s9, s10, s11, s12, s13] h = _
      refine (ss_for (h1 := h) ?_ e).trans (by rw [evSs])
      rw [evI, ev_var (i := 5) rfl, SH.R.bind_ok]; rfl
  exact ⟨t5, t6, t7, t8, e⟩
omit L in
theorem sum_loop {call : Calls} {S : List Int} {R O : List (List Nat)} (g : GoodD S R O) {x0 x1 x2 : T} {s5 s6 s7 s8 s10 s11 s12 s13 : Option T} (hc : ∀ a b, a < (O ++ R).length → b < (O ++ R).length → call 15 [drT S R O, natT a, natT b] h = .ok (ovAll S (O ++ R) a b) h) :
    ∃ s6' s10' s11' , loopO (turn call w (.name 6) [.forS (.name 10) (.rng [.blt .len [.var 4]]) sumB]) ((List.range (O ++ R).length).map natT) [some x0, some x1, some x2, some (drT S R O), some (.lst ((O ++ R).map lstN)), s5, s6, s7, s8, some (.lst []), s10, s11, s12, s13] h = .nx [some x0, some x1, some x2, some (drT S R O), some (.lst ((O ++ R).map lstN)), s5, s6', s7, s8, some (.lst (sumsOf S (O ++ R))), s10', s11', s12, s13] h := by
  have hL : LINE = 16777216 := rfl
  have g4 := g.r4
  have g5 := g.o4
  have hlen : (O ++ R).length ≤ 8 := by rw [List.length_append]; omega
  generalize hrows : O ++ R = rows at hc hlen
  have hpre : ∀ (q : List Nat) (a : Nat), (q.flatMap fun b => if decide (a ≠ b) then [ovAll S rows a b] else []).length ≤ q.length := fun q a => by
    induction q with
    | nil => simp
    | cons b q ih =>
      rw [List.flatMap_cons, List.length_append, List.length_cons]
      split
      · rw [List.length_cons, List.length_nil]; omega
      · rw [List.length_nil]; omega
  have hpre2 : ∀ (q : List Nat), (q.flatMap fun a => (List.range rows.length).flatMap fun b => if decide (a ≠ b) then [ovAll S rows a b] else []).length ≤ q.length * 8 := fun q => by
    induction q with
    | nil => simp
    | cons b q ih =>
      rw [List.flatMap_cons, List.length_append, List.length_cons]
      have := hpre (List.range rows.length) b
      rw [List.length_range] at this
      omega
  obtain ⟨σ', e, t6, t10, t11, rfl⟩ := loop_acc (emb := natT) (f := turn call w (.name 6) [.forS (.name 10) (.rng [.blt .len [.var 4]]) sumB]) (h := h) (B := 1000) (g := fun a => (List.range rows.length).flatMap fun b => if decide (a ≠ b) then [ovAll S rows a b] else []) (l := List.range rows.length) (acc := [])
    (P := fun acc σ => ∃ s6 s10 s11, σ = [some x0, some x1, some x2, some (drT S R O), some (.lst (rows.map lstN)), s5, s6, s7, s8, some (.lst acc), s10, s11, s12, s13]) (σ := [some x0, some x1, some x2, some (drT S R O), some (.lst (rows.map lstN)), s5, s6, s7, s8, some (.lst []), s10, s11, s12, s13]) ⟨s6, s10, s11, rfl⟩ (by
      have := hpre2 (List.range rows.length)
      rw [List.length_range] at this
      rw [List.nil_append]; omega) fun a ha acc σ hP hb => by
      obtain ⟨u6, u10, u11, rfl⟩ := hP
      have ha := List.mem_range.mp ha
      obtain ⟨σ', e, t10, t11, rfl⟩ := loop_acc (emb := natT) (f := turn call w (.name 10) sumB) (h := h) (B := 1000) (g := fun b => if decide (a ≠ b) then [ovAll S rows a b] else []) (l := List.range rows.length) (acc := acc)
        (P := fun acc σ => ∃ s10 s11, σ = [some x0, some x1, some x2, some (drT S R O), some (.lst (rows.map lstN)), s5, some (natT a), s7, s8, some (.lst acc), s10, s11, s12, s13]) (σ := [some x0, some x1, some x2, some (drT S R O), some (.lst (rows.map lstN)), s5, some (natT a), s7, s8, some (.lst acc), u10, u11, s12, s13]) ⟨u10, u11, rfl⟩ hb fun b hb acc σ hP hl => by
          obtain ⟨v10, v11, rfl⟩ := hP
          have hb := List.mem_range.mp hb
          have i1 := List.getElem?_eq_getElem ha
          have i2 := List.getElem?_eq_getElem hb
          have o1 : (rows.map lstN)[a]? = some (lstN rows[a]) := by rw [List.getElem?_map, i1]; rfl
          have o2 : (rows.map lstN)[b]? = some (lstN rows[b]) := by rw [List.getElem?_map, i2]; rfl
          have eo : ovAll S rows a b = .int (ovS S rows[a] rows[b]) := by
            unfold ovAll
            rw [getD_at i1, getD_at i2]
          rw [List.length_append] at hl
          have c1 : evE call (.blt .sumL [.comp (.var 12) (.tup [.name 7, .name 12]) (.enum (.idx (.var 3) (.con (T.int 0)))) (some (.andE (.cmp .isin (.bin .mul (.con (T.int 2)) (.var 7)) (.idx (.var 4) (.var 6))) (.cmp .isin (.bin .add (.bin .mul (.con (T.int 2)) (.var 7)) (.con (T.int 1))) (.idx (.var 4) (.var 10))))) [7, 12]]) [some x0, some x1, some x2, some (drT S R O), some (.lst (rows.map lstN)), s5, some (natT a), s7, s8, some (.lst acc), some (natT b), v11, s12, s13] h = .ok (ovAll S rows a b) h := by
            rw [eo]
            refine ev_ov (a := 7) (b := 12) (S := S) (first := rows[a]) (second := rows[b]) (ev_idxT (k := 0) (xs := [.tup (S.map T.int), .tup (R.map tupN), .tup (O.map tupN)]) (ev_var rfl) ev_con rfl) fun k s => ⟨[some x0, some x1, some x2, some (drT S R O), some (.lst (rows.map lstN)), s5, some (natT a), some (natT k), s8, some (.lst acc), some (natT b), v11, some (.int s), s13], rfl, ?_, ev_var rfl⟩
            have m1 := ev_mulN (call := call) (σ := [some x0, some x1, some x2, some (drT S R O), some (.lst (rows.map lstN)), s5, some (natT a), some (natT k), s8, some (.lst acc), some (natT b), v11, some (.int s), s13]) (h := h) (x := 2) (y := k) (a := .con (T.int 2)) (b := .var 7) (by omega) ev_con (ev_var rfl)
            exact ev_and (ev_inN (.inr rfl) m1 (ev_idxN (ev_var rfl) (ev_var rfl) o1)) fun _ => ev_inN (.inr rfl) (ev_addN (y := 1) m1 ev_con) (ev_idxN (ev_var rfl) (ev_var rfl) o2)
          refine ⟨[some x0, some x1, some x2, some (drT S R O), some (.lst (rows.map lstN)), s5, some (natT a), s7, s8, some (.lst (acc ++ if decide (a ≠ b) then [ovAll S rows a b] else [])), some (natT b), some (ovAll S rows a b), s12, s13], ?_, _, _, rfl⟩
          show evSs call w sumB [some x0, some x1, some x2, some (drT S R O), some (.lst (rows.map lstN)), s5, some (natT a), s7, s8, some (.lst acc), some (natT b), v11, s12, s13] h = _
          unfold sumB
          refine (ss_set c1 (by simp)).trans ?_
          refine (ss_if_f (h' := h) (ev_neSame (x := ovAll S rows a b) rfl (ev_call (zs := [drT S R O, natT a, natT b]) ev_nil (ev_cons (ev_var rfl) (ev_cons (ev_var rfl) (ev_cons (ev_var rfl) ev_nil))) rfl (hc a b ha hb)) (ev_var rfl))).trans ?_
          refine (ss_set (x := .lst (acc ++ if decide (a ≠ b) then [ovAll S rows a b] else [])) (h' := h) (ev_addL (ev_var rfl) (ev_ite (h1 := h) (ev_neN (ev_var rfl) (ev_var rfl)) (fun z => ?_) fun z => ?_) (by omega)) (by simp)).trans (by rw [evSs]; rfl)
          · rw [if_pos z, evE, ev_cons (ev_var (i := 11) rfl) ev_nil, SH.R.bind_ok]
          · rw [if_neg (by rw [z]; exact Bool.false_ne_true), evE, evEs, SH.R.bind_ok]
      refine ⟨[some x0, some x1, some x2, some (drT S R O), some (.lst (rows.map lstN)), s5, some (natT a), s7, s8, some (.lst (acc ++ (List.range rows.length).flatMap fun b => if decide (a ≠ b) then [ovAll S rows a b] else [])), t10, t11, s12, s13], ?_, _, _, _, rfl⟩
      show evSs call w _ [some x0, some x1, some x2, some (drT S R O), some (.lst (rows.map lstN)), s5, some (natT a), s7, s8, some (.lst acc), u10, u11, s12, s13] h = _
      refine (ss_for (h1 := h) (ev_rng (k := rows.length) (by omega) ?_) e).trans (by rw [evSs])
      have := ev_lenL (call := call) (σ := [some x0, some x1, some x2, some (drT S R O), some (.lst (rows.map lstN)), s5, some (natT a), s7, s8, some (.lst acc), u10, u11, s12, s13]) (h := h) (e := .var 4) (xs := rows.map lstN) (ev_var rfl)
      rwa [List.length_map] at this
  rw [List.nil_append] at e
  have es : ((List.range rows.length).flatMap fun a => (List.range rows.length).flatMap fun b => if decide (a ≠ b) then [ovAll S rows a b] else []) = sumsOf S rows := by
    unfold sumsOf
    congr 1
    funext a
    rw [sums_row]
  rw [es] at e
  exact ⟨t6, t10, t11, e⟩
theorem law_turn {ns : List Int} {spot : Nat} {s2 s3 s4 s5 s6 s7 s8 s9 s10 s11 s12 s13 : Option T} (hn : ns.length ≤ 1000) (hs : spot < 1000) :
    ∃ t2 t3 t4 t5 t6 t7 t8 t9 t10 t11 t12 t13 h', evSs (callN Φ w (n + 19)) w turnB [some (.scr ns), some (natT spot), s2, s3, s4, s5, s6, s7, s8, s9, s10, s11, s12, s13] h = .nx [some (.scr ns), some (natT spot), t2, t3, t4, t5, t6, t7, t8, t9, t10, t11, t12, t13] h' := by
  obtain ⟨o, e1, D1⟩ := dice_ok (w := w) (n := n + 18) (h := h) (ns := ns) (spot := spot) L.F_dice hn hs
  obtain ⟨S, R, O, h2, e2, g, k1, k2, k3, k4, D2, B2⟩ := law_drawing_ok (w := w) (n := n + 16) (most := 5) (rings := 2) (opens := 2) L.I_drawing L.I_tidy L.F_pick L.F_roll D1 (by omega) (by omega) (by omega) (by omega) (by omega)
  have hl : O.length + R.length ≤ 8 := by omega
  generalize h.length = d at e1 e2 D1 D2 B2
  generalize h ++ [o] = h1 at e1 e2 D1 B2
  have hd : ∀ hh : Hs, callN Φ w (n + 18) 9 [drT S R O, sDrawing] hh = .ok .non hh := fun hh => demand_drawing_ok (w := w) (n := n + 14) (h := hh) L.I_dd L.I_demand L.I_is_drawing L.I_is_in L.I_is_tuple L.I_is_sign L.I_tidied g
  have e3 := law_rows_ok (w := w) (n := n + 18) (h := h2) (S := S) (R := R) (O := O) L.I_rows (by omega)
  have e4 := drawing_ok (w := w) (n := n + 16) (h := h2) L.I_is_drawing L.I_is_in L.I_is_tuple L.I_is_sign L.I_tidied g
  have e5 := crossings_ok (w := w) (n := n + 18) (h := h2) (S := S) (R := R) (O := O) L.I_crossings (hd h2)
  have e6 := strands_ok (w := w) (n := n + 17) (h := h2) (S := S) (R := R) (O := O) L.I_strands L.I_strands_of (by omega) (hd h2)
  have e7 := strings_ok (w := w) (n := n + 17) (h := h2) (S := S) (R := R) (O := O) L.I_strings L.I_strands_of (by omega) (hd h2)
  have e8 := passes_under_ok (w := w) (n := n + 17) (h := h2) (S := S) (R := R) (O := O) L.I_passes L.I_is_under L.I_strands_of (by omega) (hd h2)
  have e9 : ∀ one t, one < 2 * S.length → strN one 0 (O ++ R) = some t → callN Φ w (n + 19) 14 [drT S R O, natT one] h2 = .ok t h2 := fun one t ho ht => where_ok (w := w) (n := n + 16) (h := h2) L.I_where L.I_demand L.I_is_in L.I_strand_of L.I_strands_of (by omega) (hd h2) ho ht
  have e10 : ∀ a b, a < (O ++ R).length → b < (O ++ R).length → callN Φ w (n + 19) 15 [drT S R O, natT a, natT b] h2 = .ok (ovAll S (O ++ R) a b) h2 := fun a b ha hb => over_sum_ok (w := w) (n := n + 16) (h := h2) L.I_over_sum L.I_demand L.I_is_in L.I_over_sum_of L.I_over L.I_under L.I_strands_of (by omega) (hd h2) ha hb
  have e11 := over_sums_ok (w := w) (n := n + 16) (h := h2) (S := S) (R := R) (O := O) L.I_over_sums L.I_over_sum_of L.I_over L.I_under L.I_strands_of (by omega) (hd h2)
  have chg := fun {x4 : T} {s5 s6 s7 s8 s9 s10 s11 s12 s13 : Option T} => chg_loop L (w := w) (n := n) (h := h2) (d := d) (m := 0 + 100) g (x0 := .scr ns) (x1 := natT spot) (x4 := x4) (s5 := s5) (s6 := s6) (s7 := s7) (s8 := s8) (s9 := s9) (s10 := s10) (s11 := s11) (s12 := s12) (s13 := s13) D2 (by omega)
  generalize hcall : callN Φ w (n + 19) = call at chg e9 e10
  have e1 : call 20 [.scr ns, natT spot] h = .ok (.ref d) h1 := by rw [← hcall]; exact e1
  have e2 : call 24 [.ref d, natT 5, natT 2, natT 2] h1 = .ok (drT S R O) h2 := by rw [← hcall]; exact e2
  have e3 : call 25 [drT S R O] h2 = .ok (.lst ((O ++ R).map lstN)) h2 := by rw [← hcall]; exact e3
  have e4 : call 8 [drT S R O] h2 = .ok (.bl true) h2 := by rw [← hcall]; exact e4
  have e5 : call 12 [drT S R O] h2 = .ok (natT S.length) h2 := by rw [← hcall]; exact e5
  have e6 : call 13 [drT S R O] h2 = .ok (.tup ((O ++ R).map tupN)) h2 := by rw [← hcall]; exact e6
  have e7 : call 19 [drT S R O] h2 = .ok (.tup (O.map tupN)) h2 := by rw [← hcall]; exact e7
  have e8 : call 18 [drT S R O] h2 = .ok (.tup ((O ++ R).map fun l => natT (undN l))) h2 := by rw [← hcall]; exact e8
  have e11 : call 17 [drT S R O] h2 = .ok (.tup (sumsOf S (O ++ R))) h2 := by rw [← hcall]; exact e11
  clear hcall hd
  obtain ⟨w5, w6, w7, w8, el1⟩ := where_loop (w := w) (h := h2) (call := call) g (x0 := .scr ns) (x1 := natT spot) (x2 := .ref d) (s5 := s5) (s6 := s6) (s7 := s7) (s8 := s8) (s9 := s9) (s10 := s10) (s11 := s11) (s12 := s12) (s13 := s13) e9
  obtain ⟨y6, y10, y11, el2⟩ := sum_loop (w := w) (h := h2) (call := call) g (x0 := .scr ns) (x1 := natT spot) (x2 := .ref d) (s5 := w5) (s6 := w6) (s7 := w7) (s8 := w8) (s10 := s10) (s11 := s11) (s12 := s12) (s13 := s13) e10
  obtain ⟨t11, t13, h3, el3⟩ := chg (x4 := .lst ((O ++ R).map lstN)) (s5 := w5) (s6 := y6) (s7 := w7) (s8 := w8) (s9 := some (.lst (sumsOf S (O ++ R)))) (s10 := y10) (s11 := y11) (s12 := s12) (s13 := s13)
  have ixd : ∀ (σ : SH.Env) (k : Nat) (x : T), σ[3]? = some (some (drT S R O)) → [T.tup (S.map T.int), .tup (R.map tupN), .tup (O.map tupN)][k]? = some x → evE call (.idx (.var 3) (.con (T.int (k : Nat)))) σ h2 = .ok x h2 := fun σ k x hσ hx => ev_idxT (k := k) (xs := [.tup (S.map T.int), .tup (R.map tupN), .tup (O.map tupN)]) (ev_var hσ) ev_con hx
  have c4 : ∀ {x0 x1 x2 : Option T} {s5 s6 s7 s8 s9 s10 s11 s12 s13 : Option T}, evE call (.orE (.notE (.call 8 [.var 3] [] [0])) (.orE (.cmp .ne (.call 12 [] [.var 3] [0]) (.blt .len [.idx (.var 3) (.con (T.int 0))])) (.cmp .ne (.call 13 [] [.var 3] [0]) (.blt .tupleOf [.comp (.blt .tupleOf [.var 5]) (.name 5) (.val (.var 4)) none [5]])))) [x0, x1, x2, some (drT S R O), some (.lst ((O ++ R).map lstN)), s5, s6, s7, s8, s9, s10, s11, s12, s13] h2 = .ok (.bl false) h2 := fun {x0 x1 x2 s5 s6 s7 s8 s9 s10 s11 s12 s13} => by
    refine ev_orF (ev_notT (ev_call (zs := [drT S R O]) (ev_cons (ev_var rfl) ev_nil) ev_nil rfl e4)) (ev_orF (ev_neSame (x := natT S.length) (by simp only [natT, okD]) (ev_call (zs := [drT S R O]) ev_nil (ev_cons (ev_var rfl) ev_nil) rfl e5) ?_) (ev_neSame (x := .tup ((O ++ R).map tupN)) (by simp only [okD]; exact okD_rows) (ev_call (zs := [drT S R O]) ev_nil (ev_cons (ev_var rfl) ev_nil) rfl e6) ?_))
    · have := ev_len (ixd [x0, x1, x2, some (drT S R O), some (.lst ((O ++ R).map lstN)), s5, s6, s7, s8, s9, s10, s11, s12, s13] 0 _ rfl rfl)
      rwa [List.length_map] at this
    · exact ev_tupOf (ev_compM (emb := lstN) (k := tupN) (l := O ++ R) (walk_lstT (ev_var rfl)) fun l hl => ⟨[x0, x1, x2, some (drT S R O), some (.lst ((O ++ R).map lstN)), some (lstN l), s6, s7, s8, s9, s10, s11, s12, s13], rfl, ev_tupOf (x := lstN l) (ev_var rfl) rfl⟩) rfl
  have c5 : ∀ {x0 x1 x2 : Option T} {s5 s6 s7 s8 s9 s10 s11 s12 s13 : Option T}, evE call (.orE (.cmp .ne (.call 19 [] [.var 3] [0]) (.idx (.var 3) (.con (T.int 2)))) (.cmp .ne (.call 18 [] [.var 3] [0]) (.blt .tupleOf [.comp (.blt .len [.comp (.con (T.int 1)) (.name 6) (.val (.var 5)) (some (.cmp .ne (.var 6) (.bin .mul (.con (T.int 2)) (.bin .fdiv (.var 6) (.con (T.int 2)))))) [6]]) (.name 5) (.val (.var 4)) none [5]]))) [x0, x1, x2, some (drT S R O), some (.lst ((O ++ R).map lstN)), s5, s6, s7, s8, s9, s10, s11, s12, s13] h2 = .ok (.bl false) h2 := fun {x0 x1 x2 s5 s6 s7 s8 s9 s10 s11 s12 s13} => by
    have ho2 : okD 60 (.tup ((O ++ R).map fun l => natT (undN l))) = true := by
      simp only [okD]
      exact okDs_all fun x hx => by obtain ⟨l, _, rfl⟩ := List.mem_map.mp hx; simp only [natT, okD]
    refine ev_orF (ev_neSame (x := .tup (O.map tupN)) (by simp only [okD]; exact okD_rows) (ev_call (zs := [drT S R O]) ev_nil (ev_cons (ev_var rfl) ev_nil) rfl e7) (ixd _ 2 _ rfl rfl)) (ev_neSame (x := .tup ((O ++ R).map fun l => natT (undN l))) ho2 (ev_call (zs := [drT S R O]) ev_nil (ev_cons (ev_var rfl) ev_nil) rfl e8) ?_)
    refine ev_tupOf (ev_compM (emb := lstN) (k := fun l => natT (undN l)) (l := O ++ R) (walk_lstT (ev_var rfl)) fun l hl => ⟨[x0, x1, x2, some (drT S R O), some (.lst ((O ++ R).map lstN)), some (lstN l), s6, s7, s8, s9, s10, s11, s12, s13], rfl, ?_⟩) rfl
    have := ev_lenL (ev_compFM (call := call) (σ := [x0, x1, x2, some (drT S R O), some (.lst ((O ++ R).map lstN)), some (lstN l), s6, s7, s8, s9, s10, s11, s12, s13]) (h := h2) (h0 := h2) (emb := natT) (k := fun _ => T.int 1) (p := fun x => decide (x ≠ 2 * (x / 2))) (l := l) (e := .con (T.int 1)) (c := .cmp .ne (.var 6) (.bin .mul (.con (T.int 2)) (.bin .fdiv (.var 6) (.con (T.int 2))))) (g := .name 6) (it := .val (.var 5)) (own := [6]) (walk_nat (ev_var rfl)) fun x hx => ⟨[x0, x1, x2, some (drT S R O), some (.lst ((O ++ R).map lstN)), some (lstN l), some (natT x), s7, s8, s9, s10, s11, s12, s13], rfl, ev_neN (ev_var rfl) (ev_mulN (x := 2) (by omega) ev_con (ev_fdiv2 (ev_var rfl))), ev_con⟩)
    rw [List.length_map] at this
    have hu : (l.filter fun x => decide (x ≠ 2 * (x / 2))).length = undN l := by
      unfold undN
      congr 1
      exact List.filter_congr fun x _ => odd_iff
    rw [hu] at this
    exact this
  refine ⟨some (.ref d), some (drT S R O), some (.lst ((O ++ R).map lstN)), w5, y6, w7, w8, some (.lst (sumsOf S (O ++ R))), y10, t11, s12, t13, h3, ?_⟩
  unfold turnB
  refine (ss_set (ev_call (zs := [.scr ns, natT spot]) (ev_cons (ev_var rfl) (ev_cons (ev_var rfl) ev_nil)) ev_nil rfl e1) (by simp)).trans ?_
  refine (ss_set (ev_call (zs := [.ref d, natT 5, natT 2, natT 2]) (ev_cons (ev_var rfl) (ev_cons ev_con (ev_cons ev_con (ev_cons ev_con ev_nil)))) ev_nil rfl e2) (by simp)).trans ?_
  refine (ss_set (ev_call (zs := [drT S R O]) (ev_cons (ev_var rfl) ev_nil) ev_nil rfl e3) (by simp)).trans ?_
  refine (ss_if_f c4).trans ((ss_if_f c5).trans ?_)
  refine (ss_for (h1 := h2) (by rw [evI, ev_var (i := 4) rfl, SH.R.bind_ok]; rfl) el1).trans ?_
  refine (ss_set (x := .lst []) (h' := h2) (by rw [evE, evEs, SH.R.bind_ok]) (by simp)).trans ?_
  refine (ss_for (h1 := h2) (ev_rng (k := (O ++ R).length) (by rw [List.length_append]; omega) ?_) el2).trans ?_
  · have := ev_lenL (call := call) (σ := [some (.scr ns), some (natT spot), some (.ref d), some (drT S R O), some (.lst ((O ++ R).map lstN)), w5, w6, w7, w8, some (.lst []), s10, s11, s12, s13]) (h := h2) (e := .var 4) (xs := (O ++ R).map lstN) (ev_var rfl)
    rwa [List.length_map] at this
  refine (ss_if_f (h' := h2) (ev_neSame (x := .tup (sumsOf S (O ++ R))) (by simp only [okD]; exact okD_sums) (ev_call (zs := [drT S R O]) ev_nil (ev_cons (ev_var rfl) ev_nil) rfl e11) (ev_tupOf (x := .lst (sumsOf S (O ++ R))) (ev_var rfl) rfl))).trans ?_
  exact (ss_for (ev_rng (k := 4) (by omega) ev_con) el3).trans (by rw [evSs])
end
end k00
end

section
set_option autoImplicit false
set_option linter.all false
set_option maxRecDepth 100000
set_option maxHeartbeats 4000000
/-! Strandhues: the law k00, as a whole. -/
namespace k00
open SH PySem
theorem ev_spots {call : Calls} {ns : List Int} {h : Hs} {σ : SH.Env} (hσ : σ[0]? = some (some (.scr ns))) : evE call (.blt .max2 [.con (T.int 1), .blt .min2 [.con (T.int 6), .blt .len [.var 0]]]) σ h = .ok (natT (max 1 (min 6 ns.length))) h := by
  have e1 : evE call (.blt .len [.var 0]) σ h = .ok (natT ns.length) h := by
    rw [evE, evEs, ev_var hσ, R.bind_ok, evEs, R.bind_ok, R.bind_ok]
    simp only [bltT, seqOf, List.length_map]; rfl
  have e2 : evE call (.blt .min2 [.con (T.int 6), .blt .len [.var 0]]) σ h = .ok (natT (min 6 ns.length)) h := by
    rw [evE, evEs, ev_con, R.bind_ok, evEs, e1, R.bind_ok, evEs, R.bind_ok, R.bind_ok, R.bind_ok]
    simp only [bltT, natT]
    by_cases z : ((ns.length : Nat) : Int) < 6
    · rw [if_pos z, show min 6 ns.length = ns.length by omega]; rfl
    · rw [if_neg z, show min 6 ns.length = 6 by omega]; rfl
  rw [evE, evEs, ev_con, R.bind_ok, evEs, e2, R.bind_ok, evEs, R.bind_ok, R.bind_ok, R.bind_ok]
  simp only [bltT, natT]
  by_cases z : ((min 6 ns.length : Nat) : Int) > 1
  · rw [if_pos z, show max 1 (min 6 ns.length) = min 6 ns.length by omega]; rfl
  · rw [if_neg z, show max 1 (min 6 ns.length) = 1 by omega]; rfl
theorem law_ok {Φ : Prog} (L : Lk Φ) {w n f : Nat} {ns : List Int} (I : Is Φ f 1 14 b_law) (hl : ∀ h, callN Φ w (n + 19) 29 [] h = .ok (.bl true) h) (hn : ns.length ≤ 1000) : callN Φ w (n + 20) f [.scr ns] [] = .ok (.bl true) [] := by
  obtain ⟨σ', h', e, s1, s2, s3, s4, s5, s6, s7, s8, s9, s10, s11, s12, s13, rfl⟩ := loop_at (f := turn (callN Φ w (n + 19)) w (.name 1) turnB) (xs := (List.range (max 1 (min 6 ns.length))).map natT) (i := 0) (h := []) (σ := st0 [.scr ns] 14)
    (P := fun j σ h' => ∃ s1 s2 s3 s4 s5 s6 s7 s8 s9 s10 s11 s12 s13, σ = [some (.scr ns), s1, s2, s3, s4, s5, s6, s7, s8, s9, s10, s11, s12, s13]) ⟨none, none, none, none, none, none, none, none, none, none, none, none, none, rfl⟩ fun j x hx σ h hP => by
      obtain ⟨s1, s2, s3, s4, s5, s6, s7, s8, s9, s10, s11, s12, s13, rfl⟩ := hP
      have hj : j < max 1 (min 6 ns.length) := by
        have := (List.getElem?_eq_some_iff.mp hx).1
        simpa using this
      rw [List.getElem?_map, List.getElem?_range hj] at hx
      cases hx
      obtain ⟨t2, t3, t4, t5, t6, t7, t8, t9, t10, t11, t12, t13, h', e⟩ := law_turn L (w := w) (n := n) (h := h) (ns := ns) (spot := j) (s2 := s2) (s3 := s3) (s4 := s4) (s5 := s5) (s6 := s6) (s7 := s7) (s8 := s8) (s9 := s9) (s10 := s10) (s11 := s11) (s12 := s12) (s13 := s13) hn (by omega)
      exact ⟨[some (.scr ns), some (natT j), t2, t3, t4, t5, t6, t7, t8, t9, t10, t11, t12, t13], h', e, _, _, _, _, _, _, _, _, _, _, _, _, _, rfl⟩
  refine (I.rt (t := .bl true) (h' := h') rfl rfl ?_).trans (by rw [List.length_nil, List.take_zero])
  unfold b_law
  refine (ss_for (ev_rng (k := max 1 (min 6 ns.length)) (by omega) (ev_spots rfl)) e).trans (ss_ret ?_)
  exact ev_call (zs := []) ev_nil ev_nil rfl (hl h')
theorem done {ns : List Int} (hn : ns.length ≤ 1000) : callN prog 5000 (0 + 20) 30 [.scr ns] [] = .ok (.bl true) [] :=
  law_ok lk I_law (fun h => last_ok) hn
end k00
end

section
set_option autoImplicit false
set_option linter.all false
set_option maxRecDepth 100000
set_option maxHeartbeats 0
namespace k00
open PySem PySem.Spec PyProof.Rows L2 SH
def top (i : Nat) : Stmt := PySem.Challenge.pw_strandhues_k00_whole_passes_over_and_und.main.body.getD i (.Pass ⟨0, 0, 0, 0⟩)
def dd (x : Str) (i : Nat) : He.DefD := ⟨(x, none), x, x, defArgs (top i), defBody (top i), defScope (top i), [], []⟩
def data : LawD where
  Γ := ⟨prog, 5000, [((Str.ofString "MOST_CROSSINGS"), T.int 8), ((Str.ofString "MOST_RINGS"), T.int 4), ((Str.ofString "MOST_STRINGS"), T.int 4)], [((Str.ofString "BadArgument"), (Str.ofString "name"))],
    [(8, 0, [(Str.ofString "value")], [0]), (17, 0, [(Str.ofString "drawing")], [0]), (12, 0, [(Str.ofString "drawing")], [0]), (13, 0, [(Str.ofString "drawing")], [0]), (19, 0, [(Str.ofString "drawing")], [0]), (18, 0, [(Str.ofString "drawing")], [0]), (14, 0, [(Str.ofString "drawing"), (Str.ofString "one")], [0, 1]), (15, 0, [(Str.ofString "drawing"), (Str.ofString "one"), (Str.ofString "other")], [0, 1, 2])]⟩
  bl := [(Str.ofString "abs"), (Str.ofString "all"), (Str.ofString "any"), (Str.ofString "bool"), (Str.ofString "enumerate"), (Str.ofString "int"), (Str.ofString "isinstance"), (Str.ofString "len"), (Str.ofString "list"), (Str.ofString "max"), (Str.ofString "min"), (Str.ofString "range"), (Str.ofString "sorted"), (Str.ofString "sum"), (Str.ofString "tuple")]
  tf := [((Str.ofString "_law_last"), none)]
  fn := [dd (Str.ofString "demand") 4, dd (Str.ofString "is_in") 5, dd (Str.ofString "is_tuple") 6, dd (Str.ofString "is_sign") 7, dd (Str.ofString "over") 12, dd (Str.ofString "under") 13, dd (Str.ofString "is_under") 14, dd (Str.ofString "tidied_ring") 15, dd (Str.ofString "is_drawing") 16, dd (Str.ofString "demand_drawing") 17, dd (Str.ofString "strands_of") 18, dd (Str.ofString "strand_of") 19, dd (Str.ofString "crossings") 20, dd (Str.ofString "strands") 21, dd (Str.ofString "where") 22, dd (Str.ofString "over_sum") 23, dd (Str.ofString "over_sum_of") 24, dd (Str.ofString "over_sums") 25, dd (Str.ofString "passes_under") 27, dd (Str.ofString "strings") 29, dd (Str.ofString "_law_dice") 31, dd (Str.ofString "_law_roll") 32, dd (Str.ofString "_law_pick") 33, dd (Str.ofString "_law_tidy") 35, dd (Str.ofString "_law_drawing") 36, dd (Str.ofString "_law_rows") 37, dd (Str.ofString "_law_made") 38, dd (Str.ofString "_law_is") 39, dd (Str.ofString "_law_changed") 40, dd (Str.ofString "_law_last") 41, dd (Str.ofString "law") 42, dd (Str.ofString "_law_refused") 34]
set_option maxRecDepth 1000000 in
theorem txt : txtB data = true := by decide +kernel
abbrev R : PySem.W.OpenRow := PySem.W.OpenLaw.row PySem.Challenge.rw_strandhues_k00_whole_passes_over_and_und
abbrev pr : Program := (PySem.Challenge.rw_strandhues_k00_whole_passes_over_and_und).prog
abbrev hk : PySem.W.Hook := hookY 4 data.fn data.tf (exB pr data)
def ob (s : PySem.W.SharedT) : He.AlX := obsY 4 data.fn data.tf (exB pr data) (HandSHeadRun.getT s)
theorem ob_eq (s : PySem.W.SharedT) : ob s = hk.obs s.abs := obsY_eq (HandSHeadRun.getT_eq s)
def loose0 : List Str := [(Str.ofString "BadArgument"), (Str.ofString "MOST_CROSSINGS"), (Str.ofString "MOST_RINGS"), (Str.ofString "MOST_STRINGS"), (Str.ofString "StrandError"), (Str.ofString "_law_changed"), (Str.ofString "_law_dice"), (Str.ofString "_law_drawing"), (Str.ofString "_law_is"), (Str.ofString "_law_last"), (Str.ofString "_law_made"), (Str.ofString "_law_pick"), (Str.ofString "_law_refused"), (Str.ofString "_law_roll"), (Str.ofString "_law_rows"), (Str.ofString "_law_tidy"), (Str.ofString "crossings"), (Str.ofString "demand"), (Str.ofString "demand_drawing"), (Str.ofString "is_drawing"), (Str.ofString "is_in"), (Str.ofString "is_sign"), (Str.ofString "is_tuple"), (Str.ofString "is_under"), (Str.ofString "over"), (Str.ofString "over_sum"), (Str.ofString "over_sum_of"), (Str.ofString "over_sums"), (Str.ofString "passes_under"), (Str.ofString "strand_of"), (Str.ofString "strands"), (Str.ofString "strands_of"), (Str.ofString "strings"), (Str.ofString "tidied_ring"), (Str.ofString "under"), (Str.ofString "where")]
abbrev loose : List Str := loose0
theorem run (w : World) : HandSHeadRun.RunEq R (PySem.W.view R.prog [42]) hk ob 2000 loose w := by
  intro os
  kernel_rfl
end k00
open PySem PySem.W PySem.Calls PyProof.Rows SH
theorem PySem.Challenge.k00_end (m n : Nat) (hm : m ≤ LINE) (hmost : (PySem.Challenge.rw_strandhues_k00_whole_passes_over_and_und).most = some m) (hn : L2.Room (3 * n) callerA) (hrun : ∀ ns : List Int, ns.length ≤ m → callN k00.prog 5000 n 30 [.scr ns] [] = .ok (.bl true) []) : PySem.Challenge.rw_strandhues_k00_whole_passes_over_and_und.Holds := by
  w_on; o_law
  refine HandSHeadRun.head_any (r := OpenLaw.row PySem.Challenge.rw_strandhues_k00_whole_passes_over_and_und) (q := view (OpenLaw.row PySem.Challenge.rw_strandhues_k00_whole_passes_over_and_und).prog [42]) (H := k00.hk) (ob := k00.ob) (M := 2000) (loose := k00.loose) (d := HandSHeadRun.topDef (OpenLaw.row PySem.Challenge.rw_strandhues_k00_whole_passes_over_and_und).prog 42) (kwd := []) k00.ob_eq
    (by kernel_rfl) (fun s => by kernel_rfl) k00.run (by kernel_rfl) (by kernel_rfl) (by kernel_rfl) (by rfl) (by first | assumption | decide +kernel) (by decide +kernel) ⟨rfl, rfl, rfl, rfl, rfl, by decide +kernel⟩ ?hw ?hc
  case hw => w_witness2
  case hc =>
    refine LamX.walk_ofTsE (l := PySem.Challenge.rw_strandhues_k00_whole_passes_over_and_und) (n := m) (k := 3 * n) (x := "script") (CX := fun w => L2.CX (PySem.Challenge.rw_strandhues_k00_whole_passes_over_and_und).prog w) hmost hm (by kernel_rfl) hn ?F (fun _ _ _ _ _ z => noCX z)
    intro w mg fa h Y G hmg0
    obtain ⟨K, KX, c⟩ := Y
    refine ⟨K, KX, law_end (L := k00.data) KX G k00.txt c 30 (fd := k00.f_law) rfl rfl ?_ hm hrun⟩
    have e : (HandSHeadRun.topDef (OpenLaw.row PySem.Challenge.rw_strandhues_k00_whole_passes_over_and_und).prog 42).name = k00.f_law.name := by kernel_rfl
    rw [← e]
    exact hmg0
end
theorem PySem.Challenge.cw_strandhues_k00_whole_passes_over_and_und_holds : PySem.Challenge.rw_strandhues_k00_whole_passes_over_and_und.Holds := by
  exact PySem.Challenge.k00_end 63 (0 + 20) (by decide) rfl ⟨rfl, by decide, by decide⟩ fun ns h => k00.done (by omega)
