import PyProof.Rows.All
import HandS.ForMost
import HandS.ForExc
import HandS.AnyAll
import HandS.TupAny
import HandS.Deep
import HandS.Style
import KE.SortData
import HandS.Dict
import HandS.Slots
import HandS.List
import HandS.Conv
import HandS.Text
import HandS.TupLen
import HandS.Codes
import HandS.RaiseMore
import HandS.More
import HandS.FStr
import HandS.IsInst
import HandS.CallSlots
import HandS.Exc
import HandS.Records
import HandS.ReCall
import HandS.Iter
import HandS.Comp
import HandS.Defaults
import HandS.GenOver
import PyProof.GenRules
import PyProof.GenQ
import HandS.Base
import HandS.Call
import HandS.Ends
import HandS.Head0
import HandS.Head1
import HandS.Head2
import HandS.HeadEnd
import HandS.HeadHook1
import HandS.HeadHook2
import KE.KNestM
import HandS.ExcInit
import HandS.Nested
import KE.KExcSuper
import KE.KSuper
import HandS.ExcField
import HandS.TryOnly
import HandS.DictComp
import HandS.EndTab
import HandS.HeadWalk
import Wide.All
import OpenK.AllK
import Wide.FinOn
import KE.KStateDown
import HandS.Head3
import PySem.Challenge.RW_authsync_k26_changes
set_option Elab.async false
set_option linter.all false
section
set_option linter.all false
namespace Av

abbrev Tx := List Nat
/-- the greatest number of items of a list, of signs of a text -/
def LIM : Nat := 16777214

/-- a dict's key -/
inductive Ky where
  | i (n : Int) | s (t : Tx) | t (ks : List (Sum Int Tx))
  deriving DecidableEq, Repr

/-- data: tuples, frozen lists and frozen dicts are trees; ref n is the n-th object of the memory; scr: the script -/
inductive D where
  | non | bl (b : Bool) | int (i : Int) | str (t : Tx)
  | tup (ds : List D) | lst (ds : List D) | dct (kvs : List (Ky × D))
  | ref (n : Nat) | exn (c : Nat) (fs : List D) | scr (is : List Int)
  deriving Inhabited

/-- an object of the memory; lk: a list or a dict that a loop walks (read, not written) -/
inductive Ob where
  | lst (ds : List D) | dct (kvs : List (Ky × D)) | ins (c : Nat) (fs : List (Nat × D)) | lk (o : Ob)
  deriving Inhabited

abbrev Mem := List Ob
abbrev Sl := List (Option D)
/-- a frame: the slots, the memory that it may write -/
structure Fr where
  sl : Sl
  m : Mem
/-- an exception: its class, the values that it was made with -/
structure Xn where
  c : Nat
  fs : List D

inductive R (S α : Type) where
  | ok (a : α) (st : S) | exc (x : Xn) (st : S) | stuck

def R.bind {S α β : Type} (r : R S α) (f : α → S → R S β) : R S β := match r with
  | .ok a st => f a st
  | .exc x st => .exc x st
  | .stuck => .stuck
theorem R.bind_ok {S α β : Type} (a : α) (st : S) (f : α → S → R S β) : (R.ok a st).bind f = f a st := rfl
theorem R.bind_exc {S α β : Type} (x : Xn) (st : S) (f : α → S → R S β) : (R.exc x st).bind f = .exc x st := rfl
theorem R.bind_stuck {S α β : Type} (f : α → S → R S β) : (R.stuck : R S α).bind f = .stuck := rfl
theorem R.bind_assoc {S α β γ : Type} (r : R S α) (f : α → S → R S β) (g : β → S → R S γ) : (r.bind f).bind g = r.bind fun a st => (f a st).bind g := by
  cases r <;> rfl
/-- a value that may lack -/
def R.of {S α : Type} (o : Option α) (st : S) : R S α := match o with
  | some a => .ok a st
  | none => .stuck
theorem R.of_some {S α : Type} (a : α) (st : S) : R.of (some a) st = .ok a st := rfl
theorem R.of_none {S α : Type} (st : S) : R.of (none : Option α) st = .stuck := rfl
/-- an expression within a statement -/
def R.up {α : Type} (r : R Mem α) (σ : Sl) : R Fr α := match r with
  | .ok a m => .ok a ⟨σ, m⟩
  | .exc x m => .exc x ⟨σ, m⟩
  | .stuck => .stuck
theorem R.up_ok {α : Type} (a : α) (m : Mem) (σ : Sl) : (R.ok a m).up σ = .ok a ⟨σ, m⟩ := rfl
theorem R.up_exc {α : Type} (x : Xn) (m : Mem) (σ : Sl) : (R.exc x m : R Mem α).up σ = .exc x ⟨σ, m⟩ := rfl

def kyP : D → Option (Sum Int Tx)
  | .int i => some (.inl i)
  | .str t => some (.inr t)
  | _ => none
def kyPs : List D → Option (List (Sum Int Tx))
  | [] => some []
  | d :: r => match kyP d, kyPs r with
    | some k, some ks => some (k :: ks)
    | _, _ => none
/-- the key that a value is -/
def ky : D → Option Ky
  | .int i => some (.i i)
  | .str t => some (.s t)
  | .tup ds => (kyPs ds).map .t
  | _ => none
def dP : Sum Int Tx → D
  | .inl i => .int i
  | .inr t => .str t
/-- the value that a key is -/
def dK : Ky → D
  | .i n => .int n
  | .s t => .str t
  | .t ks => .tup (ks.map dP)
/-- keys of one dict are tuples, or none of them is -/
def isT : Ky → Bool
  | .t _ => true
  | _ => false
def getK (kvs : List (Ky × D)) (k : Ky) : Option D := (kvs.find? fun kv => decide (kv.1 = k)).map (·.2)
def hasK (kvs : List (Ky × D)) (k : Ky) : Bool := kvs.any fun kv => decide (kv.1 = k)
def putK (kvs : List (Ky × D)) (k : Ky) (v : D) : List (Ky × D) :=
  if hasK kvs k then kvs.map fun kv => if kv.1 = k then (kv.1, v) else kv else kvs ++ [(k, v)]
def delK (kvs : List (Ky × D)) (k : Ky) : List (Ky × D) := kvs.filter fun kv => decide (kv.1 ≠ k)
/-- k is of the kind of the keys of kvs -/
def kindK (kvs : List (Ky × D)) (k : Ky) : Bool := match kvs with
  | [] => true
  | kv :: _ => isT kv.1 == isT k

def memGet (ro m : Mem) (n : Nat) : Option Ob := if n < ro.length then ro[n]? else m[n - ro.length]?
/-- a list or a dict as it stands there -/
def obD : Ob → Option D
  | .lst ds => some (.lst ds)
  | .dct kvs => some (.dct kvs)
  | .ins _ _ => none
  | .lk o => match o with
    | .lst ds => some (.lst ds)
    | .dct kvs => some (.dct kvs)
    | _ => none
/-- what a value is to be read as -/
def rd (ro m : Mem) (d : D) : D := match d with
  | .ref n => match memGet ro m n with
    | some o => (obD o).getD (.ref n)
    | none => .ref n
  | d => d
/-- the object at n is replaced -/
def memSet (ro m : Mem) (n : Nat) (o : Ob) : Option Mem := if n < ro.length then none else if n - ro.length < m.length then some (m.set (n - ro.length) o) else none

mutual
def plain : D → Bool
  | .non => true
  | .bl _ => true
  | .int _ => true
  | .str _ => true
  | .tup ds => plains ds
  | .lst ds => plains ds
  | .dct kvs => plaink kvs
  | .ref _ => false
  | .exn _ _ => false
  | .scr _ => false
  termination_by structural d => d
def plains : List D → Bool
  | [] => true
  | d :: r => plain d && plains r
  termination_by structural d => d
def plaink : List (Ky × D) → Bool
  | [] => true
  | p :: r => plainp p && plaink r
  termination_by structural d => d
def plainp : Ky × D → Bool
  | (_, d) => plain d
  termination_by structural d => d
end

def b2i (b : Bool) : Int := if b then 1 else 0
mutual
def eqv : D → D → Bool
  | .non, .non => true
  | .bl a, .bl b => a == b
  | .bl a, .int j => b2i a == j
  | .int i, .bl b => i == b2i b
  | .int i, .int j => i == j
  | .str a, .str b => decide (a = b)
  | .tup a, .tup b => eqvs a b
  | .lst a, .lst b => eqvs a b
  | _, _ => false
  termination_by structural d => d
def eqvs : List D → List D → Bool
  | [], [] => true
  | a :: r, b :: s => eqv a b && eqvs r s
  | _, _ => false
  termination_by structural d => d
end
mutual
def eqok : D → Nat → Bool
  | .non, _ => true
  | .bl _, _ => true
  | .int _, _ => true
  | .str _, _ => true
  | .tup ds, n => match n with
    | 0 => false
    | n + 1 => eqoks ds n
  | .lst ds, n => match n with
    | 0 => false
    | n + 1 => eqoks ds n
  | _, _ => false
  termination_by structural d => d
def eqoks : List D → Nat → Bool
  | [], _ => true
  | d :: r, n => eqok d n && eqoks r n
  termination_by structural d => d
end

mutual
def vwS (f : Nat → Option D) : D → Option D
  | .ref n => f n
  | .tup ds => (vwSs f ds).map .tup
  | .lst ds => (vwSs f ds).map .lst
  | .dct kvs => (vwSk f kvs).map .dct
  | .exn _ _ => none
  | d => some d
  termination_by structural d => d
def vwSs (f : Nat → Option D) : List D → Option (List D)
  | [] => some []
  | d :: r => match vwS f d, vwSs f r with
    | some e, some s => some (e :: s)
    | _, _ => none
  termination_by structural d => d
def vwSk (f : Nat → Option D) : List (Ky × D) → Option (List (Ky × D))
  | [] => some []
  | p :: r => match vwSp f p, vwSk f r with
    | some e, some s => some (e :: s)
    | _, _ => none
  termination_by structural d => d
def vwSp (f : Nat → Option D) : Ky × D → Option (Ky × D)
  | (k, d) => (vwS f d).map fun e => (k, e)
  termination_by structural d => d
end
/-- what the n-th object is, looked up at most so deep -/
def vwF (g : Nat → Option Ob) : Nat → Nat → Option D
  | 0, _ => none
  | k + 1, n => match g n with
    | some o => match obD o with
      | some (.lst ds) => (vwSs (vwF g k) ds).map .lst
      | some (.dct kvs) => (vwSk (vwF g k) kvs).map .dct
      | _ => none
    | none => none
def vw (g : Nat → Option Ob) (k : Nat) (d : D) : Option D := vwS (vwF g k) d
/-- .. where only objects from base on are put in (a def's own, at its return) -/
def xpF (g : Nat → Option Ob) (base : Nat) : Nat → Nat → Option D
  | 0, n => if n < base then some (.ref n) else none
  | k + 1, n => if n < base then some (.ref n) else match g n with
    | some o => match obD o with
      | some (.lst ds) => (vwSs (xpF g base k) ds).map .lst
      | some (.dct kvs) => (vwSk (xpF g base k) kvs).map .dct
      | _ => none
    | none => none
def xp (g : Nat → Option Ob) (base k : Nat) (d : D) : Option D := vwS (xpF g base k) d

mutual
def ltV : D → D → Option Bool
  | .int i, .int j => some (decide (i < j))
  | .str a, .str b => some (decide (a < b))
  | .tup a, .tup b => ltVs a b
  | _, _ => none
  termination_by structural d => d
def ltVs : List D → List D → Option Bool
  | [], [] => some false
  | [], _ :: _ => some true
  | _ :: _, [] => some false
  | x :: xs, y :: ys => if eqv x y then ltVs xs ys else ltV x y
  termination_by structural d => d
end
/-- data that sorted serves: ints, texts, tuples of one shape of these -/
inductive Sh where
  | i | s | t (l : List Sh)
mutual
/-- how deep a shape is -/
def shD : Sh → Nat
  | .i => 0
  | .s => 0
  | .t l => shDs l + 1
  termination_by structural h => h
def shDs : List Sh → Nat
  | [] => 0
  | h :: t => max (shD h) (shDs t)
  termination_by structural h => h
end
mutual
def shB : D → Sh → Bool
  | .int _, .i => true
  | .str _, .s => true
  | .tup ds, .t l => shBs ds l
  | _, _ => false
  termination_by structural d => d
def shBs : List D → List Sh → Bool
  | [], [] => true
  | d :: r, h :: t => shB d h && shBs r t
  | _, _ => false
  termination_by structural d => d
end
mutual
def shO : D → Option Sh
  | .int _ => some .i
  | .str _ => some .s
  | .tup ds => (shOs ds).map .t
  | _ => none
  termination_by structural d => d
def shOs : List D → Option (List Sh)
  | [] => some []
  | d :: r => match shO d, shOs r with
    | some h, some t => some (h :: t)
    | _, _ => none
  termination_by structural d => d
end
/-- a < b, of things of one shape -/
def ltS (a b : D) : Option Bool := match shO a with
  | some h => if shB b h && decide (shD h ≤ 20) then ltV a b else none
  | none => none
def flat : D → Bool
  | .int _ => true
  | .str _ => true
  | _ => false
/-- a <= b -/
def leS (a b : D) : Option Bool := if flat a then (ltS b a).map (!·) else none
def gtS (a b : D) : Option Bool := if flat a then ltS b a else none
def geS (a b : D) : Option Bool := if flat a then (ltS a b).map (!·) else none
def leB (a b : D) : Bool := match ltV b a with
  | some true => false
  | _ => true
def shNE : Sh → Bool
  | .t [] => false
  | _ => true
def sortOk (ds : List D) : Bool := match ds with
  | [] => true
  | d :: _ => match shO d with
    | some h => shNE h && decide (shD h ≤ 20) && ds.all fun e => shB e h
    | none => false
def sortV (ds : List D) : Option D := if sortOk ds then some (.lst (ds.mergeSort leB)) else none

def spanT (c : Nat) : Tx → Tx × Option Tx
  | [] => ([], none)
  | x :: r => if x = c then ([], some r) else (x :: (spanT c r).1, (spanT c r).2)
def partT (c : Nat) (t : Tx) : D := match spanT c t with
  | (a, some b) => .tup [.str a, .str [c], .str b]
  | (a, none) => .tup [.str a, .str [], .str []]
def splitT (c : Nat) : Tx → List Tx
  | [] => [[]]
  | x :: r => if x = c then [] :: splitT c r else match splitT c r with
    | [] => [[x]]
    | p :: ps => (x :: p) :: ps
def joinT (s : Tx) : List Tx → Tx
  | [] => []
  | [a] => a
  | a :: r => a ++ s ++ joinT s r
def strsOf : List D → Option (List Tx)
  | [] => some []
  | .str t :: r => (strsOf r).map (t :: ·)
  | _ :: _ => none
def isDig (c : Nat) : Bool := decide (48 ≤ c) && decide (c ≤ 57)
def natT (t : Tx) : Nat := t.foldl (fun a c => a * 10 + (c - 48)) 0
/-- the digits of a number -/
def digs (n : Nat) : Tx := (Nat.toDigits 10 n).map Char.toNat
def intT (i : Int) : Tx := digs i.toNat
/-- a place within n -/
def ixD (n : Nat) (i : Int) : Option Nat := if 0 ≤ i then (if i < n then some i.toNat else none) else if -(n : Int) ≤ i then some (i + n).toNat else none
def cutI (n d : Nat) : Option Int → Nat
  | none => d
  | some v => if v < 0 then (v + n).toNat else min v.toNat n
def cutL {α : Type} (xs : List α) (lo hi : Option Int) : List α := (xs.drop (cutI xs.length 0 lo)).take (cutI xs.length xs.length hi - cutI xs.length 0 lo)

inductive BO where
  | add | sub | mul | fdiv | mod | pow
  deriving DecidableEq
inductive CO where
  | eq | ne | lt | le | gt | ge | mem | nmem | is_ | isnt
  deriving DecidableEq
def B64 : Int := 18446744073709551616
def addV (a b : D) : Option D := match a, b with
  | .int i, .int j => some (.int (i + j))
  | .str s, .str t => if s.length + t.length ≤ LIM then some (.str (s ++ t)) else none
  | .lst s, .lst t => if s.length + t.length ≤ LIM then some (.lst (s ++ t)) else none
  | .tup s, .tup t => if s.length + t.length ≤ LIM then some (.tup (s ++ t)) else none
  | _, _ => none
def subV (a b : D) : Option D := match a, b with
  | .int i, .int j => some (.int (i - j))
  | _, _ => none
def mulV (a b : D) : Option D := match a, b with
  | .int i, .int j => if (-B64 < i ∧ i < B64) ∨ (-B64 < j ∧ j < B64) then some (.int (i * j)) else none
  | _, _ => none
def fdivV (a b : D) : Option D := match a, b with
  | .int i, .int j => if 0 < j ∧ j < 1073741824 then some (.int (i / j)) else none
  | _, _ => none
def modV (a b : D) : Option D := match a, b with
  | .int i, .int j => if 0 < j then some (.int (i % j)) else none
  | _, _ => none
def powV (a b : D) : Option D := match a, b with
  | .int i, .int j => if 0 ≤ j ∧ j ≤ 1000000 ∧ -B64 < i ∧ i < B64 then some (.int (i ^ j.toNat)) else none
  | _, _ => none
def binV (op : BO) (a b : D) : Option D := match op with
  | .add => addV a b
  | .sub => subV a b
  | .mul => mulV a b
  | .fdiv => fdivV a b
  | .mod => modV a b
  | .pow => powV a b
/-- is one of these: None, a bool -/
def isV (a b : D) : Option Bool := match b with
  | .non => match a with
    | .non => some true
    | _ => some false
  | .bl y => match a with
    | .bl x => some (x == y)
    | _ => none
  | _ => none
/-- eqv by what the memory holds -/
def eqM (g : Nat → Option Ob) (a b : D) : Option Bool := match vw g 6 a, vw g 6 b with
  | some x, some y => if eqok x 50 && eqok y 50 then some (eqv x y) else none
  | _, _ => none
def memV (g : Nat → Option Ob) (a b : D) : Option Bool := match b with
  | .str t => match a with
    | .str [c] => some (decide (c ∈ t))
    | _ => none
  | .lst ds => match vw g 6 a, vwSs (vwF g 6) ds with
    | some x, some ys => if eqok x 50 && eqoks ys 50 then some (ys.any fun y => eqv y x) else none
    | _, _ => none
  | .tup ds => match vw g 6 a, vwSs (vwF g 6) ds with
    | some x, some ys => if eqok x 50 && eqoks ys 50 then some (ys.any fun y => eqv y x) else none
    | _, _ => none
  | .dct kvs => match ky a with
    | some k => if kindK kvs k then some (hasK kvs k) else none
    | none => none
  | _ => none
def cmpV (ro m : Mem) (op : CO) (a b : D) : Option Bool := match op with
  | .eq => eqM (memGet ro m) a b
  | .ne => (eqM (memGet ro m) a b).map (!·)
  | .lt => ltS a b
  | .le => leS a b
  | .gt => gtS a b
  | .ge => geS a b
  | .mem => memV (memGet ro m) a (rd ro m b)
  | .nmem => (memV (memGet ro m) a (rd ro m b)).map (!·)
  | .is_ => isV a b
  | .isnt => (isV a b).map (!·)
def truV (d : D) : Option Bool := match d with
  | .non => some false
  | .bl b => some b
  | .int i => some (i != 0)
  | .str t => some (t.length != 0)
  | .lst ds => some (!ds.isEmpty)
  | .tup ds => some (!ds.isEmpty)
  | _ => none
def lenV (d : D) : Option D := match d with
  | .str t => some (.int t.length)
  | .lst ds => some (.int ds.length)
  | .tup ds => some (.int ds.length)
  | .dct kvs => some (.int kvs.length)
  | .scr is => some (.int is.length)
  | _ => none
def atV (d i : D) : Option D := match d, i with
  | .lst ds, .int j => (ixD ds.length j).bind fun k => ds[k]?
  | .tup ds, .int j => (ixD ds.length j).bind fun k => ds[k]?
  | .str t, .int j => (ixD t.length j).bind fun k => t[k]?.map fun c => .str [c]
  | .scr is, .int j => (ixD is.length j).bind fun k => is[k]?.map .int
  | .dct kvs, i => (ky i).bind fun k => if kindK kvs k then getK kvs k else none
  | _, _ => none
def slcV (d : D) (lo hi : Option Int) : Option D := match d with
  | .lst ds => some (.lst (cutL ds lo hi))
  | .tup ds => some (.tup (cutL ds lo hi))
  | .str t => some (.str (cutL t lo hi))
  | _ => none
/-- what a for walks -/
def itemsV (d : D) : Option (List D) := match d with
  | .lst ds => some ds
  | .tup ds => some ds
  | .str t => some (t.map fun c => .str [c])
  | .dct kvs => some (kvs.map fun kv => dK kv.1)
  | _ => none
/-- the built-in functions by values -/
inductive Bi where
  | len | int | str | list | tuple | sorted | min1 | max1 | min2 | max2 | minD | maxD | min3 | max3
  deriving DecidableEq
def intsOf : List D → Option (List Int)
  | [] => some []
  | .int i :: r => (intsOf r).map (i :: ·)
  | _ :: _ => none
def minL : Int → List Int → Int := fun a l => l.foldl (fun m x => if x < m then x else m) a
def maxL : Int → List Int → Int := fun a l => l.foldl (fun m x => if x > m then x else m) a
def strK : Ky → Bool
  | .s _ => true
  | _ => false
def lenL (l : List D) : Option D := match l with
  | [d] => lenV d
  | _ => none
def intL (l : List D) : Option D := match l with
  | [.int i] => some (.int i)
  | [.bl x] => some (.int (b2i x))
  | [.str t] => if t ≠ [] ∧ t.length ≤ 640 ∧ t.all isDig = true then some (.int (natT t)) else none
  | _ => none
def strL (l : List D) : Option D := match l with
  | [.int i] => if 0 ≤ i ∧ i < 10 ^ 200 then some (.str (intT i)) else none
  | [.str t] => some (.str t)
  | _ => none
def lstL (l : List D) : Option D := match l with
  | [.lst l] => some (.lst l)
  | [.tup l] => some (.lst l)
  | [.dct kvs] => some (.lst (kvs.map fun kv => dK kv.1))
  | _ => none
def tupL (l : List D) : Option D := match l with
  | [.lst l] => some (.tup l)
  | [.tup l] => some (.tup l)
  | _ => none
def srtL (l : List D) : Option D := match l with
  | [.lst l] => sortV l
  | _ => none
def mn1L (l : List D) : Option D := match l with
  | [.lst l] => match intsOf l with
    | some (a :: r) => some (.int (minL a r))
    | _ => none
  | _ => none
def mx1L (l : List D) : Option D := match l with
  | [.lst l] => match intsOf l with
    | some (a :: r) => some (.int (maxL a r))
    | _ => none
  | _ => none
def mnDL (l : List D) : Option D := match l with
  | [.lst l, d] => match intsOf l with
    | some (a :: r) => some (.int (minL a r))
    | some [] => some d
    | none => none
  | _ => none
def mxDL (l : List D) : Option D := match l with
  | [.lst l, d] => match intsOf l with
    | some (a :: r) => some (.int (maxL a r))
    | some [] => some d
    | none => none
  | _ => none
def mn2L (l : List D) : Option D := match l with
  | [.int a, .int b] => some (.int (if b < a then b else a))
  | _ => none
def mx2L (l : List D) : Option D := match l with
  | [.int a, .int b] => some (.int (if b > a then b else a))
  | _ => none
def mn3L (l : List D) : Option D := match l with
  | [.int a, .int b, .int c] => some (.int (minL a [b, c]))
  | _ => none
def mx3L (l : List D) : Option D := match l with
  | [.int a, .int b, .int c] => some (.int (maxL a [b, c]))
  | _ => none
def biV (b : Bi) (ds : List D) : Option D := match b with
  | .len => lenL ds
  | .int => intL ds
  | .str => strL ds
  | .list => lstL ds
  | .tuple => tupL ds
  | .sorted => srtL ds
  | .min1 => mn1L ds
  | .max1 => mx1L ds
  | .minD => mnDL ds
  | .maxD => mxDL ds
  | .min2 => mn2L ds
  | .max2 => mx2L ds
  | .min3 => mn3L ds
  | .max3 => mx3L ds
/-- the built-in methods that change nothing -/
inductive Bm where
  | partition | split | join | startswith | find | get | index | replace
  deriving DecidableEq
def findT (c : Nat) (t : Tx) : Int := match spanT c t with
  | (a, some _) => a.length
  | (_, none) => -1
def idxV (x : D) : List D → Nat → Option Nat
  | [], _ => none
  | y :: r, n => if eqv y x then some n else idxV x r (n + 1)
def parM (o : D) (l : List D) : Option D := match o, l with
  | .str t, [.str [c]] => some (partT c t)
  | _, _ => none
def splM (o : D) (l : List D) : Option D := match o, l with
  | .str t, [.str [c]] => if t.length < LIM ∧ c < 256 then some (.lst ((splitT c t).map .str)) else none
  | _, _ => none
def joiV (s : Tx) (l : List D) : Option D := match strsOf l with
  | some ts => if (ts.map (·.length)).sum + ts.length * s.length ≤ LIM then some (.str (joinT s ts)) else none
  | none => none
def joiM (o : D) (l : List D) : Option D := match o, l with
  | .str s, [.lst l] => joiV s l
  | .str s, [.tup l] => joiV s l
  | _, _ => none
def staM (o : D) (l : List D) : Option D := match o, l with
  | .str t, [.str s] => some (.bl (s.isPrefixOf t))
  | _, _ => none
def finM (o : D) (l : List D) : Option D := match o, l with
  | .str t, [.str [c]] => some (.int (findT c t))
  | _, _ => none
def getM (o : D) (l : List D) : Option D := match o with
  | .dct kvs => match l with
    | [k] => (ky k).bind fun k => if kindK kvs k then some ((getK kvs k).getD .non) else none
    | [k, d] => (ky k).bind fun k => if kindK kvs k then some ((getK kvs k).getD d) else none
    | _ => none
  | _ => none
def idxM (o : D) (l : List D) : Option D := match o, l with
  | .lst l, [x] => if eqoks l 50 && eqok x 50 then (idxV x l 0).map fun n => .int n else none
  | _, _ => none
/-- the type of a method's object -/
def bmT (b : Bm) (o : D) : Bool := match b with
  | .get => match o with | .dct _ => true | _ => false
  | .index => match o with | .lst _ => true | _ => false
  | _ => match o with | .str _ => true | _ => false
def bmV (b : Bm) (o : D) (ds : List D) : Option D := match b with
  | .partition => parM o ds
  | .split => splM o ds
  | .join => joiM o ds
  | .startswith => staM o ds
  | .find => finM o ds
  | .get => getM o ds
  | .index => idxM o ds
  | .replace => none
/-- the built-in methods that change their object: (its new state, what they give) -/
inductive Bc where
  | append | extend | pop | popd | remove | setdefault
  deriving DecidableEq
def eraseFirst (x : D) : List D → Option (List D)
  | [] => none
  | y :: r => if eqv y x then some r else (eraseFirst x r).map (y :: ·)
def appC (o : Ob) (l : List D) : Option (Ob × D) := match o, l with
  | .lst l, [d] => if l.length < LIM then some (.lst (l ++ [d]), .non) else none
  | _, _ => none
def extC (o : Ob) (l : List D) : Option (Ob × D) := match o, l with
  | .lst l, [.lst r] => if l.length + r.length ≤ LIM then some (.lst (l ++ r), .non) else none
  | _, _ => none
def popC (o : Ob) (l : List D) : Option (Ob × D) := match o with
  | .lst xs => match l with
    | [] => match xs.getLast? with
      | some d => some (.lst xs.dropLast, d)
      | none => none
    | [.int i] => match ixD xs.length i with
      | some k => match xs[k]? with
        | some d => some (.lst (xs.eraseIdx k), d)
        | none => none
      | none => none
    | _ => none
  | _ => none
def popD (o : Ob) (l : List D) : Option (Ob × D) := match o with
  | .dct kvs => match l with
    | [k] => match ky k with
      | some k => if kindK kvs k then match getK kvs k with
        | some d => some (.dct (delK kvs k), d)
        | none => none else none
      | none => none
    | [k, d] => match ky k with
      | some k => if kindK kvs k then match getK kvs k with
        | some e => some (.dct (delK kvs k), e)
        | none => some (.dct kvs, d) else none
      | none => none
    | _ => none
  | _ => none
def remC (o : Ob) (l : List D) : Option (Ob × D) := match o, l with
  | .lst l, [x] => if eqoks l 50 && eqok x 50 then (eraseFirst x l).map fun r => (.lst r, .non) else none
  | _, _ => none
def sdfC (o : Ob) (l : List D) : Option (Ob × D) := match o, l with
  | .dct kvs, [k, d] => match ky k with
    | some k => if kindK kvs k then match getK kvs k with
      | some e => some (.dct kvs, e)
      | none => if kvs.length < LIM then some (.dct (kvs ++ [(k, d)]), d) else none else none
    | none => none
  | _, _ => none
def bcV (b : Bc) (o : Ob) (ds : List D) : Option (Ob × D) := match b with
  | .append => appC o ds
  | .extend => extC o ds
  | .pop => popC o ds
  | .popd => popD o ds
  | .remove => remC o ds
  | .setdefault => sdfC o ds
def bcT (b : Bc) (o : Ob) : Bool := match b with
  | .append => match o with | .lst _ => true | _ => false
  | .extend => match o with | .lst _ => true | _ => false
  | .remove => match o with | .lst _ => true | _ => false
  | .setdefault => match o with | .dct _ => true | _ => false
  | .pop => match o with | .lst _ => true | _ => false
  | .popd => match o with | .dct _ => true | _ => false
/-- o[i] = v -/
def putV (o : Ob) (i v : D) : Option Ob := match o with
  | .lst l => match i with
    | .int j => (ixD l.length j).map fun k => .lst (l.set k v)
    | _ => none
  | .dct kvs => match ky i with
    | some k => if kindK kvs k && decide (kvs.length < LIM) then some (.dct (putK kvs k v)) else none
    | none => none
  | _ => none
def fldGet (fs : List (Nat × D)) (f : Nat) : Option D := (fs.find? fun p => p.1 == f).map (·.2)
def fldPut (fs : List (Nat × D)) (f : Nat) (v : D) : List (Nat × D) := match fs with
  | [] => [(f, v)]
  | p :: r => if p.1 == f then (f, v) :: r else p :: fldPut r f v
/-- isinstance's classes -/
inductive Ty where
  | int | str | bool | tuple | list | dict | cls (c : Nat) | exc (c : Nat) | ve
  deriving DecidableEq
/-- a part of an f-string -/
def fsV (d : D) : Option Tx := match d with
  | .str t => some t
  | .int i => if 0 ≤ i ∧ i < 10 ^ 200 then some (intT i) else none
  | _ => none

/-- the dict of a display: keys and values in turn -/
def mkD : List D → List (Ky × D) → Option (List (Ky × D))
  | [], acc => some acc
  | [_], _ => none
  | k :: v :: r, acc => match ky k with
    | some kk => if kindK acc kk then mkD r (putK acc kk v) else none
    | none => none

/-- targets -/
inductive Tg where
  | v (i : Nat) | t (l : List Tg)
mutual
inductive CE where
  | cst (d : D) | var (i : Nat)
  | bin (op : BO) (a b : CE) | neg (a : CE) | not_ (a : CE) | and_ (a b : CE) | or_ (a b : CE)
  | cmp (op : CO) (a b : CE) | chain (op op' : CO) (a b c : CE) | ife (t : CT) (a b : CE)
  | call (f : Nat) (l : List CE) | new (c : Nat) (l : List CE) | meth (k : Nat) (o : CE) (l : List CE)
  | bi (b : Bi) (l : List CE) | bm (b : Bm) (o : CE) (l : List CE) | bc (b : Bc) (o : CE) (l : List CE)
  | att (o : CE) (f : Nat) | sub (o i : CE) | slc (o : CE) (lo hi : Option CE)
  | lst (l : List CE) | tup (l : List CE) | dct (l : List CE) | thaw (e : CE)
  | lc (own : List Nat) (tg : Tg) (it : CE) (ifs : List CT) (e : CE)
  | lc2 (own : List Nat) (tg : Tg) (it : CE) (ifs : List CT) (own2 : List Nat) (tg2 : Tg) (it2 : CE) (ifs2 : List CT) (e : CE)
  | dc (own : List Nat) (tg : Tg) (it : CE) (ifs : List CT) (k v : CE)
  | alg (own : List Nat) (tg : Tg) (it : CE) (e : CE) | ang (own : List Nat) (tg : Tg) (it : CE) (e : CE)
  | fst (l : List CE) | isi (a : CE) (t : Ty)
  | rng (l : List CE) | enm (a : CE) | zip (a b : CE) | xat (i k : Nat)
inductive CT where
  | e (a : CE) | and_ (a b : CT) | or_ (a b : CT) | not_ (a : CT)
end
inductive Lv where
  | t (t : Tg) | att (o : CE) (f : Nat) | sub (o i : CE)
mutual
inductive CS where
  | exp (e : CE) | asg (l : Lv) (e : CE) | asgM (ls : List Lv) (e : CE) | aug (o : CE) (f : Nat) (e : CE)
  | ret (e : CE) | ife (t : CT) (a b : List CS) | for_ (tg : Tg) (it : CE) (b : List CS) | whl (t : CT) (b : List CS)
  | brk | cnt | pass | rai (c : Nat) (l : List CE) | try_ (b : List CS) (hs : List Hd)
/-- an except clause: the class, the slot of its name, its suite -/
inductive Hd where
  | mk (c : Nat) (i : Option Nat) (b : List CS)
end
def hdC : Hd → Nat
  | .mk c _ _ => c

/-- what stands around: the defs, the classes -/
structure Pm where
  cf : Nat → List D → Mem → Mem → R Mem D
  ini : Nat → Option Nat
  mt : Nat → Nat → Option Nat
  xf : Nat → Nat → Option Nat
  xsub : Nat → Nat → Bool
  xm : Nat → Option CE
  fo : Nat → Nat → Bool
  wl : Nat

inductive Fl where
  | nx | brk | cnt | ret (d : D)

def lcL (f : D → Mem → R Mem (Option D)) : List D → Mem → R Mem (List D)
  | [], m => .ok [] m
  | d :: r, m => (f d m).bind fun o m1 => (lcL f r m1).bind fun ys m2 => .ok (match o with | some y => y :: ys | none => ys) m2
def lc2L (f : D → Mem → R Mem (List D)) : List D → Mem → R Mem (List D)
  | [], m => .ok [] m
  | d :: r, m => (f d m).bind fun xs m1 => (lc2L f r m1).bind fun ys m2 => .ok (xs ++ ys) m2
def dcL (f : D → Mem → R Mem (Option (Ky × D))) : List D → List (Ky × D) → Mem → R Mem (List (Ky × D))
  | [], acc, m => .ok acc m
  | d :: r, acc, m => (f d m).bind fun o m1 => match o with
    | some p => if kindK acc p.1 then dcL f r (putK acc p.1 p.2) m1 else .stuck
    | none => dcL f r acc m1
def allL (f : D → Mem → R Mem Bool) : List D → Mem → R Mem Bool
  | [], m => .ok true m
  | d :: r, m => (f d m).bind fun b m1 => if b then allL f r m1 else .ok false m1
def anyL (f : D → Mem → R Mem Bool) : List D → Mem → R Mem Bool
  | [], m => .ok false m
  | d :: r, m => (f d m).bind fun b m1 => if b then .ok true m1 else anyL f r m1
def forL (f : D → Fr → R Fr Fl) : List D → Fr → R Fr Fl
  | [], st => .ok .nx st
  | d :: r, st => (f d st).bind fun fl st1 => match fl with
    | .nx => forL f r st1
    | .cnt => forL f r st1
    | .brk => .ok .nx st1
    | .ret d => .ok (.ret d) st1
def whlL (t : Fr → R Fr Bool) (f : Fr → R Fr Fl) : Nat → Fr → R Fr Fl
  | 0, _ => .stuck
  | n + 1, st => (t st).bind fun b st1 => if b then (f st1).bind fun fl st2 => match fl with
    | .nx => whlL t f n st2
    | .cnt => whlL t f n st2
    | .brk => .ok .nx st2
    | .ret d => .ok (.ret d) st2
    else .ok .nx st1
/-- an inner result that may not raise -/
def R.calm {S α β : Type} (r : R S α) (f : α → S → R S β) : R S β := match r with
  | .ok a st => f a st
  | _ => .stuck

/-- a caught exception: not to be stored -/
def isX : D → Bool
  | .exn _ _ => true
  | _ => false
mutual
def asgT : Tg → D → List (Option D) → Option (List (Option D))
  | .v i, d, σ => if i < σ.length then (if isX d then none else some (σ.set i (some d))) else none
  | .t l, d, σ => match d with
    | .tup ds => asgTs l ds σ
    | _ => none
  termination_by structural t => t
def asgTs : List Tg → List D → List (Option D) → Option (List (Option D))
  | [], [], σ => some σ
  | t :: r, d :: ds, σ => (asgT t d σ).bind fun σ1 => asgTs r ds σ1
  | _, _, _ => none
  termination_by structural t => t
end
def wipe (σ : List (Option D)) : List Nat → List (Option D)
  | [] => σ
  | i :: r => (wipe σ r).set i none
def intsIn : Int → Nat → List D
  | _, 0 => []
  | a, n + 1 => .int a :: intsIn (a + 1) n
def enumFrom : Nat → List D → List D
  | _, [] => []
  | n, d :: r => .tup [.int n, d] :: enumFrom (n + 1) r
def zipD : List D → List D → List D
  | a :: r, b :: s => .tup [a, b] :: zipD r s
  | _, _ => []
def B62 : Int := 4611686018427387904
def rngV (ds : List D) : Option D := match ds with
  | [.int j] => if -B62 ≤ j ∧ j < B62 ∧ j.toNat ≤ LIM then some (.lst (intsIn 0 j.toNat)) else none
  | [.int i, .int j] => if -B62 ≤ i ∧ i < B62 ∧ -B62 ≤ j ∧ j < B62 ∧ (j - i).toNat ≤ LIM then some (.lst (intsIn i (j - i).toNat)) else none
  | _ => none
/-- a walked object is locked: its place, where it stands in the frame's own memory unlocked -/
def lockAt (ro m : Mem) (d : D) : Option Nat := match d with
  | .ref n => if n < ro.length then none else match m[n - ro.length]? with
    | some (.lst (_ :: _)) => some (n - ro.length)
    | some (.dct (_ :: _)) => some (n - ro.length)
    | _ => none
  | _ => none
def lockM (m : Mem) (j : Option Nat) : Mem := match j with
  | some j => match m[j]? with
    | some o => m.set j (.lk o)
    | none => m
  | none => m
def unlockM (m : Mem) (j : Option Nat) : Mem := match j with
  | some j => match m[j]? with
    | some (.lk o) => m.set j o
    | _ => m
  | none => m
/-- a walk of a list or dict under its lock -/
def walkE {α : Type} (ro : Mem) (d : D) (m : Mem) (k : List D → Mem → R Mem α) : R Mem α := match itemsV (rd ro m d) with
  | some xs => (k xs (lockM m (lockAt ro m d))).calm fun a m1 => .ok a (unlockM m1 (lockAt ro m d))
  | none => .stuck
def isDct (d : D) : Bool := match d with
  | .dct _ => true
  | _ => false
def walkS (ro : Mem) (d : D) (st : Fr) (k : List D → Fr → R Fr Fl) : R Fr Fl := match itemsV (rd ro st.m d) with
  | some xs => match k xs ⟨st.sl, lockM st.m (lockAt ro st.m d)⟩ with
    | .ok a st1 => .ok a ⟨st1.sl, unlockM st1.m (lockAt ro st.m d)⟩
    | .exc x st1 => if isDct (rd ro st.m d) then .stuck else .exc x ⟨st1.sl, unlockM st1.m (lockAt ro st.m d)⟩
    | .stuck => .stuck
  | none => .stuck

def tyW (t : Ty) (d : D) : Option Bool := match d with
  | .non => some false
  | .bl _ => some (t == .bool || t == .int)
  | .int _ => some (t == .int)
  | .str _ => some (t == .str)
  | .tup _ => some (t == .tuple)
  | .lst _ => some (t == .list)
  | _ => none
def tyV (P : Pm) (ro m : Mem) (d : D) (t : Ty) : Option Bool := match t with
  | .cls c => match d with
    | .ref n => match memGet ro m n with
      | some (.ins c' _) => some (c' == c)
      | _ => none
    | _ => none
  | .exc c => match d with | .exn c' _ => some (P.xsub c' c) | _ => none
  | .ve => match d with | .exn _ _ => some true | _ => none
  | t => tyW t (rd ro m d)

/-- what a method sees of its arguments -/
def bmA (b : Bm) (ro m : Mem) (ds : List D) : List D := match b with
  | .get => ds
  | .index => ds
  | _ => ds.map (rd ro m)
def bcA (b : Bc) (ro m : Mem) (ds : List D) : List D := match b with
  | .extend => ds.map (rd ro m)
  | _ => ds
def bcE (b : Bc) (ro : Mem) (n : Nat) (ds : List D) (m : Mem) : R Mem D := match memGet ro m n with
  | some ob => match bcV b ob ds with
    | some (ob', d) => match memSet ro m n ob' with
      | some m' => .ok d m'
      | none => .stuck
    | none => .stuck
  | none => .stuck
mutual
/-- an expression -/
def ev (P : Pm) (ro : Mem) : CE → Sl → Mem → R Mem D
  | .cst d, _, m => .ok d m
  | .var i, σ, m => match σ[i]? with
    | some (some d) => .ok d m
    | _ => .stuck
  | .bin op a b, σ, m => (ev P ro a σ m).bind fun x m1 => (ev P ro b σ m1).bind fun y m2 => R.of (binV op (rd ro m2 x) (rd ro m2 y)) m2
  | .neg a, σ, m => (ev P ro a σ m).bind fun x m1 => match x with
    | .int i => .ok (.int (-i)) m1
    | _ => .stuck
  | .not_ a, σ, m => (ev P ro a σ m).bind fun x m1 => (R.of (truV (rd ro m1 x)) m1).bind fun b m2 => .ok (.bl (!b)) m2
  | .and_ a b, σ, m => (ev P ro a σ m).bind fun x m1 => match x with
    | .bl c => if c then ev P ro b σ m1 else .ok (.bl false) m1
    | _ => .stuck
  | .or_ a b, σ, m => (ev P ro a σ m).bind fun x m1 => match x with
    | .bl c => if c then .ok (.bl true) m1 else ev P ro b σ m1
    | _ => .stuck
  | .cmp op a b, σ, m => (ev P ro a σ m).bind fun x m1 => (ev P ro b σ m1).bind fun y m2 => (R.of (cmpV ro m2 op x y) m2).bind fun r m3 => .ok (.bl r) m3
  | .chain op op' a b c, σ, m => (ev P ro a σ m).bind fun x m1 => (ev P ro b σ m1).bind fun y m2 => (R.of (cmpV ro m2 op x y) m2).bind fun r m3 =>
    if r then (ev P ro c σ m3).bind fun z m4 => (R.of (cmpV ro m4 op' y z) m4).bind fun r' m5 => .ok (.bl r') m5 else .ok (.bl false) m3
  | .ife t a b, σ, m => (evT P ro t σ m).bind fun c m1 => if c then ev P ro a σ m1 else ev P ro b σ m1
  | .call f l, σ, m => (evs P ro l σ m).bind fun ds m1 => P.cf f ds ro m1
  | .new c l, σ, m => (evs P ro l σ m).bind fun ds m1 => match P.ini c with
    | some f => (P.cf f (.ref (ro.length + m1.length) :: ds) ro (m1 ++ [.ins c []])).bind fun d m2 => match d with
      | .non => .ok (.ref (ro.length + m1.length)) m2
      | _ => .stuck
    | none => .stuck
  | .meth k o l, σ, m => (ev P ro o σ m).bind fun x m1 => match x with
    | .ref n => match memGet ro m1 n with
      | some (.ins c _) => match P.mt c k with
        | some f => (evs P ro l σ m1).bind fun ds m2 => P.cf f (.ref n :: ds) ro m2
        | none => .stuck
      | _ => .stuck
    | _ => .stuck
  | .bi b l, σ, m => (evs P ro l σ m).bind fun ds m1 => R.of (biV b (ds.map (rd ro m1))) m1
  | .bm b o l, σ, m => (ev P ro o σ m).bind fun x m1 => if bmT b (rd ro m1 x) then (evs P ro l σ m1).bind fun ds m2 => R.of (bmV b (rd ro m2 x) (bmA b ro m2 ds)) m2 else .stuck
  | .bc b o l, σ, m => (ev P ro o σ m).bind fun x m1 => match x with
    | .ref n => match memGet ro m1 n with
      | some ob => if bcT b ob then (evs P ro l σ m1).bind fun ds m2 => bcE b ro n (bcA b ro m2 ds) m2 else .stuck
      | none => .stuck
    | _ => .stuck
  | .att o f, σ, m => (ev P ro o σ m).bind fun x m1 => match x with
    | .ref n => match memGet ro m1 n with
      | some (.ins c fs) => if P.fo c f then R.of (fldGet fs f) m1 else .stuck
      | _ => .stuck
    | .exn c fs => R.of ((P.xf c f).bind fun k => fs[k]?) m1
    | _ => .stuck
  | .sub o i, σ, m => (ev P ro o σ m).bind fun x m1 => (ev P ro i σ m1).bind fun y m2 => R.of (atV (rd ro m2 x) y) m2
  | .slc o lo hi, σ, m => (ev P ro o σ m).bind fun x m1 => (evO P ro lo σ m1).bind fun l m2 => (evO P ro hi σ m2).bind fun h m3 => R.of (slcV (rd ro m3 x) l h) m3
  | .lst l, σ, m => (evs P ro l σ m).bind fun ds m1 => .ok (.ref (ro.length + m1.length)) (m1 ++ [.lst ds])
  | .tup l, σ, m => (evs P ro l σ m).bind fun ds m1 => .ok (.tup ds) m1
  | .dct l, σ, m => (evs P ro l σ m).bind fun ds m1 => match mkD ds [] with
    | some kvs => .ok (.ref (ro.length + m1.length)) (m1 ++ [.dct kvs])
    | none => .stuck
  | .thaw e, σ, m => (ev P ro e σ m).bind fun d m1 => match d with
    | .lst ds => .ok (.ref (ro.length + m1.length)) (m1 ++ [.lst ds])
    | .dct kvs => .ok (.ref (ro.length + m1.length)) (m1 ++ [.dct kvs])
    | _ => .stuck
  | .lc own tg it ifs e, σ, m => (ev P ro it σ m).bind fun d m1 => (walkE ro d m1 fun xs m2 => lcL (fun x m3 => match asgT tg x (wipe σ own) with
      | some σ1 => (evTs P ro ifs σ1 m3).bind fun c m4 => if c then (ev P ro e σ1 m4).bind fun y m5 => .ok (some y) m5 else .ok none m4
      | none => .stuck) xs m2).bind fun ys m6 => .ok (.lst ys) m6
  | .lc2 own tg it ifs own2 tg2 it2 ifs2 e, σ, m => (ev P ro it σ m).bind fun d m1 => (walkE ro d m1 fun xs m2 => lc2L (fun x m3 => match asgT tg x (wipe σ own) with
      | some σ1 => (evTs P ro ifs σ1 m3).bind fun c m4 => if c then
          (ev P ro it2 σ1 m4).bind fun d2 m5 => walkE ro d2 m5 fun xs2 m6 => lcL (fun x2 m7 => match asgT tg2 x2 (wipe σ1 own2) with
            | some σ2 => (evTs P ro ifs2 σ2 m7).bind fun c2 m8 => if c2 then (ev P ro e σ2 m8).bind fun y m9 => .ok (some y) m9 else .ok none m8
            | none => .stuck) xs2 m6
          else .ok [] m4
      | none => .stuck) xs m2).bind fun ys mz => if ys.length ≤ LIM then .ok (.lst ys) mz else .stuck
  | .dc own tg it ifs k v, σ, m => (ev P ro it σ m).bind fun d m1 => (walkE ro d m1 fun xs m2 => dcL (fun x m3 => match asgT tg x (wipe σ own) with
      | some σ1 => (evTs P ro ifs σ1 m3).bind fun c m4 => if c then (ev P ro k σ1 m4).bind fun y m5 => (ev P ro v σ1 m5).bind fun z m6 => match ky y with
          | some kk => .ok (some (kk, z)) m6
          | none => .stuck
        else .ok none m4
      | none => .stuck) xs [] m2).bind fun kvs m7 => .ok (.dct kvs) m7
  | .alg own tg it e, σ, m => (ev P ro it σ m).bind fun d m1 => (walkE ro d m1 fun xs m2 => allL (fun x m3 => match asgT tg x (wipe σ own) with
      | some σ1 => (ev P ro e σ1 m3).bind fun y m4 => match y with
        | .bl b => .ok b m4
        | _ => .stuck
      | none => .stuck) xs m2).bind fun b m5 => .ok (.bl b) m5
  | .ang own tg it e, σ, m => (ev P ro it σ m).bind fun d m1 => (walkE ro d m1 fun xs m2 => anyL (fun x m3 => match asgT tg x (wipe σ own) with
      | some σ1 => (ev P ro e σ1 m3).bind fun y m4 => match y with
        | .bl b => .ok b m4
        | _ => .stuck
      | none => .stuck) xs m2).bind fun b m5 => .ok (.bl b) m5
  | .fst l, σ, m => (evF P ro l [] σ m).bind fun t m1 => .ok (.str t) m1
  | .isi a t, σ, m => (ev P ro a σ m).bind fun x m1 => (R.of (tyV P ro m1 x t) m1).bind fun b m2 => .ok (.bl b) m2
  | .rng l, σ, m => (evs P ro l σ m).bind fun ds m1 => R.of (rngV ds) m1
  | .enm a, σ, m => (ev P ro a σ m).bind fun x m1 => match rd ro m1 x with
    | .lst ds => .ok (.lst (enumFrom 0 ds)) m1
    | _ => .stuck
  | .xat i k, σ, m => match σ[i]? with
    | some (some (.exn c fs)) => R.of ((P.xf c k).bind fun j => fs[j]?) m
    | _ => .stuck
  | .zip a b, σ, m => (ev P ro a σ m).bind fun x m1 => (ev P ro b σ m1).bind fun y m2 => match rd ro m2 x, rd ro m2 y with
    | .lst ds, .lst es => .ok (.lst (zipD ds es)) m2
    | _, _ => .stuck
  termination_by structural e => e
/-- a test -/
def evT (P : Pm) (ro : Mem) : CT → Sl → Mem → R Mem Bool
  | .and_ a b, σ, m => (evT P ro a σ m).bind fun c m1 => if c then evT P ro b σ m1 else .ok false m1
  | .or_ a b, σ, m => (evT P ro a σ m).bind fun c m1 => if c then .ok true m1 else evT P ro b σ m1
  | .not_ a, σ, m => (evT P ro a σ m).bind fun c m1 => .ok (!c) m1
  | .e e, σ, m => (ev P ro e σ m).bind fun x m1 => R.of (truV (rd ro m1 x)) m1
  termination_by structural e => e
def evs (P : Pm) (ro : Mem) : List CE → Sl → Mem → R Mem (List D)
  | [], _, m => .ok [] m
  | e :: r, σ, m => (ev P ro e σ m).bind fun x m1 => (evs P ro r σ m1).bind fun xs m2 => .ok (x :: xs) m2
  termination_by structural e => e
def evTs (P : Pm) (ro : Mem) : List CT → Sl → Mem → R Mem Bool
  | [], _, m => .ok true m
  | e :: r, σ, m => (evT P ro e σ m).bind fun c m1 => if c then evTs P ro r σ m1 else .ok false m1
  termination_by structural e => e
def evF (P : Pm) (ro : Mem) : List CE → Tx → Sl → Mem → R Mem Tx
  | [], acc, _, m => .ok acc m
  | e :: r, acc, σ, m => (ev P ro e σ m).bind fun x m1 => match fsV x with
    | some t => if acc.length + t.length ≤ LIM then evF P ro r (acc ++ t) σ m1 else .stuck
    | none => .stuck
  termination_by structural e => e
def evO (P : Pm) (ro : Mem) : Option CE → Sl → Mem → R Mem (Option Int)
  | none, _, m => .ok none m
  | some e, σ, m => (ev P ro e σ m).bind fun x m1 => match x with
    | .int i => .ok (some i) m1
    | _ => .stuck
  termination_by structural e => e
end

/-- a suite's end: no exception leaves it -/
def R.still {S α β : Type} (r : R S α) (f : α → S → R S β) : R S β := match r with
  | .ok a st => f a st
  | _ => .stuck
def fldSt (fo : Nat → Nat → Bool) (ro : Mem) (x : D) (f : Nat) (v : D) (st : Fr) : R Fr Fl := match x with
  | .ref n => match memGet ro st.m n with
    | some (.ins c fs) => if fo c f && decide (fs.length < 900) then match memSet ro st.m n (.ins c (fldPut fs f v)) with
      | some m => .ok .nx ⟨st.sl, m⟩
      | none => .stuck else .stuck
    | _ => .stuck
  | _ => .stuck
def asgLv (P : Pm) (ro : Mem) (l : Lv) (d : D) (st : Fr) : R Fr Fl := match l with
  | .t t => match asgT t d st.sl with
    | some σ => .ok .nx ⟨σ, st.m⟩
    | none => .stuck
  | .att o f => ((ev P ro o st.sl st.m).up st.sl).bind fun x st1 => fldSt P.fo ro x f d st1
  | .sub o i => ((ev P ro o st.sl st.m).up st.sl).bind fun x st1 => ((ev P ro i st1.sl st1.m).up st1.sl).bind fun y st2 => match x with
    | .ref n => match memGet ro st2.m n with
      | some ob => match putV ob y d with
        | some ob' => match memSet ro st2.m n ob' with
          | some m => .ok .nx ⟨st2.sl, m⟩
          | none => .stuck
        | none => .stuck
      | none => .stuck
    | _ => .stuck
def asgLvs (P : Pm) (ro : Mem) : List Lv → List D → Fr → R Fr Fl
  | [], [], st => .ok .nx st
  | l :: ls, d :: ds, st => (asgLv P ro l d st).bind fun _ st1 => asgLvs P ro ls ds st1
  | _, _, _ => .stuck
mutual
def ex (P : Pm) (ro : Mem) : CS → Fr → R Fr Fl
  | .exp e, st => ((ev P ro e st.sl st.m).up st.sl).bind fun _ st1 => .ok .nx st1
  | .asg l e, st => ((ev P ro e st.sl st.m).up st.sl).bind fun d st1 => asgLv P ro l d st1
  | .asgM ls e, st => ((ev P ro e st.sl st.m).up st.sl).bind fun d st1 => match d with
    | .tup ds => asgLvs P ro ls ds st1
    | _ => .stuck
  | .aug o f e, st => ((ev P ro o st.sl st.m).up st.sl).bind fun x st1 => match x with
    | .ref n => match memGet ro st1.m n with
      | some (.ins _ fs) => match fldGet fs f with
        | some a => ((ev P ro e st1.sl st1.m).up st1.sl).bind fun b st2 => (R.of (binV .add a b) st2).bind fun c st3 => fldSt P.fo ro x f c st3
        | none => .stuck
      | _ => .stuck
    | _ => .stuck
  | .ret e, st => ((ev P ro e st.sl st.m).up st.sl).bind fun d st1 => .ok (.ret d) st1
  | .ife t a b, st => ((evT P ro t st.sl st.m).up st.sl).bind fun c st1 => if c then exs P ro a st1 else exs P ro b st1
  | .for_ tg it b, st => ((ev P ro it st.sl st.m).up st.sl).bind fun d st1 => walkS ro d st1 fun xs st2 => forL (fun x s => match asgT tg x s.sl with
    | some σ => exs P ro b ⟨σ, s.m⟩
    | none => .stuck) xs st2
  | .whl t b, st => whlL (fun s => (evT P ro t s.sl s.m).up s.sl) (fun s => exs P ro b s) P.wl st
  | .brk, st => .ok .brk st
  | .cnt, st => .ok .cnt st
  | .pass, st => .ok .nx st
  | .rai c l, st => ((evs P ro l st.sl st.m).up st.sl).bind fun ds st1 => match P.xm c with
    | some e => ((ev P ro e (none :: (ds.map some ++ [none])) st1.m).up st1.sl).still fun _ st2 => if plains ds then .exc ⟨c, ds⟩ st2 else .stuck
    | none => .stuck
  | .try_ b hs, st => match exs P ro b st with
    | .exc x st1 => exH P ro hs x st1
    | .ok f st1 => .ok f st1
    | .stuck => .stuck
  termination_by structural s => s
def exs (P : Pm) (ro : Mem) : List CS → Fr → R Fr Fl
  | [], st => .ok .nx st
  | s :: r, st => (ex P ro s st).bind fun f st1 => match f with
    | .nx => exs P ro r st1
    | f => .ok f st1
  termination_by structural s => s
def exH (P : Pm) (ro : Mem) : List Hd → Xn → Fr → R Fr Fl
  | [], x, st => .exc x st
  | h :: r, x, st => if P.xsub x.c (hdC h) then exHd P ro h x st else exH P ro r x st
  termination_by structural s => s
def exHd (P : Pm) (ro : Mem) : Hd → Xn → Fr → R Fr Fl
  | .mk _ (some i) b, x, st => (exs P ro b ⟨st.sl.set i (some (.exn x.c x.fs)), st.m⟩).still fun f st1 => .ok f ⟨st1.sl.set i none, st1.m⟩
  | .mk _ none b, x, st => (exs P ro b st).still fun f st1 => .ok f st1
  termination_by structural s => s
end

/-- a def: its parameters, its slots; pure: what it makes dies at its return, what it returns is frozen -/
structure FD where
  np : Nat
  ns : Nat
  pure : Bool
  body : List CS
/-- the whole program -/
structure Pg where
  fn : Nat → Option FD
  ini : Nat → Option Nat
  mt : Nat → Nat → Option Nat
  xf : Nat → Nat → Option Nat
  xsub : Nat → Nat → Bool
  xm : Nat → Option CE
  fo : Nat → Nat → Bool
  wl : Nat
def Pg.pm (G : Pg) (cf : Nat → List D → Mem → Mem → R Mem D) : Pm := ⟨cf, G.ini, G.mt, G.xf, G.xsub, G.xm, G.fo, G.wl⟩
def slots (ds : List D) (n : Nat) : Sl := ds.map some ++ List.replicate (n - ds.length) none
/-- a pure def's end -/
def endP (ro m : Mem) (r : R Fr Fl) : R Mem D := match r with
  | .ok (.ret d) st => match xp (memGet ro st.m) ro.length 6 d with
    | some e => .ok e m
    | none => .stuck
  | .ok .nx _ => .ok .non m
  | .ok _ _ => .stuck
  | .exc x _ => if plains x.fs then .exc x m else .stuck
  | .stuck => .stuck
/-- another def's end -/
def endI (r : R Fr Fl) : R Mem D := match r with
  | .ok (.ret d) st => .ok d st.m
  | .ok .nx st => .ok .non st.m
  | .ok _ _ => .stuck
  | .exc x st => if plains x.fs then .exc x st.m else .stuck
  | .stuck => .stuck
def callF (G : Pg) : Nat → Nat → List D → Mem → Mem → R Mem D
  | 0, _, _, _, _ => .stuck
  | n + 1, f, ds, ro, m => match G.fn f with
    | none => .stuck
    | some fd => if ds.length = fd.np then
        if fd.pure then endP (ro ++ m) m (exs (G.pm (callF G n)) (ro ++ m) fd.body ⟨slots ds fd.ns, []⟩)
        else endI (exs (G.pm (callF G n)) ro fd.body ⟨slots ds fd.ns, m⟩)
      else .stuck
end Av
end
section
set_option Elab.async false
set_option linter.all false
set_option maxRecDepth 100000
set_option autoImplicit false
namespace Av
open PySem PySem.Spec PyProof.Rows L2

def xS (t : Tx) : Str := ⟨t.toArray⟩
theorem xS_len (t : Tx) : (xS t).length = t.length := by simp [xS, Str.length]
theorem xS_inj {a b : Tx} (h : xS a = xS b) : a = b := by
  have e : a.toArray = b.toArray := congrArg Str.cps h
  simpa using congrArg Array.toList e
theorem xS_iff (a b : Tx) : decide (xS a = xS b) = decide (a = b) := by
  by_cases h : a = b
  · subst h; simp
  · have h2 : ¬ xS a = xS b := fun e => h (xS_inj e)
    rw [decide_eq_false h, decide_eq_false h2]
theorem xS_app (a b : Tx) : xS (a ++ b) = xS a ++ xS b := by
  show (⟨(a ++ b).toArray⟩ : Str) = ⟨a.toArray ++ b.toArray⟩
  simp
theorem xS_tl (t : Tx) : (xS t).cps.toList = t := by simp [xS]
theorem xS_of (x : Str) : xS x.cps.toList = x := by simp [xS]
theorem lim_line : LIM + 2 = sizeLine := by rw [sizeLine_eq]; rfl
theorem lim_le {n : Nat} (h : n ≤ LIM) : n ≤ sizeLine := by have := lim_line; omega
theorem lim_lt {n : Nat} (h : n ≤ LIM) : n < sizeLine := by have := lim_line; omega

/-- a text as it may be -/
def okT (t : Tx) : Prop := t.length ≤ LIM ∧ ∀ c ∈ t, c < 1114112
def okTb (t : Tx) : Bool := decide (t.length ≤ LIM) && t.all fun c => decide (c < 1114112)
theorem okTb_ok {t : Tx} (h : okTb t = true) : okT t := by
  unfold okTb at h
  rw [Bool.and_eq_true] at h
  exact ⟨of_decide_eq_true h.1, fun c hc => of_decide_eq_true (List.all_eq_true.mp h.2 c hc)⟩
theorem okT_ok {t : Tx} (h : okT t) : okTb t = true := by
  unfold okTb
  rw [Bool.and_eq_true]
  exact ⟨decide_eq_true h.1, List.all_eq_true.mpr fun c hc => decide_eq_true (h.2 c hc)⟩
theorem okT_app {a b : Tx} (ha : okT a) (hb : okT b) (h : a.length + b.length ≤ LIM) : okT (a ++ b) :=
  ⟨by rw [List.length_append]; exact h, fun c hc => (List.mem_append.mp hc).elim (ha.2 c) (hb.2 c)⟩
theorem okT_sub {a b : Tx} (hb : okT b) (hl : a.length ≤ b.length) (h : ∀ c ∈ a, c ∈ b) : okT a := ⟨Nat.le_trans hl hb.1, fun c hc => hb.2 c (h c hc)⟩

/-- the world: the memory's addresses; what is frozen; which dicts are locked; which places of the memory are; what is held by code that runs -/
structure Wd where
  io : Nat → Option Addr
  fz : Hp
  lk : Addr → Option (Obj × HO)
  ll : Nat → Option Ob
  hd : Hp
  xe : Addr → Option (Nat × List Str × Addr)
  cur : Option (Nat × Addr × Nat × List Str × Addr)
/-- data of the one are data of the other -/
structure Wd.Sub (w w' : Wd) : Prop where
  io : ∀ n a, w.io n = some a → w'.io n = some a
  fz : ∀ a o, w.fz a = some o → w'.fz a = some o
  xe : ∀ a o, w.xe a = some o → w'.xe a = some o
structure Wd.Le (w w' : Wd) : Prop where
  io : ∀ n a, w.io n = some a → w'.io n = some a
  fz : ∀ a o, w.fz a = some o → w'.fz a = some o
  xe : ∀ a o, w.xe a = some o → w'.xe a = some o
  lk : w'.lk = w.lk
  ll : w'.ll = w.ll
  hd : w'.hd = w.hd
  cur : w'.cur = w.cur
theorem Wd.Sub.refl (w : Wd) : w.Sub w := ⟨fun _ _ h => h, fun _ _ h => h, fun _ _ h => h⟩
theorem Wd.Sub.trans {a b c : Wd} (x : a.Sub b) (y : b.Sub c) : a.Sub c := ⟨fun n p h => y.io n p (x.io n p h), fun n p h => y.fz n p (x.fz n p h), fun n p h => y.xe n p (x.xe n p h)⟩
theorem Wd.Le.sub {w w' : Wd} (l : w.Le w') : w.Sub w' := ⟨l.io, l.fz, l.xe⟩
theorem Wd.Le.refl (w : Wd) : w.Le w := ⟨fun _ _ h => h, fun _ _ h => h, fun _ _ h => h, rfl, rfl, rfl, rfl⟩
theorem Wd.Le.trans {a b c : Wd} (x : a.Le b) (y : b.Le c) : a.Le c := ⟨fun n p h => y.io n p (x.io n p h), fun n p h => y.fz n p (x.fz n p h), fun n p h => y.xe n p (x.xe n p h), y.lk.trans x.lk, y.ll.trans x.ll, y.hd.trans x.hd, y.cur.trans x.cur⟩

def pK : Sum Int Tx → Key
  | .inl i => .inl i
  | .inr t => .inr (xS t)
def pLim : Sum Int Tx → Bool
  | .inl _ => true
  | .inr t => okTb t
def kK : Ky → Option Key
  | .i n => some (.inl n)
  | .s t => some (.inr (xS t))
  | .t _ => none
def kT : Ky → Option (List Key)
  | .t ks => some (ks.map pK)
  | _ => none
def kLim : Ky → Bool
  | .i _ => true
  | .s t => okTb t
  | .t ks => decide (ks.length ≤ LIM) && ks.all pLim

mutual
inductive RelD (w : Wd) : D → V → Prop
  | non : RelD w .non .non
  | bl (b : Bool) : RelD w (.bl b) (.bl b)
  | int (i : Int) : RelD w (.int i) (.int i)
  | str (t : Tx) : okT t → RelD w (.str t) (.str (xS t))
  | tup {ds : List D} {a : Addr} {vs : List V} : ds.length ≤ LIM → w.fz a = some (.tup vs) → RelDs w ds vs → RelD w (.tup ds) (.ref a)
  | lst {ds : List D} {a : Addr} {vs : List V} : ds.length ≤ LIM → w.fz a = some (.lst vs) → RelDs w ds vs → RelD w (.lst ds) (.ref a)
  | dcK {kvs : List (Ky × D)} {a : Addr} {ps : List (Key × V)} : kvs.length ≤ LIM → w.fz a = some (.dK ps) → RelK w kvs ps → RelD w (.dct kvs) (.ref a)
  | dcT {kvs : List (Ky × D)} {a : Addr} {ps : List (List Key × V)} : kvs.length ≤ LIM → w.fz a = some (.dT ps) → RelT w kvs ps → RelD w (.dct kvs) (.ref a)
  | ref {n : Nat} {a : Addr} : w.io n = some a → RelD w (.ref n) (.ref a)
  | exn {c : Nat} {fs : List D} {a : Addr} : RelD w (.exn c fs) (.ref a)
  | scr {is : List Int} {a : Addr} : Rd w.fz a (.lst (is.map V.int)) → is.length ≤ LIM → RelD w (.scr is) (.ref a)
inductive RelDs (w : Wd) : List D → List V → Prop
  | nil : RelDs w [] []
  | cons {d : D} {v : V} {ds : List D} {vs : List V} : RelD w d v → RelDs w ds vs → RelDs w (d :: ds) (v :: vs)
inductive RelK (w : Wd) : List (Ky × D) → List (Key × V) → Prop
  | nil : RelK w [] []
  | cons {k : Ky} {d : D} {k' : Key} {v : V} {r : List (Ky × D)} {r' : List (Key × V)} : kK k = some k' → kLim k = true → RelD w d v → RelK w r r' → RelK w ((k, d) :: r) ((k', v) :: r')
inductive RelT (w : Wd) : List (Ky × D) → List (List Key × V) → Prop
  | nil : RelT w [] []
  | cons {k : Ky} {d : D} {k' : List Key} {v : V} {r : List (Ky × D)} {r' : List (List Key × V)} : kT k = some k' → kLim k = true → RelD w d v → RelT w r r' → RelT w ((k, d) :: r) ((k', v) :: r')
end

mutual
theorem RelD.sub {w w' : Wd} (l : w.Sub w') : ∀ {d : D} {v : V}, RelD w d v → RelD w' d v
  | _, _, .non => .non
  | _, _, .bl b => .bl b
  | _, _, .int i => .int i
  | _, _, .str t h => .str t h
  | _, _, .tup h e r => .tup h (l.fz _ _ e) (RelDs.sub l r)
  | _, _, .lst h e r => .lst h (l.fz _ _ e) (RelDs.sub l r)
  | _, _, .dcK h e r => .dcK h (l.fz _ _ e) (RelK.sub l r)
  | _, _, .dcT h e r => .dcT h (l.fz _ _ e) (RelT.sub l r)
  | _, _, .ref e => .ref (l.io _ _ e)
  | _, _, .exn => .exn
  | _, _, .scr e h => .scr (by
      rcases e with e | ⟨o, e⟩
      · exact .inl (l.fz _ _ e)
      · exact .inr ⟨o, l.fz _ _ e⟩) h
theorem RelDs.sub {w w' : Wd} (l : w.Sub w') : ∀ {ds : List D} {vs : List V}, RelDs w ds vs → RelDs w' ds vs
  | _, _, .nil => .nil
  | _, _, .cons r s => .cons (RelD.sub l r) (RelDs.sub l s)
theorem RelK.sub {w w' : Wd} (l : w.Sub w') : ∀ {ds : List (Ky × D)} {vs : List (Key × V)}, RelK w ds vs → RelK w' ds vs
  | _, _, .nil => .nil
  | _, _, .cons a b r s => .cons a b (RelD.sub l r) (RelK.sub l s)
theorem RelT.sub {w w' : Wd} (l : w.Sub w') : ∀ {ds : List (Ky × D)} {vs : List (List Key × V)}, RelT w ds vs → RelT w' ds vs
  | _, _, .nil => .nil
  | _, _, .cons a b r s => .cons a b (RelD.sub l r) (RelT.sub l s)
end

theorem RelD.mono {w w' : Wd} (l : w.Le w') {d : D} {v : V} (h : RelD w d v) : RelD w' d v := h.sub l.sub
theorem RelDs.mono {w w' : Wd} (l : w.Le w') {d : List D} {v : List V} (h : RelDs w d v) : RelDs w' d v := h.sub l.sub
theorem RelK.mono {w w' : Wd} (l : w.Le w') {d : List (Ky × D)} {v : List (Key × V)} (h : RelK w d v) : RelK w' d v := h.sub l.sub
theorem RelT.mono {w w' : Wd} (l : w.Le w') {d : List (Ky × D)} {v : List (List Key × V)} (h : RelT w d v) : RelT w' d v := h.sub l.sub

section lists
variable {w : Wd}
theorem RelDs.length : ∀ {ds : List D} {vs : List V}, RelDs w ds vs → ds.length = vs.length
  | _, _, .nil => rfl
  | _, _, .cons _ s => by simp [RelDs.length s]
theorem RelDs.get : ∀ {ds : List D} {vs : List V} {i : Nat} {d : D}, RelDs w ds vs → ds[i]? = some d → ∃ v, vs[i]? = some v ∧ RelD w d v
  | _, _, _, _, .nil, e => by simp at e
  | _, _, 0, _, .cons r _, e => by simp at e; subst e; exact ⟨_, rfl, r⟩
  | _, _, i + 1, d, .cons _ s, e => by
    obtain ⟨v, h1, h2⟩ := RelDs.get (i := i) (d := d) s (by simpa using e)
    exact ⟨v, by simpa using h1, h2⟩
theorem RelDs.getV : ∀ {ds : List D} {vs : List V} {i : Nat} {v : V}, RelDs w ds vs → vs[i]? = some v → ∃ d, ds[i]? = some d ∧ RelD w d v
  | _, _, _, _, .nil, e => by simp at e
  | _, _, 0, _, .cons r _, e => by simp at e; subst e; exact ⟨_, rfl, r⟩
  | _, _, i + 1, d, .cons _ s, e => by
    obtain ⟨v, h1, h2⟩ := RelDs.getV (i := i) (v := d) s (by simpa using e)
    exact ⟨v, by simpa using h1, h2⟩
theorem RelDs.append : ∀ {ds es : List D} {vs us : List V}, RelDs w ds vs → RelDs w es us → RelDs w (ds ++ es) (vs ++ us)
  | _, _, _, _, .nil, s => s
  | _, _, _, _, .cons r t, s => .cons r (RelDs.append t s)
theorem RelDs.take : ∀ {ds : List D} {vs : List V} (n : Nat), RelDs w ds vs → RelDs w (ds.take n) (vs.take n)
  | _, _, 0, _ => by simp; exact .nil
  | _, _, _ + 1, .nil => .nil
  | _, _, n + 1, .cons r t => .cons r (RelDs.take n t)
theorem RelDs.drop : ∀ {ds : List D} {vs : List V} (n : Nat), RelDs w ds vs → RelDs w (ds.drop n) (vs.drop n)
  | _, _, 0, r => r
  | _, _, _ + 1, .nil => .nil
  | _, _, n + 1, .cons _ t => RelDs.drop n t
theorem RelDs.set : ∀ {ds : List D} {vs : List V} {d : D} {v : V} (n : Nat), RelDs w ds vs → RelD w d v → RelDs w (ds.set n d) (vs.set n v)
  | _, _, _, _, _, .nil, _ => .nil
  | _, _, _, _, 0, .cons _ t, q => .cons q t
  | _, _, _, _, n + 1, .cons r t, q => .cons r (RelDs.set n t q)
theorem RelDs.erase : ∀ {ds : List D} {vs : List V} (n : Nat), RelDs w ds vs → RelDs w (ds.eraseIdx n) (vs.eraseIdx n)
  | _, _, _, .nil => .nil
  | _, _, 0, .cons _ t => t
  | _, _, n + 1, .cons r t => .cons r (RelDs.erase n t)
theorem RelK.length : ∀ {ds : List (Ky × D)} {vs : List (Key × V)}, RelK w ds vs → ds.length = vs.length
  | _, _, .nil => rfl
  | _, _, .cons _ _ _ s => by simp [RelK.length s]
theorem RelT.length : ∀ {ds : List (Ky × D)} {vs : List (List Key × V)}, RelT w ds vs → ds.length = vs.length
  | _, _, .nil => rfl
  | _, _, .cons _ _ _ s => by simp [RelT.length s]
end lists

structure SE where
  K : PySem.W.Frag
  ca : Nat → Addr
  fn : Nat → Str
  fi : ∀ i j, fn i = fn j → i = j
  tb : List Addr
  cur : Option (Nat × Addr × Nat × List Str × Addr)

/-- the fields of an instance -/
inductive RelF (S : SE) (w : Wd) : List (Nat × D) → List (Str × V) → Prop
  | nil : RelF S w [] []
  | cons {f : Nat} {d : D} {v : V} {r : List (Nat × D)} {r' : List (Str × V)} : RelD w d v → RelF S w r r' → RelF S w ((f, d) :: r) ((S.fn f, v) :: r')
theorem RelF.sub {S : SE} {w w' : Wd} (l : w.Sub w') : ∀ {ds : List (Nat × D)} {vs : List (Str × V)}, RelF S w ds vs → RelF S w' ds vs
  | _, _, .nil => .nil
  | _, _, .cons r s => .cons (r.sub l) (RelF.sub l s)

/-- a dict's content -/
inductive RelO (w : Wd) (kvs : List (Ky × D)) : HO → Prop
  | k {ps : List (Key × V)} : RelK w kvs ps → RelO w kvs (.dK ps)
  | t {ps : List (List Key × V)} : RelT w kvs ps → RelO w kvs (.dT ps)
theorem RelO.sub {w w' : Wd} (l : w.Sub w') {kvs : List (Ky × D)} {o : HO} (h : RelO w kvs o) : RelO w' kvs o := by
  cases h with
  | k r => exact .k (r.sub l)
  | t r => exact .t (r.sub l)
/-- o stands at a, under a lock or not -/
def At (w : Wd) (H : Hp) (a : Addr) (o : HO) : Prop := match w.lk a with
  | none => H a = some o
  | some p => H a = some (.frz p.1 o)
/-- the object o of the memory stands at a -/
def ObR (S : SE) (w : Wd) (H : Hp) (a : Addr) : Ob → Prop
  | .lst ds => w.lk a = none ∧ ds.length ≤ LIM ∧ ∃ vs, H a = some (.lst vs) ∧ RelDs w ds vs
  | .dct kvs => kvs.length ≤ LIM ∧ ∃ o, At w H a o ∧ RelO w kvs o
  | .ins c fs => w.lk a = none ∧ fs.length ≤ 900 ∧ ∃ dx vs, H a = some (.ins (S.ca c) dx vs) ∧ RelF S w fs vs
  | .lk (.lst ds) => w.lk a = none ∧ ds.length ≤ LIM ∧ ∃ vs, H a = some (.lst vs) ∧ RelDs w ds vs
  | .lk (.dct kvs) => kvs.length ≤ LIM ∧ ∃ o, At w H a o ∧ RelO w kvs o
  | .lk _ => False

/-- a dict's content, of one item at least -/
def Full (o : HO) : Prop := (∃ p ps, o = .dK (p :: ps)) ∨ ∃ p ps, o = .dT (p :: ps)
/-- the tables of the defs' code -/
def TabR (S : SE) (w : Wd) (H : Hp) : Prop := ∀ P ∈ S.tb, w.fz P = none ∧ w.hd P = none ∧ GxR.TabG H P
structure HR (S : SE) (w : Wd) (ro m : Mem) (H : Hp) : Prop where
  len : ∀ n a, w.io n = some a → n < (ro ++ m).length
  live : ∀ n o, (ro ++ m)[n]? = some o → ∃ a, w.io n = some a ∧ ObR S w H a o
  inj : ∀ n n' a, w.io n = some a → w.io n' = some a → n = n'
  sep : ∀ n a, w.io n = some a → w.fz a = none
  fz : ∀ a o, w.fz a = some o → At w H a o
  lkd : ∀ a p, w.lk a = some p → H a = some (.frz p.1 p.2) ∧ Full p.2
  unl : ∀ n a kvs, m[n]? = some (.dct kvs) → w.io (ro.length + n) = some a → w.lk a = none
  lkl : ∀ n o, w.ll n = some o ↔ (ro ++ m)[n]? = some (.lk o)
  hld : ∀ a o, w.hd a = some o → H a = some o
  hsf : ∀ a o, w.hd a = some o → w.fz a = none
  hdt : ∀ a o, w.hd a = some o → ∀ vs, o ≠ .tup vs
  hsi : ∀ a o n, w.hd a = some o → w.io n ≠ some a
  tab : TabR S w H
  cur : w.cur = S.cur
theorem TabR.put {S : SE} {w w' : Wd} {H : Hp} {p : Addr} {o : HO} (h : TabR S w H) (hp : ∀ ps, H p ≠ some (.tbl ps)) (h1 : ∀ P, P ≠ p → w'.fz P = w.fz P) (h2 : ∀ P, P ≠ p → w'.hd P = w.hd P) : TabR S w' (upd H p o) := fun P hP => by
  obtain ⟨a, b, ps, c, d⟩ := h P hP
  have hne : P ≠ p := fun z => hp ps (by rw [← z]; exact c)
  exact ⟨(h1 P hne).trans a, (h2 P hne).trans b, ps, (upd_ne hne).trans c, d⟩
theorem TabR.fresh {S : SE} {w w' : Wd} {H : Hp} {p : Addr} {o : HO} (h : TabR S w H) (hp : H p = none) (h1 : ∀ P, P ≠ p → w'.fz P = w.fz P) (h2 : ∀ P, P ≠ p → w'.hd P = w.hd P) : TabR S w' (upd H p o)   := h.put (fun ps z => by rw [hp] at z; cases z) h1 h2
theorem At.ntb {w : Wd} {H : Hp} {a : Addr} {o : HO} (h : At w H a o) (ho : ∀ ps, o ≠ .tbl ps) : ∀ ps, H a ≠ some (.tbl ps) := fun ps z => by
  unfold At at h
  split at h
  · rw [z] at h; exact ho ps (Option.some.inj h).symm
  · rw [z] at h; cases h
theorem RelO.ntb {w : Wd} {kvs : List (Ky × D)} {o : HO} (h : RelO w kvs o) : ∀ ps, o ≠ .tbl ps := fun ps z => by
  cases h <;> cases z
theorem ObR.ntb {S : SE} {w : Wd} {H : Hp} {a : Addr} : ∀ {ob : Ob}, ObR S w H a ob → ∀ ps, H a ≠ some (.tbl ps)
  | .lst ds, ⟨_, _, vs, h3, _⟩, ps, z => by rw [z] at h3; cases h3
  | .dct kvs, ⟨_, o, h2, h3⟩, ps, z => h2.ntb h3.ntb ps z
  | .ins c fs, ⟨_, _, dx, vs, h3, _⟩, ps, z => by rw [z] at h3; cases h3
  | .lk (.lst ds), ⟨_, _, vs, h3, _⟩, ps, z => by rw [z] at h3; cases h3
  | .lk (.dct kvs), ⟨_, o, h2, h3⟩, ps, z => h2.ntb h3.ntb ps z
  | .lk (.ins _ _), h, _, _ => h.elim
  | .lk (.lk _), h, _, _ => h.elim

/-- the slots -/
structure SR (w : Wd) (σ' : Sl) (σ : L2.St) : Prop where
  len : σ'.length = σ.length
  get : ∀ (i : Nat) (d : D), σ'[i]? = some (some d) → ∃ v : V, σ[i]? = some (some v) ∧ RelD w d v
  pin : ∀ i a c nms dd c' fs, w.cur = some (i, a, c, nms, dd) → σ'[i]? = some (some (.exn c' fs)) → σ[i]? = some (some (.ref a)) ∧ c' = c ∧ ∃ vs, w.fz dd = some (.xd (nms.zip vs).reverse) ∧ nms.length = fs.length ∧ RelDs w fs vs
theorem SR.sub {w w' : Wd} (l : w.Sub w') (hc : w'.cur = w.cur) {σ' : Sl} {σ : L2.St} (h : SR w σ' σ) : SR w' σ' σ := ⟨h.len, fun i d e => let ⟨v, a, b⟩ := h.get i d e; ⟨v, a, b.sub l⟩, fun i a c nms dd c' fs e e' => let ⟨h1, h2, vs, h3, h4, h5⟩ := h.pin i a c nms dd c' fs (by rw [← hc]; exact e) e'; ⟨h1, h2, vs, l.fz _ _ h3, h4, h5.sub l⟩⟩
theorem SR.mono {w w' : Wd} (l : w.Le w') {σ' : Sl} {σ : L2.St} (h : SR w σ' σ) : SR w' σ' σ := h.sub l.sub l.cur

/-- an exception -/
structure ED where
  xa : Nat → Addr
  xn : Nat → List Str
def RelX (E : ED) (w : Wd) (x : Xn) (cls : Value) (dd : Option Addr) (H : Hp) : Prop :=
  cls = .ref (E.xa x.c) ∧ ∃ d vs, dd = some d ∧ H d = some (.xd ((E.xn x.c).zip vs).reverse) ∧ RelDs w x.fs vs ∧ x.fs.length = (E.xn x.c).length ∧ plains x.fs = true ∧ w.hd d = none

/-- the end of a piece of code, from the world w on -/
def Fin {α β : Type} (S : SE) (E : ED) (W : WX) (w : Wd) (ro : Mem) (σ : L2.St) (Rel : Wd → α → β → Prop) (Q : β → Hp → Prop) : R Mem α → Prop
  | .ok a m => ∀ w' v H', w.Le w' → HR S w' ro m H' → Rel w' a v → Q v H'
  | .exc x m => ∀ w' cls dd H', w.Le w' → HR S w' ro m H' → RelX E w' x cls dd H' → W cls dd σ H'
  | .stuck => False
/-- an expression's reading -/
def gE (S : SE) (E : ED) (W : WX) (ro : Mem) (f : Sl → Mem → R Mem D) : TE := fun σ H Q => ∃ w σ' m, SR w σ' σ ∧ HR S w ro m H ∧ Fin S E W w ro σ RelD Q (f σ' m)
def gT (S : SE) (E : ED) (W : WX) (ro : Mem) (f : Sl → Mem → R Mem Bool) : TT := fun σ H Q => ∃ w σ' m, SR w σ' σ ∧ HR S w ro m H ∧ Fin S E W w ro σ (fun _ (a b : Bool) => a = b) Q (f σ' m)
def gA (S : SE) (E : ED) (W : WX) (ro : Mem) (f : Sl → Mem → R Mem (List D)) : TA := fun σ H Q => ∃ w σ' m, SR w σ' σ ∧ HR S w ro m H ∧ Fin S E W w ro σ RelDs Q (f σ' m)

section
variable {X : Cx}
theorem PE.imp {e : Expr} {t t' : TE} (h : PE X e t) (i : ∀ σ H Q, t' σ H Q → t σ H Q) : PE X e t' := ⟨fun pins s σ H Q I q => h.run pins s σ H Q I (i σ H Q q)⟩
theorem PT.imp {e : Expr} {t t' : TT} (h : PT X e t) (i : ∀ σ H Q, t' σ H Q → t σ H Q) : PT X e t' := ⟨fun pins s σ H Q I q => h.run pins s σ H Q I (i σ H Q q)⟩
theorem PA.imp {e : List Expr} {t t' : TA} (h : PA X e t) (i : ∀ σ H Q, t' σ H Q → t σ H Q) : PA X e t' := ⟨fun pos pins s σ H Q I q => h.run pos pins s σ H Q I (i σ H Q q)⟩
end

section
variable {S : SE} {E : ED} {W : WX} {ro : Mem}
theorem Fin.mono {α β : Type} {w w1 : Wd} {σ : L2.St} {Rel : Wd → α → β → Prop} {Q : β → Hp → Prop} {r : R Mem α} (l : w.Le w1) (h : Fin S E W w ro σ Rel Q r) : Fin S E W w1 ro σ Rel Q r := by
  cases r with
  | ok a m => exact fun w' v H' l' => h w' v H' (l.trans l')
  | exc x m => exact fun w' c d H' l' => h w' c d H' (l.trans l')
  | stuck => exact h
theorem Fin.bind {α β γ δ : Type} {w : Wd} {σ : L2.St} {Rel : Wd → α → β → Prop} {Rel2 : Wd → γ → δ → Prop} {Q : β → Hp → Prop} {Q2 : δ → Hp → Prop} {r : R Mem α} {f : α → Mem → R Mem γ} (h : Fin S E W w ro σ Rel2 Q2 (r.bind f))
    (k : ∀ a m w' v H', w.Le w' → HR S w' ro m H' → Rel w' a v → Fin S E W w' ro σ Rel2 Q2 (f a m) → Q v H') : Fin S E W w ro σ Rel Q r := by
  cases r with
  | ok a m => exact fun w' v H' l hr rl => k a m w' v H' l hr rl (Fin.mono l h)
  | exc x m => exact h
  | stuck => exact h
theorem Fin.of {α β : Type} {w : Wd} {σ : L2.St} {Rel : Wd → α → β → Prop} {Q : β → Hp → Prop} {o : Option α} {m : Mem} {H : Hp} (hr : HR S w ro m H) (h : Fin S E W w ro σ Rel Q (R.of o m)) : ∃ a, o = some a ∧ ∀ v, Rel w a v → Q v H := by
  cases o with
  | none => exact h.elim
  | some a => exact ⟨a, rfl, fun v r => h w v H (.refl w) hr r⟩
theorem Fin.ok {α β : Type} {w : Wd} {σ : L2.St} {Rel : Wd → α → β → Prop} {Q : β → Hp → Prop} {a : α} {m : Mem} {H : Hp} {v : β} (h : Fin S E W w ro σ Rel Q (.ok a m)) (hr : HR S w ro m H) (r : Rel w a v) : Q v H := h w v H (.refl w) hr r
/-- an expression, then what follows -/
theorem gE.bind {α β : Type} {Rel2 : Wd → α → β → Prop} {Q2 : β → Hp → Prop} {f : Sl → Mem → R Mem D} {g : D → Mem → R Mem α} {σ : L2.St} {H : Hp} {Q : VK} {w : Wd} {σ' : Sl} {m : Mem} (sr : SR w σ' σ) (hr : HR S w ro m H) (h : Fin S E W w ro σ Rel2 Q2 ((f σ' m).bind g))
    (k : ∀ d m1 w1 v H1, w.Le w1 → SR w1 σ' σ → HR S w1 ro m1 H1 → RelD w1 d v → Fin S E W w1 ro σ Rel2 Q2 (g d m1) → Q v H1) : gE S E W ro f σ H Q :=
  ⟨w, σ', m, sr, hr, Fin.bind h fun a m1 w1 v H1 l hr1 r1 q => k a m1 w1 v H1 l (sr.mono l) hr1 r1 q⟩
theorem gT.bind {α β : Type} {Rel2 : Wd → α → β → Prop} {Q2 : β → Hp → Prop} {f : Sl → Mem → R Mem Bool} {g : Bool → Mem → R Mem α} {σ : L2.St} {H : Hp} {Q : Bool → Hp → Prop} {w : Wd} {σ' : Sl} {m : Mem} (sr : SR w σ' σ) (hr : HR S w ro m H) (h : Fin S E W w ro σ Rel2 Q2 ((f σ' m).bind g))
    (k : ∀ d m1 w1 H1, w.Le w1 → SR w1 σ' σ → HR S w1 ro m1 H1 → Fin S E W w1 ro σ Rel2 Q2 (g d m1) → Q d H1) : gT S E W ro f σ H Q :=
  ⟨w, σ', m, sr, hr, Fin.bind h fun a m1 w1 v H1 l hr1 r1 q => by subst r1; exact k a m1 w1 H1 l (sr.mono l) hr1 q⟩
theorem gA.bind {α β : Type} {Rel2 : Wd → α → β → Prop} {Q2 : β → Hp → Prop} {f : Sl → Mem → R Mem (List D)} {g : List D → Mem → R Mem α} {σ : L2.St} {H : Hp} {Q : List V → Hp → Prop} {w : Wd} {σ' : Sl} {m : Mem} (sr : SR w σ' σ) (hr : HR S w ro m H) (h : Fin S E W w ro σ Rel2 Q2 ((f σ' m).bind g))
    (k : ∀ d m1 w1 v H1, w.Le w1 → SR w1 σ' σ → HR S w1 ro m1 H1 → RelDs w1 d v → Fin S E W w1 ro σ Rel2 Q2 (g d m1) → Q v H1) : gA S E W ro f σ H Q :=
  ⟨w, σ', m, sr, hr, Fin.bind h fun a m1 w1 v H1 l hr1 r1 q => k a m1 w1 v H1 l (sr.mono l) hr1 r1 q⟩
end
end Av
end
section
set_option Elab.async false
set_option linter.all false
set_option maxRecDepth 100000
set_option autoImplicit false
namespace Av
open PySem PySem.Spec PyProof.Rows L2
section
variable {S : SE} {E : ED} {w w' : Wd} {ro m : Mem} {H H' : Hp} {a p : Addr} {n : Nat}

theorem At.sub (hl : w'.lk a = w.lk a) {o : HO} (e : H' a = H a) (h : At w H a o) : At w' H' a o := by
  unfold At at h ⊢
  rw [hl, e]
  exact h
theorem At.mono (l : w.Le w') {o : HO} (e : H' a = H a) (h : At w H a o) : At w' H' a o := h.sub (by rw [l.lk]) e
theorem At.rd {o : HO} (h : At w H a o) : Rd H a o := by
  unfold At at h
  cases e : w.lk a with
  | none => rw [e] at h; exact .inl h
  | some ob => rw [e] at h; exact .inr ⟨ob.1, h⟩
theorem At.some {o : HO} (h : At w H a o) : ∃ u, H a = some u := by
  unfold At at h
  cases e : w.lk a with
  | none => rw [e] at h; exact ⟨_, h⟩
  | some ob => rw [e] at h; exact ⟨_, h⟩
theorem At.un {o : HO} (h : At w H a o) (e : w.lk a = none) : H a = .some o := by
  unfold At at h
  rw [e] at h
  exact h
theorem At.of {o : HO} (h : H a = .some o) (e : w.lk a = none) : At w H a o := by
  unfold At
  rw [e]
  exact h
theorem ObR.sub (l : w.Sub w') (hl : w'.lk a = w.lk a) (e : H' a = H a) : ∀ {o : Ob}, ObR S w H a o → ObR S w' H' a o
  | .lst ds, ⟨h1, h2, vs, h3, h4⟩ => ⟨by rw [hl]; exact h1, h2, vs, by rw [e]; exact h3, h4.sub l⟩
  | .dct kvs, ⟨h1, o, h2, h3⟩ => ⟨h1, o, h2.sub hl e, h3.sub l⟩
  | .ins c fs, ⟨h1, h2, dx, vs, h3, h4⟩ => ⟨by rw [hl]; exact h1, h2, dx, vs, by rw [e]; exact h3, h4.sub l⟩
  | .lk (.lst ds), ⟨h1, h2, vs, h3, h4⟩ => ⟨by rw [hl]; exact h1, h2, vs, by rw [e]; exact h3, h4.sub l⟩
  | .lk (.dct kvs), ⟨h1, o, h2, h3⟩ => ⟨h1, o, h2.sub hl e, h3.sub l⟩
  | .lk (.ins _ _), h => h
  | .lk (.lk _), h => h
theorem ObR.mono (l : w.Le w') (e : H' a = H a) {o : Ob} (h : ObR S w H a o) : ObR S w' H' a o := h.sub l.sub (by rw [l.lk]) e
theorem ObR.some {o : Ob} (h : ObR S w H a o) : ∃ u, H a = some u := by
  match o, h with
  | .lst ds, ⟨_, _, vs, h3, _⟩ => exact ⟨_, h3⟩
  | .dct kvs, ⟨_, o, h2, _⟩ => exact h2.some
  | .ins c fs, ⟨_, _, dx, vs, h3, _⟩ => exact ⟨_, h3⟩
  | .lk (.lst ds), ⟨_, _, vs, h3, _⟩ => exact ⟨_, h3⟩
  | .lk (.dct kvs), ⟨_, o, h2, _⟩ => exact h2.some
  | .lk (.ins _ _), h => exact h.elim
  | .lk (.lk _), h => exact h.elim

theorem HR.at (h : HR S w ro m H) {o : Ob} (e : memGet ro m n = some o) : (ro ++ m)[n]? = some o := by
  unfold memGet at e
  split at e
  · rename_i hl
    rw [List.getElem?_append_left hl]; exact e
  · rename_i hl
    rw [List.getElem?_append_right (Nat.le_of_not_lt hl)]; exact e
theorem memGet_eq (ro m : Mem) (n : Nat) : memGet ro m n = (ro ++ m)[n]? := by
  unfold memGet
  split
  · rename_i hl
    rw [List.getElem?_append_left hl]
  · rename_i hl
    rw [List.getElem?_append_right (Nat.le_of_not_lt hl)]
theorem HR.ob (h : HR S w ro m H) {o : Ob} (e : memGet ro m n = some o) (i : w.io n = some a) : ObR S w H a o := by
  obtain ⟨b, h1, h2⟩ := h.live n o (by rw [← memGet_eq]; exact e)
  rw [i] at h1; cases h1
  exact h2
/-- a new address -/
theorem HR.nofz (h : HR S w ro m H) (hp : H p = none) : w.fz p = none := by
  cases e : w.fz p with
  | none => rfl
  | some o =>
    obtain ⟨u, q⟩ := (h.fz p o e).some
    rw [hp] at q; cases q
theorem HR.noio (h : HR S w ro m H) (hp : H p = none) : ∀ n, w.io n ≠ some p := fun n e => by
  have hl := h.len n p e
  obtain ⟨b, h1, h2⟩ := h.live n _ (List.getElem?_eq_getElem hl)
  rw [e] at h1; cases h1
  obtain ⟨u, q⟩ := h2.some
  rw [hp] at q; cases q
theorem HR.nolk (h : HR S w ro m H) (hp : H p = none) : w.lk p = none := by
  cases e : w.lk p with
  | none => rfl
  | some ob => have q := (h.lkd p ob e).1; rw [hp] at q; cases q

/-- a new thing, frozen at once -/
def Wd.fr (w : Wd) (p : Addr) (o : HO) : Wd := { w with fz := upd w.fz p o }
theorem Wd.fr_le {o : HO} (h : w.fz p = none) : w.Le (w.fr p o) := ⟨fun _ _ e => e, fun b u e => by
  show upd w.fz p o b = some u
  rw [upd_ne (by intro z; subst z; rw [h] at e; cases e)]; exact e, fun _ _ e => e, rfl, rfl, rfl, rfl⟩
theorem HR.fr (h : HR S w ro m H) (hp : H p = none) (o : HO) : HR S (w.fr p o) ro m (upd H p o) where
  len := h.len
  live := fun n o' e => by
    obtain ⟨b, h1, h2⟩ := h.live n o' e
    exact ⟨b, h1, h2.mono (Wd.fr_le (h.nofz hp)) (upd_ne (show b ≠ p from fun z => h.noio hp n (z ▸ h1)))⟩
  inj := h.inj
  sep := fun n b e => by
    have e : w.io n = some b := e
    show upd w.fz p o b = none
    rw [upd_ne (show b ≠ p from fun z => h.noio hp n (z ▸ e))]; exact h.sep n b e
  fz := fun b u e => by
    have e : upd w.fz p o b = some u := e
    by_cases hb : b = p
    · subst hb
      rw [upd_same] at e; cases e
      exact At.of upd_same (h.nolk hp)
    · rw [upd_ne hb] at e
      exact (h.fz b u e).mono (Wd.fr_le (h.nofz hp)) (upd_ne hb)
  lkd := fun b ob e => by
    have hb : b ≠ p := fun z => by
      have := h.nolk hp
      have e : w.lk b = some ob := e
      rw [z, this] at e; cases e
    rw [upd_ne hb]
    exact h.lkd b ob e
  unl := h.unl
  lkl := h.lkl
  hld := fun b u e => by
    have e : w.hd b = some u := e
    have q := h.hld b u e
    rw [upd_ne (fun z => by rw [z, hp] at q; cases q)]; exact q
  hsf := fun b u e => by
    have e : w.hd b = some u := e
    have q := h.hld b u e
    show upd w.fz p o b = none
    rw [upd_ne (fun z => by rw [z, hp] at q; cases q)]; exact h.hsf b u e
  hdt := h.hdt
  hsi := h.hsi
  tab := h.tab.fresh hp (fun P hP => by show upd w.fz p o P = _; rw [upd_ne hP]) fun _ _ => rfl
  cur := h.cur
/-- a new object of the memory -/
def Wd.nw (w : Wd) (k : Nat) (p : Addr) : Wd := { w with io := fun n => if n = k then some p else w.io n }
theorem HR.top (h : HR S w ro m H) : w.io (ro.length + m.length) = none := by
  cases e : w.io (ro.length + m.length) with
  | none => rfl
  | some b => have := h.len _ _ e; rw [List.length_append] at this; omega
theorem Wd.nw_le (h : w.io n = none) : w.Le (w.nw n p) := ⟨fun k b e => by
  show (if k = n then some p else w.io k) = some b
  rw [if_neg (by intro z; subst z; rw [h] at e; cases e)]; exact e, fun _ _ e => e, fun _ _ e => e, rfl, rfl, rfl, rfl⟩
theorem HR.nw (h : HR S w ro m H) (hp : H p = none) {o : HO} {ob : Ob} (hnl : ∀ o, ob ≠ .lk o) (r : ObR S (w.nw (ro.length + m.length) p) (upd H p o) p ob) : HR S (w.nw (ro.length + m.length) p) ro (m ++ [ob]) (upd H p o) where
  len := fun k b e => by
    have e : (if k = ro.length + m.length then some p else w.io k) = some b := e
    rw [List.length_append, List.length_append]
    split at e
    · rename_i hk; subst hk; simp
    · have := h.len k b e
      rw [List.length_append] at this
      simp; omega
  live := fun k o' e => by
    by_cases hk : k = ro.length + m.length
    · subst hk
      refine ⟨p, if_pos rfl, ?_⟩
      rw [← List.append_assoc, List.getElem?_append_right (by simp)] at e
      simp at e; subst e; exact r
    · have e2 : (ro ++ m)[k]? = some o' := by
        rw [← List.append_assoc] at e
        have hl := (List.getElem?_eq_some_iff.mp e).1
        simp at hl
        rw [List.getElem?_append_left (by simp; omega)] at e
        exact e
      obtain ⟨b, h1, h2⟩ := h.live k o' e2
      exact ⟨b, by show (if k = _ then some p else w.io k) = _; rw [if_neg hk]; exact h1, h2.mono (Wd.nw_le h.top) (upd_ne (show b ≠ p from fun z => h.noio hp k (z ▸ h1)))⟩
  inj := fun k k' b e e' => by
    have e : (if k = ro.length + m.length then some p else w.io k) = some b := e
    have e' : (if k' = ro.length + m.length then some p else w.io k') = some b := e'
    split at e <;> split at e'
    · omega
    · cases e; exact absurd e' (h.noio hp k')
    · cases e'; exact absurd e (h.noio hp k)
    · exact h.inj k k' b e e'
  sep := fun k b e => by
    have e : (if k = ro.length + m.length then some p else w.io k) = some b := e
    split at e
    · cases e; exact h.nofz hp
    · exact h.sep k b e
  fz := fun b u e => (h.fz b u e).mono (Wd.nw_le h.top) (upd_ne (show b ≠ p from fun z => by have q := h.nofz hp; have e2 : w.fz b = some u := e; rw [← z, e2] at q; cases q))
  lkd := fun b ob e => by
    have hb : b ≠ p := fun z => by
      have := h.nolk hp
      have e : w.lk b = some ob := e
      rw [z, this] at e; cases e
    rw [upd_ne hb]
    exact h.lkd b ob e
  unl := fun k b kvs e e' => by
    have e' : (if ro.length + k = ro.length + m.length then some p else w.io (ro.length + k)) = some b := e'
    split at e'
    · cases e'; exact h.nolk hp
    · rename_i hk
      have hl := (List.getElem?_eq_some_iff.mp e).1
      simp at hl
      rw [List.getElem?_append_left (by omega)] at e
      exact h.unl k b kvs e e'
  lkl := fun k o' => by
    show w.ll k = some o' ↔ _
    rw [h.lkl, ← List.append_assoc]
    by_cases hk : k < (ro ++ m).length
    · rw [List.getElem?_append_left hk]
    · rw [List.getElem?_eq_none (by omega), List.getElem?_append_right (by omega)]
      refine ⟨fun e => (nomatch e), fun e => ?_⟩
      exfalso
      have : k - (ro ++ m).length = 0 := by
        have := (List.getElem?_eq_some_iff.mp e).1
        simp only [List.length_append, List.length_singleton] at this ⊢
        omega
      rw [this] at e
      simp at e
      exact hnl _ e
  hld := fun b u e => by
    have e : w.hd b = some u := e
    have q := h.hld b u e
    rw [upd_ne (fun z => by rw [z, hp] at q; cases q)]; exact q
  hsf := h.hsf
  hdt := h.hdt
  hsi := fun b u n e e' => by
    have e : w.hd b = some u := e
    have e' : (if n = ro.length + m.length then some p else w.io n) = some b := e'
    split at e'
    · cases e'
      have q := h.hld p u e
      rw [hp] at q; cases q
    · exact h.hsi b u n e e'
  tab := h.tab.fresh hp (fun _ _ => rfl) fun _ _ => rfl
  cur := h.cur
/-- an object of the memory is written -/
theorem HR.set (h : HR S w ro m H) {o : HO} {ob ob0 : Ob} {m' : Mem} (hg : memGet ro m n = some ob0) (h0 : ∀ o, ob0 ≠ .lk o) (hnl : ∀ o, ob ≠ .lk o) (e : memSet ro m n ob = some m') (i : w.io n = some a) (hl : w.lk a = none) (r : ObR S w (upd H a o) a ob) : HR S w ro m' (upd H a o) := by
  unfold memSet at e
  split at e
  · cases e
  rename_i h1
  split at e
  · rename_i h2
    cases e
    have hlen : (ro ++ m.set (n - ro.length) ob).length = (ro ++ m).length := by simp
    have hget : ∀ k, (ro ++ m.set (n - ro.length) ob)[k]? = if k = n then some ob else (ro ++ m)[k]? := fun k => by
      by_cases hk : k < ro.length
      · rw [List.getElem?_append_left hk, List.getElem?_append_left hk, if_neg (by omega)]
      · rw [List.getElem?_append_right (by omega), List.getElem?_append_right (by omega)]
        by_cases hkn : k = n
        · subst hkn
          rw [if_pos rfl, List.getElem?_set_self h2]
        · rw [if_neg hkn, List.getElem?_set_ne (by omega)]
    have ne : ∀ k b, w.io k = some b → k ≠ n → b ≠ a := fun k b e hk z => hk (h.inj k n b e (by rw [i, z]))
    refine ⟨fun k b e => by rw [hlen]; exact h.len k b e, fun k o' e => ?_, h.inj, h.sep, fun b u e => (h.fz b u e).mono (.refl w) (upd_ne fun z => ?_), fun b ob' e => ?_, fun k b kvs e e' => ?_, fun k o' => ?_, fun b u e => ?_, h.hsf, h.hdt, h.hsi, h.tab.put ((h.ob hg i).ntb) (fun _ _ => rfl) fun _ _ => rfl, h.cur⟩
    · rw [hget] at e
      split at e
      · rename_i hk; subst hk; cases e
        exact ⟨a, i, r⟩
      · rename_i hk
        obtain ⟨b, h3, h4⟩ := h.live k o' e
        exact ⟨b, h3, h4.mono (.refl w) (upd_ne (ne k b h3 hk))⟩
    · have := h.sep n a i
      rw [← z, e] at this; cases this
    · rw [upd_ne fun z => by rw [z, hl] at e; cases e]
      exact h.lkd b ob' e
    · by_cases hk : k = n - ro.length
      · subst hk
        rw [show ro.length + (n - ro.length) = n by omega, i] at e'
        cases e'
        exact hl
      · rw [List.getElem?_set_ne (by omega)] at e
        exact h.unl k b kvs e e'
    · rw [hget, h.lkl]
      split
      · rename_i hk
        subst hk
        rw [memGet_eq] at hg
        rw [hg]
        exact ⟨fun e => absurd (Option.some.inj e) (h0 _), fun e => absurd (Option.some.inj e) (hnl _)⟩
      · exact Iff.rfl
    · rw [upd_ne fun z => h.hsi b u n e (by rw [z]; exact i)]
      exact h.hld b u e
  · cases e
end

inductive RelN (w : Wd) (H : Hp) : D → V → Prop
  | non : RelN w H .non .non
  | bl (b : Bool) : RelN w H (.bl b) (.bl b)
  | int (i : Int) : RelN w H (.int i) (.int i)
  | str (t : Tx) : okT t → RelN w H (.str t) (.str (xS t))
  | tup {ds : List D} {a : Addr} {vs : List V} : ds.length ≤ LIM → H a = some (.tup vs) → RelDs w ds vs → RelN w H (.tup ds) (.ref a)
  | lst {ds : List D} {a : Addr} {vs : List V} : ds.length ≤ LIM → H a = some (.lst vs) → RelDs w ds vs → RelN w H (.lst ds) (.ref a)
  | dct {kvs : List (Ky × D)} {a : Addr} {o : HO} : kvs.length ≤ LIM → At w H a o → RelO w kvs o → RelN w H (.dct kvs) (.ref a)
  | ref {n : Nat} {a : Addr} : RelN w H (.ref n) (.ref a)
  | scr {is : List Int} {a : Addr} : Rd H a (.lst (is.map V.int)) → is.length ≤ LIM → RelN w H (.scr is) (.ref a)
  | exn {c : Nat} {fs : List D} {a : Addr} : RelN w H (.exn c fs) (.ref a)
section
variable {S : SE} {w : Wd} {ro m : Mem} {H : Hp}
theorem HR.dir (hr : HR S w ro m H) {a : Addr} {o : HO} (e : At w H a o) (h1 : ∀ ps, o ≠ .dK ps) (h2 : ∀ ps, o ≠ .dT ps) : H a = some o := by
  unfold At at e
  cases z : w.lk a with
  | none => rw [z] at e; exact e
  | some ob =>
    rw [z] at e
    obtain ⟨q, f⟩ := hr.lkd _ _ z
    have e : H a = some (.frz ob.1 o) := e
    rw [e] at q; cases q
    rcases f with ⟨_, _, f⟩ | ⟨_, _, f⟩
    · exact absurd f (h1 _)
    · exact absurd f (h2 _)
theorem ObR.now {a : Addr} {n : Nat} {o : Ob} (h : ObR S w H a o) : RelN w H ((obD o).getD (.ref n)) (.ref a) := by
  match o, h with
  | .lst ds, ⟨_, h2, vs, h3, h4⟩ => exact .lst h2 h3 h4
  | .dct kvs, ⟨h1, o, h2, h3⟩ => exact .dct h1 h2 h3
  | .ins c fs, ⟨_, _, dx, vs, h3, _⟩ => exact .ref
  | .lk (.lst ds), ⟨_, h2, vs, h3, h4⟩ => exact .lst h2 h3 h4
  | .lk (.dct kvs), ⟨h1, o, h2, h3⟩ => exact .dct h1 h2 h3
  | .lk (.ins _ _), h => exact h.elim
  | .lk (.lk _), h => exact h.elim
theorem RelD.now (hr : HR S w ro m H) {d : D} {v : V} (h : RelD w d v) : RelN w H (rd ro m d) v := by
  cases h with
  | non => exact .non
  | bl b => exact .bl b
  | int i => exact .int i
  | str t h => exact .str t h
  | tup h e r => exact .tup h (hr.dir (hr.fz _ _ e) (fun _ z => nomatch z) (fun _ z => nomatch z)) r
  | lst h e r => exact .lst h (hr.dir (hr.fz _ _ e) (fun _ z => nomatch z) (fun _ z => nomatch z)) r
  | dcK h e r => exact .dct h (hr.fz _ _ e) (.k r)
  | dcT h e r => exact .dct h (hr.fz _ _ e) (.t r)
  | scr e h =>
    refine .scr ?_ h
    rcases e with e | ⟨o, e⟩
    · exact .inl (hr.dir (hr.fz _ _ e) (fun _ z => nomatch z) (fun _ z => nomatch z))
    · exact .inr ⟨o, hr.dir (hr.fz _ _ e) (fun _ z => nomatch z) (fun _ z => nomatch z)⟩
  | exn => exact .exn
  | ref e =>
    rename_i n a
    show RelN w H (match memGet ro m n with | some o => (obD o).getD (.ref n) | none => .ref n) (.ref a)
    cases q : memGet ro m n with
    | none => exact .ref
    | some o => exact (hr.ob q e).now
end
section
variable {S : SE} {w : Wd} {ro m : Mem} {H : Hp}
theorem RelN.tupI {ds : List D} {v : V} (h : RelN w H (.tup ds) v) : ∃ a vs, v = .ref a ∧ ds.length ≤ LIM ∧ H a = some (.tup vs) ∧ RelDs w ds vs := by
  cases h with | tup a b c => exact ⟨_, _, rfl, a, b, c⟩
theorem RelN.lstI {ds : List D} {v : V} (h : RelN w H (.lst ds) v) : ∃ a vs, v = .ref a ∧ ds.length ≤ LIM ∧ H a = some (.lst vs) ∧ RelDs w ds vs := by
  cases h with | lst a b c => exact ⟨_, _, rfl, a, b, c⟩
theorem RelN.dctI {kvs : List (Ky × D)} {v : V} (h : RelN w H (.dct kvs) v) : ∃ a o, v = .ref a ∧ kvs.length ≤ LIM ∧ At w H a o ∧ RelO w kvs o := by
  cases h with | dct a b c => exact ⟨_, _, rfl, a, b, c⟩
theorem RelN.strI {t : Tx} {v : V} (h : RelN w H (.str t) v) : v = .str (xS t) ∧ okT t := by
  cases h with | str _ a => exact ⟨rfl, a⟩
theorem RelN.intI {i : Int} {v : V} (h : RelN w H (.int i) v) : v = .int i := by cases h; rfl
theorem RelN.blI {i : Bool} {v : V} (h : RelN w H (.bl i) v) : v = .bl i := by cases h; rfl
theorem RelN.nonI {v : V} (h : RelN w H .non v) : v = .non := by cases h; rfl
theorem RelN.scrI {is : List Int} {v : V} (h : RelN w H (.scr is) v) : ∃ a, v = .ref a ∧ is.length ≤ LIM ∧ Rd H a (.lst (is.map V.int)) := by
  cases h with | scr a b => exact ⟨_, rfl, b, a⟩
theorem RelD.strI {t : Tx} {v : V} (h : RelD w (.str t) v) : v = .str (xS t) ∧ okT t := by
  cases h with | str _ a => exact ⟨rfl, a⟩
theorem RelD.intI {i : Int} {v : V} (h : RelD w (.int i) v) : v = .int i := by cases h; rfl
theorem RelD.blI {i : Bool} {v : V} (h : RelD w (.bl i) v) : v = .bl i := by cases h; rfl
theorem RelD.nonI {v : V} (h : RelD w .non v) : v = .non := by cases h; rfl
theorem RelD.refI {n : Nat} {v : V} (h : RelD w (.ref n) v) : ∃ a, v = .ref a ∧ w.io n = some a := by
  cases h with | ref a => exact ⟨_, rfl, a⟩
theorem RelD.tupI {ds : List D} {v : V} (h : RelD w (.tup ds) v) : ∃ a vs, v = .ref a ∧ ds.length ≤ LIM ∧ w.fz a = some (.tup vs) ∧ RelDs w ds vs := by
  cases h with | tup a b c => exact ⟨_, _, rfl, a, b, c⟩
theorem RelD.lstI {ds : List D} {v : V} (h : RelD w (.lst ds) v) : ∃ a vs, v = .ref a ∧ ds.length ≤ LIM ∧ w.fz a = some (.lst vs) ∧ RelDs w ds vs := by
  cases h with | lst a b c => exact ⟨_, _, rfl, a, b, c⟩
end
end Av
end
section
set_option Elab.async false
set_option linter.all false
set_option maxRecDepth 100000
set_option autoImplicit false
set_option maxHeartbeats 4000000
namespace Av
open PySem PySem.Spec PyProof.Rows L2
def boOp : BO → Operator
  | .add => .Add
  | .sub => .Sub
  | .mul => .Mult
  | .fdiv => .FloorDiv
  | .mod => .Mod
  | .pow => .Pow
section
variable {S : SE} {w : Wd} {ro m : Mem} {H : Hp} {X : Cx}
/-- what an operation hands on -/
def Nxt (S : SE) (w : Wd) (ro m : Mem) (c : D) (Q : VK) : Prop := ∀ w' v H', w.Le w' → HR S w' ro m H' → RelD w' c v → Q v H'
theorem Nxt.now {c : D} {Q : VK} (h : Nxt S w ro m c Q) (hr : HR S w ro m H) {v : V} (r : RelD w c v) : Q v H := h w v H (.refl w) hr r
theorem Nxt.lst {ds : List D} {vs : List V} {Q : VK} (h : Nxt S w ro m (.lst ds) Q) (hr : HR S w ro m H) (r : RelDs w ds vs) (hl : ds.length ≤ LIM) : ∀ p, H p = none → Q (.ref p) (upd H p (.lst vs)) := fun p hp =>
  h _ _ _ (Wd.fr_le (hr.nofz hp)) (hr.fr hp (.lst vs)) (.lst hl (show upd w.fz p _ p = _ from upd_same) (r.mono (Wd.fr_le (hr.nofz hp))))
theorem Nxt.tup {ds : List D} {vs : List V} {Q : VK} (h : Nxt S w ro m (.tup ds) Q) (hr : HR S w ro m H) (r : RelDs w ds vs) (hl : ds.length ≤ LIM) : ∀ p, H p = none → Q (.ref p) (upd H p (.tup vs)) := fun p hp =>
  h _ _ _ (Wd.fr_le (hr.nofz hp)) (hr.fr hp (.tup vs)) (.tup hl (show upd w.fz p _ p = _ from upd_same) (r.mono (Wd.fr_le (hr.nofz hp))))
theorem b64 {i : Int} (h : -B64 < i ∧ i < B64) : -(2 ^ 64) < i ∧ i < 2 ^ 64 := by
  have e : B64 = 2 ^ 64 := by decide
  rw [e] at h; exact h
theorem natAbs64 {i : Int} (h : -B64 < i ∧ i < B64) : i.natAbs < 2 ^ 64 := by
  have e : B64 = 18446744073709551616 := rfl
  have e2 : (2 : Nat) ^ 64 = 18446744073709551616 := by decide
  rw [e] at h; omega
def rBin (S : SE) (op : BO) : R2 := fun x y H Q => ∃ w ro m a b d e c, HR S w ro m H ∧ RelD w a x ∧ RelD w b y ∧ rd ro m a = d ∧ rd ro m b = e ∧ binV op d e = some c ∧ Nxt S w ro m c Q
/-- a tuple of the evaluator is one that stands frozen -/
theorem rd_tup {a : D} {ds : List D} (e : rd ro m a = .tup ds) : a = .tup ds := by
  unfold rd at e
  split at e
  · exfalso
    rename_i n
    cases q : memGet ro m n with
    | none => rw [q] at e; cases e
    | some o =>
      rw [q] at e
      match o, e with
      | .lst _, e => cases e
      | .dct _, e => cases e
      | .ins _ _, e => cases e
      | .lk (.lst _), e => cases e
      | .lk (.dct _), e => cases e
      | .lk (.ins _ _), e => cases e
      | .lk (.lk _), e => cases e
  · exact e
theorem RelDs.nil_iff {ds : List D} {vs : List V} (r : RelDs w ds vs) : vs = [] ↔ ds = [] := by
  cases r <;> simp
theorem op_bin (hK : X.K = S.K) (op : BO) : OpR X (binaryOp (boOp op)) (rBin S op) := by
  intro pins s σ H x y v u Q I rx ry ⟨w, ro, m, a, b, d, e, c, hr, ra, rb, ea, eb, hb, q⟩
  have nx := ra.now hr
  have ny := rb.now hr
  rw [ea] at nx
  rw [eb] at ny
  cases op with
  | add =>
    have hb : addV d e = some c := hb
    unfold addV at hb
    split at hb
    · cases hb; cases nx; cases ny
      exact op_add pins s σ H _ _ v u Q I rx ry ⟨_, _, rfl, rfl, q.now hr (.int _)⟩
    · split at hb
      · rename_i h; cases hb
        obtain ⟨rfl, o1⟩ := nx.strI
        obtain ⟨rfl, o2⟩ := ny.strI
        refine op_add_str pins s σ H _ _ v u Q I rx ry ⟨_, _, rfl, rfl, by rw [xS_len, xS_len]; exact lim_le h, ?_⟩
        rw [← xS_app]
        exact q.now hr (.str _ (okT_app o1 o2 h))
      · cases hb
    · split at hb
      · rename_i h; cases hb
        obtain ⟨_, _, rfl, _, e1, r1⟩ := nx.lstI
        obtain ⟨_, _, rfl, _, e2, r2⟩ := ny.lstI
        refine op_cat pins s σ H _ _ v u Q I rx ry ⟨_, _, _, _, rfl, rfl, e1, e2, by rw [← RelDs.length r1, ← RelDs.length r2]; exact lim_le h, ?_⟩
        exact q.lst hr (r1.append r2) (by rw [List.length_append]; exact h)
      · cases hb
    · split at hb
      · rename_i h; cases hb
        obtain ⟨_, _, rfl, _, e1, r1⟩ := nx.tupI
        obtain ⟨_, _, rfl, _, e2, r2⟩ := ny.tupI
        refine op_catA pins s σ H _ _ v u Q I rx ry ⟨_, _, _, _, rfl, rfl, SqT.of e1, SqT.of e2, by rw [← RelDs.length r1, ← RelDs.length r2]; exact lim_le h, fun z => ?_, fun _ z => ?_, fun _ _ => ?_⟩
        · rw [rd_tup eb] at rb
          rw [(RelDs.nil_iff r1).mp z] at q
          exact q.now hr rb
        · rw [rd_tup ea] at ra
          rw [(RelDs.nil_iff r2).mp z, List.append_nil] at q
          exact q.now hr ra
        · exact q.tup hr (r1.append r2) (by rw [List.length_append]; exact h)
      · cases hb
    · cases hb
  | sub =>
    have hb : subV d e = some c := hb
    unfold subV at hb
    split at hb
    · cases hb; cases nx; cases ny
      exact op_sub pins s σ H _ _ v u Q I rx ry ⟨_, _, rfl, rfl, q.now hr (.int _)⟩
    · cases hb
  | mul =>
    have hb : mulV d e = some c := hb
    unfold mulV at hb
    split at hb
    · split at hb
      · rename_i h; cases hb; cases nx; cases ny
        exact op_mul pins s σ H _ _ v u Q I rx ry ⟨_, _, rfl, rfl, h.imp b64 b64, q.now hr (.int _)⟩
      · cases hb
    · cases hb
  | fdiv =>
    have hb : fdivV d e = some c := hb
    unfold fdivV at hb
    split at hb
    · split at hb
      · rename_i h; cases hb; cases nx; cases ny
        exact op_fdiv pins s σ H _ _ v u Q I rx ry ⟨_, _, rfl, rfl, h, q.now hr (.int _)⟩
      · cases hb
    · cases hb
  | mod =>
    have hb : modV d e = some c := hb
    unfold modV at hb
    split at hb
    · split at hb
      · rename_i h; cases hb; cases nx; cases ny
        exact op_mod pins s σ H _ _ v u Q I rx ry ⟨_, _, rfl, rfl, h, q.now hr (.int _)⟩
      · cases hb
    · cases hb
  | pow =>
    have hb : powV d e = some c := hb
    unfold powV at hb
    split at hb
    · split at hb
      · rename_i h; cases hb; cases nx; cases ny
        exact op_pow pins s σ H _ _ v u Q I rx ry ⟨_, _, rfl, rfl, ⟨h.1, h.2.1, natAbs64 h.2.2⟩, q.now hr (.int _)⟩
      · cases hb
    · cases hb
end
end Av
end
section
set_option Elab.async false
set_option linter.all false
set_option maxRecDepth 100000
set_option autoImplicit false
set_option maxHeartbeats 4000000
namespace Av
open PySem PySem.Spec PyProof.Rows L2
mutual
def pyD : D → PyData
  | .bl b => .bool b
  | .int i => .int i
  | .str t => .str (xS t)
  | .tup ds => .tuple (pyDs ds)
  | .lst ds => .list (pyDs ds)
  | _ => .none
  termination_by structural d => d
def pyDs : List D → List PyData
  | [] => []
  | d :: r => pyD d :: pyDs r
  termination_by structural d => d
end
theorem xS_beq (a b : Tx) : (xS a == xS b) = decide (a = b) := by
  rw [← xS_iff]
  by_cases h : xS a = xS b
  · rw [decide_eq_true h]; exact beq_iff_eq.mpr h
  · rw [decide_eq_false h]; exact beq_eq_false_iff_ne.mpr h
mutual
theorem eqv_py : ∀ (a b : D) (n k : Nat), eqok a n = true → eqok b k = true → PyData.eqv (pyD a) (pyD b) = eqv a b
  | .non, b, n, k, _, hb => by cases b <;> simp [pyD, eqv, PyData.eqv, eqok] at hb ⊢
  | .bl x, b, n, k, _, hb => by cases b <;> simp [pyD, eqv, PyData.eqv, eqok, b2i] at hb ⊢
  | .int x, b, n, k, _, hb => by cases b <;> simp [pyD, eqv, PyData.eqv, eqok, b2i] at hb ⊢
  | .str x, b, n, k, _, hb => by cases b <;> simp [pyD, eqv, PyData.eqv, eqok] at hb ⊢; exact xS_beq _ _
  | .tup x, b, n, k, ha, hb => by
    cases n with
    | zero => simp [eqok] at ha
    | succ n =>
      cases b with
      | tup y =>
        cases k with
        | zero => simp [eqok] at hb
        | succ k =>
          simp only [pyD, eqv, PyData.eqv]
          exact eqvs_py x y n k (by simpa [eqok] using ha) (by simpa [eqok] using hb)
      | _ => simp [pyD, eqv, PyData.eqv, eqok] at hb ⊢
  | .lst x, b, n, k, ha, hb => by
    cases n with
    | zero => simp [eqok] at ha
    | succ n =>
      cases b with
      | lst y =>
        cases k with
        | zero => simp [eqok] at hb
        | succ k =>
          simp only [pyD, eqv, PyData.eqv]
          exact eqvs_py x y n k (by simpa [eqok] using ha) (by simpa [eqok] using hb)
      | _ => simp [pyD, eqv, PyData.eqv, eqok] at hb ⊢
  | .dct _, _, _, _, ha, _ => by simp [eqok] at ha
  | .ref _, _, _, _, ha, _ => by simp [eqok] at ha
  | .exn _ _, _, _, _, ha, _ => by simp [eqok] at ha
  | .scr _, _, _, _, ha, _ => by simp [eqok] at ha
theorem eqvs_py : ∀ (a b : List D) (n k : Nat), eqoks a n = true → eqoks b k = true → PyData.eqvAll (pyDs a) (pyDs b) = eqvs a b
  | [], b, _, _, _, _ => by cases b <;> simp [pyDs, eqvs, PyData.eqvAll]
  | x :: xs, b, n, k, ha, hb => by
    cases b with
    | nil => simp [pyDs, eqvs, PyData.eqvAll]
    | cons y ys =>
      simp only [eqoks, Bool.and_eq_true] at ha hb
      simp only [pyDs, eqvs, PyData.eqvAll]
      rw [eqv_py x y n k ha.1 hb.1, eqvs_py xs ys n k ha.2 hb.2]
end
mutual
def okD : D → Bool
  | .str t => okTb t
  | .tup ds => okDs ds
  | .lst ds => okDs ds
  | _ => true
  termination_by structural d => d
def okDs : List D → Bool
  | [] => true
  | d :: r => okD d && okDs r
  termination_by structural d => d
end
mutual
theorem lay_py : ∀ (a : D) (n : Nat), eqok a n = true → okD a = true → (pyD a).canLay0 = true ∧ (pyD a).depth ≤ n
  | .non, n, _, _ => by simp [pyD, PyData.canLay0, PyData.depth]
  | .bl _, n, _, _ => by simp [pyD, PyData.canLay0, PyData.depth]
  | .int _, n, _, _ => by simp [pyD, PyData.canLay0, PyData.depth]
  | .str t, n, _, h => by
    refine ⟨?_, by simp [pyD, PyData.depth]⟩
    simp only [okD, okTb, Bool.and_eq_true] at h
    simp only [pyD, PyData.canLay0, xS]
    unfold PyData.strOk
    rw [← Array.all_toList]
    exact h.2
  | .tup ds, n, ha, h => by
    cases n with
    | zero => simp [eqok] at ha
    | succ n =>
      obtain ⟨h1, h2⟩ := lays_py ds n (by simpa [eqok] using ha) (by simpa [okD] using h)
      exact ⟨by simpa [pyD, PyData.canLay0] using h1, by simp [pyD, PyData.depth]; omega⟩
  | .lst ds, n, ha, h => by
    cases n with
    | zero => simp [eqok] at ha
    | succ n =>
      obtain ⟨h1, h2⟩ := lays_py ds n (by simpa [eqok] using ha) (by simpa [okD] using h)
      exact ⟨by simpa [pyD, PyData.canLay0] using h1, by simp [pyD, PyData.depth]; omega⟩
  | .dct _, _, ha, _ => by simp [eqok] at ha
  | .ref _, _, ha, _ => by simp [eqok] at ha
  | .exn _ _, _, ha, _ => by simp [eqok] at ha
  | .scr _, _, ha, _ => by simp [eqok] at ha
theorem lays_py : ∀ (a : List D) (n : Nat), eqoks a n = true → okDs a = true → PyData.canLayAll0 (pyDs a) = true ∧ PyData.depthAll (pyDs a) ≤ n
  | [], n, _, _ => by simp [pyDs, PyData.canLayAll0, PyData.depthAll]
  | d :: r, n, ha, h => by
    simp only [eqoks, okDs, Bool.and_eq_true] at ha h
    obtain ⟨h1, h2⟩ := lay_py d n ha.1 h.1
    obtain ⟨h3, h4⟩ := lays_py r n ha.2 h.2
    refine ⟨by simp [pyDs, PyData.canLayAll0, h1, h3], ?_⟩
    simp only [pyDs, PyData.depthAll]
    omega
end
section
variable {S : SE} {w : Wd} {ro m : Mem} {H : Hp}
mutual
theorem view_dp (hr : HR S w ro m H) (f : Nat → Option D) (hf : ∀ n e a j, f n = some e → w.io n = some a → eqok e j = true → Dp S.K H (.ref a) (pyD e) ∧ okD e = true) :
    ∀ (d e : D) (v : V) (j : Nat), RelD w d v → vwS f d = some e → eqok e j = true → Dp S.K H v (pyD e) ∧ okD e = true
  | .non, _, _, _, r, h, _ => by cases r; simp [vwS] at h; subst h; exact ⟨.non, rfl⟩
  | .bl b, _, _, _, r, h, _ => by cases r; simp [vwS] at h; subst h; exact ⟨.bl b, rfl⟩
  | .int i, _, _, _, r, h, _ => by cases r; simp [vwS] at h; subst h; exact ⟨.int i, rfl⟩
  | .str t, _, _, _, r, h, _ => by
    obtain ⟨rfl, o⟩ := r.strI
    simp [vwS] at h; subst h
    exact ⟨.str _, by simp [okD, okT_ok o]⟩
  | .tup ds, e, _, j, r, h, k => by
    obtain ⟨a, vs, rfl, hl, ha, rs⟩ := r.tupI
    simp only [vwS, Option.map_eq_some_iff] at h
    obtain ⟨es, h1, rfl⟩ := h
    cases j with
    | zero => simp [eqok] at k
    | succ j =>
      obtain ⟨q1, q2⟩ := views_dp hr f hf ds es vs j rs h1 (by simpa [eqok] using k)
      exact ⟨.tup (SqT.of (hr.dir (hr.fz _ _ ha) (fun _ z => nomatch z) (fun _ z => nomatch z))) q1, by simpa [okD] using q2⟩
  | .lst ds, e, _, j, r, h, k => by
    obtain ⟨a, vs, rfl, hl, ha, rs⟩ := r.lstI
    simp only [vwS, Option.map_eq_some_iff] at h
    obtain ⟨es, h1, rfl⟩ := h
    cases j with
    | zero => simp [eqok] at k
    | succ j =>
      obtain ⟨q1, q2⟩ := views_dp hr f hf ds es vs j rs h1 (by simpa [eqok] using k)
      exact ⟨.lst (SqL.of (hr.dir (hr.fz _ _ ha) (fun _ z => nomatch z) (fun _ z => nomatch z))) q1, by simpa [okD] using q2⟩
  | .dct kvs, e, _, j, _, h, k => by
    simp only [vwS, Option.map_eq_some_iff] at h
    obtain ⟨es, _, rfl⟩ := h
    simp [eqok] at k
  | .ref n, e, _, j, r, h, k => by
    obtain ⟨a, rfl, ha⟩ := r.refI
    simp only [vwS] at h
    exact hf n e a j h ha k
  | .exn _ _, _, _, _, _, h, _ => by simp [vwS] at h
  | .scr is, e, _, j, _, h, k => by simp [vwS] at h; subst h; simp [eqok] at k
theorem views_dp (hr : HR S w ro m H) (f : Nat → Option D) (hf : ∀ n e a j, f n = some e → w.io n = some a → eqok e j = true → Dp S.K H (.ref a) (pyD e) ∧ okD e = true) :
    ∀ (ds es : List D) (vs : List V) (j : Nat), RelDs w ds vs → vwSs f ds = some es → eqoks es j = true → DpAll S.K H vs (pyDs es) ∧ okDs es = true
  | [], _, _, _, r, h, _ => by cases r; simp [vwSs] at h; subst h; exact ⟨.nil, rfl⟩
  | d :: ds, es, _, j, r, h, k => by
    cases r with
    | cons r1 r2 =>
      simp only [vwSs] at h
      split at h
      · rename_i e1 es1 h1 h2
        cases h
        simp only [eqoks, Bool.and_eq_true] at k
        obtain ⟨p1, p2⟩ := view_dp hr f hf d e1 _ j r1 h1 k.1
        obtain ⟨q1, q2⟩ := views_dp hr f hf ds es1 _ j r2 h2 k.2
        exact ⟨.cons p1 q1, by simp [okDs, p2, q2]⟩
      · cases h
end
theorem vwF_dp (hr : HR S w ro m H) : ∀ (k n : Nat) (e : D) (a : Addr) (j : Nat), vwF (memGet ro m) k n = some e → w.io n = some a → eqok e j = true → Dp S.K H (.ref a) (pyD e) ∧ okD e = true
  | 0, _, _, _, _, h, _, _ => by cases h
  | k + 1, n, e, a, j, h, i, q => by
    unfold vwF at h
    split at h
    · rename_i o ho
      have ob := (hr.ob ho i).now (n := n)
      split at h
      · rename_i ds hd
        rw [hd] at ob
        obtain ⟨a', vs, ea, hl, e1, rs⟩ := ob.lstI
        cases ea
        simp only [Option.map_eq_some_iff] at h
        obtain ⟨es, h5, rfl⟩ := h
        cases j with
        | zero => simp [eqok] at q
        | succ j =>
          obtain ⟨q1, q2⟩ := views_dp hr _ (vwF_dp hr k) ds es vs j rs h5 (by simpa [eqok] using q)
          exact ⟨.lst (SqL.of e1) q1, by simpa [okD] using q2⟩
      · simp only [Option.map_eq_some_iff] at h
        obtain ⟨es, _, rfl⟩ := h
        simp [eqok] at q
      · cases h
    · cases h
theorem vw_dp (hr : HR S w ro m H) {k j : Nat} {d e : D} {v : V} (r : RelD w d v) (h : vw (memGet ro m) k d = some e) (q : eqok e j = true) : Dp S.K H v (pyD e) ∧ okD e = true :=
  view_dp hr _ (vwF_dp hr k) d e v j r h q
theorem shaped_py {e : D} (q : eqok e 50 = true) (o : okD e = true) : SeqAt.shaped (pyD e) = true := by
  obtain ⟨h1, h2⟩ := lay_py e 50 q o
  unfold SeqAt.shaped
  rw [h1, decide_eq_true (show (pyD e).depth ≤ 64 by omega)]
  rfl
def coOp : CO → CmpOp
  | .eq => .Eq
  | .ne => .NotEq
  | .lt => .Lt
  | .le => .LtE
  | .gt => .Gt
  | .ge => .GtE
  | .mem => .In
  | .nmem => .NotIn
  | .is_ => .Is
  | .isnt => .IsNot
def rCmp (S : SE) (op : CO) : R2 := fun x y H Q => ∃ w ro m a b r, HR S w ro m H ∧ RelD w a x ∧ RelD w b y ∧ cmpV ro m op a b = some r ∧ Q (.bl r) H
theorem eqM_some {g : Nat → Option Ob} {a b : D} {r : Bool} (h : eqM g a b = some r) : ∃ x y, vw g 6 a = some x ∧ vw g 6 b = some y ∧ eqok x 50 = true ∧ eqok y 50 = true ∧ eqv x y = r := by
  unfold eqM at h
  split at h
  · rename_i x y h1 h2
    split at h
    · rename_i h3
      rw [Bool.and_eq_true] at h3
      cases h
      exact ⟨x, y, h1, h2, h3.1, h3.2, rfl⟩
    · cases h
  · cases h
variable {X : Cx}
theorem op_eqG (hK : X.K = S.K) (hu : X.A.units + 64 < cLine) : OpR X (compareOp .Eq) (rCmp S .eq) := by
  intro pins s σ H x y v u Q I rx ry ⟨w, ro, m, a, b, r, hr, ra, rb, h, q⟩
  obtain ⟨d, e, h1, h2, k1, k2, rfl⟩ := eqM_some h
  obtain ⟨p1, o1⟩ := vw_dp hr ra h1 k1
  obtain ⟨p2, o2⟩ := vw_dp hr rb h2 k2
  rw [← hK] at p1 p2
  exact op_eqD hu pins s σ H x y v u Q I rx ry ⟨_, _, p1, p2, shaped_py k1 o1, shaped_py k2 o2, by rw [eqv_py _ _ 50 50 k1 k2]; exact q⟩
theorem op_neG (hK : X.K = S.K) (hu : X.A.units + 64 < cLine) : OpR X (compareOp .NotEq) (rCmp S .ne) := by
  intro pins s σ H x y v u Q I rx ry ⟨w, ro, m, a, b, r, hr, ra, rb, h, q⟩
  have h : (eqM (memGet ro m) a b).map (!·) = some r := h
  rw [Option.map_eq_some_iff] at h
  obtain ⟨r', h', rfl⟩ := h
  obtain ⟨d, e, h1, h2, k1, k2, rfl⟩ := eqM_some h'
  obtain ⟨p1, o1⟩ := vw_dp hr ra h1 k1
  obtain ⟨p2, o2⟩ := vw_dp hr rb h2 k2
  rw [← hK] at p1 p2
  exact op_neD hu pins s σ H x y v u Q I rx ry ⟨_, _, p1, p2, shaped_py k1 o1, shaped_py k2 o2, by rw [eqv_py _ _ 50 50 k1 k2]; exact q⟩

mutual
theorem sh_alike : ∀ (a b : D) (h : Sh), shB a h = true → shB b h = true → PySem.W.alike (pyD a) (pyD b) = true
  | .int _, b, h, ha, hb => by
    cases h <;> simp [shB] at ha
    cases b <;> simp [shB] at hb
    simp [pyD, PySem.W.alike]
  | .str _, b, h, ha, hb => by
    cases h <;> simp [shB] at ha
    cases b <;> simp [shB] at hb
    simp [pyD, PySem.W.alike]
  | .tup ds, b, h, ha, hb => by
    cases h <;> simp [shB] at ha
    cases b <;> simp [shB] at hb
    simp only [pyD, PySem.W.alike]
    exact shs_alike _ _ _ ha hb
  | .non, _, h, ha, _ => by simp [shB] at ha
  | .bl _, _, h, ha, _ => by simp [shB] at ha
  | .lst _, _, h, ha, _ => by simp [shB] at ha
  | .dct _, _, h, ha, _ => by simp [shB] at ha
  | .ref _, _, h, ha, _ => by simp [shB] at ha
  | .exn _ _, _, h, ha, _ => by simp [shB] at ha
  | .scr _, _, h, ha, _ => by simp [shB] at ha
theorem shs_alike : ∀ (a b : List D) (h : List Sh), shBs a h = true → shBs b h = true → PySem.W.alikeAll (pyDs a) (pyDs b) = true
  | [], b, _, _, _ => by simp [pyDs, PySem.W.alikeAll]
  | d :: r, b, h, ha, hb => by
    cases h with
    | nil => simp [shBs] at ha
    | cons h t =>
      cases b with
      | nil => simp [shBs] at hb
      | cons e s =>
        simp only [shBs, Bool.and_eq_true] at ha hb
        simp only [pyDs, PySem.W.alikeAll, Bool.and_eq_true]
        exact ⟨sh_alike d e h ha.1 hb.1, shs_alike r s t ha.2 hb.2⟩
end
mutual
theorem sh_eqv : ∀ (a b : D) (h : Sh), shB a h = true → shB b h = true → PyData.eqv (pyD a) (pyD b) = eqv a b
  | .int _, b, h, ha, hb => by
    cases h <;> simp [shB] at ha
    cases b <;> simp [shB] at hb
    simp [pyD, PyData.eqv, eqv]
  | .str _, b, h, ha, hb => by
    cases h <;> simp [shB] at ha
    cases b <;> simp [shB] at hb
    simp only [pyD, PyData.eqv, eqv]
    exact xS_beq _ _
  | .tup ds, b, h, ha, hb => by
    cases h <;> simp [shB] at ha
    cases b <;> simp [shB] at hb
    simp only [pyD, PyData.eqv, eqv]
    exact shs_eqv _ _ _ ha hb
  | .non, _, h, ha, _ => by simp [shB] at ha
  | .bl _, _, h, ha, _ => by simp [shB] at ha
  | .lst _, _, h, ha, _ => by simp [shB] at ha
  | .dct _, _, h, ha, _ => by simp [shB] at ha
  | .ref _, _, h, ha, _ => by simp [shB] at ha
  | .exn _ _, _, h, ha, _ => by simp [shB] at ha
  | .scr _, _, h, ha, _ => by simp [shB] at ha
theorem shs_eqv : ∀ (a b : List D) (h : List Sh), shBs a h = true → shBs b h = true → PyData.eqvAll (pyDs a) (pyDs b) = eqvs a b
  | [], b, h, ha, hb => by
    cases h <;> simp [shBs] at ha
    cases b <;> simp [shBs] at hb
    simp [pyDs, PyData.eqvAll, eqvs]
  | d :: r, b, h, ha, hb => by
    cases h with
    | nil => simp [shBs] at ha
    | cons h t =>
      cases b with
      | nil => simp [shBs] at hb
      | cons e s =>
        simp only [shBs, Bool.and_eq_true] at ha hb
        simp only [pyDs, PyData.eqvAll, eqvs]
        rw [sh_eqv d e h ha.1 hb.1, shs_eqv r s t ha.2 hb.2]
end
mutual
theorem sh_lt : ∀ (a b : D) (h : Sh), shB a h = true → shB b h = true → ltV a b = some (PySem.W.dataLt (pyD a) (pyD b))
  | .int _, b, h, ha, hb => by
    cases h <;> simp [shB] at ha
    cases b <;> simp [shB] at hb
    simp only [pyD, ltV, PySem.W.dataLt_int]
  | .str _, b, h, ha, hb => by
    cases h <;> simp [shB] at ha
    cases b <;> simp [shB] at hb
    simp only [pyD, ltV, PySem.W.dataLt_str, xS_tl]
  | .tup ds, b, h, ha, hb => by
    cases h <;> simp [shB] at ha
    cases b <;> simp [shB] at hb
    simp only [pyD, ltV, PySem.W.dataLt_tuple]
    exact shs_lt _ _ _ ha hb
  | .non, _, h, ha, _ => by simp [shB] at ha
  | .bl _, _, h, ha, _ => by simp [shB] at ha
  | .lst _, _, h, ha, _ => by simp [shB] at ha
  | .dct _, _, h, ha, _ => by simp [shB] at ha
  | .ref _, _, h, ha, _ => by simp [shB] at ha
  | .exn _ _, _, h, ha, _ => by simp [shB] at ha
  | .scr _, _, h, ha, _ => by simp [shB] at ha
theorem shs_lt : ∀ (a b : List D) (h : List Sh), shBs a h = true → shBs b h = true → ltVs a b = some (PyProof.Rows.lexLt PyProof.Rows.itemOrd (PySem.W.keyToksAll (pyDs a)) (PySem.W.keyToksAll (pyDs b)))
  | [], b, h, ha, hb => by
    cases h <;> simp [shBs] at ha
    cases b <;> simp [shBs] at hb
    simp only [ltVs, pyDs]
    congr 1
  | d :: r, b, h, ha, hb => by
    cases h with
    | nil => simp [shBs] at ha
    | cons h t =>
      cases b with
      | nil => simp [shBs] at hb
      | cons e s =>
        simp only [shBs, Bool.and_eq_true] at ha hb
        have al := sh_alike d e h ha.1 hb.1
        simp only [ltVs, pyDs]
        have ee := sh_eqv d e h ha.1 hb.1
        cases q : eqv d e with
        | true =>
          rw [q] at ee
          rw [PySem.W.dataLt_all_yes al ee, if_pos rfl]
          exact shs_lt r s t ha.2 hb.2
        | false =>
          rw [q] at ee
          rw [PySem.W.dataLt_all_no al ee, if_neg Bool.false_ne_true]
          exact sh_lt d e h ha.1 hb.1
end
mutual
theorem sh_dp {S : SE} {w : Wd} {ro m : Mem} {H : Hp} (hr : HR S w ro m H) : ∀ (a : D) (v : V) (h : Sh), RelD w a v → shB a h = true → Dp S.K H v (pyD a)
  | .int _, _, _, r, _ => by cases r; exact .int _
  | .str _, _, _, r, _ => by obtain ⟨rfl, _⟩ := r.strI; exact .str _
  | .tup ds, _, h, r, q => by
    obtain ⟨a, vs, rfl, _, ha, rs⟩ := r.tupI
    cases h <;> simp [shB] at q
    exact .tup (SqT.of (hr.dir (hr.fz _ _ ha) (fun _ z => nomatch z) (fun _ z => nomatch z))) (shs_dp hr ds vs _ rs q)
  | .non, _, h, _, ha => by simp [shB] at ha
  | .bl _, _, h, _, ha => by simp [shB] at ha
  | .lst _, _, h, _, ha => by simp [shB] at ha
  | .dct _, _, h, _, ha => by simp [shB] at ha
  | .ref _, _, h, _, ha => by simp [shB] at ha
  | .exn _ _, _, h, _, ha => by simp [shB] at ha
  | .scr _, _, h, _, ha => by simp [shB] at ha
theorem shs_dp {S : SE} {w : Wd} {ro m : Mem} {H : Hp} (hr : HR S w ro m H) : ∀ (a : List D) (v : List V) (h : List Sh), RelDs w a v → shBs a h = true → DpAll S.K H v (pyDs a)
  | [], _, _, r, _ => by cases r; exact .nil
  | d :: ds, _, h, r, q => by
    cases r with
    | cons r1 r2 =>
      cases h with
      | nil => simp [shBs] at q
      | cons h t =>
        simp only [shBs, Bool.and_eq_true] at q
        exact .cons (sh_dp hr d _ h r1 q.1) (shs_dp hr ds _ t r2 q.2)
end
mutual
theorem shO_shB : ∀ (a : D) (h : Sh), shO a = some h → shB a h = true
  | .int _, _, e => by simp [shO] at e; subst e; rfl
  | .str _, _, e => by simp [shO] at e; subst e; rfl
  | .tup ds, _, e => by
    simp only [shO, Option.map_eq_some_iff] at e
    obtain ⟨l, e, rfl⟩ := e
    simp only [shB]
    exact shOs_shBs ds l e
  | .non, h, e => by simp [shO] at e
  | .bl _, h, e => by simp [shO] at e
  | .lst _, h, e => by simp [shO] at e
  | .dct _, h, e => by simp [shO] at e
  | .ref _, h, e => by simp [shO] at e
  | .exn _ _, h, e => by simp [shO] at e
  | .scr _, h, e => by simp [shO] at e
theorem shOs_shBs : ∀ (a : List D) (h : List Sh), shOs a = some h → shBs a h = true
  | [], _, e => by simp [shOs] at e; subst e; rfl
  | d :: r, _, e => by
    simp only [shOs] at e
    split at e
    · rename_i h1 h2 e1 e2
      cases e
      simp only [shBs, Bool.and_eq_true]
      exact ⟨shO_shB d _ e1, shOs_shBs r _ e2⟩
    · cases e
end
mutual
theorem sh_depth : ∀ (a : D) (h : Sh), shB a h = true → (pyD a).depth ≤ shD h
  | .int _, h, ha => by simp [pyD, PyData.depth]
  | .str _, h, ha => by simp [pyD, PyData.depth]
  | .tup ds, h, ha => by
    cases h <;> simp [shB] at ha
    have := shs_depth _ _ ha
    simp only [pyD, PyData.depth, shD]
    omega
  | .non, h, ha => by simp [shB] at ha
  | .bl _, h, ha => by simp [shB] at ha
  | .lst _, h, ha => by simp [shB] at ha
  | .dct _, h, ha => by simp [shB] at ha
  | .ref _, h, ha => by simp [shB] at ha
  | .exn _ _, h, ha => by simp [shB] at ha
  | .scr _, h, ha => by simp [shB] at ha
theorem shs_depth : ∀ (a : List D) (h : List Sh), shBs a h = true → PyData.depthAll (pyDs a) ≤ shDs h
  | [], h, _ => by simp [pyDs, PyData.depthAll]
  | d :: r, h, ha => by
    cases h with
    | nil => simp [shBs] at ha
    | cons h t =>
      simp only [shBs, Bool.and_eq_true] at ha
      have h1 := sh_depth d h ha.1
      have h2 := shs_depth r t ha.2
      simp only [pyDs, PyData.depthAll, shDs]
      omega
end
theorem ltS_some {a b : D} {r : Bool} (h : ltS a b = some r) : ∃ s, shB a s = true ∧ shB b s = true ∧ shD s ≤ 20 ∧ r = PySem.W.dataLt (pyD a) (pyD b) := by
  unfold ltS at h
  split at h
  · rename_i s hs
    split at h
    · rename_i hb
      rw [Bool.and_eq_true] at hb
      have ha := shO_shB a s hs
      rw [sh_lt a b s ha hb.1] at h
      cases h
      exact ⟨s, ha, hb.1, of_decide_eq_true hb.2, rfl⟩
    · cases h
  · cases h
theorem sh_notnone {a : D} {s : Sh} (h : shB a s = true) : pyD a ≠ .none := by
  cases a <;> simp [shB] at h <;> simp [pyD]
section
variable {S : SE} {X : Cx} {pins : List (Addr × Obj)} {σ : L2.St} {H : Hp} {s : Shared}
theorem op_ltG (hK : X.K = S.K) (hu : X.A.units + 64 < cLine) : OpR X (compareOp .Lt) (rCmp S .lt) := by
  intro pins s σ H x y v u Q I rx ry ⟨w, ro, m, a, b, r, hr, ra, rb, h, q⟩
  obtain ⟨sh, h1, h2, hd, rfl⟩ := ltS_some (show ltS a b = some r from h)
  have p1 := sh_dp hr a x sh ra h1
  have p2 := sh_dp hr b y sh rb h2
  rw [← hK] at p1 p2
  obtain ⟨as, r1⟩ := Dp.reads I _ x v p1 rx
  obtain ⟨bs, r2⟩ := Dp.reads I _ y u p2 ry
  have d1 := sh_depth a sh h1
  have R := PySem.W.rcLt_alike _ _ X.A s v u as bs r1 r2 (sh_alike a b sh h1 h2) (sh_notnone h1) (by omega)
  exact R X.prog X.w X.xe (EP X pins σ Q) ⟨.bl _, H, I, rfl, q⟩
theorem not_lt_leX {a b : Tx} : (!decide (b < a)) = decide (a ≤ b) := by
  exact PySem.W.not_lt_str a b
/-- flat things, side by side -/
theorem flat_two {a b : D} {sh : Sh} (hf : flat a = true) (h1 : shB a sh = true) (h2 : shB b sh = true) : (∃ i j, a = .int i ∧ b = .int j) ∨ ∃ t u, a = .str t ∧ b = .str u := by
  cases a with
  | int i => cases sh <;> simp [shB] at h1; cases b <;> simp [shB] at h2; exact .inl ⟨_, _, rfl, rfl⟩
  | str i => cases sh <;> simp [shB] at h1; cases b <;> simp [shB] at h2; exact .inr ⟨_, _, rfl, rfl⟩
  | _ => simp [flat] at hf
theorem op_leG : OpR X (compareOp .LtE) (rCmp S .le) := by
  intro pins s σ H x y v u Q I rx ry ⟨w, ro, m, a, b, r, hr, ra, rb, h, q⟩
  have h : leS a b = some r := h
  unfold leS at h
  split at h
  · rename_i hf
    rw [Option.map_eq_some_iff] at h
    obtain ⟨r', h', rfl⟩ := h
    obtain ⟨sh, h1, h2, hd, rfl⟩ := ltS_some h'
    rcases flat_two hf h2 h1 with ⟨i, j, rfl, rfl⟩ | ⟨t, t2, rfl, rfl⟩
    · cases ra; cases rb
      refine op_le pins s σ H _ _ v u Q I rx ry ⟨_, _, rfl, rfl, ?_⟩
      simp only [pyD, PySem.W.dataLt_int] at q
      show Q (V.bl (decide _)) H
      rw [← PySem.W.not_lt_int]
      exact q
    · obtain ⟨rfl, _⟩ := ra.strI
      obtain ⟨rfl, _⟩ := rb.strI
      refine op_le_str pins s σ H _ _ v u Q I rx ry ⟨_, _, rfl, rfl, ?_⟩
      simpa only [pyD, PySem.W.dataLt_str, xS_tl] using q
  · cases h
theorem op_gtG : OpR X (compareOp .Gt) (rCmp S .gt) := by
  intro pins s σ H x y v u Q I rx ry ⟨w, ro, m, a, b, r, hr, ra, rb, h, q⟩
  have h : gtS a b = some r := h
  unfold gtS at h
  split at h
  · rename_i hf
    obtain ⟨sh, h1, h2, hd, rfl⟩ := ltS_some h
    rcases flat_two hf h2 h1 with ⟨i, j, rfl, rfl⟩ | ⟨t, t2, rfl, rfl⟩
    · cases ra; cases rb
      refine op_gt pins s σ H _ _ v u Q I rx ry ⟨_, _, rfl, rfl, ?_⟩
      simpa only [pyD, PySem.W.dataLt_int] using q
    · obtain ⟨rfl, _⟩ := ra.strI
      obtain ⟨rfl, _⟩ := rb.strI
      refine op_gt_str pins s σ H _ _ v u Q I rx ry ⟨_, _, rfl, rfl, ?_⟩
      simpa only [pyD, PySem.W.dataLt_str, xS_tl] using q
  · cases h
theorem op_geG : OpR X (compareOp .GtE) (rCmp S .ge) := by
  intro pins s σ H x y v u Q I rx ry ⟨w, ro, m, a, b, r, hr, ra, rb, h, q⟩
  have h : geS a b = some r := h
  unfold geS at h
  split at h
  · rename_i hf
    rw [Option.map_eq_some_iff] at h
    obtain ⟨r', h', rfl⟩ := h
    obtain ⟨sh, h1, h2, hd, rfl⟩ := ltS_some h'
    rcases flat_two hf h1 h2 with ⟨i, j, rfl, rfl⟩ | ⟨t, t2, rfl, rfl⟩
    · cases ra; cases rb
      refine op_ge pins s σ H _ _ v u Q I rx ry ⟨_, _, rfl, rfl, ?_⟩
      simp only [pyD, PySem.W.dataLt_int] at q
      show Q (V.bl (decide _)) H
      rw [← PySem.W.not_lt_int]
      exact q
    · obtain ⟨rfl, _⟩ := ra.strI
      obtain ⟨rfl, _⟩ := rb.strI
      refine op_ge_str pins s σ H _ _ v u Q I rx ry ⟨_, _, rfl, rfl, ?_⟩
      simpa only [pyD, PySem.W.dataLt_str, xS_tl] using q
  · cases h

theorem op_isG : OpR X (compareOp .Is) (rCmp S .is_) := by
  intro pins s σ H x y v u Q I rx ry ⟨w, ro, m, a, b, r, hr, ra, rb, h, q⟩
  have h : isV a b = some r := h
  cases b with
  | non =>
    cases rb
    refine op_isN pins s σ H _ _ v u Q I rx ry ⟨rfl, ?_⟩
    cases ra <;> simp [isV] at h <;> subst h <;> simpa using q
  | bl y =>
    cases rb
    cases a with
    | bl x => 
      cases ra
      simp [isV] at h; subst h
      refine op_isBl pins s σ H _ _ v u Q I rx ry ⟨_, _, rfl, rfl, ?_⟩
      have e : decide (x = y) = (x == y) := by cases x <;> cases y <;> rfl
      rw [e]; exact q
    | _ => simp [isV] at h
  | _ => simp [isV] at h
theorem op_isntG : OpR X (compareOp .IsNot) (rCmp S .isnt) := by
  intro pins s σ H x y v u Q I rx ry ⟨w, ro, m, a, b, r, hr, ra, rb, h, q⟩
  have h : (isV a b).map (!·) = some r := h
  cases b with
  | non =>
    cases rb
    refine op_notN pins s σ H _ _ v u Q I rx ry ⟨rfl, ?_⟩
    cases ra <;> simp [isV] at h <;> subst h <;> simpa using q
  | bl y =>
    cases rb
    cases a with
    | bl x => 
      cases ra
      have h : some (!(x == y)) = some r := h
      cases h
      refine op_notBl pins s σ H _ _ v u Q I rx ry ⟨_, _, rfl, rfl, ?_⟩
      have e : (!decide (x = y)) = !(x == y) := by cases x <;> cases y <;> rfl
      rw [e]; exact q
    | _ => simp [isV] at h
  | _ => simp [isV] at h
end
end
end Av
end
section
set_option Elab.async false
set_option linter.all false
set_option maxRecDepth 100000
set_option autoImplicit false
set_option maxHeartbeats 4000000
namespace Av
open PySem PySem.Spec PyProof.Rows L2
theorem pK_inj : ∀ {a b : Sum Int Tx}, pK a = pK b → a = b
  | .inl _, .inl _, h => by cases h; rfl
  | .inr a, .inr b, h => by rw [xS_inj (Sum.inr.inj h)]
  | .inl _, .inr _, h => by cases h
  | .inr _, .inl _, h => by cases h
theorem pKs_inj : ∀ {a b : List (Sum Int Tx)}, a.map pK = b.map pK → a = b
  | [], [], _ => rfl
  | _ :: _, _ :: _, h => by
    injection h with h1 h2
    rw [pK_inj h1, pKs_inj h2]
  | [], _ :: _, h => by cases h
  | _ :: _, [], h => by cases h
theorem kK_inj {a b : Ky} {k : Key} (ha : kK a = some k) (hb : kK b = some k) : a = b := by
  cases a <;> cases b <;> simp [kK] at ha hb <;> subst ha <;> simp at hb
  · rw [hb]
  · rw [xS_inj hb]
theorem kT_inj {a b : Ky} {k : List Key} (ha : kT a = some k) (hb : kT b = some k) : a = b := by
  cases a <;> cases b <;> simp [kT] at ha hb <;> subst ha
  rw [pKs_inj hb]
section
variable {S : SE} {w : Wd} {ro m : Mem} {H : Hp}
theorem getK_nil {k : Ky} : getK [] k = none := rfl
theorem getK_cons {k k' : Ky} {d : D} {r : List (Ky × D)} : getK ((k', d) :: r) k = if k' = k then some d else getK r k := by
  unfold getK
  by_cases h : k' = k
  · rw [if_pos h, List.find?_cons_of_pos (by simp [h])]; rfl
  · rw [if_neg h, List.find?_cons_of_neg (by simp [h])]
theorem hasK_get {kvs : List (Ky × D)} {k : Ky} : hasK kvs k = (getK kvs k).isSome := by
  induction kvs with
  | nil => rfl
  | cons p r ih =>
    obtain ⟨k', d⟩ := p
    rw [getK_cons]
    unfold hasK at ih ⊢
    rw [List.any_cons, ih]
    by_cases h : k' = k
    · simp [h]
    · simp [h]
/-- what is found -/
def OptR (w : Wd) : Option D → Option V → Prop
  | some d, some v => RelD w d v
  | none, none => True
  | _, _ => False
theorem OptR.isSome {a : Option D} {b : Option V} (h : OptR w a b) : a.isSome = b.isSome := by
  cases a <;> cases b <;> simp [OptR] at h ⊢
theorem RelK.get {k : Ky} {k' : Key} (hk : kK k = some k') : ∀ {kvs : List (Ky × D)} {ps : List (Key × V)}, RelK w kvs ps → OptR w (getK kvs k) (valV ps k')
  | _, _, .nil => trivial
  | _, _, .cons (k := q) (k' := q') e _ r s => by
    rw [getK_cons]
    by_cases h : q = k
    · subst h
      rw [hk] at e; cases e
      rw [if_pos rfl, valV_pos rfl]
      exact r
    · rw [if_neg h, valV_neg (show ¬ q' = k' from fun z => h (kK_inj e (z ▸ hk)))]
      exact RelK.get hk s
theorem RelT.get {k : Ky} {k' : List Key} (hk : kT k = some k') : ∀ {kvs : List (Ky × D)} {ps : List (List Key × V)}, RelT w kvs ps → OptR w (getK kvs k) (valV ps k')
  | _, _, .nil => trivial
  | _, _, .cons (k := q) (k' := q') e _ r s => by
    rw [getK_cons]
    by_cases h : q = k
    · subst h
      rw [hk] at e; cases e
      rw [if_pos rfl, valV_pos rfl]
      exact r
    · rw [if_neg h, valV_neg (show ¬ q' = k' from fun z => h (kT_inj e (z ▸ hk)))]
      exact RelT.get hk s
/-- a value that is a key -/
theorem kyPs_rel : ∀ {ds : List D} {vs : List V} {ks : List (Sum Int Tx)}, RelDs w ds vs → kyPs ds = some ks → vs = (ks.map pK).map kV ∧ ks.all pLim = true ∧ ks.length = ds.length
  | [], _, _, r, h => by cases r; cases h; exact ⟨rfl, rfl, rfl⟩
  | d :: ds, _, ks, r, h => by
    cases r with
    | cons r1 r2 =>
      simp only [kyPs] at h
      split at h
      · rename_i k ks' h1 h2
        cases h
        obtain ⟨e1, e2, e3⟩ := kyPs_rel r2 h2
        cases d <;> simp [kyP] at h1
        · subst h1; cases r1
          exact ⟨by simp [pK, kV, e1], by simp [pLim, e2], by simp [e3]⟩
        · subst h1
          obtain ⟨rfl, o⟩ := r1.strI
          exact ⟨by simp [pK, kV, e1], by simp [pLim, okT_ok o, e2], by simp [e3]⟩
      · cases h
theorem ky_rel (hr : HR S w ro m H) {d : D} {v : V} {k : Ky} (r : RelD w d v) (h : ky d = some k) : kLim k = true ∧
    ((∃ k', kK k = some k' ∧ v = kV k' ∧ isT k = false) ∨ ∃ k' b, kT k = some k' ∧ v = .ref b ∧ H b = some (.tup (k'.map kV)) ∧ isT k = true) := by
  cases d <;> simp [ky] at h
  · subst h; cases r; exact ⟨rfl, .inl ⟨_, rfl, rfl, rfl⟩⟩
  · subst h; obtain ⟨rfl, o⟩ := r.strI; exact ⟨okT_ok o, .inl ⟨_, rfl, rfl, rfl⟩⟩
  · obtain ⟨ks, h, rfl⟩ := h
    obtain ⟨a, vs, rfl, hl, ha, rs⟩ := r.tupI
    obtain ⟨e1, e2, e3⟩ := kyPs_rel rs h
    refine ⟨?_, .inr ⟨_, a, rfl, rfl, ?_, rfl⟩⟩
    · simp only [kLim, Bool.and_eq_true]; exact ⟨decide_eq_true (by omega), e2⟩
    · rw [← e1]; exact hr.dir (hr.fz _ _ ha) (fun _ z => nomatch z) (fun _ z => nomatch z)
/-- the value that a key is -/
theorem dK_rel {k : Ky} {k' : Key} (hk : kK k = some k') (hl : kLim k = true) : RelD w (dK k) (kV k') := by
  cases k <;> simp [kK] at hk <;> subst hk
  · exact .int _
  · exact .str _ (okTb_ok hl)
end
section
variable {X : Cx} {pins : List (Addr × Obj)} {σ : L2.St} {H : Hp} {s : Shared} {a : Addr}
theorem flipT (I : Inv X pins σ H s) (e : H a = some (.dK [])) : Inv X pins σ (upd H a (.dT [])) s := by
  obtain ⟨_, hd, vs, rel, dd⟩ := dk_of I.hok e
  cases rel
  obtain ⟨o, es, ep, h1, h2, h3, h4, h5, h6⟩ := dd
  have es0 : es = #[] := Array.toList_eq_nil_iff.mp (List.length_eq_zero_iff.mp h5.length)
  exact d_write (h' := s.heap) (t' := s.toks) I (by rw [e]; trivial) ⟨rfl, fun _ _ => rfl⟩ ⟨o, h1⟩ ⟨Nat.zero_le _, hd, [], .nil, o, es, ep, h1, h2, h3, by rw [es0]; rfl, List.nodup_nil⟩
theorem flipK (I : Inv X pins σ H s) (e : H a = some (.dT [])) : Inv X pins σ (upd H a (.dK [])) s := by
  obtain ⟨_, hd, vs, rel, o, es, ep, h1, h2, h3, h4, h5⟩ := dt_of I.hok e
  cases rel
  have es0 : es = #[] := Array.toList_eq_nil_iff.mp h4
  subst es0
  exact d_write (h' := s.heap) (t' := s.toks) I (by rw [e]; trivial) ⟨rfl, fun _ _ => rfl⟩ ⟨o, h1⟩ ⟨Nat.zero_le _, hd, [], .nil, o, #[], ep, h1, h2, h3, fun e he => by simp at he, .nil, List.nodup_nil⟩
theorem upd_self {o : HO} (e : H a = some o) : upd H a o = H := by
  funext b; unfold upd; split
  · rename_i h; rw [h, e]
  · rfl
/-- the dict is one for the key k -/
def KindOf (H : Hp) (a : Addr) (t : Bool) : Prop := if t = true then ∃ ps, Rd H a (.dT ps) else ∃ ps, Rd H a (.dK ps)
variable {S : SE} {w : Wd} {ro m : Mem}
/-- a dict's content, as it is to be for a key -/
theorem RelO.kind {kvs : List (Ky × D)} {o : HO} {k : Ky} (h : RelO w kvs o) (hk : kindK kvs k = true) :
    (isT k = true ∧ ((∃ ps, o = .dT ps ∧ RelT w kvs ps) ∨ (o = .dK [] ∧ kvs = []))) ∨ (isT k = false ∧ ((∃ ps, o = .dK ps ∧ RelK w kvs ps) ∨ (o = .dT [] ∧ kvs = []))) := by
  cases h with
  | k r =>
    cases e : isT k with
    | true =>
      refine .inl ⟨rfl, .inr ?_⟩
      cases r with
      | nil => exact ⟨rfl, rfl⟩
      | @cons q _ _ _ _ _ e1 _ _ _ =>
        have hk : (isT q == isT k) = true := hk
        rw [e] at hk
        cases q <;> simp [kK] at e1 <;> simp [isT] at hk
    | false => exact .inr ⟨rfl, .inl ⟨_, rfl, r⟩⟩
  | t r =>
    cases e : isT k with
    | true => exact .inl ⟨rfl, .inl ⟨_, rfl, r⟩⟩
    | false =>
      refine .inr ⟨rfl, .inr ?_⟩
      cases r with
      | nil => exact ⟨rfl, rfl⟩
      | @cons q _ _ _ _ _ e1 _ _ _ =>
        have hk : (isT q == isT k) = true := hk
        rw [e] at hk
        cases q <;> simp [kT] at e1 <;> simp [isT] at hk
theorem emptyK_at (hr : HR S w ro m H) (h : At w H a (.dK [])) : H a = some (.dK []) ∧ w.lk a = none := by
  unfold At at h
  cases z : w.lk a with
  | none => rw [z] at h; exact ⟨h, rfl⟩
  | some ob =>
    rw [z] at h
    obtain ⟨q, f⟩ := hr.lkd _ _ z
    have h : H a = some (.frz ob.1 (.dK [])) := h
    rw [h] at q; injection q with q; injection q with q1 q2
    rw [← q2] at f
    rcases f with ⟨_, _, f⟩ | ⟨_, _, f⟩ <;> cases f
theorem emptyT_at (hr : HR S w ro m H) (h : At w H a (.dT [])) : H a = some (.dT []) ∧ w.lk a = none := by
  unfold At at h
  cases z : w.lk a with
  | none => rw [z] at h; exact ⟨h, rfl⟩
  | some ob =>
    rw [z] at h
    obtain ⟨q, f⟩ := hr.lkd _ _ z
    have h : H a = some (.frz ob.1 (.dT [])) := h
    rw [h] at q; injection q with q; injection q with q1 q2
    rw [← q2] at f
    rcases f with ⟨_, _, f⟩ | ⟨_, _, f⟩ <;> cases f
/-- a dict is read at a key -/
theorem dgetG (hr : HR S w ro m H) (I : Inv X pins σ H s) {kvs : List (Ky × D)} {kd : D} {k : Ky} {x y : V} (r : RelN w H (.dct kvs) x) (rk : RelD w kd y) (hk : ky kd = some k) (hkk : kindK kvs k = true) :
    ∃ H2 a o, x = .ref a ∧ Inv X pins σ H2 s ∧ DGet H2 a y o ∧ OptR w (getK kvs k) o ∧ ∀ s', Inv X pins σ H2 s' → Inv X pins σ H s' := by
  obtain ⟨a, o, rfl, hl, ha, ro'⟩ := r.dctI
  obtain ⟨lim, q⟩ := ky_rel hr rk hk
  rcases q with ⟨k', e1, rfl, et⟩ | ⟨k', b, e1, rfl, hb, et⟩
  · rcases ro'.kind hkk with ⟨z, _⟩ | ⟨_, ⟨ps, rfl, rr⟩ | ⟨rfl, rfl⟩⟩
    · rw [et] at z; cases z
    · exact ⟨H, a, _, rfl, I, .inl ⟨_, k', ha.rd, rfl, rfl⟩, rr.get e1, fun _ h => h⟩
    · obtain ⟨ha', _⟩ := emptyT_at hr ha
      refine ⟨_, a, _, rfl, flipK I ha', .inl ⟨[], k', .inl upd_same, rfl, rfl⟩, trivial, fun s' J => ?_⟩
      have := flipT J upd_same
      rw [upd_upd, upd_self ha'] at this
      exact this
  · rcases ro'.kind hkk with ⟨_, ⟨ps, rfl, rr⟩ | ⟨rfl, rfl⟩⟩ | ⟨z, _⟩
    · exact ⟨H, a, _, rfl, I, .inr ⟨_, k', b, ha.rd, rfl, hb, rfl⟩, rr.get e1, fun _ h => h⟩
    · obtain ⟨ha', _⟩ := emptyK_at hr ha
      refine ⟨_, a, _, rfl, flipT I ha', .inr ⟨[], k', b, .inl upd_same, rfl, ?_, rfl⟩, trivial, fun s' J => ?_⟩
      · rw [upd_ne (fun z => by rw [z, ha'] at hb; cases hb)]; exact hb
      · have := flipK J upd_same
        rw [upd_upd, upd_self ha'] at this
        exact this
    · rw [et] at z; cases z
end
section
variable {S : SE} {X : Cx}
theorem pyDs_any {x : D} (kx : eqok x 50 = true) : ∀ {ys : List D}, eqoks ys 50 = true → ((pyDs ys).any fun z => PyData.eqv z (pyD x)) = ys.any fun y => eqv y x
  | [], _ => rfl
  | y :: ys, h => by
    simp only [eqoks, Bool.and_eq_true] at h
    simp only [pyDs, List.any_cons]
    rw [eqv_py y x 50 50 h.1 kx, pyDs_any kx h.2]
theorem canLays {ys : List D} (q : eqoks ys 50 = true) (o : okDs ys = true) : PyData.canLayAll0 (pyDs ys) = true := (lays_py ys 50 q o).1
theorem op_inG (hK : X.K = S.K) (hu : X.A.units + 65 < cLine) : OpR X (compareOp .In) (rCmp S .mem) := by
  intro pins s σ H x y v u Q I rx ry ⟨w, ro, m, a, b, r, hr, ra, rb, h, q⟩
  have nb := rb.now hr
  have h : memV (memGet ro m) a (rd ro m b) = some r := h
  unfold memV at h
  split at h
  · rename_i t e
    rw [e] at nb
    obtain ⟨rfl, ot⟩ := nb.strI
    split at h
    · cases h
      obtain ⟨rfl, oc⟩ := ra.strI
      exact op_in_sign pins s σ H _ _ v u Q I rx ry ⟨_, _, rfl, rfl, by rw [xS_tl]; exact q⟩
    · cases h
  · rename_i ds e
    rw [e] at nb
    obtain ⟨p, vs, rfl, hl, ha, rs⟩ := nb.lstI
    split at h
    · rename_i x' ys h1 h2
      split at h
      · rename_i h3
        rw [Bool.and_eq_true] at h3
        cases h
        obtain ⟨p1, o1⟩ := vw_dp hr ra h1 h3.1
        obtain ⟨p2, o2⟩ := views_dp hr _ (vwF_dp hr 6) ds ys vs 50 rs h2 h3.2
        rw [← hK] at p1 p2
        obtain ⟨as, r1⟩ := Dp.reads I _ _ v p1 rx
        obtain ⟨bs, r2⟩ := Dp.reads I (.list (pyDs ys)) _ u (.lst (SqL.of ha) p2) ry
        refine SeqAt.in_list_reads r2 r1 (canLays h3.2 o2) (lay_py _ 50 h3.1 o1).1 ?_ ⟨.bl _, H, I, rfl, by rw [pyDs_any h3.1 h3.2]; exact q⟩
        have d1 := (lay_py _ 50 h3.1 o1).2
        have : min (PyData.depthAll (pyDs ys)) (pyD x').depth ≤ (pyD x').depth := Nat.min_le_right _ _
        omega
      · cases h
    · cases h
  · rename_i ds e
    rw [e] at nb
    obtain ⟨p, vs, rfl, hl, ha, rs⟩ := nb.tupI
    split at h
    · rename_i x' ys h1 h2
      split at h
      · rename_i h3
        rw [Bool.and_eq_true] at h3
        cases h
        obtain ⟨p1, o1⟩ := vw_dp hr ra h1 h3.1
        obtain ⟨p2, o2⟩ := views_dp hr _ (vwF_dp hr 6) ds ys vs 50 rs h2 h3.2
        rw [← hK] at p1 p2
        obtain ⟨as, r1⟩ := Dp.reads I _ _ v p1 rx
        obtain ⟨bs, r2⟩ := Dp.reads I (.tuple (pyDs ys)) _ u (.tup (SqT.of ha) p2) ry
        refine SeqAt.in_tuple_reads r2 r1 (canLays h3.2 o2) (lay_py _ 50 h3.1 o1).1 ?_ ⟨.bl _, H, I, rfl, by rw [pyDs_any h3.1 h3.2]; exact q⟩
        have d1 := (lay_py _ 50 h3.1 o1).2
        have : min (PyData.depthAll (pyDs ys)) (pyD x').depth ≤ (pyD x').depth := Nat.min_le_right _ _
        omega
      · cases h
    · cases h
  · rename_i kvs e
    rw [e] at nb
    split at h
    · rename_i k hk
      split at h
      · rename_i hkk
        cases h
        obtain ⟨H2, p, o, rfl, I2, g, ov, back⟩ := dgetG hr I nb ra hk hkk
        cases (show u = Value.ref p from ry)
        refine d_in (by omega) I2 g rx fun s' J => ⟨.bl _, H, back s' J, rfl, ?_⟩
        rw [← ov.isSome, ← hasK_get]
        exact q
      · cases h
    · cases h
  · cases h
theorem op_notInG (hK : X.K = S.K) (hu : X.A.units + 65 < cLine) : OpR X (compareOp .NotIn) (rCmp S .nmem) := by
  intro pins s σ H x y v u Q I rx ry ⟨w, ro, m, a, b, r, hr, ra, rb, h, q⟩
  have nb := rb.now hr
  have h : (memV (memGet ro m) a (rd ro m b)).map (!·) = some r := h
  rw [Option.map_eq_some_iff] at h
  obtain ⟨r', h9, rfl⟩ := h
  have h := h9
  unfold memV at h
  split at h
  · rename_i t e
    rw [e] at nb
    obtain ⟨rfl, ot⟩ := nb.strI
    split at h
    · cases h
      obtain ⟨rfl, oc⟩ := ra.strI
      exact op_notIn_sign pins s σ H _ _ v u Q I rx ry ⟨_, _, rfl, rfl, by rw [xS_tl]; exact q⟩
    · cases h
  · rename_i ds e
    rw [e] at nb
    obtain ⟨p, vs, rfl, hl, ha, rs⟩ := nb.lstI
    split at h
    · rename_i x' ys h1 h2
      split at h
      · rename_i h3
        rw [Bool.and_eq_true] at h3
        cases h
        obtain ⟨p1, o1⟩ := vw_dp hr ra h1 h3.1
        obtain ⟨p2, o2⟩ := views_dp hr _ (vwF_dp hr 6) ds ys vs 50 rs h2 h3.2
        rw [← hK] at p1 p2
        obtain ⟨as, r1⟩ := Dp.reads I _ _ v p1 rx
        obtain ⟨bs, r2⟩ := Dp.reads I (.list (pyDs ys)) _ u (.lst (SqL.of ha) p2) ry
        refine SeqAt.notIn_list_reads r2 r1 (canLays h3.2 o2) (lay_py _ 50 h3.1 o1).1 ?_ ⟨.bl _, H, I, rfl, by rw [pyDs_any h3.1 h3.2]; exact q⟩
        have d1 := (lay_py _ 50 h3.1 o1).2
        have : min (PyData.depthAll (pyDs ys)) (pyD x').depth ≤ (pyD x').depth := Nat.min_le_right _ _
        omega
      · cases h
    · cases h
  · rename_i ds e
    rw [e] at nb
    obtain ⟨p, vs, rfl, hl, ha, rs⟩ := nb.tupI
    split at h
    · rename_i x' ys h1 h2
      split at h
      · rename_i h3
        rw [Bool.and_eq_true] at h3
        cases h
        obtain ⟨p1, o1⟩ := vw_dp hr ra h1 h3.1
        obtain ⟨p2, o2⟩ := views_dp hr _ (vwF_dp hr 6) ds ys vs 50 rs h2 h3.2
        rw [← hK] at p1 p2
        obtain ⟨as, r1⟩ := Dp.reads I _ _ v p1 rx
        obtain ⟨bs, r2⟩ := Dp.reads I (.tuple (pyDs ys)) _ u (.tup (SqT.of ha) p2) ry
        refine SeqAt.notIn_tuple_reads r2 r1 (canLays h3.2 o2) (lay_py _ 50 h3.1 o1).1 ?_ ⟨.bl _, H, I, rfl, by rw [pyDs_any h3.1 h3.2]; exact q⟩
        have d1 := (lay_py _ 50 h3.1 o1).2
        have : min (PyData.depthAll (pyDs ys)) (pyD x').depth ≤ (pyD x').depth := Nat.min_le_right _ _
        omega
      · cases h
    · cases h
  · rename_i kvs e
    rw [e] at nb
    split at h
    · rename_i k hk
      split at h
      · rename_i hkk
        cases h
        obtain ⟨H2, p, o, rfl, I2, g, ov, back⟩ := dgetG hr I nb ra hk hkk
        cases (show u = Value.ref p from ry)
        refine d_notIn (by omega) I2 g rx fun s' J => ⟨.bl _, H, back s' J, rfl, ?_⟩
        rw [← ov.isSome, ← hasK_get]
        exact q
      · cases h
    · cases h
  · cases h
/-- a comparison, whichever -/
theorem op_cmp (hK : X.K = S.K) (hu : X.A.units + 65 < cLine) (op : CO) : OpR X (compareOp (coOp op)) (rCmp S op) := by
  cases op with
  | eq => exact op_eqG hK (by omega)
  | ne => exact op_neG hK (by omega)
  | lt => exact op_ltG hK (by omega)
  | le => exact op_leG
  | gt => exact op_gtG
  | ge => exact op_geG
  | mem => exact op_inG hK hu
  | nmem => exact op_notInG hK hu
  | is_ => exact op_isG
  | isnt => exact op_isntG
end
end Av
end
section
set_option Elab.async false
set_option linter.all false
set_option maxRecDepth 100000
set_option autoImplicit false
set_option maxHeartbeats 4000000
namespace Av
open PySem PySem.Spec PyProof.Rows L2
section
variable {S : SE} {X : Cx} {w : Wd} {ro m : Mem} {H : Hp}
theorem ixD_N (n : Nat) (i : Int) : ixD n i = ixN n i := rfl
theorem okT_one {t : Tx} {c j : Nat} (h : okT t) (e : t[j]? = some c) : okT [c] :=
  ⟨by show 1 ≤ 16777214; omega, fun x hx => by simp at hx; subst hx; exact h.2 x (List.mem_of_getElem? e)⟩
def rAt (S : SE) : R2 := fun x y H Q => ∃ w ro m a b c, HR S w ro m H ∧ RelD w a x ∧ RelD w b y ∧ atV (rd ro m a) b = some c ∧ ∀ v, RelD w c v → Q v H
theorem ix_at (hK : X.K = S.K) (hu : X.A.units + 1 < cLine) : IxR X (rAt S) := by
  intro value slice pins s σ H x y v u Q I rx ry ⟨w, ro, m, a, b, c, hr, ra, rb, h, q⟩ hs
  have na := ra.now hr
  have dict : ∀ (kvs : List (Ky × D)), rd ro m a = .dct kvs → ((ky b).bind fun k => if kindK kvs k then getK kvs k else none) = some c → wpAny (model X.prog X.w) X.A (subscriptTail value slice v u) (EP X pins σ Q) X.xe s := by
    intro kvs e h
    rw [e] at na
    rw [Option.bind_eq_some_iff] at h
    obtain ⟨k, hk, h⟩ := h
    split at h
    · rename_i hkk
      obtain ⟨H2, p, o, rfl, I2, g, ov, back⟩ := dgetG hr I na rb hk hkk
      rw [h] at ov
      cases o with
      | none => exact ov.elim
      | some z =>
        cases (show v = Value.ref p from rx)
        exact tail_any (dict_typeIs I2 g) PySem.F.slot_dict_getitem.lookup (d_getItem hu I2 g ry fun w' s' J rw' => ⟨z, H, back s' J, rw', q z ov⟩) hs
    · cases h
  unfold atV at h
  split at h
  · rename_i ds j e
    rw [e] at na
    obtain ⟨p, vs, rfl, hl, ha, rs⟩ := na.lstI
    obtain rfl := rb.intI
    rw [Option.bind_eq_some_iff] at h
    obtain ⟨k, hk, h⟩ := h
    obtain ⟨z, hz, rz⟩ := rs.get h
    rw [RelDs.length rs, ixD_N] at hk
    exact ix_list value slice pins s σ H _ _ v u Q I rx ry ⟨p, vs, j, z, rfl, rfl, SqL.of ha, by unfold atI; rw [hk]; exact hz, q z rz⟩ hs
  · rename_i ds j e
    rw [e] at na
    obtain ⟨p, vs, rfl, hl, ha, rs⟩ := na.tupI
    obtain rfl := rb.intI
    rw [Option.bind_eq_some_iff] at h
    obtain ⟨k, hk, h⟩ := h
    obtain ⟨z, hz, rz⟩ := rs.get h
    rw [RelDs.length rs, ixD_N] at hk
    exact ix_tup value slice pins s σ H _ _ v u Q I rx ry ⟨p, vs, j, z, rfl, rfl, SqT.of ha, by unfold atI; rw [hk]; exact hz, q z rz⟩ hs
  · rename_i t j e
    rw [e] at na
    obtain ⟨rfl, ot⟩ := na.strI
    obtain rfl := rb.intI
    rw [Option.bind_eq_some_iff] at h
    obtain ⟨k, hk, h⟩ := h
    rw [Option.map_eq_some_iff] at h
    obtain ⟨c', hc, rfl⟩ := h
    exact ix_str value slice pins s σ H _ _ v u Q I rx ry ⟨_, j, c', rfl, rfl, by rw [xS_len]; exact lim_le ot.1, by unfold atI; rw [xS_tl, ← ixD_N, hk]; exact hc, q _ (.str [c'] (okT_one ot hc))⟩ hs
  · rename_i is j e
    rw [e] at na
    obtain ⟨p, rfl, hl, ha⟩ := na.scrI
    obtain rfl := rb.intI
    rw [Option.bind_eq_some_iff] at h
    obtain ⟨k, hk, h⟩ := h
    rw [Option.map_eq_some_iff] at h
    obtain ⟨c', hc, rfl⟩ := h
    exact ix_list value slice pins s σ H _ _ v u Q I rx ry ⟨p, is.map V.int, j, .int c', rfl, rfl, .inl ha, by unfold atI; rw [List.length_map, ← ixD_N, hk]; simp [hc], q _ (.int c')⟩ hs
  · rename_i kvs e
    exact dict kvs (by assumption) h
  · cases h

theorem cutI_s (n d : Nat) (o : Option Int) : cutI n d o = HT.sIx n d o := by cases o <;> rfl
theorem RelDs.cut {ds : List D} {vs : List V} (r : RelDs w ds vs) (lo hi : Option Int) : RelDs w (cutL ds lo hi) (cutV vs lo hi) := by
  unfold cutL cutV
  rw [cutI_s, cutI_s, RelDs.length r]
  exact (r.drop _).take _
theorem cutL_len {α : Type} (xs : List α) (lo hi : Option Int) : (cutL xs lo hi).length ≤ xs.length := by
  unfold cutL
  rw [List.length_take, List.length_drop]
  omega
theorem cutL_mem {α : Type} {xs : List α} {lo hi : Option Int} {c : α} (h : c ∈ cutL xs lo hi) : c ∈ xs := List.mem_of_mem_drop (List.mem_of_mem_take h)
def rSl (S : SE) : V → Option Int → Option Int → Hp → VK → Prop := fun x lo hi H Q => ∃ w ro m a c, HR S w ro m H ∧ RelD w a x ∧ slcV (rd ro m a) lo hi = some c ∧ Nxt S w ro m c Q
theorem sl_all (hK : X.K = S.K) : L2.SlR X (rSl S) := by
  intro pins s σ H x v vl vu lo hi sl Q I rx hs pl pu ⟨w, ro, m, a, c, hr, ra, h, q⟩
  have na := ra.now hr
  unfold slcV at h
  split at h
  · rename_i ds e
    cases h
    rw [e] at na
    obtain ⟨p, vs, rfl, hl, ha, rs⟩ := na.lstI
    exact sl_list pins s σ H _ v vl vu lo hi sl Q I rx hs pl pu ⟨p, vs, rfl, SqL.of ha, q.lst hr (rs.cut lo hi) (Nat.le_trans (cutL_len _ _ _) hl)⟩
  · rename_i ds e
    cases h
    rw [e] at na
    have ra' := rd_tup e
    subst ra'
    obtain ⟨p, vs, rfl, hl, ha, rs⟩ := na.tupI
    refine sl_tupA pins s σ H _ v vl vu lo hi sl Q I rx hs pl pu ⟨p, vs, rfl, SqT.of ha, fun z => ?_, fun _ => q.tup hr (rs.cut lo hi) (Nat.le_trans (cutL_len _ _ _) hl)⟩
    have : cutL ds lo hi = ds := by
      unfold cutL
      rw [cutI_s, cutI_s, RelDs.length rs, z.1, z.2]
      simp [← RelDs.length rs]
    rw [this] at q
    exact q.now hr ra
  · rename_i t e
    cases h
    rw [e] at na
    obtain ⟨rfl, ot⟩ := na.strI
    refine sl_str pins s σ H _ v vl vu lo hi sl Q I rx hs pl pu ⟨_, rfl, by rw [xS_len]; exact lim_le ot.1, ?_⟩
    have : cutS (xS t) lo hi = xS (cutL t lo hi) := by
      unfold cutS cutL xS
      rw [cutI_s, cutI_s]
      rfl
    rw [this]
    exact q.now hr (.str _ (okT_sub ot (cutL_len _ _ _) fun c hc => cutL_mem hc))
  · cases h

def rTru (S : SE) : V → Hp → (Bool → Hp → Prop) → Prop := fun x H Q => ∃ w ro m a c, HR S w ro m H ∧ RelD w a x ∧ truV (rd ro m a) = some c ∧ Q c H
theorem isEmpty_rel {ds : List D} {vs : List V} (r : RelDs w ds vs) : (!ds.isEmpty) = !vs.isEmpty := by cases r <;> rfl
theorem len_ne (n : Nat) : (n != 0) = ((n : Int) != 0) := by
  cases n <;> simp
  omega
theorem tru_all (hK : X.K = S.K) : TruR X (rTru S) := by
  intro pins s σ H x v Q I rx ⟨w, ro, m, a, c, hr, ra, h, q⟩
  have na := ra.now hr
  refine tru_ok pins s σ H x v Q I rx ⟨c, ?_, q⟩
  generalize e : rd ro m a = d at h na
  cases d with
  | non => cases na; cases h; rfl
  | bl b => cases na; cases h; rfl
  | int i => cases na; cases h; rfl
  | str t =>
    obtain ⟨rfl, ot⟩ := na.strI
    cases h
    refine ⟨by rw [xS_len]; exact lim_le ot.1, ?_⟩
    rw [xS_len]; exact len_ne _
  | lst ds =>
    obtain ⟨p, vs, rfl, hl, ha, rs⟩ := na.lstI
    cases h
    exact .inl ⟨vs, SqL.of ha, isEmpty_rel rs⟩
  | tup ds =>
    obtain ⟨p, vs, rfl, hl, ha, rs⟩ := na.tupI
    cases h
    exact .inr (.inl ⟨vs, SqT.of ha, isEmpty_rel rs⟩)
  | _ => simp [truV] at h
end
end Av
end
section
set_option Elab.async false
set_option linter.all false
set_option maxRecDepth 100000
set_option autoImplicit false
set_option maxHeartbeats 4000000
namespace Av
open PySem PySem.Spec PyProof.Rows L2
section
variable {S : SE} {X : Cx} {w : Wd} {ro m : Mem} {H : Hp}
def Wd.all (w : Wd) (H : Hp) : Wd := { w with fz := fun a => match w.fz a with
  | some o => some o
  | none => match H a with
    | some (.tup vs) => some (.tup vs)
    | _ => none }
theorem Wd.all_le : w.Le (w.all H) := ⟨fun _ _ h => h, fun a o h => by show (match w.fz a with | some o => some o | none => _) = some o; rw [h], fun _ _ h => h, rfl, rfl, rfl, rfl⟩
theorem Wd.all_at {a : Addr} {vs : List V} (hr : HR S w ro m H) (h : H a = some (.tup vs)) : (w.all H).fz a = some (.tup vs) := by
  show (match w.fz a with | some o => some o | none => match H a with | some (.tup vs) => some (.tup vs) | _ => none) = _
  cases e : w.fz a with
  | none => simp only [h]
  | some o =>
    have q := hr.fz a o e
    have : H a = some o := by
      unfold At at q
      cases z : w.lk a with
      | none => rw [z] at q; exact q
      | some ob =>
        rw [z] at q
        have q : H a = some (.frz ob.1 o) := q
        rw [h] at q; cases q
    rw [h] at this
    simp only [← this]
theorem HR.all (hr : HR S w ro m H) : HR S (w.all H) ro m H where
  len := hr.len
  live := fun n o e => let ⟨a, h1, h2⟩ := hr.live n o e; ⟨a, h1, h2.mono Wd.all_le rfl⟩
  inj := hr.inj
  sep := fun n a e => by
    have e : w.io n = some a := e
    show (match w.fz a with | some o => some o | none => match H a with | some (.tup vs) => some (.tup vs) | _ => none) = none
    rw [hr.sep n a e]
    obtain ⟨b, h1, h2⟩ := hr.live n _ (List.getElem?_eq_getElem (hr.len n a e))
    rw [e] at h1; cases h1
    generalize (ro ++ m)[n]'(hr.len n a e) = ob at h2
    match ob, h2 with
    | .lst ds, ⟨_, h2, vs, h3, h4⟩ => simp [h3]
    | .dct kvs, ⟨h1, o, h2, h3⟩ =>
      unfold At at h2
      cases z : w.lk a with
      | none => rw [z] at h2; have h2 : H a = some o := h2; cases h3 <;> simp [h2]
      | some ob => rw [z] at h2; have h2 : H a = some (.frz ob.1 o) := h2; simp [h2]
    | .ins c fs, ⟨_, _, dx, vs, h3, _⟩ => simp [h3]
    | .lk (.lst ds), ⟨_, h2, vs, h3, h4⟩ => simp [h3]
    | .lk (.dct kvs), ⟨h1, o, h2, h3⟩ =>
      unfold At at h2
      cases z : w.lk a with
      | none => rw [z] at h2; have h2 : H a = some o := h2; cases h3 <;> simp [h2]
      | some ob => rw [z] at h2; have h2 : H a = some (.frz ob.1 o) := h2; simp [h2]
    | .lk (.ins _ _), h => exact h.elim
    | .lk (.lk _), h => exact h.elim
  fz := fun a o e => by
    have e : (match w.fz a with | some o => some o | none => match H a with | some (.tup vs) => some (.tup vs) | _ => none) = some o := e
    cases z : w.fz a with
    | some u =>
      rw [z] at e; cases e
      exact (hr.fz a o z).mono Wd.all_le rfl
    | none =>
      rw [z] at e
      split at e
      · exfalso; rename_i h; cases h
      · split at e
        · rename_i vs hv
          cases e
          refine At.of hv ?_
          show w.lk a = none
          cases y : w.lk a with
          | none => rfl
          | some ob => have q := (hr.lkd a ob y).1; rw [hv] at q; cases q
        · cases e
  lkd := hr.lkd
  unl := hr.unl
  lkl := hr.lkl
  hld := hr.hld
  hsf := fun a o e => by
    have e : w.hd a = some o := e
    have q := hr.hld a o e
    have q2 := hr.hdt a o e
    show (match w.fz a with | some o => some o | none => match H a with | some (.tup vs) => some (.tup vs) | _ => none) = none
    rw [hr.hsf a o e, q]
    cases o <;> first | rfl | exact absurd rfl (q2 _)
  hdt := hr.hdt
  hsi := hr.hsi
  cur := hr.cur
  tab := fun P hP => by
    obtain ⟨a, b, ps, c, d⟩ := hr.tab P hP
    refine ⟨?_, b, ps, c, d⟩
    show (match w.fz P with | some o => some o | none => match H P with | some (.tup vs) => some (.tup vs) | _ => none) = none
    rw [a, c]
/-- the keys of a dict as a list -/
theorem RelK.keys : ∀ {kvs : List (Ky × D)} {ps : List (Key × V)}, RelK w kvs ps → RelDs w (kvs.map fun kv => dK kv.1) (ps.map fun p => kV p.1)
  | _, _, .nil => .nil
  | _, _, .cons e l _ s => .cons (dK_rel e l) (RelK.keys s)
theorem kyV_rel : ∀ {ks : List (Sum Int Tx)}, ks.all pLim = true → RelDs w (ks.map dP) ((ks.map pK).map kV)
  | [], _ => .nil
  | .inl i :: r, h => by
    simp only [List.all_cons, Bool.and_eq_true] at h
    exact .cons (.int i) (kyV_rel h.2)
  | .inr t :: r, h => by
    simp only [List.all_cons, Bool.and_eq_true] at h
    exact .cons (.str t (okTb_ok h.1)) (kyV_rel h.2)
theorem RelT.keys (hr : HR S w ro m H) : ∀ {kvs : List (Ky × D)} {ps : List (List Key × V)} {bs : List Addr}, RelT w kvs ps → IsKeys H ps bs → RelDs (w.all H) (kvs.map fun kv => dK kv.1) (bs.map V.ref)
  | _, _, _, .nil, k => by cases k; exact .nil
  | _, _, _, .cons (k := q) e l _ s, k => by
    cases k with
    | cons h t =>
      refine .cons ?_ (RelT.keys hr s t)
      cases q <;> simp [kT] at e
      subst e
      simp only [kLim, Bool.and_eq_true] at l
      exact .tup (by rw [List.length_map]; exact of_decide_eq_true l.1) (Wd.all_at hr h) (kyV_rel l.2)
theorem Nxt.mono {w' : Wd} {c : D} {Q : VK} (l : w.Le w') (h : Nxt S w ro m c Q) : Nxt S w' ro m c Q := fun w2 v H' l2 => h w2 v H' (l.trans l2)
def rBi (S : SE) (b : Bi) : List V → Hp → VK → Prop := fun xs H Q => ∃ w ro m ds c, HR S w ro m H ∧ RelDs w ds xs ∧ biV b (ds.map (rd ro m)) = some c ∧ Nxt S w ro m c Q
theorem RelDs.one {d : D} {xs : List V} (r : RelDs w [d] xs) : ∃ x, xs = [x] ∧ RelD w d x := by
  cases r with
  | cons a b => cases b; exact ⟨_, rfl, a⟩
theorem RelDs.two {d e : D} {xs : List V} (r : RelDs w [d, e] xs) : ∃ x y, xs = [x, y] ∧ RelD w d x ∧ RelD w e y := by
  cases r with
  | cons a b => obtain ⟨y, rfl, c⟩ := b.one; exact ⟨_, _, rfl, a, c⟩
theorem RelDs.three {d e f : D} {xs : List V} (r : RelDs w [d, e, f] xs) : ∃ x y z, xs = [x, y, z] ∧ RelD w d x ∧ RelD w e y ∧ RelD w f z := by
  cases r with
  | cons a b => obtain ⟨y, z, rfl, c, d⟩ := b.two; exact ⟨_, _, _, rfl, a, c, d⟩
theorem map1 {α β : Type} {f : α → β} {l : List α} {x : β} (h : l.map f = [x]) : ∃ a, l = [a] ∧ f a = x := by
  cases l with
  | nil => cases h
  | cons a r =>
    cases r with
    | nil => injection h with h1; exact ⟨a, rfl, h1⟩
    | cons b r => simp at h
theorem map2 {α β : Type} {f : α → β} {l : List α} {x y : β} (h : l.map f = [x, y]) : ∃ a b, l = [a, b] ∧ f a = x ∧ f b = y := by
  cases l with
  | nil => cases h
  | cons a r =>
    injection h with h1 h2
    obtain ⟨b, rfl, h3⟩ := map1 h2
    exact ⟨a, b, rfl, h1, h3⟩
theorem map3 {α β : Type} {f : α → β} {l : List α} {x y z : β} (h : l.map f = [x, y, z]) : ∃ a b c, l = [a, b, c] ∧ f a = x ∧ f b = y ∧ f c = z := by
  cases l with
  | nil => cases h
  | cons a r =>
    injection h with h1 h2
    obtain ⟨b, c, rfl, h3, h4⟩ := map2 h2
    exact ⟨a, b, c, rfl, h1, h3, h4⟩
theorem cr_len : CallR X (.builtin "len") (rBi S .len) := by
  intro pins s σ H xs us Q I r ⟨w, ro, m, ds, c, hr, rs, h, q⟩
  change lenL (List.map (rd ro m) ds) = some c at h
  unfold lenL at h
  split at h
  · rename_i d e
    obtain ⟨a, rfl, e2⟩ := map1 e
    clear e
    have e := e2
    clear e2
    obtain ⟨x, rfl, rx⟩ := rs.one
    have nx := rx.now hr
    rw [e] at nx
    unfold lenV at h
    split at h
    · rename_i t
      obtain ⟨rfl, ot⟩ := nx.strI
      cases h
      exact call_len pins s σ H _ us Q I r ⟨_, _, rfl, ⟨by rw [xS_len]; exact lim_le ot.1, rfl⟩, by rw [xS_len]; exact q.now hr (.int _)⟩
    · rename_i l
      obtain ⟨p, vs, rfl, hl, ha, rs⟩ := nx.lstI
      cases h
      exact call_len pins s σ H _ us Q I r ⟨_, _, rfl, .inl ⟨vs, SqL.of ha, rfl⟩, by rw [← RelDs.length rs]; exact q.now hr (.int _)⟩
    · rename_i l
      obtain ⟨p, vs, rfl, hl, ha, rs⟩ := nx.tupI
      cases h
      exact call_len pins s σ H _ us Q I r ⟨_, _, rfl, .inr ⟨vs, SqT.of ha, rfl⟩, by rw [← RelDs.length rs]; exact q.now hr (.int _)⟩
    · rename_i kvs
      obtain ⟨p, o, rfl, hl, ha, ro'⟩ := nx.dctI
      cases h
      obtain ⟨u, rfl, ru⟩ := vals1 r
      obtain rfl : u = Value.ref p := ru
      cases ro' with
      | k rk =>
        refine d_len I ha.rd fun t s' J => ⟨.int _, H, J, ⟨t, rfl⟩, ?_⟩
        rw [← RelK.length rk]
        exact q.now hr (.int _)
      | t rt =>
        obtain ⟨z, hd, ys, rel, dd⟩ := dt_rd I.hok ha.rd
        have hl' := Paired.length rel
        refine call_len_dictH hd dd (by rw [← hl']; rw [sizeLine_eq] at z; omega) ?_
        rw [← hl']
        refine ⟨.int _, H, I.tok _, ⟨_, rfl⟩, ?_⟩
        rw [← RelT.length rt]
        exact q.now hr (.int _)
    · rename_i is
      obtain ⟨p, rfl, hl, ha⟩ := nx.scrI
      cases h
      exact call_len pins s σ H _ us Q I r ⟨_, _, rfl, .inl ⟨_, .inl ha, rfl⟩, by rw [List.length_map]; exact q.now hr (.int _)⟩
    · cases h
  · cases h
theorem xS_S (t : Tx) : xS t = SX.S t := rfl
theorem okT_digs {n : Nat} (h : n < 10 ^ 200) : okT (digs n) := by
  refine ⟨?_, fun c hc => ?_⟩
  · have := TL.numL_len (n := n) (k := 200) (by decide) h
    show (TL.numL n).length ≤ 16777214
    omega
  · have := TL.numL_digits n c hc
    omega
theorem str_num {i : Int} (h : 0 ≤ i) : Str.ofString (toString i) = xS (intT i) := by
  obtain ⟨n, rfl⟩ := Int.eq_ofNat_of_zero_le h
  rw [xS_S]
  exact SX.num_S n
theorem log_ok {i : Int} (h0 : 0 ≤ i) (h : i < 10 ^ 200) : i.natAbs.log2 < 1920 := by
  have h2 : i.natAbs < 10 ^ 200 := by
    have : ((10 : Int) ^ 200) = ((10 ^ 200 : Nat) : Int) := by norm_cast
    rw [this] at h
    omega
  by_cases z : i.natAbs = 0
  · rw [z]; decide
  · exact (Nat.log2_lt z).mpr (Nat.lt_of_lt_of_le h2 (by decide +kernel))
theorem okT_int {i : Int} (h0 : 0 ≤ i) (h : i < 10 ^ 200) : okT (intT i) := by
  refine okT_digs ?_
  have : ((10 : Int) ^ 200) = ((10 ^ 200 : Nat) : Int) := by norm_cast
  rw [this] at h
  omega
theorem cr_int : CallR X (.type "int") (rBi S .int) := by
  intro pins s σ H xs us Q I r ⟨w, ro, m, ds, c, hr, rs, h, q⟩
  change intL (List.map (rd ro m) ds) = some c at h
  unfold intL at h
  split at h
  · rename_i i e
    obtain ⟨a, rfl, e2⟩ := map1 e
    clear e
    have e := e2
    clear e2
    obtain ⟨x, rfl, rx⟩ := rs.one
    have nx := rx.now hr
    rw [e] at nx
    obtain rfl := nx.intI
    cases h
    exact call_int1 pins s σ H _ us Q I r (.inl ⟨_, rfl, q.now hr (.int _)⟩)
  · rename_i i e
    obtain ⟨a, rfl, e2⟩ := map1 e
    clear e
    have e := e2
    clear e2
    obtain ⟨x, rfl, rx⟩ := rs.one
    have nx := rx.now hr
    rw [e] at nx
    obtain rfl := nx.blI
    cases h
    exact call_int1 pins s σ H _ us Q I r (.inr ⟨_, rfl, q.now hr (.int _)⟩)
  · rename_i t e
    obtain ⟨a, rfl, e2⟩ := map1 e
    clear e
    have e := e2
    clear e2
    obtain ⟨x, rfl, rx⟩ := rs.one
    have nx := rx.now hr
    rw [e] at nx
    obtain ⟨rfl, ot⟩ := nx.strI
    split at h
    · rename_i hc
      cases h
      exact call_int_str pins s σ H _ us Q I r ⟨_, _, rfl, SX.int_S hc.2.2 hc.1 (by have := hc.2.1; omega), by rw [xS_len]; exact hc.2.1, q.now hr (.int _)⟩
    · cases h
  · cases h
theorem cr_str : CallR X (.type "str") (rBi S .str) := by
  intro pins s σ H xs us Q I r ⟨w, ro, m, ds, c, hr, rs, h, q⟩
  change strL (List.map (rd ro m) ds) = some c at h
  unfold strL at h
  split at h
  · rename_i i e
    obtain ⟨a, rfl, e2⟩ := map1 e
    clear e
    have e := e2
    clear e2
    obtain ⟨x, rfl, rx⟩ := rs.one
    have nx := rx.now hr
    rw [e] at nx
    obtain rfl := nx.intI
    split at h
    · rename_i hc
      cases h
      refine call_str_int pins s σ H _ us Q I r ⟨_, rfl, log_ok hc.1 hc.2, ?_⟩
      have e2 : ((toString i : String) : Str) = xS (intT i) := str_num hc.1
      rw [e2]
      exact q.now hr (.str _ (okT_int hc.1 hc.2))
    · cases h
  · rename_i t e
    obtain ⟨a, rfl, e2⟩ := map1 e
    clear e
    have e := e2
    clear e2
    obtain ⟨x, rfl, rx⟩ := rs.one
    have nx := rx.now hr
    rw [e] at nx
    obtain ⟨rfl, ot⟩ := nx.strI
    cases h
    exact SkE.call_str_str pins s σ H _ us Q I r ⟨_, rfl, q.now hr (.str _ ot)⟩
  · cases h
theorem cr_list (hc : X.calm = true) : CallR X (.type "list") (rBi S .list) := by
  intro pins s σ H xs us Q I r ⟨w, ro, m, ds, c, hr, rs, h, q⟩
  change lstL (ds.map (rd ro m)) = some c at h
  unfold lstL at h
  split at h
  · rename_i l e
    obtain ⟨a, rfl, e2⟩ := map1 e
    obtain ⟨x, rfl, rx⟩ := rs.one
    have nx := rx.now hr
    rw [e2] at nx
    obtain ⟨p, vs, rfl, hl, ha, rr⟩ := nx.lstI
    cases h
    exact call_list_of pins s σ H _ us Q I r ⟨p, vs, rfl, .inl (SqL.of ha), q.lst hr rr hl⟩
  · rename_i l e
    obtain ⟨a, rfl, e2⟩ := map1 e
    obtain ⟨x, rfl, rx⟩ := rs.one
    have nx := rx.now hr
    rw [e2] at nx
    obtain ⟨p, vs, rfl, hl, ha, rr⟩ := nx.tupI
    cases h
    exact call_list_of pins s σ H _ us Q I r ⟨p, vs, rfl, .inr (SqT.of ha), q.lst hr rr hl⟩
  · rename_i kvs e
    obtain ⟨a, rfl, e2⟩ := map1 e
    obtain ⟨x, rfl, rx⟩ := rs.one
    have nx := rx.now hr
    rw [e2] at nx
    obtain ⟨p, o, rfl, hl, ha, rr⟩ := nx.dctI
    cases h
    cases rr with
    | k rk => exact call_listD hc pins s σ H _ us Q I r ⟨p, _, rfl, ha.rd, q.lst hr rk.keys (by rw [List.length_map]; exact hl)⟩
    | t rt =>
      exact call_list_dT hc pins s σ H _ us Q I r ⟨p, _, rfl, ha.rd, fun p' bs hp ik => (q.mono Wd.all_le).lst hr.all (rt.keys hr ik) (by rw [List.length_map]; exact hl) p' hp⟩
  · cases h
theorem cr_tuple : CallR X (.type "tuple") (rBi S .tuple) := by
  intro pins s σ H xs us Q I r ⟨w, ro, m, ds, c, hr, rs, h, q⟩
  change tupL (ds.map (rd ro m)) = some c at h
  unfold tupL at h
  split at h
  · rename_i l e
    obtain ⟨a, rfl, e2⟩ := map1 e
    obtain ⟨x, rfl, rx⟩ := rs.one
    have nx := rx.now hr
    rw [e2] at nx
    obtain ⟨p, vs, rfl, hl, ha, rr⟩ := nx.lstI
    cases h
    exact call_tuple_of pins s σ H _ us Q I r ⟨p, vs, rfl, .inl ⟨SqL.of ha, q.tup hr rr hl⟩⟩
  · rename_i l e
    obtain ⟨a, rfl, e2⟩ := map1 e
    obtain ⟨x, rfl, rx⟩ := rs.one
    have nx := rx.now hr
    rw [e2] at nx
    have ra := rd_tup e2
    subst ra
    obtain ⟨p, vs, rfl, hl, ha, rr⟩ := nx.tupI
    cases h
    exact call_tuple_of pins s σ H _ us Q I r ⟨p, vs, rfl, .inr ⟨SqT.of ha, q.now hr rx⟩⟩
  · cases h
theorem sorted_le {h : Sh} {ds : List D} (hd : ∀ e ∈ ds, shB e h = true) : ds.mergeSort (PySem.W.dataLe false pyD) = ds.mergeSort leB := by
  have e := List.map_mergeSort (r := PySem.W.dataLe false pyD) (s := leB) (f := id) (l := ds) (fun a ha b hb => by
    rw [PySem.W.dataLe_eq]
    show (!PySem.W.dataLt (pyD b) (pyD a)) = leB a b
    unfold leB
    rw [sh_lt b a h (hd b hb) (hd a ha)]
    cases PySem.W.dataLt (pyD b) (pyD a) <;> rfl)
  simpa using e
theorem eachV {ds : List D} {vs : List V} {us : List Value} (r : RelDs w ds vs) (v : Vals vs us) : PySem.W.EachIs (fun (u : Value) (b : D) => ∃ x, RelV x u ∧ RelD w b x) us ds := by
  induction v generalizing ds with
  | nil => cases r; exact .nil
  | cons h t ih => 
    cases r with
    | cons a b => exact .cons ⟨_, h, a⟩ (ih b)
theorem ofEach {ds : List D} {us : List Value} (h : PySem.W.EachIs (fun (u : Value) (b : D) => ∃ x, RelV x u ∧ RelD w b x) us ds) : ∃ vs, Vals vs us ∧ RelDs w ds vs := by
  induction h with
  | nil => exact ⟨[], .nil, .nil⟩
  | cons h _ ih =>
    obtain ⟨x, h1, h2⟩ := h
    obtain ⟨vs, h3, h4⟩ := ih
    exact ⟨x :: vs, .cons h1 h3, .cons h2 h4⟩
theorem sortOk_some {d : D} {r : List D} (h : sortOk (d :: r) = true) : ∃ sh, shNE sh = true ∧ shD sh ≤ 20 ∧ ∀ e ∈ d :: r, shB e sh = true := by
  have h : (match shO d with | some h => shNE h && decide (shD h ≤ 20) && (d :: r).all fun e => shB e h | none => false) = true := h
  cases e : shO d with
  | none => rw [e] at h; cases h
  | some sh =>
    rw [e] at h
    have h : (shNE sh && decide (shD sh ≤ 20) && (d :: r).all fun e => shB e sh) = true := h
    rw [Bool.and_eq_true, Bool.and_eq_true] at h
    exact ⟨sh, h.1.1, of_decide_eq_true h.1.2, List.all_eq_true.mp h.2⟩
/-- sorted(xs), xs of things of one shape -/
theorem sorted_run {ds : List D} {l : D} {p : Addr} {vs : List V} {pins : List (Addr × Obj)} {σ : L2.St} {s : Shared} {Q : VK} (hK : X.K = S.K) (hu : X.A.units + 40 < cLine) (I : Inv X pins σ H s) (hr : HR S w ro m H) (hl : ds.length ≤ LIM) (ha : H p = some (.lst vs)) (rr : RelDs w ds vs)
    (h : sortV ds = some l) (q : Nxt S w ro m l Q) : wpAny (model X.prog X.w) X.A (call (.builtin "sorted") [.ref p]) (EP X pins σ Q) X.xe s := by
  obtain ⟨its, rv, pl, hz⟩ := I.list (SqL.of ha)
  unfold sortV at h
  split at h
  · rename_i ok
    cases h
    cases ds with
    | nil =>
      cases rr; cases rv
      refine PySem.W.sorted_data (R := fun (u : Value) (b : D) => ∃ x, RelV x u ∧ RelD w b x) (vs := []) (bs := []) (enc := pyD) pl.isList .nil .nil (fun d hd => by cases hd) (.inr fun d hd => by cases hd) (Nat.zero_le _) (fun b hb => by cases hb) fun out ho eo => ?_
      obtain ⟨vs', h1, h2⟩ := ofEach eo
      rw [sorted_le (h := .i) (fun e he => by cases he)] at h2
      obtain ⟨e, he⟩ := sortedAll_at s.heap [] out.toArray
      refine ⟨.ref _, _, I.laid (t' := s.toks) (fun _ _ => sortedAll_old) (Nat.le_succ _) (o := .lst vs') ⟨?_, out, e, h1, he⟩, rfl, ?_⟩
      · rw [← RelDs.length h2, List.length_mergeSort]; exact Nat.zero_le _
      · exact q.lst hr h2 (by rw [List.length_mergeSort]; exact Nat.zero_le _) _ (I.hok.fresh (Nat.le_succ _))
    | cons d r =>
      obtain ⟨sh, k1, k2, k3⟩ := sortOk_some ok
      have each := eachV rr rv
      have rds : PySem.W.EachIs (fun (u : Value) (b : D) => ∃ as, Reads s.heap u (pyD b) as) its (d :: r) := (PySem.W.each_mem each).mono fun u b ⟨⟨x, h1, h2⟩, hb⟩ => Dp.reads I _ x u (by rw [hK]; exact sh_dp hr b x sh h2 (k3 b hb)) h1
      refine PySem.W.sorted_data (R := fun (u : Value) (b : D) => ∃ x, RelV x u ∧ RelD w b x) (bs := d :: r) (enc := pyD) pl.isList each rds (fun x hx y hy => ?_) ?_ (by rw [RelDs.length rr]; exact hz) (fun b hb => ?_) fun out ho eo => ?_
      · obtain ⟨b1, m1, rfl⟩ := List.mem_map.mp hx
        obtain ⟨b2, m2, rfl⟩ := List.mem_map.mp hy
        exact sh_alike b1 b2 sh (k3 _ m1) (k3 _ m2)
      · match sh, k1, k3 with
        | .i, _, k3 =>
          refine .inr fun x hx => ?_
          obtain ⟨b, m1, rfl⟩ := List.mem_map.mp hx
          have := k3 b m1
          cases b <;> simp [shB] at this
          exact ⟨by simp [pyD], by simp [pyD]⟩
        | .s, _, k3 =>
          refine .inr fun x hx => ?_
          obtain ⟨b, m1, rfl⟩ := List.mem_map.mp hx
          have := k3 b m1
          cases b <;> simp [shB] at this
          exact ⟨by simp [pyD], by simp [pyD]⟩
        | .t (h :: t), _, k3 =>
          refine .inl fun x hx => ?_
          obtain ⟨b, m1, rfl⟩ := List.mem_map.mp hx
          have := k3 b m1
          cases b <;> simp [shB] at this
          rename_i ds
          cases ds with
          | nil => simp [shBs] at this
          | cons a r => exact ⟨pyD a, pyDs r, by simp [pyD, pyDs]⟩
        | .t [], k1, _ => cases k1
      · have := sh_depth b sh (k3 b hb)
        omega
      · obtain ⟨vs', h1, h2⟩ := ofEach eo
        rw [sorted_le k3] at h2
        obtain ⟨e, he⟩ := sortedAll_at s.heap its out.toArray
        have hlen : ((d :: r).mergeSort leB).length ≤ LIM := by rw [List.length_mergeSort]; exact hl
        refine ⟨.ref _, _, I.laid (t' := s.toks) (fun _ _ => sortedAll_old) (Nat.le_succ _) (o := .lst vs') ⟨?_, out, e, h1, he⟩, rfl, ?_⟩
        · rw [← RelDs.length h2]; exact lim_le hlen
        · exact q.lst hr h2 hlen _ (I.hok.fresh (Nat.le_succ _))
  · cases h
end
end Av
end
section
set_option Elab.async false
set_option linter.all false
set_option maxRecDepth 100000
set_option autoImplicit false
set_option maxHeartbeats 4000000
namespace Av
open PySem PySem.Spec PyProof.Rows L2
theorem pre1 (c x : Nat) (r : List Nat) : TL.pre [c] (x :: r) = decide (x = c) := by
  unfold TL.pre
  by_cases h : x = c
  · subst h; simp
  · simp [h]
theorem span_par (c : Nat) : ∀ (t acc : Tx), TL.par [c] acc t = match spanT c t with
    | (a, some b) => some (acc ++ a, b)
    | (_, none) => none
  | [], acc => rfl
  | x :: r, acc => by
    by_cases h : x = c
    · rw [TL.par_hit (by rw [pre1]; simp [h])]
      simp [spanT, h]
    · rw [TL.par_miss (by rw [pre1]; simp [h]), span_par c r]
      simp only [spanT, if_neg h]
      rcases spanT c r with ⟨a, _ | b⟩
      · rfl
      · simp
theorem spanT_mem (c : Nat) : ∀ (t : Tx), (∀ x ∈ (spanT c t).1, x ∈ t) ∧ (spanT c t).1.length ≤ t.length ∧ ∀ b, (spanT c t).2 = some b → (∀ x ∈ b, x ∈ t) ∧ b.length ≤ t.length
  | [] => ⟨fun _ h => by simp [spanT] at h, Nat.le_refl _, fun b h => by simp [spanT] at h⟩
  | x :: r => by
    obtain ⟨h1, h2, h3⟩ := spanT_mem c r
    by_cases h : x = c
    · simp only [spanT, if_pos h]
      refine ⟨fun _ h => by simp at h, by simp, fun b hb => ?_⟩
      cases hb
      exact ⟨fun y hy => List.mem_cons_of_mem _ hy, Nat.le_succ _⟩
    · simp only [spanT, if_neg h]
      refine ⟨fun y hy => ?_, by simpa using h2, fun b hb => ?_⟩
      · rcases List.mem_cons.mp hy with rfl | hy
        · exact List.mem_cons_self
        · exact List.mem_cons_of_mem _ (h1 y hy)
      · obtain ⟨h4, h5⟩ := h3 b hb
        exact ⟨fun y hy => List.mem_cons_of_mem _ (h4 y hy), Nat.le_succ_of_le h5⟩
theorem spanT_none (c : Nat) : ∀ (t : Tx), (spanT c t).2 = none → (spanT c t).1 = t
  | [], _ => rfl
  | x :: r, h => by
    by_cases e : x = c
    · simp only [spanT, if_pos e] at h; cases h
    · simp only [spanT, if_neg e] at h ⊢
      rw [spanT_none c r h]
theorem split_spl (c : Nat) : ∀ (t acc : Tx), ∃ p ps, splitT c t = p :: ps ∧ TL.spl [c] 0 acc t = (acc ++ p) :: ps
  | [], acc => ⟨[], [], rfl, by simp [TL.spl]⟩
  | x :: r, acc => by
    by_cases h : x = c
    · obtain ⟨p, ps, e1, e2⟩ := split_spl c r []
      refine ⟨[], p :: ps, by simp [splitT, h, e1], ?_⟩
      rw [TL.spl_hit (by rw [pre1]; simp [h])]
      show acc :: TL.spl [c] 0 [] r = _
      rw [e2]; simp
    · obtain ⟨p, ps, e1, e2⟩ := split_spl c r (acc ++ [x])
      refine ⟨x :: p, ps, by simp [splitT, h, e1], ?_⟩
      rw [TL.spl_miss (by rw [pre1]; simp [h]), e2]
      simp
theorem splitT_mem (c : Nat) : ∀ (t : Tx), (splitT c t).length ≤ t.length + 1 ∧ ∀ p ∈ splitT c t, (∀ x ∈ p, x ∈ t) ∧ p.length ≤ t.length
  | [] => ⟨by simp [splitT], fun p h => by simp [splitT] at h; subst h; simp⟩
  | x :: r => by
    obtain ⟨h1, h2⟩ := splitT_mem c r
    by_cases h : x = c
    · simp only [splitT, if_pos h]
      refine ⟨by simpa using h1, fun p hp => ?_⟩
      rcases List.mem_cons.mp hp with rfl | hp
      · exact ⟨fun _ h => by simp at h, by simp⟩
      · obtain ⟨h3, h4⟩ := h2 p hp
        exact ⟨fun y hy => List.mem_cons_of_mem _ (h3 y hy), Nat.le_succ_of_le h4⟩
    · simp only [splitT, if_neg h]
      obtain ⟨p, ps, e, _⟩ := split_spl c r []
      rw [e] at h1 h2 ⊢
      refine ⟨by simp at h1 ⊢; omega, fun q hq => ?_⟩
      rcases List.mem_cons.mp hq with rfl | hq
      · obtain ⟨h3, h4⟩ := h2 p List.mem_cons_self
        refine ⟨fun y hy => ?_, by simp; omega⟩
        rcases List.mem_cons.mp hy with rfl | hy
        · exact List.mem_cons_self
        · exact List.mem_cons_of_mem _ (h3 y hy)
      · obtain ⟨h3, h4⟩ := h2 q (List.mem_cons_of_mem _ hq)
        exact ⟨fun y hy => List.mem_cons_of_mem _ (h3 y hy), Nat.le_succ_of_le h4⟩
theorem joinT_L (s : Tx) : ∀ ts : List Tx, joinT s ts = TL.joinL s ts
  | [] => rfl
  | [a] => rfl
  | a :: b :: r => by
    show a ++ s ++ joinT s (b :: r) = a ++ (s ++ TL.joinL s (b :: r))
    rw [joinT_L s (b :: r), List.append_assoc]
theorem joinT_mem (s : Tx) (p : Nat → Prop) (hs : ∀ c ∈ s, p c) : ∀ ts : List Tx, (∀ t ∈ ts, ∀ c ∈ t, p c) → ∀ c ∈ joinT s ts, p c
  | [], _, c, h => by simp [joinT] at h
  | [a], h, c, hc => h a List.mem_cons_self c hc
  | a :: b :: r, h, c, hc => by
    have hc : c ∈ a ++ s ++ joinT s (b :: r) := hc
    rcases List.mem_append.mp hc with hc | hc
    · rcases List.mem_append.mp hc with hc | hc
      · exact h a List.mem_cons_self c hc
      · exact hs c hc
    · exact joinT_mem s p hs (b :: r) (fun t ht => h t (List.mem_cons_of_mem _ ht)) c hc
theorem joinT_len (s : Tx) : ∀ ts : List Tx, (joinT s ts).length ≤ (ts.map (·.length)).sum + ts.length * s.length
  | [] => by simp [joinT]
  | [a] => by simp [joinT]
  | a :: b :: r => by
    have ih := joinT_len s (b :: r)
    show (a ++ s ++ joinT s (b :: r)).length ≤ _
    rw [List.length_append, List.length_append]
    simp only [List.map_cons, List.sum_cons, List.length_cons] at ih ⊢
    have : (r.length + 1 + 1) * s.length = s.length + (r.length + 1) * s.length := by rw [Nat.add_mul (r.length + 1) 1, Nat.one_mul, Nat.add_comm]
    rw [this]
    omega
section
variable {S : SE} {X : Cx} {w : Wd} {ro m : Mem} {H : Hp}
theorem RelDs.strs {t0 : Tx} : ∀ {ts : List Tx}, (∀ t ∈ ts, okT t) → RelDs w (ts.map .str) ((ts.map xS).map V.str)
  | [], _ => .nil
  | t :: r, h => .cons (.str t (h t List.mem_cons_self)) (RelDs.strs (t0 := t0) fun u hu => h u (List.mem_cons_of_mem _ hu))
theorem RelDs.ofStrs : ∀ {ds : List D} {vs : List V} {ts : List Tx}, RelDs w ds vs → strsOf ds = some ts → vs = (ts.map xS).map V.str ∧ ∀ t ∈ ts, okT t
  | [], _, _, r, h => by cases r; cases h; exact ⟨rfl, fun _ h => by simp at h⟩
  | .str t :: ds, _, ts, r, h => by
    cases r with
    | cons r1 r2 =>
      simp only [strsOf, Option.map_eq_some_iff] at h
      obtain ⟨us, h, rfl⟩ := h
      obtain ⟨e, k⟩ := RelDs.ofStrs r2 h
      obtain ⟨rfl, o⟩ := r1.strI
      refine ⟨by rw [e]; rfl, fun u hu => ?_⟩
      rcases List.mem_cons.mp hu with rfl | hu
      · exact o
      · exact k u hu
  | .non :: _, _, _, _, h => by simp [strsOf] at h
  | .bl _ :: _, _, _, _, h => by simp [strsOf] at h
  | .int _ :: _, _, _, _, h => by simp [strsOf] at h
  | .tup _ :: _, _, _, _, h => by simp [strsOf] at h
  | .lst _ :: _, _, _, _, h => by simp [strsOf] at h
  | .dct _ :: _, _, _, _, h => by simp [strsOf] at h
  | .ref _ :: _, _, _, _, h => by simp [strsOf] at h
  | .exn _ _ :: _, _, _, _, h => by simp [strsOf] at h
  | .scr _ :: _, _, _, _, h => by simp [strsOf] at h
def rBm (S : SE) (b : Bm) : V → List V → Hp → VK → Prop := fun x xs H Q => ∃ w ro m a ds c, HR S w ro m H ∧ RelD w a x ∧ RelDs w ds xs ∧ bmV b (rd ro m a) (bmA b ro m ds) = some c ∧ Nxt S w ro m c Q
theorem mt_par : MtR X "str.partition" (rBm S .partition) := by
  intro pins s σ H x xs v us Q I rx rxs ⟨w, ro, m, a, ds, c, hr, ra, rs, h, q⟩
  have na := ra.now hr
  change parM (rd ro m a) (ds.map (rd ro m)) = some c at h
  unfold parM at h
  split at h
  · rename_i t ch e1 e2
    cases h
    rw [e1] at na
    obtain ⟨d, rfl, e3⟩ := map1 e2
    obtain ⟨y, rfl, ry⟩ := rs.one
    have ny := ry.now hr
    rw [e3] at ny
    obtain ⟨rfl, ot⟩ := na.strI
    obtain ⟨rfl, oc⟩ := ny.strI
    obtain ⟨k1, k2, k3⟩ := spanT_mem ch t
    refine mt_partition pins s σ H _ _ v us Q I rx rxs ⟨_, _, rfl, rfl, rfl, by rw [xS_len]; exact lim_le ot.1, fun p hp => ?_⟩
    have pp := span_par ch t []
    unfold partT at q
    cases e : spanT ch t with
    | mk u o =>
      rw [e] at pp q k1 k2 k3
      cases o with
      | none =>
        have pp : TL.par [ch] [] t = none := pp
        rw [xS_S, xS_S, SX.partition_none (by simp) pp]
        have et : u = t := by
          have := spanT_none ch t (by rw [e])
          rw [e] at this
          exact this
        subst et
        exact q.tup hr (.cons (.str _ ot) (.cons (.str [] ⟨Nat.zero_le _, fun _ h => by simp at h⟩) (.cons (.str [] ⟨Nat.zero_le _, fun _ h => by simp at h⟩) .nil))) (by show 3 ≤ 16777214; omega) p hp
      | some b =>
        obtain ⟨k4, k5⟩ := k3 b rfl
        have pp : TL.par [ch] [] t = some ([] ++ u, b) := pp
        rw [xS_S, xS_S, SX.partition_some (by simp) pp]
        exact q.tup hr (.cons (.str _ (okT_sub ot k2 k1)) (.cons (.str _ oc) (.cons (.str _ (okT_sub ot k5 k4)) .nil))) (by show 3 ≤ 16777214; omega) p hp
  · cases h
theorem mt_spl : MtR X "str.split" (rBm S .split) := by
  intro pins s σ H x xs v us Q I rx rxs ⟨w, ro, m, a, ds, c, hr, ra, rs, h, q⟩
  have na := ra.now hr
  change splM (rd ro m a) (ds.map (rd ro m)) = some c at h
  unfold splM at h
  split at h
  · rename_i t ch e1 e2
    split at h
    · rename_i hl
      cases h
      rw [e1] at na
      obtain ⟨d, rfl, e3⟩ := map1 e2
      obtain ⟨y, rfl, ry⟩ := rs.one
      have ny := ry.now hr
      rw [e3] at ny
      obtain ⟨rfl, ot⟩ := na.strI
      obtain ⟨rfl, oc⟩ := ny.strI
      obtain ⟨k1, k2⟩ := splitT_mem ch t
      have h256 := hl.2
      have hl := hl.1
      · refine mt_split pins s σ H _ _ v us Q I rx rxs ⟨_, _, rfl, rfl, rfl, by rw [xS_len]; have := lim_line; omega, ?_⟩
        obtain ⟨p, ps, e4, e5⟩ := split_spl ch t []
        rw [xS_S, xS_S, SX.split_S (by simp) (by simp [h256]), e5, List.nil_append, ← e4]
        refine q.lst hr (RelDs.strs (t0 := t) fun u hu => okT_sub ot (k2 u hu).2 (k2 u hu).1) ?_
        rw [List.length_map]
        omega
    · cases h
  · cases h
theorem mt_joi : MtR X "str.join" (rBm S .join) := by
  intro pins s σ H x xs v us Q I rx rxs ⟨w, ro, m, a, ds, c, hr, ra, rs, h, q⟩
  have na := ra.now hr
  have go : ∀ (t : Tx) (l : List D) (vs : List V) (p : Addr), rd ro m a = .str t → RelDs w l vs → joiV t l = some c → (SqL X.K H p vs ∨ SqT X.K H p vs) → xs = [V.ref p] → wpAny (model X.prog X.w) X.A (call (.builtin "str.join") (v :: us)) (EP X pins σ Q) X.xe s := by
    intro t l vs p e1 rl h hp ex
    rw [e1] at na
    obtain ⟨rfl, ot⟩ := na.strI
    unfold joiV at h
    split at h
    · rename_i ts hts
      split at h
      · rename_i hl
        cases h
        obtain ⟨rfl, ok⟩ := rl.ofStrs hts
        have lens : (ts.map xS).map (·.length) = ts.map (·.length) := by
          rw [List.map_map]
          exact List.map_congr_left fun u _ => xS_len u
        refine mt_join pins s σ H _ _ v us Q I rx rxs ⟨_, p, ts.map xS, rfl, ex, hp, ?_, ?_⟩
        · rw [lens, List.length_map, xS_len]
          have := lim_line
          have e : LIM = 16777214 := rfl
          omega
        · have e : Txt.join (xS t) (ts.map xS) = xS (joinT t ts) := by
            rw [joinT_L]
            exact SX.join_S t ts
          rw [e]
          exact q.now hr (.str _ ⟨Nat.le_trans (joinT_len t ts) hl, joinT_mem t _ ot.2 ts fun u hu => (ok u hu).2⟩)
      · cases h
    · cases h
  change joiM (rd ro m a) (ds.map (rd ro m)) = some c at h
  unfold joiM at h
  split at h
  · rename_i t l e1 e2
    obtain ⟨d, rfl, e3⟩ := map1 e2
    obtain ⟨y, rfl, ry⟩ := rs.one
    have ny := ry.now hr
    rw [e3] at ny
    obtain ⟨p, vs, rfl, hl, ha, rl⟩ := ny.lstI
    exact go t l vs p e1 rl h (.inl (SqL.of ha)) rfl
  · rename_i t l e1 e2
    obtain ⟨d, rfl, e3⟩ := map1 e2
    obtain ⟨y, rfl, ry⟩ := rs.one
    have ny := ry.now hr
    rw [e3] at ny
    obtain ⟨p, vs, rfl, hl, ha, rl⟩ := ny.tupI
    exact go t l vs p e1 rl h (.inr (SqT.of ha)) rfl
  · cases h
theorem starts_pre (t u : Tx) : Txt.startswith (xS t) (xS u) = u.isPrefixOf t := by
  unfold Txt.startswith
  rw [PySem.StrLaws.subAt_eq, xS_len, xS_len, xS_tl, xS_tl, List.drop_zero, Nat.zero_add]
  by_cases h : u.isPrefixOf t = true
  · rw [h]
    obtain ⟨r, rfl⟩ := List.isPrefixOf_iff_prefix.mp h
    simp
  · rw [Bool.not_eq_true] at h
    rw [h]
    have h2 : (List.take u.length t == u) = false := by
      rw [beq_eq_false_iff_ne]
      intro e
      have : u.isPrefixOf t = true := List.isPrefixOf_iff_prefix.mpr ⟨t.drop u.length, by
        have := List.take_append_drop u.length t
        rw [e] at this
        exact this⟩
      rw [h] at this; cases this
    rw [h2, Bool.and_false]
theorem mt_sta : MtR X "str.startswith" (rBm S .startswith) := by
  intro pins s σ H x xs v us Q I rx rxs ⟨w, ro, m, a, ds, c, hr, ra, rs, h, q⟩
  have na := ra.now hr
  change staM (rd ro m a) (ds.map (rd ro m)) = some c at h
  unfold staM at h
  split at h
  · rename_i t u e1 e2
    cases h
    rw [e1] at na
    obtain ⟨d, rfl, e3⟩ := map1 e2
    obtain ⟨y, rfl, ry⟩ := rs.one
    have ny := ry.now hr
    rw [e3] at ny
    obtain ⟨rfl, ot⟩ := na.strI
    obtain ⟨rfl, oc⟩ := ny.strI
    exact mt_startswith pins s σ H _ _ v us Q I rx rxs ⟨_, _, rfl, rfl, by rw [starts_pre]; exact q.now hr (.bl _)⟩
  · cases h
theorem spanT_eq (c : Nat) : ∀ (t : Tx), (∀ b, (spanT c t).2 = some b → t = (spanT c t).1 ++ c :: b) ∧ c ∉ (spanT c t).1
  | [] => ⟨fun b h => by simp [spanT] at h, by simp [spanT]⟩
  | x :: r => by
    obtain ⟨h1, h2⟩ := spanT_eq c r
    by_cases h : x = c
    · simp only [spanT, if_pos h]
      refine ⟨fun b hb => ?_, by simp⟩
      cases hb; rw [h]; rfl
    · simp only [spanT, if_neg h]
      refine ⟨fun b hb => ?_, ?_⟩
      · rw [List.cons_append, ← h1 b hb]
      · intro hm
        rcases List.mem_cons.mp hm with e | e
        · exact h e.symm
        · exact h2 e
theorem find_T (c : Nat) (t : Tx) : Txt.find (xS t) (xS [c]) = findT c t := by
  rw [find_is_find3]
  have sp := PySem.StrLaws.find3_spec (xS t) c 0
  have e0 : fromIndex (xS t).length 0 = 0 := by simp [fromIndex]
  have gd : ∀ v, (xS t).cps.getD v 0 = t.getD v 0 := fun v => by simp [xS, Array.getD, List.getD]; split <;> simp_all
  rw [e0] at sp
  obtain ⟨h1, h2⟩ := spanT_eq c t
  have h3 := spanT_none c t
  unfold findT
  cases e : spanT c t with
  | mk a o =>
    rw [e] at h1 h2 h3
    cases o with
    | none =>
      have h3 : a = t := h3 rfl
      have h2 : c ∉ a := h2
      rcases sp with ⟨q, _⟩ | ⟨k, q, _, hk, hg, _⟩
      · exact q
      · rw [gd, xS_len] at *
        exfalso
        refine h2 ?_
        rw [h3, ← hg]
        rw [List.getD_eq_getElem?_getD, List.getElem?_eq_getElem hk]
        exact List.getElem_mem hk
    | some b =>
      have ht : t = a ++ c :: b := h1 b rfl
      have h2 : c ∉ a := h2
      have hal : a.length < t.length := by rw [ht]; simp
      have hat : t.getD a.length 0 = c := by rw [ht, List.getD_eq_getElem?_getD]; simp
      rcases sp with ⟨_, q⟩ | ⟨k, q, _, hk, hg, hn⟩
      · exact absurd (by rw [gd]; exact hat) (q a.length (Nat.zero_le _) (by rw [xS_len]; exact hal))
      · show _ = (a.length : Int)
        have : k = a.length := by
          rcases Nat.lt_trichotomy k a.length with h | h | h
          · exfalso
            rw [gd] at hg
            refine h2 ?_
            rw [← hg, ht, List.getD_eq_getElem?_getD, List.getElem?_append_left h, List.getElem?_eq_getElem h]
            exact List.getElem_mem h
          · exact h
          · exact absurd (by rw [gd]; exact hat) (hn a.length (Nat.zero_le _) h)
        rw [← this]
        exact q
theorem mt_fin : MtR X "str.find" (rBm S .find) := by
  intro pins s σ H x xs v us Q I rx rxs ⟨w, ro, m, a, ds, c, hr, ra, rs, h, q⟩
  have na := ra.now hr
  change finM (rd ro m a) (ds.map (rd ro m)) = some c at h
  unfold finM at h
  split at h
  · rename_i t u e1 e2
    cases h
    rw [e1] at na
    obtain ⟨d, rfl, e3⟩ := map1 e2
    obtain ⟨y, rfl, ry⟩ := rs.one
    have ny := ry.now hr
    rw [e3] at ny
    obtain ⟨rfl, ot⟩ := na.strI
    obtain ⟨rfl, oc⟩ := ny.strI
    exact mt_find pins s σ H _ _ v us Q I rx rxs ⟨_, _, rfl, rfl, by rw [find_T]; exact q.now hr (.int _)⟩
  · cases h
theorem mt_get (hu : X.A.units + 1 < cLine) : MtR X "dict.get" (rBm S .get) := by
  intro pins s σ H x xs v us Q I rx rxs ⟨w, ro, m, a, ds, c, hr, ra, rs, h, q⟩
  have na := ra.now hr
  change getM (rd ro m a) ds = some c at h
  unfold getM at h
  split at h
  · rename_i kvs e
    rw [e] at na
    split at h
    · rename_i kd
      obtain ⟨y, rfl, ry⟩ := rs.one
      rw [Option.bind_eq_some_iff] at h
      obtain ⟨k, hk, h⟩ := h
      split at h
      · rename_i hkk
        cases h
        obtain ⟨H2, p, o, rfl, I2, g, ov, back⟩ := dgetG hr I na ry hk hkk
        cases (show v = Value.ref p from rx)
        obtain ⟨u, rfl, ru⟩ := rxs.one
        refine d_get1 hu I2 g ru fun w' s' J rw' => ⟨o.getD .non, H, back s' J, rw', q.now hr ?_⟩
        cases o with
        | none => cases e2 : getK kvs k with
          | none => exact .non
          | some d => rw [e2] at ov; exact ov.elim
        | some z => cases e2 : getK kvs k with
          | none => rw [e2] at ov; exact ov.elim
          | some d => rw [e2] at ov; exact ov
      · cases h
    · rename_i kd dd
      obtain ⟨y, z, rfl, ry, rz⟩ := rs.two
      rw [Option.bind_eq_some_iff] at h
      obtain ⟨k, hk, h⟩ := h
      split at h
      · rename_i hkk
        cases h
        obtain ⟨H2, p, o, rfl, I2, g, ov, back⟩ := dgetG hr I na ry hk hkk
        cases (show v = Value.ref p from rx)
        obtain ⟨u, u2, rfl, ru, ru2⟩ := rxs.two
        refine d_get2 hu I2 g ru ru2 fun w' s' J rw' => ⟨o.getD z, H, back s' J, rw', q.now hr ?_⟩
        cases o with
        | none => cases e2 : getK kvs k with
          | none => exact rz
          | some d => rw [e2] at ov; exact ov.elim
        | some z => cases e2 : getK kvs k with
          | none => rw [e2] at ov; exact ov.elim
          | some d => rw [e2] at ov; exact ov
      · cases h
    · cases h
  · cases h
end
end Av
end
section
set_option Elab.async false
set_option linter.all false
set_option maxRecDepth 100000
set_option autoImplicit false
set_option maxHeartbeats 4000000
namespace Av
open PySem PySem.Spec PyProof.Rows L2
section
variable {S : SE} {X : Cx} {w : Wd} {ro m : Mem} {H : Hp}
def rBc (S : SE) (b : Bc) : V → List V → Hp → VK → Prop := fun x xs H Q => ∃ w ro m n ds ob ob' d m', HR S w ro m H ∧ RelD w (.ref n) x ∧ RelDs w ds xs ∧ memGet ro m n = some ob ∧ bcV b ob (bcA b ro m ds) = some (ob', d) ∧ memSet ro m n ob' = some m' ∧
  ∀ w' v H', w.Le w' → HR S w' ro m' H' → RelD w' d v → Q v H'
theorem mt_app : MtR X "list.append" (rBc S .append) := by
  intro pins s σ H x xs v us Q I rx rxs ⟨w, ro, m, n, ds, ob, ob', d, m', hr, ra, rs, hg, h, hs, q⟩
  obtain ⟨a, rfl, ha⟩ := ra.refI
  change appC ob ds = some (ob', d) at h
  unfold appC at h
  split at h
  · rename_i l e
    split at h
    · rename_i hl
      cases h
      obtain ⟨y, rfl, ry⟩ := rs.one
      obtain ⟨k1, k2, vs, k3, k4⟩ := hr.ob hg ha
      refine mt_append pins s σ H _ _ v us Q I rx rxs ⟨a, vs, y, rfl, rfl, k3, by rw [← RelDs.length k4]; exact lim_lt (Nat.le_of_lt hl), q w .non _ (.refl w) (hr.set hg (by intro o z; cases z) (by intro o z; cases z) hs ha k1 ⟨k1, ?_, _, upd_same, k4.append (.cons ry .nil)⟩) .non⟩
      rw [List.length_append, List.length_singleton]; exact hl
    · cases h
  · cases h
theorem mt_ext : MtR X "list.extend" (rBc S .extend) := by
  intro pins s σ H x xs v us Q I rx rxs ⟨w, ro, m, n, ds, ob, ob', d, m', hr, ra, rs, hg, h, hs, q⟩
  obtain ⟨a, rfl, ha⟩ := ra.refI
  change extC ob (ds.map (rd ro m)) = some (ob', d) at h
  unfold extC at h
  split at h
  · rename_i l r e
    split at h
    · rename_i hl
      cases h
      obtain ⟨dd, rfl, e2⟩ := map1 e
      obtain ⟨y, rfl, ry⟩ := rs.one
      have ny := ry.now hr
      rw [e2] at ny
      obtain ⟨b, zs, rfl, _, hb, rz⟩ := ny.lstI
      obtain ⟨k1, k2, vs, k3, k4⟩ := hr.ob hg ha
      refine mt_extend pins s σ H _ _ v us Q I rx rxs ⟨a, b, vs, zs, rfl, rfl, k3, hb, by rw [← RelDs.length k4, ← RelDs.length rz]; exact lim_le hl, q w .non _ (.refl w) (hr.set hg (by intro o z; cases z) (by intro o z; cases z) hs ha k1 ⟨k1, ?_, _, upd_same, k4.append rz⟩) .non⟩
      rw [List.length_append]; exact hl
    · cases h
  · cases h
theorem RelDs.dropLast : ∀ {ds : List D} {vs : List V}, RelDs w ds vs → RelDs w ds.dropLast vs.dropLast
  | _, _, .nil => .nil
  | _, _, .cons r .nil => .nil
  | _, _, .cons r (.cons a b) => .cons r (RelDs.dropLast (.cons a b))
theorem mt_popL : MtR X "list.pop" (rBc S .pop) := by
  intro pins s σ H x xs v us Q I rx rxs ⟨w, ro, m, n, ds, ob, ob', d, m', hr, ra, rs, hg, h, hs, q⟩
  obtain ⟨a, rfl, ha⟩ := ra.refI
  change popC ob ds = some (ob', d) at h
  unfold popC at h
  split at h
  · rename_i l
    obtain ⟨k1, k2, vs, k3, k4⟩ := hr.ob hg ha
    split at h
    · cases rs
      split at h
      · rename_i d' e
        cases h
        rw [List.getLast?_eq_getElem?] at e
        obtain ⟨y, hy, ry⟩ := k4.get e
        rw [RelDs.length k4] at hy
        refine mt_pop pins s σ H _ _ v us Q I rx rxs ⟨a, vs, y, rfl, rfl, k3, hy, q w y _ (.refl w) (hr.set hg (by intro o z; cases z) (by intro o z; cases z) hs ha k1 ⟨k1, ?_, _, upd_same, k4.dropLast⟩) ry⟩
        rw [List.length_dropLast]; omega
      · cases h
    · rename_i i
      obtain ⟨y0, rfl, ry0⟩ := rs.one
      obtain rfl := ry0.intI
      split at h
      · rename_i k hk
        split at h
        · rename_i d' e
          cases h
          obtain ⟨y, hy, ry⟩ := k4.get e
          rw [RelDs.length k4, ixD_N] at hk
          obtain ⟨h1, h2, h3, h4⟩ := ixN_seq hk
          have hL := RelDs.length k4
          have e : LIM = 16777214 := rfl
          refine mt_popAt pins s σ H _ _ v us Q I rx rxs ⟨a, vs, i, k, y, rfl, rfl, k3, by omega, by omega, h1, hy, q w y _ (.refl w) (hr.set hg (by intro o z; cases z) (by intro o z; cases z) hs ha k1 ⟨k1, ?_, _, upd_same, k4.erase k⟩) ry⟩
          have := len_erase l k
          omega
        · cases h
      · cases h
    · cases h
  · cases h
end
end Av
end
section
set_option Elab.async false
set_option linter.all false
set_option maxRecDepth 100000
set_option autoImplicit false
set_option maxHeartbeats 4000000
namespace Av
open PySem PySem.Spec PyProof.Rows L2
structure XG0 (S : SE) (X : Cx) : Prop where
  K : X.K = S.K
  un : X.A.units + 150 < cLine
  nd : X.N.Nodup
/-- .. where no exception is in hand -/
structure XG (S : SE) (X : Cx) : Prop extends XG0 S X where
  calm : X.calm = true
  cur : S.cur = none
abbrev xE (S : SE) (E : ED) (W : WX) (P : Pm) (ro : Mem) (e : CE) : TE := gE S E W ro (ev P ro e)
abbrev xT (S : SE) (E : ED) (W : WX) (P : Pm) (ro : Mem) (e : CT) : TT := gT S E W ro (evT P ro e)
abbrev xA (S : SE) (E : ED) (W : WX) (P : Pm) (ro : Mem) (e : List CE) : TA := gA S E W ro (evs P ro e)
section
variable {S : SE} {E : ED} {W : WX} {P : Pm} {ro : Mem} {X : Cx} {a b c : Expr} {ca cb cc : CE} {pos : Pos}
theorem imE {e : Expr} {t t' : TE} (h : PE X e t) (i : ∀ σ H Q, t' σ H Q → t σ H Q) : PE X e t' := PE.imp h i
theorem imT {e : Expr} {t t' : TT} (h : PT X e t) (i : ∀ σ H Q, t' σ H Q → t σ H Q) : PT X e t' := PT.imp h i
theorem imA {e : List Expr} {t t' : TA} (h : PA X e t) (i : ∀ σ H Q, t' σ H Q → t σ H Q) : PA X e t' := PA.imp h i
theorem l_const {e : Expr} {d : D} {v : V} (h : PE X e (tC v)) (r : ∀ w, RelD w d v) : PE X e (xE S E W P ro (.cst d)) :=
  imE h fun σ H Q ⟨w, σ', m, sr, hr, f⟩ => by
    rw [ev] at f
    exact f.ok hr (r w)
theorem l_int {i : Int} {j : Nat} : PE X (.Constant (.int i) j pos) (xE S E W P ro (.cst (.int i))) := l_const pe_int fun _ => .int i
theorem l_bl {i : Bool} {j : Nat} : PE X (.Constant (.bool i) j pos) (xE S E W P ro (.cst (.bl i))) := l_const pe_bl fun _ => .bl i
theorem l_non {j : Nat} : PE X (.Constant .none j pos) (xE S E W P ro (.cst .non)) := l_const pe_non fun _ => .non
theorem l_str {t : Tx} {j : Nat} (h : okTb t = true) : PE X (.Constant (.str (xS t)) j pos) (xE S E W P ro (.cst (.str t))) := l_const pe_str fun _ => .str t (okTb_ok h)
theorem l_glob {x : Str} {d : D} {v : V} {u : Value} (hg : Gl X x) (hm : X.mg x = some u) (rv : RelV v u) (r : ∀ w, RelD w d v) (hd : (x == ("__debug__" : Str)) = false) : PE X (.Name x pos) (xE S E W P ro (.cst d)) := l_const (pe_glob hg hm rv hd) r
theorem l_var {i : Nat} {x : Str} (hN : X.N[i]? = some x) (hv : Vis X.env.scope x) (hd : (x == ("__debug__" : Str)) = false) (hcd : (x == ("__classdict__" : Str)) = false) : PE X (.Name x pos) (xE S E W P ro (.var i)) :=
  imE (pe_var hN hv hd hcd) fun σ H Q ⟨w, σ', m, sr, hr, f⟩ => by
    rw [ev] at f
    split at f
    · rename_i d e
      obtain ⟨v, h1, h2⟩ := sr.get i d e
      exact ⟨v, h1, f.ok hr h2⟩
    · exact f.elim
theorem l_bin {op : BO} (G : XG0 S X) (ha : PE X a (xE S E W P ro ca)) (hb : PE X b (xE S E W P ro cb)) : PE X (.BinOp a (boOp op) b pos) (xE S E W P ro (.bin op ca cb)) :=
  imE (pe_op (op_bin G.K op) ha hb) fun σ H Q ⟨w, σ', m, sr, hr, f⟩ => by
    rw [ev] at f
    refine gE.bind sr hr f fun x m1 w1 v H1 l1 sr1 hr1 r1 f1 => gE.bind sr1 hr1 f1 fun y m2 w2 u H2 l2 sr2 hr2 r2 f2 => ?_
    cases h : binV op (rd ro m2 x) (rd ro m2 y) with
    | none => rw [h] at f2; exact f2.elim
    | some d =>
      rw [h] at f2
      exact ⟨w2, ro, m2, x, y, _, _, d, hr2, r1.mono l2, r2, rfl, rfl, h, f2⟩
theorem l_cmp {op : CO} (G : XG0 S X) (ha : PE X a (xE S E W P ro ca)) (hb : PE X b (xE S E W P ro cb)) (hm : behindInMarks (coOp op) b = false) : PE X (.Compare a [coOp op] [b] pos) (xE S E W P ro (.cmp op ca cb)) :=
  imE (pe_cmpR (op_cmp G.K (by have := G.un; omega) op) ha hb hm) fun σ H Q ⟨w, σ', m, sr, hr, f⟩ => by
    rw [ev] at f
    refine gE.bind sr hr f fun x m1 w1 v H1 l1 sr1 hr1 r1 f1 => gE.bind sr1 hr1 f1 fun y m2 w2 u H2 l2 sr2 hr2 r2 f2 => ?_
    cases h : cmpV ro m2 op x y with
    | none => rw [h] at f2; exact f2.elim
    | some d =>
      rw [h] at f2
      exact ⟨w2, ro, m2, x, y, d, hr2, r1.mono l2, r2, h, f2.ok hr2 (.bl d)⟩
theorem l_chain {op op' : CO} (G : XG0 S X) (ha : PE X a (xE S E W P ro ca)) (hb : PE X b (xE S E W P ro cb)) (hc : PE X c (xE S E W P ro cc)) (hm : lastMarks [coOp op, coOp op'] [b, c] = false) :
    PE X (.Compare a [coOp op, coOp op'] [b, c] pos) (xE S E W P ro (.chain op op' ca cb cc)) :=
  imE (pe_chain (op_cmp G.K (by have := G.un; omega) op) (op_cmp G.K (by have := G.un; omega) op') ha hb hc hm) fun σ H Q ⟨w, σ', m, sr, hr, f⟩ => by
    rw [ev] at f
    refine gE.bind sr hr f fun x m1 w1 v H1 l1 sr1 hr1 r1 f1 => gE.bind sr1 hr1 f1 fun y m2 w2 u H2 l2 sr2 hr2 r2 f2 => ?_
    cases h : cmpV ro m2 op x y with
    | none => rw [h] at f2; exact f2.elim
    | some d =>
      rw [h] at f2
      refine ⟨w2, ro, m2, x, y, d, hr2, r1.mono l2, r2, h, d, rfl, ?_⟩
      cases d with
      | false => exact Fin.ok (v := V.bl false) f2 hr2 (.bl false)
      | true =>
        refine gE.bind sr2 hr2 f2 fun z m3 w3 u3 H3 l3 sr3 hr3 r3 f3 => ?_
        cases h3 : cmpV ro m3 op' y z with
        | none => rw [h3] at f3; exact f3.elim
        | some d3 =>
          rw [h3] at f3
          exact ⟨w3, ro, m3, y, z, d3, hr3, r2.mono l3, r3, h3, f3.ok hr3 (.bl d3)⟩
theorem l_neg (ha : PE X a (xE S E W P ro ca)) : PE X (.UnaryOp .USub a pos) (xE S E W P ro (.neg ca)) :=
  imE (pe_un un_neg ha) fun σ H Q ⟨w, σ', m, sr, hr, f⟩ => by
    rw [ev] at f
    refine gE.bind sr hr f fun x m1 w1 v H1 l1 sr1 hr1 r1 f1 => ?_
    cases x with
    | int i =>
      cases r1
      exact ⟨i, rfl, f1.ok hr1 (.int (-i))⟩
    | _ => exact f1.elim
theorem un_not (hK : X.K = S.K) : UnR X (unaryOp .Not) (fun x H Q => rTru S x H fun k H1 => Q (.bl (!k)) H1) := by
  intro pins s σ H x v Q I rx h
  exact not_of (thn (tru_all hK pins s σ H x v _ I rx h) fun k s1 ⟨H1, I1, q⟩ => ⟨.bl (!k), H1, I1, rfl, q⟩)
theorem l_not (G : XG0 S X) (ha : PE X a (xE S E W P ro ca)) : PE X (.UnaryOp .Not a pos) (xE S E W P ro (.not_ ca)) :=
  imE (pe_un (un_not G.K) ha) fun σ H Q ⟨w, σ', m, sr, hr, f⟩ => by
    rw [ev] at f
    refine gE.bind sr hr f fun x m1 w1 v H1 l1 sr1 hr1 r1 f1 => ?_
    cases h : truV (rd ro m1 x) with
    | none => rw [h] at f1; exact f1.elim
    | some k => rw [h] at f1; exact ⟨w1, ro, m1, x, k, hr1, r1, h, f1.ok hr1 (.bl _)⟩
theorem l_and {rest : List Expr} (ha : PE X a (xE S E W P ro ca)) (hb : PE X (.BoolOp .And (b :: rest) pos) (xE S E W P ro cb)) : PE X (.BoolOp .And (a :: b :: rest) pos) (xE S E W P ro (.and_ ca cb)) :=
  imE (pe_and ha hb) fun σ H Q ⟨w, σ', m, sr, hr, f⟩ => by
    rw [ev] at f
    refine gE.bind sr hr f fun x m1 w1 v H1 l1 sr1 hr1 r1 f1 => ?_
    cases x with
    | bl k =>
      cases r1
      refine ⟨k, rfl, ?_⟩
      cases k with
      | true => exact ⟨w1, σ', m1, sr1, hr1, f1⟩
      | false => exact Fin.ok (v := V.bl false) f1 hr1 (.bl false)
    | _ => exact f1.elim
theorem l_or {rest : List Expr} (ha : PE X a (xE S E W P ro ca)) (hb : PE X (.BoolOp .Or (b :: rest) pos) (xE S E W P ro cb)) : PE X (.BoolOp .Or (a :: b :: rest) pos) (xE S E W P ro (.or_ ca cb)) :=
  imE (pe_or ha hb) fun σ H Q ⟨w, σ', m, sr, hr, f⟩ => by
    rw [ev] at f
    refine gE.bind sr hr f fun x m1 w1 v H1 l1 sr1 hr1 r1 f1 => ?_
    cases x with
    | bl k =>
      cases r1
      refine ⟨k, rfl, ?_⟩
      cases k with
      | false => exact ⟨w1, σ', m1, sr1, hr1, f1⟩
      | true => exact Fin.ok (v := V.bl true) f1 hr1 (.bl true)
    | _ => exact f1.elim
variable {ta tb : CT}
theorem lt_val (G : XG0 S X) (ha : PE X a (xE S E W P ro ca)) (he : ∀ whole, isTrue a X.env whole = (do let v ← whole; standAt a.pos; holding [v] (truthy v))) : PT X a (xT S E W P ro (.e ca)) :=
  imT (pt_truthR ha (tru_all G.K) he) fun σ H Q ⟨w, σ', m, sr, hr, f⟩ => by
    rw [evT] at f
    refine gE.bind sr hr f fun x m1 w1 v H1 l1 sr1 hr1 r1 f1 => ?_
    obtain ⟨k, h, q⟩ := Fin.of hr1 f1
    exact ⟨w1, ro, m1, x, k, hr1, r1, h, q k rfl⟩
theorem lt_cmp {op : CO} (G : XG0 S X) (ha : PE X a (xE S E W P ro ca)) (hb : PE X b (xE S E W P ro cb)) (hm : behindInMarks (coOp op) b = false) : PT X (.Compare a [coOp op] [b] pos) (xT S E W P ro (.e (.cmp op ca cb))) :=
  imT (pt_cmpR (op_cmp G.K (by have := G.un; omega) op) ha hb hm) fun σ H Q ⟨w, σ', m, sr, hr, f⟩ => by
    rw [evT, ev] at f
    rw [R.bind_assoc] at f
    refine gE.bind sr hr f fun x m1 w1 v H1 l1 sr1 hr1 r1 f1 => ?_
    rw [R.bind_assoc] at f1
    refine gE.bind sr1 hr1 f1 fun y m2 w2 u H2 l2 sr2 hr2 r2 f2 => ?_
    cases h : cmpV ro m2 op x y with
    | none => rw [h] at f2; exact f2.elim
    | some d =>
      rw [h] at f2
      exact ⟨w2, ro, m2, x, y, d, hr2, r1.mono l2, r2, h, d, rfl, Fin.ok (v := d) f2 hr2 rfl⟩
theorem lt_chain {op op' : CO} (G : XG0 S X) (ha : PE X a (xE S E W P ro ca)) (hb : PE X b (xE S E W P ro cb)) (hc : PE X c (xE S E W P ro cc)) (hm : lastMarks [coOp op, coOp op'] [b, c] = false) :
    PT X (.Compare a [coOp op, coOp op'] [b, c] pos) (xT S E W P ro (.e (.chain op op' ca cb cc))) :=
  imT (pt_chain (op_cmp G.K (by have := G.un; omega) op) (op_cmp G.K (by have := G.un; omega) op') ha hb hc hm) fun σ H Q ⟨w, σ', m, sr, hr, f⟩ => by
    rw [evT, ev] at f
    rw [R.bind_assoc] at f
    refine gE.bind sr hr f fun x m1 w1 v H1 l1 sr1 hr1 r1 f1 => ?_
    rw [R.bind_assoc] at f1
    refine gE.bind sr1 hr1 f1 fun y m2 w2 u H2 l2 sr2 hr2 r2 f2 => ?_
    cases h : cmpV ro m2 op x y with
    | none => rw [h] at f2; exact f2.elim
    | some d =>
      rw [h] at f2
      refine ⟨w2, ro, m2, x, y, d, hr2, r1.mono l2, r2, h, d, rfl, ?_⟩
      cases d with
      | false => exact ⟨false, rfl, Fin.ok (v := false) f2 hr2 rfl⟩
      | true =>
        have f2 : Fin S E W w2 ro σ (fun _ (a b : Bool) => a = b) Q (((ev P ro cc σ' m2).bind fun z m4 => (R.of (cmpV ro m4 op' y z) m4).bind fun r' m5 => .ok (.bl r') m5).bind fun x m1 => R.of (truV (rd ro m1 x)) m1) := f2
        rw [R.bind_assoc] at f2
        refine gE.bind sr2 hr2 f2 fun z m3 w3 u3 H3 l3 sr3 hr3 r3 f3 => ?_
        cases h3 : cmpV ro m3 op' y z with
        | none => rw [h3] at f3; exact f3.elim
        | some d3 =>
          rw [h3] at f3
          exact ⟨w3, ro, m3, y, z, d3, hr3, r2.mono l3, r3, h3, d3, rfl, Fin.ok (v := d3) f3 hr3 rfl⟩
theorem lt_not (ha : PT X a (xT S E W P ro ta)) : PT X (.UnaryOp .Not a pos) (xT S E W P ro (.not_ ta)) :=
  imT (pt_not ha) fun σ H Q ⟨w, σ', m, sr, hr, f⟩ => by
    rw [evT] at f
    exact gT.bind sr hr f fun k m1 w1 H1 l1 sr1 hr1 f1 => Fin.ok (v := !k) f1 hr1 rfl
theorem imW {e : Expr} {t t' : TT} (h : PW X e t) (i : ∀ σ H Q, t' σ H Q → t σ H Q) : PW X e t' := ⟨fun wh pins s σ H Q I q => h.run wh pins s σ H Q I (i σ H Q q)⟩
theorem lt_and {rest : List Expr} (ha : PT X a (xT S E W P ro ta)) (hb : PW X (.BoolOp .And (b :: rest) pos) (xT S E W P ro tb)) : PW X (.BoolOp .And (a :: b :: rest) pos) (xT S E W P ro (.and_ ta tb)) :=
  imW (pw_and ha hb) fun σ H Q ⟨w, σ', m, sr, hr, f⟩ => by
    rw [evT] at f
    refine gT.bind sr hr f fun k m1 w1 H1 l1 sr1 hr1 f1 => ?_
    cases k with
    | true => exact ⟨w1, σ', m1, sr1, hr1, f1⟩
    | false => exact Fin.ok (v := false) f1 hr1 rfl
theorem lt_or {rest : List Expr} (ha : PT X a (xT S E W P ro ta)) (hb : PW X (.BoolOp .Or (b :: rest) pos) (xT S E W P ro tb)) : PW X (.BoolOp .Or (a :: b :: rest) pos) (xT S E W P ro (.or_ ta tb)) :=
  imW (pw_or ha hb) fun σ H Q ⟨w, σ', m, sr, hr, f⟩ => by
    rw [evT] at f
    refine gT.bind sr hr f fun k m1 w1 H1 l1 sr1 hr1 f1 => ?_
    cases k with
    | false => exact ⟨w1, σ', m1, sr1, hr1, f1⟩
    | true => exact Fin.ok (v := true) f1 hr1 rfl
theorem l_ife (hc : PT X c (xT S E W P ro ta)) (ha : PE X a (xE S E W P ro ca)) (hb : PE X b (xE S E W P ro cb)) : PE X (.IfExp c a b pos) (xE S E W P ro (.ife ta ca cb)) :=
  imE (pe_ifExp hc ha hb) fun σ H Q ⟨w, σ', m, sr, hr, f⟩ => by
    rw [ev] at f
    refine gT.bind sr hr f fun k m1 w1 H1 l1 sr1 hr1 f1 => ?_
    cases k with
    | true => exact ⟨w1, σ', m1, sr1, hr1, f1⟩
    | false => exact ⟨w1, σ', m1, sr1, hr1, f1⟩
variable {es : List Expr} {cs : List CE}
theorem la_nil : PA X [] (xA S E W P ro []) := imA pa_nil fun σ H Q ⟨w, σ', m, sr, hr, f⟩ => by
  rw [evs] at f
  exact Fin.ok (v := []) f hr .nil
theorem la_cons (ha : PE X a (xE S E W P ro ca)) (hr' : PA X es (xA S E W P ro cs)) (hs : starEach (a :: es) X.env = (false, eval a X.env) :: starEach es X.env) : PA X (a :: es) (xA S E W P ro (ca :: cs)) :=
  imA (pa_cons ha hr' hs) fun σ H Q ⟨w, σ', m, sr, hr, f⟩ => by
    rw [evs] at f
    refine gE.bind sr hr f fun x m1 w1 v H1 l1 sr1 hr1 r1 f1 => gA.bind sr1 hr1 f1 fun xs m2 w2 vs H2 l2 sr2 hr2 r2 f2 => ?_
    exact f2.ok hr2 (.cons (r1.mono l2) r2)
end
end Av
end
section
set_option Elab.async false
set_option linter.all false
set_option maxRecDepth 100000
set_option autoImplicit false
set_option maxHeartbeats 4000000
namespace Av
open PySem PySem.Spec PyProof.Rows L2
def nostar : Expr → Bool
  | .Starred _ _ => false
  | _ => true
theorem star1 {a : Expr} {es : List Expr} {env : Env} (h : nostar a = true) : starEach (a :: es) env = (false, eval a env) :: starEach es env := by
  cases a <;> first | (cases h; done) | (simp only [starEach]; done) | rfl
theorem plain_any {env : Env} {pos : Pos} : ∀ {es : List Expr}, es.all nostar = true → (backTo pos (starEach es env)).any (·.1) = false
  | [], _ => rfl
  | a :: es, h => by
    rw [List.all_cons, Bool.and_eq_true] at h
    rw [star1 h.1]
    show (false || (backTo pos (starEach es env)).any (·.1)) = false
    rw [plain_any h.2]; rfl
theorem plain_all {env : Env} {pos : Pos} : ∀ {es : List Expr}, es.all nostar = true → (backTo pos (starEach es env)).all (fun x => !x.1) = true
  | [], _ => rfl
  | a :: es, h => by
    rw [List.all_cons, Bool.and_eq_true] at h
    rw [star1 h.1]
    show (true && (backTo pos (starEach es env)).all (fun x => !x.1)) = true
    rw [plain_all h.2]; rfl
theorem few_ok {env : Env} {pos : Pos} {es : List Expr} (h : es.all nostar = true) (hl : decide (es.length < 30) = true) : ((backTo pos (starEach es env)).all (fun x => !x.1) && (backToKw pos (keywordEach [] env)).all (fun x => x.1.isSome)
      && decide (es.length + ([] : List Keyword).length + (if ([] : List Keyword).isEmpty then 0 else 1) < 30)) = true := by
  rw [plain_all h]
  simpa [keywordEach, backToKw] using hl
def noSup : Expr → Bool
  | .Call _ [] [] _ => false
  | _ => true
theorem base_ok {o : Expr} {n : Str} {env : Env} {wh : Sem Value} (h : noSup o = true) : attributeBase o n env wh = wh := by
  unfold attributeBase
  split
  · cases h
  · rfl
def noComp : Expr → Bool
  | .ListComp _ _ _ _ => false
  | .SetComp _ _ _ _ => false
  | .DictComp _ _ _ _ _ => false
  | _ => true
theorem swap_ok {e : Expr} {t : Option Expr} {l : Nat} {env : Env} (h : noComp e = true) : swapsWith e t l env = pure false := by
  cases e <;> first | (cases h; done) | rfl
theorem swapS_ok {e t : Expr} {l : Nat} {env : Env} (h : noComp e = true) : swapsWithSole [t] e l env = pure false := swap_ok h
def plainT : Expr → Bool
  | .UnaryOp _ _ _ => false
  | .BoolOp _ _ _ => false
  | .IfExp _ _ _ _ => false
  | .Compare _ _ _ _ => false
  | _ => true
theorem isTrue_ok {e : Expr} {env : Env} (h : plainT e = true) : ∀ whole, isTrue e env whole = (do let v ← whole; standAt e.pos; holding [v] (truthy v)) := by
  intro whole
  cases e <;> first | (cases h; done) | (simp only [isTrue]; done) | rfl
def notSlice : Expr → Bool
  | .Slice _ _ _ _ => false
  | _ => true
theorem ix_ok {e : Expr} (h : notSlice e = true) : PlainIx e := by
  intro o i
  cases e <;> first | (cases h; done) | rfl
def notSet : Expr → Bool
  | .Set _ _ _ => false
  | _ => true
theorem behind_ok {op : CmpOp} {e : Expr} (h : notSet e = true) : behindInMarks op e = false := by
  cases e <;> first | (cases h; done) | rfl
theorem last_ok {op op' : CmpOp} {e f : Expr} (h : notSet f = true) : lastMarks [op, op'] [e, f] = false := by
  show lastMarks [op'] [f] = false
  exact behind_ok h
def notTup : Expr → Bool
  | .Tuple _ _ _ => false
  | .List _ _ => false
  | _ => true
theorem stores_ok {t e : Expr} {env : Env} (h : notTup t = true ∨ notTup e = true) : swappedStores [t] e env = pure none := by
  unfold swappedStores
  rcases h with h | h
  · cases t <;> first | (cases h; done) | rfl
  · cases e <;> first | (cases h; done) | (cases t <;> rfl)
theorem each1 {t : Expr} {env : Env} (h : nostar t = true) : (assignEach [t] env).map (·.2) = [assign t env] := by
  cases t <;> first | (cases h; done) | (simp only [assignEach]; done) | rfl
theorem eachC {t : Expr} {ts : List Expr} {env : Env} (h : nostar t = true) : (assignEach (t :: ts) env).map (·.2) = assign t env :: (assignEach ts env).map (·.2) := by
  cases t <;> first | (cases h; done) | (simp only [assignEach]; done) | rfl
end Av
end
section
set_option Elab.async false
set_option linter.all false
set_option maxRecDepth 100000
set_option autoImplicit false
set_option maxHeartbeats 4000000
namespace Av
open PySem PySem.Spec PyProof.Rows L2
section
variable {S : SE} {E : ED} {W : WX} {P : Pm} {ro : Mem} {X : Cx} {a b c : Expr} {ca cb cc : CE} {pos : Pos} {es : List Expr} {cs : List CE}
theorem evs_len : ∀ (cs : List CE) (σ : Sl) (m : Mem) (ds : List D) (m' : Mem), evs P ro cs σ m = .ok ds m' → ds.length = cs.length
  | [], _, _, _, _, h => by rw [evs] at h; cases h; rfl
  | c :: r, σ, m, ds, m', h => by
    rw [evs] at h
    cases h1 : ev P ro c σ m with
    | stuck => rw [h1] at h; cases h
    | exc x m1 => rw [h1] at h; cases h
    | ok x m1 =>
      rw [h1, R.bind_ok] at h
      cases h2 : evs P ro r σ m1 with
      | stuck => rw [h2] at h; cases h
      | exc x m1 => rw [h2] at h; cases h
      | ok xs m2 =>
        rw [h2, R.bind_ok] at h
        cases h
        have := evs_len r σ m1 xs _ h2
        simp [this]
theorem gA.bindE {α β : Type} {Rel2 : Wd → α → β → Prop} {Q2 : β → Hp → Prop} {f : Sl → Mem → R Mem (List D)} {g : List D → Mem → R Mem α} {σ : L2.St} {H : Hp} {Q : List V → Hp → Prop} {w : Wd} {σ' : Sl} {m : Mem} (sr : SR w σ' σ) (hr : HR S w ro m H) (h : Fin S E W w ro σ Rel2 Q2 ((f σ' m).bind g))
    (k : ∀ d m1 w1 v H1, f σ' m = .ok d m1 → w.Le w1 → SR w1 σ' σ → HR S w1 ro m1 H1 → RelDs w1 d v → Fin S E W w1 ro σ Rel2 Q2 (g d m1) → Q v H1) : gA S E W ro f σ H Q := by
  refine ⟨w, σ', m, sr, hr, ?_⟩
  cases e : f σ' m with
  | ok d m1 =>
    rw [e] at h
    exact fun w1 v H1 l hr1 r1 => k d m1 w1 v H1 e l (sr.mono l) hr1 r1 (Fin.mono l h)
  | exc x m1 => rw [e] at h; exact h
  | stuck => rw [e] at h; exact h
/-- a new object -/
theorem Fin.new {w : Wd} {m : Mem} {H : Hp} {σ : L2.St} {ob : Ob} {o : HO} {Q : VK} (f : Fin S E W w ro σ RelD Q (.ok (.ref (ro.length + m.length)) (m ++ [ob]))) (hr : HR S w ro m H) (hnl : ∀ o, ob ≠ .lk o)
    (r : ∀ (w' : Wd) (H' : Hp) (p : Addr), w.Le w' → w'.lk p = none → H' p = some o → ObR S w' H' p ob) : ∀ p, H p = none → Q (.ref p) (upd H p o) := fun p hp => by
  have hl : w.Le (w.nw (ro.length + m.length) p) := Wd.nw_le hr.top
  refine f _ (.ref p) _ hl (hr.nw hp hnl (r _ _ p hl (hr.nolk hp) upd_same)) (.ref ?_)
  show (if _ = _ then some p else _) = _
  rw [if_pos rfl]
theorem l_tup {k : Nat} (hl : cs.length ≤ 1000) (h : PA X es (xA S E W P ro cs)) : PE X (.Tuple es k pos) (xE S E W P ro (.tup cs)) :=
  imE (pe_tup h) fun σ H Q ⟨w, σ', m, sr, hr, f⟩ => by
    rw [ev] at f
    refine gA.bindE sr hr f fun ds m1 w1 vs H1 e l1 sr1 hr1 r1 f1 => ?_
    have hd := evs_len _ _ _ _ _ e
    have hL : ds.length ≤ LIM := by show ds.length ≤ 16777214; omega
    exact ⟨by rw [← RelDs.length r1]; exact lim_le hL, Nxt.tup (fun w' v H' l hr' r => f1 w' v H' l hr' r) hr1 r1 hL⟩
theorem l_lst (hl : cs.length ≤ 1000) (h : PA X es (xA S E W P ro cs)) : PE X (.List es pos) (xE S E W P ro (.lst cs)) :=
  imE (pe_lst h) fun σ H Q ⟨w, σ', m, sr, hr, f⟩ => by
    rw [ev] at f
    refine gA.bindE sr hr f fun ds m1 w1 vs H1 e l1 sr1 hr1 r1 f1 => ?_
    have hd := evs_len _ _ _ _ _ e
    have hL : ds.length ≤ LIM := by show ds.length ≤ 16777214; omega
    exact ⟨by rw [← RelDs.length r1]; exact lim_le hL, f1.new hr1 (by intro o z; cases z) fun w' H' p l hk hp => ⟨hk, hL, vs, hp, r1.mono l⟩⟩
theorem l_dct0 : PE X (.Dict [] [] pos) (xE S E W P ro (.dct [])) :=
  imE pe_dnewK fun σ H Q ⟨w, σ', m, sr, hr, f⟩ => by
    rw [ev, evs] at f
    have f : Fin S E W w ro σ RelD Q (.ok (.ref (ro.length + m.length)) (m ++ [.dct []])) := f
    exact f.new hr (by intro o z; cases z) fun w' H' p l hk hp => ⟨Nat.zero_le _, .dK [], At.of hp hk, .k .nil⟩
theorem l_sub (G : XG0 S X) (ha : PE X a (xE S E W P ro ca)) (hb : PE X b (xE S E W P ro cb)) (hs : PlainIx b) : PE X (.Subscript a b pos) (xE S E W P ro (.sub ca cb)) :=
  imE (pe_ix (ix_at G.K (by have := G.un; omega)) ha hb hs) fun σ H Q ⟨w, σ', m, sr, hr, f⟩ => by
    rw [ev] at f
    refine gE.bind sr hr f fun x m1 w1 v H1 l1 sr1 hr1 r1 f1 => gE.bind sr1 hr1 f1 fun y m2 w2 u H2 l2 sr2 hr2 r2 f2 => ?_
    obtain ⟨d, h, q⟩ := Fin.of hr2 f2
    exact ⟨w2, ro, m2, x, y, d, hr2, r1.mono l2, r2, h, q⟩
/-- a bound of a slice -/
abbrev xO (S : SE) (E : ED) (W : WX) (P : Pm) (ro : Mem) (e : Option CE) : L2.St → Hp → (Option Int → Hp → Prop) → Prop := fun σ H Q => ∃ w σ' m, SR w σ' σ ∧ HR S w ro m H ∧ Fin S E W w ro σ (fun _ (a b : Option Int) => a = b) Q (evO P ro e σ' m)
theorem imO {e : Option Expr} {t t' : L2.St → Hp → (Option Int → Hp → Prop) → Prop} (h : PO X e t) (i : ∀ σ H Q, t' σ H Q → t σ H Q) : PO X e t' := ⟨fun pins s σ H Q I q => h.run pins s σ H Q I (i σ H Q q)⟩
theorem lo_none : PO X none (xO S E W P ro none) := imO po_none fun σ H Q ⟨w, σ', m, sr, hr, f⟩ => by
  rw [evO] at f
  exact Fin.ok (v := none) f hr rfl
theorem lo_some (ha : PE X a (xE S E W P ro ca)) : PO X (some a) (xO S E W P ro (some ca)) := imO (po_some ha) fun σ H Q ⟨w, σ', m, sr, hr, f⟩ => by
  rw [evO] at f
  refine gE.bind sr hr f fun x m1 w1 v H1 l1 sr1 hr1 r1 f1 => ?_
  cases x with
  | int i => cases r1; exact ⟨i, rfl, Fin.ok (v := some i) f1 hr1 rfl⟩
  | _ => exact f1.elim
theorem gO.bind {α β : Type} {Rel2 : Wd → α → β → Prop} {Q2 : β → Hp → Prop} {f : Sl → Mem → R Mem (Option Int)} {g : Option Int → Mem → R Mem α} {σ : L2.St} {H : Hp} {Q : Option Int → Hp → Prop} {w : Wd} {σ' : Sl} {m : Mem} (sr : SR w σ' σ) (hr : HR S w ro m H) (h : Fin S E W w ro σ Rel2 Q2 ((f σ' m).bind g))
    (k : ∀ d m1 w1 H1, w.Le w1 → SR w1 σ' σ → HR S w1 ro m1 H1 → Fin S E W w1 ro σ Rel2 Q2 (g d m1) → Q d H1) : ∃ w σ' m, SR w σ' σ ∧ HR S w ro m H ∧ Fin S E W w ro σ (fun _ (a b : Option Int) => a = b) Q (f σ' m) :=
  ⟨w, σ', m, sr, hr, Fin.bind h fun a m1 w1 v H1 l hr1 r1 q => by subst r1; exact k a m1 w1 H1 l (sr.mono l) hr1 q⟩
theorem l_slc {lo hi : Option Expr} {cl ch : Option CE} {p2 : Pos} (G : XG0 S X) (ha : PE X a (xE S E W P ro ca)) (hl : PO X lo (xO S E W P ro cl)) (hh : PO X hi (xO S E W P ro ch)) : PE X (.Subscript a (.Slice lo hi none p2) pos) (xE S E W P ro (.slc ca cl ch)) :=
  imE (pe_slice (sl_all G.K) ha hl hh) fun σ H Q ⟨w, σ', m, sr, hr, f⟩ => by
    rw [ev] at f
    refine gE.bind sr hr f fun x m1 w1 v H1 l1 sr1 hr1 r1 f1 => ?_
    refine gO.bind sr1 hr1 f1 fun y m2 w2 H2 l2 sr2 hr2 f2 => ?_
    refine gO.bind sr2 hr2 f2 fun z m3 w3 H3 l3 sr3 hr3 f3 => ?_
    cases h : slcV (rd ro m3 x) y z with
    | none => rw [h] at f3; exact f3.elim
    | some d => rw [h] at f3; exact ⟨w3, ro, m3, x, d, hr3, (r1.mono l2).mono l3, h, f3⟩
def biN : Bi → Str
  | .len => "len"
  | .int => "int"
  | .str => "str"
  | .list => "list"
  | .tuple => "tuple"
  | .sorted => "sorted"
  | .min1 => "min"
  | .max1 => "max"
  | .minD => "min"
  | .maxD => "max"
  | .min2 => "min"
  | .max2 => "max"
  | .min3 => "min"
  | .max3 => "max"
def biF : Bi → Value
  | .len => .builtin "len"
  | .int => .type "int"
  | .str => .type "str"
  | .list => .type "list"
  | .tuple => .type "tuple"
  | .sorted => .builtin "sorted"
  | .min1 => .builtin "min"
  | .max1 => .builtin "max"
  | .minD => .builtin "min"
  | .maxD => .builtin "max"
  | .min2 => .builtin "min"
  | .max2 => .builtin "max"
  | .min3 => .builtin "min"
  | .max3 => .builtin "max"
def biOk : Bi → Bool
  | .len => true
  | .int => true
  | .str => true
  | .list => true
  | .tuple => true
  | .sorted => true
  | .min2 => true
  | .max2 => true
  | _ => false
theorem cr_sorted (G : XG0 S X) : CallR X (.builtin "sorted") (rBi S .sorted) := by
  intro pins s σ H xs us Q I r ⟨w, ro, m, ds, c, hr, rs, h, q⟩
  change srtL (ds.map (rd ro m)) = some c at h
  unfold srtL at h
  split at h
  · rename_i l e
    obtain ⟨a, rfl, e2⟩ := map1 e
    obtain ⟨x, rfl, rx⟩ := rs.one
    have nx := rx.now hr
    rw [e2] at nx
    obtain ⟨p, vs, rfl, hl, ha, rr⟩ := nx.lstI
    obtain ⟨u, rfl, ru⟩ := vals1 r
    obtain rfl : u = Value.ref p := ru
    exact sorted_run G.K (by have := G.un; omega) I hr hl ha rr h q
  · cases h
theorem cr_min2 (hc : X.calm = true) : CallR X (.builtin "min") (rBi S .min2) := by
  intro pins s σ H xs us Q I r ⟨w, ro, m, ds, c, hr, rs, h, q⟩
  change mn2L (ds.map (rd ro m)) = some c at h
  unfold mn2L at h
  split at h
  · rename_i i j e
    cases h
    obtain ⟨a, b, rfl, e1, e2⟩ := map2 e
    obtain ⟨x, y, rfl, rx, ry⟩ := rs.two
    have nx := rx.now hr
    have ny := ry.now hr
    rw [e1] at nx
    rw [e2] at ny
    obtain rfl := nx.intI
    obtain rfl := ny.intI
    exact call_min2 hc pins s σ H _ us Q I r ⟨i, j, rfl, q.now hr (.int _)⟩
  · cases h
theorem cr_max2 (hc : X.calm = true) : CallR X (.builtin "max") (rBi S .max2) := by
  intro pins s σ H xs us Q I r ⟨w, ro, m, ds, c, hr, rs, h, q⟩
  change mx2L (ds.map (rd ro m)) = some c at h
  unfold mx2L at h
  split at h
  · rename_i i j e
    cases h
    obtain ⟨a, b, rfl, e1, e2⟩ := map2 e
    obtain ⟨x, y, rfl, rx, ry⟩ := rs.two
    have nx := rx.now hr
    have ny := ry.now hr
    rw [e1] at nx
    rw [e2] at ny
    obtain rfl := nx.intI
    obtain rfl := ny.intI
    exact call_max2 hc pins s σ H _ us Q I r ⟨i, j, rfl, q.now hr (.int _)⟩
  · cases h
theorem cr_bi (G : XG S X) : ∀ (b : Bi), biOk b = true → CallR X (biF b) (rBi S b)
  | .len, _ => cr_len
  | .int, _ => cr_int
  | .str, _ => cr_str
  | .list, _ => cr_list G.calm
  | .tuple, _ => cr_tuple
  | .sorted, _ => cr_sorted G.toXG0
  | .min2, _ => cr_min2 G.calm
  | .max2, _ => cr_max2 G.calm
theorem bi_boot : ∀ (b : Bi), bootBuiltins (biN b) = some (biF b)
  | .len => by decide +kernel
  | .int => by decide +kernel
  | .str => by decide +kernel
  | .list => by decide +kernel
  | .tuple => by decide +kernel
  | .sorted => by decide +kernel
  | .min1 => by decide +kernel
  | .max1 => by decide +kernel
  | .minD => by decide +kernel
  | .maxD => by decide +kernel
  | .min2 => by decide +kernel
  | .max2 => by decide +kernel
  | .min3 => by decide +kernel
  | .max3 => by decide +kernel
theorem bi_nm (b : Bi) : biN b ≠ "__name__" ∧ (biN b == ("__debug__" : Str)) = false := by cases b <;> decide
theorem pe_callBi {f : Value} {r : List V → Hp → VK → Prop} {x : Str} {p : Pos} {e : Expr} {t : TA} (hf : (∃ id, f = .builtin id) ∨ ∃ T, f = .type T) (hc : CallR X f r) (hg : Gl X x) (hm : X.mg x = none) (hv : bootBuiltins x = some f) (ha : PA X (e :: es) t)
    (hn : x ≠ "__name__") (hdb : (x == ("__debug__" : Str)) = false) (he : starEach (e :: es) X.env = (false, eval e X.env) :: starEach es X.env) (hpl : (backTo pos (starEach es X.env)).any (·.1) = false) : PE X (.Call (.Name x p) (e :: es) [] pos) (tCB r t) := by
  rcases hf with ⟨id, rfl⟩ | ⟨T, rfl⟩
  · exact pe_callB hc hg hm hv ha hn hdb he hpl
  · exact pe_callTy hc hg hm hv ha hn hdb he hpl
theorem l_bi {b : Bi} {p : Pos} {e : Expr} (G : XG S X) (ok : biOk b = true) (hg : Gl X (biN b)) (hm : X.mg (biN b) = none) (ha : PA X (e :: es) (xA S E W P ro cs)) (he : starEach (e :: es) X.env = (false, eval e X.env) :: starEach es X.env) (hpl : (backTo pos (starEach es X.env)).any (·.1) = false) :
    PE X (.Call (.Name (biN b) p) (e :: es) [] pos) (xE S E W P ro (.bi b cs)) :=
  imE (pe_callBi (by cases b <;> first | exact .inl ⟨_, rfl⟩ | exact .inr ⟨_, rfl⟩) (cr_bi G b ok) hg hm (bi_boot b) ha (bi_nm b).1 (bi_nm b).2 he hpl) fun σ H Q ⟨w, σ', m, sr, hr, f⟩ => by
    rw [ev] at f
    refine gA.bind sr hr f fun ds m1 w1 vs H1 l1 sr1 hr1 r1 f1 => ?_
    cases h : biV b (ds.map (rd ro m1)) with
    | none => rw [h] at f1; exact f1.elim
    | some d => rw [h] at f1; exact ⟨w1, ro, m1, ds, d, hr1, r1, h, f1⟩
def tyR (S : SE) (ro : Mem) (p : D → Bool) (x : V) (H : Hp) : Prop := ∃ w m a, HR S w ro m H ∧ RelD w a x ∧ p (rd ro m a) = true
theorem ty_str {p : D → Bool} (hp : ∀ d, p d = true → ∃ t, d = .str t) : TyOk X "str" (tyR S ro p) := by
  intro pins σ H s x v I r ⟨w, m, a, hr, ra, h⟩
  obtain ⟨t, e⟩ := hp _ h
  have na := ra.now hr
  rw [e] at na
  obtain ⟨rfl, _⟩ := na.strI
  obtain ⟨t', rfl⟩ := r
  exact ⟨typeIs_str s _ _, fun _ e => nomatch e⟩
theorem ty_dct {p : D → Bool} (hp : ∀ d, p d = true → ∃ t, d = .dct t) : TyOk X "dict" (tyR S ro p) := by
  intro pins σ H s x v I r ⟨w, m, a, hr, ra, h⟩
  obtain ⟨t, e⟩ := hp _ h
  have na := ra.now hr
  rw [e] at na
  obtain ⟨q, o, rfl, _, ha, ho⟩ := na.dctI
  obtain rfl : v = Value.ref q := r
  have := isD_at (a := q) I (by
    cases ho with
    | k _ => exact .inl ⟨_, ha.rd⟩
    | t _ => exact .inr ⟨_, ha.rd⟩)
  exact ⟨this.1, this.2.1⟩
theorem ty_lst {p : D → Bool} (hp : ∀ d, p d = true → ∃ t, d = .lst t) : TyOk X "list" (tyR S ro p) := by
  intro pins σ H s x v I r ⟨w, m, a, hr, ra, h⟩
  obtain ⟨t, e⟩ := hp _ h
  have na := ra.now hr
  rw [e] at na
  obtain ⟨q, vs, rfl, _, ha, _⟩ := na.lstI
  obtain rfl : v = Value.ref q := r
  obtain ⟨its, rv, ⟨o, n, h1, h2, h3, h4⟩, _⟩ := I.list (SqL.of ha)
  exact ⟨⟨o, h1, h2⟩, fun b e => by cases e; exact ⟨o, h1, h3⟩⟩
def bmN : Bm → Str
  | .partition => "partition"
  | .split => "split"
  | .join => "join"
  | .startswith => "startswith"
  | .find => "find"
  | .get => "get"
  | .index => "index"
  | .replace => "replace"
theorem l_bmG {b : Bm} {T id : String} {apos cpos : Pos} {o e : Expr} {co : CE} (G : XG0 S X) (ht : TyOk X T (tyR S ro (bmT b))) (pa : PlainAttrs T) (slot : Slot T (bmN b) id) (hty : typeOf (.builtin id) = pure (.type "method_descriptor")) (hm : MtR X id (rBm S b))
    (ho : PE X o (xE S E W P ro co)) (ha : PA X (e :: es) (xA S E W P ro cs)) (hns : (e :: es).all nostar = true) (hsup : noSup o = true) (hfew : decide ((e :: es).length < 30) = true) (hline : (apos.endLine == cpos.line) = true) :
    PE X (.Call (.Attribute o (bmN b) apos) (e :: es) [] cpos) (xE S E W P ro (.bm b co cs)) := by
  have h1 : nostar e = true ∧ es.all nostar = true := by
    rw [List.all_cons, Bool.and_eq_true] at hns; exact hns
  refine imE (pe_mG ht pa slot hty hm ho ha (base_ok hsup) (few_ok hns hfew) hline (star1 h1.1) (plain_any h1.2)) fun σ H Q ⟨w, σ', m, sr, hr, f⟩ => ?_
  rw [ev] at f
  refine gE.bind sr hr f fun x m1 w1 v H1 l1 sr1 hr1 r1 f1 => ?_
  split at f1
  · rename_i hb
    refine ⟨⟨w1, m1, x, hr1, r1, hb⟩, gA.bind sr1 hr1 f1 fun ds m2 w2 vs H2 l2 sr2 hr2 r2 f2 => ?_⟩
    cases h : bmV b (rd ro m2 x) (bmA b ro m2 ds) with
    | none => rw [h] at f2; exact f2.elim
    | some d => rw [h] at f2; exact ⟨w2, ro, m2, x, ds, d, hr2, r1.mono l2, r2, h, f2⟩
  · exact f1.elim
theorem bmT_str {b : Bm} (h : b ≠ .get ∧ b ≠ .index) {d : D} (e : bmT b d = true) : ∃ t, d = .str t := by
  cases b <;> first | exact absurd rfl h.1 | exact absurd rfl h.2 | (cases d <;> first | exact ⟨_, rfl⟩ | cases e)
theorem bmT_dct {d : D} (e : bmT .get d = true) : ∃ t, d = .dct t := by
  cases d <;> first | exact ⟨_, rfl⟩ | cases e
def bmOk : Bm → Bool
  | .partition => true
  | .split => true
  | .join => true
  | .startswith => true
  | .find => true
  | .get => true
  | _ => false
theorem l_bm {b : Bm} {apos cpos : Pos} {o e : Expr} {co : CE} (G : XG0 S X) (ok : bmOk b = true)
    (ho : PE X o (xE S E W P ro co)) (ha : PA X (e :: es) (xA S E W P ro cs)) (hns : (e :: es).all nostar = true) (hsup : noSup o = true) (hfew : decide ((e :: es).length < 30) = true) (hline : (apos.endLine == cpos.line) = true) :
    PE X (.Call (.Attribute o (bmN b) apos) (e :: es) [] cpos) (xE S E W P ro (.bm b co cs)) := by
  cases b with
  | partition => exact l_bmG G (ty_str fun d => bmT_str (by decide)) PySem.F.plainAttrs_str PySem.F.slot_str_partition PySem.F.type_str_partition mt_par ho ha hns hsup hfew hline
  | split => exact l_bmG G (ty_str fun d => bmT_str (by decide)) PySem.F.plainAttrs_str PySem.F.slot_str_split PySem.F.type_str_split mt_spl ho ha hns hsup hfew hline
  | join => exact l_bmG G (ty_str fun d => bmT_str (by decide)) PySem.F.plainAttrs_str PySem.F.slot_str_join PySem.F.type_str_join mt_joi ho ha hns hsup hfew hline
  | startswith => exact l_bmG G (ty_str fun d => bmT_str (by decide)) PySem.F.plainAttrs_str PySem.F.slot_str_startswith PySem.F.type_str_startswith mt_sta ho ha hns hsup hfew hline
  | find => exact l_bmG G (ty_str fun d => bmT_str (by decide)) PySem.F.plainAttrs_str PySem.F.slot_str_find PySem.F.type_str_find mt_fin ho ha hns hsup hfew hline
  | get => exact l_bmG G (ty_dct fun d => bmT_dct) PySem.F.plainAttrs_dict PySem.F.slot_dict_get PySem.F.type_dict_get (mt_get (by have := G.un; omega)) ho ha hns hsup hfew hline
  | _ => cases ok
def bcN : Bc → Str
  | .append => "append"
  | .extend => "extend"
  | .pop => "pop"
  | .popd => "pop"
  | .remove => "remove"
  | .setdefault => "setdefault"
def tyB (S : SE) (ro : Mem) (p : Ob → Bool) (x : V) (H : Hp) : Prop := ∃ w m n ob, HR S w ro m H ∧ RelD w (.ref n) x ∧ memGet ro m n = some ob ∧ p ob = true
theorem tyB_lst {p : Ob → Bool} (hp : ∀ d, p d = true → ∃ t, d = .lst t) : TyOk X "list" (tyB S ro p) := by
  intro pins σ H s x v I r ⟨w, m, n, ob, hr, ra, hg, h⟩
  obtain ⟨t, rfl⟩ := hp _ h
  obtain ⟨q, rfl, hq⟩ := ra.refI
  obtain ⟨k1, k2, vs, k3, k4⟩ := hr.ob hg hq
  obtain rfl : v = Value.ref q := r
  obtain ⟨its, rv, ⟨o, n, h1, h2, h3, h4⟩, _⟩ := I.list (SqL.of k3)
  exact ⟨⟨o, h1, h2⟩, fun b e => by cases e; exact ⟨o, h1, h3⟩⟩
theorem bcT_lst {b : Bc} (h : b ≠ .popd ∧ b ≠ .setdefault) {d : Ob} (e : bcT b d = true) : ∃ t, d = .lst t := by
  cases b <;> first | exact absurd rfl h.1 | exact absurd rfl h.2 | (cases d <;> first | exact ⟨_, rfl⟩ | cases e)
theorem bcE_some {b : Bc} {n : Nat} {ds : List D} {m : Mem} {σ : L2.St} {w : Wd} {Q : VK} (f : Fin S E W w ro σ RelD Q (bcE b ro n ds m)) : ∃ ob ob' d m', memGet ro m n = some ob ∧ bcV b ob ds = some (ob', d) ∧ memSet ro m n ob' = some m' ∧
    ∀ w' v H', w.Le w' → HR S w' ro m' H' → RelD w' d v → Q v H' := by
  unfold bcE at f
  split at f
  · rename_i ob h1
    split at f
    · rename_i ob' d h2
      split at f
      · rename_i m' h3
        exact ⟨ob, ob', d, m', h1, h2, h3, f⟩
      · exact f.elim
    · exact f.elim
  · exact f.elim
theorem l_bcG {b : Bc} {T id : String} {apos cpos : Pos} {o e : Expr} {co : CE} (G : XG0 S X) (ht : TyOk X T (tyB S ro (bcT b))) (pa : PlainAttrs T) (slot : Slot T (bcN b) id) (hty : typeOf (.builtin id) = pure (.type "method_descriptor")) (hm : MtR X id (rBc S b))
    (ho : PE X o (xE S E W P ro co)) (ha : PA X (e :: es) (xA S E W P ro cs)) (hns : (e :: es).all nostar = true) (hsup : noSup o = true) (hfew : decide ((e :: es).length < 30) = true) (hline : (apos.endLine == cpos.line) = true) :
    PE X (.Call (.Attribute o (bcN b) apos) (e :: es) [] cpos) (xE S E W P ro (.bc b co cs)) := by
  have h1 : nostar e = true ∧ es.all nostar = true := by
    rw [List.all_cons, Bool.and_eq_true] at hns; exact hns
  refine imE (pe_mG ht pa slot hty hm ho ha (base_ok hsup) (few_ok hns hfew) hline (star1 h1.1) (plain_any h1.2)) fun σ H Q ⟨w, σ', m, sr, hr, f⟩ => ?_
  rw [ev] at f
  refine gE.bind sr hr f fun x m1 w1 v H1 l1 sr1 hr1 r1 f1 => ?_
  split at f1
  · rename_i n
    split at f1
    · rename_i ob hob
      split at f1
      · rename_i hb
        refine ⟨⟨w1, m1, n, ob, hr1, r1, hob, hb⟩, gA.bind sr1 hr1 f1 fun ds m2 w2 vs H2 l2 sr2 hr2 r2 f2 => ?_⟩
        obtain ⟨ob2, ob', d, m', k1, k2, k3, k4⟩ := bcE_some f2
        exact ⟨w2, ro, m2, n, ds, ob2, ob', d, m', hr2, r1.mono l2, r2, k1, k2, k3, k4⟩
      · exact f1.elim
    · exact f1.elim
  · exact f1.elim
theorem l_bcG0 {b : Bc} {T id : String} {apos cpos : Pos} {o : Expr} {co : CE} (G : XG0 S X) (ht : TyOk X T (tyB S ro (bcT b))) (pa : PlainAttrs T) (slot : Slot T (bcN b) id) (hty : typeOf (.builtin id) = pure (.type "method_descriptor")) (hm : MtR X id (rBc S b))
    (ho : PE X o (xE S E W P ro co)) (hsup : noSup o = true) (hline : (apos.endLine == cpos.line) = true) :
    PE X (.Call (.Attribute o (bcN b) apos) [] [] cpos) (xE S E W P ro (.bc b co [])) := by
  refine imE (pe_mG0 ht pa slot hty hm ho (base_ok hsup) hline) fun σ H Q ⟨w, σ', m, sr, hr, f⟩ => ?_
  rw [ev] at f
  refine gE.bind sr hr f fun x m1 w1 v H1 l1 sr1 hr1 r1 f1 => ?_
  split at f1
  · rename_i n
    split at f1
    · rename_i ob hob
      split at f1
      · rename_i hb
        rw [evs, R.bind_ok] at f1
        obtain ⟨ob2, ob', d, m', k1, k2, k3, k4⟩ := bcE_some f1
        exact ⟨⟨w1, m1, n, ob, hr1, r1, hob, hb⟩, w1, ro, m1, n, [], ob2, ob', d, m', hr1, r1, .nil, k1, k2, k3, k4⟩
      · exact f1.elim
    · exact f1.elim
  · exact f1.elim
def bcOk : Bc → Bool
  | .append => true
  | .extend => true
  | .pop => true
  | _ => false
theorem l_bc {b : Bc} {apos cpos : Pos} {o e : Expr} {co : CE} (G : XG0 S X) (ok : bcOk b = true)
    (ho : PE X o (xE S E W P ro co)) (ha : PA X (e :: es) (xA S E W P ro cs)) (hns : (e :: es).all nostar = true) (hsup : noSup o = true) (hfew : decide ((e :: es).length < 30) = true) (hline : (apos.endLine == cpos.line) = true) :
    PE X (.Call (.Attribute o (bcN b) apos) (e :: es) [] cpos) (xE S E W P ro (.bc b co cs)) := by
  cases b with
  | append => exact l_bcG G (tyB_lst fun d => bcT_lst (by decide)) PySem.F.plainAttrs_list PySem.F.slot_list_append PySem.F.type_list_append mt_app ho ha hns hsup hfew hline
  | extend => exact l_bcG G (tyB_lst fun d => bcT_lst (by decide)) PySem.F.plainAttrs_list PySem.F.slot_list_extend PySem.F.type_list_extend mt_ext ho ha hns hsup hfew hline
  | pop => exact l_bcG G (tyB_lst fun d => bcT_lst (by decide)) PySem.F.plainAttrs_list PySem.F.slot_list_pop PySem.F.type_list_pop mt_popL ho ha hns hsup hfew hline
  | _ => cases ok
theorem l_bc0 {apos cpos : Pos} {o : Expr} {co : CE} (G : XG0 S X) (ho : PE X o (xE S E W P ro co)) (hsup : noSup o = true) (hline : (apos.endLine == cpos.line) = true) :
    PE X (.Call (.Attribute o "pop" apos) [] [] cpos) (xE S E W P ro (.bc .pop co [])) :=
  l_bcG0 (b := .pop) G (tyB_lst fun d => bcT_lst (by decide)) PySem.F.plainAttrs_list PySem.F.slot_list_pop PySem.F.type_list_pop mt_popL ho hsup hline
end
end Av
end
section
set_option Elab.async false
set_option linter.all false
set_option maxRecDepth 100000
set_option autoImplicit false
set_option maxHeartbeats 4000000
namespace Av
open PySem PySem.Spec PyProof.Rows L2
section
variable {S : SE} {E : ED} {W : WX} {P : Pm} {ro : Mem} {X : Cx} {a b c : Expr} {ca cb cc : CE} {pos : Pos} {es : List Expr} {cs : List CE}
def tyN : Ty → String
  | .int => "int"
  | .str => "str"
  | .bool => "bool"
  | .tuple => "tuple"
  | .list => "list"
  | .dict => "dict"
  | _ => ""
def tyOk : Ty → Bool
  | .int => true
  | .str => true
  | .bool => true
  | .tuple => true
  | .list => true
  | _ => false
theorem ty_boot {t : Ty} (h : tyOk t = true) : bootBuiltins (Str.ofString (tyN t)) = some (.type (tyN t)) := by
  cases t <;> first | (cases h; done) | decide +kernel
theorem ty_nm {t : Ty} (h : tyOk t = true) : Str.ofString (tyN t) ≠ "__name__" ∧ (Str.ofString (tyN t) == ("__debug__" : Str)) = false := by
  cases t <;> first | (cases h; done) | decide
theorem ty_kit {w : Wd} {m : Mem} {H : Hp} {d : D} {v : V} {t : Ty} {r : Bool} (ok : tyOk t = true) (nd : RelN w H d v) (h : tyW t d = some r) : ∃ u, TyX X.K H v u ∧ PySem.W.kitOne X.K u (.type (tyN t)) = some r := by
  cases d with
  | non => cases nd; refine ⟨_, .base .non, ?_⟩; cases t <;> first | (cases ok; done) | (cases h; exact kit_ty (by decide +kernel))
  | bl x => cases nd; refine ⟨_, .base (.bl x), ?_⟩; cases t <;> first | (cases ok; done) | (cases h; exact kit_ty (by decide +kernel))
  | int x => cases nd; refine ⟨_, .base (.int x), ?_⟩; cases t <;> first | (cases ok; done) | (cases h; exact kit_ty (by decide +kernel))
  | str x => obtain ⟨rfl, _⟩ := nd.strI; refine ⟨_, .base (.str _), ?_⟩; cases t <;> first | (cases ok; done) | (cases h; exact kit_ty (by decide +kernel))
  | tup ds => obtain ⟨a, vs, rfl, _, ha, _⟩ := nd.tupI; refine ⟨_, .base (.tup ha), ?_⟩; cases t <;> first | (cases ok; done) | (cases h; exact kit_ty (by decide +kernel))
  | lst ds => obtain ⟨a, vs, rfl, _, ha, _⟩ := nd.lstI; refine ⟨_, .base (.lst ha), ?_⟩; cases t <;> first | (cases ok; done) | (cases h; exact kit_ty (by decide +kernel))
  | _ => cases h
theorem l_isi {t : Ty} {p p2 : Pos} (ok : tyOk t = true) (hg : Gl X "isinstance") (hm : X.mg "isinstance" = none) (hg2 : Gl X (Str.ofString (tyN t))) (hm2 : X.mg (Str.ofString (tyN t)) = none) (ha : PE X a (xE S E W P ro ca)) (hs : nostar a = true) :
    PE X (.Call (.Name "isinstance" p) [a, .Name (Str.ofString (tyN t)) p2] [] pos) (xE S E W P ro (.isi ca t)) := by
  have h2 : PE X (.Name (Str.ofString (tyN t)) p2) (tC (.ty (tyN t))) := pe_bltn hg2 hm2 (ty_boot ok) rfl (ty_nm ok).1 (ty_nm ok).2
  have hA : PA X [a, .Name (Str.ofString (tyN t)) p2] (tCons (xE S E W P ro ca) (tCons (tC (.ty (tyN t))) tNil)) := pa_cons ha (pa_cons h2 pa_nil (star1 rfl)) (star1 hs)
  refine imE (pe_callB call_isi hg hm PyProof.Rows.Boot.«isinstance» hA (by decide) (by decide) (star1 hs) (plain_any rfl)) fun σ H Q ⟨w, σ', m, sr, hr, f⟩ => ?_
  rw [ev] at f
  refine gE.bind sr hr f fun x m1 w1 v H1 l1 sr1 hr1 r1 f1 => ?_
  cases h : tyV P ro m1 x t with
  | none => rw [h] at f1; exact f1.elim
  | some r =>
    rw [h] at f1
    have h' : tyW t (rd ro m1 x) = some r := by
      cases t <;> first | (cases ok; done) | exact h
    obtain ⟨u, k1, k2⟩ := ty_kit (X := X) (m := m1) ok (r1.now hr1) h'
    exact ⟨v, .ty (tyN t), u, _, r, rfl, .ty _, k1, k2, f1.ok hr1 (.bl r)⟩
def gF (S : SE) (E : ED) (W : WX) (P : Pm) (ro : Mem) (l : List CE) (acc : Tx) : L2.St → Hp → (Str → Hp → Prop) → Prop := fun σ H Q => ∃ w σ' m, SR w σ' σ ∧ HR S w ro m H ∧ Fin S E W w ro σ (fun _ (a : Tx) (b : Str) => b = xS a ∧ okT a) Q (evF P ro l acc σ' m)
inductive PF (X : Cx) (S : SE) (E : ED) (W : WX) (P : Pm) (ro : Mem) : List Expr → List CE → Prop
  | nil : PF X S E W P ro [] []
  | str {t : Tx} {j : Nat} {p : Pos} {es : List Expr} {cs : List CE} (h : okTb t = true) (r : PF X S E W P ro es cs) : PF X S E W P ro (.Constant (.str (xS t)) j p :: es) (.cst (.str t) :: cs)
  | fmt {e : Expr} {c : CE} {es : List Expr} {cs : List CE} {p : Pos} (h : PE X e (xE S E W P ro c)) (r : PF X S E W P ro es cs) : PF X S E W P ro (.FormattedValue e (-1) none p :: es) (c :: cs)
theorem fs_lim {i : Int} {t : Tx} (h : fsV (.int i) = some t) : (0 ≤ i ∧ i < 10 ^ 200) ∧ t = intT i := by
  unfold fsV at h
  by_cases hc : 0 ≤ i ∧ i < 10 ^ 200
  · have h : (if 0 ≤ i ∧ i < 10 ^ 200 then some (intT i) else none) = some t := h
    rw [if_pos hc] at h
    cases h
    exact ⟨hc, rfl⟩
  · have h : (if 0 ≤ i ∧ i < 10 ^ 200 then some (intT i) else none) = some t := h
    rw [if_neg hc] at h
    cases h
theorem pf_run (h : PF X S E W P ro es cs) : ∃ ts, PJ X es ts ∧ ∀ acc σ H Q, okT acc → gF S E W P ro cs acc σ H Q → tJs ts (xS acc) σ H Q := by
  induction h with
  | nil =>
    refine ⟨[], .nil, fun acc σ H Q oa ⟨w, σ', m, sr, hr, f⟩ => ?_⟩
    rw [evF] at f
    exact Fin.ok (v := xS acc) f hr ⟨rfl, oa⟩
  | @str t j p es cs h r ih =>
    obtain ⟨ts, k1, k2⟩ := ih
    refine ⟨_ :: ts, .cons pe_str k1, fun acc σ H Q oa ⟨w, σ', m, sr, hr, f⟩ => ?_⟩
    rw [evF, ev, R.bind_ok] at f
    have f : Fin S E W w ro σ _ Q (if acc.length + t.length ≤ LIM then evF P ro cs (acc ++ t) σ' m else .stuck) := f
    split at f
    · rename_i hl
      refine ⟨xS t, rfl, ?_, ?_⟩
      · rw [← xS_app, xS_len, List.length_append]; exact lim_le hl
      · rw [← xS_app]
        exact k2 _ _ _ _ (okT_app oa (okTb_ok h) hl) ⟨w, σ', m, sr, hr, f⟩
    · exact f.elim
  | @fmt e c es cs p h r ih =>
    obtain ⟨ts, k1, k2⟩ := ih
    refine ⟨_ :: ts, .cons (pe_fmt h) k1, fun acc σ H Q oa ⟨w, σ', m, sr, hr, f⟩ => ?_⟩
    rw [evF] at f
    refine gE.bind sr hr f fun x m1 w1 v H1 l1 sr1 hr1 r1 f1 => ?_
    cases h : fsV x with
    | none => rw [h] at f1; exact f1.elim
    | some t =>
      rw [h] at f1
      have f1 : Fin S E W w1 ro σ _ Q (if acc.length + t.length ≤ LIM then evF P ro cs (acc ++ t) σ' m1 else .stuck) := f1
      split at f1
      · rename_i hl
        cases x with
        | str t' =>
          cases h
          obtain ⟨rfl, ot⟩ := r1.strI
          refine .inl ⟨_, rfl, by rw [xS_len]; exact lim_le ot.1, xS t, rfl, ?_, ?_⟩
          · rw [← xS_app, xS_len, List.length_append]; exact lim_le hl
          · rw [← xS_app]
            exact k2 _ _ _ _ (okT_app oa ot hl) ⟨w1, σ', m1, sr1, hr1, f1⟩
        | int i =>
          obtain ⟨hc, rfl⟩ := fs_lim h
          obtain rfl := r1.intI
          have e2 : ((toString i : String) : Str) = xS (intT i) := str_num hc.1
          have ot := okT_int hc.1 hc.2
          refine .inr ⟨_, rfl, log_ok hc.1 hc.2, xS (intT i), by rw [e2], ?_, ?_⟩
          · rw [← xS_app, xS_len, List.length_append]; exact lim_le hl
          · rw [← xS_app]
            exact k2 _ _ _ _ (okT_app oa ot hl) ⟨w1, σ', m1, sr1, hr1, f1⟩
        | _ => cases h
      · exact f1.elim
theorem l_fst {v1 v2 : Expr} {rest : List Expr} (h : PF X S E W P ro (v1 :: v2 :: rest) cs) : PE X (.JoinedStr (v1 :: v2 :: rest) pos) (xE S E W P ro (.fst cs)) := by
  obtain ⟨ts, k1, k2⟩ := pf_run h
  refine imE (pe_joined k1) fun σ H Q ⟨w, σ', m, sr, hr, f⟩ => ?_
  rw [ev] at f
  refine k2 [] _ _ _ ⟨Nat.zero_le _, fun _ h => by simp at h⟩ ⟨w, σ', m, sr, hr, Fin.bind f fun a m1 w1 v H1 l1 hr1 r1 f1 => ?_⟩
  obtain ⟨rfl, o⟩ := r1
  exact f1.ok hr1 (.str _ o)
end
end Av
end
section
set_option Elab.async false
set_option linter.all false
set_option maxRecDepth 100000
set_option autoImplicit false
set_option maxHeartbeats 4000000
namespace Av
open PySem PySem.Spec PyProof.Rows L2
section
variable {X : Cx}
/-- an iterator of x, by what x is -/
inductive AnyR (X : Cx) (x : V) (H : Hp) (R : It → Hp → Prop) : Prop
  | lst {a : Addr} {xs : List V} : x = .ref a → SqL X.K H a xs → R (Itl X.K a) H → AnyR X x H R
  | tup {a : Addr} {xs : List V} : x = .ref a → SqT X.K H a xs → R (Itt X.K a) H → AnyR X x H R
  | str {z : Str} : x = .str z → R (Its z) H → AnyR X x H R
  | fK {d : Addr} {o : Obj} {kvs : List (Key × V)} : x = .ref d → H d = some (.frz o (.dK kvs)) → R (Itk d o kvs) H → AnyR X x H R
  | fT {d : Addr} {o : Obj} {kvs : List (List Key × V)} : x = .ref d → H d = some (.frz o (.dT kvs)) → R (Itkt d o kvs) H → AnyR X x H R
  | uK {d : Addr} {kvs : List (Key × V)} : x = .ref d → H d = some (.dK kvs) → (∀ o, (∀ o' u', X.H_0 d ≠ some (.frz o' u')) → R (Itk d o kvs) (upd H d (.frz o (.dK kvs)))) → AnyR X x H R
  | uT {d : Addr} {kvs : List (List Key × V)} : x = .ref d → H d = some (.dT kvs) → (∀ o, (∀ o' u', X.H_0 d ≠ some (.frz o' u')) → R (Itkt d o kvs) (upd H d (.frz o (.dT kvs)))) → AnyR X x H R
theorem pi_any {tg l : Expr} {tl : TE} (hl : PE X l tl) : PI X tg l (fun σ H R => tl σ H fun x H1 => AnyR X x H1 R) := by
  refine ⟨fun pins s σ H R I h => ?_⟩
  refine thn (hl.run pins s σ H _ I h) fun v s1 ⟨x, H1, I1, r1, q1⟩ => ?_
  cases q1 with
  | @lst a xs e hq q =>
    subst e
    cases r1
    obtain ⟨its, rv, p, hz⟩ := I1.list hq
    refine wpAny_pyIter_list p.isList ?_
    refine ⟨s1.heap.objs.size, [s1.heap.objs.size], _, _, H1, rfl, I1.kept (t' := s1.toks) fun b o e => Heap.get?_push_of_some _ e, turn_list a _, ⟨_, Heap.get?_push_size _ rfl, rfl, rfl⟩, fun b hb => ?_, q⟩
    have e : b = s1.heap.objs.size := by simpa using hb
    subst e
    exact I1.fpOk (Nat.le_refl _) (I1.hok.fresh (Nat.le_refl _))
  | @tup a xs e hq q =>
    subst e
    cases r1
    obtain ⟨its, rv, p, hz⟩ := I1.tuple hq
    refine wpAny_pyIter_tuple (show s1.heap.IsTuple a its.toArray from p) ?_
    refine ⟨s1.heap.objs.size, [s1.heap.objs.size], _, _, H1, rfl, I1.kept (t' := s1.toks) fun b o e => Heap.get?_push_of_some _ e, turn_tuple a _, ⟨_, Heap.get?_push_size _ rfl, rfl, rfl⟩, fun b hb => ?_, q⟩
    have e : b = s1.heap.objs.size := by simpa using hb
    subst e
    exact I1.fpOk (Nat.le_refl _) (I1.hok.fresh (Nat.le_refl _))
  | @str z e q =>
    subst e
    obtain ⟨t, rfl⟩ := r1
    cases ha : z.cps.all (· < 128)
    · exact wpAny_pyIter_wide ha (pi_one (tk := s1.toks) I1 _ (turn_str _ z t "str_iterator" (.inr rfl)) ⟨_, Heap.get?_push_size _ rfl, rfl, rfl⟩ q)
    · exact wpAny_pyIter_ascii ha (pi_one (tk := s1.toks) I1 _ (turn_str _ z t "str_ascii_iterator" (.inl rfl)) ⟨_, Heap.get?_push_size _ rfl, rfl, rfl⟩ q)
  | @fK d o kvs e hd q =>
    subst e
    obtain rfl : v = Value.ref d := r1
    obtain ⟨hs, hgd, hx, es, ep, vs, hdt, hsz, kv, hm⟩ := I1.frzK hd
    refine iter_keys hs hgd hx hdt (pi_one (tk := s1.toks) I1 _ (turn_keys _ hdt) ⟨_, Heap.get?_push_size _ rfl, rfl, ?_⟩ q)
    rw [hsz] <;> rfl
  | @fT d o kvs e hd q =>
    subst e
    obtain rfl : v = Value.ref d := r1
    obtain ⟨hs, hgd, hx, es, ep, hdt, hsz, ent⟩ := I1.frzT hd
    refine iter_keys hs hgd hx hdt (pi_one (tk := s1.toks) I1 _ (turn_keysT _ hdt) ⟨_, Heap.get?_push_size _ rfl, rfl, ?_⟩ q)
    rw [hsz] <;> rfl
  | @uK d kvs e hd q =>
    subst e
    obtain rfl : v = Value.ref d := r1
    obtain ⟨o, I2⟩ := I1.lock hd trivial
    have q := q o (I1.nofrz hd trivial)
    obtain ⟨hs, hgd, hx, es, ep, vs, hdt, hsz, kv, hm⟩ := I2.frzK upd_same
    refine iter_keys hs hgd hx hdt (pi_one (tk := s1.toks) I2 _ (turn_keys _ hdt) ⟨_, Heap.get?_push_size _ rfl, rfl, ?_⟩ q)
    rw [hsz] <;> rfl
  | @uT d kvs e hd q =>
    subst e
    obtain rfl : v = Value.ref d := r1
    obtain ⟨o, I2⟩ := I1.lock hd trivial
    have q := q o (I1.nofrz hd trivial)
    obtain ⟨hs, hgd, hx, es, ep, hdt, hsz, ent⟩ := I2.frzT upd_same
    refine iter_keys hs hgd hx hdt (pi_one (tk := s1.toks) I2 _ (turn_keysT _ hdt) ⟨_, Heap.get?_push_size _ rfl, rfl, ?_⟩ q)
    rw [hsz] <;> rfl
end
end Av
end
section
set_option Elab.async false
set_option linter.all false
set_option maxRecDepth 100000
set_option autoImplicit false
set_option maxHeartbeats 4000000
namespace Av
open PySem PySem.Spec PyProof.Rows L2
def Wd.lkA (w : Wd) (a : Addr) (ob : Obj × HO) : Wd := { w with lk := fun b => if b = a then some ob else w.lk b }
def Wd.ulA (w : Wd) (a : Addr) : Wd := { w with lk := fun b => if b = a then none else w.lk b }
def Wd.llM (w : Wd) (n : Nat) (o : Ob) : Wd := { w with ll := fun k => if k = n then some o else w.ll k }
def Wd.ulM (w : Wd) (n : Nat) : Wd := { w with ll := fun k => if k = n then none else w.ll k }
structure Wd.LeX (w w' : Wd) : Prop where
  io : ∀ n a, w.io n = some a → w'.io n = some a
  fz : ∀ a o, w.fz a = some o → w'.fz a = some o
  xe : ∀ a o, w.xe a = some o → w'.xe a = some o
  lk : w'.lk = w.lk
  ll : w'.ll = w.ll
  hd : ∀ a o, w.hd a = some o → w'.hd a = some o
  cur : w'.cur = w.cur
theorem Wd.LeX.sub {w w' : Wd} (l : w.LeX w') : w.Sub w' := ⟨l.io, l.fz, l.xe⟩
theorem Wd.LeX.refl (w : Wd) : w.LeX w := ⟨fun _ _ h => h, fun _ _ h => h, fun _ _ h => h, rfl, rfl, fun _ _ h => h, rfl⟩
theorem Wd.Le.x {w w' : Wd} (l : w.Le w') : w.LeX w' := ⟨l.io, l.fz, l.xe, l.lk, l.ll, fun a o h => by rw [l.hd]; exact h, l.cur⟩
theorem Wd.LeX.trans {a b c : Wd} (x : a.LeX b) (y : b.LeX c) : a.LeX c := ⟨fun n p h => y.io n p (x.io n p h), fun n p h => y.fz n p (x.fz n p h), fun n p h => y.xe n p (x.xe n p h), y.lk.trans x.lk, y.ll.trans x.ll, fun p o h => y.hd p o (x.hd p o h), y.cur.trans x.cur⟩
/-- the locks, the held things, as they were -/
def Wd.back (w w2 : Wd) : Wd := { w2 with lk := w.lk, ll := w.ll, hd := w.hd, cur := w.cur }
theorem Wd.sLL {w : Wd} {n : Nat} {o : Ob} : w.Sub (w.llM n o) := ⟨fun _ _ h => h, fun _ _ h => h, fun _ _ h => h⟩
theorem Wd.sUL {w : Wd} {n : Nat} : w.Sub (w.ulM n) := ⟨fun _ _ h => h, fun _ _ h => h, fun _ _ h => h⟩
theorem Wd.sLA {w : Wd} {a : Addr} {o : Obj × HO} : w.Sub (w.lkA a o) := ⟨fun _ _ h => h, fun _ _ h => h, fun _ _ h => h⟩
theorem Wd.sUA {w : Wd} {a : Addr} : w.Sub (w.ulA a) := ⟨fun _ _ h => h, fun _ _ h => h, fun _ _ h => h⟩
theorem Wd.sHD {w : Wd} {h : Hp} : w.Sub { w with hd := h } := ⟨fun _ _ h => h, fun _ _ h => h, fun _ _ h => h⟩
section
variable {S : SE} {X : Cx} {w w1 w2 : Wd} {ro m m2 : Mem} {H H1 H2 : Hp}
theorem Wd.sCur {w : Wd} {c : Option (Nat × Addr × Nat × List Str × Addr)} : w.Sub { w with cur := c } := ⟨fun _ _ h => h, fun _ _ h => h, fun _ _ h => h⟩
theorem RelF.curS {w : Wd} {c : Option (Nat × Addr × Nat × List Str × Addr)} : ∀ {ds : List (Nat × D)} {vs : List (Str × V)}, RelF S w ds vs → RelF { S with cur := c } w ds vs
  | _, _, .nil => .nil
  | _, _, .cons r s => .cons (S := { S with cur := c }) r (RelF.curS s)
theorem ObR.curS {w : Wd} {H : Hp} {a : Addr} {c : Option (Nat × Addr × Nat × List Str × Addr)} : ∀ {o : Ob}, ObR S w H a o → ObR { S with cur := c } w H a o
  | .lst ds, h => h
  | .dct kvs, h => h
  | .ins k fs, ⟨h1, h2, dx, vs, h3, h4⟩ => ⟨h1, h2, dx, vs, h3, h4.curS⟩
  | .lk (.lst ds), h => h
  | .lk (.dct kvs), h => h
  | .lk (.ins _ _), h => h
  | .lk (.lk _), h => h
/-- another exception in hand -/
theorem HR.curw {c : Option (Nat × Addr × Nat × List Str × Addr)} (hr : HR S w ro m H) : HR { S with cur := c } { w with cur := c } ro m H :=
  ⟨hr.len, fun n o e => let ⟨a, h1, h2⟩ := hr.live n o e; ⟨a, h1, (show ObR S { w with cur := c } H a o from ObR.sub (w := w) (w' := { w with cur := c }) ⟨fun _ _ h => h, fun _ _ h => h, fun _ _ h => h⟩ rfl rfl h2).curS⟩, hr.inj, hr.sep, fun a o e => (hr.fz a o e).sub rfl rfl, hr.lkd, hr.unl, hr.lkl, hr.hld, hr.hsf, hr.hdt, hr.hsi, hr.tab, rfl⟩
theorem HR.hdw {h : Hp} (hr : HR S w ro m H) (hh : ∀ a o, h a = some o → w.hd a = some o) : HR S { w with hd := h } ro m H :=
  ⟨hr.len, fun n o e => let ⟨a, h1, h2⟩ := hr.live n o e; ⟨a, h1, h2.sub Wd.sHD rfl rfl⟩, hr.inj, hr.sep, fun a o e => (hr.fz a o e).sub rfl rfl, hr.lkd, hr.unl, hr.lkl, fun a o e => hr.hld a o (hh a o e), fun a o e => hr.hsf a o (hh a o e), fun a o e => hr.hdt a o (hh a o e), fun a o n e => hr.hsi a o n (hh a o e), fun P hP => ⟨(hr.tab P hP).1, (by
    show h P = none
    cases e : h P with
    | none => rfl
    | some u => have := hh P u e; rw [(hr.tab P hP).2.1] at this; cases this), (hr.tab P hP).2.2⟩, hr.cur⟩
theorem ObR.lkd' {a : Addr} {o : Ob} (hl : (∃ ds, o = .lst ds) ∨ ∃ kvs, o = .dct kvs) : ObR S w H a (.lk o) ↔ ObR S w H a o := by
  rcases hl with ⟨ds, rfl⟩ | ⟨kvs, rfl⟩ <;> exact Iff.rfl
theorem get_set (ro m : Mem) (j : Nat) (o : Ob) (hj : j < m.length) (k : Nat) : (ro ++ m.set j o)[k]? = if k = ro.length + j then some o else (ro ++ m)[k]? := by
  by_cases hk : k < ro.length
  · rw [List.getElem?_append_left hk, List.getElem?_append_left hk, if_neg (by omega)]
  · rw [List.getElem?_append_right (by omega), List.getElem?_append_right (by omega)]
    by_cases hkn : k = ro.length + j
    · subst hkn
      rw [if_pos rfl, show ro.length + j - ro.length = j by omega, List.getElem?_set_self hj]
    · rw [if_neg hkn, List.getElem?_set_ne (by omega)]
/-- a place of the memory is locked -/
theorem HR.lkM {j : Nat} {o : Ob} (hr : HR S w ro m H) (hj : m[j]? = some o) (hl : (∃ ds, o = .lst ds) ∨ ∃ kvs, o = .dct kvs) : HR S (w.llM (ro.length + j) o) ro (m.set j (.lk o)) H := by
  have hjl : j < m.length := (List.getElem?_eq_some_iff.mp hj).1
  have hg : (ro ++ m)[ro.length + j]? = some o := by rw [List.getElem?_append_right (by omega), show ro.length + j - ro.length = j by omega]; exact hj
  refine ⟨fun n a e => ?_, fun n o' e => ?_, hr.inj, hr.sep, fun a u e => (hr.fz a u e).sub rfl rfl, hr.lkd, fun n a kvs e e' => ?_, fun n o' => ?_, hr.hld, hr.hsf, hr.hdt, hr.hsi, hr.tab, hr.cur⟩
  · have := hr.len n a e
    simpa using this
  · rw [get_set _ _ _ _ hjl] at e
    split at e
    · rename_i hn
      cases e
      obtain ⟨a, h1, h2⟩ := hr.live n o (by rw [hn]; exact hg)
      exact ⟨a, h1, (ObR.lkd' hl).mpr (h2.sub Wd.sLL rfl rfl)⟩
    · obtain ⟨a, h1, h2⟩ := hr.live n o' e
      exact ⟨a, h1, h2.sub Wd.sLL rfl rfl⟩
  · by_cases hn : n = j
    · subst hn
      rw [List.getElem?_set_self hjl] at e; cases e
    · rw [List.getElem?_set_ne (by omega)] at e
      exact hr.unl n a kvs e e'
  · show (if n = ro.length + j then some o else w.ll n) = some o' ↔ _
    rw [get_set _ _ _ _ hjl]
    split
    · exact ⟨fun e => by cases e; rfl, fun e => by cases e; rfl⟩
    · exact hr.lkl n o'
theorem HR.ulM {j : Nat} {o : Ob} (hr : HR S w ro m H) (hj : m[j]? = some (.lk o)) (hl : (∃ ds, o = .lst ds) ∨ ∃ kvs, o = .dct kvs) (hu : ∀ a kvs, o = .dct kvs → w.io (ro.length + j) = some a → w.lk a = none) : HR S (w.ulM (ro.length + j)) ro (m.set j o) H := by
  have hjl : j < m.length := (List.getElem?_eq_some_iff.mp hj).1
  have hg : (ro ++ m)[ro.length + j]? = some (.lk o) := by rw [List.getElem?_append_right (by omega), show ro.length + j - ro.length = j by omega]; exact hj
  refine ⟨fun n a e => ?_, fun n o' e => ?_, hr.inj, hr.sep, fun a u e => (hr.fz a u e).sub rfl rfl, hr.lkd, fun n a kvs e e' => ?_, fun n o' => ?_, hr.hld, hr.hsf, hr.hdt, hr.hsi, hr.tab, hr.cur⟩
  · have := hr.len n a e
    simpa using this
  · rw [get_set _ _ _ _ hjl] at e
    split at e
    · rename_i hn
      cases e
      obtain ⟨a, h1, h2⟩ := hr.live n (.lk o) (by rw [hn]; exact hg)
      exact ⟨a, h1, ((ObR.lkd' hl).mp h2).sub Wd.sUL rfl rfl⟩
    · obtain ⟨a, h1, h2⟩ := hr.live n o' e
      exact ⟨a, h1, h2.sub Wd.sUL rfl rfl⟩
  · by_cases hn : n = j
    · subst hn
      rw [List.getElem?_set_self hjl] at e; cases e
      exact hu a kvs rfl e'
    · rw [List.getElem?_set_ne (by omega)] at e
      exact hr.unl n a kvs e e'
  · show (if n = ro.length + j then none else w.ll n) = some o' ↔ _
    rw [get_set _ _ _ _ hjl]
    split
    · refine ⟨fun e => (nomatch e), fun e => ?_⟩
      cases e
      rcases hl with ⟨_, z⟩ | ⟨_, z⟩ <;> cases z
    · exact hr.lkl n o'
theorem HR.lkA {a : Addr} {o : HO} (ob : Obj) (hr : HR S w ro m H) (hn : w.lk a = none) (ha : H a = some o) (hf : Full o) (hh : w.hd a = none) (hun : ∀ k kvs, m[k]? = some (.dct kvs) → w.io (ro.length + k) ≠ some a) : HR S (w.lkA a (ob, o)) ro m (upd H a (.frz ob o)) := by
  have same : ∀ b, b ≠ a → (w.lkA a (ob, o)).lk b = w.lk b := fun b hb => if_neg hb
  have lka : (w.lkA a (ob, o)).lk a = some (ob, o) := if_pos rfl
  have atA : ∀ o', At w H a o' → At (w.lkA a (ob, o)) (upd H a (.frz ob o)) a o' := fun o' h => by
    have h := h.un hn
    rw [ha] at h; cases h
    unfold At
    rw [lka]
    exact upd_same
  refine ⟨hr.len, fun n o' e => ?_, hr.inj, hr.sep, fun b u e => ?_, fun b ob' e => ?_, fun n b kvs e e' => ?_, hr.lkl, fun b u e => ?_, hr.hsf, hr.hdt, hr.hsi, hr.tab.put (fun ps z => by rw [ha] at z; cases z; rcases hf with ⟨_, _, z⟩ | ⟨_, _, z⟩ <;> cases z) (fun _ _ => rfl) fun _ _ => rfl, hr.cur⟩
  · obtain ⟨b, h1, h2⟩ := hr.live n o' e
    refine ⟨b, h1, ?_⟩
    by_cases hb : b = a
    · subst hb
      match o', h2 with
      | .lst ds, ⟨_, _, vs, h3, _⟩ => rw [ha] at h3; cases h3; rcases hf with ⟨_, _, z⟩ | ⟨_, _, z⟩ <;> cases z
      | .dct kvs, ⟨h3, o2, h4, h5⟩ => exact ⟨h3, o2, atA o2 h4, h5.sub Wd.sLA⟩
      | .ins c fs, ⟨_, _, dx, vs, h3, _⟩ => rw [ha] at h3; cases h3; rcases hf with ⟨_, _, z⟩ | ⟨_, _, z⟩ <;> cases z
      | .lk (.lst ds), ⟨_, _, vs, h3, _⟩ => rw [ha] at h3; cases h3; rcases hf with ⟨_, _, z⟩ | ⟨_, _, z⟩ <;> cases z
      | .lk (.dct kvs), ⟨h3, o2, h4, h5⟩ => exact ⟨h3, o2, atA o2 h4, h5.sub Wd.sLA⟩
      | .lk (.ins _ _), h => exact h.elim
      | .lk (.lk _), h => exact h.elim
    · exact h2.sub Wd.sLA (same b hb) (upd_ne hb)
  · by_cases hb : b = a
    · subst hb
      exact atA u (hr.fz b u e)
    · exact (hr.fz b u e).sub (same b hb) (upd_ne hb)
  · by_cases hb : b = a
    · subst hb
      rw [lka] at e; cases e
      exact ⟨upd_same, hf⟩
    · rw [same b hb] at e
      rw [upd_ne hb]
      exact hr.lkd b ob' e
  · by_cases hb : b = a
    · subst hb; exact absurd e' (hun n kvs e)
    · rw [same b hb]; exact hr.unl n b kvs e e'
  · have e : w.hd b = some u := e
    rw [upd_ne (fun z => by rw [z, hh] at e; cases e)]
    exact hr.hld b u e
theorem HR.ulA {a : Addr} {o : HO} {ob : Obj × HO} (hr : HR S w ro m H) (hn : w.lk a = some ob) (ha : H a = some (.frz ob.1 o)) (hh : w.hd a = none) : HR S (w.ulA a) ro m (upd H a o) := by
  have same : ∀ b, b ≠ a → (w.ulA a).lk b = w.lk b := fun b hb => if_neg hb
  have lka : (w.ulA a).lk a = none := if_pos rfl
  have atA : ∀ o', At w H a o' → At (w.ulA a) (upd H a o) a o' := fun o' h => by
    unfold At at h ⊢
    rw [hn] at h
    rw [lka]
    have h : H a = some (.frz ob.1 o') := h
    rw [ha] at h; cases h
    exact upd_same
  refine ⟨hr.len, fun n o' e => ?_, hr.inj, hr.sep, fun b u e => ?_, fun b ob' e => ?_, fun n b kvs e e' => ?_, hr.lkl, fun b u e => ?_, hr.hsf, hr.hdt, hr.hsi, hr.tab.put (fun ps z => by rw [ha] at z; cases z) (fun _ _ => rfl) fun _ _ => rfl, hr.cur⟩
  · obtain ⟨b, h1, h2⟩ := hr.live n o' e
    refine ⟨b, h1, ?_⟩
    by_cases hb : b = a
    · subst hb
      match o', h2 with
      | .lst ds, ⟨z, _⟩ => rw [hn] at z; cases z
      | .dct kvs, ⟨h3, o2, h4, h5⟩ => exact ⟨h3, o2, atA o2 h4, h5.sub Wd.sUA⟩
      | .ins c fs, ⟨z, _⟩ => rw [hn] at z; cases z
      | .lk (.lst ds), ⟨z, _⟩ => rw [hn] at z; cases z
      | .lk (.dct kvs), ⟨h3, o2, h4, h5⟩ => exact ⟨h3, o2, atA o2 h4, h5.sub Wd.sUA⟩
      | .lk (.ins _ _), h => exact h.elim
      | .lk (.lk _), h => exact h.elim
    · exact h2.sub Wd.sUA (same b hb) (upd_ne hb)
  · by_cases hb : b = a
    · subst hb
      exact atA u (hr.fz b u e)
    · exact (hr.fz b u e).sub (same b hb) (upd_ne hb)
  · by_cases hb : b = a
    · subst hb
      rw [lka] at e; cases e
    · rw [same b hb] at e
      rw [upd_ne hb]
      exact hr.lkd b ob' e
  · by_cases hb : b = a
    · subst hb; exact lka
    · rw [same b hb]; exact hr.unl n b kvs e e'
  · have e : w.hd b = some u := e
    rw [upd_ne (fun z => by rw [z, hh] at e; cases e)]
    exact hr.hld b u e
end
end Av
end
section
set_option Elab.async false
set_option linter.all false
set_option maxRecDepth 100000
set_option autoImplicit false
set_option maxHeartbeats 4000000
namespace Av
open PySem PySem.Spec PyProof.Rows L2
/-- J walks ds from the world w on -/
structure WalkOk (S : SE) (X : Cx) (ro : Mem) (w : Wd) (m : Mem) (ds : List D) (j : Option Nat) (dk : Bool) (J : It) (w1 : Wd) (H1 : Hp) : Prop where
  len : ds.length ≤ LIM
  hr : HR S w1 ro (lockM m j) H1
  io : w1.io = w.io
  fz : w1.fz = w.fz
  hd : w1.hd = w.hd
  xe : w1.xe = w.xe
  cur : w1.cur = w.cur
  go : ∀ w2 m2 H2 i, w1.LeX w2 → HR S w2 ro m2 H2 → i < ds.length → J.go i H2
  yld : ∀ w2 m2 H2 i x H', w1.LeX w2 → HR S w2 ro m2 H2 → i < ds.length → J.yld i H2 x H' → H' = H2 ∧ ∃ d w3, ds[i]? = some d ∧ w2.Le w3 ∧ HR S w3 ro m2 H2 ∧ RelD w3 d x
  stop : ∀ w2 m2 H2 i, w1.LeX w2 → HR S w2 ro m2 H2 → ds.length ≤ i → J.stop i H2
  back : ∀ w2 m2 H2, w1.LeX w2 → HR S w2 ro m2 H2 → HR S (w.back w2) ro (unlockM m2 j) H2 ∨ ∃ d od u, H2 d = some (.frz od u) ∧ (∀ o' u', X.H_0 d ≠ some (.frz o' u')) ∧ (w.hd d = none ∧ dk = true) ∧ HR S (w.back w2) ro (unlockM m2 j) (upd H2 d u)
section
variable {S : SE} {X : Cx} {w w1 w2 : Wd} {ro m m2 : Mem} {H H1 H2 : Hp} {ds : List D} {R : It → Hp → Prop}
theorem Wd.back_le (h : ∀ n a, w.io n = some a → w2.io n = some a) (h2 : ∀ a o, w.fz a = some o → w2.fz a = some o) (h3 : ∀ a o, w.xe a = some o → w2.xe a = some o) : w.Le (w.back w2) := ⟨h, h2, h3, rfl, rfl, rfl, rfl⟩
theorem Wd.back_sub : w2.Sub (w.back w2) := ⟨fun _ _ h => h, fun _ _ h => h, fun _ _ h => h⟩
theorem back0 (l : w.LeX w2) (hr : HR S w2 ro m2 H2) : HR S (w.back w2) ro m2 H2 := by
  have := hr.hdw (h := w.hd) l.hd
  have e : w.back w2 = { w2 with hd := w.hd } := by unfold Wd.back; rw [← l.lk, ← l.ll, ← l.cur]
  rw [e]; exact this
theorem lockAt_some {d : D} {j : Nat} (h : lockAt ro m d = some j) : ∃ o, d = .ref (ro.length + j) ∧ m[j]? = some o ∧ ((∃ a r, o = .lst (a :: r)) ∨ ∃ a r, o = .dct (a :: r)) := by
  unfold lockAt at h
  split at h
  · rename_i n
    split at h
    · cases h
    · rename_i hn
      split at h
      · rename_i a r e
        cases h
        exact ⟨_, by rw [show ro.length + (n - ro.length) = n by omega], e, .inl ⟨a, r, rfl⟩⟩
      · rename_i a r e
        cases h
        exact ⟨_, by rw [show ro.length + (n - ro.length) = n by omega], e, .inr ⟨a, r, rfl⟩⟩
      · cases h
  · cases h
theorem lockM_some {j : Nat} {o : Ob} (h : m[j]? = some o) : lockM m (some j) = m.set j (.lk o) := by
  unfold lockM
  simp only [h]
theorem unlockM_some {j : Nat} {o : Ob} (h : m[j]? = some (.lk o)) : unlockM m (some j) = m.set j o := by
  unfold unlockM
  simp only [h]
/-- behind a lock of the memory -/
theorem backM {j : Nat} {o : Ob} (l : (w.llM (ro.length + j) o).LeX w2) (hl : (∃ ds, o = .lst ds) ∨ ∃ kvs, o = .dct kvs) (hn : w.ll (ro.length + j) = none) (hr : HR S w2 ro m2 H2) (hu : ∀ a kvs, o = .dct kvs → w2.io (ro.length + j) = some a → w2.lk a = none) :
    HR S (w.back w2) ro (unlockM m2 (some j)) H2 := by
  have e : w2.ll (ro.length + j) = some o := by rw [l.ll]; exact if_pos rfl
  have g := (hr.lkl _ _).mp e
  have hj : m2[j]? = some (.lk o) := by
    rw [List.getElem?_append_right (by omega), show ro.length + j - ro.length = j by omega] at g
    exact g
  rw [unlockM_some hj]
  have h1 := hr.ulM hj hl hu
  have h2 := h1.hdw (h := w.hd) l.hd
  have e2 : w.back w2 = { w2.ulM (ro.length + j) with hd := w.hd } := by
    unfold Wd.back Wd.ulM
    have el : w.lk = w2.lk := l.lk.symm
    have ell : w.ll = fun k => if k = ro.length + j then none else w2.ll k := by
      funext k
      rw [l.ll]
      show w.ll k = if k = ro.length + j then none else (if k = ro.length + j then some o else w.ll k)
      split
      · rename_i hk; rw [hk]; exact hn
      · rfl
    rw [el, ell, show w.cur = w2.cur from l.cur.symm]
  rw [e2]; exact h2
/-- a list that stands there -/
theorem itl_facts {a : Addr} (K : PySem.W.Frag) (h : ∀ w2 m2 H2, w1.LeX w2 → HR S w2 ro m2 H2 → ∃ vs, H2 a = some (.lst vs) ∧ RelDs w2 ds vs) :
    (∀ w2 m2 H2 i, w1.LeX w2 → HR S w2 ro m2 H2 → i < ds.length → (Itl K a).go i H2) ∧
    (∀ w2 m2 H2 i x H', w1.LeX w2 → HR S w2 ro m2 H2 → i < ds.length → (Itl K a).yld i H2 x H' → H' = H2 ∧ ∃ d w3, ds[i]? = some d ∧ w2.Le w3 ∧ HR S w3 ro m2 H2 ∧ RelD w3 d x) ∧
    (∀ w2 m2 H2 i, w1.LeX w2 → HR S w2 ro m2 H2 → ds.length ≤ i → (Itl K a).stop i H2) := by
  refine ⟨fun w2 m2 H2 i l hr hi => ?_, fun w2 m2 H2 i x H' l hr _ y => ?_, fun w2 m2 H2 i l hr hi => ?_⟩
  · obtain ⟨vs, e, r⟩ := h w2 m2 H2 l hr
    rw [RelDs.length r] at hi
    exact ⟨vs, vs[i], SqL.of e, by simp [hi]⟩
  · obtain ⟨vs, e, r⟩ := h w2 m2 H2 l hr
    obtain ⟨rfl, y⟩ := y
    obtain ⟨d, hd, rd⟩ := r.getV (y vs (SqL.of e))
    exact ⟨rfl, d, w2, hd, .refl w2, hr, rd⟩
  · obtain ⟨vs, e, r⟩ := h w2 m2 H2 l hr
    rw [RelDs.length r] at hi
    exact ⟨vs, SqL.of e, hi⟩
theorem itt_facts {a : Addr} (K : PySem.W.Frag) (h : ∀ w2 m2 H2, w1.LeX w2 → HR S w2 ro m2 H2 → ∃ vs, H2 a = some (.tup vs) ∧ RelDs w2 ds vs) :
    (∀ w2 m2 H2 i, w1.LeX w2 → HR S w2 ro m2 H2 → i < ds.length → (Itt K a).go i H2) ∧
    (∀ w2 m2 H2 i x H', w1.LeX w2 → HR S w2 ro m2 H2 → i < ds.length → (Itt K a).yld i H2 x H' → H' = H2 ∧ ∃ d w3, ds[i]? = some d ∧ w2.Le w3 ∧ HR S w3 ro m2 H2 ∧ RelD w3 d x) ∧
    (∀ w2 m2 H2 i, w1.LeX w2 → HR S w2 ro m2 H2 → ds.length ≤ i → (Itt K a).stop i H2) := by
  refine ⟨fun w2 m2 H2 i l hr hi => ?_, fun w2 m2 H2 i x H' l hr _ y => ?_, fun w2 m2 H2 i l hr hi => ?_⟩
  · obtain ⟨vs, e, r⟩ := h w2 m2 H2 l hr
    rw [RelDs.length r] at hi
    exact ⟨vs, vs[i], SqT.of e, by simp [hi]⟩
  · obtain ⟨vs, e, r⟩ := h w2 m2 H2 l hr
    obtain ⟨rfl, y⟩ := y
    obtain ⟨d, hd, rd⟩ := r.getV (y vs (SqT.of e))
    exact ⟨rfl, d, w2, hd, .refl w2, hr, rd⟩
  · obtain ⟨vs, e, r⟩ := h w2 m2 H2 l hr
    rw [RelDs.length r] at hi
    exact ⟨vs, SqT.of e, hi⟩
theorem RelK.nth : ∀ {kvs : List (Ky × D)} {ps : List (Key × V)} {i : Nat} {k : Key} {v : V}, RelK w kvs ps → ps[i]? = some (k, v) → ∃ kd d, kvs[i]? = some (kd, d) ∧ kK kd = some k ∧ kLim kd = true
  | _, _, _, _, _, .nil, e => by simp at e
  | _, _, 0, k, v, .cons (k := kd) (d := d) a b _ _, e => by simp at e; obtain ⟨rfl, rfl⟩ := e; exact ⟨kd, d, rfl, a, b⟩
  | _, _, i + 1, k, v, .cons _ _ _ s, e => by
    obtain ⟨kd, d, h1, h2⟩ := RelK.nth (i := i) s (by simpa using e)
    exact ⟨kd, d, by simpa using h1, h2⟩
theorem RelT.nth : ∀ {kvs : List (Ky × D)} {ps : List (List Key × V)} {i : Nat} {k : List Key} {v : V}, RelT w kvs ps → ps[i]? = some (k, v) → ∃ kd d, kvs[i]? = some (kd, d) ∧ kT kd = some k ∧ kLim kd = true
  | _, _, _, _, _, .nil, e => by simp at e
  | _, _, 0, k, v, .cons (k := kd) (d := d) a b _ _, e => by simp at e; obtain ⟨rfl, rfl⟩ := e; exact ⟨kd, d, rfl, a, b⟩
  | _, _, i + 1, k, v, .cons _ _ _ s, e => by
    obtain ⟨kd, d, h1, h2⟩ := RelT.nth (i := i) s (by simpa using e)
    exact ⟨kd, d, by simpa using h1, h2⟩
/-- a dict that is walked -/
structure DictAt (S : SE) (ro : Mem) (w : Wd) (m : Mem) (H : Hp) (a : Addr) (kvs : List (Ky × D)) (j : Option Nat) (o : HO) : Prop where
  at_ : At w H a o
  rel : RelO w kvs o
  trk : (∃ u, w.fz a = some u) ∨ ∃ n, w.io n = some a
  own : ∀ k kvs', m[k]? = some (.dct kvs') → w.io (ro.length + k) = some a → j = some k
  mem : ∀ k, j = some k → m[k]? = some (.dct kvs) ∧ w.io (ro.length + k) = some a
theorem hd_none {a : Addr} (hr : HR S w ro m H) (h : (∃ u, w.fz a = some u) ∨ ∃ n, w.io n = some a) : w.hd a = none := by
  cases e : w.hd a with
  | none => rfl
  | some u =>
    rcases h with ⟨v, h⟩ | ⟨n, h⟩
    · rw [hr.hsf a u e] at h; cases h
    · exact absurd h (hr.hsi a u n e)
def memLk (w : Wd) (ro : Mem) (j : Option Nat) (o : Ob) : Wd := match j with
  | some j => w.llM (ro.length + j) o
  | none => w
theorem memLk_hr {j : Option Nat} {kvs : List (Ky × D)} (hr : HR S w ro m H) (h : ∀ k, j = some k → m[k]? = some (.dct kvs)) : HR S (memLk w ro j (.dct kvs)) ro (lockM m j) H := by
  cases j with
  | none => exact hr
  | some k =>
    rw [lockM_some (h k rfl)]
    exact hr.lkM (h k rfl) (.inr ⟨kvs, rfl⟩)
theorem memLk_cur {j : Option Nat} {o : Ob} : (memLk w ro j o).cur = w.cur := by
  unfold memLk
  cases j with
  | none => rfl
  | some j => rfl
theorem memLk_xe {j : Option Nat} {o : Ob} : (memLk w ro j o).xe = w.xe := by
  unfold memLk
  cases j with
  | none => rfl
  | some j => rfl
theorem memLk_eq {j : Option Nat} {o : Ob} : (memLk w ro j o).io = w.io ∧ (memLk w ro j o).fz = w.fz ∧ (memLk w ro j o).lk = w.lk ∧ (memLk w ro j o).hd = w.hd := by
  cases j <;> exact ⟨rfl, rfl, rfl, rfl⟩
theorem back_dict {a : Addr} {kvs : List (Ky × D)} {j : Option Nat} {o : HO} {ob : Obj} (d : DictAt S ro w m H a kvs j o) (hr0 : HR S w ro m H) (hn : w.lk a = none) (l : ((memLk w ro j (.dct kvs)).lkA a (ob, o)).LeX w2) (hr : HR S w2 ro m2 H2) :
    H2 a = some (.frz ob o) ∧ HR S (w.back w2) ro (unlockM m2 j) (upd H2 a o) := by
  have el : w2.lk a = some (ob, o) := by rw [l.lk]; exact if_pos rfl
  obtain ⟨e2, hf⟩ := hr.lkd a _ el
  refine ⟨e2, ?_⟩
  have trk2 : (∃ u, w2.fz a = some u) ∨ ∃ n, w2.io n = some a := by
    rcases d.trk with ⟨u, h⟩ | ⟨n, h⟩
    · exact .inl ⟨u, l.fz _ _ (by rw [show ((memLk w ro j (.dct kvs)).lkA a (ob, o)).fz = w.fz from memLk_eq.2.1]; exact h)⟩
    · exact .inr ⟨n, l.io _ _ (by rw [show ((memLk w ro j (.dct kvs)).lkA a (ob, o)).io = w.io from memLk_eq.1]; exact h)⟩
  have h3 := hr.ulA el e2 (hd_none hr trk2)
  have el2 : (w2.ulA a).lk = w.lk := by
    funext b
    show (if b = a then none else w2.lk b) = w.lk b
    by_cases hb : b = a
    · rw [if_pos hb, hb, hn]
    · rw [if_neg hb, l.lk]
      show (if b = a then some (ob, o) else (memLk w ro j (.dct kvs)).lk b) = w.lk b
      rw [if_neg hb, memLk_eq.2.2.1]
  have l2 : (memLk w ro j (.dct kvs)).LeX (w2.ulA a) := ⟨l.io, l.fz, l.xe, by rw [el2, memLk_eq.2.2.1], l.ll, l.hd, l.cur⟩
  show HR S (w.back (w2.ulA a)) ro (unlockM m2 j) (upd H2 a o)
  cases j with
  | none => exact back0 l2 h3
  | some k =>
    obtain ⟨q1, q2⟩ := d.mem k rfl
    have g : (ro ++ m)[ro.length + k]? = some (.dct kvs) := by rw [List.getElem?_append_right (by omega), show ro.length + k - ro.length = k by omega]; exact q1
    have hll : w.ll (ro.length + k) = none := by
      cases e : w.ll (ro.length + k) with
      | none => rfl
      | some o' => rw [(hr0.lkl _ _).mp e] at g; cases g
    refine backM l2 (.inr ⟨kvs, rfl⟩) hll h3 fun b kvs' _ hb => ?_
    have : w2.io (ro.length + k) = some a := l.io _ _ q2
    have hb : w2.io (ro.length + k) = some b := hb
    rw [this] at hb; cases hb
    exact if_pos rfl
theorem lkA_hr {a : Addr} {kvs : List (Ky × D)} {j : Option Nat} {o : HO} (ob : Obj) (d : DictAt S ro w m H a kvs j o) (hr : HR S w ro m H) (hn : w.lk a = none) (hf : Full o) : HR S ((memLk w ro j (.dct kvs)).lkA a (ob, o)) ro (lockM m j) (upd H a (.frz ob o)) := by
  have h1 := memLk_hr (j := j) hr fun k e => (d.mem k e).1
  refine h1.lkA ob (by rw [memLk_eq.2.2.1]; exact hn) (d.at_.un hn) hf (by rw [memLk_eq.2.2.2]; exact hd_none hr d.trk) fun k kvs' e e' => ?_
  rw [memLk_eq.1] at e'
  cases j with
  | none =>
    have := d.own k kvs' e e'
    cases this
  | some j =>
    obtain ⟨q1, q2⟩ := d.mem j rfl
    rw [lockM_some q1] at e
    have : ro.length + k = ro.length + j := hr.inj _ _ _ e' q2
    have hk : k = j := by omega
    subst hk
    rw [List.getElem?_set_self (List.getElem?_eq_some_iff.mp q1).1] at e
    cases e
theorem RelK.len_map {kvs : List (Ky × D)} : (kvs.map fun kv => dK kv.1).length = kvs.length := List.length_map _
theorem walk_dict (hK : X.K = S.K) {a : Addr} {kvs : List (Ky × D)} {j : Option Nat} {o : HO} (hr : HR S w ro m H) (d : DictAt S ro w m H a kvs j o) (hne : kvs ≠ []) (hl0 : kvs.length ≤ LIM)
    (k : ∀ J w1 H1, WalkOk S X ro w m (kvs.map fun kv => dK kv.1) j true J w1 H1 → R J H1) : AnyR X (.ref a) H R := by
  have hlen : (kvs.map fun kv => dK kv.1).length ≤ LIM := by rw [List.length_map]; exact hl0
  have full : Full o := by
    cases d.rel with
    | k r => cases r with
      | nil => exact absurd rfl hne
      | cons _ _ _ _ => exact .inl ⟨_, _, rfl⟩
    | t r => cases r with
      | nil => exact absurd rfl hne
      | cons _ _ _ _ => exact .inr ⟨_, _, rfl⟩
  -- the facts, where the dict stands locked
  have fK : ∀ (w1 : Wd) (ob : Obj) (ps : List (Key × V)), w.Sub w1 → RelK w kvs ps → w1.lk a = some (ob, .dK ps) →
      (∀ w2 m2 H2 i, w1.LeX w2 → HR S w2 ro m2 H2 → i < (kvs.map fun kv => dK kv.1).length → (Itk a ob ps).go i H2) ∧
      (∀ w2 m2 H2 i x H', w1.LeX w2 → HR S w2 ro m2 H2 → i < (kvs.map fun kv => dK kv.1).length → (Itk a ob ps).yld i H2 x H' → H' = H2 ∧ ∃ d w3, (kvs.map fun kv => dK kv.1)[i]? = some d ∧ w2.Le w3 ∧ HR S w3 ro m2 H2 ∧ RelD w3 d x) ∧
      (∀ w2 m2 H2 i, w1.LeX w2 → HR S w2 ro m2 H2 → (kvs.map fun kv => dK kv.1).length ≤ i → (Itk a ob ps).stop i H2) := by
    intro w1 ob ps sb rk hl
    have at2 : ∀ w2 m2 H2, w1.LeX w2 → HR S w2 ro m2 H2 → H2 a = some (.frz ob (.dK ps)) := fun w2 m2 H2 l hr2 => (hr2.lkd a _ (by rw [l.lk]; exact hl)).1
    refine ⟨fun w2 m2 H2 i l hr2 hi => ⟨at2 _ _ _ l hr2, by rw [List.length_map, RelK.length rk] at hi; exact hi⟩, fun w2 m2 H2 i x H' l hr2 _ y => ?_, fun w2 m2 H2 i l hr2 hi => ⟨at2 _ _ _ l hr2, by rw [List.length_map, RelK.length rk] at hi; exact hi⟩⟩
    obtain ⟨rfl, k', v, e, rfl⟩ := y
    obtain ⟨kd, dd, h1, h2, h3⟩ := rk.nth e
    exact ⟨rfl, dK kd, w2, by rw [List.getElem?_map, h1]; rfl, .refl w2, hr2, dK_rel h2 h3⟩
  have fT : ∀ (w1 : Wd) (ob : Obj) (ps : List (List Key × V)), w.Sub w1 → RelT w kvs ps → w1.lk a = some (ob, .dT ps) →
      (∀ w2 m2 H2 i, w1.LeX w2 → HR S w2 ro m2 H2 → i < (kvs.map fun kv => dK kv.1).length → (Itkt a ob ps).go i H2) ∧
      (∀ w2 m2 H2 i x H', w1.LeX w2 → HR S w2 ro m2 H2 → i < (kvs.map fun kv => dK kv.1).length → (Itkt a ob ps).yld i H2 x H' → H' = H2 ∧ ∃ d w3, (kvs.map fun kv => dK kv.1)[i]? = some d ∧ w2.Le w3 ∧ HR S w3 ro m2 H2 ∧ RelD w3 d x) ∧
      (∀ w2 m2 H2 i, w1.LeX w2 → HR S w2 ro m2 H2 → (kvs.map fun kv => dK kv.1).length ≤ i → (Itkt a ob ps).stop i H2) := by
    intro w1 ob ps sb rk hl
    have at2 : ∀ w2 m2 H2, w1.LeX w2 → HR S w2 ro m2 H2 → H2 a = some (.frz ob (.dT ps)) := fun w2 m2 H2 l hr2 => (hr2.lkd a _ (by rw [l.lk]; exact hl)).1
    refine ⟨fun w2 m2 H2 i l hr2 hi => ⟨at2 _ _ _ l hr2, by rw [List.length_map, RelT.length rk] at hi; exact hi⟩, fun w2 m2 H2 i x H' l hr2 _ y => ?_, fun w2 m2 H2 i l hr2 hi => ⟨at2 _ _ _ l hr2, by rw [List.length_map, RelT.length rk] at hi; exact hi⟩⟩
    obtain ⟨rfl, k', v, q, e, rfl, hq⟩ := y
    obtain ⟨kd, dd, h1, h2, h3⟩ := rk.nth e
    refine ⟨rfl, dK kd, w2.all H', by rw [List.getElem?_map, h1]; rfl, Wd.all_le, hr2.all, ?_⟩
    cases kd <;> simp [kT] at h2
    subst h2
    simp only [kLim, Bool.and_eq_true] at h3
    exact .tup (by rw [List.length_map]; exact of_decide_eq_true h3.1) (Wd.all_at hr2 hq) (kyV_rel h3.2)
  cases hl : w.lk a with
  | some p =>
    obtain ⟨e1, _⟩ := hr.lkd a p hl
    have e2 := d.at_
    unfold At at e2
    rw [hl] at e2
    have e2 : H a = some (.frz p.1 o) := e2
    rw [e1] at e2
    injection e2 with e2
    injection e2 with _ e2
    have hl2 : w.lk a = some (p.1, o) := by rw [hl, ← e2]
    have hj : j = none := by
      cases hj : j with
      | none => rfl
      | some k =>
        obtain ⟨q1, q2⟩ := d.mem k hj
        have := hr.unl k a kvs q1 q2
        rw [hl] at this; cases this
    subst hj
    cases d.rel with
    | @k ps r =>
      obtain ⟨g1, g2, g3⟩ := fK w p.1 ps (.refl w) r hl2
      exact .fK rfl (by rw [e1, e2]) (k _ w H ⟨hlen, hr, rfl, rfl, rfl, rfl, rfl, g1, g2, g3, fun w2 m2 H2 l hr2 => .inl (back0 l hr2)⟩)
    | @t ps r =>
      obtain ⟨g1, g2, g3⟩ := fT w p.1 ps (.refl w) r hl2
      exact .fT rfl (by rw [e1, e2]) (k _ w H ⟨hlen, hr, rfl, rfl, rfl, rfl, rfl, g1, g2, g3, fun w2 m2 H2 l hr2 => .inl (back0 l hr2)⟩)
  | none =>
    have sb : ∀ ob, w.Sub ((memLk w ro j (.dct kvs)).lkA a (ob, o)) := fun ob => ⟨fun n b e => by rw [show ((memLk w ro j (.dct kvs)).lkA a (ob, o)).io = w.io from memLk_eq.1]; exact e, fun b u e => by rw [show ((memLk w ro j (.dct kvs)).lkA a (ob, o)).fz = w.fz from memLk_eq.2.1]; exact e, fun b u e => by rw [show ((memLk w ro j (.dct kvs)).lkA a (ob, o)).xe = w.xe from memLk_xe]; exact e⟩
    cases d.rel with
    | @k ps r =>
      refine .uK rfl (d.at_.un hl) fun ob hn => ?_
      obtain ⟨g1, g2, g3⟩ := fK _ ob ps (sb ob) r (if_pos rfl)
      refine k _ _ _ ⟨hlen, lkA_hr ob d hr hl full, memLk_eq.1, memLk_eq.2.1, memLk_eq.2.2.2, memLk_xe, memLk_cur, g1, g2, g3, fun w2 m2 H2 l hr2 => ?_⟩
      obtain ⟨b1, b2⟩ := back_dict d hr hl l hr2
      exact .inr ⟨a, ob, _, b1, hn, ⟨hd_none hr d.trk, rfl⟩, b2⟩
    | @t ps r =>
      refine .uT rfl (d.at_.un hl) fun ob hn => ?_
      obtain ⟨g1, g2, g3⟩ := fT _ ob ps (sb ob) r (if_pos rfl)
      refine k _ _ _ ⟨hlen, lkA_hr ob d hr hl full, memLk_eq.1, memLk_eq.2.1, memLk_eq.2.2.2, memLk_xe, memLk_cur, g1, g2, g3, fun w2 m2 H2 l hr2 => ?_⟩
      obtain ⟨b1, b2⟩ := back_dict d hr hl l hr2
      exact .inr ⟨a, ob, _, b1, hn, ⟨hd_none hr d.trk, rfl⟩, b2⟩
theorem walk_list {a : Addr} {j : Option Nat} {dk : Bool} (hlen : ds.length ≤ LIM) (hr1 : HR S w1 ro (lockM m j) H) (e1 : w1.io = w.io) (e2 : w1.fz = w.fz) (e3 : w1.hd = w.hd) (e4 : w1.xe = w.xe) (e5 : w1.cur = w.cur) (h : ∀ w2 m2 H2, w1.LeX w2 → HR S w2 ro m2 H2 → ∃ vs, H2 a = some (.lst vs) ∧ RelDs w2 ds vs)
    (b : ∀ w2 m2 H2, w1.LeX w2 → HR S w2 ro m2 H2 → HR S (w.back w2) ro (unlockM m2 j) H2) (k : ∀ J w1 H1, WalkOk S X ro w m ds j dk J w1 H1 → R J H1) : AnyR X (.ref a) H R := by
  obtain ⟨g1, g2, g3⟩ := itl_facts (ro := ro) X.K h
  obtain ⟨vs, e, r⟩ := h w1 _ H (.refl w1) hr1
  exact .lst rfl (SqL.of e) (k _ w1 H ⟨hlen, hr1, e1, e2, e3, e4, e5, g1, g2, g3, fun w2 m2 H2 l hr2 => .inl (b w2 m2 H2 l hr2)⟩)
theorem walk_any (hK : X.K = S.K) (hr : HR S w ro m H) {d : D} {x : V} (rx : RelD w d x) (hi : itemsV (rd ro m d) = some ds) (hne : ds ≠ []) (k : ∀ J w1 H1, WalkOk S X ro w m ds (lockAt ro m d) (isDct (rd ro m d)) J w1 H1 → R J H1) : AnyR X x H R := by
  cases d with
  | str t =>
    obtain ⟨rfl, ot⟩ := rx.strI
    cases hi
    refine .str rfl (k _ w H ⟨by rw [List.length_map]; exact ot.1, hr, rfl, rfl, rfl, rfl, rfl, fun w2 m2 H2 i l hr2 hi => by simpa [Its, xS] using hi, fun w2 m2 H2 i x H' l hr2 _ y => ?_, fun w2 m2 H2 i l hr2 hi => by simpa [Its, xS] using hi, fun w2 m2 H2 l hr2 => .inl (back0 l hr2)⟩)
    obtain ⟨rfl, c, e, rfl⟩ := y
    have e : t[i]? = some c := by simpa [xS] using e
    exact ⟨rfl, .str [c], w2, by rw [List.getElem?_map, e]; rfl, .refl w2, hr2, .str _ (okT_one ot e)⟩
  | tup l =>
    cases hi
    obtain ⟨a, vs, rfl, hlen, ha, rs⟩ := rx.tupI
    have h : ∀ w2 m2 H2, w.LeX w2 → HR S w2 ro m2 H2 → ∃ vs, H2 a = some (.tup vs) ∧ RelDs w2 ds vs := fun w2 m2 H2 l hr2 => ⟨vs, hr2.dir (hr2.fz _ _ (l.fz _ _ ha)) (fun _ z => nomatch z) (fun _ z => nomatch z), rs.sub l.sub⟩
    obtain ⟨g1, g2, g3⟩ := itt_facts (ro := ro) X.K h
    obtain ⟨vs, e, r⟩ := h w _ H (.refl w) hr
    exact .tup rfl (SqT.of e) (k _ w H ⟨hlen, hr, rfl, rfl, rfl, rfl, rfl, g1, g2, g3, fun w2 m2 H2 l hr2 => .inl (back0 l hr2)⟩)
  | lst l =>
    cases hi
    obtain ⟨a, vs, rfl, hlen, ha, rs⟩ := rx.lstI
    exact walk_list (j := none) hlen hr rfl rfl rfl rfl rfl (fun w2 m2 H2 l hr2 => ⟨vs, hr2.dir (hr2.fz _ _ (l.fz _ _ ha)) (fun _ z => nomatch z) (fun _ z => nomatch z), rs.sub l.sub⟩) (fun w2 m2 H2 l hr2 => back0 l hr2) k
  | dct kvs =>
    cases hi
    have hne : kvs ≠ [] := fun z => hne (by rw [z]; rfl)
    cases rx with
    | dcK h e r => exact walk_dict (j := none) hK hr ⟨hr.fz _ _ e, .k r, .inl ⟨_, e⟩, fun k kvs' _ z => by (have := hr.sep _ _ z; rw [e] at this; cases this), fun _ z => nomatch z⟩ hne h k
    | dcT h e r => exact walk_dict (j := none) hK hr ⟨hr.fz _ _ e, .t r, .inl ⟨_, e⟩, fun k kvs' _ z => by (have := hr.sep _ _ z; rw [e] at this; cases this), fun _ z => nomatch z⟩ hne h k
  | ref n =>
    obtain ⟨a, rfl, ha⟩ := rx.refI
    have hi : itemsV (match memGet ro m n with | some o => (obD o).getD (.ref n) | none => .ref n) = some ds := hi
    cases hg : memGet ro m n with
    | none => rw [hg] at hi; cases hi
    | some ob =>
      rw [hg] at hi
      have hg' := hg
      rw [memGet_eq] at hg'
      have obr := hr.ob hg ha
      -- a list that no lock is needed for
      have lst0 : ∀ l : List D, (ob = .lst l ∨ ob = .lk (.lst l)) → lockAt ro m (.ref n) = none → l = ds → l.length ≤ LIM → (∀ w2 m2 H2, w.LeX w2 → HR S w2 ro m2 H2 → (ro ++ m2)[n]? = some ob) → AnyR X (.ref a) H R := by
        intro l ho hj hl hlen hst
        subst hl
        rw [hj] at k
        refine walk_list (j := none) hlen hr rfl rfl rfl rfl rfl (fun w2 m2 H2 l2 hr2 => ?_) (fun w2 m2 H2 l2 hr2 => back0 l2 hr2) k
        obtain ⟨b, h1, h2⟩ := hr2.live n ob (hst w2 m2 H2 l2 hr2)
        rw [l2.io _ _ ha] at h1; cases h1
        rcases ho with rfl | rfl
        · obtain ⟨_, _, vs, h3, h4⟩ := h2
          exact ⟨vs, h3, h4⟩
        · obtain ⟨_, _, vs, h3, h4⟩ := h2
          exact ⟨vs, h3, h4⟩
      by_cases hn : n < ro.length
      · have hj : lockAt ro m (.ref n) = none := by unfold lockAt; simp only [if_pos hn]
        have stab : ∀ w2 m2 H2, w.LeX w2 → HR S w2 ro m2 H2 → (ro ++ m2)[n]? = some ob := fun w2 m2 H2 _ _ => by
          rw [List.getElem?_append_left hn] at hg' ⊢; exact hg'
        have dct0 : ∀ kvs, (ob = .dct kvs ∨ ob = .lk (.dct kvs)) → (kvs.map fun kv => dK kv.1) = ds → kvs.length ≤ LIM → AnyR X (.ref a) H R := by
          intro kvs ho hl hl0
          subst hl
          have hne : kvs ≠ [] := fun z => hne (by rw [z]; rfl)
          have hb : isDct (rd ro m (.ref n)) = true := by
            show isDct (match memGet ro m n with | some o => (obD o).getD (.ref n) | none => .ref n) = true
            rw [hg]
            rcases ho with rfl | rfl <;> rfl
          rw [hj, hb] at k
          have : ∃ o, At w H a o ∧ RelO w kvs o := by
            rcases ho with rfl | rfl
            · exact obr.2
            · exact obr.2
          obtain ⟨o, h1, h2⟩ := this
          exact walk_dict (j := none) hK hr ⟨h1, h2, .inr ⟨n, ha⟩, fun k kvs' _ z => by (have := hr.inj _ _ _ z ha; omega), fun _ z => nomatch z⟩ hne hl0 k
        cases ob with
        | lst l => exact lst0 l (.inl rfl) hj (by cases hi; rfl) obr.2.1 stab
        | dct kvs => exact dct0 kvs (.inl rfl) (by cases hi; rfl) obr.1
        | ins _ _ => cases hi
        | lk o => cases o with
          | lst l => exact lst0 l (.inr rfl) hj (by cases hi; rfl) obr.2.1 stab
          | dct kvs => exact dct0 kvs (.inr rfl) (by cases hi; rfl) obr.1
          | ins _ _ => cases hi
          | lk _ => cases hi
      · have hm : m[n - ro.length]? = some ob := by
          rw [List.getElem?_append_right (by omega)] at hg'; exact hg'
        have en : ro.length + (n - ro.length) = n := by omega
        cases ob with
        | lst l =>
          have e : l = ds := by cases hi; rfl
          subst e
          have hj : lockAt ro m (.ref n) = some (n - ro.length) := by
            unfold lockAt
            simp only [if_neg hn, hm]
            cases l with
            | nil => exact absurd rfl hne
            | cons _ _ => rfl
          rw [hj] at k
          have hll : w.ll n = none := by
            cases e : w.ll n with
            | none => rfl
            | some o' => rw [(hr.lkl _ _).mp e] at hg'; cases hg'
          have hlen : l.length ≤ LIM := obr.2.1
          have h1 := hr.lkM hm (.inl ⟨l, rfl⟩)
          rw [en] at h1
          refine walk_list (w := w) (w1 := w.llM n (.lst l)) (j := some (n - ro.length)) hlen (by rw [lockM_some hm]; exact h1) rfl rfl rfl rfl rfl (fun w2 m2 H2 l2 hr2 => ?_) (fun w2 m2 H2 l2 hr2 => ?_) k
          · have e : w2.ll n = some (.lst l) := by rw [l2.ll]; exact if_pos rfl
            obtain ⟨b, h1, h2⟩ := hr2.live n _ ((hr2.lkl _ _).mp e)
            rw [l2.io _ _ ha] at h1; cases h1
            obtain ⟨_, _, vs, h3, h4⟩ := h2
            exact ⟨vs, h3, h4⟩
          · exact backM (by rw [en]; exact l2) (.inl ⟨l, rfl⟩) (by rw [en]; exact hll) hr2 (fun _ _ z => nomatch z)
        | dct kvs =>
          have e : (kvs.map fun kv => dK kv.1) = ds := by cases hi; rfl
          subst e
          have hne : kvs ≠ [] := fun z => hne (by rw [z]; rfl)
          have hj : lockAt ro m (.ref n) = some (n - ro.length) := by
            unfold lockAt
            simp only [if_neg hn, hm]
            cases kvs with
            | nil => exact absurd rfl hne
            | cons _ _ => rfl
          have hb : isDct (rd ro m (.ref n)) = true := by
            show isDct (match memGet ro m n with | some o => (obD o).getD (.ref n) | none => .ref n) = true
            rw [hg]
            rfl
          rw [hj, hb] at k
          obtain ⟨hl0, o, h1, h2⟩ := obr
          refine walk_dict (j := some (n - ro.length)) hK hr ⟨h1, h2, .inr ⟨n, ha⟩, fun k kvs' _ z => ?_, fun k z => ?_⟩ hne hl0 k
          · have := hr.inj _ _ _ z ha
            rw [show n - ro.length = k by omega]
          · cases z
            exact ⟨hm, by rw [en]; exact ha⟩
        | ins _ _ => cases hi
        | lk o => cases o with
         | lst l =>
          have hj : lockAt ro m (.ref n) = none := by
            unfold lockAt
            simp only [if_neg hn, hm]
          exact lst0 l (.inr rfl) hj (by cases hi; rfl) obr.2.1 (fun w2 m2 H2 l2 hr2 => (hr2.lkl _ _).mp (by rw [l2.ll]; exact (hr.lkl _ _).mpr hg'))
         | dct kvs =>
          have hj : lockAt ro m (.ref n) = none := by
            unfold lockAt
            simp only [if_neg hn, hm]
          have e : (kvs.map fun kv => dK kv.1) = ds := by cases hi; rfl
          subst e
          have hne : kvs ≠ [] := fun z => hne (by rw [z]; rfl)
          have hb : isDct (rd ro m (.ref n)) = true := by
            show isDct (match memGet ro m n with | some o => (obD o).getD (.ref n) | none => .ref n) = true
            rw [hg]
            rfl
          rw [hj, hb] at k
          obtain ⟨hl0, o, h1, h2⟩ := obr
          refine walk_dict (j := none) hK hr ⟨h1, h2, .inr ⟨n, ha⟩, fun k kvs' e' z => ?_, fun _ z => nomatch z⟩ hne hl0 k
          have := hr.inj _ _ _ z ha
          rw [show k = n - ro.length by omega, hm] at e'
          cases e'
         | ins _ _ => cases hi
         | lk _ => cases hi
  | _ => cases hi
end
end Av
end
section
set_option Elab.async false
set_option linter.all false
set_option maxRecDepth 100000
set_option autoImplicit false
set_option maxHeartbeats 4000000
namespace Av
open PySem PySem.Spec PyProof.Rows L2
mutual
def tgS : Tg → List Nat
  | .v i => [i]
  | .t l => tgSs l
  termination_by structural t => t
def tgSs : List Tg → List Nat
  | [] => []
  | t :: r => tgS t ++ tgSs r
  termination_by structural t => t
end
mutual
def gTg (K : PySem.W.Frag) : Tg → TG
  | .v i => gName i
  | .t l => gTup K l.length (gTgs K l)
  termination_by structural t => t
def gTgs (K : PySem.W.Frag) : List Tg → TGs
  | [] => gNil
  | t :: r => gCons (gTg K t) (gTgs K r)
  termination_by structural t => t
end
section
variable {S : SE} {X : Cx} {w : Wd} {ro m : Mem} {H : Hp}
theorem SR.set {σ' : Sl} {σ : L2.St} {i : Nat} {d : D} {v : V} (h : SR w σ' σ) (r : RelD w d v) (hx : isX d = false) : SR w (σ'.set i (some d)) (σ.set i (some v)) := by
  refine ⟨by simp [h.len], fun j e he => ?_, fun j a c nms dd c' fs hc he => ?_⟩
  · by_cases hj : i = j
    · subst hj
      have hi : i < σ'.length := by
        have := (List.getElem?_eq_some_iff.mp he).1
        simpa using this
      rw [List.getElem?_set_self hi] at he
      cases he
      exact ⟨v, by rw [List.getElem?_set_self (by rw [← h.len]; exact hi)], r⟩
    · rw [List.getElem?_set_ne hj] at he
      obtain ⟨u, h1, h2⟩ := h.get j e he
      exact ⟨u, by rw [List.getElem?_set_ne hj]; exact h1, h2⟩
  · by_cases hj : i = j
    · subst hj
      have hi : i < σ'.length := by
        have := (List.getElem?_eq_some_iff.mp he).1
        simpa using this
      rw [List.getElem?_set_self hi] at he
      cases he
      cases hx
    · rw [List.getElem?_set_ne hj] at he
      rw [List.getElem?_set_ne hj]; exact h.pin j a c nms dd c' fs hc he
theorem SR.none {σ' : Sl} {σ : L2.St} {i : Nat} (h : SR w σ' σ) : SR w (σ'.set i none) (σ.set i none) := by
  refine ⟨by simp [h.len], fun j e he => ?_, fun j a c nms dd c' fs hc he => ?_⟩
  · by_cases hj : i = j
    · subst hj
      have hi : i < σ'.length := by
        have := (List.getElem?_eq_some_iff.mp he).1
        simpa using this
      rw [List.getElem?_set_self hi] at he
      cases he
    · rw [List.getElem?_set_ne hj] at he
      obtain ⟨u, h1, h2⟩ := h.get j e he
      exact ⟨u, by rw [List.getElem?_set_ne hj]; exact h1, h2⟩
  · by_cases hj : i = j
    · subst hj
      have hi : i < σ'.length := by
        have := (List.getElem?_eq_some_iff.mp he).1
        simpa using this
      rw [List.getElem?_set_self hi] at he
      cases he
    · rw [List.getElem?_set_ne hj] at he
      rw [List.getElem?_set_ne hj]; exact h.pin j a c nms dd c' fs hc he
theorem SR.wipe {σ' : Sl} {σ : L2.St} (h : SR w σ' σ) : ∀ own, SR w (Av.wipe σ' own) (L2.wipe σ own)
  | [] => h
  | i :: r => (SR.wipe h r).none
theorem wipe_set {σ : L2.St} {i : Nat} {v : Option V} : ∀ {own : List Nat}, i ∈ own → L2.wipe (σ.set i v) own = L2.wipe σ own
  | j :: r, h => by
    show (L2.wipe (σ.set i v) r).set j none = (L2.wipe σ r).set j none
    rcases List.mem_cons.mp h with rfl | h
    · have : ∀ (l : List Nat) (τ : L2.St), (L2.wipe (τ.set i v) l).set i none = (L2.wipe τ l).set i none := by
        intro l
        induction l with
        | nil => intro τ; show (τ.set i v).set i none = τ.set i none; simp
        | cons k l ih =>
          intro τ
          show ((L2.wipe (τ.set i v) l).set k none).set i none = ((L2.wipe τ l).set k none).set i none
          by_cases hk : k = i
          · subst hk; simp [ih τ]
          · rw [List.set_comm _ _ hk, ih τ, List.set_comm _ _ (Ne.symm hk)]
      exact this r σ
    · rw [wipe_set h]
theorem wipe_wipe {σ : L2.St} : ∀ {own : List Nat}, L2.wipe (L2.wipe σ own) own = L2.wipe σ own := by
  have : ∀ (l own : List Nat), (∀ i ∈ l, i ∈ own) → ∀ τ : L2.St, L2.wipe (L2.wipe τ l) own = L2.wipe τ own := by
    intro l
    induction l with
    | nil => intro own _ τ; rfl
    | cons i l ih =>
      intro own h τ
      show L2.wipe ((L2.wipe τ l).set i none) own = _
      rw [wipe_set (h i List.mem_cons_self), ih own (fun j hj => h j (List.mem_cons_of_mem _ hj)) τ]
  intro own
  exact this own own (fun _ h => h) σ
mutual
theorem asg_rel (hr : HR S w ro m H) : ∀ (t : Tg) (d : D) (x : V) (σ' σ1 : Sl) (σ : L2.St) (Q : L2.St → Hp → Prop), SR w σ' σ → RelD w d x → asgT t d σ' = some σ1 →
    (∀ σ2, SR w σ1 σ2 → (∀ own, (∀ i ∈ tgS t, i ∈ own) → L2.wipe σ2 own = L2.wipe σ own) → Q σ2 H) → gTg X.K t x σ H Q
  | .v i, d, x, σ', σ1, σ, Q, sr, rx, h, k => by
    simp only [asgT] at h
    split at h
    · split at h
      · cases h
      · rename_i hx
        cases h
        simp only [gTg]
        exact k _ (sr.set rx (by simpa using hx)) fun own ho => wipe_set (ho i (by simp [tgS]))
    · cases h
  | .t l, d, x, σ', σ1, σ, Q, sr, rx, h, k => by
    simp only [asgT] at h
    split at h
    · rename_i ds
      obtain ⟨a, vs, rfl, hl, ha, rs⟩ := rx.tupI
      simp only [gTg]
      have hlen := asgTs_len l ds σ' σ1 h
      refine ⟨a, vs, rfl, SqT.of (hr.dir (hr.fz _ _ ha) (fun _ z => nomatch z) (fun _ z => nomatch z)), by rw [← RelDs.length rs]; exact hlen.symm, ?_⟩
      exact asgs_rel hr l ds vs σ' σ1 σ Q sr rs h fun σ2 s2 hw => k σ2 s2 fun own ho => hw own fun i hi => ho i (by simpa [tgS] using hi)
    · cases h
theorem asgs_rel (hr : HR S w ro m H) : ∀ (l : List Tg) (ds : List D) (xs : List V) (σ' σ1 : Sl) (σ : L2.St) (Q : L2.St → Hp → Prop), SR w σ' σ → RelDs w ds xs → asgTs l ds σ' = some σ1 →
    (∀ σ2, SR w σ1 σ2 → (∀ own, (∀ i ∈ tgSs l, i ∈ own) → L2.wipe σ2 own = L2.wipe σ own) → Q σ2 H) → gTgs X.K l xs σ H Q
  | [], [], _, σ', σ1, σ, Q, sr, rx, h, k => by
    cases rx
    simp only [asgTs] at h
    cases h
    simp only [gTgs]
    exact ⟨rfl, k σ sr fun _ _ => rfl⟩
  | t :: l, d :: ds, _, σ', σ1, σ, Q, sr, rx, h, k => by
    cases rx with
    | @cons _ v _ vs r1 r2 =>
      simp only [asgTs, Option.bind_eq_some_iff] at h
      obtain ⟨σa, h1, h2⟩ := h
      simp only [gTgs]
      refine ⟨v, vs, rfl, asg_rel hr t d v σ' σa σ _ sr r1 h1 fun σ2 s2 hw => ?_⟩
      refine asgs_rel hr l ds vs σa σ1 σ2 Q s2 r2 h2 fun σ3 s3 hw3 => k σ3 s3 fun own ho => ?_
      rw [hw3 own fun i hi => ho i (by simp only [tgSs, List.mem_append]; exact .inr hi), hw own fun i hi => ho i (by simp only [tgSs, List.mem_append]; exact .inl hi)]
  | [], _ :: _, _, _, _, _, _, _, _, h, _ => by simp [asgTs] at h
  | _ :: _, [], _, _, _, _, _, _, _, h, _ => by simp [asgTs] at h
theorem asgTs_len : ∀ (l : List Tg) (ds : List D) (σ' σ1 : Sl), asgTs l ds σ' = some σ1 → l.length = ds.length
  | [], [], _, _, _ => rfl
  | t :: l, d :: ds, σ', σ1, h => by
    simp only [asgTs, Option.bind_eq_some_iff] at h
    obtain ⟨σa, h1, h2⟩ := h
    simp [asgTs_len l ds σa σ1 h2]
  | [], _ :: _, _, _, h => by simp [asgTs] at h
  | _ :: _, [], _, _, h => by simp [asgTs] at h
end
end
end Av
end
section
set_option Elab.async false
set_option linter.all false
set_option maxRecDepth 100000
set_option autoImplicit false
set_option maxHeartbeats 4000000
namespace Av
open PySem PySem.Spec PyProof.Rows L2
/-- an iterator of no items -/
def EmptyOk (X : Cx) (H : Hp) (J : It) (H1 : Hp) : Prop := (∀ H', (∀ b u, (∀ ps, u ≠ .tbl ps) → H1 b = some u → H' b = some u) → J.stop 0 H') ∧ (H1 = H ∨ ∃ d od u, H d = some u ∧ H1 = upd H d (.frz od u) ∧ (∀ o' u', X.H_0 d ≠ some (.frz o' u')) ∧ ∀ ps, u ≠ .tbl ps)
/-- what a walk of d is to offer -/
def WalkR (S : SE) (X : Cx) (ro : Mem) (w : Wd) (m : Mem) (H : Hp) (d : D) (Kn : It → Hp → Prop) : Prop :=
  ∃ ds, itemsV (rd ro m d) = some ds ∧ (ds ≠ [] → ∀ J w1 H1, WalkOk S X ro w m ds (lockAt ro m d) (isDct (rd ro m d)) J w1 H1 → Kn J H1) ∧ (ds = [] → ∀ J H1, EmptyOk X H J H1 → Kn J H1)
def FinI (S : SE) (X : Cx) (E : ED) (W : WX) (ro : Mem) (w : Wd) (σ : L2.St) (Kn : It → Hp → Prop) : R Mem D → Prop
  | .ok d m1 => ∀ w1 H1, w.Le w1 → HR S w1 ro m1 H1 → WalkR S X ro w1 m1 H1 d Kn
  | .exc x m1 => ∀ w' cls dd H', w.Le w' → HR S w' ro m1 H' → RelX E w' x cls dd H' → W cls dd σ H'
  | .stuck => False
/-- an iterator's reading -/
def xI (S : SE) (X : Cx) (E : ED) (W : WX) (P : Pm) (ro : Mem) (e : CE) : TI := fun σ H Kn => ∃ w σ' m, SR w σ' σ ∧ HR S w ro m H ∧ FinI S X E W ro w σ Kn (ev P ro e σ' m)
section
variable {S : SE} {E : ED} {W : WX} {P : Pm} {ro : Mem} {X : Cx} {a b c : Expr} {ca cb cc : CE} {pos : Pos} {es : List Expr} {cs : List CE} {w w1 w2 : Wd} {m m1 m2 : Mem} {H H1 H2 : Hp}
theorem walk_empty (hr : HR S w ro m H) {d : D} {x : V} (rx : RelD w d x) (hi : itemsV (rd ro m d) = some []) {Kn : It → Hp → Prop} (k : ∀ J H1, EmptyOk X H J H1 → Kn J H1) : AnyR X x H Kn := by
  have nx := rx.now hr
  generalize rd ro m d = e at hi nx
  cases e with
  | str t =>
    obtain ⟨rfl, ot⟩ := nx.strI
    cases t with
    | nil => exact .str rfl (k _ _ ⟨fun H' _ => by simp [Its, xS], .inl rfl⟩)
    | cons _ _ => simp [itemsV] at hi
  | tup l =>
    cases hi
    obtain ⟨a, vs, rfl, _, ha, rs⟩ := nx.tupI
    cases rs
    exact .tup rfl (SqT.of ha) (k _ _ ⟨fun H' h => ⟨[], SqT.of (h _ _ (fun _ z => nomatch z) ha), Nat.le_refl _⟩, .inl rfl⟩)
  | lst l =>
    cases hi
    obtain ⟨a, vs, rfl, _, ha, rs⟩ := nx.lstI
    cases rs
    exact .lst rfl (SqL.of ha) (k _ _ ⟨fun H' h => ⟨[], SqL.of (h _ _ (fun _ z => nomatch z) ha), Nat.le_refl _⟩, .inl rfl⟩)
  | dct kvs =>
    have : kvs = [] := by
      cases kvs with
      | nil => rfl
      | cons _ _ => simp [itemsV] at hi
    subst this
    obtain ⟨a, o, rfl, _, ha, ro'⟩ := nx.dctI
    cases ro' with
    | k r =>
      cases r
      obtain ⟨h1, h2⟩ := emptyK_at hr ha
      exact .uK rfl h1 fun o hn => k _ _ ⟨fun H' h => ⟨h _ _ (fun _ z => nomatch z) upd_same, Nat.le_refl _⟩, .inr ⟨a, o, _, h1, rfl, hn, fun _ z => nomatch z⟩⟩
    | t r =>
      cases r
      obtain ⟨h1, h2⟩ := emptyT_at hr ha
      exact .uT rfl h1 fun o hn => k _ _ ⟨fun H' h => ⟨h _ _ (fun _ z => nomatch z) upd_same, Nat.le_refl _⟩, .inr ⟨a, o, _, h1, rfl, hn, fun _ z => nomatch z⟩⟩
  | _ => cases hi
/-- an expression's value is walked -/
theorem li_val {tg l : Expr} {cl : CE} (hK : X.K = S.K) (hl : PE X l (xE S E W P ro cl)) : PI X tg l (xI S X E W P ro cl) := by
  have h := pi_any (tg := tg) hl
  refine ⟨fun pins s σ H Kn I q => h.run pins s σ H Kn I ?_⟩
  obtain ⟨w, σ', m, sr, hr, f⟩ := q
  refine ⟨w, σ', m, sr, hr, ?_⟩
  cases e : ev P ro cl σ' m with
  | stuck => rw [e] at f; exact f
  | exc x m1 => rw [e] at f; exact f
  | ok d m1 =>
    rw [e] at f
    intro w1 v H1 l1 hr1 r1
    obtain ⟨ds, h1, h2, h3⟩ := f w1 H1 l1 hr1
    by_cases hd : ds = []
    · rw [hd] at h1
      exact walk_empty hr1 r1 h1 (h3 hd)
    · exact walk_any hK hr1 r1 h1 hd (h2 hd)
theorem intsIn_len : ∀ (n : Nat) (i : Int), (intsIn i n).length = n
  | 0, _ => rfl
  | n + 1, i => by simp [intsIn, intsIn_len n (i + 1)]
theorem intsIn_get : ∀ (n : Nat) (i : Int) (j : Nat), j < n → (intsIn i n)[j]? = some (.int (i + j))
  | 0, _, _, h => by omega
  | n + 1, i, 0, _ => by simp [intsIn]
  | n + 1, i, j + 1, h => by
    simp only [intsIn, List.getElem?_cons_succ]
    rw [intsIn_get n (i + 1) j (by omega)]
    congr 2
    omega
theorem walk_rng (hr : HR S w ro m H) {lo : Int} {n : Nat} (hn : n ≤ LIM) {Kn : It → Hp → Prop} (h : WalkR S X ro w m H (.lst (intsIn lo n)) Kn) : Kn (Itr lo n) H := by
  obtain ⟨ds, h1, h2, h3⟩ := h
  cases h1
  cases n with
  | zero => exact h3 rfl _ _ ⟨fun H' _ => Nat.le_refl _, .inl rfl⟩
  | succ n =>
    refine h2 (by simp [intsIn]) _ w H ⟨by rw [intsIn_len]; exact hn, hr, rfl, rfl, rfl, rfl, rfl, fun w2 m2 H2 i l hr2 hi => by rw [intsIn_len] at hi; exact hi, fun w2 m2 H2 i x H' l hr2 hi y => ?_, fun w2 m2 H2 i l hr2 hi => by rw [intsIn_len] at hi; exact hi, fun w2 m2 H2 l hr2 => .inl (back0 l hr2)⟩
    obtain ⟨rfl, rfl⟩ := y
    rw [intsIn_len] at hi
    exact ⟨rfl, _, w2, intsIn_get _ _ _ hi, .refl w2, hr2, .int _⟩
theorem b62 {i : Int} (h : -B62 ≤ i ∧ i < B62) : -(2 ^ 62) ≤ i ∧ i < 2 ^ 62 := by
  have e : B62 = 2 ^ 62 := by decide
  rw [e] at h; exact h
theorem rd_ints {i : Int} {d : D} (h : d = .int i) : d = .int i := h
theorem li_rng1 {tg : Expr} {p : Pos} (hg : Gl X "range") (hm : X.mg "range" = none) (ha : PA X [a] (xA S E W P ro [ca])) (hs : nostar a = true) : PI X tg (.Call (.Name "range" p) [a] [] pos) (xI S X E W P ro (.rng [ca])) := by
  have h := pi_range1 (tg := tg) (p := p) (pos := pos) hg hm ha (by rw [star1 hs]; rfl)
  refine ⟨fun pins s σ H Kn I q => h.run pins s σ H Kn I ?_⟩
  obtain ⟨w, σ', m, sr, hr, f⟩ := q
  rw [ev] at f
  refine ⟨w, σ', m, sr, hr, ?_⟩
  cases e : evs P ro [ca] σ' m with
  | stuck => rw [e] at f; exact f
  | exc x m1 => rw [e] at f; exact f
  | ok ds m1 =>
    rw [e, R.bind_ok] at f
    intro w1 vs H1 l1 hr1 r1
    have hlen := evs_len _ _ _ _ _ e
    match ds, hlen with
    | [d], _ =>
      obtain ⟨x, rfl, rx⟩ := r1.one
      cases d with
      | int j =>
        obtain rfl := rx.intI
        have f : FinI S X E W ro w σ Kn (R.of (if -B62 ≤ j ∧ j < B62 ∧ j.toNat ≤ LIM then some (.lst (intsIn 0 j.toNat)) else none) m1) := f
        split at f
        · rename_i hc
          have hb := b62 ⟨hc.1, hc.2.1⟩
          exact ⟨j, rfl, hb.1, hb.2, walk_rng hr1 hc.2.2 (f w1 H1 l1 hr1)⟩
        · exact f.elim
      | _ => exact f.elim
theorem li_rng2 {tg : Expr} {p : Pos} (hg : Gl X "range") (hm : X.mg "range" = none) (ha : PA X [a, b] (xA S E W P ro [ca, cb])) (hs : nostar a = true) (hs2 : nostar b = true) : PI X tg (.Call (.Name "range" p) [a, b] [] pos) (xI S X E W P ro (.rng [ca, cb])) := by
  have h := pi_range2 (tg := tg) (p := p) (pos := pos) hg hm ha (by rw [star1 hs, star1 hs2]; rfl) (by rw [star1 hs2]; rfl)
  refine ⟨fun pins s σ H Kn I q => h.run pins s σ H Kn I ?_⟩
  obtain ⟨w, σ', m, sr, hr, f⟩ := q
  rw [ev] at f
  refine ⟨w, σ', m, sr, hr, ?_⟩
  cases e : evs P ro [ca, cb] σ' m with
  | stuck => rw [e] at f; exact f
  | exc x m1 => rw [e] at f; exact f
  | ok ds m1 =>
    rw [e, R.bind_ok] at f
    intro w1 vs H1 l1 hr1 r1
    have hlen := evs_len _ _ _ _ _ e
    match ds, hlen with
    | [d, d'], _ =>
      obtain ⟨x, y, rfl, rx, ry⟩ := r1.two
      cases d with
      | int i =>
        cases d' with
        | int j =>
          obtain rfl := rx.intI
          obtain rfl := ry.intI
          have f : FinI S X E W ro w σ Kn (R.of (if -B62 ≤ i ∧ i < B62 ∧ -B62 ≤ j ∧ j < B62 ∧ (j - i).toNat ≤ LIM then some (.lst (intsIn i (j - i).toNat)) else none) m1) := f
          split at f
          · rename_i hc
            have hb := b62 ⟨hc.1, hc.2.1⟩
            have hb2 := b62 ⟨hc.2.2.1, hc.2.2.2.1⟩
            exact ⟨i, j, rfl, ⟨hb.1, hb.2, hb2.1, hb2.2⟩, walk_rng hr1 hc.2.2.2.2 (f w1 H1 l1 hr1)⟩
          · exact f.elim
        | _ => exact f.elim
      | _ => exact f.elim
end
end Av
end
section
set_option Elab.async false
set_option linter.all false
set_option maxRecDepth 100000
set_option autoImplicit false
set_option maxHeartbeats 4000000
namespace Av
open PySem PySem.Spec PyProof.Rows L2
/-- D is held, with o -/
def Wd.hold (w : Wd) (D : Addr) (o : HO) : Wd := { w with hd := upd w.hd D o }
section
variable {S : SE} {E : ED} {W : WX} {P : Pm} {ro : Mem} {X : Cx} {a b c : Expr} {ca cb cc : CE} {pos : Pos} {es : List Expr} {cs : List CE} {w w1 w2 : Wd} {m m1 m2 : Mem} {H H1 H2 : Hp}
theorem Wd.sHo {D : Addr} {o : HO} : w.Sub (w.hold D o) := ⟨fun _ _ h => h, fun _ _ h => h, fun _ _ h => h⟩
/-- a new thing, held -/
theorem HR.hold {D : Addr} {o : HO} (hr : HR S w ro m H) (hD : H D = none) (ht : ∀ vs, o ≠ .tup vs) : HR S (w.hold D o) ro m (upd H D o) := by
  have ne : ∀ n a, w.io n = some a → a ≠ D := fun n a e z => hr.noio hD n (z ▸ e)
  refine ⟨hr.len, fun n o' e => ?_, hr.inj, hr.sep, fun a u e => ?_, fun a p e => ?_, hr.unl, hr.lkl, fun a u e => ?_, fun a u e => ?_, fun a u e => ?_, fun a u n e => ?_, hr.tab.fresh hD (fun _ _ => rfl) fun P hP => by show upd w.hd D o P = _; rw [upd_ne hP], hr.cur⟩
  · obtain ⟨b, h1, h2⟩ := hr.live n o' e
    exact ⟨b, h1, h2.sub Wd.sHo rfl (upd_ne (ne n b h1))⟩
  · have e : w.fz a = some u := e
    have : a ≠ D := fun z => by have := hr.nofz hD; rw [← z, e] at this; cases this
    exact (hr.fz a u e).sub rfl (upd_ne this)
  · have e : w.lk a = some p := e
    have : a ≠ D := fun z => by have := hr.nolk hD; rw [← z, e] at this; cases this
    rw [upd_ne this]
    exact hr.lkd a p e
  · have e : upd w.hd D o a = some u := e
    by_cases ha : a = D
    · subst ha; rw [upd_same] at e ⊢; exact e
    · rw [upd_ne ha] at e ⊢; exact hr.hld a u e
  · have e : upd w.hd D o a = some u := e
    by_cases ha : a = D
    · subst ha; exact hr.nofz hD
    · rw [upd_ne ha] at e; exact hr.hsf a u e
  · have e : upd w.hd D o a = some u := e
    by_cases ha : a = D
    · subst ha; rw [upd_same] at e; cases e; exact ht
    · rw [upd_ne ha] at e; exact hr.hdt a u e
  · have e : upd w.hd D o a = some u := e
    intro z
    by_cases ha : a = D
    · subst ha; exact hr.noio hD n z
    · rw [upd_ne ha] at e; exact hr.hsi a u n e z
/-- a held thing is written -/
theorem HR.rehold {D : Addr} {o o2 : HO} (hr : HR S w ro m H) (hD : w.hd D = some o) (ntb : ∀ ps, o ≠ .tbl ps) (ht : ∀ vs, o2 ≠ .tup vs) (hk : w.lk D = none) : HR S (w.hold D o2) ro m (upd H D o2) := by
  have ne : ∀ n a, w.io n = some a → a ≠ D := fun n a e z => hr.hsi D o n hD (z ▸ e)
  have nt : ∀ ps, H D ≠ some (.tbl ps) := fun ps z => by
    have hH := hr.hld D o hD
    rw [z] at hH
    injection hH with hH
    by_cases hP : ∃ P ∈ S.tb, P = D
    · obtain ⟨P, hP, rfl⟩ := hP
      have := (hr.tab P hP).2.1
      rw [hD] at this; cases this
    · exact ntb ps hH.symm
  refine ⟨hr.len, fun n o' e => ?_, hr.inj, hr.sep, fun a u e => ?_, fun a p e => ?_, hr.unl, hr.lkl, fun a u e => ?_, fun a u e => ?_, fun a u e => ?_, fun a u n e => ?_, hr.tab.put nt (fun _ _ => rfl) fun P hP => by show upd w.hd D o2 P = _; rw [upd_ne hP], hr.cur⟩
  · obtain ⟨b, h1, h2⟩ := hr.live n o' e
    exact ⟨b, h1, h2.sub Wd.sHo rfl (upd_ne (ne n b h1))⟩
  · have e : w.fz a = some u := e
    have : a ≠ D := fun z => by have := hr.hsf D o hD; rw [← z, e] at this; cases this
    exact (hr.fz a u e).sub rfl (upd_ne this)
  · have e : w.lk a = some p := e
    have : a ≠ D := fun z => by rw [← z, e] at hk; cases hk
    rw [upd_ne this]
    exact hr.lkd a p e
  · have e : upd w.hd D o2 a = some u := e
    by_cases ha : a = D
    · subst ha; rw [upd_same] at e ⊢; exact e
    · rw [upd_ne ha] at e ⊢; exact hr.hld a u e
  · have e : upd w.hd D o2 a = some u := e
    by_cases ha : a = D
    · subst ha; exact hr.hsf _ _ hD
    · rw [upd_ne ha] at e; exact hr.hsf a u e
  · have e : upd w.hd D o2 a = some u := e
    by_cases ha : a = D
    · subst ha; rw [upd_same] at e; cases e; exact ht
    · rw [upd_ne ha] at e; exact hr.hdt a u e
  · have e : upd w.hd D o2 a = some u := e
    intro z
    by_cases ha : a = D
    · subst ha; exact hr.hsi _ _ n hD z
    · rw [upd_ne ha] at e; exact hr.hsi a u n e z
/-- a thing that stands there is frozen -/
theorem HR.here {D : Addr} {o : HO} (hr : HR S w ro m H) (hD : H D = some o) (h1 : w.fz D = none) (h2 : ∀ n, w.io n ≠ some D) (h3 : w.lk D = none) (h4 : w.hd D = none) (h5 : ∀ ps, o ≠ .tbl ps) : HR S (w.fr D o) ro m H ∧ w.Le (w.fr D o) := by
  have le : w.Le (w.fr D o) := Wd.fr_le h1
  refine ⟨⟨hr.len, fun n o' e => ?_, hr.inj, fun n a e => ?_, fun a u e => ?_, hr.lkd, hr.unl, hr.lkl, hr.hld, fun a u e => ?_, hr.hdt, hr.hsi, fun P hP => ?_, hr.cur⟩, le⟩
  · obtain ⟨b, k1, k2⟩ := hr.live n o' e
    exact ⟨b, k1, k2.mono le rfl⟩
  · have e : w.io n = some a := e
    show upd w.fz D o a = none
    rw [upd_ne (fun z => by subst z; exact h2 n e)]; exact hr.sep n a e
  · have e : upd w.fz D o a = some u := e
    by_cases ha : a = D
    · subst ha; rw [upd_same] at e; cases e
      exact At.of hD h3
    · rw [upd_ne ha] at e; exact (hr.fz a u e).mono le rfl
  · have e : w.hd a = some u := e
    show upd w.fz D o a = none
    rw [upd_ne (fun z => by rw [z, h4] at e; cases e)]; exact hr.hsf a u e
  · obtain ⟨a, b, ps, c, d⟩ := hr.tab P hP
    refine ⟨?_, b, ps, c, d⟩
    show upd w.fz D o P = none
    rw [upd_ne (fun z => by rw [z, hD] at c; exact h5 ps (Option.some.inj c))]; exact a
/-- Q, now or behind an unlocking -/
def unlQ (X : Cx) (Q : VK) : VK := fun v H => Q v H ∨ ∃ d od u, H d = some (.frz od u) ∧ (∀ o' u', X.H_0 d ≠ some (.frz o' u')) ∧ Q v (upd H d u)
theorem pe_lcU {elt tg iter : Expr} {ifs : List Expr} {scope : Scope} {own : List (Str × Nat)} {wi : TI} {g : TG} {tt : TT} {te : TE} (hc : X.calm = true) (hN : X.N.Nodup) (hi : PI X tg iter wi) (ok : BlkOk X.N X.env.scope scope own)
    (hg : ∀ (s : Shared) (H : Hp) (C : Addr) (cl : List (Str × Addr)) (fp : List Addr), PG (X.blk s H scope (compEnvC scope cl C X.env) fp) tg g) (ht : ∀ (s : Shared) (H : Hp) (C : Addr) (cl : List (Str × Addr)) (fp : List Addr), PTs (X.blk s H scope (compEnvC scope cl C X.env) fp) ifs tt)
    (he : ∀ (s : Shared) (H : Hp) (C : Addr) (cl : List (Str × Addr)) (fp : List Addr), PE (X.blk s H scope (compEnvC scope cl C X.env) fp) elt te) (hs : ∀ x, foldedSetIterable iter X.env x = pure x) :
    PE X (.ListComp elt [⟨tg, iter, ifs, 0⟩] scope pos) (fun σ H Q => tLc wi g tt te (own.map (·.2)) σ H (unlQ X Q)) := by
  refine ⟨fun pins s σ H Q I h => ?_⟩
  rw [eval_ListComp]
  refine lc_core hc hN I hi ok hg ht he hs h fun D C s' m H' I' q hn f => ⟨m, hn, fun h'' sb => ?_⟩
  obtain ⟨f0, f1, f2, f3, f4, f5⟩ := f
  have J := I'.turned (t' := s'.toks) (fun b o hb e => (sb.2 b hb).trans e) f0 f1 f3 f4 f5
  rcases q with q | ⟨d, od, u, e, hn', q⟩
  · exact ⟨.ref D, H', J, rfl, q⟩
  · exact ⟨.ref D, _, J.unlock e hn', rfl, q⟩
/-- a comprehension's own wish about exceptions: none -/
abbrev W0 : WX := fun _ _ _ _ => False
abbrev xTs (S : SE) (E : ED) (W : WX) (P : Pm) (ro : Mem) (e : List CT) : TT := gT S E W ro (evTs P ro e)
theorem lts_nil : PTs X [] (xTs S E W P ro []) := ⟨fun pins s σ H Q I ⟨w, σ', m, sr, hr, f⟩ => pts_nil.run pins s σ H Q I (by
  rw [evTs] at f
  exact Fin.ok (v := true) f hr rfl)⟩
theorem lts_one {tc : CT} (h : PT X a (xT S E W P ro tc)) : PTs X [a] (xTs S E W P ro [tc]) := ⟨fun pins s σ H Q I ⟨w, σ', m, sr, hr, f⟩ => (pts_one h).run pins s σ H Q I (by
  rw [evTs] at f
  refine gT.bind sr hr f fun k m1 w1 H1 l1 sr1 hr1 f1 => ?_
  cases k with
  | false => exact Fin.ok (v := false) f1 hr1 rfl
  | true =>
    have f1 : Fin S E W w1 ro σ _ Q (evTs P ro [] σ' m1) := f1
    rw [evTs] at f1
    exact Fin.ok (v := true) f1 hr1 rfl)⟩
theorem lockAt_empty {d : D} (h : itemsV (rd ro m d) = some []) : lockAt ro m d = none := by
  cases e : lockAt ro m d with
  | none => rfl
  | some j =>
    obtain ⟨o, rfl, hj, ho⟩ := lockAt_some e
    exfalso
    have g : memGet ro m (ro.length + j) = some o := by
      rw [memGet_eq, List.getElem?_append_right (by omega), show ro.length + j - ro.length = j by omega]; exact hj
    have h : itemsV (match memGet ro m (ro.length + j) with | some o => (obD o).getD (.ref (ro.length + j)) | none => .ref (ro.length + j)) = some [] := h
    rw [g] at h
    rcases ho with ⟨a, r, rfl⟩ | ⟨a, r, rfl⟩ <;> simp [obD, itemsV] at h
/-- one turn of a list comprehension -/
def lcF (P : Pm) (ro : Mem) (t : Tg) (σ0 : Sl) (cifs : List CT) (ce : CE) : D → Mem → R Mem (Option D) := fun x m3 => match asgT t x σ0 with
  | some σ1 => (evTs P ro cifs σ1 m3).bind fun c m4 => if c then (ev P ro ce σ1 m4).bind fun y m5 => .ok (some y) m5 else .ok none m4
  | none => .stuck
theorem bind_ok_some {α β : Type} {r : R Mem α} {f : α → Mem → R Mem β} {b : β} {m' : Mem} (h : r.bind f = .ok b m') : ∃ a m1, r = .ok a m1 ∧ f a m1 = .ok b m' := by
  cases r with
  | ok a m1 => exact ⟨a, m1, rfl, h⟩
  | exc x m1 => cases h
  | stuck => cases h
theorem calm_fin {α β γ : Type} {Rel : Wd → α → β → Prop} {Q : β → Hp → Prop} {σ : L2.St} {r : R Mem γ} {f : γ → Mem → R Mem α} (h : Fin S E W w ro σ Rel Q (r.calm f)) : ∃ a m1, r = .ok a m1 ∧ Fin S E W w ro σ Rel Q (f a m1) := by
  cases r with
  | ok a m1 => exact ⟨a, m1, rfl, h⟩
  | exc x m1 => exact h.elim
  | stuck => exact h.elim
theorem ev_lc {own : List Nat} {t : Tg} {ci ce : CE} {cifs : List CT} {σ' : Sl} : ev P ro (.lc own t ci cifs ce) σ' m = (ev P ro ci σ' m).bind fun d m1 => (walkE ro d m1 fun xs m2 => lcL (lcF P ro t (wipe σ' own) cifs ce) xs m2).bind fun ys m6 => .ok (.lst ys) m6 := by
  rw [ev]
  rfl
/-- the body of a list comprehension, as the library asks for it -/
theorem lc_body {t : Tg} {cifs : List CT} {ce : CE} {vs : List Nat} {σ : L2.St} {σ' : Sl} {d : D} {Q : VK} {J : It} {ds : List D} {ys : List D} {mE : Mem} (htg : ∀ i ∈ tgS t, i ∈ vs)
    (sr : SR w σ' σ) (hne : ds ≠ []) (wk : WalkOk S X ro w m ds (lockAt ro m d) (isDct (rd ro m d)) J w1 H1) (hl : lcL (lcF P ro t (Av.wipe σ' vs) cifs ce) ds (lockM m (lockAt ro m d)) = .ok ys mE)
    (fin : ∀ w' v H', w.Le w' → HR S w' ro (unlockM mE (lockAt ro m d)) H' → RelD w' (.lst ys) v → Q v H') :
    ∀ D, H1 D = none → ∃ Wf : Nat → Nat → Hp → Prop, (∃ m, Wf 0 m (upd H1 D (.lst []))) ∧ ∀ i mm H, Wf i mm H →
      (J.stop i H ∧ unlQ X Q (.ref D) H) ∨ (J.go i H ∧ ∃ Nx : Hp → Prop, (∀ H', Nx H' → ∃ m', m' < mm ∧ Wf (i + 1) m' H') ∧ ∀ x H', J.yld i H x H' → gTg X.K t x (L2.wipe σ vs) H' fun σ2 H2 => L2.wipe σ2 vs = L2.wipe σ vs ∧ xTs S E W0 P ro cifs σ2 H2 fun b H3 =>
        if b = true then xE S E W0 P ro ce σ2 H3 fun y H4 => ∃ acc, H4 D = some (.lst acc) ∧ acc.length < sizeLine ∧ Nx (upd H4 D (.lst (acc ++ [y]))) else Nx H3) := by
  intro D hD
  have hLIM := wk.len
  refine ⟨fun i mm Hc => ∃ w3 m3 acc accV ysR, mm = ds.length - i ∧ i ≤ ds.length ∧ (w1.hold D (.lst accV)).Le w3 ∧ HR S w3 ro m3 Hc ∧ RelDs w3 acc accV ∧ acc.length ≤ i ∧ lcL (lcF P ro t (Av.wipe σ' vs) cifs ce) (ds.drop i) m3 = .ok ysR mE ∧ acc ++ ysR = ys,
    ⟨ds.length, w1.hold D (.lst []), lockM m (lockAt ro m d), [], [], ys, rfl, Nat.zero_le _, .refl _, wk.hr.hold hD (fun _ z => nomatch z), .nil, Nat.le_refl _, hl, rfl⟩, ?_⟩
  rintro i mm Hc ⟨w3, m3, acc, accV, ysR, rfl, hi, le3, hr3, racc, hacc, hrest, happ⟩
  have hd3 : w3.hd D = some (.lst accV) := by rw [le3.hd]; exact upd_same
  have hHc : Hc D = some (.lst accV) := hr3.hld D _ hd3
  have lx3 : w1.LeX w3 := ⟨le3.io, le3.fz, le3.xe, le3.lk, le3.ll, fun a o e => by
    rw [le3.hd]
    show upd w1.hd D _ a = some o
    rw [upd_ne (fun z => by have := wk.hr.hld a o e; rw [z, hD] at this; cases this)]; exact e, le3.cur⟩
  have c3 : w3.cur = w.cur := lx3.cur.trans wk.cur
  have s13 : w.Sub w3 := ⟨fun n a e => le3.io n a (by rw [show (w1.hold D (.lst accV)).io = w1.io from rfl, wk.io]; exact e), fun a o e => le3.fz a o (by rw [show (w1.hold D (.lst accV)).fz = w1.fz from rfl, wk.fz]; exact e), fun a o e => le3.xe a o (by rw [show (w1.hold D (.lst accV)).xe = w1.xe from rfl, wk.xe]; exact e)⟩
  by_cases hlt : i < ds.length
  · refine .inr ⟨wk.go w3 m3 Hc i lx3 hr3 hlt, fun H' => ∃ m', m' < ds.length - i ∧ ∃ w3 m3 acc accV ysR, m' = ds.length - (i + 1) ∧ i + 1 ≤ ds.length ∧ (w1.hold D (.lst accV)).Le w3 ∧ HR S w3 ro m3 H' ∧ RelDs w3 acc accV ∧ acc.length ≤ i + 1 ∧ lcL (lcF P ro t (Av.wipe σ' vs) cifs ce) (ds.drop (i + 1)) m3 = .ok ysR mE ∧ acc ++ ysR = ys, fun H' h => h, fun x H' y => ?_⟩
    obtain ⟨rfl, di, w4, hdi, le4, hr4, r4⟩ := wk.yld w3 m3 Hc i x H' lx3 hr3 hlt y
    have hdrop : ds.drop i = di :: ds.drop (i + 1) := by
      rw [List.drop_eq_getElem_cons hlt]
      congr 1
      exact (List.getElem?_eq_some_iff.mp hdi).2
    rw [hdrop] at hrest
    obtain ⟨o, m4, h1, h2⟩ := bind_ok_some (show (lcF P ro t (Av.wipe σ' vs) cifs ce di m3).bind _ = _ from hrest)
    obtain ⟨ys', m5, h3, h4⟩ := bind_ok_some h2
    cases h4
    unfold lcF at h1
    split at h1
    · rename_i σ1 hσ1
      refine asg_rel hr4 t di x _ σ1 _ _ ((sr.sub (s13.trans le4.sub) (le4.cur.trans c3)).wipe vs) r4 hσ1 fun σ2 s2 hw => ⟨by rw [hw vs htg, wipe_wipe], ?_⟩
      obtain ⟨cb, m6, h5, h6⟩ := bind_ok_some h1
      refine ⟨w4, σ1, m3, s2, hr4, ?_⟩
      rw [h5]
      rintro w5 b H5 le5 hr5 rfl
      cases cb with
      | true =>
        obtain ⟨yd, m7, h7, h8⟩ := bind_ok_some (show (ev P ro ce σ1 m6).bind _ = _ from h6)
        cases h8
        refine ⟨w5, σ1, m6, s2.mono le5, hr5, ?_⟩
        show Fin S E W0 w5 ro σ2 RelD _ (ev P ro ce σ1 m6)
        rw [h7]
        intro w6 v H6 le6 hr6 r6
        have hd6 : w6.hd D = some (.lst accV) := by rw [le6.hd, le5.hd, le4.hd]; exact hd3
        have lk6 : w6.lk D = none := by
          rw [le6.lk, le5.lk, le4.lk, le3.lk]
          exact wk.hr.nolk hD
        have al : accV.length = acc.length := (RelDs.length racc).symm
        refine ⟨accV, hr6.hld D _ hd6, by rw [al]; exact lim_lt (by omega), ds.length - (i + 1), by omega, w6.hold D (.lst (accV ++ [v])), m4, acc ++ [yd], accV ++ [v], ys', rfl, hlt, ?_, hr6.rehold hd6 (by intro vs z; cases z) (by intro vs z; cases z) lk6, ?_, by rw [List.length_append, List.length_singleton]; omega, h3, by simpa using happ⟩
        · have le36 := (le4.trans le5).trans le6
          refine ⟨fun n a e => le36.io n a (le3.io n a e), fun a o e => le36.fz a o (le3.fz a o e), fun a o e => le36.xe a o (le3.xe a o e), le36.lk.trans le3.lk, le36.ll.trans le3.ll, ?_, le36.cur.trans le3.cur⟩
          show upd w6.hd D _ = upd w1.hd D _
          rw [le36.hd, le3.hd]
          show upd (upd w1.hd D _) D _ = _
          rw [upd_upd]
        · exact ((racc.mono ((le4.trans le5).trans le6)).append (.cons r6 .nil)).sub Wd.sHo
      | false =>
        have h6 : R.ok none m6 = R.ok o m4 := h6
        cases h6
        have le35 := le4.trans le5
        exact ⟨ds.length - (i + 1), by omega, w5, m4, acc, accV, ys', rfl, hlt, le3.trans le35, hr5, racc.mono le35, by omega, h3, happ⟩
    · cases h1
  · have hie : i = ds.length := by omega
    subst hie
    refine .inl ⟨wk.stop w3 m3 Hc _ lx3 hr3 (Nat.le_refl _), ?_⟩
    rw [List.drop_length] at hrest
    have hrest : R.ok [] m3 = R.ok ysR mE := hrest
    cases hrest
    rw [List.append_nil] at happ
    subst happ
    have wle : w.Le (w.back w3) := Wd.back_le s13.io s13.fz s13.xe
    have fz3 : w3.fz D = none := hr3.hsf D _ hd3
    have io3 : ∀ n, w3.io n ≠ some D := fun n => hr3.hsi D _ n hd3
    -- at the end: D is frozen
    have last : ∀ H', HR S (w.back w3) ro (unlockM mE (lockAt ro m d)) H' → H' D = some (.lst accV) → Q (.ref D) H' := fun H' hb hHD => by
      have hdw : w.hd D = none := by
        cases e : w.hd D with
        | none => rfl
        | some u =>
          have := wk.hr.hld D u (by rw [wk.hd]; exact e)
          rw [hD] at this; cases this
      have lkw : w.lk D = none := by
        cases e : w.lk D with
        | none => rfl
        | some p =>
          have := (hb.lkd D p e).1
          rw [hHD] at this; cases this
      obtain ⟨k1, k2⟩ := hb.here hHD fz3 io3 lkw hdw (fun _ z => by cases z)
      have sF : w3.Sub ((w.back w3).fr D (.lst accV)) := ⟨fun _ _ h => h, fun a o e => by
        show upd w3.fz D _ a = some o
        rw [upd_ne (fun z => by rw [z, fz3] at e; cases e)]; exact e, fun _ _ h => h⟩
      refine fin _ (.ref D) H' (wle.trans k2) k1 (.lst (by omega) (show upd w3.fz D _ D = _ from upd_same) (racc.sub sF))
    rcases wk.back w3 mE Hc lx3 hr3 with hb | ⟨dd, od, u, e1, e2, _, hb⟩
    · exact .inl (last Hc hb hHc)
    · refine .inr ⟨dd, od, u, e1, e2, last _ hb ?_⟩
      rw [upd_ne (fun z => by rw [z, e1] at hHc; cases hHc)]; exact hHc
theorem lc_main {own : List (Str × Nat)} {t : Tg} {ci ce : CE} {cifs : List CT} {σ : L2.St} {H : Hp} {Q : VK} (htg : ∀ i ∈ tgS t, i ∈ own.map (·.2)) (q : xE S E W P ro (.lc (own.map (·.2)) t ci cifs ce) σ H Q) :
    tLc (xI S X E W P ro ci) (gTg X.K t) (xTs S E W0 P ro cifs) (xE S E W0 P ro ce) (own.map (·.2)) σ H (unlQ X Q) := by
    obtain ⟨w, σ', m, sr, hr, f⟩ := q
    have f : Fin S E W w ro σ RelD Q (ev P ro (.lc (own.map (·.2)) t ci cifs ce) σ' m) := f
    rw [ev_lc] at f
    refine ⟨w, σ', m, sr, hr, ?_⟩
    cases e : ev P ro ci σ' m with
    | stuck => rw [e] at f; exact f
    | exc x m1 => rw [e] at f; exact f
    | ok d m1 =>
      rw [e, R.bind_ok] at f
      intro w1 H1 l1 hr1
      have f := Fin.mono l1 f
      unfold walkE at f
      cases hit : itemsV (rd ro m1 d) with
      | none => rw [hit] at f; exact f.elim
      | some ds =>
        rw [hit] at f
        have f : Fin S E W w1 ro σ RelD Q (((lcL (lcF P ro t (Av.wipe σ' (own.map (·.2))) cifs ce) ds (lockM m1 (lockAt ro m1 d))).calm fun a m2 => R.ok a (unlockM m2 (lockAt ro m1 d))).bind fun ys m6 => .ok (.lst ys) m6) := f
        cases hl : lcL (lcF P ro t (Av.wipe σ' (own.map (·.2))) cifs ce) ds (lockM m1 (lockAt ro m1 d)) with
        | stuck => rw [hl] at f; exact f.elim
        | exc x m2 => rw [hl] at f; exact f.elim
        | ok ys mE =>
          rw [hl] at f
          have f : ∀ w' v H', w1.Le w' → HR S w' ro (unlockM mE (lockAt ro m1 d)) H' → RelD w' (.lst ys) v → Q v H' := f
          refine ⟨ds, hit, fun hne J w2 H2 wk => lc_body htg (sr.mono l1) hne wk hl f, fun hemp J H2 emp => ?_⟩
          subst hemp
          have hj := lockAt_empty hit
          rw [hj] at hl
          have hl : R.ok [] m1 = R.ok ys mE := hl
          cases hl
          intro D hD
          refine ⟨fun i mm Hc => i = 0 ∧ Hc = upd H2 D (.lst []), ⟨0, rfl, rfl⟩, ?_⟩
          rintro i mm Hc ⟨rfl, rfl⟩
          refine .inl ⟨emp.1 _ fun b u _ e => by rw [upd_ne (fun z => by rw [z, hD] at e; cases e)]; exact e, ?_⟩
          have fin : ∀ H', H' = H1 → H' D = none → Q (.ref D) (upd H' D (.lst [])) := fun H' e h => by
            subst e
            exact f _ _ _ (Wd.fr_le (hr1.nofz h)) (by rw [hj]; exact hr1.fr h (.lst [])) (.lst (Nat.zero_le _) (show upd w1.fz D _ D = _ from upd_same) .nil)
          rcases emp.2 with rfl | ⟨dd, od, u, e1, rfl, hn, _⟩
          · exact .inl (fin _ rfl hD)
          · have hDd : D ≠ dd := fun z => by rw [z, upd_same] at hD; cases hD
            refine .inr ⟨dd, od, u, by rw [upd_ne (Ne.symm hDd)]; exact upd_same, hn, ?_⟩
            have e2 : upd (upd (upd H1 dd (.frz od u)) D (.lst [])) dd u = upd H1 D (.lst []) := by
              funext b
              by_cases h1 : b = dd
              · subst h1; rw [upd_same, upd_ne (Ne.symm hDd)]; exact e1.symm
              · rw [upd_ne h1]
                by_cases h2 : b = D
                · subst h2; rw [upd_same, upd_same]
                · rw [upd_ne h2, upd_ne h2, upd_ne h1]
            rw [e2]
            exact fin _ rfl (by rw [upd_ne hDd] at hD; exact hD)
theorem l_lc {tg iter elt : Expr} {ifs : List Expr} {scope : Scope} {own : List (Str × Nat)} {t : Tg} {ci ce : CE} {cifs : List CT} (G : XG S X) (hi : PI X tg iter (xI S X E W P ro ci)) (ok : BlkOk X.N X.env.scope scope own) (htg : ∀ i ∈ tgS t, i ∈ own.map (·.2))
    (hg : ∀ (s : Shared) (H : Hp) (C : Addr) (cl : List (Str × Addr)) (fp : List Addr), PG (X.blk s H scope (compEnvC scope cl C X.env) fp) tg (gTg X.K t)) (ht : ∀ (s : Shared) (H : Hp) (C : Addr) (cl : List (Str × Addr)) (fp : List Addr), PTs (X.blk s H scope (compEnvC scope cl C X.env) fp) ifs (xTs S E W0 P ro cifs))
    (he : ∀ (s : Shared) (H : Hp) (C : Addr) (cl : List (Str × Addr)) (fp : List Addr), PE (X.blk s H scope (compEnvC scope cl C X.env) fp) elt (xE S E W0 P ro ce)) (hs : ∀ x, foldedSetIterable iter X.env x = pure x) :
    PE X (.ListComp elt [⟨tg, iter, ifs, 0⟩] scope pos) (xE S E W P ro (.lc (own.map (·.2)) t ci cifs ce)) :=
  imE (pe_lcU G.calm G.nd hi ok hg ht he hs) fun σ H Q q => lc_main htg q
end
end Av
end
section
set_option Elab.async false
set_option linter.all false
set_option maxRecDepth 100000
set_option autoImplicit false
set_option maxHeartbeats 4000000
namespace Av
open PySem PySem.Spec PyProof.Rows L2
/-- how a statement ends -/
def EndR (w : Wd) (D : Ends) : Fl → L2.St → Hp → Prop
  | .nx, σ, H => D.nx σ H
  | .brk, σ, H => D.bk σ H
  | .cnt, σ, H => D.ct σ H
  | .ret d, _, H => ∀ v, RelD w d v → D.rt v H
def FinS (S : SE) (E : ED) (W : WX) (ro : Mem) (w : Wd) (D : Ends) : R Fr Fl → Prop
  | .ok fl st => ∀ w1 σ1 H1, w.Le w1 → SR w1 st.sl σ1 → HR S w1 ro st.m H1 → EndR w1 D fl σ1 H1
  | .exc x st => ∀ w1 cls dd σ1 H1, w.Le w1 → SR w1 st.sl σ1 → HR S w1 ro st.m H1 → RelX E w1 x cls dd H1 → W cls dd σ1 H1
  | .stuck => False
/-- a statement's reading -/
def gS (S : SE) (E : ED) (W : WX) (ro : Mem) (f : Fr → R Fr Fl) : TS := fun D σ H => ∃ w σ' m, SR w σ' σ ∧ HR S w ro m H ∧ FinS S E W ro w D (f ⟨σ', m⟩)
abbrev xS1 (S : SE) (E : ED) (W : WX) (P : Pm) (ro : Mem) (c : CS) : TS := gS S E W ro (ex P ro c)
abbrev xSs (S : SE) (E : ED) (W : WX) (P : Pm) (ro : Mem) (c : List CS) : TS := gS S E W ro (exs P ro c)
theorem imS {X : Cx} {s : Stmt} {t t' : TS} (h : PS X s t) (i : ∀ D σ H, t' D σ H → t D σ H) : PS X s t' := ⟨fun pins s σ H D I q => h.run pins s σ H D I (i D σ H q)⟩
theorem imSs {X : Cx} {s : List Stmt} {t t' : TS} (h : PSs X s t) (i : ∀ D σ H, t' D σ H → t D σ H) : PSs X s t' := ⟨fun pins s σ H D I q => h.run pins s σ H D I (i D σ H q)⟩
section
variable {S : SE} {E : ED} {W : WX} {P : Pm} {ro : Mem} {X : Cx} {a b c e : Expr} {ca cb cc ce : CE} {pos : Pos} {es : List Expr} {cs : List CE} {w w1 w2 : Wd} {m m1 m2 : Mem} {H H1 H2 : Hp} {st : Stmt} {rest : List Stmt} {σ : L2.St} {σ' : Sl} {De : Ends}
theorem FinS.mono {r : R Fr Fl} (l : w.Le w1) (h : FinS S E W ro w De r) : FinS S E W ro w1 De r := by
  cases r with
  | ok fl st => exact fun w' σ1 H' l' => h w' σ1 H' (l.trans l')
  | exc x st => exact fun w' c d σ1 H' l' => h w' c d σ1 H' (l.trans l')
  | stuck => exact h
theorem FinS.ok {fl : Fl} (h : FinS S E W ro w De (.ok fl ⟨σ', m⟩)) (sr : SR w σ' σ) (hr : HR S w ro m H) : EndR w De fl σ H := h w σ H (.refl w) sr hr
/-- an expression, then what follows -/
theorem FinS.up {α β : Type} {Rel : Wd → α → β → Prop} {Q : β → Hp → Prop} {r : R Mem α} {k : α → Fr → R Fr Fl} (sr : SR w σ' σ) (f : FinS S E W ro w De ((r.up σ').bind k))
    (h : ∀ x m1 w1 v H1, w.Le w1 → SR w1 σ' σ → HR S w1 ro m1 H1 → Rel w1 x v → FinS S E W ro w1 De (k x ⟨σ', m1⟩) → Q v H1) : Fin S E W w ro σ Rel Q r := by
  cases r with
  | ok x m1 => exact fun w1 v H1 l hr1 r1 => h x m1 w1 v H1 l (sr.mono l) hr1 r1 (FinS.mono l f)
  | exc x m1 => exact fun w1 cls dd H1 l hr1 r1 => f w1 cls dd σ H1 l (sr.mono l) hr1 r1
  | stuck => exact f
theorem gE.up {f : Sl → Mem → R Mem D} {k : D → Fr → R Fr Fl} {Q : VK} (sr : SR w σ' σ) (hr : HR S w ro m H) (q : FinS S E W ro w De (((f σ' m).up σ').bind k))
    (h : ∀ x m1 w1 v H1, w.Le w1 → SR w1 σ' σ → HR S w1 ro m1 H1 → RelD w1 x v → FinS S E W ro w1 De (k x ⟨σ', m1⟩) → Q v H1) : gE S E W ro f σ H Q := ⟨w, σ', m, sr, hr, FinS.up sr q h⟩
theorem ls_nil : PSs X [] (xSs S E W P ro []) := imSs pss_nil fun De σ H ⟨w, σ', m, sr, hr, f⟩ => by
  rw [exs] at f
  exact f.ok sr hr
theorem ls_cons {cst : CS} {crest : List CS} (h1 : PS X st (xS1 S E W P ro cst)) (h2 : PSs X rest (xSs S E W P ro crest)) : PSs X (st :: rest) (xSs S E W P ro (cst :: crest)) :=
  imSs (pss_cons h1 h2) fun De σ H ⟨w, σ', m, sr, hr, f⟩ => by
    rw [exs] at f
    refine ⟨w, σ', m, sr, hr, ?_⟩
    cases e : ex P ro cst ⟨σ', m⟩ with
    | stuck => rw [e] at f; exact f
    | exc x st1 => rw [e] at f; exact f
    | ok fl st1 =>
      rw [e, R.bind_ok] at f
      cases fl with
      | nx => exact fun w1 σ1 H1 l sr1 hr1 => ⟨w1, st1.sl, st1.m, sr1, hr1, FinS.mono l f⟩
      | brk => exact f
      | cnt => exact f
      | ret d => exact f
theorem ls_pass : PS X (.Pass pos) (xS1 S E W P ro .pass) := imS ps_pass fun De σ H ⟨w, σ', m, sr, hr, f⟩ => by
  rw [ex] at f
  exact f.ok sr hr
theorem ls_break : PS X (.Break pos) (xS1 S E W P ro .brk) := imS ps_break fun De σ H ⟨w, σ', m, sr, hr, f⟩ => by
  rw [ex] at f
  exact f.ok sr hr
theorem ls_continue : PS X (.Continue pos) (xS1 S E W P ro .cnt) := imS ps_continue fun De σ H ⟨w, σ', m, sr, hr, f⟩ => by
  rw [ex] at f
  exact f.ok sr hr
theorem ls_doc {x : Str} {j : Nat} {pos' : Pos} : PS X (.Expr (.Constant (.str x) j pos) pos') (xS1 S E W P ro .pass) := imS ps_doc fun De σ H ⟨w, σ', m, sr, hr, f⟩ => by
  rw [ex] at f
  exact f.ok sr hr
theorem ls_expr (he : PE X e (xE S E W P ro ce)) (hs : noComp e = true) : PS X (.Expr e pos) (xS1 S E W P ro (.exp ce)) := imS (ps_expr he (swap_ok hs)) fun De σ H ⟨w, σ', m, sr, hr, f⟩ => by
  rw [ex] at f
  show xE S E W P ro ce σ H (fun _ H1 => De.nx σ H1)
  exact gE.up sr hr f fun x m1 w1 v H1 l sr1 hr1 r1 f1 => FinS.ok (fl := .nx) f1 sr1 hr1
theorem ls_ret (he : PE X e (xE S E W P ro ce)) : PS X (.Return (some e) pos) (xS1 S E W P ro (.ret ce)) := imS (ps_ret he) fun De σ H ⟨w, σ', m, sr, hr, f⟩ => by
  rw [ex] at f
  show xE S E W P ro ce σ H De.rt
  exact gE.up sr hr f fun x m1 w1 v H1 l sr1 hr1 r1 f1 => FinS.ok (fl := .ret x) f1 sr1 hr1 v r1
theorem ls_retN : PS X (.Return none pos) (xS1 S E W P ro (.ret (.cst .non))) := imS ps_retN fun De σ H ⟨w, σ', m, sr, hr, f⟩ => by
  rw [ex, ev] at f
  exact FinS.ok (fl := .ret .non) f sr hr .non .non
theorem ls_if {ct : CT} {bs cs : List Stmt} {cbs ccs : List CS} (hc : PT X c (xT S E W P ro ct)) (ha : PSs X bs (xSs S E W P ro cbs)) (hb : PSs X cs (xSs S E W P ro ccs)) : PS X (.If c bs cs pos) (xS1 S E W P ro (.ife ct cbs ccs)) :=
  imS (ps_if hc ha hb) fun De σ H ⟨w, σ', m, sr, hr, f⟩ => by
    rw [ex] at f
    refine ⟨w, σ', m, sr, hr, FinS.up sr f fun x m1 w1 v H1 l sr1 hr1 r1 f1 => ?_⟩
    subst r1
    cases x with
    | true => exact ⟨w1, σ', m1, sr1, hr1, f1⟩
    | false => exact ⟨w1, σ', m1, sr1, hr1, f1⟩
theorem ls_set {i : Nat} {x : Str} {pos' : Pos} (G : XG0 S X) (hi : X.N[i]? = some x) (hx : X.env.scope.names.lookup x = some .local) (he : PE X e (xE S E W P ro ce)) (hs : noComp e = true) :
    PS X (.Assign [.Name x pos'] e pos) (xS1 S E W P ro (.asg (.t (.v i)) ce)) := imS (ps_set G.nd hi (.inl hx) he (swap_ok hs) (.inr hx)) fun De σ H ⟨w, σ', m, sr, hr, f⟩ => by
  rw [ex] at f
  show xE S E W P ro ce σ H (fun y H1 => De.nx (σ.set i (some y)) H1)
  refine gE.up sr hr f fun x m1 w1 v H1 l sr1 hr1 r1 f1 => ?_
  have f1 : FinS S E W ro w1 De (match asgT (.v i) x σ' with | some σ => .ok .nx ⟨σ, m1⟩ | none => .stuck) := f1
  simp only [asgT] at f1
  split at f1
  · rename_i s e
    split at e
    · split at e
      · cases e
      · rename_i hx
        cases e
        exact FinS.ok (fl := .nx) f1 (sr1.set r1 (by simpa using hx)) hr1
    · cases e
  · exact f1.elim
theorem ls_asg {tg : Expr} {t : Tg} (G : XG0 S X) (hg : PG X tg (gTg X.K t)) (he : PE X e (xE S E W P ro ce)) (hs : swapsWithSole [tg] e pos.line X.env = pure false) (ht : nostar tg = true) (ho : notTup tg = true ∨ notTup e = true) :
    PS X (.Assign [tg] e pos) (xS1 S E W P ro (.asg (.t t) ce)) := imS (ps_asg he hg hs (stores_ok ho) (each1 ht)) fun De σ H ⟨w, σ', m, sr, hr, f⟩ => by
  rw [ex] at f
  show xE S E W P ro ce σ H (fun y H1 => gTg X.K t y σ H1 De.nx)
  refine gE.up sr hr f fun x m1 w1 v H1 l sr1 hr1 r1 f1 => ?_
  have f1 : FinS S E W ro w1 De (match asgT t x σ' with | some σ => .ok .nx ⟨σ, m1⟩ | none => .stuck) := f1
  split at f1
  · rename_i s e
    exact asg_rel hr1 t x v σ' s σ _ sr1 r1 e fun σ2 s2 _ => FinS.ok (fl := .nx) f1 s2 hr1
  · exact f1.elim
def unlN (X : Cx) (Q : L2.St → Hp → Prop) : L2.St → Hp → Prop := fun σ H => Q σ H ∨ ∃ d od u, H d = some (.frz od u) ∧ (∀ o' u', X.H_0 d ≠ some (.frz o' u')) ∧ Q σ (upd H d u)
def unlE (X : Cx) (D : Ends) : Ends := { nx := unlN X D.nx, rt := unlQ X D.rt, bk := unlN X D.bk, ct := unlN X D.ct }
theorem ps_unl {t : TS} (h : PS X st t) : PS X st (fun D => t (unlE X D)) := ⟨fun pins s σ H D I q => thn (h.run pins s σ H _ I q) fun f s1 q1 => by
  cases f with
  | next =>
    obtain ⟨σ1, H1, I1, q1 | ⟨d, od, u, e, hn, q1⟩⟩ := q1
    · exact ⟨σ1, H1, I1, q1⟩
    · exact ⟨σ1, _, I1.unlock e hn, q1⟩
  | brk =>
    obtain ⟨σ1, H1, I1, q1 | ⟨d, od, u, e, hn, q1⟩⟩ := q1
    · exact ⟨σ1, H1, I1, q1⟩
    · exact ⟨σ1, _, I1.unlock e hn, q1⟩
  | cont =>
    obtain ⟨σ1, H1, I1, q1 | ⟨d, od, u, e, hn, q1⟩⟩ := q1
    · exact ⟨σ1, H1, I1, q1⟩
    · exact ⟨σ1, _, I1.unlock e hn, q1⟩
  | ret u =>
    obtain ⟨v, σ1, H1, I1, rv, q1 | ⟨d, od, u, e, hn, q1⟩⟩ := q1
    · exact ⟨v, σ1, H1, I1, rv, q1⟩
    · exact ⟨v, σ1, _, I1.unlock e hn, rv, q1⟩⟩
/-- what a walk's end is -/
def walkX (dk : Bool) (j : Option Nat) : R Fr Fl → R Fr Fl
  | .ok a st1 => .ok a ⟨st1.sl, unlockM st1.m j⟩
  | .exc x st1 => if dk then .stuck else .exc x ⟨st1.sl, unlockM st1.m j⟩
  | .stuck => .stuck
/-- one turn of a loop -/
def forF (P : Pm) (ro : Mem) (t : Tg) (b : List CS) : D → Fr → R Fr Fl := fun x s => match asgT t x s.sl with
  | some σ => exs P ro b ⟨σ, s.m⟩
  | none => .stuck
theorem RelX.sub (l : w.Sub w1) (hh : w1.hd = w.hd) {x : Xn} {cls : Value} {dd : Option Addr} (h : RelX E w x cls dd H) : RelX E w1 x cls dd H := by
  obtain ⟨h1, d, vs, h2, h3, h4, h5, h6, h7⟩ := h
  exact ⟨h1, d, vs, h2, h3, h4.sub l, h5, h6, by rw [hh]; exact h7⟩
theorem for_body {t : Tg} {cb : List CS} {ds : List D} {j : Option Nat} {dk : Bool} {J : It} (sr : SR w σ' σ) (wk : WalkOk S X ro w m ds j dk J w1 H1) (f : FinS S E W ro w De (walkX dk j (forL (forF P ro t cb) ds ⟨σ', lockM m j⟩))) :
    ∃ Wf : Nat → Nat → L2.St → Hp → Prop, (∃ m, Wf 0 m σ H1) ∧ ∀ i mm σ H, Wf i mm σ H →
      (J.stop i H ∧ (unlE X De).nx σ H) ∨ (J.go i H ∧ ∃ N : L2.St → Hp → Prop, (∀ σ' H', N σ' H' → ∃ m', m' < mm ∧ Wf (i + 1) m' σ' H') ∧ ∀ x H', J.yld i H x H' → gTg X.K t x σ H' fun σ2 H2 => xSs S E W P ro cb { (unlE X De) with nx := N, ct := N, bk := (unlE X De).nx } σ2 H2) := by
  have s01 : w.Sub w1 := ⟨fun n a e => by rw [wk.io]; exact e, fun a o e => by rw [wk.fz]; exact e, fun a o e => by rw [wk.xe]; exact e⟩
  refine ⟨fun i mm σ Hc => ∃ w3 s3, mm = ds.length - i ∧ i ≤ ds.length ∧ w1.Le w3 ∧ SR w3 s3.sl σ ∧ HR S w3 ro s3.m Hc ∧ FinS S E W ro w De (walkX dk j (forL (forF P ro t cb) (ds.drop i) s3)),
    ⟨ds.length, w1, ⟨σ', lockM m j⟩, rfl, Nat.zero_le _, .refl _, sr.sub s01 wk.cur, wk.hr, f⟩, ?_⟩
  rintro i mm σc Hc ⟨w3, s3, rfl, hi, le3, sr3, hr3, hrest⟩
  -- leaving the walk
  have leave : ∀ (w5 : Wd) (H5 : Hp) (m5 : Mem), w1.Le w5 → HR S w5 ro m5 H5 → w.Le (w.back w5) ∧ (HR S (w.back w5) ro (unlockM m5 j) H5 ∨ ∃ d od u, H5 d = some (.frz od u) ∧ (∀ o' u', X.H_0 d ≠ some (.frz o' u')) ∧ dk = true ∧ HR S (w.back w5) ro (unlockM m5 j) (upd H5 d u)) := fun w5 H5 m5 l5 hr5 =>
    ⟨Wd.back_le (s01.trans l5.sub).io (s01.trans l5.sub).fz (s01.trans l5.sub).xe, (wk.back w5 m5 H5 l5.x hr5).imp id fun ⟨d, od, u, e, hn, ⟨_, hk⟩, hb⟩ => ⟨d, od, u, e, hn, hk, hb⟩⟩
  have leaveN : ∀ (w5 : Wd) (σ5 : L2.St) (H5 : Hp) (s5 : Fr), w1.Le w5 → SR w5 s5.sl σ5 → HR S w5 ro s5.m H5 → FinS S E W ro w De (.ok .nx ⟨s5.sl, unlockM s5.m j⟩) → unlN X De.nx σ5 H5 := fun w5 σ5 H5 s5 l5 sr5 hr5 q => by
    obtain ⟨lb, hb | ⟨d, od, u, e, hn, _, hb⟩⟩ := leave w5 H5 s5.m l5 hr5
    · exact .inl (q _ σ5 H5 lb (sr5.sub Wd.back_sub (show (w.back w5).cur = w5.cur from wk.cur.symm.trans l5.cur.symm)) hb)
    · exact .inr ⟨d, od, u, e, hn, q _ σ5 _ lb (sr5.sub Wd.back_sub (show (w.back w5).cur = w5.cur from wk.cur.symm.trans l5.cur.symm)) hb⟩
  by_cases hlt : i < ds.length
  · refine .inr ⟨wk.go w3 s3.m Hc i le3.x hr3 hlt, fun σ' H' => ∃ m', m' < ds.length - i ∧ ∃ w3 s3, m' = ds.length - (i + 1) ∧ i + 1 ≤ ds.length ∧ w1.Le w3 ∧ SR w3 s3.sl σ' ∧ HR S w3 ro s3.m H' ∧ FinS S E W ro w De (walkX dk j (forL (forF P ro t cb) (ds.drop (i + 1)) s3)), fun σ' H' h => h, fun x H' y => ?_⟩
    obtain ⟨rfl, di, w4, hdi, le4, hr4, r4⟩ := wk.yld w3 s3.m Hc i x H' le3.x hr3 hlt y
    have hdrop : ds.drop i = di :: ds.drop (i + 1) := by
      rw [List.drop_eq_getElem_cons hlt]
      congr 1
      exact (List.getElem?_eq_some_iff.mp hdi).2
    rw [hdrop, forL] at hrest
    rw [show forF P ro t cb di s3 = match asgT t di s3.sl with | some σ => exs P ro cb ⟨σ, s3.m⟩ | none => .stuck from rfl] at hrest
    cases ha : asgT t di s3.sl with
    | none => rw [ha] at hrest; exact hrest.elim
    | some σ1 =>
      rw [ha] at hrest
      dsimp only at hrest
      refine asg_rel hr4 t di x _ σ1 _ _ (sr3.mono le4) r4 ha fun σ2 s2 _ => ⟨w4, σ1, s3.m, s2, hr4, ?_⟩
      cases er : exs P ro cb ⟨σ1, s3.m⟩ with
      | stuck => rw [er] at hrest; exact hrest.elim
      | exc x st5 =>
        rw [er] at hrest
        intro w5 cls dd σ5 H5 l5 sr5 hr5 rx
        have hrest : FinS S E W ro w De (if dk then .stuck else .exc x ⟨st5.sl, unlockM st5.m j⟩) := hrest
        obtain ⟨lb, hb | ⟨d, od, u, e, hn, hk, hb⟩⟩ := leave w5 H5 st5.m ((le3.trans le4).trans l5) hr5
        · cases dk with
          | true => exact hrest.elim
          | false => exact hrest _ cls dd σ5 H5 lb (sr5.sub Wd.back_sub (show (w.back w5).cur = w5.cur from wk.cur.symm.trans ((le3.trans le4).trans l5).cur.symm)) hb (rx.sub Wd.back_sub (show (w.back w5).hd = w5.hd from wk.hd.symm.trans ((le3.trans le4).trans l5).hd.symm))
        · subst hk; exact hrest.elim
      | ok fl st5 =>
        rw [er, R.bind_ok] at hrest
        intro w5 σ5 H5 l5 sr5 hr5
        have l15 := (le3.trans le4).trans l5
        cases fl with
        | nx => exact ⟨ds.length - (i + 1), by omega, w5, st5, rfl, hlt, l15, sr5, hr5, hrest⟩
        | cnt => exact ⟨ds.length - (i + 1), by omega, w5, st5, rfl, hlt, l15, sr5, hr5, hrest⟩
        | brk => exact leaveN w5 σ5 H5 st5 l15 sr5 hr5 hrest
        | ret dv =>
          intro v rv
          obtain ⟨lb, hb | ⟨d, od, u, e, hn, _, hb⟩⟩ := leave w5 H5 st5.m l15 hr5
          · exact .inl (hrest _ σ5 H5 lb (sr5.sub Wd.back_sub (show (w.back w5).cur = w5.cur from wk.cur.symm.trans l15.cur.symm)) hb v (rv.sub Wd.back_sub))
          · exact .inr ⟨d, od, u, e, hn, hrest _ σ5 _ lb (sr5.sub Wd.back_sub (show (w.back w5).cur = w5.cur from wk.cur.symm.trans l15.cur.symm)) hb v (rv.sub Wd.back_sub)⟩
  · have hie : i = ds.length := by omega
    subst hie
    rw [List.drop_length] at hrest
    exact .inl ⟨wk.stop w3 s3.m Hc _ le3.x hr3 (Nat.le_refl _), leaveN w3 σc Hc s3 le3 sr3 hr3 hrest⟩
theorem ls_for {tg iter : Expr} {body : List Stmt} {t : Tg} {ci : CE} {cb : List CS} (G : XG S X) (hp : PassesOwn (model X.prog X.w) X.A X.env X.xe) (hi : PI X tg iter (xI S X E W P ro ci)) (hg : PG X tg (gTg X.K t)) (hb : PSs X body (xSs S E W P ro cb)) (hs : ∀ x, foldedSetIterable iter X.env x = pure x) :
    PS X (.For tg iter body [] pos) (xS1 S E W P ro (.for_ t ci cb)) := imS (ps_unl (ps_for hp G.calm hi hg hb hs)) fun De σ H ⟨w, σ', m, sr, hr, f⟩ => by
  have f : FinS S E W ro w De (((ev P ro ci σ' m).up σ').bind fun d st1 => walkS ro d st1 fun xs st2 => forL (forF P ro t cb) xs st2) := by rw [ex] at f; exact f
  refine ⟨w, σ', m, sr, hr, ?_⟩
  cases e : ev P ro ci σ' m with
  | stuck => rw [e] at f; exact f
  | exc x m1 => rw [e] at f; exact fun w1 cls dd H1 l hr1 r1 => f w1 cls dd σ H1 l (sr.mono l) hr1 r1
  | ok d m1 =>
    rw [e] at f
    intro w1 H1 l1 hr1
    have f := FinS.mono l1 f
    have f : FinS S E W ro w1 De (walkS ro d ⟨σ', m1⟩ fun xs st2 => forL (forF P ro t cb) xs st2) := f
    unfold walkS at f
    cases hit : itemsV (rd ro m1 d) with
    | none => rw [hit] at f; exact f.elim
    | some ds =>
      rw [hit] at f
      have f : FinS S E W ro w1 De (walkX (isDct (rd ro m1 d)) (lockAt ro m1 d) (forL (forF P ro t cb) ds ⟨σ', lockM m1 (lockAt ro m1 d)⟩)) := by
        dsimp only at f
        generalize he : forL (forF P ro t cb) ds ⟨σ', lockM m1 (lockAt ro m1 d)⟩ = r at f ⊢
        cases r <;> exact f
      refine ⟨ds, hit, fun hne J w2 H2 wk => for_body (sr.mono l1) wk f, fun hemp J H2 emp => ?_⟩
      subst hemp
      have hj := lockAt_empty hit
      rw [hj] at f
      have f : FinS S E W ro w1 De (.ok .nx ⟨σ', m1⟩) := f
      have q : De.nx σ H1 := f.ok (sr.mono l1) hr1
      refine ⟨fun i mm σc Hc => i = 0 ∧ σc = σ ∧ Hc = H2, ⟨0, rfl, rfl, rfl⟩, ?_⟩
      rintro i mm σc Hc ⟨rfl, rfl, rfl⟩
      refine .inl ⟨emp.1 _ fun b u _ e => e, ?_⟩
      rcases emp.2 with rfl | ⟨dd, od, u, e1, rfl, hn, _⟩
      · exact .inl q
      · refine .inr ⟨dd, od, u, upd_same, hn, ?_⟩
        rw [upd_upd, upd_self e1]
        exact q
theorem ls_while {body : List Stmt} {ct : CT} {cb : List CS} (hp : PassesOwn (model X.prog X.w) X.A X.env X.xe) (hc : PT X c (xT S E W P ro ct)) (hb : PSs X body (xSs S E W P ro cb)) : PS X (.While c body [] pos) (xS1 S E W P ro (.whl ct cb)) :=
  imS (ps_while hp hc hb) fun De σ H ⟨w, σ', m, sr, hr, f⟩ => by
    rw [ex] at f
    refine ⟨fun mm σc Hc => ∃ w3 s3, w.Le w3 ∧ SR w3 s3.sl σc ∧ HR S w3 ro s3.m Hc ∧ FinS S E W ro w3 De (whlL (fun s => (evT P ro ct s.sl s.m).up s.sl) (fun s => exs P ro cb s) mm s3), ⟨P.wl, w, ⟨σ', m⟩, .refl w, sr, hr, f⟩, ?_⟩
    rintro mm σc Hc ⟨w3, s3, le3, sr3, hr3, q⟩
    cases mm with
    | zero => exact q.elim
    | succ n =>
      rw [whlL] at q
      refine ⟨w3, s3.sl, s3.m, sr3, hr3, FinS.up sr3 q fun x m1 w1 v H1 l sr1 hr1 r1 f1 => ?_⟩
      subst r1
      cases x with
      | false => exact FinS.ok (fl := .nx) f1 sr1 hr1
      | true =>
        rw [if_pos rfl]
        refine ⟨fun σ' H' => ∃ m', m' < n + 1 ∧ ∃ w3 s3, w.Le w3 ∧ SR w3 s3.sl σ' ∧ HR S w3 ro s3.m H' ∧ FinS S E W ro w3 De (whlL (fun s => (evT P ro ct s.sl s.m).up s.sl) (fun s => exs P ro cb s) m' s3), fun σ' H' h => h, w1, s3.sl, m1, sr1, hr1, ?_⟩
        have f1 : FinS S E W ro w1 De ((exs P ro cb ⟨s3.sl, m1⟩).bind fun fl st2 => match fl with
          | .nx => whlL (fun s => (evT P ro ct s.sl s.m).up s.sl) (fun s => exs P ro cb s) n st2
          | .cnt => whlL (fun s => (evT P ro ct s.sl s.m).up s.sl) (fun s => exs P ro cb s) n st2
          | .brk => .ok .nx st2
          | .ret d => .ok (.ret d) st2) := f1
        cases er : exs P ro cb ⟨s3.sl, m1⟩ with
        | stuck => rw [er] at f1; exact f1.elim
        | exc x st5 => rw [er] at f1; exact f1
        | ok fl st5 =>
          rw [er, R.bind_ok] at f1
          have f1 := f1
          cases fl with
          | nx => exact fun w5 σ5 H5 l5 sr5 hr5 => ⟨n, Nat.lt_succ_self n, w5, st5, (le3.trans l).trans l5, sr5, hr5, FinS.mono l5 f1⟩
          | cnt => exact fun w5 σ5 H5 l5 sr5 hr5 => ⟨n, Nat.lt_succ_self n, w5, st5, (le3.trans l).trans l5, sr5, hr5, FinS.mono l5 f1⟩
          | brk => exact f1
          | ret dv => exact f1
theorem ls_setLc {i : Nat} {y : Str} {py spos : Pos} {tg iter elt : Expr} {ifs : List Expr} {scope : Scope} {own : List (Str × Nat)} {t : Tg} {ci ce : CE} {cifs : List CT} (G : XG S X) (hy : X.N[i]? = some y) (hyl : X.env.scope.names.lookup y = some .local)
    (hsw : swapsWith (.ListComp elt [⟨tg, iter, ifs, 0⟩] scope pos) (some (.Name y py)) spos.line X.env = pure true) (hi : PI X tg iter (xI S X E W P ro ci)) (ok : BlkOk X.N X.env.scope scope own) (htg : ∀ i ∈ tgS t, i ∈ own.map (·.2))
    (hg : ∀ (s : Shared) (H : Hp) (C : Addr) (cl : List (Str × Addr)) (fp : List Addr), PG (X.blk s H scope (compEnvC scope cl C X.env) fp) tg (gTg X.K t)) (ht : ∀ (s : Shared) (H : Hp) (C : Addr) (cl : List (Str × Addr)) (fp : List Addr), PTs (X.blk s H scope (compEnvC scope cl C X.env) fp) ifs (xTs S E W0 P ro cifs))
    (he : ∀ (s : Shared) (H : Hp) (C : Addr) (cl : List (Str × Addr)) (fp : List Addr), PE (X.blk s H scope (compEnvC scope cl C X.env) fp) elt (xE S E W0 P ro ce)) (hs : ∀ x, foldedSetIterable iter X.env x = pure x) :
    PS X (.Assign [.Name y py] (.ListComp elt [⟨tg, iter, ifs, 0⟩] scope pos) spos) (xS1 S E W P ro (.asg (.t (.v i)) (.lc (own.map (·.2)) t ci cifs ce))) := imS (ps_unl (ps_setLc G.calm G.nd hy hyl hsw hi ok hg ht he hs)) fun De σ H ⟨w, σ', m, sr, hr, f⟩ => by
  rw [ex] at f
  refine lc_main (Q := fun y H1 => De.nx (σ.set i (some y)) H1) htg ?_
  refine gE.up sr hr f fun x m1 w1 v H1 l sr1 hr1 r1 f1 => ?_
  have f1 : FinS S E W ro w1 De (match asgT (.v i) x σ' with | some σ => .ok .nx ⟨σ, m1⟩ | none => .stuck) := f1
  simp only [asgT] at f1
  split at f1
  · rename_i s e
    split at e
    · split at e
      · cases e
      · rename_i hx
        cases e
        exact FinS.ok (fl := .nx) f1 (sr1.set r1 (by simpa using hx)) hr1
    · cases e
  · exact f1.elim
end
end Av
end
section
set_option Elab.async false
set_option linter.all false
set_option maxRecDepth 100000
set_option autoImplicit false
set_option maxHeartbeats 4000000
namespace Av
open PySem PySem.Spec PyProof.Rows L2
open Classical in
/-- behind a pure def: its own objects are frozen, and no longer the memory's -/
noncomputable def Wd.drop (w : Wd) (b : Nat) (H : Hp) : Wd := { w with io := fun n => if n < b then w.io n else none, fz := fun a => if ∃ n, b ≤ n ∧ w.io n = some a then H a else w.fz a }
theorem Wd.drop_yes {w : Wd} {b : Nat} {H : Hp} {a : Addr} (h : ∃ n, b ≤ n ∧ w.io n = some a) : (w.drop b H).fz a = H a := if_pos h
theorem Wd.drop_no {w : Wd} {b : Nat} {H : Hp} {a : Addr} (h : ¬ ∃ n, b ≤ n ∧ w.io n = some a) : (w.drop b H).fz a = w.fz a := if_neg h
mutual
def low (b : Nat) : D → Prop
  | .ref n => n < b
  | .tup ds => lows b ds
  | .lst ds => lows b ds
  | .dct kvs => lowk b kvs
  | _ => True
  termination_by structural d => d
def lows (b : Nat) : List D → Prop
  | [] => True
  | d :: r => low b d ∧ lows b r
  termination_by structural d => d
def lowk (b : Nat) : List (Ky × D) → Prop
  | [] => True
  | p :: r => lowp b p ∧ lowk b r
  termination_by structural d => d
def lowp (b : Nat) : Ky × D → Prop
  | (_, d) => low b d
  termination_by structural d => d
end
section
variable {S : SE} {E : ED} {w w' w2 : Wd} {b : Nat} {ro m m' : Mem} {H H' : Hp}
mutual
theorem RelD.low (h : ∀ n a, w.io n = some a → n < b) : ∀ {d : D} {v : V}, RelD w d v → Av.low b d
  | _, _, .non => by simp [Av.low]
  | _, _, .bl _ => by simp [Av.low]
  | _, _, .int _ => by simp [Av.low]
  | _, _, .str _ _ => by simp [Av.low]
  | _, _, .tup _ _ r => by simp only [Av.low]; exact RelDs.low h r
  | _, _, .lst _ _ r => by simp only [Av.low]; exact RelDs.low h r
  | _, _, .dcK _ _ r => by simp only [Av.low]; exact RelK.low h r
  | _, _, .dcT _ _ r => by simp only [Av.low]; exact RelT.low h r
  | _, _, .ref e => by simp only [Av.low]; exact h _ _ e
  | _, _, .exn => by simp [Av.low]
  | _, _, .scr _ _ => by simp [Av.low]
theorem RelDs.low (h : ∀ n a, w.io n = some a → n < b) : ∀ {d : List D} {v : List V}, RelDs w d v → lows b d
  | _, _, .nil => by simp [lows]
  | _, _, .cons r s => by simp only [lows]; exact ⟨RelD.low h r, RelDs.low h s⟩
theorem RelK.low (h : ∀ n a, w.io n = some a → n < b) : ∀ {d : List (Ky × D)} {v : List (Key × V)}, RelK w d v → lowk b d
  | _, _, .nil => by simp [lowk]
  | _, _, .cons _ _ r s => by simp only [lowk, lowp]; exact ⟨RelD.low h r, RelK.low h s⟩
theorem RelT.low (h : ∀ n a, w.io n = some a → n < b) : ∀ {d : List (Ky × D)} {v : List (List Key × V)}, RelT w d v → lowk b d
  | _, _, .nil => by simp [lowk]
  | _, _, .cons _ _ r s => by simp only [lowk, lowp]; exact ⟨RelD.low h r, RelT.low h s⟩
end
mutual
theorem RelD.lowTo (h1 : ∀ n a, n < b → w.io n = some a → w2.io n = some a) (h2 : ∀ a o, w.fz a = some o → w2.fz a = some o) (h3 : ∀ a o, w.xe a = some o → w2.xe a = some o) : ∀ {d : D} {v : V}, RelD w d v → Av.low b d → RelD w2 d v
  | _, _, .non, _ => .non
  | _, _, .bl k, _ => .bl k
  | _, _, .int i, _ => .int i
  | _, _, .str t h, _ => .str t h
  | _, _, .tup h e r, l => .tup h (h2 _ _ e) (RelDs.lowTo h1 h2 h3 r (by simp only [Av.low] at l; exact l))
  | _, _, .lst h e r, l => .lst h (h2 _ _ e) (RelDs.lowTo h1 h2 h3 r (by simp only [Av.low] at l; exact l))
  | _, _, .dcK h e r, l => .dcK h (h2 _ _ e) (RelK.lowTo h1 h2 h3 r (by simp only [Av.low] at l; exact l))
  | _, _, .dcT h e r, l => .dcT h (h2 _ _ e) (RelT.lowTo h1 h2 h3 r (by simp only [Av.low] at l; exact l))
  | _, _, .ref e, l => .ref (h1 _ _ (by simp only [Av.low] at l; exact l) e)
  | _, _, .exn, _ => .exn
  | _, _, .scr e h, _ => .scr (by
      rcases e with e | ⟨o, e⟩
      · exact .inl (h2 _ _ e)
      · exact .inr ⟨o, h2 _ _ e⟩) h
theorem RelDs.lowTo (h1 : ∀ n a, n < b → w.io n = some a → w2.io n = some a) (h2 : ∀ a o, w.fz a = some o → w2.fz a = some o) (h3 : ∀ a o, w.xe a = some o → w2.xe a = some o) : ∀ {d : List D} {v : List V}, RelDs w d v → lows b d → RelDs w2 d v
  | _, _, .nil, _ => .nil
  | _, _, .cons r s, l => by
    simp only [lows] at l
    exact .cons (RelD.lowTo h1 h2 h3 r l.1) (RelDs.lowTo h1 h2 h3 s l.2)
theorem RelK.lowTo (h1 : ∀ n a, n < b → w.io n = some a → w2.io n = some a) (h2 : ∀ a o, w.fz a = some o → w2.fz a = some o) (h3 : ∀ a o, w.xe a = some o → w2.xe a = some o) : ∀ {d : List (Ky × D)} {v : List (Key × V)}, RelK w d v → lowk b d → RelK w2 d v
  | _, _, .nil, _ => .nil
  | _, _, .cons x y r s, l => by
    simp only [lowk, lowp] at l
    exact .cons x y (RelD.lowTo h1 h2 h3 r l.1) (RelK.lowTo h1 h2 h3 s l.2)
theorem RelT.lowTo (h1 : ∀ n a, n < b → w.io n = some a → w2.io n = some a) (h2 : ∀ a o, w.fz a = some o → w2.fz a = some o) (h3 : ∀ a o, w.xe a = some o → w2.xe a = some o) : ∀ {d : List (Ky × D)} {v : List (List Key × V)}, RelT w d v → lowk b d → RelT w2 d v
  | _, _, .nil, _ => .nil
  | _, _, .cons x y r s, l => by
    simp only [lowk, lowp] at l
    exact .cons x y (RelD.lowTo h1 h2 h3 r l.1) (RelT.lowTo h1 h2 h3 s l.2)
end
def lowf (b : Nat) : List (Nat × D) → Prop
  | [] => True
  | (_, d) :: r => low b d ∧ lowf b r
theorem RelF.low (h : ∀ n a, w.io n = some a → n < b) : ∀ {d : List (Nat × D)} {v : List (Str × V)}, RelF S w d v → lowf b d
  | _, _, .nil => by simp [lowf]
  | _, _, .cons r s => ⟨r.low h, RelF.low h s⟩
theorem RelF.lowTo (h1 : ∀ n a, n < b → w.io n = some a → w2.io n = some a) (h2 : ∀ a o, w.fz a = some o → w2.fz a = some o) (h3 : ∀ a o, w.xe a = some o → w2.xe a = some o) : ∀ {d : List (Nat × D)} {v : List (Str × V)}, RelF S w d v → lowf b d → RelF S w2 d v
  | _, _, .nil, _ => .nil
  | _, _, .cons r s, l => .cons (r.lowTo h1 h2 h3 l.1) (RelF.lowTo h1 h2 h3 s l.2)
theorem RelO.low (h : ∀ n a, w.io n = some a → n < b) {kvs : List (Ky × D)} {o : HO} (r : RelO w kvs o) : lowk b kvs := by
  cases r with
  | k r => exact r.low h
  | t r => exact r.low h
theorem RelO.lowTo (h1 : ∀ n a, n < b → w.io n = some a → w2.io n = some a) (h2 : ∀ a o, w.fz a = some o → w2.fz a = some o) (h3 : ∀ a o, w.xe a = some o → w2.xe a = some o) {kvs : List (Ky × D)} {o : HO} (r : RelO w kvs o) (l : lowk b kvs) : RelO w2 kvs o := by
  cases r with
  | k r => exact .k (r.lowTo h1 h2 h3 l)
  | t r => exact .t (r.lowTo h1 h2 h3 l)
theorem obr_lowTo {w0 : Wd} {H0 : Hp} {a a0 : Addr} (h : ∀ n a, w0.io n = some a → n < b) (h1 : ∀ n a, n < b → w.io n = some a → w2.io n = some a) (h2 : ∀ a o, w.fz a = some o → w2.fz a = some o) (h3 : ∀ a o, w.xe a = some o → w2.xe a = some o) (hl : w2.lk = w.lk) : ∀ {o : Ob}, ObR S w0 H0 a0 o → ObR S w H a o → ObR S w2 H a o
  | .lst ds, ⟨_, _, vs0, _, r0⟩, ⟨k1, k2, vs, k3, k4⟩ => ⟨by rw [hl]; exact k1, k2, vs, k3, k4.lowTo h1 h2 h3 (r0.low h)⟩
  | .dct kvs, ⟨_, o0, _, r0⟩, ⟨k1, o, k2, k3⟩ => ⟨k1, o, k2.sub (by rw [hl]) rfl, k3.lowTo h1 h2 h3 (r0.low h)⟩
  | .ins c fs, ⟨_, _, dx0, vs0, _, r0⟩, ⟨k1, k2, dx, vs, k3, k4⟩ => ⟨by rw [hl]; exact k1, k2, dx, vs, k3, k4.lowTo h1 h2 h3 (r0.low h)⟩
  | .lk (.lst ds), ⟨_, _, vs0, _, r0⟩, ⟨k1, k2, vs, k3, k4⟩ => ⟨by rw [hl]; exact k1, k2, vs, k3, k4.lowTo h1 h2 h3 (r0.low h)⟩
  | .lk (.dct kvs), ⟨_, o0, _, r0⟩, ⟨k1, o, k2, k3⟩ => ⟨k1, o, k2.sub (by rw [hl]) rfl, k3.lowTo h1 h2 h3 (r0.low h)⟩
  | .lk (.ins _ _), h, _ => h.elim
  | .lk (.lk _), h, _ => h.elim
/-- into a pure def -/
theorem HR.into (hr : HR S w ro m H) : HR S w (ro ++ m) [] H where
  len := by rw [List.append_nil]; exact hr.len
  live := by rw [List.append_nil]; exact hr.live
  inj := hr.inj
  sep := hr.sep
  fz := hr.fz
  lkd := hr.lkd
  unl := fun n a kvs e => by simp at e
  lkl := by rw [List.append_nil]; exact hr.lkl
  hld := hr.hld
  hsf := hr.hsf
  hdt := hr.hdt
  hsi := hr.hsi
  tab := hr.tab
  cur := hr.cur
section drop
variable (hr : HR S w ro m H) (l : w.Le w') (hr' : HR S w' (ro ++ m) m' H')
include hr l hr'
theorem own_lk {n : Nat} {a : Addr} (hn : (ro ++ m).length ≤ n) (e : w'.io n = some a) : w'.lk a = none ∧ w'.hd a = none := by
  have hlen := hr'.len n a e
  have hg : ((ro ++ m) ++ m')[n]? = some (((ro ++ m) ++ m')[n]) := List.getElem?_eq_getElem hlen
  generalize ((ro ++ m) ++ m')[n] = o at hg
  obtain ⟨c, h1, h2⟩ := hr'.live n o hg
  rw [e] at h1; cases h1
  have hm : m'[n - (ro ++ m).length]? = some o := by rw [List.getElem?_append_right hn] at hg; exact hg
  refine ⟨?_, ?_⟩
  · cases o with
    | lst ds => exact h2.1
    | ins _ _ => exact h2.1
    | dct kvs => exact hr'.unl _ a kvs hm (by rw [show (ro ++ m).length + (n - (ro ++ m).length) = n by omega]; exact e)
    | lk o =>
      have z := (hr'.lkl n o).mpr hg
      rw [l.ll] at z
      have := (hr.lkl n o).mp z
      rw [List.getElem?_eq_none hn] at this
      cases this
  · cases q : w'.hd a with
    | none => rfl
    | some u => exact absurd e (hr'.hsi a u n q)
theorem drop_fz : ∀ a o, w'.fz a = some o → (w'.drop (ro ++ m).length H').fz a = some o := fun a o e => by
  rw [Wd.drop_no]
  · exact e
  · rintro ⟨n, _, h⟩
    have := hr'.sep n a h
    rw [e] at this; cases this
omit hr l hr' in
theorem drop_io : ∀ n a, n < (ro ++ m).length → w'.io n = some a → (w'.drop (ro ++ m).length H').io n = some a := fun n a h e => by
  show (if _ then _ else _) = _
  rw [if_pos h]; exact e
theorem drop_le : w.Le (w'.drop (ro ++ m).length H') :=
  ⟨fun n a e => drop_io n a (hr.len n a e) (l.io n a e), fun a o e => drop_fz hr l hr' a o (l.fz a o e), l.xe, l.lk, l.ll, l.hd, l.cur⟩
theorem drop_own {n : Nat} {a : Addr} (hn : (ro ++ m).length ≤ n) (e : w'.io n = some a) : (w'.drop (ro ++ m).length H').fz a = H' a := by
  rw [Wd.drop_yes ⟨n, hn, e⟩]
theorem HR.drop : HR S (w'.drop (ro ++ m).length H') ro m H' where
  len := fun n a e => by
    have e : (if n < (ro ++ m).length then w'.io n else none) = some a := e
    split at e
    · rename_i h; exact h
    · cases e
  live := fun n o e => by
    have hn : n < (ro ++ m).length := (List.getElem?_eq_some_iff.mp e).1
    obtain ⟨a, h1, h2⟩ := hr'.live n o (by rw [List.getElem?_append_left hn]; exact e)
    obtain ⟨a0, g1, g2⟩ := hr.live n o e
    exact ⟨a, drop_io n a hn h1, obr_lowTo hr.len (fun n a hn e => drop_io n a hn e) (drop_fz hr l hr') (fun _ _ h => h) rfl g2 h2⟩
  inj := fun n n' a e e' => by
    have e : (if n < (ro ++ m).length then w'.io n else none) = some a := e
    have e' : (if n' < (ro ++ m).length then w'.io n' else none) = some a := e'
    split at e
    · split at e'
      · exact hr'.inj _ _ _ e e'
      · cases e'
    · cases e
  sep := fun n a e => by
    have e : (if n < (ro ++ m).length then w'.io n else none) = some a := e
    split at e
    · rename_i hn
      rw [Wd.drop_no]
      · exact hr'.sep n a e
      · rintro ⟨k, hk, h⟩
        have := hr'.inj _ _ _ e h
        omega
    · cases e
  fz := fun a o e => by
    by_cases h : ∃ n, (ro ++ m).length ≤ n ∧ w'.io n = some a
    · rw [Wd.drop_yes h] at e
      obtain ⟨n, hn, h⟩ := h
      exact At.of e (own_lk hr l hr' hn h).1
    · rw [Wd.drop_no h] at e
      exact (hr'.fz a o e).sub rfl rfl
  lkd := hr'.lkd
  unl := fun n a kvs e h => by
    have h : (if ro.length + n < (ro ++ m).length then w'.io (ro.length + n) else none) = some a := h
    split at h
    · obtain ⟨a0, g1, g2⟩ := hr.live (ro.length + n) (.dct kvs) (by rw [List.getElem?_append_right (by omega), show ro.length + n - ro.length = n by omega]; exact e)
      have := l.io _ _ g1
      rw [h] at this; cases this
      show w'.lk a = none
      rw [l.lk]
      exact hr.unl n a kvs e g1
    · cases h
  lkl := fun n o => by
    show w'.ll n = some o ↔ _
    rw [l.ll]
    exact hr.lkl n o
  hld := hr'.hld
  hsf := fun a o e => by
    rw [Wd.drop_no]
    · exact hr'.hsf a o e
    · rintro ⟨n, _, h⟩
      exact hr'.hsi a o n e h
  hdt := hr'.hdt
  hsi := fun a o n e z => by
    have z : (if n < (ro ++ m).length then w'.io n else none) = some a := z
    split at z
    · exact hr'.hsi a o n e z
    · cases z
  cur := l.cur.trans hr.cur
  tab := fun P hP => by
    obtain ⟨a, b, c⟩ := hr'.tab P hP
    refine ⟨?_, b, c⟩
    rw [Wd.drop_no]
    · exact a
    · rintro ⟨n, _, h⟩
      obtain ⟨ps, c, _⟩ := c
      obtain ⟨p, h1, h2⟩ := hr'.live n _ (List.getElem?_eq_getElem (hr'.len n P h))
      rw [h] at h1; cases h1
      exact h2.ntb ps c
end drop
theorem vwSs_len {F : Nat → Option D} : ∀ (d e : List D), vwSs F d = some e → e.length = d.length
  | [], e, h => by simp only [vwSs, Option.some.injEq] at h; subst h; rfl
  | a :: r, e, h => by
    simp only [vwSs] at h
    split at h
    · rename_i e1 e2 q1 q2
      cases h
      simp [vwSs_len r _ q2]
    · cases h
theorem vwSk_len {F : Nat → Option D} : ∀ (d e : List (Ky × D)), vwSk F d = some e → e.length = d.length
  | [], e, h => by simp only [vwSk, Option.some.injEq] at h; subst h; rfl
  | a :: r, e, h => by
    simp only [vwSk] at h
    split at h
    · rename_i e1 e2 q1 q2
      cases h
      simp [vwSk_len r _ q2]
    · cases h
mutual
theorem vwS_rel {F : Nat → Option D} (hF : ∀ n e a, F n = some e → w.io n = some a → RelD w2 e (.ref a)) (h2 : ∀ a o, w.fz a = some o → w2.fz a = some o) : ∀ {d : D} {v : V} {e : D}, RelD w d v → vwS F d = some e → RelD w2 e v
  | _, _, _, .non, h => by simp only [vwS, Option.some.injEq] at h; subst h; exact .non
  | _, _, _, .bl k, h => by simp only [vwS, Option.some.injEq] at h; subst h; exact .bl k
  | _, _, _, .int i, h => by simp only [vwS, Option.some.injEq] at h; subst h; exact .int i
  | _, _, _, .str t o, h => by simp only [vwS, Option.some.injEq] at h; subst h; exact .str t o
  | _, _, _, .tup hl e r, h => by
    simp only [vwS, Option.map_eq_some_iff] at h
    obtain ⟨es, h1, rfl⟩ := h
    exact .tup (by rw [vwSs_len _ _ h1]; exact hl) (h2 _ _ e) (vwSs_rel hF h2 r h1)
  | _, _, _, .lst hl e r, h => by
    simp only [vwS, Option.map_eq_some_iff] at h
    obtain ⟨es, h1, rfl⟩ := h
    exact .lst (by rw [vwSs_len _ _ h1]; exact hl) (h2 _ _ e) (vwSs_rel hF h2 r h1)
  | _, _, _, .dcK hl e r, h => by
    simp only [vwS, Option.map_eq_some_iff] at h
    obtain ⟨es, h1, rfl⟩ := h
    exact .dcK (by rw [vwSk_len _ _ h1]; exact hl) (h2 _ _ e) (vwSk_rel hF h2 r h1)
  | _, _, _, .dcT hl e r, h => by
    simp only [vwS, Option.map_eq_some_iff] at h
    obtain ⟨es, h1, rfl⟩ := h
    exact .dcT (by rw [vwSk_len _ _ h1]; exact hl) (h2 _ _ e) (vwSt_rel hF h2 r h1)
  | _, _, _, .ref e, h => by
    simp only [vwS] at h
    exact hF _ _ _ h e
  | _, _, _, .scr e hl, h => by
    simp only [vwS, Option.some.injEq] at h
    subst h
    refine .scr ?_ hl
    rcases e with e | ⟨o, e⟩
    · exact .inl (h2 _ _ e)
    · exact .inr ⟨o, h2 _ _ e⟩
theorem vwSs_rel {F : Nat → Option D} (hF : ∀ n e a, F n = some e → w.io n = some a → RelD w2 e (.ref a)) (h2 : ∀ a o, w.fz a = some o → w2.fz a = some o) : ∀ {d : List D} {v : List V} {e : List D}, RelDs w d v → vwSs F d = some e → RelDs w2 e v
  | _, _, _, .nil, h => by simp only [vwSs, Option.some.injEq] at h; subst h; exact .nil
  | _, _, _, .cons r s, h => by
    simp only [vwSs] at h
    split at h
    · rename_i e1 e2 q1 q2
      cases h
      exact .cons (vwS_rel hF h2 r q1) (vwSs_rel hF h2 s q2)
    · cases h
theorem vwSk_rel {F : Nat → Option D} (hF : ∀ n e a, F n = some e → w.io n = some a → RelD w2 e (.ref a)) (h2 : ∀ a o, w.fz a = some o → w2.fz a = some o) : ∀ {d : List (Ky × D)} {v : List (Key × V)} {e : List (Ky × D)}, RelK w d v → vwSk F d = some e → RelK w2 e v
  | _, _, _, .nil, h => by simp only [vwSk, Option.some.injEq] at h; subst h; exact .nil
  | _, _, _, .cons x y r s, h => by
    simp only [vwSk, vwSp] at h
    split at h
    · rename_i e1 e2 q1 q2
      cases h
      simp only [Option.map_eq_some_iff] at q1
      obtain ⟨e3, q3, rfl⟩ := q1
      exact .cons x y (vwS_rel hF h2 r q3) (vwSk_rel hF h2 s q2)
    · cases h
theorem vwSt_rel {F : Nat → Option D} (hF : ∀ n e a, F n = some e → w.io n = some a → RelD w2 e (.ref a)) (h2 : ∀ a o, w.fz a = some o → w2.fz a = some o) : ∀ {d : List (Ky × D)} {v : List (List Key × V)} {e : List (Ky × D)}, RelT w d v → vwSk F d = some e → RelT w2 e v
  | _, _, _, .nil, h => by simp only [vwSk, Option.some.injEq] at h; subst h; exact .nil
  | _, _, _, .cons x y r s, h => by
    simp only [vwSk, vwSp] at h
    split at h
    · rename_i e1 e2 q1 q2
      cases h
      simp only [Option.map_eq_some_iff] at q1
      obtain ⟨e3, q3, rfl⟩ := q1
      exact .cons x y (vwS_rel hF h2 r q3) (vwSt_rel hF h2 s q2)
    · cases h
end
theorem xp_ref (hr : HR S w ro m H) (l : w.Le w') (hr' : HR S w' (ro ++ m) m' H') : ∀ (k n : Nat) (e : D) (a : Addr), xpF (memGet (ro ++ m) m') (ro ++ m).length k n = some e → w'.io n = some a → RelD (w'.drop (ro ++ m).length H') e (.ref a) := by
  intro k
  induction k with
  | zero =>
    intro n e a h i
    simp only [xpF] at h
    split at h
    · rename_i hn
      cases h
      exact .ref (drop_io n a hn i)
    · cases h
  | succ k ih =>
    intro n e a h i
    simp only [xpF] at h
    split at h
    · rename_i hn
      cases h
      exact .ref (drop_io n a hn i)
    · rename_i hn
      have hn : (ro ++ m).length ≤ n := by omega
      have lk := (own_lk hr l hr' hn i).1
      have fz := drop_own hr l hr' hn i
      split at h
      · rename_i o ho
        have ob := hr'.ob ho i
        have hw : ∀ n e a, xpF (memGet (ro ++ m) m') (ro ++ m).length k n = some e → w'.io n = some a → RelD (w'.drop (ro ++ m).length H') e (.ref a) := ih
        have lst : ∀ ds, obD o = some (.lst ds) → (vwSs (xpF (memGet (ro ++ m) m') (ro ++ m).length k) ds).map D.lst = some e → (ds.length ≤ LIM ∧ ∃ vs, H' a = some (.lst vs) ∧ RelDs w' ds vs) → RelD (w'.drop (ro ++ m).length H') e (.ref a) := by
          intro ds _ h ⟨h1, vs, h2, h3⟩
          simp only [Option.map_eq_some_iff] at h
          obtain ⟨es, q, rfl⟩ := h
          exact .lst (by rw [vwSs_len _ _ q]; exact h1) (fz.trans h2) (vwSs_rel hw (drop_fz hr l hr') h3 q)
        have dct : ∀ kvs, obD o = some (.dct kvs) → (vwSk (xpF (memGet (ro ++ m) m') (ro ++ m).length k) kvs).map D.dct = some e → (kvs.length ≤ LIM ∧ ∃ o, At w' H' a o ∧ RelO w' kvs o) → RelD (w'.drop (ro ++ m).length H') e (.ref a) := by
          intro kvs _ h ⟨h1, o, h2, h3⟩
          simp only [Option.map_eq_some_iff] at h
          obtain ⟨es, q, rfl⟩ := h
          have h2 := h2.un lk
          cases h3 with
          | k r => exact .dcK (by rw [vwSk_len _ _ q]; exact h1) (fz.trans h2) (vwSk_rel hw (drop_fz hr l hr') r q)
          | t r => exact .dcT (by rw [vwSk_len _ _ q]; exact h1) (fz.trans h2) (vwSt_rel hw (drop_fz hr l hr') r q)
        cases o with
        | lst ds => exact lst ds rfl h ob.2
        | dct kvs => exact dct kvs rfl h ob
        | ins _ _ => cases h
        | lk o => cases o with
          | lst ds => exact lst ds rfl h ob.2
          | dct kvs => exact dct kvs rfl h ob
          | ins _ _ => cases h
          | lk _ => cases h
      · cases h
mutual
theorem plain_rel (h2 : ∀ a o, w.fz a = some o → w2.fz a = some o) : ∀ {d : D} {v : V}, RelD w d v → plain d = true → RelD w2 d v
  | _, _, .non, _ => .non
  | _, _, .bl k, _ => .bl k
  | _, _, .int i, _ => .int i
  | _, _, .str t h, _ => .str t h
  | _, _, .tup h e r, l => .tup h (h2 _ _ e) (plains_rel h2 r (by simp only [plain] at l; exact l))
  | _, _, .lst h e r, l => .lst h (h2 _ _ e) (plains_rel h2 r (by simp only [plain] at l; exact l))
  | _, _, .dcK h e r, l => .dcK h (h2 _ _ e) (plaink_rel h2 r (by simp only [plain] at l; exact l))
  | _, _, .dcT h e r, l => .dcT h (h2 _ _ e) (plaint_rel h2 r (by simp only [plain] at l; exact l))
  | _, _, .ref e, l => by simp [plain] at l
  | _, _, .scr e h, l => by simp [plain] at l
theorem plains_rel (h2 : ∀ a o, w.fz a = some o → w2.fz a = some o) : ∀ {d : List D} {v : List V}, RelDs w d v → plains d = true → RelDs w2 d v
  | _, _, .nil, _ => .nil
  | _, _, .cons r s, l => by
    simp only [plains, Bool.and_eq_true] at l
    exact .cons (plain_rel h2 r l.1) (plains_rel h2 s l.2)
theorem plaink_rel (h2 : ∀ a o, w.fz a = some o → w2.fz a = some o) : ∀ {d : List (Ky × D)} {v : List (Key × V)}, RelK w d v → plaink d = true → RelK w2 d v
  | _, _, .nil, _ => .nil
  | _, _, .cons x y r s, l => by
    simp only [plaink, plainp, Bool.and_eq_true] at l
    exact .cons x y (plain_rel h2 r l.1) (plaink_rel h2 s l.2)
theorem plaint_rel (h2 : ∀ a o, w.fz a = some o → w2.fz a = some o) : ∀ {d : List (Ky × D)} {v : List (List Key × V)}, RelT w d v → plaink d = true → RelT w2 d v
  | _, _, .nil, _ => .nil
  | _, _, .cons x y r s, l => by
    simp only [plaink, plainp, Bool.and_eq_true] at l
    exact .cons x y (plain_rel h2 r l.1) (plaint_rel h2 s l.2)
end
theorem RelX.plain (h2 : ∀ a o, w.fz a = some o → w2.fz a = some o) (hh : w2.hd = w.hd) {x : Xn} {cls : Value} {dd : Option Addr} (h : RelX E w x cls dd H) : RelX E w2 x cls dd H := by
  obtain ⟨h1, d, vs, e1, e2, r, hl, hp, hd⟩ := h
  exact ⟨h1, d, vs, e1, e2, plains_rel h2 r hp, hl, hp, by rw [hh]; exact hd⟩
end
end Av
end
section
set_option Elab.async false
set_option linter.all false
set_option maxRecDepth 100000
set_option autoImplicit false
set_option maxHeartbeats 4000000
namespace Av
open PySem PySem.Spec PyProof.Rows L2
/-- an end's wish, without slots -/
def WK (Ex : XK) : WX := fun cls dd _ H => Ex cls dd H
/-- what a def is to do -/
def spC (S : SE) (E : ED) (r : List D → Mem → Mem → R Mem D) (np : Nat) : Sp := fun vs H Q Ex => vs.length = np ∧ ∃ w ro m ds, w.cur = none ∧ HR S w ro m H ∧ RelDs w ds vs ∧ Fin S E (WK Ex) w ro [] RelD Q (r ds ro m)
section
variable {S : SE} {E : ED} {W : WX} {P : Pm} {ro : Mem} {X : Cx} {a b c e : Expr} {ca cb cc ce : CE} {pos : Pos} {es : List Expr} {cs : List CE} {w w1 w2 : Wd} {m m1 m2 : Mem} {H H1 H2 : Hp} {σ : L2.St} {σ' : Sl}
theorem start_rel {N : List Str} {ds : List D} {vs : List V} (hc : w.cur = none) (r : RelDs w ds vs) : SR w (slots ds N.length) (L2.start N vs) := by
  have hl := r.length
  refine ⟨by simp [slots, L2.start, hl], fun i d e => ?_, fun i a c nms dd c' fs e => by rw [hc] at e; cases e⟩
  unfold slots at e
  unfold L2.start
  by_cases hi : i < ds.length
  · rw [List.getElem?_append_left (by simpa using hi), List.getElem?_map] at e
    cases q : ds[i]? with
    | none => rw [q] at e; cases e
    | some d' =>
      rw [q] at e; cases e
      obtain ⟨v, h1, h2⟩ := r.get q
      exact ⟨v, by rw [List.getElem?_append_left (by rw [List.length_map]; omega), List.getElem?_map, h1]; rfl, h2⟩
  · rw [List.getElem?_append_right (by simpa using hi), List.getElem?_replicate] at e
    split at e <;> cases e
theorem evs_app {l1 l2 : List CE} : ∀ {σ : Sl} {m : Mem}, evs P ro (l1 ++ l2) σ m = (evs P ro l1 σ m).bind fun xs m1 => (evs P ro l2 σ m1).bind fun ys m2 => .ok (xs ++ ys) m2 := by
  induction l1 with
  | nil =>
    intro σ m
    rw [List.nil_append, evs, R.bind_ok]
    cases evs P ro l2 σ m <;> rfl
  | cons e r ih =>
    intro σ m
    rw [List.cons_append, evs, evs, R.bind_assoc]
    congr 1
    funext x m1
    rw [ih, R.bind_assoc, R.bind_assoc]
    congr 1
    funext xs m2
    rw [R.bind_ok, R.bind_assoc]
    rfl
theorem evs_cst {l : List D} : ∀ {σ : Sl} {m : Mem}, evs P ro (l.map .cst) σ m = .ok l m := by
  induction l with
  | nil => intro σ m; rfl
  | cons d l ih => intro σ m; rw [List.map_cons, evs, ev, R.bind_ok, ih]; rfl
/-- a call of a def of the text -/
theorem l_call (hcur : S.cur = none) {k : Nat} {fa : Addr} {fd : FuncData} {ps : List Str} {dvs : List V} {dds : List D} {dus : List Value} {x : Str} {p : Pos} {f : Nat} {np : Nat}
    (F : FnOk X.prog X.w X.K X.mg X.base (L2.CX X.prog X.w) k fa fd ps (spC S E (P.cf f) np)) (tk : Takes X W) (hr : Room k X.A) (hg : Gl X x) (hm : X.mg x = some (.ref fa)) (hk : PySem.W.keepIn X.K (.ref fa) = true) (hb : Binds X.K fd ps dus) (hd : Vals dvs dus)
    (hdd : ∀ w, RelDs w dds dvs) (hnp : decide (es.length + 1 + dds.length = np) = true) (hl : cs.length = es.length + 1) (ha : PA X (e :: es) (xA S E W P ro cs)) (hdb : (x == ("__debug__" : Str)) = false) (hst : (e :: es).all nostar = true) :
    PE X (.Call (.Name x p) (e :: es) [] pos) (xE S E W P ro (.call f (cs ++ dds.map .cst))) := by
  rw [List.all_cons, Bool.and_eq_true] at hst
  refine imE (pe_callSD (E := WE W) F hr hg hm hk hb hd (fun σ => passAt tk σ) ha hdb (star1 hst.1) (plain_any hst.2)) fun σ H Q ⟨w, σ', m, sr, hr, q⟩ => ?_
  rw [ev, evs_app, R.bind_assoc] at q
  refine gA.bindE sr hr q fun ds m1 w1 vs H1 e1 l1 sr1 hr1 r1 f1 => ?_
  have hlen := evs_len _ _ _ _ _ e1
  rw [evs_cst, R.bind_ok, R.bind_ok] at f1
  have r2 : RelDs w1 (ds ++ dds) (vs ++ dvs) := r1.append (hdd w1)
  have f2 : Fin S E W w1 ro σ RelD Q (P.cf f (ds ++ dds) ro m1) := f1
  refine ⟨?_, w1, ro, m1, ds ++ dds, hr1.cur.trans hcur, hr1, r2, ?_⟩
  · rw [← r2.length, List.length_append, hlen, hl]
    exact of_decide_eq_true hnp
  · generalize P.cf f (ds ++ dds) ro m1 = r at f2 ⊢
    cases r <;> exact f2
/-- the end of a def of the text, by its body's reading -/
theorem def_end {G : Pg} {n f : Nat} {fd : FD} {N ps : List Str} {body : List Stmt} {vs : List V} {Q : VK} {Ex : XK} {Y : Cx}
    (hf : G.fn f = some fd) (hnp : fd.np = ps.length) (hns : fd.ns = N.length) (hstk : Y.stack = Y.env :: Y.outer) (hfr : Y.env.frame = some Y.env.locals) (hex : Y.ex = []) {E₁ : Value → Shared → Prop}
    (hx : Y.xe = fun e s' => wpAny (model Y.prog Y.w) Y.A (leaving Y.env e) (fun _ s'' => L2.CX Y.prog Y.w Y.outer Y.H_0 Y.s_0 Ex e s'') E₁ s')
    (hbody : ∀ (ro : Mem) (W : WX), Takes Y W → PSs Y body (xSs S E W (G.pm (callF G n)) ro fd.body)) (h : spC S E (callF G (n + 1) f) fd.np vs H Q Ex) :
    ∃ t, PSs Y body t ∧ t { nx := fun _ H' => Q .non H', rt := Q } (L2.start N vs) H := by
  obtain ⟨hl, w, ro, m, ds, hcur, hr0, r0, f⟩ := h
  have tk : Takes Y (WK Ex) := takes_of hstk hfr hex hx
  have hlen : ds.length = fd.np := r0.length.trans hl
  have sr : SR w (slots ds fd.ns) (L2.start N vs) := by rw [hns]; exact start_rel hcur r0
  simp only [callF, hf, if_pos hlen] at f
  cases hp : fd.pure with
  | true =>
    rw [hp] at f
    have f : Fin S E (WK Ex) w ro [] RelD Q (endP (ro ++ m) m (exs (G.pm (callF G n)) (ro ++ m) fd.body ⟨slots ds fd.ns, []⟩)) := f
    refine ⟨_, hbody (ro ++ m) (WK Ex) tk, w, slots ds fd.ns, [], sr, hr0.into, ?_⟩
    cases e : exs (G.pm (callF G n)) (ro ++ m) fd.body ⟨slots ds fd.ns, []⟩ with
    | stuck => rw [e] at f; exact f
    | exc y st =>
      rw [e] at f
      intro w1 cls dd σ1 H1 l1 sr1 hr1 rx
      have f : Fin S E (WK Ex) w ro [] RelD Q (if plains y.fs then .exc y m else .stuck) := f
      split at f
      · exact f _ cls dd H1 (drop_le hr0 l1 hr1) (HR.drop hr0 l1 hr1) (rx.plain (drop_fz hr0 l1 hr1) rfl)
      · exact f.elim
    | ok fl st =>
      rw [e] at f
      intro w1 σ1 H1 l1 sr1 hr1
      cases fl with
      | nx => exact f _ .non H1 (drop_le hr0 l1 hr1) (HR.drop hr0 l1 hr1) .non
      | brk => exact f.elim
      | cnt => exact f.elim
      | ret d =>
        intro v rv
        have f : Fin S E (WK Ex) w ro [] RelD Q (match xp (memGet (ro ++ m) st.m) (ro ++ m).length 6 d with | some e => .ok e m | none => .stuck) := f
        split at f
        · rename_i e' he
          exact f _ v H1 (drop_le hr0 l1 hr1) (HR.drop hr0 l1 hr1) (vwS_rel (xp_ref hr0 l1 hr1 6) (drop_fz hr0 l1 hr1) rv he)
        · exact f.elim
  | false =>
    rw [hp] at f
    have f : Fin S E (WK Ex) w ro [] RelD Q (endI (exs (G.pm (callF G n)) ro fd.body ⟨slots ds fd.ns, m⟩)) := f
    refine ⟨_, hbody ro (WK Ex) tk, w, slots ds fd.ns, m, sr, hr0, ?_⟩
    cases e : exs (G.pm (callF G n)) ro fd.body ⟨slots ds fd.ns, m⟩ with
    | stuck => rw [e] at f; exact f
    | exc y st =>
      rw [e] at f
      intro w1 cls dd σ1 H1 l1 sr1 hr1 rx
      have f : Fin S E (WK Ex) w ro [] RelD Q (if plains y.fs then .exc y st.m else .stuck) := f
      split at f
      · exact f w1 cls dd H1 l1 hr1 rx
      · exact f.elim
    | ok fl st =>
      rw [e] at f
      intro w1 σ1 H1 l1 sr1 hr1
      cases fl with
      | nx => exact f w1 .non H1 l1 hr1 .non
      | brk => exact f.elim
      | cnt => exact f.elim
      | ret d => exact fun v rv => f w1 v H1 l1 hr1 rv
end
end Av
end
section
set_option Elab.async false
set_option linter.all false
set_option maxRecDepth 100000
set_option autoImplicit false
set_option maxHeartbeats 4000000
namespace Av
open PySem PySem.Spec PyProof.Rows L2
/-- the context of a generator expression's block that is made at s, its iterator's objects at fp -/
abbrev genX (X : Cx) (A' : Around) (s : Shared) (H : Hp) (cenv : Env) (fp : List Addr) : Cx := { X with A := A', s_0 := s, H_0 := H, env := cenv, outer := X.stack, stack := cenv :: X.stack, ex := fp, fn := fun _ => false, pn := [], xe := fun _ _ => False }
/-- its environment -/
abbrev gEnv (X : Cx) (scope : Scope) (C : Addr) (code : Value) : Env := genEnv scope (cloFrom X.env.cells scope.names []) C code builtinsNs X.env
section
variable {X : Cx} {pins : List (Addr × Obj)} {σ : L2.St} {H : Hp} {s : Shared}
theorem gen_start {scope : Scope} {own : List (Str × Nat)} {fp : List Addr} {A' : Around} {code : Value} {h5 : Heap} {G : Array GenState} {tk : Nat} {dr : Drawn} {m : Str → Option Value} {a : Addr} {go : Obj} (I : Inv X pins σ H s) (ok : BlkOk X.N X.env.scope scope own) (hN : X.N.Nodup) (hcell : ∀ y ∈ scope.names, y.2 ≠ .cell) (hfp : ∀ b ∈ fp, FpOk X pins H b ∧ b < s.heap.objs.size)
    (hA : A'.handled = none) (hfr : A'.frames = some (gEnv X scope s.heap.objs.size code :: X.stack)) (kp : ∀ b o, s.heap.get? b = some o → h5.get? b = some o) (hns : h5.Ns s.heap.objs.size m) (hG : AllBare G)
    (ha : s.heap.objs.size < a) (hgo : h5.get? a = some go) (hgd : ∀ v, go.data ≠ .cell v) :
    Inv (genX X A' s H (gEnv X scope s.heap.objs.size code) fp) [(a, go)] (L2.wipe σ (own.map (·.2))) H { s with gens := G, heap := h5, drawn := dr, toks := tk } := by
  have hfree : ∀ y ∈ scope.names, y.2 = .free → ∃ c, X.env.cells.lookup y.1 = some c := fun y hy e => by
    rcases ok.free y hy e with k | k
    · exact I.ok.has _ (.inl k)
    · exact I.ok.has _ (.inr k)
  have cm : ∀ {y c}, (y, c) ∈ cloFrom X.env.cells scope.names [] → X.env.cells.lookup y = some c ∧ c < s.heap.objs.size := fun {y c} hm => by
    rcases cloFrom_mem hm with hm | ⟨h1, rfl⟩
    · cases hm
    · obtain ⟨c, hc⟩ := hfree _ h1 rfl
      rw [hc]
      obtain ⟨w, z⟩ := I.cell _ _ hc
      exact ⟨rfl, z.lt⟩
  have mem : ∀ {y c}, (cloFrom X.env.cells scope.names []).lookup y = some c → X.env.cells.lookup y = some c ∧ c < s.heap.objs.size := fun {y c} e => cm (PySem.mem_of_lookup e)
  have look : ∀ {y}, scope.names.lookup y = some .free → ∃ c, (cloFrom X.env.cells scope.names []).lookup y = some c ∧ X.env.cells.lookup y = some c := fun {y} hl => by
    obtain ⟨c', e'⟩ := mem_lookup (cloFrom_has (cells := X.env.cells) (acc := []) (PySem.mem_of_lookup hl))
    exact ⟨c', e', (mem e').1⟩
  have nocell : ∀ {y}, scope.names.lookup y = some .cell → False := fun {y} e => hcell _ (PySem.mem_of_lookup e) rfl
  have okG : (genX X A' s H (gEnv X scope s.heap.objs.size code) fp).Ok := by
    refine ⟨I.ok.mod, ok.kind, I.ok.glob, rfl, Nat.le_refl _, fun y z c e1 e2 => ?_, fun y hy => ?_, fun y c z e => ?_, fun _ => hA, hfr, .inr ⟨rfl, rfl⟩, fun b hb => ⟨?_, fun y c e z => ?_⟩, I.bs, Nat.le_trans I.ok.bsz I.sz, fun b o e hb => ?_, fun b hb z => ?_, I.stack, I.stkFree⟩
    · exact I.ok.inj y z c (mem e1).1 (mem e2).1
    · rcases hy with hy | hy
      · exact (nocell hy).elim
      · obtain ⟨c, h1, _⟩ := look hy
        exact ⟨c, h1⟩
    · cases z
    · exact Nat.ne_of_lt (hfp b hb).2
    · exact (hfp b hb).1.2.2.2.2.1 y c (mem e).1 z
    · rcases (hfp b hb).1.2.2.2.1 with z | z
      · exact I.ok.noex b o e z
      · exact absurd (Nat.lt_of_lt_of_le (Heap.lt_size e) (Nat.le_trans I.ok.bsz z)) (Nat.lt_irrefl _)
    · rcases List.mem_cons.mp (I.stkSub b z) with z | z
      · exact (hfp b hb).1.2.1 z
      · exact (hfp b hb).1.2.2.1 z
  refine ⟨okG, rfl, hG, Un.kept kp, ⟨m, hns, fun i y av e1 e2 e3 => ?_⟩, fun y c e => ?_, I.hok.fresh (Nat.le_refl _), fun y c e => ?_, fun p hp => ?_, I.hok.kept kp, by rw [L2.wipe_length]; exact I.len⟩
  · obtain ⟨e2, hne⟩ := wipe_some e2
    have hfr : scope.names.lookup y = some .free := by
      have no : ∀ k, scope.names.lookup y = some k → (k = .local ∨ k = .cell) → False := fun k e hh => by
        rcases ok.own _ (PySem.mem_of_lookup e) hh with e' | e'
        · obtain ⟨p, hp, hpy⟩ := List.mem_map.mp e'
          have e3 := ok.ix p hp
          have : p.1 = y := hpy
          rw [this] at e3
          exact hne (List.mem_map.mpr ⟨p, hp, nodup_ix hN e3 e1⟩)
        · exact e' (List.mem_of_getElem? e1)
      rcases e3 with e3 | e3 | e3
      · exact (no _ e3 (.inl rfl)).elim
      · exact (no _ e3 (.inr rfl)).elim
      · exact e3
    obtain ⟨m0, hn, hl⟩ := I.loc
    have hvis : Vis X.env.scope y := (ok.free _ (PySem.mem_of_lookup hfr) rfl).elim (fun k => .inr (.inl k)) (fun k => .inr (.inr k))
    obtain ⟨w, r, q⟩ := hl i y av e1 e2 hvis
    obtain ⟨c, h1, h2⟩ := look hfr
    refine ⟨w, r, .inr ⟨.inr hfr, c, h1, ?_⟩⟩
    rcases q with ⟨k, _⟩ | ⟨_, c', e', z⟩
    · have k : X.env.scope.names.lookup y = some .local := k
      rcases ok.free _ (PySem.mem_of_lookup hfr) rfl with k' | k' <;> rw [show X.env.scope.names.lookup y = _ from k'] at k <;> cases k
    · rw [h2] at e'; cases e'
      exact z.keeps kp
  · obtain ⟨h1, _⟩ := mem e
    obtain ⟨w, z⟩ := I.cell y c h1
    exact ⟨w, z.keeps kp⟩
  · exact I.freeC y c (mem e).1
  · rw [List.nil_append] at hp
    rw [List.mem_singleton.mp hp]
    refine ⟨hgo, I.hok.fresh (Nat.le_of_lt ha), Nat.ne_of_gt ha, fun z => ?_, hgd⟩
    rcases List.mem_cons.mp (I.stkSub a z) with z | z
    · have := I.lt
      rw [← z] at this
      exact absurd (Nat.lt_trans this ha) (Nat.lt_irrefl _)
    · exact I.nofs (Nat.le_of_lt ha) z
end
/-- its loop's code -/
abbrev gCode (elt tg iter : Expr) (scope : Scope) (pos : Pos) (it : Addr) (cenv : Env) : Code := .compLoop (.GeneratorExp elt [⟨tg, iter, [], 0⟩] scope pos) 0 (.ref it) .none cenv
abbrev gCode0 (elt tg iter : Expr) (scope : Scope) (pos : Pos) (it : Addr) (cenv : Env) : Code := .compStart (.GeneratorExp elt [⟨tg, iter, [], 0⟩] scope pos) 0 (.ref it) .none cenv
theorem compTurn_gen0 (elt target iter : Expr) (scope : Scope) (pos : Pos) (it acc : Value) (env : Env) (hco : env.scope.isCoroutine = false) :
    compTurn (.GeneratorExp elt [⟨target, iter, [], 0⟩] scope pos) 0 it acc env = (do
      standAt iter.pos
      match ← pyNext it with
      | none => pure (.done .next)
      | some v =>
        letOwnedTupleGo target it v
        assign target env v
        (do let v ← eval elt env; standAt elt.pos; let _ ← yieldValue v)
        again (.compLoop (.GeneratorExp elt [⟨target, iter, [], 0⟩] scope pos) 0 it acc env)) := by
  rw [compTurn_gen]
  have hy : ∀ v, yieldOut env v = yieldValue v := fun v => by simp only [yieldOut, hco, Bool.false_eq_true, if_false]
  simp only [hy]
  rfl
/-- while the generator sleeps -/
structure Slept0 (s s' : Shared) : Prop where
  os : s'.os = s.os
  bare : AllBare s'.gens
  keep : ∀ b o, s.heap.get? b = some o → s'.heap.get? b = some o
section
variable {X : Cx} {elt tg iter : Expr} {scope : Scope} {pos : Pos} {it a : Addr} {cenv : Env} {A : Around} {s4 : Shared} {H1 : Hp} {fp : List Addr} {go : Obj} {vs : List Nat} {σ : L2.St} {Q : VK} {sv : Bool}
/-- the end -/
def gxR (Xg : Cx) (pn : List (Addr × Obj)) (σw : L2.St) (sv : Bool) (Q : VK) : Nat → Shared → Shared → Prop := fun _ _ s1 => ∃ H, Inv Xg pn σw H s1 ∧ Q (.bl (!sv)) H
def gxY (Xg : Cx) (pn : List (Addr × Obj)) (sv : Bool) (Q : VK) : Protocol := fun _ _ v s kap => ∃ (b : Bool) (σ' : L2.St) (H : Hp), v = .bool b ∧ Inv Xg pn σ' H s ∧ (b = sv → Q (.bl sv) H) ∧ (b ≠ sv → ∀ s'', Slept0 s s'' → kap (.send .none) s'')
theorem gx_loop {J : It} {tn : Nat → Heap → Prop} {W : Nat → Nat → Hp → Prop} {g : TG} {te : TE} (T : Turn X.prog X.w X.K tg J fp it tn) (hc : X.calm = true) (hco : cenv.scope.isCoroutine = false)
    (hg : PG (genX X (A.over (gCode elt tg iter scope pos it cenv) []) s4 H1 cenv fp) tg g) (he : PE (genX X (A.over (gCode elt tg iter scope pos it cenv) []) s4 H1 cenv fp) elt te)
    (st0 : ∀ b ∈ fp, ∀ {σ' : L2.St} {H' : Hp} {s' : Shared}, Inv (genX X (A.over (gCode elt tg iter scope pos it cenv) []) s4 H1 cenv fp) [(a, go)] σ' H' s' → H' b = none → FpOk (genX X (A.over (gCode elt tg iter scope pos it cenv) []) s4 H1 cenv fp) [(a, go)] H' b)
    (turn : ∀ i m H, W i m H → (J.stop i H ∧ Q (.bl (!sv)) H) ∨ (J.go i H ∧ ∃ Nx : Hp → Prop, (∀ H', Nx H' → ∃ m', m' < m ∧ W (i + 1) m' H') ∧ ∀ x H', J.yld i H x H' → g x (L2.wipe σ vs) H' fun σ2 H2 => L2.wipe σ2 vs = L2.wipe σ vs ∧
      te σ2 H2 fun y H3 => ∃ b : Bool, y = .bl b ∧ if b = sv then Q (.bl sv) H3 else Nx H3)) :
    ∀ (n m i : Nat) (s₀ s : Shared) (H : Hp), m < n → W i m H → Inv (genX X (A.over (gCode elt tg iter scope pos it cenv) []) s4 H1 cenv fp) [(a, go)] (L2.wipe σ vs) H s → tn i s.heap → (∀ b ∈ fp, H b = none) →
      Seg (model X.prog X.w) A (fun n s₀ r s1 => r = .ok .next ∧ gxR (genX X (A.over (gCode elt tg iter scope pos it cenv) []) s4 H1 cenv fp) [(a, go)] (L2.wipe σ vs) sv Q n s₀ s1) (gxY (genX X (A.over (gCode elt tg iter scope pos it cenv) []) s4 H1 cenv fp) [(a, go)] sv Q)
        n s₀ (gCode elt tg iter scope pos it cenv) ((model X.prog X.w).den (gCode elt tg iter scope pos it cenv)) [] s := by
  generalize hXg : genX X (A.over (gCode elt tg iter scope pos it cenv) []) s4 H1 cenv fp = Xg at *
  have eA : Xg.A = A.over (gCode elt tg iter scope pos it cenv) [] := by rw [← hXg]
  have ep : Xg.prog = X.prog := by rw [← hXg]
  have ew : Xg.w = X.w := by rw [← hXg]
  have eK : Xg.K = X.K := by rw [← hXg]
  have ec : Xg.calm = true := by rw [← hXg]; exact hc
  have ee : Xg.env = cenv := by rw [← hXg]
  have ex : Xg.xe = fun _ _ => False := by rw [← hXg]
  intro n
  induction n with
  | zero => intro m i s₀ s H h; omega
  | succ n ih =>
    intro m i s₀ s H hm w I st hn
    show Seg _ A _ _ _ s₀ _ ((compTurn (.GeneratorExp elt [⟨tg, iter, [], 0⟩] scope pos) 0 (.ref it) .none cenv).onRaise (leaving cenv)) [] s
    rw [compTurn_gen0 _ _ _ _ _ _ _ _ hco, Sem.onRaise_eq_wrap]
    refine seg_bind_wrap (wpAny_standAt ?_)
    have stat : ∀ {σ' : L2.St} {H' : Hp} {s' : Shared}, Inv Xg [(a, go)] σ' H' s' → (∀ b ∈ fp, H' b = none) → ∀ b ∈ fp, FpOk Xg [(a, go)] H' b := fun I' h b hb => st0 b hb I' (h b hb)
    rcases turn i m H w with ⟨stop, q⟩ | ⟨go', Nx, hNx, step⟩
    · have td := T.done Xg ep ew eK ec i [(a, go)] s _ H (fun _ _ => False) I (stat I hn) st stop
      rw [eA] at td
      refine seg_bind_wrap (thnF td fun r s6 ⟨hr, I6⟩ => ?_)
      subst hr
      exact seg_end (.ok .next) ⟨rfl, H, I6, q⟩
    · have ti := T.item Xg ep ew eK ec i [(a, go)] s _ H (fun _ _ => False) I (stat I hn) st go'
      rw [eA] at ti
      refine seg_bind_wrap (thnF ti fun r s6 ⟨u, hr, h6⟩ => ?_)
      subst hr
      dsimp only
      refine seg_bind_wrap (thnF h6 fun _ s7 ⟨x, H7, I7, r7, y7, st7, n7⟩ => ?_)
      have I7' := I7.pinned (stat I7 n7) (T.obj _ _ st7)
      have hgr := hg.run _ s7 _ H7 x u _ I7' r7 (step x H7 y7)
      rw [ep, ew, eA, ex, ee] at hgr
      refine seg_bind_wrap (thnF hgr fun _ s8 ⟨σ8, H8, I8, hw8, q8⟩ => ?_)
      have her := he.run _ s8 σ8 H8 _ I8 q8
      rw [ep, ew, eA, ex, ee] at her
      rw [Sem.bind_eq_wrap', Sem.bind_eq_wrap', Sem.wrap_wrap, Sem.wrap_wrap]
      refine seg_wrap (thnF her fun y s9 ⟨yv, H9, I9, r9, b, eb, q9⟩ => ?_)
      subst eb
      have ey : y = .bool b := r9
      subst ey
      have I9' : Inv Xg [(a, go)] σ8 H9 s9 := I9.unpinned
      refine seg_at (seg_yield rfl rfl rfl ⟨b, σ8, H9, rfl, I9', fun e => by rw [if_pos e] at q9; exact q9, fun ne s'' sl => ?_⟩)
      rw [if_neg ne] at q9
      obtain ⟨m', hm', w'⟩ := hNx H9 q9
      have J9 : Inv Xg ([(a, go)] ++ pinsAt fp s7.heap) σ8 H9 s'' := I9.call' (ch := []) sl.os (Un.kept sl.keep) (I9.hok.kept sl.keep) sl.bare fun b z => absurd z (by simp)
      have pin' : ∀ b ∈ fp, ∀ o, s7.heap.get? b = some o → s''.heap.get? b = some o ∧ H9 b = none := fun b hb o e =>
        let z := J9.pin (b, o) (List.mem_append_right _ (List.mem_append_right _ (mem_pinsAt hb e)))
        ⟨z.1, z.2.1⟩
      have hl : (L2.wipe σ vs).length = σ8.length := by rw [← hw8, L2.wipe_length]
      refine seg_again rfl (ih m' (i + 1) s'' s'' H9 (by omega) w' ((J9.unpinned (pins := [(a, go)])).weak hl fun j v e => ?_) (T.keep _ _ _ st7 fun b hb o e => (pin' b hb o e).1) fun b hb => ?_)
      · rw [← hw8] at e
        exact (wipe_some e).1
      · obtain ⟨o, e, _⟩ := T.obj _ _ st7 b hb
        exact (pin' b hb o e).2
end
end Av
end
section
set_option Elab.async false
set_option linter.all false
set_option maxRecDepth 100000
set_option autoImplicit false
set_option maxHeartbeats 4000000
namespace Av
open PySem PySem.Spec PyProof.Rows L2
/-- the generator g at a, over the iterator J, not yet run -/
structure GenMade (X : Cx) (pins : List (Addr × Obj)) (σ : L2.St) (elt tg iter : Expr) (scope : Scope) (pos : Pos) (J : It) (H2 : Hp) (a : Addr) (s5 : Shared) : Prop where
  ex : ∃ (it : Addr) (fp : List Addr) (tn : Nat → Heap → Prop) (s4 : Shared) (code : Value) (h5 : Heap) (tk : Nat) (m : Str → Option Value) (go : Obj), Inv X pins σ H2 s4 ∧ Turn X.prog X.w X.K tg J fp it tn ∧ tn 0 s4.heap ∧ (∀ b ∈ fp, FpOk X pins H2 b ∧ b < s4.heap.objs.size) ∧
    (∀ b o, s4.heap.get? b = some o → h5.get? b = some o) ∧ h5.Ns s4.heap.objs.size m ∧ s4.heap.objs.size < a ∧ h5.get? a = some go ∧ (∀ v, go.data ≠ .cell v) ∧ (∀ h : Heap, h.get? a = some go → h.IsGen a s4.gens.size) ∧
    s5 = { s4 with gens := s4.gens.push (.fresh (gCode0 elt tg iter scope pos it (gEnv X scope s4.heap.objs.size code))), toks := tk, heap := h5 }
section
variable {X : Cx} {pins : List (Addr × Obj)} {σ : L2.St} {H : Hp} {s : Shared}
theorem gen_made {c P : Addr} {elt tg iter : Expr} {gpos : Pos} {scope : Scope} {wi : TI} {k : Nat} {Q' : Value → Shared → Prop} {R : It → Hp → Prop} {own : List (Str × Nat)}
    (hr : Room k X.A) (TB : GxR.TabB X.base X.mg c P) (hcode : X.env.code = .ref c) (ok : BlkOk X.N X.env.scope scope own) (hcell : ∀ y ∈ scope.names, y.2 ≠ .cell) (hco : scope.isCoroutine = false) (h0 : scope.names.lookup (".0" : Str) = some NameKind.local) (hi : PI X tg iter wi)
    (hs : ∀ v, genFold iter X.env v = pure v) (I : Inv X pins σ H s) (h : wi σ H fun J H1 => GxR.TabG H1 P ∧ ∀ H2, GxR.Tabbed P H1 H2 → R J H2)
    (hQ : ∀ J H2 a s5, R J H2 → GenMade X pins σ elt tg iter scope gpos J H2 a s5 → Q' (.ref a) s5) :
    wpAny (model X.prog X.w) X.A (eval (.GeneratorExp elt [⟨tg, iter, [], 0⟩] scope gpos) X.env) Q' X.xe s := by
  have hfree : ∀ y ∈ scope.names, y.2 = .free → ∃ c, X.env.cells.lookup y.1 = some c := fun y hy e => by
    rcases ok.free y hy e with k | k
    · exact I.ok.has _ (.inl k)
    · exact I.ok.has _ (.inr k)
  refine wpAny_GeneratorExp_make hco (closure_ok hfree) hcell h0 ok.kind (by have := hr.dp; omega) ?_ hs
  refine thn (hi.run pins s σ H _ I h) fun xv s0 hx => thn hx fun itv s1 h1 => ?_
  obtain ⟨it, fp, tn, J, H1, e, I1, T, st1, f1, ⟨ps, hP, ht⟩, q1⟩ := h1
  subst e
  have hPs : s1.heap.get? P = some { cls := .none, data := .fields ps } := I1.hok P _ hP
  have hPlt : P < s1.heap.objs.size := Heap.lt_size hPs
  have cd : PySem.W.CodeHd s1.heap c P := TB.code.keeps fun b u e => I1.bk b u e
  have lim1 : s1.heap.NoLimit := I1.nolimit
  refine ⟨lim1, ?_⟩
  have nfp : ∀ b ∈ fp, b ≠ P := fun b hb z => by
    have := (f1 b hb).1
    rw [z, hP] at this; cases this
  have szf : ∀ b ∈ fp, b < s1.heap.objs.size := fun b hb => by
    obtain ⟨o, e, _⟩ := T.obj _ _ st1 b hb
    exact Heap.lt_size e
  have cont : ∀ (code : Value) (h3 : Heap) (tk : Nat) (ps' : Array Value), Heap.ExtBut P s1.heap h3 → s1.heap.objs.size ≤ h3.objs.size → h3.get? P = some { cls := .none, data := .fields ps' } → (∃ more, ps' = ps ++ more) → TriplesOk ps'.toList →
      wpAny (model X.prog X.w) X.A (builtinsFor X.env.globals X.env.builtins) (fun bi s₄ =>
        ∀ h', h'.Ns s₄.heap.objs.size (fun y => if y = ".0" then some (.ref it) else none) → Heap.SameBut s₄.heap.objs.size (s₄.heap.push { cls := .type "frame", data := .dict #[] }) h' →
          Q' (.ref h'.objs.size) { s₄ with
            gens := s₄.gens.push (.fresh (.compStart (.GeneratorExp elt [⟨tg, iter, [], 0⟩] scope gpos) 0 (.ref it) .none (genEnv scope (cloFrom X.env.cells scope.names []) s₄.heap.objs.size code bi X.env))),
            toks := s₄.toks + 1 + 1 + 1,
            heap := h'.push { cls := .type "generator", data := .fields #[.int s₄.gens.size 0, .str "<genexpr>" (s₄.toks + 1), .str (X.env.qual ++ "<genexpr>") (s₄.toks + 1 + 1)] } }) X.xe { s1 with heap := h3, toks := tk } := by
    intro code h3 tk ps' hx hsz hP3 hmore ht3
    obtain ⟨bm, ob, e1, e2, e3, e4, e5, e6, e7, e8⟩ := TB.bm
    have keep3 : ∀ b u, b ≠ P → s1.heap.get? b = some u → h3.get? b = some u := fun b u hb e => hx b u hb e
    refine wpAny_builtinsFor (m := X.mg) (by rw [I1.ok.glob]; exact ((I1.mod.glob.keeps I1.bk)).extBut hx TB.gP) e1 e2 (keep3 _ _ e4 (I1.bk _ _ e5)) e6 e7 e8 ?_
    intro h' hn' hs'
    have hs' : Heap.SameBut h3.objs.size (h3.push { cls := .type "frame", data := .dict #[] }) h' := hs'
    have hsz' : h'.objs.size = h3.objs.size + 1 := by rw [hs'.1, Heap.size_push]
    obtain ⟨more, em⟩ := hmore
    have J3 := GxR.inv_tab (more := more) (h' := h3) (g' := s1.gens) (d' := s1.drawn) (t' := tk) I1 hP (fun b u hb e => keep3 b u hb e) (by rw [← em]; exact hP3) I1.bare
    have tb : GxR.Tabbed P H1 (upd H1 P (.tbl (ps ++ more))) := ⟨⟨ps ++ more, upd_same, by rw [← em]; exact ht3⟩, fun b hb => upd_ne hb⟩
    have keep' : ∀ b o, h3.get? b = some o → h'.get? b = some o := fun b o e => hs'.extBut b o (Nat.ne_of_lt (Heap.lt_size e)) (Heap.get?_push_of_some _ e)
    have go1 : (h'.push { cls := .type "generator", data := .fields #[.int s1.gens.size 0, .str "<genexpr>" (tk + 1), .str (X.env.qual ++ "<genexpr>") (tk + 1 + 1)] }).get? h'.objs.size = some { cls := .type "generator", data := .fields #[.int s1.gens.size 0, .str "<genexpr>" (tk + 1), .str (X.env.qual ++ "<genexpr>") (tk + 1 + 1)] } := Heap.get?_push_size _ rfl
    refine hQ J _ h'.objs.size _ (q1 _ tb) ⟨it, fp, tn, { s1 with heap := h3, toks := tk }, code, _, _, _, _, J3, T, T.keep _ _ _ st1 fun b hb o e => keep3 b o (nfp b hb) e, fun b hb => ⟨⟨?_, (f1 b hb).2⟩, Nat.lt_of_lt_of_le (szf b hb) hsz⟩,
      fun b o e => Heap.get?_push_of_some _ (keep' b o e), hn'.push _, (by show h3.objs.size < h'.objs.size; omega), go1, (fun v z => by cases z), fun h e => ⟨_, _, _, e, rfl, rfl, rfl⟩, rfl⟩
    rw [upd_ne (nfp b hb)]
    exact (f1 b hb).1
  cases hf : codeAmong gpos ps.toList with
  | none =>
    refine wpAny_genexprCodeX hcode (cd.code hPs ht) (cd.tab hPs) hf fun c' h' tk hx hge hlt hco' _ htab' _ => ?_
    obtain ⟨o1, vs, f1, tf, fl, tg, inF, tx, tt, op, _, _, _, _, _, _, _, _, _, htr, _⟩ := hco'
    exact cont _ h' tk _ hx (Nat.le_trans hge (Nat.le_of_lt hlt)) htab'.2 ⟨_, rfl⟩ htr
  | some cv =>
    refine wpAny_genexprCode_hit hcode (cd.code hPs ht) hf ?_
    exact cont cv s1.heap s1.toks ps (Heap.ExtBut.refl _ _) (Nat.le_refl _) hPs ⟨#[], by simp⟩ ht
end
end Av
end
section
set_option Elab.async false
set_option linter.all false
set_option maxRecDepth 100000
set_option autoImplicit false
set_option maxHeartbeats 4000000
namespace Av
open PySem PySem.Spec PyProof.Rows L2
theorem gens_some {s : Shared} {g : Nat} (h : g < s.gens.size) : ∃ x, s.gens[g]? = some x := ⟨_, Array.getElem?_eq_getElem h⟩
theorem bare_set {s : Shared} {g : Nat} {x : GenState} (h : AllBare s.gens) (hb : x.bare = true) : AllBare (s.setGen g x).gens := by
  by_cases hg : g < s.gens.size
  · obtain ⟨y, hy⟩ := gens_some hg
    exact h.moved (GenOnlyQ.of (GenOnly.setGen s g x) (setGen_self hy) hb)
  · have : (s.setGen g x).gens = s.gens := by
      show s.gens.setIfInBounds g x = s.gens
      unfold Array.setIfInBounds
      rw [dif_neg hg]
    rw [this]; exact h
theorem setset {s : Shared} {g : Nat} {x y : GenState} : (s.setGen g x).setGen g y = s.setGen g y := by
  unfold Shared.setGen
  simp
theorem inv_gens {X : Cx} {pins : List (Addr × Obj)} {σ : L2.St} {H : Hp} {s s' : Shared} (I : Inv X pins σ H s) (sl : Slept0 s s') : Inv X pins σ H s' := I.call' (ch := []) sl.os (Un.kept sl.keep) (I.hok.kept sl.keep) sl.bare fun b z => absurd z (by simp)
theorem Slept0.trans {a b c : Shared} (x : Slept0 a b) (y : Slept0 b c) : Slept0 a c := ⟨y.os.trans x.os, y.bare, fun p o e => y.keep p o (x.keep p o e)⟩
section
variable {Xg : Cx} {a : Addr} {go : Obj} {g n : Nat} {sv : Bool} {Q : VK} {σw σ' : L2.St} {A : Around} {H : Hp} {s : Shared} {gs : GenState} {E : Value → Shared → Prop}
abbrev GGoes (Xg : Cx) (A : Around) (pn : List (Addr × Obj)) (σw : L2.St) (sv : Bool) (Q : VK) (n : Nat) (gs : GenState) (s : Shared) : Prop :=
  gs.Goes (model Xg.prog Xg.w) A (fun n s₀ r s1 => r = .ok .next ∧ gxR Xg pn σw sv Q n s₀ s1) (gxY Xg pn sv Q) n (.send .none) s
/-- one turn of the consumer -/
theorem gx_next (hh : A.handled = none) (hroom : A.depth < recursionLimit) (hgen : ∀ h : Heap, h.get? a = some go → h.IsGen a g) (I : Inv Xg [(a, go)] σ' H s) (hgs : s.gens[g]? = some gs) (hgo : GGoes Xg A.in1 [(a, go)] σw sv Q n gs (s.setGen g .running)) :
    wpAny (model Xg.prog Xg.w) A (pyNext (.ref a)) (fun r s' => match r with
      | none => ∃ H, Inv Xg [(a, go)] σw H s' ∧ Q (.bl (!sv)) H
      | some v => ∃ (b : Bool) (σ2 : L2.St) (H : Hp), v = .bool b ∧ Inv Xg [(a, go)] σ2 H s' ∧ (b = sv → Q (.bl sv) H) ∧ (b ≠ sv → ∃ n' gs', n' < n ∧ s'.gens[g]? = some gs' ∧ ∀ s'', Slept0 s' s'' → GGoes Xg A.in1 [(a, go)] σw sv Q n' gs' (s''.setGen g .running))) E s := by
  have hg : s.heap.IsGen a g := hgen _ (I.pin (a, go) (List.mem_append_right _ (List.mem_singleton.mpr rfl))).1
  have hsz : g < s.gens.size := (Array.getElem?_eq_some_iff.mp hgs).1
  refine GenW.wpAny_gsz (n := g + 1) hsz ?_
  refine wpAny_pyNext_genexpQ (P := gxR Xg [(a, go)] σw sv Q) hh I.nolimit hroom hg hgs hgo (fun v s1 gs' hb hY => ?_) (fun s1 hP h' hk => ?_)
  · intro hsz'
    obtain ⟨b, σ2, H2, rfl, I2, h1, h2⟩ := hY
    have sl : Slept0 s1 (s1.setGen g gs') := ⟨rfl, bare_set I2.bare hb, fun _ _ e => e⟩
    refine ⟨b, σ2, H2, rfl, inv_gens I2 sl, h1, fun ne => ?_⟩
    have h3 := h2 ne
    cases n with
    | zero => exact (h3 s1 ⟨rfl, I2.bare, fun _ _ e => e⟩).elim
    | succ m =>
      have hs1 : g < s1.gens.size := by rw [GenW.setGen_size] at hsz'; exact hsz'
      obtain ⟨y, hy⟩ := gens_some hs1
      exact ⟨m, gs', Nat.lt_succ_self m, setGen_self hy, fun s'' sl2 => h3 _ (sl.trans (sl2.trans ⟨rfl, bare_set sl2.bare rfl, fun _ _ e => e⟩))⟩
  · intro _
    obtain ⟨H2, I2, q⟩ := hP
    exact ⟨H2, inv_gens I2 ⟨rfl, bare_set I2.bare rfl, hk⟩, q⟩
theorem all_loopG {R : Result → Shared → Prop} (hh : A.handled = none) (hroom : A.depth < recursionLimit) (hgen : ∀ h : Heap, h.get? a = some go → h.IsGen a g)
    (hR : ∀ (b : Bool) (σ2 : L2.St) (H : Hp) (s' : Shared), Inv Xg [(a, go)] σ2 H s' → Q (.bl b) H → R (.ok (.ret (.bool b))) s') : ∀ (n : Nat) (gs : GenState) (σ' : L2.St) (H : Hp) (s : Shared), Inv Xg [(a, go)] σ' H s → s.gens[g]? = some gs →
    (∀ s'', Slept0 s s'' → GGoes Xg A.in1.in1 [(a, go)] σw false Q n gs (s''.setGen g .running)) → codeAny (model Xg.prog Xg.w) A (.builtin "all.loop" ⟨[.ref a], []⟩) R s := by
  intro n
  induction n using Nat.strongRecOn with
  | ind n ih =>
    intro gs σ' H s I hgs hgo
    refine codeAny_builtin F.entry_all_loop ?_
    rw [Around.under_plainId F.plain_all_loop _]
    show wpAny _ A.in1 (pyNext (.ref a) >>= _) _ _ s
    refine wpAny_bind (wpAny_mono (gx_next (A := A.in1) (sv := false) (E := fun _ _ => False) hh hroom hgen I hgs (hgo s ⟨rfl, I.bare, fun _ _ e => e⟩)) (fun r s1 h1 => ?_) fun _ _ z => z.elim)
    cases r with
    | none =>
      obtain ⟨H1, I1, q⟩ := h1
      exact wpAny_bind (wpAny_rule (wpAny_pure (hR true _ H1 s1 I1 q)))
    | some v =>
      obtain ⟨b, σ2, H1, rfl, I1, h2, h3⟩ := h1
      refine wpAny_bind (wpAny_holding (wpAny_truthy_bool ?_))
      refine wpAny_bind (wpAny_letGo ?_)
      cases b with
      | true =>
        simp only [if_true]
        obtain ⟨n', gs', hn, hgs', hgo'⟩ := h3 (by decide)
        exact wpAny_pure ⟨plainId_quiet F.plain_all_loop _, ih n' hn gs' σ2 H1 _ I1 hgs' hgo'⟩
      | false =>
        simp only [Bool.false_eq_true, if_false]
        exact wpAny_bind (wpAny_rule (wpAny_pure (hR false _ H1 s1 I1 (h2 rfl))))
theorem any_loopG {R : Result → Shared → Prop} (hh : A.handled = none) (hroom : A.depth < recursionLimit) (hgen : ∀ h : Heap, h.get? a = some go → h.IsGen a g)
    (hR : ∀ (b : Bool) (σ2 : L2.St) (H : Hp) (s' : Shared), Inv Xg [(a, go)] σ2 H s' → Q (.bl b) H → R (.ok (.ret (.bool b))) s') : ∀ (n : Nat) (gs : GenState) (σ' : L2.St) (H : Hp) (s : Shared), Inv Xg [(a, go)] σ' H s → s.gens[g]? = some gs →
    (∀ s'', Slept0 s s'' → GGoes Xg A.in1.in1 [(a, go)] σw true Q n gs (s''.setGen g .running)) → codeAny (model Xg.prog Xg.w) A (.builtin "any.loop" ⟨[.ref a], []⟩) R s := by
  intro n
  induction n using Nat.strongRecOn with
  | ind n ih =>
    intro gs σ' H s I hgs hgo
    refine codeAny_builtin F.entry_any_loop ?_
    rw [Around.under_plainId F.plain_any_loop _]
    show wpAny _ A.in1 (pyNext (.ref a) >>= _) _ _ s
    refine wpAny_bind (wpAny_mono (gx_next (A := A.in1) (sv := true) (E := fun _ _ => False) hh hroom hgen I hgs (hgo s ⟨rfl, I.bare, fun _ _ e => e⟩)) (fun r s1 h1 => ?_) fun _ _ z => z.elim)
    cases r with
    | none =>
      obtain ⟨H1, I1, q⟩ := h1
      exact wpAny_bind (wpAny_rule (wpAny_pure (hR false _ H1 s1 I1 q)))
    | some v =>
      obtain ⟨b, σ2, H1, rfl, I1, h2, h3⟩ := h1
      refine wpAny_bind (wpAny_holding (wpAny_truthy_bool ?_))
      refine wpAny_bind (wpAny_letGo ?_)
      cases b with
      | false =>
        simp only [Bool.false_eq_true, if_false]
        obtain ⟨n', gs', hn, hgs', hgo'⟩ := h3 (by decide)
        exact wpAny_pure ⟨plainId_quiet F.plain_any_loop _, ih n' hn gs' σ2 H1 _ I1 hgs' hgo'⟩
      | true =>
        simp only [if_true]
        exact wpAny_bind (wpAny_rule (wpAny_pure (hR true _ H1 s1 I1 (h2 rfl))))
end
end Av
end
section
set_option Elab.async false
set_option linter.all false
set_option maxRecDepth 100000
set_option autoImplicit false
set_option maxHeartbeats 4000000
namespace Av
open PySem PySem.Spec PyProof.Rows L2
/-- a run of it -/
def GxTurn (sv : Bool) (g : TG) (te : TE) (vs : List Nat) (σ : L2.St) (Q : VK) (J : It) (H2 : Hp) : Prop := ∃ W : Nat → Nat → Hp → Prop, (∃ m, W 0 m H2) ∧ ∀ i m H, W i m H →
  (J.stop i H ∧ Q (.bl (!sv)) H) ∨ (J.go i H ∧ ∃ Nx : Hp → Prop, (∀ H', Nx H' → ∃ m', m' < m ∧ W (i + 1) m' H') ∧ ∀ x H', J.yld i H x H' → g x (L2.wipe σ vs) H' fun σ2 H2 => L2.wipe σ2 vs = L2.wipe σ vs ∧
    te σ2 H2 fun y H3 => ∃ b : Bool, y = .bl b ∧ if b = sv then Q (.bl sv) H3 else Nx H3)
def tGx (sv : Bool) (P : Addr) (wi : TI) (g : TG) (te : TE) (vs : List Nat) : TE := fun σ H Q => wi σ H fun J H1 => GxR.TabG H1 P ∧ ∀ H2, GxR.Tabbed P H1 H2 → GxTurn sv g te vs σ Q J H2
section
variable {X : Cx} {pins : List (Addr × Obj)} {σ : L2.St} {H : Hp} {s : Shared} {elt tg iter : Expr} {gpos pos p : Pos} {scope : Scope} {own : List (Str × Nat)} {wi : TI} {g : TG} {te : TE} {sv : Bool} {Q : VK} {J : It} {H2 : Hp} {a : Addr} {s5 : Shared}
theorem over_room {k : Nat} {A : Around} {it : Addr} {cenv : Env} (r : Room (k + 1) A) : Room k (A.in1.in1.over (gCode elt tg iter scope pos it cenv) []) := by
  refine ⟨r.hd, ?_, ?_⟩
  · have := r.dp
    show A.depth + 0 + 1 + 3 * k + 5 < _
    omega
  · have := r.un
    show A.units + 1 + 1 + 0 + 3 + 16 * k + 200 < _
    omega
theorem over_frames {A : Around} {it : Addr} {cenv : Env} {l : List Env} (h : A.frames = some l) : (A.in1.in1.over (gCode elt tg iter scope pos it cenv) []).frames = some (cenv :: l) := by
  show pushEnvs [cenv] (pushEnvs [] A.frames) = _
  rw [h]; rfl
/-- what the consumer needs -/
theorem gx_ready {k : Nat} (hr : Room (k + 1) X.A) (hc : X.calm = true) (hN : X.N.Nodup) (ok : BlkOk X.N X.env.scope scope own) (hcell : ∀ y ∈ scope.names, y.2 ≠ .cell) (hco : scope.isCoroutine = false)
    (hg : ∀ (A' : Around) (s : Shared) (H : Hp) (C : Addr) (code : Value) (fp : List Addr), Room k A' → PG (genX X A' s H (gEnv X scope C code) fp) tg g) (he : ∀ (A' : Around) (s : Shared) (H : Hp) (C : Addr) (code : Value) (fp : List Addr), Room k A' → PE (genX X A' s H (gEnv X scope C code) fp) elt te)
    (M : GenMade X pins σ elt tg iter scope gpos J H2 a s5) (h : GxTurn sv g te (own.map (·.2)) σ Q J H2) :
    ∃ (Xg : Cx) (go : Obj) (gn n : Nat) (gs : GenState) (H2 : Hp), Xg.prog = X.prog ∧ Xg.w = X.w ∧ (∀ h : Heap, h.get? a = some go → h.IsGen a gn) ∧ Inv Xg [(a, go)] (L2.wipe σ (own.map (·.2))) H2 s5 ∧ s5.gens[gn]? = some gs ∧
      (∀ s'', Slept0 s5 s'' → GGoes Xg X.A.in1.in1 [(a, go)] (L2.wipe σ (own.map (·.2))) sv Q n gs (s''.setGen gn .running)) ∧
      ∀ (b : Bool) (σ2 : L2.St) (H : Hp) (s' : Shared), Inv Xg [(a, go)] σ2 H s' → Q (.bl b) H → EP X pins σ Q (.bool b) s' := by
  obtain ⟨it, fp, tn, s4, code, h5, tk, mm, go, I4, T, st4, f4, kp, hns, ha, hgo, hgd, hgen, rfl⟩ := M.ex
  obtain ⟨W, ⟨m0, w0⟩, turn⟩ := h
  have frm : X.A.frames = some X.stack := I4.ok.frames
  have rm := over_room (elt := elt) (tg := tg) (iter := iter) (scope := scope) (pos := gpos) (it := it) (cenv := gEnv X scope s4.heap.objs.size code) hr
  have I5 := gen_start (A' := X.A.in1.in1.over (gCode elt tg iter scope gpos it (gEnv X scope s4.heap.objs.size code)) []) (G := s4.gens.push (.fresh (gCode0 elt tg iter scope gpos it (gEnv X scope s4.heap.objs.size code)))) (tk := tk) (dr := s4.drawn)
    I4 ok hN hcell f4 rm.hd (over_frames frm) kp hns (I4.bare.push rfl) ha hgo hgd
  have st0 : ∀ b ∈ fp, ∀ {σ' : L2.St} {H' : Hp} {s' : Shared}, Inv (genX X (X.A.in1.in1.over (gCode elt tg iter scope gpos it (gEnv X scope s4.heap.objs.size code)) []) s4 H2 (gEnv X scope s4.heap.objs.size code) fp) [(a, go)] σ' H' s' → H' b = none →
      FpOk (genX X (X.A.in1.in1.over (gCode elt tg iter scope gpos it (gEnv X scope s4.heap.objs.size code)) []) s4 H2 (gEnv X scope s4.heap.objs.size code) fp) [(a, go)] H' b := fun b hb σ' H' s' I' hn =>
    ⟨hn, (I'.ok.exf b hb).1, I'.ok.exfs b hb, .inl hb, (I'.ok.exf b hb).2, fun p hp z => by
      rw [List.nil_append] at hp
      rw [List.mem_singleton.mp hp] at z
      have h1 := (f4 b hb).2
      rw [← z] at h1
      exact absurd (Nat.lt_trans h1 ha) (Nat.lt_irrefl _)⟩
  have loop := gx_loop (sv := sv) (Q := Q) (vs := own.map (·.2)) (σ := σ) (a := a) (go := go) (A := X.A.in1.in1) (s4 := s4) (H1 := H2) (cenv := gEnv X scope s4.heap.objs.size code) (pos := gpos) (scope := scope) (iter := iter) T hc hco (hg _ s4 H2 _ code fp rm) (he _ s4 H2 _ code fp rm) st0 turn
  refine ⟨genX X (X.A.in1.in1.over (gCode elt tg iter scope gpos it (gEnv X scope s4.heap.objs.size code)) []) s4 H2 (gEnv X scope s4.heap.objs.size code) fp, go, s4.gens.size, m0 + 1, _, H2, rfl, rfl, hgen, I5, Array.getElem?_push_size .., fun s'' sl => ⟨rfl, ?_⟩, fun b σ2 H' s' I6 q => ?_⟩
  · -- the first run
    have I6 := inv_gens (s' := s''.setGen s4.gens.size .running) I5 (sl.trans ⟨rfl, bare_set (g := s4.gens.size) (x := .running) sl.bare rfl, fun _ _ e => e⟩)
    have stn : tn 0 (s''.setGen s4.gens.size .running).heap := T.keep _ _ _ st4 fun b _ o e => sl.keep b o (kp b o e)
    have lp := loop (m0 + 1) m0 0 (s''.setGen s4.gens.size .running) (s''.setGen s4.gens.size .running) H2 (Nat.lt_succ_self _) w0 I6 stn fun b hb => (f4 b hb).1.1
    show Seg _ _ _ _ _ _ _ ((compStart (.GeneratorExp elt [⟨tg, iter, [], 0⟩] scope gpos) 0 (.ref it) .none (gEnv X scope s4.heap.objs.size code)).onRaise (leaving (gEnv X scope s4.heap.objs.size code))) [] _
    unfold compStart
    rw [Sem.onRaise_eq_wrap]
    show Seg _ _ _ _ _ _ _ ((ask >>= _).wrap _ _ _ _) [] _
    refine seg_bind_wrap (wpAny_askSetting ?_)
    split
    · exact seg_again rfl lp
    · refine seg_bind_wrap (wpAny_rule ?_)
      show Seg _ _ _ _ _ _ _ ((standAt iter.pos >>= _).wrap _ _ _ _) [] _
      exact seg_bind_wrap (wpAny_standAt (seg_bind_wrap (T.self _ 0 _ _ _ stn (seg_again rfl lp))))
  · exact ⟨.bl b, H', I4.call' (ch := fp) I6.os I6.base I6.hok I6.bare fun b hb => ⟨(f4 b hb).1.2.2.2.1, (f4 b hb).1.2.1, (f4 b hb).1.2.2.2.2.1, (f4 b hb).1.2.2.2.2.2⟩, rfl, q⟩
section
variable {c P : Addr} {k : Nat}
theorem pe_allG (hr : Room (k + 1) X.A) (hgl : Gl X "all") (hm : X.mg "all" = none) (hb : bootBuiltins "all" = some (.builtin "all")) (TB : GxR.TabB X.base X.mg c P) (hcode : X.env.code = .ref c) (hc : X.calm = true) (hN : X.N.Nodup) (ok : BlkOk X.N X.env.scope scope own) (hcell : ∀ y ∈ scope.names, y.2 ≠ .cell) (hco : scope.isCoroutine = false)
    (h0 : scope.names.lookup (".0" : Str) = some NameKind.local) (hi : PI X tg iter wi) (hs : ∀ v, genFold iter X.env v = pure v)
    (hg : ∀ (A' : Around) (s : Shared) (H : Hp) (C : Addr) (code : Value) (fp : List Addr), Room k A' → PG (genX X A' s H (gEnv X scope C code) fp) tg g) (he : ∀ (A' : Around) (s : Shared) (H : Hp) (C : Addr) (code : Value) (fp : List Addr), Room k A' → PE (genX X A' s H (gEnv X scope C code) fp) elt te) :
    PE X (.Call (.Name "all" p) [.GeneratorExp elt [⟨tg, iter, [], 0⟩] scope gpos] [] pos) (tGx false P wi g te (own.map (·.2))) := by
  refine ⟨fun pins s σ H Q I h => ?_⟩
  unfold tGx at h
  refine wpAny_Call_Name_kw (ld_blt I hgl hm hb ?_)
  have hst : starEach [.GeneratorExp elt [⟨tg, iter, [], 0⟩] scope gpos] X.env = (false, eval (.GeneratorExp elt [⟨tg, iter, [], 0⟩] scope gpos) X.env) :: starEach [] X.env := star1 rfl
  refine PyProof.Rows.callWith_builtin1 ?_ hst rfl
  rw [hst]
  show wpAny _ _ (spliced ((false, eval (.GeneratorExp elt [⟨tg, iter, [], 0⟩] scope gpos) X.env) :: backTo pos (starEach [] X.env))) _ _ s
  refine Calls.spliced_cons (gen_made (R := fun J H2 => GxTurn false g te (own.map (fun x : Str × Nat => x.2)) σ Q J H2) hr TB hcode ok hcell hco h0 hi hs I h fun J H2 a s5 hR hM => ?_)
  obtain ⟨Xg, go, gn, n, gs, H3, e1, e2, hgen, I5, hgs, hgo, hend⟩ := gx_ready hr hc hN ok hcell hco hg he hM hR
  refine Calls.spliced_nil ?_
  refine call_function_tree F.kind_all F.plain_all F.entry_all (F.args_all1 _) ?_
  unfold Builtin.«all»
  refine wpAny_bind (m := oneArg "all" _) (wpAny_pure ?_)
  have hg5 : s5.heap.IsGen a gn := hgen _ (I5.pin (a, go) (List.mem_append_right _ (List.mem_singleton.mpr rfl))).1
  refine wpAny_bind (wpAny_pyIter_gen hg5 (wpAny_pure ⟨plainId_quiet F.plain_all_loop _, ?_⟩))
  have := all_loopG (A := X.A) (R := fun r s' => match r with | .ok (.ret u) => EP X pins σ Q u s' | .ok _ => False | .error e => X.xe e s') hr.hd (by have := hr.dp; omega) hgen (fun b σ2 H' s' I' q => hend b σ2 H' s' I' q) n gs _ H3 s5 I5 hgs hgo
  rw [e1, e2] at this
  exact this
theorem pe_anyG (hr : Room (k + 1) X.A) (hgl : Gl X "any") (hm : X.mg "any" = none) (hb : bootBuiltins "any" = some (.builtin "any")) (TB : GxR.TabB X.base X.mg c P) (hcode : X.env.code = .ref c) (hc : X.calm = true) (hN : X.N.Nodup) (ok : BlkOk X.N X.env.scope scope own) (hcell : ∀ y ∈ scope.names, y.2 ≠ .cell) (hco : scope.isCoroutine = false)
    (h0 : scope.names.lookup (".0" : Str) = some NameKind.local) (hi : PI X tg iter wi) (hs : ∀ v, genFold iter X.env v = pure v)
    (hg : ∀ (A' : Around) (s : Shared) (H : Hp) (C : Addr) (code : Value) (fp : List Addr), Room k A' → PG (genX X A' s H (gEnv X scope C code) fp) tg g) (he : ∀ (A' : Around) (s : Shared) (H : Hp) (C : Addr) (code : Value) (fp : List Addr), Room k A' → PE (genX X A' s H (gEnv X scope C code) fp) elt te) :
    PE X (.Call (.Name "any" p) [.GeneratorExp elt [⟨tg, iter, [], 0⟩] scope gpos] [] pos) (tGx true P wi g te (own.map (·.2))) := by
  refine ⟨fun pins s σ H Q I h => ?_⟩
  unfold tGx at h
  refine wpAny_Call_Name_kw (ld_blt I hgl hm hb ?_)
  have hst : starEach [.GeneratorExp elt [⟨tg, iter, [], 0⟩] scope gpos] X.env = (false, eval (.GeneratorExp elt [⟨tg, iter, [], 0⟩] scope gpos) X.env) :: starEach [] X.env := star1 rfl
  refine PyProof.Rows.callWith_builtin1 ?_ hst rfl
  rw [hst]
  show wpAny _ _ (spliced ((false, eval (.GeneratorExp elt [⟨tg, iter, [], 0⟩] scope gpos) X.env) :: backTo pos (starEach [] X.env))) _ _ s
  refine Calls.spliced_cons (gen_made (R := fun J H2 => GxTurn true g te (own.map (fun x : Str × Nat => x.2)) σ Q J H2) hr TB hcode ok hcell hco h0 hi hs I h fun J H2 a s5 hR hM => ?_)
  obtain ⟨Xg, go, gn, n, gs, H3, e1, e2, hgen, I5, hgs, hgo, hend⟩ := gx_ready hr hc hN ok hcell hco hg he hM hR
  refine Calls.spliced_nil ?_
  refine call_function_tree F.kind_any F.plain_any F.entry_any (F.args_any1 _) ?_
  unfold Builtin.«any»
  refine wpAny_bind (m := oneArg "any" _) (wpAny_pure ?_)
  have hg5 : s5.heap.IsGen a gn := hgen _ (I5.pin (a, go) (List.mem_append_right _ (List.mem_singleton.mpr rfl))).1
  refine wpAny_bind (wpAny_pyIter_gen hg5 (wpAny_pure ⟨plainId_quiet F.plain_any_loop _, ?_⟩))
  have := any_loopG (A := X.A) (R := fun r s' => match r with | .ok (.ret u) => EP X pins σ Q u s' | .ok _ => False | .error e => X.xe e s') hr.hd (by have := hr.dp; omega) hgen (fun b σ2 H' s' I' q => hend b σ2 H' s' I' q) n gs _ H3 s5 I5 hgs hgo
  rw [e1, e2] at this
  exact this
end
end
end Av
end
section
set_option Elab.async false
set_option linter.all false
set_option maxRecDepth 100000
set_option autoImplicit false
set_option maxHeartbeats 4000000
namespace Av
open PySem PySem.Spec PyProof.Rows L2
section
variable {S : SE} {E : ED} {W : WX} {P : Pm} {ro : Mem} {X : Cx} {w w1 w2 : Wd} {m m1 m2 : Mem} {H H1 H2 : Hp} {pos p gpos : Pos}
theorem HR.tabd {T : Addr} (hr : HR S w ro m H1) (hT : T ∈ S.tb) (tb : GxR.Tabbed T H1 H2) : HR S w ro m H2 := by
  obtain ⟨hf, hh, ps, ht, _⟩ := hr.tab T hT
  obtain ⟨tb1, tb2⟩ := tb
  refine ⟨hr.len, fun n o e => ?_, hr.inj, hr.sep, fun a o e => ?_, fun a q e => ?_, hr.unl, hr.lkl, fun a o e => ?_, hr.hsf, hr.hdt, hr.hsi, fun T' hT' => ?_, hr.cur⟩
  · obtain ⟨a, h1, h2⟩ := hr.live n o e
    exact ⟨a, h1, h2.sub (.refl w) rfl (tb2 a fun z => h2.ntb ps (by rw [z]; exact ht))⟩
  · exact (hr.fz a o e).sub rfl (tb2 a fun z => by rw [z, hf] at e; cases e)
  · obtain ⟨h1, h2⟩ := hr.lkd a q e
    exact ⟨(tb2 a fun z => by rw [z, ht] at h1; cases h1).trans h1, h2⟩
  · exact (tb2 a fun z => by rw [z, hh] at e; cases e).trans (hr.hld a o e)
  · obtain ⟨a, b, c⟩ := hr.tab T' hT'
    refine ⟨a, b, ?_⟩
    by_cases hz : T' = T
    · rw [hz]; exact tb1
    · obtain ⟨qs, c1, c2⟩ := c
      exact ⟨qs, (tb2 T' hz).trans c1, c2⟩
def agL (sv : Bool) (f : D → Mem → R Mem Bool) : List D → Mem → R Mem Bool
  | [], m => .ok (!sv) m
  | d :: r, m => (f d m).bind fun b m1 => if b = sv then .ok sv m1 else agL sv f r m1
theorem allL_eq {f : D → Mem → R Mem Bool} : ∀ {xs : List D} {m : Mem}, allL f xs m = agL false f xs m
  | [], _ => rfl
  | d :: r, m => by
    rw [allL, agL]
    congr 1
    funext b m1
    cases b with
    | true => exact allL_eq
    | false => rfl
theorem anyL_eq {f : D → Mem → R Mem Bool} : ∀ {xs : List D} {m : Mem}, anyL f xs m = agL true f xs m
  | [], _ => rfl
  | d :: r, m => by
    rw [anyL, agL]
    congr 1
    funext b m1
    cases b with
    | false => exact anyL_eq
    | true => rfl
/-- one turn -/
def agF (P : Pm) (ro : Mem) (t : Tg) (σ0 : Sl) (ce : CE) : D → Mem → R Mem Bool := fun x m3 => match asgT t x σ0 with
  | some σ1 => (ev P ro ce σ1 m3).bind fun y m4 => match y with
    | .bl b => .ok b m4
    | _ => .stuck
  | none => .stuck
theorem ev_ag {sv : Bool} {own : List Nat} {t : Tg} {ci ce : CE} {σ' : Sl} : ev P ro (if sv then .ang own t ci ce else .alg own t ci ce) σ' m = (ev P ro ci σ' m).bind fun d m1 => (walkE ro d m1 fun xs m2 => agL sv (agF P ro t (wipe σ' own) ce) xs m2).bind fun b m5 => .ok (.bl b) m5 := by
  cases sv with
  | true =>
    rw [if_pos rfl, ev]
    congr 1; funext d m1; congr 1
    congr 1; funext xs m2
    exact anyL_eq
  | false =>
    rw [if_neg (by decide), ev]
    congr 1; funext d m1; congr 1
    congr 1; funext xs m2
    exact allL_eq
theorem pe_unl {e : Expr} {t : TE} (h : PE X e t) : PE X e (fun σ H Q => t σ H (unlQ X Q)) := ⟨fun pins s σ H Q I q => thn (h.run pins s σ H _ I q) fun u s1 ⟨v, H1, I1, rv, q1⟩ => by
  rcases q1 with q1 | ⟨d, od, o, e, hn, q1⟩
  · exact ⟨v, H1, I1, rv, q1⟩
  · exact ⟨v, _, I1.unlock e hn, rv, q1⟩⟩
theorem ag_body {sv : Bool} {t : Tg} {ce : CE} {vs : List Nat} {σ : L2.St} {σ' : Sl} {j : Option Nat} {dk : Bool} {Q : VK} {J : It} {ds : List D} {b : Bool} {mE : Mem} {T : Addr} (htg : ∀ i ∈ tgS t, i ∈ vs) (hT : T ∈ S.tb)
    (sr : SR w σ' σ) (wk : WalkOk S X ro w m ds j dk J w1 H1) (hl : agL sv (agF P ro t (Av.wipe σ' vs) ce) ds (lockM m j) = .ok b mE)
    (fin : ∀ w' H', w.Le w' → HR S w' ro (unlockM mE j) H' → Q (.bl b) H') (tb : GxR.Tabbed T H1 H2) : GxTurn sv (gTg X.K t) (xE S E W0 P ro ce) vs σ (unlQ X Q) J H2 := by
  refine ⟨fun i mm Hc => ∃ w3 m3, mm = ds.length - i ∧ i ≤ ds.length ∧ w1.Le w3 ∧ HR S w3 ro m3 Hc ∧ agL sv (agF P ro t (Av.wipe σ' vs) ce) (ds.drop i) m3 = .ok b mE, ⟨ds.length, w1, lockM m j, rfl, Nat.zero_le _, .refl _, wk.hr.tabd hT tb, hl⟩, ?_⟩
  rintro i mm Hc ⟨w3, m3, rfl, hi, le3, hr3, hrest⟩
  have s01 : w.Sub w1 := ⟨fun n a e => by rw [wk.io]; exact e, fun a o e => by rw [wk.fz]; exact e, fun a o e => by rw [wk.xe]; exact e⟩
  have leave : ∀ (w5 : Wd) (H5 : Hp), w1.Le w5 → HR S w5 ro mE H5 → unlQ X Q (.bl b) H5 := fun w5 H5 l5 hr5 => by
    have lb := Wd.back_le (w := w) (w2 := w5) (s01.trans l5.sub).io (s01.trans l5.sub).fz (s01.trans l5.sub).xe
    rcases wk.back w5 mE H5 l5.x hr5 with hb | ⟨d, od, u, e, hn, _, hb⟩
    · exact .inl (fin _ _ lb hb)
    · exact .inr ⟨d, od, u, e, hn, fin _ _ lb hb⟩
  by_cases hlt : i < ds.length
  · refine .inr ⟨wk.go w3 m3 Hc i le3.x hr3 hlt, fun H' => ∃ m', m' < ds.length - i ∧ ∃ w3 m3, m' = ds.length - (i + 1) ∧ i + 1 ≤ ds.length ∧ w1.Le w3 ∧ HR S w3 ro m3 H' ∧ agL sv (agF P ro t (Av.wipe σ' vs) ce) (ds.drop (i + 1)) m3 = .ok b mE, fun H' h => h, fun x H' y => ?_⟩
    obtain ⟨rfl, di, w4, hdi, le4, hr4, r4⟩ := wk.yld w3 m3 Hc i x H' le3.x hr3 hlt y
    have hdrop : ds.drop i = di :: ds.drop (i + 1) := by
      rw [List.drop_eq_getElem_cons hlt]
      congr 1
      exact (List.getElem?_eq_some_iff.mp hdi).2
    rw [hdrop, agL] at hrest
    obtain ⟨b1, m4, h1, h2⟩ := bind_ok_some hrest
    unfold agF at h1
    split at h1
    · rename_i σ1 hσ1
      refine asg_rel hr4 t di x _ σ1 _ _ ((sr.sub ((s01.trans le3.sub).trans le4.sub) (le4.cur.trans (le3.cur.trans wk.cur))).wipe vs) r4 hσ1 fun σ2 s2 hw => ⟨by rw [hw vs htg, wipe_wipe], ?_⟩
      obtain ⟨yd, m5, h3, h4⟩ := bind_ok_some h1
      refine ⟨w4, σ1, m3, s2, hr4, ?_⟩
      rw [h3]
      intro w5 v H5 le5 hr5 r5
      cases yd with
      | bl b2 =>
        cases h4
        cases r5
        have l15 := (le3.trans le4).trans le5
        refine ⟨b1, rfl, ?_⟩
        by_cases hb : b1 = sv
        · rw [if_pos hb] at h2 ⊢
          cases h2
          exact leave w5 H5 l15 hr5
        · rw [if_neg hb] at h2 ⊢
          exact ⟨ds.length - (i + 1), by omega, w5, m4, rfl, hlt, l15, hr5, h2⟩
      | _ => cases h4
    · cases h1
  · have hie : i = ds.length := by omega
    subst hie
    rw [List.drop_length] at hrest
    cases hrest
    exact .inl ⟨wk.stop w3 _ Hc _ le3.x hr3 (Nat.le_refl _), leave w3 Hc le3 hr3⟩
theorem ag_main {sv : Bool} {own : List (Str × Nat)} {t : Tg} {ci ce : CE} {σ : L2.St} {Q : VK} {T : Addr} (htg : ∀ i ∈ tgS t, i ∈ own.map (·.2)) (hT : T ∈ S.tb) (q : xE S E W P ro (if sv then .ang (own.map (·.2)) t ci ce else .alg (own.map (·.2)) t ci ce) σ H Q) :
    tGx sv T (xI S X E W P ro ci) (gTg X.K t) (xE S E W0 P ro ce) (own.map (·.2)) σ H (unlQ X Q) := by
  obtain ⟨w, σ', m, sr, hr, f⟩ := q
  have f : Fin S E W w ro σ RelD Q (ev P ro (if sv then .ang (own.map (·.2)) t ci ce else .alg (own.map (·.2)) t ci ce) σ' m) := f
  rw [ev_ag] at f
  refine ⟨w, σ', m, sr, hr, ?_⟩
  cases e : ev P ro ci σ' m with
  | stuck => rw [e] at f; exact f
  | exc x m1 => rw [e] at f; exact f
  | ok d m1 =>
    rw [e, R.bind_ok] at f
    intro w1 H1 l1 hr1
    have f := Fin.mono l1 f
    unfold walkE at f
    cases hit : itemsV (rd ro m1 d) with
    | none => rw [hit] at f; exact f.elim
    | some ds =>
      rw [hit] at f
      have f : Fin S E W w1 ro σ RelD Q (((agL sv (agF P ro t (Av.wipe σ' (own.map (·.2))) ce) ds (lockM m1 (lockAt ro m1 d))).calm fun a m2 => R.ok a (unlockM m2 (lockAt ro m1 d))).bind fun b m6 => .ok (.bl b) m6) := f
      cases hl : agL sv (agF P ro t (Av.wipe σ' (own.map (·.2))) ce) ds (lockM m1 (lockAt ro m1 d)) with
      | stuck => rw [hl] at f; exact f.elim
      | exc x m2 => rw [hl] at f; exact f.elim
      | ok b mE =>
        rw [hl] at f
        have f : ∀ w' v H', w1.Le w' → HR S w' ro (unlockM mE (lockAt ro m1 d)) H' → RelD w' (.bl b) v → Q v H' := f
        refine ⟨ds, hit, fun hne J w2 H2 wk => ⟨(wk.hr.tab T hT).2.2, fun H3 tb => ag_body htg hT (sr.mono l1) wk hl (fun w' H' l hr => f w' _ H' l hr (.bl b)) tb⟩, fun hemp J H2 emp => ?_⟩
        subst hemp
        have hj := lockAt_empty hit
        rw [hj] at hl
        cases hl
        have done : ∀ H3, GxR.Tabbed T H1 H3 → Q (.bl (!sv)) H3 := fun H3 tb => f w1 _ H3 (.refl w1) (by rw [hj]; exact hr1.tabd hT tb) (.bl _)
        have run : ∀ H3, GxR.Tabbed T H2 H3 → unlQ X Q (.bl (!sv)) H3 → GxTurn sv (gTg X.K t) (xE S E W0 P ro ce) (own.map (·.2)) σ (unlQ X Q) J H3 := fun H3 tb q => by
          refine ⟨fun i mm Hc => i = 0 ∧ Hc = H3, ⟨0, rfl, rfl⟩, ?_⟩
          rintro i mm Hc ⟨rfl, rfl⟩
          refine .inl ⟨emp.1 _ fun b u nt e => ?_, q⟩
          by_cases hb : b = T
          · exfalso
            obtain ⟨ps, hp, _⟩ := (hr1.tab T hT).2.2
            rcases emp.2 with rfl | ⟨dd, od, u2, e1, rfl, hn, nt2⟩
            · rw [hb, hp] at e; cases e; exact nt _ rfl
            · rw [hb] at e
              by_cases hd : T = dd
              · rw [← hd, hp] at e1; cases e1; exact nt2 _ rfl
              · rw [upd_ne hd, hp] at e; cases e; exact nt _ rfl
          · rw [tb.2 b hb]; exact e
        rcases emp.2 with rfl | ⟨dd, od, u, e1, rfl, hn, nt⟩
        · exact ⟨(hr1.tab T hT).2.2, fun H3 tb => run H3 tb (.inl (done H3 tb))⟩
        · obtain ⟨ps, hp, ho⟩ := (hr1.tab T hT).2.2
          have hd : T ≠ dd := fun z => by rw [← z, hp] at e1; cases e1; exact nt _ rfl
          refine ⟨⟨ps, (upd_ne hd).trans hp, ho⟩, fun H3 tb => run H3 tb (.inr ⟨dd, od, u, (tb.2 dd (Ne.symm hd)).trans upd_same, hn, done _ ⟨?_, fun b hb => ?_⟩⟩)⟩
          · obtain ⟨qs, h1, h2⟩ := tb.1
            exact ⟨qs, (upd_ne hd).trans h1, h2⟩
          · by_cases hbd : b = dd
            · subst hbd; rw [upd_same]; exact e1.symm
            · rw [upd_ne hbd, tb.2 b hb, upd_ne hbd]
theorem boot_all : bootBuiltins "all" = some (.builtin "all") := by decide +kernel
theorem l_all {k : Nat} {c T : Addr} {elt tg iter : Expr} {scope : Scope} {own : List (Str × Nat)} {t : Tg} {ci ce : CE} (G : XG S X) (hr : Room (k + 1) X.A) (hgl : Gl X "all") (hm : X.mg "all" = none) (TB : GxR.TabB X.base X.mg c T) (hT : T ∈ S.tb) (hcode : X.env.code = .ref c) (ok : BlkOk X.N X.env.scope scope own)
    (hcell : ∀ y ∈ scope.names, y.2 ≠ .cell) (hco : scope.isCoroutine = false) (h0 : scope.names.lookup (".0" : Str) = some NameKind.local) (htg : ∀ i ∈ tgS t, i ∈ own.map (·.2)) (hi : PI X tg iter (xI S X E W P ro ci)) (hs : ∀ v, genFold iter X.env v = pure v)
    (hg : ∀ (A' : Around) (s : Shared) (H : Hp) (C : Addr) (code : Value) (fp : List Addr), Room k A' → PG (genX X A' s H (gEnv X scope C code) fp) tg (gTg X.K t)) (he : ∀ (A' : Around) (s : Shared) (H : Hp) (C : Addr) (code : Value) (fp : List Addr), Room k A' → PE (genX X A' s H (gEnv X scope C code) fp) elt (xE S E W0 P ro ce)) :
    PE X (.Call (.Name "all" p) [.GeneratorExp elt [⟨tg, iter, [], 0⟩] scope gpos] [] pos) (xE S E W P ro (.alg (own.map (·.2)) t ci ce)) :=
  imE (pe_unl (pe_allG hr hgl hm boot_all TB hcode G.calm G.nd ok hcell hco h0 hi hs hg he)) fun σ H Q q => ag_main (sv := false) htg hT q
theorem l_any {k : Nat} {c T : Addr} {elt tg iter : Expr} {scope : Scope} {own : List (Str × Nat)} {t : Tg} {ci ce : CE} (G : XG S X) (hr : Room (k + 1) X.A) (hgl : Gl X "any") (hm : X.mg "any" = none) (TB : GxR.TabB X.base X.mg c T) (hT : T ∈ S.tb) (hcode : X.env.code = .ref c) (ok : BlkOk X.N X.env.scope scope own)
    (hcell : ∀ y ∈ scope.names, y.2 ≠ .cell) (hco : scope.isCoroutine = false) (h0 : scope.names.lookup (".0" : Str) = some NameKind.local) (htg : ∀ i ∈ tgS t, i ∈ own.map (·.2)) (hi : PI X tg iter (xI S X E W P ro ci)) (hs : ∀ v, genFold iter X.env v = pure v)
    (hg : ∀ (A' : Around) (s : Shared) (H : Hp) (C : Addr) (code : Value) (fp : List Addr), Room k A' → PG (genX X A' s H (gEnv X scope C code) fp) tg (gTg X.K t)) (he : ∀ (A' : Around) (s : Shared) (H : Hp) (C : Addr) (code : Value) (fp : List Addr), Room k A' → PE (genX X A' s H (gEnv X scope C code) fp) elt (xE S E W0 P ro ce)) :
    PE X (.Call (.Name "any" p) [.GeneratorExp elt [⟨tg, iter, [], 0⟩] scope gpos] [] pos) (xE S E W P ro (.ang (own.map (·.2)) t ci ce)) :=
  imE (pe_unl (pe_anyG hr hgl hm boot_any TB hcode G.calm G.nd ok hcell hco h0 hi hs hg he)) fun σ H Q q => ag_main (sv := true) htg hT q
end
end Av
end
section
set_option Elab.async false
set_option linter.all false
set_option maxRecDepth 100000
set_option autoImplicit false
namespace Av
open PySem PySem.Spec PyProof.Rows L2
/-- the code object of a def and its table -/
def tabAt (K : PySem.W.Frag) (p : Str × Option Str) : Option (Addr × Addr) := match K.lookup (He.fAd K p) with
  | some ⟨_, _, .func fd, _⟩ => (match fd.code with
    | .ref c => (match K.lookup c with
      | some ⟨_, _, .fields vs, _⟩ => (match (vs[11]? : Option Value) with
        | some (.ref P) => some (c, P)
        | _ => none)
      | _ => none)
    | _ => none)
  | _ => none
def emptyTab (o : Option Obj) : Bool := match o with
  | some ⟨.none, none, .fields vs, sl⟩ => vs.size == 0 && sl.size == 0
  | _ => false
theorem emptyTab_ok {o : Option Obj} (h : emptyTab o = true) : o = some (PySem.W.tabObj #[]) := by
  unfold emptyTab at h
  split at h
  · rename_i vs sl
    simp only [Bool.and_eq_true, beq_iff_eq] at h
    obtain ⟨h1, h2⟩ := h
    have e1 : vs = #[] := Array.eq_empty_of_size_eq_zero h1
    have e2 : sl = #[] := Array.eq_empty_of_size_eq_zero h2
    subst e1; subst e2
    rfl
  · cases h
def tabL (g : Addr → Option Obj) (as : List Addr) (tbs : List (Str × Option Str)) : List Addr := tbs.filterMap fun p => (tabAt (He.frG g as) p).map (·.2)
/-- no list -/
def noList (o : Obj) : Bool := match o.cls with
  | .type c => !(c == "list")
  | _ => true
def asT (g : Addr → Option Obj) (n : Nat) (tbs : List (Str × Option Str)) : List Addr := (He.asD g n).filter fun a => !(tabL g (He.asD g n) tbs).contains a && (match g a with | some o => noList o | none => false)
def tabB (g : Addr → Option Obj) (K : PySem.W.Frag) (p : Str × Option Str) : Bool := match tabAt K p with
  | some (c, P) => PySem.W.codeHdIn K c P && emptyTab (g P) && (K.lookup P).isNone
  | none => false
abbrev AlT : Type := He.AlD × Bool
def obsT (n : Nat) (fa : List He.Fa) (fn : List He.DefD) (tbs : List (Str × Option Str)) (g : Addr → Option Obj) : AlT :=
  (He.obsD fa fn (He.frG g (asT g n tbs)), tbs.all (tabB g (He.frG g (asT g n tbs))) && (He.frG g (asT g n tbs)).all fun p => noList p.2)
def SaysT (tbs : List (Str × Option Str)) (K : PySem.W.Frag) (h : Heap) : Prop := ∀ p ∈ tbs, ∃ c P, tabAt K p = some (c, P) ∧ PySem.W.codeHdIn K c P = true ∧ h.get? P = some (PySem.W.tabObj #[]) ∧ K.lookup P = none
def hookT (n : Nat) (fa : List He.Fa) (fn : List He.DefD) (tbs : List (Str × Option Str)) : PySem.W.Hook where
  α := AlT
  obs := fun s => obsT n fa fn tbs s.heap.get?
  val := fun _ => (He.valD fn, true)
  says := fun _ h => ∃ K : PySem.W.Frag, K.In h ∧ He.SaysD fa fn K ∧ SaysT tbs K h ∧ (K.all fun p => noList p.2) = true
  of := fun _ s e => by
    have e2 : (tbs.all (tabB s.heap.get? (He.frG s.heap.get? (asT s.heap.get? n tbs))) && (He.frG s.heap.get? (asT s.heap.get? n tbs)).all fun p => noList p.2) = true := congrArg (fun z : AlT => z.2) e
    rw [Bool.and_eq_true] at e2
    refine ⟨He.frG s.heap.get? (asT s.heap.get? n tbs), He.frG_in, congrArg (fun z : AlT => z.1) e, fun p hp => ?_, e2.2⟩
    have h := List.all_eq_true.mp e2.1 p hp
    unfold tabB at h
    split at h
    · rename_i c P hc
      simp only [Bool.and_eq_true, Option.isNone_iff_eq_none] at h
      exact ⟨c, P, hc, h.1.1, emptyTab_ok h.1.2, h.2⟩
    · cases h
  keeps := fun _ _ _ ⟨K, hK, c, t, nl⟩ k => ⟨K, PySem.W.Frag.In.keeps hK k, c, (fun p hp => let ⟨a, b, h1, h2, h3, h4⟩ := t p hp; ⟨a, b, h1, h2, k _ _ h3, h4⟩), nl⟩
theorem obsT_eq {n : Nat} {fa : List He.Fa} {fn : List He.DefD} {tbs : List (Str × Option Str)} {g : Addr → Option Obj} {s : Shared} (h : ∀ a, g a = s.heap.get? a) : obsT n fa fn tbs g = (hookT n fa fn tbs).obs s := by
  have e : g = s.heap.get? := funext h
  rw [e] <;> rfl
end Av
end
section
set_option Elab.async false
set_option linter.all false
set_option maxRecDepth 100000
set_option autoImplicit false
set_option maxHeartbeats 4000000
namespace Av
open PySem PySem.Spec PyProof.Rows L2 NdefX
/-- what the written part says of an own exception class with an __init__ -/
structure XiK (Pr : Program) (K : PySem.W.Frag) (mg : Str → Option Value) (C fI cc : Addr) (F : NF) (x0 : Str) : Prop where
  cls : OexC K C
  fo : ∃ oc od osl doc pm ctv, K.lookup fI = some ⟨oc, od, .func (F.fd doc pm ctv), osl⟩
  cl : F.cl = [(("__class__" : Str), cc)]
  hd : (F.params.posonlyargs ++ F.params.args).head?.map (·.arg) = some x0
  codeR : PySem.W.codeIn K (.ref F.c) F.qual = true
  file : ∃ ccl cdd vs ccs file tf, K.lookup F.c = some ⟨ccl, cdd, .fields vs, ccs⟩ ∧ vs[2]? = some (.str file tf) ∧ ((Pr.main.file : Str) == file) = true
  cell : ∃ cl cld csl, K.lookup cc = some ⟨cl, cld, .cell (some (.ref C)), csl⟩
  mro : PySem.W.mroIn K C (.ref C) = some true
  sup : PySem.W.ks_superIn K C C "__init__" = some (some (.builtin "ValueError.__init__"))
  opq : PySem.W.nsIn K cStatics "thirdparty.any" = some none
  veC : PySem.W.subIn K (.ref C) (.type "ValueError") = some true
  msup : mg "super" = none
  top : (Pr.main.scope.names.lookup ("super" : Str)).isSome = false
theorem meth_eq {o : Expr} {name : Str} {apos pos : Pos} {arg : Expr} {env : Env} (hst : nostar arg = true) (hline : (apos.endLine == pos.line) = true) :
    eval (.Call (.Attribute o name apos) [arg] [] pos) env = (do
      let ov ← attributeBase o name env (eval o env)
      standAt apos.atName
      let (f, first) ← holding [ov] (getMethod ov name (do return (← importBound o env).getD true))
      callWith pos f first (backTo pos (starEach [arg] env)) []) := by
  have hns : [arg].all nostar = true := by simp [hst]
  have hform : methodCallForm ([arg].length + ([] : List Keyword).length) (backTo pos (starEach [arg] env)) (backToKw pos (keywordEach [] env)) = true := few_ok hns rfl
  have hpos : methodCallPos true o env apos pos = pure pos := by unfold methodCallPos; simp [hline]
  have hk : backToKw pos (keywordEach [] env) = [] := rfl
  rw [arm_eval_Call]
  unfold methodCall
  rw [hform, hpos, hk]
  rfl
section
variable {CX : CXT} {Pr : Program} {wd : World} {K : PySem.W.Frag} {mg : Str → Option Value} {base : Heap} {N ps : List Str} {F : NF} {C fI cc : Addr} {x0 : Str} {A : Around} {outer : List Env} {s0 : Shared} {H0 : Hp} {Ex : XK}
theorem super_init {pins : List (Addr × Obj)} {σ : L2.St} {H : Hp} {s : Shared} {a : Addr} {ta : TA} {arg : Expr} {body : List Stmt} {p0 p1 p2 p3 p4 : Pos} {Q : Hp → Prop} {fI' : Addr}
    (T : XiK Pr K mg C fI cc F x0) (hks : F.scope.names.lookup ("super" : Str) = some .globalImplicit) (hkc : F.scope.names.lookup ("__class__" : Str) = some .free) (hk0 : F.scope.names.lookup x0 = some .local) (hN : N[0]? = some x0)
    (I : Inv (ncx CX Pr wd K mg base N F fI A outer s0 H0 Ex) pins σ H s) (h0 : σ[0]? = some (some (.ref a))) (ea : H a = some (exo a C none))
    (ha : PA (ncx CX Pr wd K mg base N F fI A outer s0 H0 Ex) [arg] ta) (hst : nostar arg = true) (hline : (p2.endLine == p3.line) = true)
    (hq : ta σ H fun vs H1 => vs.length ≤ 1000 ∧ H1 a = some (exo a C none) ∧ Q H1) :
    _root_.PySem.wpAt (model Pr wd) (A.deeper (envF F fI s0.heap.objs.size)) (.func body (envF F fI s0.heap.objs.size))
      (exec (.Expr (.Call (.Attribute (.Call (.Name "super" p0) [] [] p1) "__init__" p2) [arg] [] p3) p4) (envF F fI s0.heap.objs.size))
      (fun f s' => f = .next ∧ ∃ H1, Inv (ncx CX Pr wd K mg base N F fI A outer s0 H0 Ex) pins σ H1 s' ∧ Q H1) (ncx CX Pr wd K mg base N F fI A outer s0 H0 Ex).xe s := by
  obtain ⟨oc, od, osl, doc, pm, ctv, hf⟩ := T.fo
  obtain ⟨ccl, cdd, vs2, ccs, file, tf, hcode, hvs, hfile⟩ := T.file
  obtain ⟨cl, cld, csl, hcell⟩ := T.cell
  obtain ⟨nm, q, N', bs, bm, sn, sub, ab, col, dd, k0, k1, k2, k3, k5, hC, hbm⟩ := T.cls.cls
  have hcl : PySem.W.clsIn K C = some { name := nm, bases := bs, mro := .ref C :: bm, ns := N', qualname := q, hasDict := true, slotNames := sn, subclasses := sub, abstract := ab, collection := col, hasDel := false } := by unfold PySem.W.clsIn; rw [hC] <;> rfl
  have KX : K.In s.heap := I.kIn
  obtain ⟨ar, har, harx⟩ : ∃ ar, (F.params.posonlyargs ++ F.params.args).head? = some ar ∧ ar.arg = x0 := by
    have := T.hd
    cases e : (F.params.posonlyargs ++ F.params.args).head? with
    | none => rw [e] at this; cases this
    | some ar => rw [e] at this; exact ⟨ar, rfl, Option.some.inj this⟩
  obtain ⟨m, hns, hloc⟩ := I.loc
  have hself : m x0 = some (.ref a) := by
    obtain ⟨u, ru, lk⟩ := hloc 0 x0 (.ref a) hN h0 (.inl hk0)
    obtain rfl : u = Value.ref a := ru
    rcases lk with ⟨_, e⟩ | ⟨e, _⟩
    · exact e
    · have e : F.scope.names.lookup x0 = some .cell ∨ F.scope.names.lookup x0 = some .free := e
      rw [hk0] at e
      rcases e with e | e <;> cases e
  obtain ⟨t1, ho⟩ := exo_at I.hok ea
  have hx : PySem.W.InstAt s.heap a ({ cls := .ref C, dict := none, data := .fields #[.ref t1, .none, .none, .none, .bool false, .none] } : Obj) C none := ⟨ho, rfl, rfl, trivial⟩
  have hkind : F.scope.kind = .function := I.ok.kind
  refine ks_wpAt_Expr_any (ks_wpAt_MethodCall ?_ (meth_eq hst hline)) (by unfold interactive; show (F.scope.kind == .module && _) = false; rw [hkind]; rfl) rfl
  refine ks_wpAt_super_base (env := envF F fI s0.heap.objs.size) hks hkc rfl rfl (KX _ _ hf) rfl har rfl (KX _ _ hcode) rfl hvs hfile T.top ?_
  obtain ⟨mb, b1, b2⟩ := I.mod.blt
  refine PySem.W.ks_loadName_global I.ok.kind hks (Calls.loadGlobal_builtin (show s.heap.Ns mainGlobals mg from I.mod.glob.keeps I.bk) T.msup (show s.heap.Ns builtinsNs mb from b1.keeps I.bk) ((b2 "super" (by decide)).trans (by decide +kernel)) ⟨rfl, ?_⟩)
  refine wpAny_loadName_free I.ok.kind hkc (show (F.cl).lookup ("__class__" : Str) = some cc by rw [T.cl]; rfl) ⟨_, KX _ _ hcell, rfl⟩ ?_
  rw [harx]
  refine wpAny_loadName_local I.ok.kind hk0 hns hself ?_
  refine ks_wpAny_isType_cls (KX _ _ hC) rfl ⟨rfl, ?_⟩
  obtain ⟨hp, g, d, t, os⟩ := s
  refine ks_wpAny_call_super (KX _ _ hC) rfl ho rfl (fun c z => by cases z) (PySem.W.looks_mroIn KX T.mro) fun h' eso kk => ?_
  have KX2 : K.In h' := KX.keeps kk
  have I2 : Inv (ncx CX Pr wd K mg base N F fI A outer s0 H0 Ex) pins σ H ⟨h', g, d, t, os⟩ := I.kept (t' := t) kk
  obtain ⟨t2, ho2⟩ := exo_at I2.hok ea
  have hx2 : PySem.W.InstAt h' a ({ cls := .ref C, dict := none, data := .fields #[.ref t2, .none, .none, .none, .bool false, .none] } : Obj) C none := ⟨ho2, rfl, rfl, trivial⟩
  have hsup := T.sup
  unfold PySem.W.ks_superIn at hsup
  rw [hcl] at hsup
  refine PySem.W.kxs_getMethod PySem.W.kxs_ValueError eso (PySem.W.looks_opaque KX2 T.opq) (fun A Q E s k q => wpAny_bind ((PySem.W.looks_clsIn KX2 hcl) A _ E s k (wpAny_pure q))) rfl KX2 hsup (hx2.type.andThen (PySem.W.looks_subIn KX2 T.veC)) (PySem.W.ks_ne KX2 hx2 hcl) (by decide) ?_
  have I3 : Inv (ncx CX Pr wd K mg base N F fI A outer s0 H0 Ex) pins σ H ⟨h'.push (PySem.W.kxs_mw "ValueError.__init__" a), g, d, t + 1, os⟩ := I2.kept (t' := t + 1) fun b o e => Heap.get?_push_of_some _ e
  have hmw : (h'.push (PySem.W.kxs_mw "ValueError.__init__" a)).get? h'.objs.size = some (PySem.W.kxs_mw "ValueError.__init__" a) := Heap.get?_push_at rfl rfl
  have I4 : Inv (ncx CX Pr wd K mg base N F fI A outer s0 H0 Ex) ((h'.objs.size, PySem.W.kxs_mw "ValueError.__init__" a) :: pins) σ H ⟨h'.push (PySem.W.kxs_mw "ValueError.__init__" a), g, d, t + 1, os⟩ :=
    I3.pins_of fun p hp => by
      rcases List.mem_cons.mp hp with rfl | hp
      · exact ⟨hmw, I2.hok.fresh (Nat.le_refl _), Nat.ne_of_gt I2.lt, I2.nofs (Nat.le_refl _), fun v z => by cases z⟩
      · exact I3.pin p (List.mem_append_right _ hp)
  have hst2 : starEach [arg] (envF F fI s0.heap.objs.size) = (false, eval arg (envF F fI s0.heap.objs.size)) :: starEach [] (envF F fI s0.heap.objs.size) := star1 hst
  show wpAny _ _ (callWith p3 (.ref h'.objs.size) [] (backTo p3 (starEach [arg] (envF F fI s0.heap.objs.size))) []) _ _ _
  have hrun := ha.run p3 _ _ σ H _ I4 hq
  have hrun : wpAny (model Pr wd) (A.deeper (envF F fI s0.heap.objs.size)) (spliced (backTo p3 (starEach [arg] (envF F fI s0.heap.objs.size)))) _ _ _ := hrun
  rw [hst2] at hrun ⊢
  refine PySem.W.kxs_callWith (i := "ValueError.__init__") (x := a) rfl ?_
  refine Calls.evalArgs_plain (thn hrun fun us s2 ⟨vs, H1, I5, r5, hl5, ea5, q5⟩ => ?_)
  obtain ⟨hu, _⟩ := I5.pin (h'.objs.size, PySem.W.kxs_mw "ValueError.__init__" a) (List.mem_append_right _ List.mem_cons_self)
  refine ⟨hu, ?_⟩
  show wpAny _ _ (call (.ref h'.objs.size) us) _ _ _
  have hus : us.length ≤ sizeLine := by
    rw [← Paired.length r5, sizeLine_eq]
    omega
  obtain ⟨t5, ho5⟩ := exo_at I5.hok ea5
  obtain ⟨hp5, g5, d5, tk5, os5⟩ := s2
  refine wpAny_call (codeAny_of_tree ?_)
  show wpAny _ (A.deeper (envF F fI s0.heap.objs.size)).in1 (callAny (.ref h'.objs.size) ⟨us, []⟩) _ _ _
  simp only [callAny]
  refine wpAny_bind (wpAny_load hu ?_)
  simp only [PySem.W.kxs_mw, show (Value.type "method-wrapper" == Value.type "method" || Value.type "method-wrapper" == Value.type "builtin_function_or_method" || Value.type "method-wrapper" == Value.type "method-wrapper") = true by decide, if_true]
  refine PySem.W.KFB.if_so (by decide) ?_
  refine wpAny_bind (PySem.W.check_bound_init PySem.F.excBase_ValueError.toExcCallFacts (I5.kIn _ _ hC) ho5 rfl ?_)
  refine wpAny_bind (wpAny_pure (wpAny_pure ?_))
  refine ⟨plainId_quiet PySem.F.excBase_ValueError.init.plain _, codeAny_builtin PySem.F.excBase_ValueError.initEntry ?_⟩
  refine PySem.W.exc_init_tree (cls := .ref C) (t0 := t5) (dv := none) (c2 := .none) (c3 := .none) (b4 := .bool false) ho5 hus fun h6 k6 e6 _ => ?_
  have J := I5.write (t' := tk5) (x := a) (e := a) (o := exo a C none) (by rw [ea5]; exact True.intro) (.inl rfl) k6 ⟨_, e6⟩ (exo_ok e6)
  have eu : upd H1 a (exo a C none) = H1 := by
    funext b
    by_cases hb : b = a
    · rw [hb, upd_same, ea5]
    · rw [upd_ne hb]
  rw [eu] at J
  exact ⟨trivial, H1, J.pins_of (fun p hp => J.pin p (List.mem_append_right _ (List.mem_cons_of_mem _ hp))), q5⟩
end
end Av
end
section
set_option Elab.async false
set_option linter.all false
set_option maxRecDepth 100000
set_option autoImplicit false
set_option maxHeartbeats 4000000
namespace Av
open PySem PySem.Spec PyProof.Rows L2 NdefX
section
variable {S : SE} {E : ED} {w w' : Wd} {ro m m' : Mem} {H H' : Hp}
open Classical in
noncomputable def Wd.keep (S : SE) (w : Wd) (H : Hp) : Wd := { w with hd := fun b => match w.hd b with
  | some o => some o
  | none => if w.fz b = none ∧ (∀ n, w.io n ≠ some b) ∧ b ∉ S.tb then (match H b with | some (.tup _) => none | o => o) else none }
theorem keep_old {b : Addr} {o : HO} (e : w.hd b = some o) : (w.keep S H).hd b = some o := by
  unfold Wd.keep
  simp only [e]
theorem keep_yes {b : Addr} (e : w.hd b = none) (h : w.fz b = none ∧ (∀ n, w.io n ≠ some b) ∧ b ∉ S.tb) : (w.keep S H).hd b = (match H b with | some (.tup _) => none | o => o) := by
  unfold Wd.keep
  simp only [e, if_pos h]
theorem keep_no {b : Addr} (e : w.hd b = none) (h : ¬ (w.fz b = none ∧ (∀ n, w.io n ≠ some b) ∧ b ∉ S.tb)) : (w.keep S H).hd b = none := by
  unfold Wd.keep
  simp only [e, if_neg h]
theorem keep_hd {b : Addr} {o : HO} (hr : HR S w ro m H) (e : (w.keep S H).hd b = some o) : H b = some o ∧ w.fz b = none ∧ (∀ n, w.io n ≠ some b) ∧ b ∉ S.tb ∧ ∀ vs, o ≠ .tup vs := by
  cases z : w.hd b with
  | some u =>
    rw [keep_old z] at e; cases e
    exact ⟨hr.hld b _ z, hr.hsf b _ z, fun n => hr.hsi b _ n z, fun ht => (by rw [(hr.tab b ht).2.1] at z; cases z), hr.hdt b _ z⟩
  | none =>
    by_cases h : w.fz b = none ∧ (∀ n, w.io n ≠ some b) ∧ b ∉ S.tb
    · rw [keep_yes z h] at e
      split at e
      · cases e
      · rename_i hn
        exact ⟨e, h.1, h.2.1, h.2.2, fun vs hv => hn vs (by rw [e, hv])⟩
    · rw [keep_no z h] at e; cases e
theorem HR.keep (hr : HR S w ro m H) : HR S (w.keep S H) ro m H where
  len := hr.len
  live := fun n o e => let ⟨a, h1, h2⟩ := hr.live n o e; ⟨a, h1, ObR.sub (w := w) (w' := w.keep S H) ⟨fun _ _ h => h, fun _ _ h => h, fun _ _ h => h⟩ rfl rfl h2⟩
  inj := hr.inj
  sep := hr.sep
  fz := fun a o e => (hr.fz a o e).sub rfl rfl
  lkd := hr.lkd
  unl := hr.unl
  lkl := hr.lkl
  hld := fun a o e => (keep_hd hr e).1
  hsf := fun a o e => (keep_hd hr e).2.1
  hdt := fun a o e => (keep_hd hr e).2.2.2.2
  hsi := fun a o n e => (keep_hd hr e).2.2.1 n
  cur := hr.cur
  tab := fun P hP => ⟨(hr.tab P hP).1, (by
    cases e : (w.keep S H).hd P with
    | none => rfl
    | some o => exact absurd hP (keep_hd hr e).2.2.2.1), (hr.tab P hP).2.2⟩
/-- what was there is there -/
theorem keep_some (hr : HR S w ro m H) (l : ((w.all H).keep S H).Le w') (hr' : HR S w' ro m' H') {b : Addr} (e : H b ≠ none) : H' b ≠ none := by
  cases q : H b with
  | none => exact absurd q e
  | some o =>
    have hra := hr.all
    by_cases h1 : (w.all H).fz b = none
    · by_cases h2 : ∀ n, (w.all H).io n ≠ some b
      · by_cases h3 : b ∈ S.tb
        · obtain ⟨_, _, ps, e2, _⟩ := hr'.tab b h3
          rw [e2]; simp
        · have ht : ∀ vs, o ≠ .tup vs := fun vs z => by
            subst z
            rw [Wd.all_at hr q] at h1; cases h1
          have : ((w.all H).keep S H).hd b = some o := by
            cases z : (w.all H).hd b with
            | some u => have := hra.hld b u z; rw [q] at this; cases this; exact keep_old z
            | none =>
              rw [keep_yes z ⟨h1, h2, h3⟩, q]
              cases o with
              | tup vs => exact absurd rfl (ht vs)
              | _ => rfl
          rw [← l.hd] at this
          rw [hr'.hld b o this]; simp
      · obtain ⟨n, hn⟩ := Classical.not_forall.mp h2
        have hn : w.io n = some b := Classical.not_not.mp hn
        have hn2 := l.io n b hn
        have hl := hr'.len n b hn2
        obtain ⟨c, k1, k2⟩ := hr'.live n _ (List.getElem?_eq_getElem hl)
        rw [hn2] at k1; cases k1
        obtain ⟨u, k3⟩ := k2.some
        rw [k3]; simp
    · obtain ⟨u, hu⟩ := Option.ne_none_iff_exists'.mp h1
      obtain ⟨x, k3⟩ := (hr'.fz b u (l.fz b u hu)).some
      rw [k3]; simp
/-- another heap, alike but where nothing is known -/
theorem HR.agree (hr : HR S w ro m H) (h : ∀ b, H' b = H b ∨ (w.fz b = none ∧ (∀ n, w.io n ≠ some b) ∧ b ∉ S.tb ∧ w.lk b = none ∧ w.hd b = none)) : HR S w ro m H' := by
  have at_ : ∀ {a : Addr}, ¬ (w.fz a = none ∧ (∀ n, w.io n ≠ some a) ∧ a ∉ S.tb ∧ w.lk a = none ∧ w.hd a = none) → H' a = H a := fun hn => (h _).resolve_right hn
  refine ⟨hr.len, fun n o e => ?_, hr.inj, hr.sep, fun a o e => ?_, fun a p e => ?_, hr.unl, hr.lkl, fun a o e => ?_, hr.hsf, hr.hdt, hr.hsi, fun P hP => ?_, hr.cur⟩
  · obtain ⟨a, h1, h2⟩ := hr.live n o e
    exact ⟨a, h1, h2.sub (.refl w) rfl (at_ fun z => z.2.1 n h1)⟩
  · exact (hr.fz a o e).sub rfl (at_ fun z => by rw [z.1] at e; cases e)
  · rw [at_ fun z => by rw [z.2.2.2.1] at e; cases e]; exact hr.lkd a p e
  · rw [at_ fun z => by rw [z.2.2.2.2] at e; cases e]; exact hr.hld a o e
  · obtain ⟨h1, h2, ps, h3, h4⟩ := hr.tab P hP
    exact ⟨h1, h2, ps, by rw [at_ fun z => z.2.2.1 hP]; exact h3, h4⟩
end
/-- what such an __init__ does: H the heap, a the exception, the message told by the core ce -/
def spX (S : SE) (P : Pm) (ce : CE) (C : Addr) (f1 f2 : Str) : Sp := fun vs H Q _ => ∃ (w : Wd) (ro m : Mem) (a : Addr) (d1 d2 : D) (v1 v2 : V) (x : D) (m2 : Mem), vs = [.ref a, v1, v2] ∧ w.cur = none ∧ HR S w ro m H ∧ w.hd a = some (exo a C none) ∧ RelD w d1 v1 ∧ RelD w d2 v2 ∧
  ev P ro ce [none, some d1, some d2, none] m = .ok x m2 ∧ ∀ w' H', w.Le w' → HR S w' ro m2 H' → ∀ dx, H' dx = none → dx ≠ a → Q .non (upd (upd (upd H' dx (exd dx [(f1, v1)])) a (exo a C (some dx))) dx (exd dx [(f2, v2), (f1, v1)]))
end Av
end
section
set_option Elab.async false
set_option linter.all false
set_option maxRecDepth 100000
set_option autoImplicit false
set_option maxHeartbeats 4000000
namespace Av
open PySem PySem.Spec PyProof.Rows L2
/-- what is known of an exception class that the text names x -/
structure XcOk (Pr : Program) (wd : World) (S : SE) (E : ED) (P : Pm) (mg : Str → Option Value) (base : Heap) (c : Nat) (x : Str) : Prop where
  ok : ∃ (fI : Addr) (fd : FuncData) (ps : List Str) (ce : CE) (f1 f2 : Str), E.xn c = [f1, f2] ∧ P.xm c = some ce ∧ OexC S.K (E.xa c) ∧ PySem.W.findIn S.K (.ref (E.xa c)) "__init__" = some (some (.ref fI)) ∧ PySem.W.typeIn S.K (.ref fI) = some (.type "function") ∧
    FnOk Pr wd S.K mg base (L2.CX Pr wd) 1 fI fd ps (spX S P ce (E.xa c) f1 f2) ∧ Binds S.K fd ps [] ∧ mg x = some (.ref (E.xa c))
section
variable {S : SE} {E : ED} {W : WX} {P : Pm} {ro : Mem} {X : Cx} {a b : Expr} {cs : List CE} {w w1 : Wd} {m m1 : Mem} {H H1 : Hp} {σ : L2.St} {σ' : Sl}
theorem keep_sub {w : Wd} : w.Sub (w.keep S H) := ⟨fun _ _ h => h, fun _ _ h => h, fun _ _ h => h⟩
theorem l_raise {c : Nat} {x : Str} {p pos pos' : Pos} (G : XG S X) (hc : XcOk X.prog X.w S E P X.mg X.base c x) (tk : Takes X W) (hr2 : Room 2 X.A) (hg : Gl X x) (ha : PA X [a, b] (xA S E W P ro cs)) (hl : cs.length = 2) (hst : nostar a = true ∧ nostar b = true)
    (hdb : (x == ("__debug__" : Str)) = false) : PS X (.Raise (some (.Call (.Name x p) [a, b] [] pos)) none pos') (xS1 S E W P ro (.rai c cs)) := by
  obtain ⟨fI, fd, ps, ce, f1, f2, hn, hxm, T, iC, tI, F1, hb, hm⟩ := hc.ok
  have hK := G.K
  rw [← hK] at T iC tI hb
  have F1' : FnOk X.prog X.w X.K X.mg X.base (L2.CX X.prog X.w) 1 fI fd ps (spX S P ce (E.xa c) f1 f2) := by rw [hK]; exact F1
  refine imS (ps_raise G.calm tk (pmk_oex (dvs := []) T iC tI F1' hr2 hb .nil (passes_call tk fun _ _ _ _ z => z.elim) hg hm ha hdb (star1 hst.1) (plain_any (by simp [hst.2])))) fun De σ H ⟨w, σ', m, sr, hr, f⟩ => ?_
  rw [ex] at f
  refine ⟨w, σ', m, sr, hr, ?_⟩
  cases hev0 : evs P ro cs σ' m with
  | stuck => rw [hev0] at f; exact f
  | exc y m1 => rw [hev0] at f; exact fun w1 cls dd H1 l hr1 r1 => f w1 cls dd σ H1 l (sr.mono l) hr1 r1
  | ok ds m1 =>
  rw [hev0] at f
  intro w1 vs H1 l1 hr1 rs
  have f := FinS.mono l1 f
  have f : FinS S E W ro w1 De (match P.xm c with
    | some e => ((ev P ro e (none :: (ds.map some ++ [none])) m1).up σ').still fun _ st2 => if plains ds then .exc ⟨c, ds⟩ st2 else .stuck
    | none => .stuck) := f
  rw [hxm] at f
  dsimp only at f
  have hdl : ds.length = 2 := (evs_len _ _ _ _ _ hev0).trans hl
  match ds, hdl, rs with
  | [d1, d2], _, .cons (v := v1) r1 (.cons (v := v2) r2 .nil) =>
  cases hev : ev P ro ce (none :: ([d1, d2].map some ++ [none])) m1 with
  | stuck => rw [hev] at f; exact f.elim
  | exc y st => rw [hev] at f; exact f.elim
  | ok x m2 =>
  rw [hev] at f
  have f : FinS S E W ro w1 De (if plains [d1, d2] = true then (.exc ⟨c, [d1, d2]⟩ ⟨σ', m2⟩ : R Fr Fl) else .stuck) := f
  by_cases hp : plains [d1, d2] = true
  · rw [if_pos hp] at f
    refine ⟨by simp, fun q hq => ?_⟩
    have nfz := hr1.nofz hq
    have nio := hr1.noio hq
    have nlk := hr1.nolk hq
    have ntb : q ∉ S.tb := fun z => by obtain ⟨_, _, ps, e, _⟩ := hr1.tab q z; rw [hq] at e; cases e
    have nhd : w1.hd q = none := by
      cases e : w1.hd q with
      | none => rfl
      | some o => have := hr1.hld q o e; rw [hq] at this; cases this
    have hra : HR S w1 ro m1 (upd H1 q (exo q (E.xa c) none)) := hr1.agree fun b => by
      by_cases hb : b = q
      · subst hb; exact .inr ⟨nfz, nio, ntb, nlk, nhd⟩
      · exact .inl (upd_ne hb)
    have sub : w1.Sub ((w1.all (upd H1 q (exo q (E.xa c) none))).keep S (upd H1 q (exo q (E.xa c) none))) := Wd.all_le.sub.trans keep_sub
    have hq2 : ((w1.all (upd H1 q (exo q (E.xa c) none))).keep S (upd H1 q (exo q (E.xa c) none))).hd q = some (exo q (E.xa c) none) := by
      rw [keep_yes (w := w1.all (upd H1 q (exo q (E.xa c) none))) nhd ⟨?_, nio, ntb⟩, upd_same]
      · rfl
      · show (match w1.fz q with | some o => some o | none => match upd H1 q (exo q (E.xa c) none) q with | some (.tup vs) => some (.tup vs) | _ => none) = none
        rw [nfz, upd_same]; rfl
    refine ⟨(w1.all (upd H1 q (exo q (E.xa c) none))).keep S (upd H1 q (exo q (E.xa c) none)), ro, m1, q, d1, d2, v1, v2, x, m2, rfl, hr1.cur.trans G.cur, hra.all.keep, hq2, r1.sub sub, r2.sub sub, hev, fun w' H' l hr' dx hdx hne => ?_⟩
    have hH1 : H1 dx = none := Classical.byContradiction fun z => keep_some hra l hr' (by rw [upd_ne hne]; exact z) hdx
    refine ⟨rfl, dx, _, by rw [upd_ne hne.symm, upd_same], upd_same, hH1, ?_⟩
    have hlk : w'.lk = w1.lk := l.lk
    have hhd : ∀ a o, w1.hd a = some o → w'.hd a = some o := fun a o e => by rw [l.hd]; exact keep_old (w := w1.all (upd H1 q (exo q (E.xa c) none))) e
    have hq' : w'.hd q = some (exo q (E.xa c) none) := by rw [l.hd]; exact hq2
    have s3 : w1.Sub { w' with hd := w1.hd } := ⟨fun n a e => l.io n a (sub.io n a e), fun a o e => l.fz a o (sub.fz a o e), fun a o e => l.xe a o (sub.xe a o e)⟩
    refine f { w' with hd := w1.hd } (.ref (E.xa c)) (some dx) σ _ ⟨s3.io, s3.fz, s3.xe, hlk, l.ll, rfl, l.cur⟩ ((sr.mono l1).sub s3 l.cur) ((hr'.hdw hhd).agree fun b => ?_) ⟨rfl, dx, [v1, v2], rfl, ?_, .cons (r1.sub s3) (.cons (r2.sub s3) .nil), (by rw [hn]; rfl), hp, ?_⟩
    · by_cases hbd : b = dx
      · subst hbd
        refine .inr ⟨hr'.nofz hdx, hr'.noio hdx, fun z => ?_, hr'.nolk hdx, ?_⟩
        · obtain ⟨_, _, ps, e, _⟩ := hr'.tab b z; rw [hdx] at e; cases e
        · show w1.hd b = none
          cases e : w1.hd b with
          | none => rfl
          | some o => have := hr'.hld b o (hhd b o e); rw [hdx] at this; cases this
      · by_cases hbq : b = q
        · subst hbq
          exact .inr ⟨hr'.hsf b _ hq', fun n => hr'.hsi b _ n hq', ntb, by show w'.lk b = none; rw [hlk]; exact nlk, nhd⟩
        · exact .inl (by rw [upd_ne hbd, del_ne hbq, upd_ne hbd, upd_ne hbq, upd_ne hbd])
    · show upd _ dx _ dx = _
      rw [upd_same, hn]
      rfl
    · show w1.hd dx = none
      cases e : w1.hd dx with
      | none => rfl
      | some o => have := hr'.hld dx o (hhd dx o e); rw [hdx] at this; cases this
  · rw [if_neg hp] at f; exact f.elim
end
end Av
end
section
set_option Elab.async false
set_option linter.all false
set_option maxRecDepth 100000
set_option autoImplicit false
set_option maxHeartbeats 4000000
namespace Av
open PySem PySem.Spec PyProof.Rows L2
/-- where the exception at a, its dict at dd, is in hand in slot i -/
def SE.at_ (S : SE) (E : ED) (i : Nat) (a : Addr) (c : Nat) (dd : Addr) : SE := { S with cur := some (i, a, c, E.xn c, dd) }
section
variable {S : SE} {E : ED} {W : WX} {P : Pm} {ro : Mem} {X : Cx} {w w1 : Wd} {m m1 : Mem} {H H1 : Hp} {σ : L2.St} {σ' : Sl}
theorem zip_lookup : ∀ {ns : List Str} {vs : List V} {j : Nat} {f : Str} {v : V}, ns.Nodup → ns[j]? = some f → vs[j]? = some v → ns.length = vs.length → (ns.zip vs).reverse.lookup f = some v
  | [], _, _, _, _, _, h, _, _ => by simp at h
  | _ :: _, [], _, _, _, _, _, h, _ => by simp at h
  | n :: ns, u :: vs, 0, f, v, nd, h1, h2, hl => by
    simp at h1 h2
    subst h1 h2
    have hn : (ns.zip vs).reverse.lookup n = none := by
      cases e : (ns.zip vs).reverse.lookup n with
      | none => rfl
      | some z => exact absurd (List.of_mem_zip (List.mem_reverse.mp (PySem.mem_of_lookup e))).1 (List.nodup_cons.mp nd).1
    rw [List.zip_cons_cons, List.reverse_cons, List.lookup_append, hn]
    simp [List.lookup]
  | n :: ns, u :: vs, j + 1, f, v, nd, h1, h2, hl => by
    have e := zip_lookup (j := j) (List.nodup_cons.mp nd).2 (by simpa using h1) (by simpa using h2) (by simpa using hl)
    rw [List.zip_cons_cons, List.reverse_cons, List.lookup_append, e]
    rfl
/-- e.f -/
theorem l_xat {X0 : Cx} {a dd : Addr} {oe : Obj} {pn : List (Addr × Obj)} {c i k : Nat} {x f : Str} {p pos : Pos} (hX : X = X0.suite a ((a, oe) :: pn)) (hz : Zc (.ref (E.xa c)) (some dd) oe) (hf : ∃ vs, oe.data = .fields vs)
    (hK : X.K = S.K) (hcur : S.cur = some (i, a, c, E.xn c, dd)) (hN : X.N[i]? = some x) (hv : Vis X.env.scope x) (hd : (x == ("__debug__" : Str)) = false) (hcd : (x == ("__classdict__" : Str)) = false)
    (hx : ∀ j, P.xf c k = some j → (E.xn c)[j]? = some f ∧ (E.xn c).Nodup ∧ XfC S.K (E.xa c) ∧ PySem.W.findIn S.K (.ref (E.xa c)) f = some none) :
    PE X (.Attribute (.Name x p) f pos) (xE S E W P ro (.xat i k)) := by
  cases hj : P.xf c k with
  | none =>
    refine ⟨fun pins s σ H Q I ⟨w, σ', m, sr, hr, q⟩ => ?_⟩
    rw [ev] at q
    split at q
    · rename_i c' fs e
      have hwc := hr.cur.trans hcur
      obtain ⟨_, rfl, _⟩ := sr.pin i a c _ dd c' fs hwc e
      rw [hj] at q
      exact q.elim
    · exact q.elim
  | some j =>
  obtain ⟨h1, h2, T, hno⟩ := hx j hj
  subst hX
  refine imE (pe_xf (X := X0) (a := a) (oe := oe) (cls := .ref (E.xa c)) (d := some dd) (C := E.xa c) (pn := pn) (n := f) (by rw [show X0.K = S.K from hK]; exact T) (by rw [show X0.K = S.K from hK]; exact hno) hz hf (pe_var (i := i) hN hv hd hcd) (base_ok rfl)) fun σ H Q ⟨w, σ', m, sr, hr, q⟩ => ?_
  rw [ev] at q
  split at q
  · rename_i c' fs e
    have hwc := hr.cur.trans hcur
    obtain ⟨e1, rfl, vs, e2, e3, e4⟩ := sr.pin i a c _ dd c' fs hwc e
    rw [hj] at q
    cases hfj : fs[j]? with
    | none => rw [Option.bind_some, hfj] at q; exact q.elim
    | some d =>
      rw [Option.bind_some, hfj] at q
      obtain ⟨v, hvj, rv⟩ := e4.get hfj
      refine ⟨.ref a, e1, rfl, rfl, dd, _, v, rfl, hr.dir (hr.fz _ _ e2) (fun _ z => nomatch z) (fun _ z => nomatch z), zip_lookup h2 h1 hvj (e3.trans e4.length), q w v H (.refl w) hr rv⟩
  · exact q.elim
/-- an exception's dict is frozen -/
theorem frz_fz {dd : Addr} {l : List (Str × V)} (hr : HR S w ro m H) (e : H dd = some (.xd l)) : ∀ a o, w.fz a = some o → upd w.fz dd (.xd l) a = some o := fun a o h => by
  by_cases ha : a = dd
  · subst ha
    rw [upd_same]
    have q := hr.fz a o h
    unfold At at q
    cases z : w.lk a with
    | none => rw [z] at q; have q : H a = some o := q; rw [e] at q; exact q
    | some ob => rw [z] at q; have q : H a = some (.frz ob.1 o) := q; rw [e] at q; cases q
  · rw [upd_ne ha]; exact h
theorem HR.frz {dd : Addr} {l : List (Str × V)} (hr : HR S w ro m H) (e : H dd = some (.xd l)) (hh : w.hd dd = none) : HR S { w with fz := upd w.fz dd (.xd l) } ro m H := by
  have sub : w.Sub { w with fz := upd w.fz dd (.xd l) } := ⟨fun _ _ h => h, frz_fz hr e, fun _ _ h => h⟩
  have nlk : w.lk dd = none := by
    cases z : w.lk dd with
    | none => rfl
    | some ob => have := (hr.lkd dd ob z).1; rw [e] at this; cases this
  refine ⟨hr.len, fun n o h => ?_, hr.inj, fun n a h => ?_, fun a o h => ?_, hr.lkd, hr.unl, hr.lkl, hr.hld, fun a o h => ?_, hr.hdt, hr.hsi, fun P hP => ?_, hr.cur⟩
  · obtain ⟨a, h1, h2⟩ := hr.live n o h
    exact ⟨a, h1, h2.sub sub rfl rfl⟩
  · have h : w.io n = some a := h
    show upd w.fz dd (.xd l) a = none
    by_cases ha : a = dd
    · subst ha
      obtain ⟨b, h1, h2⟩ := hr.live n _ (List.getElem?_eq_getElem (hr.len n a h))
      rw [h] at h1; cases h1
      exfalso
      generalize (ro ++ m)[n]'(hr.len n a h) = ob at h2
      match ob, h2 with
      | .lst ds, ⟨_, _, vs, h3, _⟩ => rw [e] at h3; cases h3
      | .dct kvs, ⟨_, o, h3, h4⟩ => unfold At at h3; rw [nlk] at h3; have h3 : H a = some o := h3; rw [e] at h3; cases h3; cases h4
      | .ins c fs, ⟨_, _, dx, vs, h3, _⟩ => rw [e] at h3; cases h3
      | .lk (.lst ds), ⟨_, _, vs, h3, _⟩ => rw [e] at h3; cases h3
      | .lk (.dct kvs), ⟨_, o, h3, h4⟩ => unfold At at h3; rw [nlk] at h3; have h3 : H a = some o := h3; rw [e] at h3; cases h3; cases h4
      | .lk (.ins _ _), h => exact h.elim
      | .lk (.lk _), h => exact h.elim
    · rw [upd_ne ha]; exact hr.sep n a h
  · have h : upd w.fz dd (.xd l) a = some o := h
    by_cases ha : a = dd
    · subst ha
      rw [upd_same] at h; cases h
      exact At.of e nlk
    · rw [upd_ne ha] at h
      exact (hr.fz a o h).sub rfl rfl
  · have h : w.hd a = some o := h
    show upd w.fz dd (.xd l) a = none
    rw [upd_ne (fun z => by rw [z, hh] at h; cases h)]
    exact hr.hsf a o h
  · obtain ⟨h1, h2, ps, h3, h4⟩ := hr.tab P hP
    exact ⟨by show upd w.fz dd (.xd l) P = none; rw [upd_ne (fun z => by rw [z, e] at h3; cases h3)]; exact h1, h2, ps, h3, h4⟩
theorem at_none {i : Nat} {a : Addr} {c : Nat} {dd : Addr} (h : S.cur = none) : ({ (S.at_ E i a c dd) with cur := none } : SE) = S := by
  unfold SE.at_
  cases S
  cases h
  rfl
/-- try: .. except C as e: .. -/
theorem ls_try_as {c i : Nat} {x n : Str} {body suite : List Stmt} {b₀ : Stmt} {np pos pos' : Pos} {cb ch : List CS} (G : XG S X) (hs : X.stack = X.env :: X.outer) (hf : X.env.frame = some X.env.locals) (hi : X.N[i]? = some n) (hln : X.env.kindOf n = some .local) (hc : Names X x (.ref (E.xa c))) (tk : Takes X W)
    (hex : ∀ c', PySem.W.exmOne S.K (.ref (E.xa c')) (.ref (E.xa c)) = some (P.xsub c' c))
    (hb : ∀ (W : WX) (pn : List (Addr × Obj)) (xe : Value → Shared → Prop), Takes (X.tr pn xe) W → PassesOwn (model X.prog X.w) X.A X.env xe → PSs (X.tr pn xe) body (xSs S E W P ro cb))
    (hsu : ∀ (a : Addr) (oe : Obj) (dd : Addr) (pn : List (Addr × Obj)) (c' : Nat), Zc (.ref (E.xa c')) (some dd) oe → (∃ vs, oe.data = .fields vs) → PSs (X.suite a ((a, oe) :: pn)) (b₀ :: suite) (xSs (S.at_ E i a c' dd) E W0 P ro ch)) :
    PS X (.Try body [.ExceptHandler (some (.Name x np)) (some n) (b₀ :: suite) pos'] [] [] pos) (xS1 S E W P ro (.try_ cb [.mk c (some i) ch])) := by
  refine imS (ps_try_as (tb := fun W' => xSs S E W' P ro cb) (ts := fun a cls d D σ H => ∃ c' dd, cls = .ref (E.xa c') ∧ d = some dd ∧ xSs (S.at_ E i a c' dd) E W0 P ro ch D σ H) hs hf G.nd hi hln hc tk hb (fun a oe cls d pn hz hfl => ⟨fun pins s σ H D I ⟨c', dd, e1, e2, q⟩ => by subst e1 e2; exact (hsu a oe dd pn c' hz hfl).run pins s σ H D I q⟩)) fun De σ H ⟨w, σ', m, sr, hr, f⟩ => ?_
  rw [ex] at f
  refine ⟨w, σ', m, sr, hr, ?_⟩
  cases e : exs P ro cb ⟨σ', m⟩ with
  | stuck => rw [e] at f; exact f
  | ok fl st => rw [e] at f; exact f
  | exc y st =>
    rw [e] at f
    intro w1 cls dd σ1 H1 l1 sr1 hr1 rx
    obtain ⟨rfl, d, vs, rfl, hd, rs, hl, hp, hh⟩ := rx
    have f : FinS S E W ro w De (exH P ro [.mk c (some i) ch] y st) := f
    rw [exH] at f
    refine ⟨P.xsub y.c c, by rw [G.K]; exact hex y.c, fun hb a ha => ?_, fun hb => ?_⟩
    · rw [show hdC (.mk c (some i) ch) = c from rfl, hb, if_pos rfl, exHd] at f
      have hw1 : w1.cur = none := hr1.cur.trans G.cur
      have s2 : w1.Sub { w1 with fz := upd w1.fz d (.xd ((E.xn y.c).zip vs).reverse), cur := some (i, a, y.c, E.xn y.c, d) } := ⟨fun _ _ h => h, frz_fz hr1 hd, fun _ _ h => h⟩
      refine ⟨y.c, d, rfl, rfl, { w1 with fz := upd w1.fz d (.xd ((E.xn y.c).zip vs).reverse), cur := some (i, a, y.c, E.xn y.c, d) }, st.sl.set i (some (.exn y.c y.fs)), st.m, ⟨by simp [sr1.len], fun j d' h => ?_, fun i' a' c' nms dd' c'' fs'' h h' => ?_⟩, (hr1.frz hd hh).curw, ?_⟩
      · by_cases hj : i = j
        · subst hj
          have hi' : i < st.sl.length := by
            have := (List.getElem?_eq_some_iff.mp h).1
            simpa using this
          rw [List.getElem?_set_self hi'] at h
          cases h
          exact ⟨.ref a, by rw [List.getElem?_set_self (by rw [← sr1.len]; exact hi')], .exn⟩
        · rw [List.getElem?_set_ne hj] at h
          obtain ⟨v, h1, h2⟩ := sr1.get j d' h
          exact ⟨v, by rw [List.getElem?_set_ne hj]; exact h1, h2.sub s2⟩
      · cases h
        have hi' : i < st.sl.length := by
          have := (List.getElem?_eq_some_iff.mp h').1
          simpa using this
        rw [List.getElem?_set_self hi'] at h'
        cases h'
        exact ⟨by rw [List.getElem?_set_self (by rw [← sr1.len]; exact hi')], rfl, vs, upd_same, hl.symm, rs.sub s2⟩
      · cases e2 : exs P ro ch ⟨st.sl.set i (some (.exn y.c y.fs)), st.m⟩ with
        | stuck => rw [e2] at f; exact f.elim
        | exc z st2 => rw [e2] at f; exact f.elim
        | ok fl st2 =>
          rw [e2] at f
          intro w3 σ3 H3 l3 sr3 hr3
          have hr4 : HR S { w3 with cur := none } ro st2.m H3 := by
            have := hr3.curw (c := none)
            rw [at_none G.cur] at this
            exact this
          have sr4 : SR { w3 with cur := none } (st2.sl.set i none) (σ3.set i none) := by
            have := sr3.none (i := i)
            exact ⟨this.len, fun j d h => let ⟨v, h1, h2⟩ := this.get j d h; ⟨v, h1, h2.sub Wd.sCur⟩, fun i a c nms dd c' fs h => by cases h⟩
          have q : EndR { w3 with cur := none } De fl (σ3.set i none) H3 := f { w3 with cur := none } (σ3.set i none) H3
            ⟨fun n a h => l3.io n a (l1.io n a h), fun a o h => l3.fz a o (frz_fz hr1 hd a o (l1.fz a o h)), fun a o h => l3.xe a o (l1.xe a o h), l3.lk.trans l1.lk, l3.ll.trans l1.ll, l3.hd.trans l1.hd, hw1.symm.trans l1.cur⟩ sr4 hr4
          cases fl with
          | nx => exact q
          | brk => exact q
          | cnt => exact q
          | ret dv => exact fun v rv => q v (rv.sub Wd.sCur)
    · rw [show hdC (.mk c (some i) ch) = c from rfl, hb] at f
      have f : FinS S E W ro w De (.exc y st) := f
      exact f w1 _ _ σ1 H1 l1 sr1 hr1 ⟨rfl, d, vs, rfl, hd, rs, hl, hp, hh⟩
/-- try: .. except C: .. -/
theorem ls_try_only {c : Nat} {x : Str} {body suite : List Stmt} {b₀ : Stmt} {np pos pos' : Pos} {cb ch : List CS} (G : XG S X) (hs : X.stack = X.env :: X.outer) (hf : X.env.frame = some X.env.locals) (hc : Names X x (.ref (E.xa c))) (tk : Takes X W)
    (hex : ∀ c', PySem.W.exmOne S.K (.ref (E.xa c')) (.ref (E.xa c)) = some (P.xsub c' c))
    (hb : ∀ (W : WX) (pn : List (Addr × Obj)) (xe : Value → Shared → Prop), Takes (X.tr pn xe) W → PassesOwn (model X.prog X.w) X.A X.env xe → PSs (X.tr pn xe) body (xSs S E W P ro cb))
    (hsu : ∀ (a : Addr) (oe : Obj) (pn : List (Addr × Obj)), PSs (X.suite a ((a, oe) :: pn)) (b₀ :: suite) (xSs S E W0 P ro ch)) :
    PS X (.Try body [.ExceptHandler (some (.Name x np)) none (b₀ :: suite) pos'] [] [] pos) (xS1 S E W P ro (.try_ cb [.mk c none ch])) := by
  refine imS (ps_try_only (tb := fun W' => xSs S E W' P ro cb) (ts := fun a cls d => xSs S E W0 P ro ch) hs hf hc tk hb (fun a oe cls d pn hz hfl => hsu a oe pn)) fun De σ H ⟨w, σ', m, sr, hr, f⟩ => ?_
  rw [ex] at f
  refine ⟨w, σ', m, sr, hr, ?_⟩
  cases e : exs P ro cb ⟨σ', m⟩ with
  | stuck => rw [e] at f; exact f
  | ok fl st => rw [e] at f; exact f
  | exc y st =>
    rw [e] at f
    intro w1 cls dd σ1 H1 l1 sr1 hr1 rx
    obtain ⟨rfl, d, vs, rfl, hd, rs, hl, hp, hh⟩ := rx
    have f : FinS S E W ro w De (exH P ro [.mk c none ch] y st) := f
    rw [exH] at f
    refine ⟨P.xsub y.c c, by rw [G.K]; exact hex y.c, fun hb a ha => ?_, fun hb => ?_⟩
    · rw [show hdC (.mk c none ch) = c from rfl, hb, if_pos rfl, exHd] at f
      refine ⟨w1, st.sl, st.m, sr1, hr1, ?_⟩
      cases e2 : exs P ro ch st with
      | stuck => rw [e2] at f; exact f.elim
      | exc z st2 => rw [e2] at f; exact f.elim
      | ok fl st2 => rw [e2] at f; exact FinS.mono l1 f
    · rw [show hdC (.mk c none ch) = c from rfl, hb] at f
      have f : FinS S E W ro w De (.exc y st) := f
      exact f w1 _ _ σ1 H1 l1 sr1 hr1 ⟨rfl, d, vs, rfl, hd, rs, hl, hp, hh⟩
end
end Av
end
section
set_option Elab.async false
set_option linter.all false
set_option maxRecDepth 100000
set_option autoImplicit false
set_option maxHeartbeats 8000000
namespace Av
open PySem PySem.Spec PyProof.Rows L2
/-- an empty dict, whichever its keys will be -/
inductive E0 : HO → Prop
  | k : E0 (.dK [])
  | t : E0 (.dT [])
section
variable {X : Cx} {pins : List (Addr × Obj)} {σ : L2.St} {H : Hp} {s : Shared} {E : Value → Shared → Prop}
/-- d[k] = v by a comprehension, keys of any kind -/
theorem set_put {D : Addr} {y v : V} {u r : Value} {H' : Hp} {Q : Unit → Shared → Prop} (hu : X.A.units + 1 < cLine) (I : Inv X pins σ H s) (g : DPut H D y v H') (ry : L2.RelV y u) (rv : L2.RelV v r) (h : ∀ s', Inv X pins σ H' s' → Q () s') :
    wpAny (model X.prog X.w) X.A (dictSet D u r) Q E s := by
  rcases g with ⟨kvs, k, e, rfl, l, rfl⟩ | ⟨kvs, k, b, e, rfl, eb, l, rfl⟩
  · exact d_dictSet I e l ry rv h
  · cases (show u = Value.ref b from ry)
    obtain ⟨z, hd, xs, rel, dd⟩ := dt_of I.hok e
    have hz : xs.length ≤ sizeLine := by rw [← Paired.length rel]; exact z
    have hl : (L2.putK kvs k v).length ≤ sizeLine := by have := length_putK kvs k v; omega
    refine wpAny_dictSet_heap (hsz := hz) (show (tupleKind (mixKind X.prog X.w)).room X.A from (show X.A.units < cLine by omega)) (key_of I.hok eb) dd fun h' dd' hs => h _ ?_
    obtain ⟨q, es, ep, hq, q2, q3, q4, _, q5⟩ := dd'
    refine d_write I (by rw [e]; exact True.intro) hs ⟨q, hq⟩ ⟨hl, hd, _, (rel.put k eb rv).keeps fun c ys ec => ?_, q, es, ep, hq, q2, q3, q4, q5⟩
    rw [upd_ne (fun z => by rw [z, e] at ec; cases ec)]
    exact ec
end
section
variable {X : Cx}
/-- what a turn of the block wants, from the target's store on; Nx: what stands behind it -/
def turnD (g : TG) (tt : TT) (tk tv : TE) (vs : List Nat) (σ : L2.St) (D : Addr) (Nx : Hp → Prop) (x : V) (H : Hp) : Prop :=
  g x (L2.wipe σ vs) H fun σ2 H2 => L2.wipe σ2 vs = L2.wipe σ vs ∧ tt σ2 H2 fun b H3 => if b = true then tk σ2 H3 fun y H4 => tv σ2 H4 fun z H5 => ∃ H6, DPut H5 D y z H6 ∧ Nx H6 else Nx H3
/-- .. and the whole -/
def tDcP (wi : TI) (g : TG) (tt : TT) (tk tv : TE) (vs : List Nat) : TE := fun σ H Q => wi σ H fun J H1 => ∀ D, H1 D = none → ∃ o, E0 o ∧ ∃ W : Nat → Nat → Hp → Prop, (∃ m, W 0 m (upd H1 D o)) ∧ ∀ i m H, W i m H →
  (J.stop i H ∧ Q (.ref D) H) ∨ (J.go i H ∧ ∃ Nx : Hp → Prop, (∀ H', Nx H' → ∃ m', m' < m ∧ W (i + 1) m' H') ∧ ∀ x H', J.yld i H x H' → turnD g tt tk tv vs σ D Nx x H')
/-- from the target's store to the entry's -/
theorem turn_run {B : Cx} {pins : List (Addr × Obj)} {σ : L2.St} {H : Hp} {s : Shared} {D : Addr} {Nx : Hp → Prop} {x : V} {u : Value} {vs : List Nat} {tg kx vx : Expr} {ifs : List Expr} {g : TG} {tt : TT} {tk tv : TE} {P : Shared → Prop} {E1 E2 E3 E4 E5 : Value → Shared → Prop}
    (hx : ∀ e s, B.xe e s → False) (hu : B.A.units + 1 < cLine) (pg : PG B tg g) (pt : PTs B ifs tt) (pk : PE B kx tk) (pv : PE B vx tv) (I : Inv B pins (L2.wipe σ vs) H s) (rx : L2.RelV x u) (h : turnD g tt tk tv vs σ D Nx x H)
    (fin : ∀ σ' s' H', L2.wipe σ' vs = L2.wipe σ vs → Inv B pins σ' H' s' → Nx H' → P s') :
    wpAny (model B.prog B.w) B.A (assign tg B.env u) (fun _ s₂ =>
      wpAny (model B.prog B.w) B.A (forIn ifs true fun c r => if r = true then do let ok ← isTrue c B.env (eval c B.env); pure (ForInStep.yield ok) else pure (ForInStep.yield r)) (fun ok s₃ =>
        if ok = true then wpAny (model B.prog B.w) B.A (eval kx B.env) (fun kv s₄ => wpAny (model B.prog B.w) B.A (eval vx B.env) (fun vv s₅ =>
          wpAny (model B.prog B.w) B.A (dictSet D kv vv) (fun _ s₆ => P s₆) E5 s₅) E4 s₄) E3 s₃
        else P s₃) E2 s₂) E1 s := by
  refine wpAny_mono (pg.run _ s _ H x u _ I rx h) (fun _ s2 ⟨σ2, H2, I2, hw, q2⟩ => wpAny_mono (pt.run _ s2 σ2 H2 _ I2 q2) (fun b s3 ⟨H3, I3, q3⟩ => ?_) fun _ _ z => (hx _ _ z).elim) fun _ _ z => (hx _ _ z).elim
  cases b with
  | false => exact fin _ _ _ hw I3 q3
  | true => exact wpAny_mono (pk.run _ s3 σ2 H3 _ I3 q3) (fun kv s4 ⟨yk, H4, I4, rk, q4⟩ => wpAny_mono (pv.run _ s4 σ2 H4 _ I4 q4) (fun vv s5 ⟨yv, H5, I5, rv, H6, put, nx⟩ => set_put hu I5 put rk rv fun s6 I6 => fin _ _ _ hw I6 nx) fun _ _ z => (hx _ _ z).elim) fun _ _ z => (hx _ _ z).elim
/-- the loop of the block: from the block's context B back to what R wants -/
theorem loop_run {B : Cx} {tg iter kx vx : Expr} {ifs : List Expr} {scope : Scope} {pos : Pos} {it D : Addr} {fp : List Addr} {tn : Nat → Heap → Prop} {J : It} {σ : L2.St} {vs : List Nat} {g : TG} {tt : TT} {tk tv : TE} {W : Nat → Nat → Hp → Prop} {Q : Hp → Prop} {R : Result → Shared → Prop}
    (hc : B.calm = true) (hx : ∀ e s, B.xe e s → False) (hu : B.A.units + 1 < cLine) (T : Turn B.prog B.w B.K tg J fp it tn)
    (stat : ∀ {σ' : L2.St} {H' : Hp} {s' : Shared}, Inv B [] σ' H' s' → (∀ b ∈ fp, H' b = none) → ∀ b ∈ fp, FpOk B [] H' b) (pg : PG B tg g) (pt : PTs B ifs tt) (pk : PE B kx tk) (pv : PE B vx tv)
    (turn : ∀ i m H, W i m H → (J.stop i H ∧ Q H) ∨ (J.go i H ∧ ∃ Nx : Hp → Prop, (∀ H', Nx H' → ∃ m', m' < m ∧ W (i + 1) m' H') ∧ ∀ x H', J.yld i H x H' → turnD g tt tk tv vs σ D Nx x H'))
    (back : ∀ H' s', Inv B [] (L2.wipe σ vs) H' s' → Q H' → R (.ok .next) s') {m : Nat} {H : Hp} {s : Shared} (I : Inv B [] (L2.wipe σ vs) H s) (st : tn 0 s.heap) (nf : ∀ b ∈ fp, H b = none) (w0 : W 0 m H) :
    codeAny (model B.prog B.w) B.A (.compLoop (.DictComp kx vx [⟨tg, iter, ifs, 0⟩] scope pos) 0 (.ref it) (.ref D) B.env) R s := by
  refine compLoop_anyD (fun n s' => ∃ i H', Inv B [] (L2.wipe σ vs) H' s' ∧ tn i s'.heap ∧ (∀ b ∈ fp, H' b = none) ∧ W i n H') (fun n s1 ⟨i, H1, I1, st1, n1, w1⟩ => ?_) m ⟨0, H, I, st, nf, w0⟩
  rcases turn i n H1 w1 with ⟨hstop, q⟩ | ⟨hgo, Nx, hNx, step⟩
  · exact thnF (T.done B rfl rfl rfl hc i [] s1 _ H1 (fun _ _ => False) I1 (stat I1 n1) st1 hstop) fun r s2 ⟨hr, I2⟩ => by
      subst hr
      exact back H1 s2 I2 q
  · refine thnF (T.item B rfl rfl rfl hc i [] s1 _ H1 (fun _ _ => False) I1 (stat I1 n1) st1 hgo) fun r s2 ⟨u, hr, h2⟩ => ?_
    subst hr
    refine thnF h2 fun _ s3 ⟨x, H3, I3, r3, y3, st3, n3⟩ => ?_
    refine turn_run (D := D) (Nx := Nx) hx hu pg pt pk pv (I3.pinned (stat I3 n3) (T.obj _ _ st3)) r3 (step x H3 y3) fun σ' s' H' hw I' nx => ?_
    obtain ⟨m', hm, w'⟩ := hNx H' nx
    have pin' : ∀ b ∈ fp, ∀ o, s3.heap.get? b = some o → s'.heap.get? b = some o ∧ H' b = none := fun b hb o e =>
      have z := I'.pin (b, o) (List.mem_append_right _ (List.mem_append_right _ (mem_pinsAt hb e)))
      ⟨z.1, z.2.1⟩
    refine ⟨m', hm, i + 1, H', Inv.weak (I'.unpinned (pins := [])) (by rw [← hw, wipe_length]) (fun j v e => ?_), T.keep _ _ _ st3 fun b hb o e => (pin' b hb o e).1, fun b hb => ?_, w'⟩
    · rw [← hw] at e
      exact (wipe_some e).1
    · obtain ⟨o, e, _⟩ := T.obj _ _ st3 b hb
      exact (pin' b hb o e).2
theorem E0.lay {P : Program} {w : World} {H : Hp} {o : HO} (e : E0 o) (h : Heap) (hb : sysModules < h.objs.size) : ObjOk P w H (h.push { cls := .type "dict", data := .dict #[] }) h.objs.size o := by
  cases e with
  | k => exact dk_empty h hb
  | t => exact dt_empty h hb
/-- a dict comprehension up to its end; use: what takes the dict before the block is left -/
theorem dcu_core {pins : List (Addr × Obj)} {s : Shared} {σ : L2.St} {H : Hp} {Q : VK} {tg iter kx vx : Expr} {ifs : List Expr} {scope : Scope} {own : List (Str × Nat)} {pos pos' : Pos} {wi : TI} {g : TG} {tt : TT} {tk tv : TE} {use : Option (Value → Sem Unit)} {Qf : Value → Shared → Prop} (hu : X.A.units + 1 < cLine) (hc : X.calm = true) (hN : X.N.Nodup) (I : Inv X pins σ H s) (hi : PI X tg iter wi) (ok : BlkOk X.N X.env.scope scope own)
    (hg : ∀ (s : Shared) (H : Hp) (C : Addr) (cl : List (Str × Addr)) (fp : List Addr), PG (X.blk s H scope (compEnvC scope cl C X.env) fp) tg g) (ht : ∀ (s : Shared) (H : Hp) (C : Addr) (cl : List (Str × Addr)) (fp : List Addr), PTs (X.blk s H scope (compEnvC scope cl C X.env) fp) ifs tt)
    (hk : ∀ (s : Shared) (H : Hp) (C : Addr) (cl : List (Str × Addr)) (fp : List Addr), PE (X.blk s H scope (compEnvC scope cl C X.env) fp) kx tk)
    (hv : ∀ (s : Shared) (H : Hp) (C : Addr) (cl : List (Str × Addr)) (fp : List Addr), PE (X.blk s H scope (compEnvC scope cl C X.env) fp) vx tv) (hs : ∀ x, foldedSetIterable iter X.env x = pure x)
    (h : tDcP wi g tt tk tv (own.map (·.2)) σ H Q)
    (hR : ∀ D C s' m H', Inv X pins σ H' s' → Q (.ref D) H' → s'.heap.Ns C m → FpOk X pins H' C → compPost (model X.prog X.w) X.A X.xe use Qf (.ref D) C (.ok .next) s') :
    wpAny (model X.prog X.w) X.A (comprehension (.DictComp kx vx [⟨tg, iter, ifs, 0⟩] scope pos) scope X.env pos' newDict false (eval iter X.env) use) Qf X.xe s := by
  refine wpAny_comprehension_free (use := use) rfl hs (closure_ok fun y hy e => (ok.free y hy e).elim (fun k => I.ok.has _ (.inl k)) fun k => I.ok.has _ (.inr k)) ok.kind (fun y hy e => by rw [ok.uniq y hy, e])
    (thn (hi.run pins s σ H _ I h) fun xv s1 hx => thn hx fun itv s2 ⟨it, fp, tn, J, H2, ei, I2, T, st2, f2, q⟩ => ?_)
  subst ei
  refine wpAny_newObj_type (newEnv_comp ?_)
  generalize hD : s2.heap.objs.size = D
  obtain ⟨o, e0, W, ⟨m0, w0⟩, turn⟩ := q D (I2.hok.fresh (Nat.le_of_eq hD))
  generalize hs3 : ({ s2 with heap := s2.heap.push { cls := .type "dict", data := .dict #[] } } : Shared) = s3
  have h3 : s3.heap = s2.heap.push { cls := .type "dict", data := .dict #[] } := by rw [← hs3]
  have k3 : ∀ b u, s2.heap.get? b = some u → s3.heap.get? b = some u := fun b u e => by rw [h3]; exact Heap.get?_push_of_some _ e
  have I3 : Inv X pins σ (upd H2 D o) s3 := by
    rw [← hs3]
    refine I2.laid (t' := s2.toks) (fun b o e => Heap.get?_push_of_some _ e) (Nat.le_of_eq hD) ?_
    rw [← hD]
    exact e0.lay s2.heap I2.big
  have f3 : ∀ b ∈ fp, FpOk X pins (upd H2 D o) b ∧ b < s3.heap.objs.size := fun b hb => by
    obtain ⟨u, e, _⟩ := T.obj _ _ st2 b hb
    have hlt := Heap.lt_size e
    exact ⟨⟨by rw [upd_ne (by rw [← hD]; exact Nat.ne_of_lt hlt)]; exact (f2 b hb).1, (f2 b hb).2⟩, by rw [h3, Heap.size_push]; exact Nat.lt_succ_of_lt hlt⟩
  have I4 := block_start I3 ok hN f3
  have st4 : tn 0 (pushCells (s3.heap.push { cls := .type "dict", data := .dict #[] }) scope.names) := T.keep _ _ _ st2 fun b _ u e => pushCells_keeps _ _ _ _ (Heap.get?_push_of_some _ (k3 b u e))
  show codeAny _ _ (.compStart (.DictComp kx vx [⟨tg, iter, ifs, 0⟩] scope pos) 0 (.ref it) (.ref D) (compEnvC scope (cellsFrom (s3.heap.objs.size + 1) scope.names (cloFrom X.env.cells scope.names [])) s3.heap.objs.size X.env)) (compPost (model X.prog X.w) X.A X.xe use Qf (.ref D) s3.heap.objs.size) { s3 with heap := pushCells (s3.heap.push { cls := .type "dict", data := .dict #[] }) scope.names }
  have pg := hg s3 (upd H2 D o) s3.heap.objs.size (cellsFrom (s3.heap.objs.size + 1) scope.names (cloFrom X.env.cells scope.names [])) fp
  have pt := ht s3 (upd H2 D o) s3.heap.objs.size (cellsFrom (s3.heap.objs.size + 1) scope.names (cloFrom X.env.cells scope.names [])) fp
  have pk := hk s3 (upd H2 D o) s3.heap.objs.size (cellsFrom (s3.heap.objs.size + 1) scope.names (cloFrom X.env.cells scope.names [])) fp
  have pv := hv s3 (upd H2 D o) s3.heap.objs.size (cellsFrom (s3.heap.objs.size + 1) scope.names (cloFrom X.env.cells scope.names [])) fp
  generalize hce : compEnvC scope (cellsFrom (s3.heap.objs.size + 1) scope.names (cloFrom X.env.cells scope.names [])) s3.heap.objs.size X.env = ce at I4 pg pt pk pv ⊢
  have cL : ce.locals = s3.heap.objs.size := by subst hce; rfl
  have loop := loop_run (B := X.blk s3 (upd H2 D o) scope ce fp) (iter := iter) (scope := scope) (pos := pos) (R := compPost (model X.prog X.w) X.A X.xe use Qf (.ref D) s3.heap.objs.size) hc (fun _ _ z => z) hu T
    (fun I' hn b hb => ⟨hn b hb, (I'.ok.exf b hb).1, I'.ok.exfs b hb, .inl hb, fun x c e => (I'.ok.exf b hb).2 x c e, fun p hp => absurd (show p ∈ ([] : List (Addr × Obj)) ++ [] from hp) (by simp)⟩) pg pt pk pv turn (fun H' s' I' q => ?_) I4 st4 (fun b hb => (f3 b hb).1.1) w0
  · exact codeAny_compStart_dict loop (T.self X.A 0 _ _ _ st4 loop)
  · have J : Inv X pins σ H' s' := I3.call' (ch := fp) I'.os I'.base I'.hok I'.bare fun b hb => ⟨(f3 b hb).1.2.2.2.1, (f3 b hb).1.2.1, (f3 b hb).1.2.2.2.2.1, (f3 b hb).1.2.2.2.2.2⟩
    obtain ⟨m, hn, _⟩ := I'.loc
    have hn : s'.heap.Ns ce.locals m := hn
    have nC : H' ce.locals = none := I'.free
    rw [cL] at hn nC
    exact hR D s3.heap.objs.size s' m H' J q hn (I3.fpOk (Nat.le_refl _) nC)
/-- a dict comprehension as a value -/
theorem pe_dcU {tg iter kx vx : Expr} {ifs : List Expr} {scope : Scope} {own : List (Str × Nat)} {pos : Pos} {wi : TI} {g : TG} {tt : TT} {tk tv : TE} (hu : X.A.units + 1 < cLine) (hc : X.calm = true) (hN : X.N.Nodup) (hi : PI X tg iter wi) (ok : BlkOk X.N X.env.scope scope own)
    (hg : ∀ (s : Shared) (H : Hp) (C : Addr) (cl : List (Str × Addr)) (fp : List Addr), PG (X.blk s H scope (compEnvC scope cl C X.env) fp) tg g) (ht : ∀ (s : Shared) (H : Hp) (C : Addr) (cl : List (Str × Addr)) (fp : List Addr), PTs (X.blk s H scope (compEnvC scope cl C X.env) fp) ifs tt)
    (hk : ∀ (s : Shared) (H : Hp) (C : Addr) (cl : List (Str × Addr)) (fp : List Addr), PE (X.blk s H scope (compEnvC scope cl C X.env) fp) kx tk)
    (hv : ∀ (s : Shared) (H : Hp) (C : Addr) (cl : List (Str × Addr)) (fp : List Addr), PE (X.blk s H scope (compEnvC scope cl C X.env) fp) vx tv) (hs : ∀ x, foldedSetIterable iter X.env x = pure x) :
    PE X (.DictComp kx vx [⟨tg, iter, ifs, 0⟩] scope pos) (fun σ H Q => tDcP wi g tt tk tv (own.map (·.2)) σ H (unlQ X Q)) := by
  refine ⟨fun pins s σ H Q I h => ?_⟩
  rw [arm_eval_DictComp]
  refine dcu_core hu hc hN I hi ok hg ht hk hv hs h fun D C s' m H' J q hn ⟨c0, c1, c2, c3, c4, c5⟩ => ⟨m, hn, fun h'' sb => ?_⟩
  have J' := J.turned (t' := s'.toks) (fun b u hb e => (sb.2 b hb).trans e) c0 c1 c3 c4 c5
  rcases q with q | ⟨d, od, u, e, hn', q⟩
  · exact ⟨.ref D, H', J', rfl, q⟩
  · exact ⟨.ref D, _, J'.unlock e hn', rfl, q⟩
/-- name = {..} on one line, the name a local -/
theorem ps_setDcP {i : Nat} {y : Str} {py spos : Pos} {tg iter kx vx : Expr} {ifs : List Expr} {scope : Scope} {own : List (Str × Nat)} {pos : Pos} {wi : TI} {g : TG} {tt : TT} {tk tv : TE} (hu : X.A.units + 1 < cLine) (hc : X.calm = true) (hN : X.N.Nodup) (hy : X.N[i]? = some y) (hyl : X.env.scope.names.lookup y = some .local)
    (hsw : swapsWith (.DictComp kx vx [⟨tg, iter, ifs, 0⟩] scope pos) (some (.Name y py)) spos.line X.env = pure true) (hi : PI X tg iter wi) (ok : BlkOk X.N X.env.scope scope own)
    (hg : ∀ (s : Shared) (H : Hp) (C : Addr) (cl : List (Str × Addr)) (fp : List Addr), PG (X.blk s H scope (compEnvC scope cl C X.env) fp) tg g) (ht : ∀ (s : Shared) (H : Hp) (C : Addr) (cl : List (Str × Addr)) (fp : List Addr), PTs (X.blk s H scope (compEnvC scope cl C X.env) fp) ifs tt)
    (hk : ∀ (s : Shared) (H : Hp) (C : Addr) (cl : List (Str × Addr)) (fp : List Addr), PE (X.blk s H scope (compEnvC scope cl C X.env) fp) kx tk)
    (hv : ∀ (s : Shared) (H : Hp) (C : Addr) (cl : List (Str × Addr)) (fp : List Addr), PE (X.blk s H scope (compEnvC scope cl C X.env) fp) vx tv) (hs : ∀ x, foldedSetIterable iter X.env x = pure x) :
    PS X (.Assign [.Name y py] (.DictComp kx vx [⟨tg, iter, ifs, 0⟩] scope pos) spos) (tAsg (tDcP wi g tt tk tv (own.map (·.2))) (gName i)) := by
  refine ⟨fun pins s σ H D I h => ?_⟩
  rw [exec_Assign_Name_used _ _ _ _ hsw]
  refine wpAny_bind (wpAny_standAt (wpAny_bind ?_))
  show wpAny _ X.A (do let _ ← comprehension (.DictComp kx vx [⟨tg, iter, ifs, 0⟩] scope pos) scope X.env _ newDict false (eval iter X.env) (some (assign (.Name y py) X.env))) _ _ s
  have h : tDcP wi g tt tk tv (own.map (·.2)) σ H (fun x H1 => gName i x σ H1 D.nx) := h
  refine wpAny_bind (thn (dcu_core (Qf := fun _ s' => SP X pins D .next s') hu hc hN I hi ok hg ht hk hv hs h fun L C s' m H' J q hn ⟨c0, c1, c2, c3, c4, c5⟩ => ?_) fun _ s' hq => wpAny_pure (wpAny_pure hq))
  refine wpAny_assign_Name (store_ok2 (v := V.ref L) J hN hy (.inl hyl) rfl (fun s2 I2 ⟨a, sb, ha⟩ => ?_) (.inr hyl))
  have haC : C ≠ a := ha.elim (fun z => by rw [z]; exact c1) fun z e => c4 y a z e.symm
  exact ⟨m, hn.sameBut sb haC, fun h3 sb3 => ⟨_, H', I2.turned (t' := s2.toks) (fun b o hb e => (sb3.2 b hb).trans e) c0 c1 c3 c4 c5, q⟩⟩
end
end Av
end
section
set_option Elab.async false
set_option linter.all false
set_option maxRecDepth 100000
set_option autoImplicit false
set_option maxHeartbeats 8000000
namespace Av
open PySem PySem.Spec PyProof.Rows L2
/-- the kind of a dict's keys -/
def kindOf : List (Ky × D) → Bool
  | [] => false
  | kv :: _ => isT kv.1
theorem kindOf_put {acc : List (Ky × D)} {k : Ky} {z : D} (h : kindK acc k = true) : kindOf (putK acc k z) = isT k := by
  cases acc with
  | nil => rfl
  | cons a r =>
    have h : isT a.1 = isT k := by simpa [kindK] using h
    unfold putK
    split
    · rw [List.map_cons]
      unfold kindOf
      split
      · rename_i q; cases q
      · rename_i q
        injection q with q _
        rw [← q, ← h]
        by_cases e : a.1 = k
        · rw [if_pos e]
        · rw [if_neg e]
    · exact h
theorem putK_ne {acc : List (Ky × D)} {k : Ky} {z : D} : putK acc k z ≠ [] := by
  unfold putK
  split
  · rename_i h
    intro e
    have : acc = [] := by simpa using e
    subst this
    cases h
  · simp
theorem putK_len (acc : List (Ky × D)) (k : Ky) (z : D) : (putK acc k z).length ≤ acc.length + 1 := by
  unfold putK
  split
  · rw [List.length_map]; omega
  · rw [List.length_append]; simp
theorem dcL_kind {f : D → Mem → R Mem (Option (Ky × D))} : ∀ {xs : List D} {acc ys : List (Ky × D)} {m m' : Mem}, dcL f xs acc m = .ok ys m' → acc ≠ [] → kindOf ys = kindOf acc
  | [], acc, ys, m, m', h, _ => by cases h; rfl
  | x :: xs, acc, ys, m, m', h, hn => by
    obtain ⟨o, m1, h1, h2⟩ := bind_ok_some (show (f x m).bind _ = _ from h)
    cases o with
    | none => exact dcL_kind h2 hn
    | some p =>
      have h2 : (if kindK acc p.1 then dcL f xs (putK acc p.1 p.2) m1 else .stuck) = .ok ys m' := h2
      split at h2
      · rename_i hk
        rw [dcL_kind h2 putK_ne, kindOf_put hk]
        cases acc with
        | nil => exact absurd rfl hn
        | cons a r => have : isT a.1 = isT p.1 := by simpa [kindK] using hk
                      exact this.symm
      · cases h2
/-- a dict's content, its keys of the kind t -/
inductive RelB (w : Wd) (acc : List (Ky × D)) : Bool → HO → Prop
  | k {ps : List (Key × V)} : RelK w acc ps → RelB w acc false (.dK ps)
  | t {ps : List (List Key × V)} : RelT w acc ps → RelB w acc true (.dT ps)
theorem RelB.sub {w w' : Wd} {acc : List (Ky × D)} {b : Bool} {o : HO} (l : w.Sub w') : RelB w acc b o → RelB w' acc b o
  | .k r => .k (r.sub l)
  | .t r => .t (r.sub l)
theorem RelB.nil {w : Wd} (b : Bool) : ∃ o, E0 o ∧ RelB w [] b o := by
  cases b with
  | false => exact ⟨_, .k, .k .nil⟩
  | true => exact ⟨_, .t, .t .nil⟩
theorem RelB.ntup {w : Wd} {acc : List (Ky × D)} {b : Bool} {o : HO} (r : RelB w acc b o) (vs : List V) : o ≠ .tup vs := by cases r <;> intro z <;> cases z
theorem RelB.nfrz {w : Wd} {acc : List (Ky × D)} {b : Bool} {o : HO} (r : RelB w acc b o) {a : Obj} {u : HO} : o ≠ .frz a u := by cases r <;> intro z <;> cases z
theorem RelB.ntbl {w : Wd} {acc : List (Ky × D)} {b : Bool} {o : HO} (r : RelB w acc b o) : ∀ ps, o ≠ .tbl ps := by cases r <;> intro ps z <;> cases z
theorem hasK_val {w : Wd} {k : Ky} {k' : Key} (hk : kK k = some k') : ∀ {acc : List (Ky × D)} {ps : List (Key × V)}, RelK w acc ps → hasK acc k = ps.any fun kv => decide (kv.1 = k')
  | _, _, .nil => rfl
  | _, _, .cons (k := q) (k' := q') e _ r s => by
    unfold hasK
    rw [List.any_cons, List.any_cons]
    have : decide (q = k) = decide (q' = k') := by
      by_cases h : q = k
      · subst h; rw [hk] at e; cases e; simp
      · simp [h, show ¬ q' = k' from fun z => h (kK_inj e (z ▸ hk))]
    rw [show (decide ((q, _).1 = k)) = decide (q = k) from rfl, this]
    congr 1
    exact hasK_val hk s
theorem hasT_val {w : Wd} {k : Ky} {k' : List Key} (hk : kT k = some k') : ∀ {acc : List (Ky × D)} {ps : List (List Key × V)}, RelT w acc ps → hasK acc k = ps.any fun kv => decide (kv.1 = k')
  | _, _, .nil => rfl
  | _, _, .cons (k := q) (k' := q') e _ r s => by
    unfold hasK
    rw [List.any_cons, List.any_cons]
    have : decide (q = k) = decide (q' = k') := by
      by_cases h : q = k
      · subst h; rw [hk] at e; cases e; simp
      · simp [h, show ¬ q' = k' from fun z => h (kT_inj e (z ▸ hk))]
    rw [show (decide ((q, _).1 = k)) = decide (q = k) from rfl, this]
    congr 1
    exact hasT_val hk s
theorem RelK.mapK {w : Wd} {k : Ky} {k' : Key} {d : D} {v : V} (hk : kK k = some k') (rv : RelD w d v) : ∀ {acc : List (Ky × D)} {ps : List (Key × V)}, RelK w acc ps → RelK w (acc.map fun kv => if kv.1 = k then (kv.1, d) else kv) (ps.map fun kv => if kv.1 = k' then (kv.1, v) else kv)
  | _, _, .nil => .nil
  | _, _, .cons (k := q) (k' := q') e l r s => by
    rw [List.map_cons, List.map_cons]
    by_cases h : q = k
    · subst h; rw [hk] at e; cases e
      rw [if_pos rfl, if_pos rfl]
      exact .cons hk l rv (RelK.mapK hk rv s)
    · rw [if_neg h, if_neg (show ¬ q' = k' from fun z => h (kK_inj e (z ▸ hk)))]
      exact .cons e l r (RelK.mapK hk rv s)
theorem RelT.mapK {w : Wd} {k : Ky} {k' : List Key} {d : D} {v : V} (hk : kT k = some k') (rv : RelD w d v) : ∀ {acc : List (Ky × D)} {ps : List (List Key × V)}, RelT w acc ps → RelT w (acc.map fun kv => if kv.1 = k then (kv.1, d) else kv) (ps.map fun kv => if kv.1 = k' then (kv.1, v) else kv)
  | _, _, .nil => .nil
  | _, _, .cons (k := q) (k' := q') e l r s => by
    rw [List.map_cons, List.map_cons]
    by_cases h : q = k
    · subst h; rw [hk] at e; cases e
      rw [if_pos rfl, if_pos rfl]
      exact .cons hk l rv (RelT.mapK hk rv s)
    · rw [if_neg h, if_neg (show ¬ q' = k' from fun z => h (kT_inj e (z ▸ hk)))]
      exact .cons e l r (RelT.mapK hk rv s)
theorem RelK.app {w : Wd} : ∀ {a b : List (Ky × D)} {p q : List (Key × V)}, RelK w a p → RelK w b q → RelK w (a ++ b) (p ++ q)
  | _, _, _, _, .nil, h => h
  | _, _, _, _, .cons a b c d, h => .cons a b c (RelK.app d h)
theorem RelT.app {w : Wd} : ∀ {a b : List (Ky × D)} {p q : List (List Key × V)}, RelT w a p → RelT w b q → RelT w (a ++ b) (p ++ q)
  | _, _, _, _, .nil, h => h
  | _, _, _, _, .cons a b c d, h => .cons a b c (RelT.app d h)
theorem RelK.put {w : Wd} {k : Ky} {k' : Key} {d : D} {v : V} {acc : List (Ky × D)} {ps : List (Key × V)} (r : RelK w acc ps) (hk : kK k = some k') (hl : kLim k = true) (rv : RelD w d v) : RelK w (putK acc k d) (L2.putK ps k' v) := by
  unfold putK L2.putK
  rw [hasK_val hk r]
  split
  · exact RelK.mapK hk rv r
  · exact r.app (.cons hk hl rv .nil)
theorem RelT.put {w : Wd} {k : Ky} {k' : List Key} {d : D} {v : V} {acc : List (Ky × D)} {ps : List (List Key × V)} (r : RelT w acc ps) (hk : kT k = some k') (hl : kLim k = true) (rv : RelD w d v) : RelT w (putK acc k d) (L2.putK ps k' v) := by
  unfold putK L2.putK
  rw [hasT_val hk r]
  split
  · exact RelT.mapK hk rv r
  · exact r.app (.cons hk hl rv .nil)
section
variable {S : SE} {E : ED} {W : WX} {P : Pm} {ro : Mem} {X : Cx} {w w1 w2 : Wd} {m m1 m2 : Mem} {H H1 H2 : Hp} {pos : Pos}
theorem RelB.put {acc : List (Ky × D)} {b : Bool} {o : HO} {D0 : Addr} {k : Ky} {kd d : D} {y v : V} (r : RelB w acc b o) (hr : HR S w ro m H) (hD : H D0 = some o) (hl : acc.length < sizeLine) (hk : ky kd = some k) (hb : isT k = b) (rk : RelD w kd y) (rv : RelD w d v) :
    ∃ o2, DPut H D0 y v (upd H D0 o2) ∧ RelB w (putK acc k d) b o2 := by
  obtain ⟨lim, q⟩ := ky_rel hr rk hk
  cases r with
  | k r =>
    rcases q with ⟨k', e1, rfl, et⟩ | ⟨k', c, e1, rfl, hc, et⟩
    · exact ⟨_, .k hD (by rw [← r.length]; exact hl), .k (r.put e1 lim rv)⟩
    · rw [hb] at et; cases et
  | t r =>
    rcases q with ⟨k', e1, rfl, et⟩ | ⟨k', c, e1, rfl, hc, et⟩
    · rw [hb] at et; cases et
    · exact ⟨_, .t hD hc (by rw [← r.length]; exact hl), .t (r.put e1 lim rv)⟩
theorem RelB.rel {acc : List (Ky × D)} {b : Bool} {o : HO} {p : Addr} (r : RelB w acc b o) (hl : acc.length ≤ LIM) (hf : w.fz p = some o) : RelD w (.dct acc) (.ref p) := by
  cases r with
  | k r => exact .dcK hl hf r
  | t r => exact .dcT hl hf r
/-- one turn of a dict comprehension -/
def dcF (P : Pm) (ro : Mem) (t : Tg) (σ0 : Sl) (cifs : List CT) (ck cv : CE) : D → Mem → R Mem (Option (Ky × D)) := fun x m3 => match asgT t x σ0 with
  | some σ1 => (evTs P ro cifs σ1 m3).bind fun c m4 => if c then (ev P ro ck σ1 m4).bind fun y m5 => (ev P ro cv σ1 m5).bind fun z m6 => match ky y with
      | some kk => .ok (some (kk, z)) m6
      | none => .stuck
    else .ok none m4
  | none => .stuck
theorem ev_dc {own : List Nat} {t : Tg} {ci ck cv : CE} {cifs : List CT} {σ' : Sl} : ev P ro (.dc own t ci cifs ck cv) σ' m = (ev P ro ci σ' m).bind fun d m1 => (walkE ro d m1 fun xs m2 => dcL (dcF P ro t (wipe σ' own) cifs ck cv) xs [] m2).bind fun kvs m7 => .ok (.dct kvs) m7 := by
  rw [ev]
  rfl
/-- the body of a dict comprehension, as the library asks for it -/
theorem dc_body {t : Tg} {cifs : List CT} {ck cv : CE} {vs : List Nat} {σ : L2.St} {σ' : Sl} {d : D} {Q : VK} {J : It} {ds : List D} {ys : List (Ky × D)} {mE : Mem} (htg : ∀ i ∈ tgS t, i ∈ vs)
    (sr : SR w σ' σ) (hne : ds ≠ []) (wk : WalkOk S X ro w m ds (lockAt ro m d) (isDct (rd ro m d)) J w1 H1) (hl : dcL (dcF P ro t (Av.wipe σ' vs) cifs ck cv) ds [] (lockM m (lockAt ro m d)) = .ok ys mE)
    (fin : ∀ w' v H', w.Le w' → HR S w' ro (unlockM mE (lockAt ro m d)) H' → RelD w' (.dct ys) v → Q v H') :
    ∀ D, H1 D = none → ∃ o, E0 o ∧ ∃ Wf : Nat → Nat → Hp → Prop, (∃ m, Wf 0 m (upd H1 D o)) ∧ ∀ i mm H, Wf i mm H →
      (J.stop i H ∧ unlQ X Q (.ref D) H) ∨ (J.go i H ∧ ∃ Nx : Hp → Prop, (∀ H', Nx H' → ∃ m', m' < mm ∧ Wf (i + 1) m' H') ∧ ∀ x H', J.yld i H x H' → turnD (gTg X.K t) (xTs S E W0 P ro cifs) (xE S E W0 P ro ck) (xE S E W0 P ro cv) vs σ D Nx x H') := by
  intro D hD
  have hLIM := wk.len
  obtain ⟨o0, e0, rb0⟩ := RelB.nil (w := w1) (kindOf ys)
  refine ⟨o0, e0, fun i mm Hc => ∃ w3 m3 acc o, mm = ds.length - i ∧ i ≤ ds.length ∧ (w1.hold D o).Le w3 ∧ HR S w3 ro m3 Hc ∧ RelB w3 acc (kindOf ys) o ∧ acc.length ≤ i ∧ dcL (dcF P ro t (Av.wipe σ' vs) cifs ck cv) (ds.drop i) acc m3 = .ok ys mE,
    ⟨ds.length, w1.hold D o0, lockM m (lockAt ro m d), [], o0, rfl, Nat.zero_le _, .refl _, wk.hr.hold hD rb0.ntup, rb0.sub Wd.sHo, Nat.le_refl _, hl⟩, ?_⟩
  rintro i mm Hc ⟨w3, m3, acc, o, rfl, hi, le3, hr3, racc, hacc, hrest⟩
  have hd3 : w3.hd D = some o := by rw [le3.hd]; exact upd_same
  have hHc : Hc D = some o := hr3.hld D _ hd3
  have lx3 : w1.LeX w3 := ⟨le3.io, le3.fz, le3.xe, le3.lk, le3.ll, fun a o' e => by
    rw [le3.hd]
    show upd w1.hd D _ a = some o'
    rw [upd_ne (fun z => by have := wk.hr.hld a o' e; rw [z, hD] at this; cases this)]; exact e, le3.cur⟩
  have c3 : w3.cur = w.cur := lx3.cur.trans wk.cur
  have s13 : w.Sub w3 := ⟨fun n a e => le3.io n a (by rw [show (w1.hold D o).io = w1.io from rfl, wk.io]; exact e), fun a o' e => le3.fz a o' (by rw [show (w1.hold D o).fz = w1.fz from rfl, wk.fz]; exact e), fun a o' e => le3.xe a o' (by rw [show (w1.hold D o).xe = w1.xe from rfl, wk.xe]; exact e)⟩
  by_cases hlt : i < ds.length
  · refine .inr ⟨wk.go w3 m3 Hc i lx3 hr3 hlt, fun H' => ∃ m', m' < ds.length - i ∧ ∃ w3 m3 acc o, m' = ds.length - (i + 1) ∧ i + 1 ≤ ds.length ∧ (w1.hold D o).Le w3 ∧ HR S w3 ro m3 H' ∧ RelB w3 acc (kindOf ys) o ∧ acc.length ≤ i + 1 ∧ dcL (dcF P ro t (Av.wipe σ' vs) cifs ck cv) (ds.drop (i + 1)) acc m3 = .ok ys mE, fun H' h => h, fun x H' y => ?_⟩
    obtain ⟨rfl, di, w4, hdi, le4, hr4, r4⟩ := wk.yld w3 m3 Hc i x H' lx3 hr3 hlt y
    have hdrop : ds.drop i = di :: ds.drop (i + 1) := by
      rw [List.drop_eq_getElem_cons hlt]
      congr 1
      exact (List.getElem?_eq_some_iff.mp hdi).2
    rw [hdrop] at hrest
    obtain ⟨oo, m4, h1, h2⟩ := bind_ok_some (show (dcF P ro t (Av.wipe σ' vs) cifs ck cv di m3).bind _ = _ from hrest)
    unfold dcF at h1
    split at h1
    · rename_i σ1 hσ1
      refine asg_rel hr4 t di x _ σ1 _ _ ((sr.sub (s13.trans le4.sub) (le4.cur.trans c3)).wipe vs) r4 hσ1 fun σ2 s2 hw => ⟨by rw [hw vs htg, wipe_wipe], ?_⟩
      obtain ⟨cb, m6, h5, h6⟩ := bind_ok_some h1
      refine ⟨w4, σ1, m3, s2, hr4, ?_⟩
      rw [h5]
      rintro w5 b H5 le5 hr5 rfl
      cases cb with
      | true =>
        obtain ⟨yd, m7, h7, h8⟩ := bind_ok_some (show (ev P ro ck σ1 m6).bind _ = _ from h6)
        refine ⟨w5, σ1, m6, s2.mono le5, hr5, ?_⟩
        show Fin S E W0 w5 ro σ2 RelD _ (ev P ro ck σ1 m6)
        rw [h7]
        intro w6 yv H6 le6 hr6 r6
        obtain ⟨zd, m8, h9, h10⟩ := bind_ok_some h8
        refine ⟨w6, σ1, m7, (s2.mono le5).mono le6, hr6, ?_⟩
        show Fin S E W0 w6 ro σ2 RelD _ (ev P ro cv σ1 m7)
        rw [h9]
        intro w7 zv H7 le7 hr7 r7
        cases hky : ky yd with
        | none => rw [hky] at h10; cases h10
        | some kk =>
          rw [hky] at h10
          cases h10
          have h2 : (if kindK acc kk then dcL (dcF P ro t (Av.wipe σ' vs) cifs ck cv) (ds.drop (i + 1)) (putK acc kk zd) m4 else .stuck) = .ok ys mE := h2
          split at h2
          · rename_i hkk
            have hkd : isT kk = kindOf ys := by rw [dcL_kind h2 putK_ne, kindOf_put hkk]
            have le47 := ((le4.trans le5).trans le6).trans le7
            have hd7 : w7.hd D = some o := by rw [le47.hd]; exact hd3
            have lk7 : w7.lk D = none := by
              rw [le47.lk, le3.lk]
              exact wk.hr.nolk hD
            obtain ⟨o2, put, rb2⟩ := (racc.sub le47.sub).put hr7 (hr7.hld D _ hd7) (lim_lt (by omega)) hky hkd (r6.mono le7) r7
            refine ⟨_, put, ds.length - (i + 1), by omega, w7.hold D o2, m4, putK acc kk zd, o2, rfl, hlt, ?_, hr7.rehold hd7 racc.ntbl rb2.ntup lk7, rb2.sub Wd.sHo, by have := putK_len acc kk zd; omega, h2⟩
            refine ⟨fun n a e => le47.io n a (le3.io n a e), fun a o e => le47.fz a o (le3.fz a o e), fun a o e => le47.xe a o (le3.xe a o e), le47.lk.trans le3.lk, le47.ll.trans le3.ll, ?_, le47.cur.trans le3.cur⟩
            show upd w7.hd D _ = upd w1.hd D _
            rw [le47.hd, le3.hd]
            show upd (upd w1.hd D _) D _ = _
            rw [upd_upd]
          · cases h2
      | false =>
        have h6 : R.ok none m6 = R.ok oo m4 := h6
        cases h6
        have le35 := le4.trans le5
        exact ⟨ds.length - (i + 1), by omega, w5, m4, acc, o, rfl, hlt, le3.trans le35, hr5, racc.sub le35.sub, by omega, h2⟩
    · cases h1
  · have hie : i = ds.length := by omega
    subst hie
    refine .inl ⟨wk.stop w3 m3 Hc _ lx3 hr3 (Nat.le_refl _), ?_⟩
    rw [List.drop_length] at hrest
    have hrest : R.ok acc m3 = R.ok ys mE := hrest
    cases hrest
    have wle : w.Le (w.back w3) := Wd.back_le s13.io s13.fz s13.xe
    have fz3 : w3.fz D = none := hr3.hsf D _ hd3
    have io3 : ∀ n, w3.io n ≠ some D := fun n => hr3.hsi D _ n hd3
    have last : ∀ H', HR S (w.back w3) ro (unlockM mE (lockAt ro m d)) H' → H' D = some o → Q (.ref D) H' := fun H' hb hHD => by
      have hdw : w.hd D = none := by
        cases e : w.hd D with
        | none => rfl
        | some u =>
          have := wk.hr.hld D u (by rw [wk.hd]; exact e)
          rw [hD] at this; cases this
      have lkw : w.lk D = none := by
        cases e : w.lk D with
        | none => rfl
        | some p =>
          have q := (hb.lkd D p e).1
          have l := le3.lk
          have e3 : w1.lk D = none := wk.hr.nolk hD
          rw [hHD] at q
          injection q with q
          exact (racc.nfrz q).elim
      obtain ⟨k1, k2⟩ := hb.here hHD fz3 io3 lkw hdw racc.ntbl
      have sF : w3.Sub ((w.back w3).fr D o) := ⟨fun _ _ h => h, fun a o' e => by
        show upd w3.fz D _ a = some o'
        rw [upd_ne (fun z => by rw [z, fz3] at e; cases e)]; exact e, fun _ _ h => h⟩
      exact fin _ (.ref D) H' (wle.trans k2) k1 ((racc.sub sF).rel (by omega) (show upd w3.fz D _ D = _ from upd_same))
    rcases wk.back w3 mE Hc lx3 hr3 with hb | ⟨dd, od, u, e1, e2, _, hb⟩
    · exact .inl (last Hc hb hHc)
    · refine .inr ⟨dd, od, u, e1, e2, last _ hb ?_⟩
      rw [upd_ne (fun z => by rw [z, e1] at hHc; injection hHc with q; exact racc.nfrz q.symm)]; exact hHc
theorem dc_main {own : List (Str × Nat)} {t : Tg} {ci ck cv : CE} {cifs : List CT} {σ : L2.St} {H : Hp} {Q : VK} (htg : ∀ i ∈ tgS t, i ∈ own.map (·.2)) (q : xE S E W P ro (.dc (own.map (·.2)) t ci cifs ck cv) σ H Q) :
    tDcP (xI S X E W P ro ci) (gTg X.K t) (xTs S E W0 P ro cifs) (xE S E W0 P ro ck) (xE S E W0 P ro cv) (own.map (·.2)) σ H (unlQ X Q) := by
    obtain ⟨w, σ', m, sr, hr, f⟩ := q
    have f : Fin S E W w ro σ RelD Q (ev P ro (.dc (own.map (·.2)) t ci cifs ck cv) σ' m) := f
    rw [ev_dc] at f
    refine ⟨w, σ', m, sr, hr, ?_⟩
    cases e : ev P ro ci σ' m with
    | stuck => rw [e] at f; exact f
    | exc x m1 => rw [e] at f; exact f
    | ok d m1 =>
      rw [e, R.bind_ok] at f
      intro w1 H1 l1 hr1
      have f := Fin.mono l1 f
      unfold walkE at f
      cases hit : itemsV (rd ro m1 d) with
      | none => rw [hit] at f; exact f.elim
      | some ds =>
        rw [hit] at f
        have f : Fin S E W w1 ro σ RelD Q (((dcL (dcF P ro t (Av.wipe σ' (own.map (·.2))) cifs ck cv) ds [] (lockM m1 (lockAt ro m1 d))).calm fun a m2 => R.ok a (unlockM m2 (lockAt ro m1 d))).bind fun ys m6 => .ok (.dct ys) m6) := f
        cases hl : dcL (dcF P ro t (Av.wipe σ' (own.map (·.2))) cifs ck cv) ds [] (lockM m1 (lockAt ro m1 d)) with
        | stuck => rw [hl] at f; exact f.elim
        | exc x m2 => rw [hl] at f; exact f.elim
        | ok ys mE =>
          rw [hl] at f
          have f : ∀ w' v H', w1.Le w' → HR S w' ro (unlockM mE (lockAt ro m1 d)) H' → RelD w' (.dct ys) v → Q v H' := f
          refine ⟨ds, hit, fun hne J w2 H2 wk => dc_body htg (sr.mono l1) hne wk hl f, fun hemp J H2 emp => ?_⟩
          subst hemp
          have hj := lockAt_empty hit
          rw [hj] at hl
          have hl : R.ok [] m1 = R.ok ys mE := hl
          cases hl
          intro D hD
          refine ⟨_, .k, fun i mm Hc => i = 0 ∧ Hc = upd H2 D (.dK []), ⟨0, rfl, rfl⟩, ?_⟩
          rintro i mm Hc ⟨rfl, rfl⟩
          refine .inl ⟨emp.1 _ fun b u _ e => by rw [upd_ne (fun z => by rw [z, hD] at e; cases e)]; exact e, ?_⟩
          have fin : ∀ H', H' = H1 → H' D = none → Q (.ref D) (upd H' D (.dK [])) := fun H' e h => by
            subst e
            exact f _ _ _ (Wd.fr_le (hr1.nofz h)) (by rw [hj]; exact hr1.fr h (.dK [])) (.dcK (Nat.zero_le _) (show upd w1.fz D _ D = _ from upd_same) .nil)
          rcases emp.2 with rfl | ⟨dd, od, u, e1, rfl, hn, _⟩
          · exact .inl (fin _ rfl hD)
          · have hDd : D ≠ dd := fun z => by rw [z, upd_same] at hD; cases hD
            refine .inr ⟨dd, od, u, by rw [upd_ne (Ne.symm hDd)]; exact upd_same, hn, ?_⟩
            have e2 : upd (upd (upd H1 dd (.frz od u)) D (.dK [])) dd u = upd H1 D (.dK []) := by
              funext b
              by_cases h1 : b = dd
              · subst h1; rw [upd_same, upd_ne (Ne.symm hDd)]; exact e1.symm
              · rw [upd_ne h1]
                by_cases h2 : b = D
                · subst h2; rw [upd_same, upd_same]
                · rw [upd_ne h2, upd_ne h2, upd_ne h1]
            rw [e2]
            exact fin _ rfl (by rw [upd_ne hDd] at hD; exact hD)
theorem l_dc {tg iter kx vx : Expr} {ifs : List Expr} {scope : Scope} {own : List (Str × Nat)} {t : Tg} {ci ck cv : CE} {cifs : List CT} (G : XG S X) (hi : PI X tg iter (xI S X E W P ro ci)) (ok : BlkOk X.N X.env.scope scope own) (htg : ∀ i ∈ tgS t, i ∈ own.map (·.2))
    (hg : ∀ (s : Shared) (H : Hp) (C : Addr) (cl : List (Str × Addr)) (fp : List Addr), PG (X.blk s H scope (compEnvC scope cl C X.env) fp) tg (gTg X.K t)) (ht : ∀ (s : Shared) (H : Hp) (C : Addr) (cl : List (Str × Addr)) (fp : List Addr), PTs (X.blk s H scope (compEnvC scope cl C X.env) fp) ifs (xTs S E W0 P ro cifs))
    (hk : ∀ (s : Shared) (H : Hp) (C : Addr) (cl : List (Str × Addr)) (fp : List Addr), PE (X.blk s H scope (compEnvC scope cl C X.env) fp) kx (xE S E W0 P ro ck)) (hv : ∀ (s : Shared) (H : Hp) (C : Addr) (cl : List (Str × Addr)) (fp : List Addr), PE (X.blk s H scope (compEnvC scope cl C X.env) fp) vx (xE S E W0 P ro cv)) (hs : ∀ x, foldedSetIterable iter X.env x = pure x) :
    PE X (.DictComp kx vx [⟨tg, iter, ifs, 0⟩] scope pos) (xE S E W P ro (.dc (own.map (·.2)) t ci cifs ck cv)) :=
  imE (pe_dcU (by have := G.un; omega) G.calm G.nd hi ok hg ht hk hv hs) fun σ H Q q => dc_main htg q
theorem ls_setDc {i : Nat} {y : Str} {py spos : Pos} {tg iter kx vx : Expr} {ifs : List Expr} {scope : Scope} {own : List (Str × Nat)} {t : Tg} {ci ck cv : CE} {cifs : List CT} (G : XG S X) (hy : X.N[i]? = some y) (hyl : X.env.scope.names.lookup y = some .local)
    (hsw : swapsWith (.DictComp kx vx [⟨tg, iter, ifs, 0⟩] scope pos) (some (.Name y py)) spos.line X.env = pure true) (hi : PI X tg iter (xI S X E W P ro ci)) (ok : BlkOk X.N X.env.scope scope own) (htg : ∀ i ∈ tgS t, i ∈ own.map (·.2))
    (hg : ∀ (s : Shared) (H : Hp) (C : Addr) (cl : List (Str × Addr)) (fp : List Addr), PG (X.blk s H scope (compEnvC scope cl C X.env) fp) tg (gTg X.K t)) (ht : ∀ (s : Shared) (H : Hp) (C : Addr) (cl : List (Str × Addr)) (fp : List Addr), PTs (X.blk s H scope (compEnvC scope cl C X.env) fp) ifs (xTs S E W0 P ro cifs))
    (hk : ∀ (s : Shared) (H : Hp) (C : Addr) (cl : List (Str × Addr)) (fp : List Addr), PE (X.blk s H scope (compEnvC scope cl C X.env) fp) kx (xE S E W0 P ro ck)) (hv : ∀ (s : Shared) (H : Hp) (C : Addr) (cl : List (Str × Addr)) (fp : List Addr), PE (X.blk s H scope (compEnvC scope cl C X.env) fp) vx (xE S E W0 P ro cv)) (hs : ∀ x, foldedSetIterable iter X.env x = pure x) :
    PS X (.Assign [.Name y py] (.DictComp kx vx [⟨tg, iter, ifs, 0⟩] scope pos) spos) (xS1 S E W P ro (.asg (.t (.v i)) (.dc (own.map (·.2)) t ci cifs ck cv))) := imS (ps_unl (ps_setDcP (by have := G.un; omega) G.calm G.nd hy hyl hsw hi ok hg ht hk hv hs)) fun De σ H ⟨w, σ', m, sr, hr, f⟩ => by
  rw [ex] at f
  refine dc_main (Q := fun y H1 => De.nx (σ.set i (some y)) H1) htg ?_
  refine gE.up sr hr f fun x m1 w1 v H1 l sr1 hr1 r1 f1 => ?_
  have f1 : FinS S E W ro w1 De (match asgT (.v i) x σ' with | some σ => .ok .nx ⟨σ, m1⟩ | none => .stuck) := f1
  simp only [asgT] at f1
  split at f1
  · rename_i s e
    split at e
    · split at e
      · cases e
      · rename_i hx
        cases e
        exact FinS.ok (fl := .nx) f1 (sr1.set r1 (by simpa using hx)) hr1
    · cases e
  · exact f1.elim
end
end Av
end
section
set_option Elab.async false
set_option linter.all false
set_option maxRecDepth 100000
set_option autoImplicit false
set_option maxHeartbeats 4000000
namespace Av
open PySem
/-- what a global name stands for -/
inductive GK where
  | bi | fn (f np : Nat) (dds : List D) | cst (d : D) | exc (c : Nat) (r : Bool)
/-- where a piece of text stands -/
structure CC where
  N : List Str
  nm : List (Str × NameKind)
  gl : List (Str × GK)
  cell : Bool
  dep : Nat
  tb : Bool
  hot : Bool
  xs : Option Nat
  fs : List Str
def idx (x : Str) : List Str → Nat → Option Nat
  | [], _ => none
  | y :: r, k => if y = x then some k else idx x r (k + 1)
def CC.kind (C : CC) (x : Str) : Option NameKind := C.nm.lookup x
def okN (x : Str) : Bool := !(x == ("__debug__" : Str)) && !(x == ("__classdict__" : Str)) && !(x == ("__name__" : Str))
def CC.isG (C : CC) (x : Str) : Bool := decide (C.kind x = some .globalImplicit) && okN x
def CC.bi (C : CC) (x : Str) : Bool := C.isG x && (match C.gl.lookup x with | some .bi => true | _ => false)
def CC.vis (C : CC) (x : Str) : Bool := decide (C.kind x = some .local) || decide (C.kind x = some .cell) || decide (C.kind x = some .free)
/-- it may be stored -/
def CC.loc (C : CC) (x : Str) : Bool := decide (C.kind x = some .local) || (decide (C.kind x = some .cell) && C.cell)
def relNm (names nm : List (Str × NameKind)) : List (Str × NameKind) := names.map fun p => if (p.2 == .free && nm.lookup p.1 == some .cell) then (p.1, .cell) else (p.1, p.2)
/-- the block's own names -/
def ownOf (N : List Str) : List (Str × NameKind) → List (Str × Nat)
  | [] => []
  | (n, k) :: r => if k = .local ∨ k = .cell then (match idx n N 0 with | some i => (n, i) :: ownOf N r | none => ownOf N r) else ownOf N r
def CC.blk (C : CC) (sc : Scope) : CC := { C with nm := relNm sc.names C.nm, cell := false, tb := false, xs := none }
def CC.gen (C : CC) (sc : Scope) : CC := { C with nm := sc.names, cell := false, dep := C.dep - 1, tb := false, xs := none }
def grd {α : Type} (b : Bool) (x : Option α) : Option α := if b then x else none
def boI : Operator → Option BO
  | .Add => some .add
  | .Sub => some .sub
  | .Mult => some .mul
  | .FloorDiv => some .fdiv
  | .Mod => some .mod
  | .Pow => some .pow
  | _ => none
def coI : CmpOp → CO
  | .Eq => .eq
  | .NotEq => .ne
  | .Lt => .lt
  | .LtE => .le
  | .Gt => .gt
  | .GtE => .ge
  | .In => .mem
  | .NotIn => .nmem
  | .Is => .is_
  | .IsNot => .isnt
def biI (x : Str) (n : Nat) : Option Bi :=
  if x = "len" then some .len else if x = "int" then some .int else if x = "str" then some .str else if x = "list" then some .list else if x = "tuple" then some .tuple
  else if x = "sorted" then some .sorted else if x = "min" ∧ n = 2 then some .min2 else if x = "max" ∧ n = 2 then some .max2 else none
def bmI (x : Str) : Option Bm :=
  if x = "partition" then some .partition else if x = "split" then some .split else if x = "join" then some .join else if x = "startswith" then some .startswith else if x = "find" then some .find else if x = "get" then some .get else none
def bcI (x : Str) : Option Bc := if x = "append" then some .append else if x = "extend" then some .extend else if x = "pop" then some .pop else none
def tyI (x : Str) : Option Ty := if x = "int" then some .int else if x = "str" then some .str else if x = "bool" then some .bool else if x = "tuple" then some .tuple else if x = "list" then some .list else none
def cName (C : CC) (x : Str) : Option CE := grd (okN x) (if C.vis x then (idx x C.N 0).map .var else if C.isG x then (match C.gl.lookup x with | some (.cst d) => some (.cst d) | _ => none) else none)
def isAnd : BoolOp → Bool
  | .And => true
  | .Or => false
mutual
def cTg : Nat → CC → Expr → Option Tg
  | 0, _, _ => none
  | n + 1, C, e => match e with
    | .Name x _ => grd (C.loc x) ((idx x C.N 0).map .v)
    | .Tuple es _ _ => grd (!C.hot) ((cTgs n C es).map .t)
    | _ => none
def cTgs : Nat → CC → List Expr → Option (List Tg)
  | 0, _, _ => none
  | n + 1, C, es => match es with
    | [] => some []
    | e :: r => grd (nostar e) ((cTg n C e).bind fun t => (cTgs n C r).map fun ts => t :: ts)
end
def notFold : Expr → Bool
  | .List _ _ => false
  | .Set _ _ _ => false
  | _ => true
mutual
def cE : Nat → CC → Expr → Option CE
  | 0, _, _ => none
  | n + 1, C, e => match e with
    | .Constant c _ _ => (match c with
      | .int i => some (.cst (.int i))
      | .bool b => some (.cst (.bl b))
      | .none => some (.cst .non)
      | .str x => grd (okTb x.cps.toList) (some (.cst (.str x.cps.toList)))
      | _ => none)
    | .Name x _ => cName C x
    | .BinOp a op b _ => (boI op).bind fun o => (cE n C a).bind fun ca => (cE n C b).map fun cb => .bin o ca cb
    | .UnaryOp op a _ => (match op with
      | .USub => (cE n C a).map .neg
      | .Not => (cE n C a).map .not_
      | _ => none)
    | .BoolOp op l _ => cB n C (isAnd op) l
    | .IfExp t a b _ => (cT n C t).bind fun ct => (cE n C a).bind fun ca => (cE n C b).map fun cb => .ife ct ca cb
    | .Compare a ops l _ => (match ops, l with
      | [op], [b] => grd (notSet b) ((cE n C a).bind fun ca => (cE n C b).map fun cb => .cmp (coI op) ca cb)
      | [op, op'], [b, c] => grd (notSet c) ((cE n C a).bind fun ca => (cE n C b).bind fun cb => (cE n C c).map fun cc => .chain (coI op) (coI op') ca cb cc)
      | _, _ => none)
    | .Call f args kw cpos => (match kw with
      | [] => (match f with
        | .Name x _ => cCall n C x args
        | .Attribute o m apos => (match args with
          | [] => grd (decide (m = "pop") && noSup o && (apos.endLine == cpos.line)) ((cE n C o).map fun co => .bc .pop co [])
          | a :: r => grd ((a :: r).all nostar && noSup o && decide ((a :: r).length < 30) && (apos.endLine == cpos.line)) ((cE n C o).bind fun co => (cEs n C (a :: r)).bind fun cs => match bmI m with
            | some b => some (.bm b co cs)
            | none => (bcI m).map fun b => .bc b co cs))
        | _ => none)
      | _ => none)
    | .Attribute o f _ => (match o with
      | .Name x _ => (match C.xs with
        | some i => grd (decide (idx x C.N 0 = some i) && okN x && C.vis x) ((idx f C.fs 0).map fun k => .xat i k)
        | none => none)
      | _ => none)
    | .Subscript o i _ => (match i with
      | .Slice lo hi st _ => (match st with
        | none => (cE n C o).bind fun co => (cO n C lo).bind fun cl => (cO n C hi).map fun ch => .slc co cl ch
        | some _ => none)
      | i => grd (notSlice i) ((cE n C o).bind fun co => (cE n C i).map fun ci => .sub co ci))
    | .List l _ => grd (l.all nostar) ((cEs n C l).bind fun cs => grd (decide (cs.length ≤ 1000)) (some (.lst cs)))
    | .Tuple l _ _ => grd (l.all nostar) ((cEs n C l).bind fun cs => grd (decide (cs.length ≤ 1000)) (some (.tup cs)))
    | .Dict ks vs _ => (match ks, vs with
      | [], [] => some (.dct [])
      | _, _ => none)
    | .JoinedStr l _ => (match l with
      | a :: b :: r => (cF n C (a :: b :: r)).map .fst
      | _ => none)
    | .ListComp elt gens sc _ => (match gens with
      | [g] => grd (decide (g.is_async = 0)) (cLc n C elt g.target g.iter g.ifs sc)
      | _ => none)
    | .DictComp kx vx gens sc _ => (match gens with
      | [g] => grd (decide (g.is_async = 0)) (cDc n C kx vx g.target g.iter g.ifs sc)
      | _ => none)
    | _ => none
/-- a comprehension -/
def cLc : Nat → CC → Expr → Expr → Expr → List Expr → Scope → Option CE
  | 0, _, _, _, _, _, _ => none
  | n + 1, C, elt, tg, iter, ifs, sc => grd (!C.hot && L2.blkC C.N ⟨.function, C.nm, false, false, []⟩ sc (ownOf C.N sc.names) && notFold iter) ((cI n C iter).bind fun ci => (cTg n (C.blk sc) tg).bind fun t => (cTs n (C.blk sc) ifs).bind fun cts => (cE n (C.blk sc) elt).bind fun ce =>
      grd ((tgS t).all fun i => decide (i ∈ (ownOf C.N sc.names).map (·.2))) (some (.lc ((ownOf C.N sc.names).map (·.2)) t ci cts ce)))
/-- .. of a dict -/
def cDc : Nat → CC → Expr → Expr → Expr → Expr → List Expr → Scope → Option CE
  | 0, _, _, _, _, _, _, _ => none
  | n + 1, C, kx, vx, tg, iter, ifs, sc => grd (!C.hot && L2.blkC C.N ⟨.function, C.nm, false, false, []⟩ sc (ownOf C.N sc.names) && notFold iter) ((cI n C iter).bind fun ci => (cTg n (C.blk sc) tg).bind fun t => (cTs n (C.blk sc) ifs).bind fun cts => (cE n (C.blk sc) kx).bind fun ck => (cE n (C.blk sc) vx).bind fun cv =>
      grd ((tgS t).all fun i => decide (i ∈ (ownOf C.N sc.names).map (·.2))) (some (.dc ((ownOf C.N sc.names).map (·.2)) t ci cts ck cv)))
/-- the values of an and, of an or -/
def cB : Nat → CC → Bool → List Expr → Option CE
  | 0, _, _, _ => none
  | n + 1, C, b, l => match l with
    | [] => none
    | [a] => cE n C a
    | a :: r => (cE n C a).bind fun ca => (cB n C b r).map fun cr => if b then .and_ ca cr else .or_ ca cr
def cT : Nat → CC → Expr → Option CT
  | 0, _, _ => none
  | n + 1, C, e => match e with
    | .UnaryOp op a _ => (match op with
      | .Not => (cT n C a).map .not_
      | _ => none)
    | .BoolOp op l _ => cBT n C (isAnd op) l
    | .Compare a ops l _ => (match ops, l with
      | [op], [b] => grd (notSet b) ((cE n C a).bind fun ca => (cE n C b).map fun cb => .e (.cmp (coI op) ca cb))
      | [op, op'], [b, c] => grd (notSet c) ((cE n C a).bind fun ca => (cE n C b).bind fun cb => (cE n C c).map fun cc => .e (.chain (coI op) (coI op') ca cb cc))
      | _, _ => none)
    | e => grd (plainT e) ((cE n C e).map .e)
def cBT : Nat → CC → Bool → List Expr → Option CT
  | 0, _, _, _ => none
  | n + 1, C, b, l => match l with
    | [] => none
    | [a] => cT n C a
    | a :: r => (cT n C a).bind fun ca => (cBT n C b r).map fun cr => if b then .and_ ca cr else .or_ ca cr
def cEs : Nat → CC → List Expr → Option (List CE)
  | 0, _, _ => none
  | n + 1, C, l => match l with
    | [] => some []
    | a :: r => (cE n C a).bind fun ca => (cEs n C r).map fun cr => ca :: cr
def cTs : Nat → CC → List Expr → Option (List CT)
  | 0, _, _ => none
  | n + 1, C, l => match l with
    | [] => some []
    | [a] => (cT n C a).map fun t => [t]
    | _ => none
def cO : Nat → CC → Option Expr → Option (Option CE)
  | 0, _, _ => none
  | n + 1, C, o => match o with
    | none => some none
    | some e => (cE n C e).map some
def cF : Nat → CC → List Expr → Option (List CE)
  | 0, _, _ => none
  | n + 1, C, l => match l with
    | [] => some []
    | e :: r => (match e with
      | .Constant c _ _ => (match c with
        | .str x => grd (okTb x.cps.toList) ((cF n C r).map fun cr => .cst (.str x.cps.toList) :: cr)
        | _ => none)
      | .FormattedValue v cv sp _ => grd (decide (cv = -1)) (match sp with
        | none => (cE n C v).bind fun cv => (cF n C r).map fun cr => cv :: cr
        | some _ => none)
      | _ => none)
/-- what is walked -/
def cI : Nat → CC → Expr → Option CE
  | 0, _, _ => none
  | n + 1, C, e => match e with
    | .Call f args kw _ => (match f with
      | .Name x _ => if x = "range" then (match kw, args with
        | [], [a] => grd (C.bi "range" && nostar a) ((cEs n C [a]).map .rng)
        | [], [a, b] => grd (C.bi "range" && nostar a && nostar b) ((cEs n C [a, b]).map .rng)
        | _, _ => none) else cE n C e
      | _ => cE n C e)
    | _ => cE n C e
/-- f(..) -/
def cCall : Nat → CC → Str → List Expr → Option CE
  | 0, _, _, _ => none
  | n + 1, C, x, args => match args with
    | [] => none
    | a :: r =>
      if C.bi x then
        (if x = "isinstance" then (match r with
          | [.Name t _] => (tyI t).bind fun ty => grd (C.bi t && nostar a) ((cE n C a).map fun ca => .isi ca ty)
          | _ => none)
        else if x = "all" ∨ x = "any" then (match a, r with
          | .GeneratorExp elt [g] sc _, [] => cG n C (decide (x = "any")) elt g.target g.iter g.ifs g.is_async sc
          | _, _ => none)
        else grd (!C.hot && (a :: r).all nostar) ((biI x (r.length + 1)).bind fun b => (cEs n C (a :: r)).map fun cs => .bi b cs))
      else grd (!C.hot && C.isG x && (a :: r).all nostar) (match C.gl.lookup x with
        | some (.fn f np dds) => grd (decide (r.length + 1 + dds.length = np)) ((cEs n C (a :: r)).map fun cs => .call f (cs ++ dds.map .cst))
        | _ => none)
/-- a generator expression -/
def cG : Nat → CC → Bool → Expr → Expr → Expr → List Expr → Int → Scope → Option CE
  | 0, _, _, _, _, _, _, _, _ => none
  | n + 1, C, sv, elt, tg, iter, ifs, asy, sc => grd (!C.hot && decide (asy = 0) && ifs.isEmpty && C.tb && decide (1 ≤ C.dep) && L2.blkC C.N ⟨.function, C.nm, false, false, []⟩ sc (ownOf C.N sc.names) && notFold iter && (sc.names.all fun y => decide (y.2 ≠ .cell)) && !sc.isCoroutine && decide (sc.names.lookup (".0" : Str) = some NameKind.local))
      ((cI n C iter).bind fun ci => (cTg n (C.gen sc) tg).bind fun t => (cE n (C.gen sc) elt).bind fun ce =>
      grd ((tgS t).all fun i => decide (i ∈ (ownOf C.N sc.names).map (·.2))) (some (if sv then .ang ((ownOf C.N sc.names).map (·.2)) t ci ce else .alg ((ownOf C.N sc.names).map (·.2)) t ci ce)))
end
mutual
def cS : Nat → CC → Stmt → Option CS
  | 0, _, _ => none
  | n + 1, C, s => match s with
    | .Pass _ => some .pass
    | .Break _ => some .brk
    | .Continue _ => some .cnt
    | .Expr e _ => (match e with
      | .Constant c _ _ => (match c with
        | .str _ => some .pass
        | _ => none)
      | e => grd (noComp e) ((cE n C e).map .exp))
    | .Return o _ => (match o with
      | none => some (.ret (.cst .non))
      | some e => (cE n C e).map .ret)
    | .If c a b _ => (cT n C c).bind fun ct => (cSs n C a).bind fun ca => (cSs n C b).map fun cb => .ife ct ca cb
    | .Assign ts e _ => (match ts with
      | [t] => grd (nostar t && (notTup t || notTup e)) ((cTg n C t).bind fun ct => (cE n C e).map fun ce => .asg (.t ct) ce)
      | _ => none)
    | .For tg iter body orelse _ => grd (!C.hot && orelse.isEmpty && notFold iter) ((cI n C iter).bind fun ci => (cTg n C tg).bind fun t => (cSs n C body).map fun cb => .for_ t ci cb)
    | .While c body orelse _ => grd (!C.hot && orelse.isEmpty) ((cT n C c).bind fun ct => (cSs n C body).map fun cb => .whl ct cb)
    | .Raise o cause _ => (match o, cause with
      | some e, none => (match e with
        | .Call f args kw _ => (match f, args, kw with
          | .Name x _, [a, b], [] => grd (!C.hot && decide (2 ≤ C.dep) && C.isG x && nostar a && nostar b) (match C.gl.lookup x with
            | some (.exc c r) => grd r ((cEs n C [a, b]).map (.rai c))
            | _ => none)
          | _, _, _ => none)
        | _ => none)
      | _, _ => none)
    | .Try body hs orelse fin _ => (match hs, orelse, fin with
      | [h], [], [] => cH n C body h
      | _, _, _ => none)
    | _ => none
/-- try: body, one clause -/
def cH : Nat → CC → List Stmt → ExceptHandler → Option CS
  | 0, _, _, _ => none
  | n + 1, C, body, h => match h with
    | .ExceptHandler ty nm suite _ => (match ty with
      | some t => (match t with
        | .Name x _ => grd (!C.hot && C.isG x && !suite.isEmpty) (match C.gl.lookup x with
          | some (.exc c _) => (cSs n C body).bind fun cb => (match nm with
            | some e => (idx e C.N 0).bind fun i => grd (decide (C.kind e = some .local)) ((cSs n { C with hot := true, xs := some i, tb := false } suite).map fun ch => .try_ cb [.mk c (some i) ch])
            | none => (cSs n { C with hot := true, xs := none, tb := false } suite).map fun ch => .try_ cb [.mk c none ch])
          | _ => none)
        | _ => none)
      | none => none)
def cSs : Nat → CC → List Stmt → Option (List CS)
  | 0, _, _ => none
  | n + 1, C, l => match l with
    | [] => some []
    | s :: r => (cS n C s).bind fun cs => (cSs n C r).map fun cr => cs :: cr
end
end Av
end
section
set_option Elab.async false
set_option linter.all false
set_option maxRecDepth 100000
set_option autoImplicit false
set_option maxHeartbeats 4000000
namespace Av
open PySem PySem.Spec PyProof.Rows L2
theorem grd_some {α : Type} {b : Bool} {x : Option α} {y : α} (h : grd b x = some y) : b = true ∧ x = some y := by
  unfold grd at h
  split at h
  · rename_i hb; exact ⟨hb, h⟩
  · cases h
theorem bnd {α β : Type} {o : Option α} {f : α → Option β} {y : β} (h : o.bind f = some y) : ∃ x, o = some x ∧ f x = some y := Option.bind_eq_some_iff.mp h
theorem mpd {α β : Type} {o : Option α} {f : α → β} {y : β} (h : o.map f = some y) : ∃ x, o = some x ∧ f x = y := Option.map_eq_some_iff.mp h
theorem idx_at {x : Str} : ∀ {N : List Str} {k i : Nat}, idx x N k = some i → ∃ j, i = k + j ∧ N[j]? = some x
  | [], _, _, h => by cases h
  | y :: r, k, i, h => by
    unfold idx at h
    split at h
    · rename_i e
      cases h
      exact ⟨0, rfl, by simp [e]⟩
    · obtain ⟨j, h1, h2⟩ := idx_at h
      exact ⟨j + 1, by omega, by simpa using h2⟩
theorem idx_get {x : Str} {N : List Str} {i : Nat} (h : idx x N 0 = some i) : N[i]? = some x := by
  obtain ⟨j, h1, h2⟩ := idx_at h
  rw [h1, Nat.zero_add]; exact h2
/-- what a global stands for, there -/
def GOk (S : SE) (E : ED) (P : Pm) (X : Cx) (j : Nat) (hot : Bool) (x : Str) : GK → Prop
  | .bi => X.mg x = none
  | .fn f np dds => hot = false → ∃ (fa : Addr) (fd : FuncData) (ps : List Str) (dvs : List V) (dus : List Value), FnOk X.prog X.w X.K X.mg X.base (L2.CX X.prog X.w) j fa fd ps (spC S E (P.cf f) np) ∧ X.mg x = some (.ref fa) ∧ PySem.W.keepIn X.K (.ref fa) = true ∧ Binds X.K fd ps dus ∧ Vals dvs dus ∧ ∀ w, RelDs w dds dvs
  | .cst d => ∃ (u : Value) (v : V), X.mg x = some u ∧ RelV v u ∧ ∀ w, RelD w d v
  | .exc c r => X.mg x = some (.ref (E.xa c)) ∧ (∀ c', PySem.W.exmOne S.K (.ref (E.xa c')) (.ref (E.xa c)) = some (P.xsub c' c)) ∧ (hot = false → r = true → XcOk X.prog X.w S E P X.mg X.base c x)
structure CtxOk (S : SE) (E : ED) (W : WX) (P : Pm) (j : Nat) (C : CC) (X : Cx) : Prop where
  G : XG0 S X
  N : X.N = C.N
  kind : X.env.scope.kind = .function
  nm : X.env.scope.names = C.nm
  cel : C.cell = true → ∀ x, X.fn x = true
  calm : C.hot = false → X.calm = true ∧ S.cur = none
  room : C.hot = false → Room (j + C.dep) X.A
  gl : ∀ x g, C.gl.lookup x = some g → GOk S E P X j C.hot x g
  tk : Takes X W
  tb : C.tb = true → ∃ c T, GxR.TabB X.base X.mg c T ∧ T ∈ S.tb ∧ X.env.code = .ref c
  xs : ∀ i, C.xs = some i → ∃ (X0 : Cx) (a : Addr) (oe : Obj) (pn : List (Addr × Obj)) (c : Nat) (dd : Addr), X = X0.suite a ((a, oe) :: pn) ∧ Zc (.ref (E.xa c)) (some dd) oe ∧ (∃ vs, oe.data = .fields vs) ∧ S.cur = some (i, a, c, E.xn c, dd)
  fs : ∀ f k, idx f C.fs 0 = some k → S.fn k = f
  xf : ∀ c k jj, P.xf c k = some jj → (E.xn c)[jj]? = some (S.fn k) ∧ (E.xn c).Nodup ∧ XfC S.K (E.xa c) ∧ PySem.W.findIn S.K (.ref (E.xa c)) (S.fn k) = some none
theorem CtxOk.GG {S : SE} {E : ED} {W : WX} {P : Pm} {j : Nat} {C : CC} {X : Cx} (h : CtxOk S E W P j C X) (hh : C.hot = false) : XG S X := ⟨h.G, (h.calm hh).1, (h.calm hh).2⟩
theorem nhot {C : CC} (h : (!C.hot) = true) : C.hot = false := by simpa using h
theorem takes0 {X : Cx} : Takes X W0 := fun u s' ⟨a, B, sI, pins, σ, H, cls, d, e, I, nb, up, sky, na, os, ag, w⟩ => w.elim
section
variable {S : SE} {E : ED} {W : WX} {P : Pm} {ro : Mem} {j n : Nat} {C : CC} {X : Cx}
theorem ctx_blk {sc : Scope} (h : CtxOk S E W P j C X) (hk : sc.kind = .function) (s : Shared) (H : Hp) (c : Addr) (cl : List (Str × Addr)) (fp : List Addr) : CtxOk S E W0 P j (C.blk sc) (X.blk s H sc (compEnvC sc cl c X.env) fp) where
  G := ⟨h.G.K, h.G.un, h.G.nd⟩
  N := h.N
  kind := hk
  nm := by
    show (sc.names.map fun (n, k) => if (k == .free && X.env.scope.kind == .function && X.env.kindOf n == some .cell) then (n, .cell) else (n, k)) = relNm sc.names C.nm
    unfold relNm Env.kindOf
    rw [h.kind, h.nm]
    congr 1
    funext p
    obtain ⟨n, k⟩ := p
    simp
  cel := fun z => by cases z
  calm := h.calm
  room := h.room
  gl := h.gl
  tk := takes0
  tb := fun z => by cases z
  xs := fun i z => by cases z
  fs := h.fs
  xf := h.xf
theorem ctx_gen {sc : Scope} {A' : Around} (h : CtxOk S E W P j C X) (hk : sc.kind = .function) (hd : 1 ≤ C.dep) (hr : Room (j + (C.dep - 1)) A') (s : Shared) (H : Hp) (c : Addr) (code : Value) (fp : List Addr) : CtxOk S E W0 P j (C.gen sc) (genX X A' s H (gEnv X sc c code) fp) where
  G := ⟨h.G.K, (by show A'.units + 150 < cLine; have := hr.un; omega), h.G.nd⟩
  N := h.N
  kind := hk
  nm := rfl
  cel := fun z => by cases z
  calm := h.calm
  room := fun _ => hr
  gl := h.gl
  tk := takes0
  tb := fun z => by cases z
  xs := fun i z => by cases z
  fs := h.fs
  xf := h.xf
/-- within a try -/
theorem ctx_tr {W' : WX} (h : CtxOk S E W P j C X) (hx : C.xs = none) (pn : List (Addr × Obj)) (xe : Value → Shared → Prop) (tk : Takes (X.tr pn xe) W') : CtxOk S E W' P j C (X.tr pn xe) where
  G := ⟨h.G.K, h.G.un, h.G.nd⟩
  N := h.N
  kind := h.kind
  nm := h.nm
  cel := h.cel
  calm := h.calm
  room := h.room
  gl := h.gl
  tk := tk
  tb := h.tb
  xs := fun i z => by rw [hx] at z; cases z
  fs := h.fs
  xf := h.xf
theorem gok_hot {S' : SE} {a : Addr} {pn : List (Addr × Obj)} {hot : Bool} {x : Str} (hK : S'.K = S.K) : ∀ {g : GK}, GOk S E P X j hot x g → GOk S' E P (X.suite a pn) j true x g
  | .bi, h => h
  | .fn f np dds, _ => fun z => by cases z
  | .cst d, h => h
  | .exc c r, ⟨h1, h2, _⟩ => ⟨h1, (fun c' => by rw [hK]; exact h2 c'), fun z => by cases z⟩
/-- within an except suite -/
theorem ctx_suite {a : Addr} {oe : Obj} {pn : List (Addr × Obj)} {c i : Nat} {dd : Addr} (h : CtxOk S E W P j C X) (hz : Zc (.ref (E.xa c)) (some dd) oe) (hf : ∃ vs, oe.data = .fields vs) : CtxOk (S.at_ E i a c dd) E W0 P j { C with hot := true, xs := some i, tb := false } (X.suite a ((a, oe) :: pn)) where
  G := ⟨h.G.K, h.G.un, h.G.nd⟩
  N := h.N
  kind := h.kind
  nm := h.nm
  cel := h.cel
  calm := fun z => by cases z
  room := fun z => by cases z
  gl := fun x g z => gok_hot (S := S) (S' := S.at_ E i a c dd) (a := a) (pn := (a, oe) :: pn) rfl (h.gl x g z)
  tk := takes0
  tb := fun z => by cases z
  xs := fun k z => by cases z; exact ⟨X, a, oe, pn, c, dd, rfl, hz, hf, rfl⟩
  fs := h.fs
  xf := h.xf
theorem ctx_suite0 {a : Addr} {oe : Obj} {pn : List (Addr × Obj)} (h : CtxOk S E W P j C X) : CtxOk S E W0 P j { C with hot := true, xs := none, tb := false } (X.suite a ((a, oe) :: pn)) where
  G := ⟨h.G.K, h.G.un, h.G.nd⟩
  N := h.N
  kind := h.kind
  nm := h.nm
  cel := h.cel
  calm := fun z => by cases z
  room := fun z => by cases z
  gl := fun x g z => gok_hot (S := S) (S' := S) (a := a) (pn := (a, oe) :: pn) rfl (h.gl x g z)
  tk := takes0
  tb := fun z => by cases z
  xs := fun k z => by cases z
  fs := h.fs
  xf := h.xf
theorem okN_db {x : Str} (h : okN x = true) : (x == ("__debug__" : Str)) = false ∧ (x == ("__classdict__" : Str)) = false ∧ (x == ("__name__" : Str)) = false := by
  unfold okN at h
  simp only [Bool.and_eq_true, Bool.not_eq_true'] at h
  exact ⟨h.1.1, h.1.2, h.2⟩
theorem isG_gl {x : Str} (h : CtxOk S E W P j C X) (hg : C.isG x = true) : Gl X x ∧ okN x = true := by
  unfold CC.isG at hg
  rw [Bool.and_eq_true] at hg
  refine ⟨?_, hg.2⟩
  have := of_decide_eq_true hg.1
  show X.env.scope.names.lookup x = _
  rw [h.nm]; exact this
theorem bi_gl {x : Str} (h : CtxOk S E W P j C X) (hg : C.bi x = true) : Gl X x ∧ X.mg x = none ∧ okN x = true := by
  unfold CC.bi at hg
  rw [Bool.and_eq_true] at hg
  obtain ⟨h1, h2⟩ := isG_gl h hg.1
  refine ⟨h1, ?_, h2⟩
  have := hg.2
  split at this
  · rename_i e; exact h.gl x _ e
  · cases this
theorem s_name {x : Str} {ce : CE} {pos : Pos} (h : CtxOk S E W P j C X) (e : cName C x = some ce) : PE X (.Name x pos) (xE S E W P ro ce) := by
  unfold cName at e
  obtain ⟨h1, e⟩ := grd_some e
  obtain ⟨n1, n2, n3⟩ := okN_db h1
  split at e
  · rename_i hv
    obtain ⟨i, h2, rfl⟩ := mpd e
    refine l_var (by rw [h.N]; exact idx_get h2) ?_ n1 n2
    unfold CC.vis at hv
    simp only [Bool.or_eq_true] at hv
    unfold Vis
    rw [h.nm]
    rcases hv with (hv | hv) | hv
    · exact .inl (of_decide_eq_true hv)
    · exact .inr (.inl (of_decide_eq_true hv))
    · exact .inr (.inr (of_decide_eq_true hv))
  · split at e
    · rename_i hg
      obtain ⟨g1, _⟩ := isG_gl h hg
      split at e
      · rename_i d hl
        cases e
        obtain ⟨u, v, k1, k2, k3⟩ := h.gl x _ hl
        exact l_glob g1 k1 k2 k3 n1
      · cases e
    · cases e
theorem each_eq {t : Expr} {ts : List Expr} {env : Env} (h : nostar t = true) : assignEach (t :: ts) env = (false, assign t env) :: assignEach ts env := by
  cases t <;> first | (cases h; done) | (simp only [assignEach]; done) | rfl
theorem cTgs_star : ∀ {n : Nat} {es : List Expr} {ts : List Tg}, cTgs n C es = some ts → es.all nostar = true ∧ ts.length = es.length
  | 0, _, _, h => by cases h
  | n + 1, [], _, h => by cases h; exact ⟨rfl, rfl⟩
  | n + 1, e :: r, ts, h => by
    obtain ⟨h1, h2⟩ := grd_some h
    obtain ⟨t, h3, h4⟩ := bnd h2
    obtain ⟨ts', h5, rfl⟩ := mpd h4
    obtain ⟨k1, k2⟩ := cTgs_star h5
    exact ⟨by rw [List.all_cons, h1, k1]; rfl, by simp [k2]⟩
theorem each_len {env : Env} : ∀ {es : List Expr}, es.all nostar = true → (assignEach es env).length = es.length ∧ (assignEach es env).findIdx? (·.1) = none
  | [], _ => ⟨rfl, rfl⟩
  | e :: r, h => by
    rw [List.all_cons, Bool.and_eq_true] at h
    rw [each_eq h.1]
    obtain ⟨k1, k2⟩ := each_len (env := env) h.2
    refine ⟨by simp [k1], ?_⟩
    rw [List.findIdx?_cons]
    simp [k2]
mutual
theorem s_tg (h : CtxOk S E W P j C X) : ∀ (n : Nat) (e : Expr) (t : Tg), cTg n C e = some t → PG X e (gTg X.K t)
  | 0, _, _, e => by cases e
  | n + 1, .Name x pos, t, e => by
    obtain ⟨h1, e⟩ := grd_some (show grd (C.loc x) ((idx x C.N 0).map .v) = some t from e)
    obtain ⟨i, h2, rfl⟩ := mpd e
    unfold CC.loc at h1
    simp only [Bool.or_eq_true, Bool.and_eq_true] at h1
    rw [show gTg X.K (.v i) = gName i by simp only [gTg]]
    rcases h1 with h1 | ⟨h1, h3⟩
    · exact pg_name h.G.nd (by rw [h.N]; exact idx_get h2) (.inl (by rw [h.nm]; exact of_decide_eq_true h1)) (.inr (by rw [h.nm]; exact of_decide_eq_true h1))
    · exact pg_name h.G.nd (by rw [h.N]; exact idx_get h2) (.inr (by rw [h.nm]; exact of_decide_eq_true h1)) (.inl (h.cel h3 x))
  | n + 1, .Tuple es k pos, t, e => by
    obtain ⟨hh, e⟩ := grd_some (show grd (!C.hot) ((cTgs n C es).map .t) = some t from e)
    obtain ⟨ts, h1, rfl⟩ := mpd e
    obtain ⟨k1, k2⟩ := cTgs_star h1
    obtain ⟨k3, k4⟩ := each_len (env := X.env) k1
    simp only [gTg]
    exact pg_tup (h.GG (nhot hh)).calm (s_tgs h n es ts h1) (by rw [k3, k2]) k4
  | n + 1, .BoolOp _ _ _, _, e => by cases e
  | n + 1, .NamedExpr _ _ _, _, e => by cases e
  | n + 1, .BinOp _ _ _ _, _, e => by cases e
  | n + 1, .UnaryOp _ _ _, _, e => by cases e
  | n + 1, .Lambda _ _ _ _, _, e => by cases e
  | n + 1, .IfExp _ _ _ _, _, e => by cases e
  | n + 1, .Dict _ _ _, _, e => by cases e
  | n + 1, .Set _ _ _, _, e => by cases e
  | n + 1, .ListComp _ _ _ _, _, e => by cases e
  | n + 1, .SetComp _ _ _ _, _, e => by cases e
  | n + 1, .DictComp _ _ _ _ _, _, e => by cases e
  | n + 1, .GeneratorExp _ _ _ _, _, e => by cases e
  | n + 1, .Await _ _, _, e => by cases e
  | n + 1, .Yield _ _, _, e => by cases e
  | n + 1, .YieldFrom _ _, _, e => by cases e
  | n + 1, .Compare _ _ _ _, _, e => by cases e
  | n + 1, .Call _ _ _ _, _, e => by cases e
  | n + 1, .FormattedValue _ _ _ _, _, e => by cases e
  | n + 1, .JoinedStr _ _, _, e => by cases e
  | n + 1, .Constant _ _ _, _, e => by cases e
  | n + 1, .Attribute _ _ _, _, e => by cases e
  | n + 1, .Subscript _ _ _, _, e => by cases e
  | n + 1, .Starred _ _, _, e => by cases e
  | n + 1, .List _ _, _, e => by cases e
  | n + 1, .Slice _ _ _ _, _, e => by cases e
theorem s_tgs (h : CtxOk S E W P j C X) : ∀ (n : Nat) (es : List Expr) (ts : List Tg), cTgs n C es = some ts → PGs X es (gTgs X.K ts)
  | 0, _, _, e => by cases e
  | n + 1, [], ts, e => by
    cases e
    simp only [gTgs]
    exact pgs_nil
  | n + 1, e :: r, ts, h' => by
    obtain ⟨h1, h2⟩ := grd_some h'
    obtain ⟨t, h3, h4⟩ := bnd h2
    obtain ⟨ts', h5, rfl⟩ := mpd h4
    simp only [gTgs]
    exact pgs_cons (s_tg h n e t h3) (s_tgs h n r ts' h5) (eachC h1)
end
end
end Av
end
section
set_option Elab.async false
set_option linter.all false
set_option maxRecDepth 100000
set_option autoImplicit false
set_option maxHeartbeats 8000000
namespace Av
open PySem PySem.Spec PyProof.Rows L2
theorem fold_ok {iter : Expr} {env : Env} (h : notFold iter = true) : ∀ x, foldedSetIterable iter env x = pure x := by
  intro x
  cases iter <;> first | (cases h; done) | rfl
theorem gfold_ok {iter : Expr} {env : Env} (h : notFold iter = true) : ∀ x, genFold iter env x = pure x := by
  intro x
  cases iter <;> first | (cases h; done) | rfl
theorem boI_op {op : Operator} {o : BO} (h : boI op = some o) : op = boOp o := by
  cases op <;> first | (cases h; rfl) | cases h
theorem coI_op (op : CmpOp) : coOp (coI op) = op := by cases op <;> rfl
theorem tyI_nm {t : Str} {ty : Ty} (h : tyI t = some ty) : t = Str.ofString (tyN ty) ∧ tyOk ty = true := by
  unfold tyI at h
  repeat' split at h
  all_goals first | (cases h; rename_i e; exact ⟨e, rfl⟩) | cases h
theorem biI_nm {x : Str} {n : Nat} {b : Bi} (h : biI x n = some b) : x = biN b ∧ biOk b = true := by
  unfold biI at h
  repeat' split at h
  all_goals first | (cases h; rename_i e; exact ⟨e, rfl⟩) | (cases h; rename_i e; exact ⟨e.1, rfl⟩) | cases h
theorem bmI_nm {x : Str} {b : Bm} (h : bmI x = some b) : x = bmN b ∧ bmOk b = true := by
  unfold bmI at h
  repeat' split at h
  all_goals first | (cases h; rename_i e; exact ⟨e, rfl⟩) | cases h
theorem bcI_nm {x : Str} {b : Bc} (h : bcI x = some b) : x = bcN b ∧ bcOk b = true := by
  unfold bcI at h
  repeat' split at h
  all_goals first | (cases h; rename_i e; exact ⟨e, rfl⟩) | cases h
def bOp (b : Bool) : BoolOp := if b then .And else .Or
theorem isAnd_op (op : BoolOp) : bOp (isAnd op) = op := by cases op <;> rfl
/-- what a list comprehension needs -/
def LcOk (S : SE) (E : ED) (W : WX) (P : Pm) (ro : Mem) (X : Cx) (elt tg iter : Expr) (ifs : List Expr) (sc : Scope) (ce : CE) : Prop := XG S X ∧
  ∃ (own : List (Str × Nat)) (t : Tg) (ci : CE) (cts : List CT) (cl : CE), ce = .lc (own.map (·.2)) t ci cts cl ∧ PI X tg iter (xI S X E W P ro ci) ∧ BlkOk X.N X.env.scope sc own ∧ (∀ i ∈ tgS t, i ∈ own.map (·.2)) ∧
    (∀ (s : Shared) (H : Hp) (c : Addr) (cl : List (Str × Addr)) (fp : List Addr), PG (X.blk s H sc (compEnvC sc cl c X.env) fp) tg (gTg X.K t)) ∧ (∀ (s : Shared) (H : Hp) (c : Addr) (cl : List (Str × Addr)) (fp : List Addr), PTs (X.blk s H sc (compEnvC sc cl c X.env) fp) ifs (xTs S E W0 P ro cts)) ∧
    (∀ (s : Shared) (H : Hp) (c : Addr) (cl' : List (Str × Addr)) (fp : List Addr), PE (X.blk s H sc (compEnvC sc cl' c X.env) fp) elt (xE S E W0 P ro cl)) ∧ ∀ x, foldedSetIterable iter X.env x = pure x
/-- what a dict comprehension needs -/
def DcOk (S : SE) (E : ED) (W : WX) (P : Pm) (ro : Mem) (X : Cx) (kx vx tg iter : Expr) (ifs : List Expr) (sc : Scope) (ce : CE) : Prop := XG S X ∧
  ∃ (own : List (Str × Nat)) (t : Tg) (ci : CE) (cts : List CT) (ck cv : CE), ce = .dc (own.map (·.2)) t ci cts ck cv ∧ PI X tg iter (xI S X E W P ro ci) ∧ BlkOk X.N X.env.scope sc own ∧ (∀ i ∈ tgS t, i ∈ own.map (·.2)) ∧
    (∀ (s : Shared) (H : Hp) (c : Addr) (cl : List (Str × Addr)) (fp : List Addr), PG (X.blk s H sc (compEnvC sc cl c X.env) fp) tg (gTg X.K t)) ∧ (∀ (s : Shared) (H : Hp) (c : Addr) (cl : List (Str × Addr)) (fp : List Addr), PTs (X.blk s H sc (compEnvC sc cl c X.env) fp) ifs (xTs S E W0 P ro cts)) ∧
    (∀ (s : Shared) (H : Hp) (c : Addr) (cl' : List (Str × Addr)) (fp : List Addr), PE (X.blk s H sc (compEnvC sc cl' c X.env) fp) kx (xE S E W0 P ro ck)) ∧ (∀ (s : Shared) (H : Hp) (c : Addr) (cl' : List (Str × Addr)) (fp : List Addr), PE (X.blk s H sc (compEnvC sc cl' c X.env) fp) vx (xE S E W0 P ro cv)) ∧ ∀ x, foldedSetIterable iter X.env x = pure x
structure Snd (S : SE) (E : ED) (P : Pm) (ro : Mem) (j n : Nat) : Prop where
  e : ∀ {C : CC} {X : Cx} {W : WX} {e : Expr} {ce : CE}, CtxOk S E W P j C X → cE n C e = some ce → PE X e (xE S E W P ro ce)
  b : ∀ {C : CC} {X : Cx} {W : WX} {k : Bool} {l : List Expr} {ce : CE} {pos : Pos}, CtxOk S E W P j C X → cB n C k l = some ce → PE X (.BoolOp (bOp k) l pos) (xE S E W P ro ce)
  t : ∀ {C : CC} {X : Cx} {W : WX} {e : Expr} {ct : CT}, CtxOk S E W P j C X → cT n C e = some ct → PT X e (xT S E W P ro ct)
  bt : ∀ {C : CC} {X : Cx} {W : WX} {k : Bool} {l : List Expr} {ct : CT} {pos : Pos}, CtxOk S E W P j C X → cBT n C k l = some ct → PW X (.BoolOp (bOp k) l pos) (xT S E W P ro ct)
  es : ∀ {C : CC} {X : Cx} {W : WX} {l : List Expr} {cs : List CE}, CtxOk S E W P j C X → l.all nostar = true → cEs n C l = some cs → PA X l (xA S E W P ro cs) ∧ cs.length = l.length
  ts : ∀ {C : CC} {X : Cx} {W : WX} {l : List Expr} {cs : List CT}, CtxOk S E W P j C X → cTs n C l = some cs → PTs X l (xTs S E W P ro cs)
  o : ∀ {C : CC} {X : Cx} {W : WX} {o : Option Expr} {co : Option CE}, CtxOk S E W P j C X → cO n C o = some co → PO X o (xO S E W P ro co)
  f : ∀ {C : CC} {X : Cx} {W : WX} {l : List Expr} {cs : List CE}, CtxOk S E W P j C X → cF n C l = some cs → PF X S E W P ro l cs
  i : ∀ {C : CC} {X : Cx} {W : WX} {e tg : Expr} {ce : CE}, CtxOk S E W P j C X → cI n C e = some ce → PI X tg e (xI S X E W P ro ce)
  call : ∀ {C : CC} {X : Cx} {W : WX} {x : Str} {args : List Expr} {ce : CE} {p pos : Pos}, CtxOk S E W P j C X → cCall n C x args = some ce → PE X (.Call (.Name x p) args [] pos) (xE S E W P ro ce)
  lc : ∀ {C : CC} {X : Cx} {W : WX} {elt tg iter : Expr} {ifs : List Expr} {sc : Scope} {ce : CE}, CtxOk S E W P j C X → cLc n C elt tg iter ifs sc = some ce → LcOk S E W P ro X elt tg iter ifs sc ce
  dc : ∀ {C : CC} {X : Cx} {W : WX} {kx vx tg iter : Expr} {ifs : List Expr} {sc : Scope} {ce : CE}, CtxOk S E W P j C X → cDc n C kx vx tg iter ifs sc = some ce → DcOk S E W P ro X kx vx tg iter ifs sc ce
  g : ∀ {C : CC} {X : Cx} {W : WX} {sv : Bool} {elt tg iter : Expr} {ifs : List Expr} {asy : Int} {sc : Scope} {ce : CE} {p pos gp : Pos} {x : Str}, CtxOk S E W P j C X → x = (if sv then "any" else "all") → C.bi x = true → cG n C sv elt tg iter ifs asy sc = some ce →
    PE X (.Call (.Name x p) [.GeneratorExp elt [⟨tg, iter, ifs, asy⟩] sc gp] [] pos) (xE S E W P ro ce)
section
variable {S : SE} {E : ED} {W : WX} {P : Pm} {ro : Mem} {j n : Nat} {C : CC} {X : Cx}
theorem snd0 : Snd S E P ro j 0 := by
  constructor <;> intros <;> rename_i h <;> first | cases h | (simp_all [cE, cB, cT, cBT, cEs, cTs, cO, cF, cI, cCall, cLc, cDc, cG])
theorem blk_of {sc : Scope} (h : CtxOk S E W P j C X) (hb : L2.blkC C.N ⟨.function, C.nm, false, false, []⟩ sc (ownOf C.N sc.names) = true) : BlkOk X.N X.env.scope sc (ownOf C.N sc.names) := by
  obtain ⟨h1, h2, h3, h4, h5⟩ := blkOk_by hb
  rw [h.N]
  exact ⟨h1, h2, h3, fun y hy e => by rw [h.nm]; exact h4 y hy e, h5⟩
theorem s_lc (ih : Snd S E P ro j n) {elt tg iter : Expr} {ifs : List Expr} {sc : Scope} {ce : CE} (h : CtxOk S E W P j C X) (e : cLc (n + 1) C elt tg iter ifs sc = some ce) : LcOk S E W P ro X elt tg iter ifs sc ce := by
  unfold cLc at e
  obtain ⟨h1, e⟩ := grd_some e
  rw [Bool.and_eq_true, Bool.and_eq_true] at h1
  obtain ⟨ci, e1, e⟩ := bnd e
  obtain ⟨t, e2, e⟩ := bnd e
  obtain ⟨cts, e3, e⟩ := bnd e
  obtain ⟨cl, e4, e⟩ := bnd e
  obtain ⟨h2, e⟩ := grd_some e
  cases e
  have ok := blk_of h h1.1.2
  refine ⟨h.GG (nhot h1.1.1), ownOf C.N sc.names, t, ci, cts, cl, rfl, ih.i h e1, ok, fun i hi => of_decide_eq_true (List.all_eq_true.mp h2 i hi), fun s H c cl' fp => ?_, fun s H c cl' fp => ?_, fun s H c cl' fp => ?_, fold_ok h1.2⟩
  · exact s_tg (ctx_blk h ok.kind s H c cl' fp) n tg t e2
  · exact ih.ts (ctx_blk h ok.kind s H c cl' fp) e3
  · exact ih.e (ctx_blk h ok.kind s H c cl' fp) e4
theorem s_dc (ih : Snd S E P ro j n) {kx vx tg iter : Expr} {ifs : List Expr} {sc : Scope} {ce : CE} (h : CtxOk S E W P j C X) (e : cDc (n + 1) C kx vx tg iter ifs sc = some ce) : DcOk S E W P ro X kx vx tg iter ifs sc ce := by
  unfold cDc at e
  obtain ⟨h1, e⟩ := grd_some e
  rw [Bool.and_eq_true, Bool.and_eq_true] at h1
  obtain ⟨ci, e1, e⟩ := bnd e
  obtain ⟨t, e2, e⟩ := bnd e
  obtain ⟨cts, e3, e⟩ := bnd e
  obtain ⟨ck, e4, e⟩ := bnd e
  obtain ⟨cv, e5, e⟩ := bnd e
  obtain ⟨h2, e⟩ := grd_some e
  cases e
  have ok := blk_of h h1.1.2
  refine ⟨h.GG (nhot h1.1.1), ownOf C.N sc.names, t, ci, cts, ck, cv, rfl, ih.i h e1, ok, fun i hi => of_decide_eq_true (List.all_eq_true.mp h2 i hi), fun s H c cl' fp => ?_, fun s H c cl' fp => ?_, fun s H c cl' fp => ?_, fun s H c cl' fp => ?_, fold_ok h1.2⟩
  · exact s_tg (ctx_blk h ok.kind s H c cl' fp) n tg t e2
  · exact ih.ts (ctx_blk h ok.kind s H c cl' fp) e3
  · exact ih.e (ctx_blk h ok.kind s H c cl' fp) e4
  · exact ih.e (ctx_blk h ok.kind s H c cl' fp) e5
theorem s_g (ih : Snd S E P ro j n) {sv : Bool} {elt tg iter : Expr} {ifs : List Expr} {asy : Int} {sc : Scope} {ce : CE} {p pos gp : Pos} {x : Str} (h : CtxOk S E W P j C X) (hx : x = (if sv then "any" else "all")) (hb : C.bi x = true) (e : cG (n + 1) C sv elt tg iter ifs asy sc = some ce) :
    PE X (.Call (.Name x p) [.GeneratorExp elt [⟨tg, iter, ifs, asy⟩] sc gp] [] pos) (xE S E W P ro ce) := by
  unfold cG at e
  obtain ⟨h1, q⟩ := grd_some e
  clear e
  simp only [Bool.and_eq_true, decide_eq_true_eq, List.isEmpty_iff] at h1
  obtain ⟨⟨⟨⟨⟨⟨⟨⟨⟨a0, a1⟩, a2⟩, a3⟩, a4⟩, a5⟩, a6⟩, a7⟩, a8⟩, a9⟩ := h1
  have a0 := nhot a0
  subst a1; subst a2
  obtain ⟨ci, e1, q⟩ := bnd q
  obtain ⟨t, e2, q⟩ := bnd q
  obtain ⟨cl, e4, q⟩ := bnd q
  obtain ⟨h2, q⟩ := grd_some q
  cases q
  have ok := blk_of h a5
  obtain ⟨c, T, TB, hT, hcode⟩ := h.tb a3
  obtain ⟨g1, g2, _⟩ := bi_gl h hb
  have rm : Room ((j + (C.dep - 1)) + 1) X.A := by
    have := h.room a0
    rw [show j + C.dep = (j + (C.dep - 1)) + 1 by omega] at this
    exact this
  have hcell : ∀ y ∈ sc.names, y.2 ≠ .cell := fun y hy => of_decide_eq_true (List.all_eq_true.mp a7 y hy)
  have hco : sc.isCoroutine = false := by simpa using a8
  have htg : ∀ i ∈ tgS t, i ∈ (ownOf C.N sc.names).map (·.2) := fun i hi => of_decide_eq_true (List.all_eq_true.mp h2 i hi)
  cases sv with
  | true =>
    have hx : x = "any" := hx
    subst hx
    exact l_any (h.GG a0) rm g1 g2 TB hT hcode ok hcell hco a9 htg (ih.i h e1) (gfold_ok a6) (fun A' s H c code fp r => s_tg (ctx_gen h ok.kind a4 r s H c code fp) n tg t e2) (fun A' s H c code fp r => ih.e (ctx_gen h ok.kind a4 r s H c code fp) e4)
  | false =>
    have hx : x = "all" := hx
    subst hx
    exact l_all (h.GG a0) rm g1 g2 TB hT hcode ok hcell hco a9 htg (ih.i h e1) (gfold_ok a6) (fun A' s H c code fp r => s_tg (ctx_gen h ok.kind a4 r s H c code fp) n tg t e2) (fun A' s H c code fp r => ih.e (ctx_gen h ok.kind a4 r s H c code fp) e4)
theorem s_call (ih : Snd S E P ro j n) {x : Str} {args : List Expr} {ce : CE} {p pos : Pos} (h : CtxOk S E W P j C X) (e : cCall (n + 1) C x args = some ce) : PE X (.Call (.Name x p) args [] pos) (xE S E W P ro ce) := by
  cases args with
  | nil => cases e
  | cons a r =>
    have q : (if C.bi x then
        (if x = "isinstance" then (match r with
          | [.Name t _] => (tyI t).bind fun ty => grd (C.bi t && nostar a) ((cE n C a).map fun ca => .isi ca ty)
          | _ => none)
        else if x = "all" ∨ x = "any" then (match a, r with
          | .GeneratorExp elt [g] sc _, [] => cG n C (decide (x = "any")) elt g.target g.iter g.ifs g.is_async sc
          | _, _ => none)
        else grd (!C.hot && (a :: r).all nostar) ((biI x (r.length + 1)).bind fun b => (cEs n C (a :: r)).map fun cs => .bi b cs))
      else grd (!C.hot && C.isG x && (a :: r).all nostar) (match C.gl.lookup x with
        | some (.fn f np dds) => grd (decide (r.length + 1 + dds.length = np)) ((cEs n C (a :: r)).map fun cs => .call f (cs ++ dds.map .cst))
        | _ => none)) = some ce := e
    clear e
    split at q
    · rename_i hb
      obtain ⟨g1, g2, _⟩ := bi_gl h hb
      split at q
      · rename_i hx
        subst hx
        split at q
        · rename_i t p2
          obtain ⟨ty, e1, q⟩ := bnd q
          obtain ⟨h1, q⟩ := grd_some q
          rw [Bool.and_eq_true] at h1
          obtain ⟨ca, e2, rfl⟩ := mpd q
          obtain ⟨rfl, tok⟩ := tyI_nm e1
          obtain ⟨g3, g4, _⟩ := bi_gl h h1.1
          exact l_isi tok g1 g2 g3 g4 (ih.e h e2) h1.2
        · cases q
      · split at q
        · rename_i hx
          split at q
          · rename_i elt g sc gp
            obtain ⟨tg, iter, ifs, asy⟩ := g
            refine ih.g h ?_ hb q
            rcases hx with rfl | rfl <;> decide
          · cases q
        · obtain ⟨h1, q⟩ := grd_some q
          rw [Bool.and_eq_true] at h1
          obtain ⟨h0, h1⟩ := h1
          obtain ⟨b, e1, q⟩ := bnd q
          obtain ⟨cs, e2, rfl⟩ := mpd q
          obtain ⟨rfl, bok⟩ := biI_nm e1
          have h1' : nostar a = true ∧ r.all nostar = true := by rw [List.all_cons, Bool.and_eq_true] at h1; exact h1
          exact l_bi (h.GG (nhot h0)) bok g1 g2 (ih.es h h1 e2).1 (star1 h1'.1) (plain_any h1'.2)
    · obtain ⟨h1, q⟩ := grd_some q
      rw [Bool.and_eq_true, Bool.and_eq_true] at h1
      obtain ⟨⟨h0, h1⟩, h1'⟩ := h1
      have h0 := nhot h0
      have h1 : C.isG x = true ∧ (a :: r).all nostar = true := ⟨h1, h1'⟩
      obtain ⟨g1, g2⟩ := isG_gl h h1.1
      split at q
      · rename_i f np dds hl
        obtain ⟨h2, q⟩ := grd_some q
        obtain ⟨cs, e2, rfl⟩ := mpd q
        obtain ⟨fa, fd, ps, dvs, dus, F, k1, k2, k3, k4, k5⟩ := h.gl x _ hl h0
        obtain ⟨p1, p2⟩ := ih.es h h1.2 e2
        exact l_call (h.GG h0).cur F h.tk ((h.room h0).mono (Nat.le_add_right _ _)) g1 k1 k2 k3 k4 k5 h2 (by simpa using p2) p1 (okN_db g2).1 h1.2
      · cases q
end
end Av
end
section
set_option Elab.async false
set_option linter.all false
set_option maxRecDepth 100000
set_option autoImplicit false
set_option maxHeartbeats 8000000
namespace Av
open PySem PySem.Spec PyProof.Rows L2
section
variable {S : SE} {E : ED} {W : WX} {P : Pm} {ro : Mem} {j n : Nat} {C : CC} {X : Cx}
theorem s_b (ih : Snd S E P ro j n) {k : Bool} {l : List Expr} {ce : CE} {pos : Pos} (h : CtxOk S E W P j C X) (q : cB (n + 1) C k l = some ce) : PE X (.BoolOp (bOp k) l pos) (xE S E W P ro ce) := by
  match l, q with
  | [], q => cases q
  | [a], q => exact pe_one (ih.e h q)
  | a :: b :: r, q =>
    have q : ((cE n C a).bind fun ca => (cB n C k (b :: r)).map fun cr => if k then CE.and_ ca cr else .or_ ca cr) = some ce := q
    obtain ⟨ca, e1, q⟩ := bnd q
    obtain ⟨cr, e2, rfl⟩ := mpd q
    have h2 := ih.b (pos := pos) h e2
    cases k with
    | true => exact l_and (ih.e h e1) h2
    | false => exact l_or (ih.e h e1) h2
theorem s_bt (ih : Snd S E P ro j n) {k : Bool} {l : List Expr} {ct : CT} {pos : Pos} (h : CtxOk S E W P j C X) (q : cBT (n + 1) C k l = some ct) : PW X (.BoolOp (bOp k) l pos) (xT S E W P ro ct) := by
  match l, q with
  | [], q => cases q
  | [a], q =>
    cases k with
    | true => exact pw_and1 (ih.t h q)
    | false => exact pw_or1 (ih.t h q)
  | a :: b :: r, q =>
    have q : ((cT n C a).bind fun ca => (cBT n C k (b :: r)).map fun cr => if k then CT.and_ ca cr else .or_ ca cr) = some ct := q
    obtain ⟨ca, e1, q⟩ := bnd q
    obtain ⟨cr, e2, rfl⟩ := mpd q
    have h2 := ih.bt (pos := pos) h e2
    cases k with
    | true => exact lt_and (ih.t h e1) h2
    | false => exact lt_or (ih.t h e1) h2
theorem s_es (ih : Snd S E P ro j n) {l : List Expr} {cs : List CE} (h : CtxOk S E W P j C X) (hs : l.all nostar = true) (q : cEs (n + 1) C l = some cs) : PA X l (xA S E W P ro cs) ∧ cs.length = l.length := by
  match l, q, hs with
  | [], q, _ => cases q; exact ⟨la_nil, rfl⟩
  | a :: r, q, hs =>
    rw [List.all_cons, Bool.and_eq_true] at hs
    have q : ((cE n C a).bind fun ca => (cEs n C r).map fun cr => ca :: cr) = some cs := q
    obtain ⟨ca, e1, q⟩ := bnd q
    obtain ⟨cr, e2, rfl⟩ := mpd q
    obtain ⟨p1, p2⟩ := ih.es h hs.2 e2
    exact ⟨la_cons (ih.e h e1) p1 (star1 hs.1), by simp [p2]⟩
theorem s_ts (ih : Snd S E P ro j n) {l : List Expr} {cs : List CT} (h : CtxOk S E W P j C X) (q : cTs (n + 1) C l = some cs) : PTs X l (xTs S E W P ro cs) := by
  match l, q with
  | [], q => cases q; exact lts_nil
  | [a], q =>
    obtain ⟨t, e1, rfl⟩ := mpd (show (cT n C a).map (fun t => [t]) = some cs from q)
    exact lts_one (ih.t h e1)
  | _ :: _ :: _, q => cases q
theorem s_o (ih : Snd S E P ro j n) {o : Option Expr} {co : Option CE} (h : CtxOk S E W P j C X) (q : cO (n + 1) C o = some co) : PO X o (xO S E W P ro co) := by
  cases o with
  | none => cases q; exact lo_none
  | some e =>
    obtain ⟨c, e1, rfl⟩ := mpd (show (cE n C e).map some = some co from q)
    exact lo_some (ih.e h e1)
theorem s_f (ih : Snd S E P ro j n) {l : List Expr} {cs : List CE} (h : CtxOk S E W P j C X) (q : cF (n + 1) C l = some cs) : PF X S E W P ro l cs := by
  cases l with
  | nil => cases q; exact .nil
  | cons e r =>
    replace q : (match (generalizing := false) e with
      | .Constant c _ _ => (match (generalizing := false) c with
        | .str x => grd (okTb x.cps.toList) ((cF n C r).map fun cr => CE.cst (.str x.cps.toList) :: cr)
        | _ => none)
      | .FormattedValue v cv sp _ => grd (decide (cv = -1)) (match (generalizing := false) sp with
        | none => (cE n C v).bind fun cv => (cF n C r).map fun cr => cv :: cr
        | some _ => none)
      | _ => none) = some cs := q
    split at q
    · split at q
      · rename_i x
        obtain ⟨h1, q⟩ := grd_some q
        obtain ⟨cr, e1, rfl⟩ := mpd q
        have := fun (j : Nat) (p : Pos) => PF.str (X := X) (S := S) (E := E) (W := W) (P := P) (ro := ro) (j := j) (p := p) h1 (ih.f h e1)
        simp only [xS_of] at this
        exact this _ _
      · cases q
    · obtain ⟨h1, q⟩ := grd_some q
      have h1 := of_decide_eq_true h1
      subst h1
      split at q
      · obtain ⟨cv, e1, q⟩ := bnd q
        obtain ⟨cr, e2, rfl⟩ := mpd q
        exact .fmt (ih.e h e1) (ih.f h e2)
      · cases q
    · cases q
theorem s_i (ih : Snd S E P ro j n) {e tg : Expr} {ce : CE} (h : CtxOk S E W P j C X) (q : cI (n + 1) C e = some ce) : PI X tg e (xI S X E W P ro ce) := by
  have gen : ∀ {e : Expr}, cE n C e = some ce → PI X tg e (xI S X E W P ro ce) := fun e1 => li_val h.G.K (ih.e h e1)
  replace q : (match (generalizing := false) e with
    | .Call f args kw _ => (match (generalizing := false) f with
      | .Name x _ => if x = "range" then (match (generalizing := false) kw, args with
        | [], [a] => grd (C.bi "range" && nostar a) ((cEs n C [a]).map .rng)
        | [], [a, b] => grd (C.bi "range" && nostar a && nostar b) ((cEs n C [a, b]).map .rng)
        | _, _ => none) else cE n C e
      | _ => cE n C e)
    | _ => cE n C e) = some ce := q
  split at q
  · split at q
    · split at q
      · rename_i hx
        subst hx
        split at q
        · obtain ⟨h1, q⟩ := grd_some q
          rw [Bool.and_eq_true] at h1
          obtain ⟨cs, e1, rfl⟩ := mpd q
          obtain ⟨g1, g2, _⟩ := bi_gl h h1.1
          obtain ⟨p1, p2⟩ := ih.es h (by simp [h1.2]) e1
          match cs, p2, p1 with
          | [c], _, p1 => exact li_rng1 g1 g2 p1 h1.2
        · obtain ⟨h1, q⟩ := grd_some q
          simp only [Bool.and_eq_true] at h1
          obtain ⟨cs, e1, rfl⟩ := mpd q
          obtain ⟨g1, g2, _⟩ := bi_gl h h1.1.1
          obtain ⟨p1, p2⟩ := ih.es h (by simp [h1.2, h1.1.2]) e1
          match cs, p2, p1 with
          | [c, d], _, p1 => exact li_rng2 g1 g2 p1 h1.1.2 h1.2
        · cases q
      · exact gen q
    · exact gen q
  · exact gen q
theorem s_t (ih : Snd S E P ro j n) {e : Expr} {ct : CT} (h : CtxOk S E W P j C X) (q : cT (n + 1) C e = some ct) : PT X e (xT S E W P ro ct) := by
  replace q : (match (generalizing := false) e with
    | .UnaryOp op a _ => (match (generalizing := false) op with
      | .Not => (cT n C a).map .not_
      | _ => none)
    | .BoolOp op l _ => cBT n C (isAnd op) l
    | .Compare a ops l _ => (match (generalizing := false) ops, l with
      | [op], [b] => grd (notSet b) ((cE n C a).bind fun ca => (cE n C b).map fun cb => CT.e (.cmp (coI op) ca cb))
      | [op, op'], [b, c] => grd (notSet c) ((cE n C a).bind fun ca => (cE n C b).bind fun cb => (cE n C c).map fun cc => .e (.chain (coI op) (coI op') ca cb cc))
      | _, _ => none)
    | e => grd (plainT e) ((cE n C e).map .e)) = some ct := q
  split at q
  · split at q
    · obtain ⟨c, e1, rfl⟩ := mpd q
      exact lt_not (ih.t h e1)
    · cases q
  · have := fun (pos : Pos) => ih.bt (pos := pos) h q
    simp only [isAnd_op] at this
    exact (this _).pt
  · split at q
    · obtain ⟨h1, q⟩ := grd_some q
      obtain ⟨ca, e1, q⟩ := bnd q
      obtain ⟨cb, e2, rfl⟩ := mpd q
      have := fun (op : CmpOp) (pos : Pos) => lt_cmp (pos := pos) (op := coI op) h.G (ih.e h e1) (ih.e h e2) (behind_ok h1)
      simp only [coI_op] at this
      exact this _ _
    · obtain ⟨h1, q⟩ := grd_some q
      obtain ⟨ca, e1, q⟩ := bnd q
      obtain ⟨cb, e2, q⟩ := bnd q
      obtain ⟨cc, e3, rfl⟩ := mpd q
      have := fun (op op' : CmpOp) (pos : Pos) => lt_chain (pos := pos) (op := coI op) (op' := coI op') h.G (ih.e h e1) (ih.e h e2) (ih.e h e3) (last_ok h1)
      simp only [coI_op] at this
      exact this _ _ _
    · cases q
  · obtain ⟨h1, q⟩ := grd_some q
    obtain ⟨c, e1, rfl⟩ := mpd q
    exact lt_val h.G (ih.e h e1) (isTrue_ok h1)
end
end Av
end
section
set_option Elab.async false
set_option linter.all false
set_option maxRecDepth 100000
set_option autoImplicit false
set_option maxHeartbeats 8000000
namespace Av
open PySem PySem.Spec PyProof.Rows L2
section
variable {S : SE} {E : ED} {W : WX} {P : Pm} {ro : Mem} {j n : Nat} {C : CC} {X : Cx}
theorem s_e (ih : Snd S E P ro j n) {e : Expr} {ce : CE} (h : CtxOk S E W P j C X) (q : cE (n + 1) C e = some ce) : PE X e (xE S E W P ro ce) := by
  cases e with
  | Constant c k pos =>
    replace q : (match (generalizing := false) c with
      | .int i => some (.cst (.int i))
      | .bool b => some (.cst (.bl b))
      | .none => some (.cst .non)
      | .str x => grd (okTb x.cps.toList) (some (.cst (.str x.cps.toList)))
      | _ => none) = some ce := q
    split at q
    · cases q; exact l_int
    · cases q; exact l_bl
    · cases q; exact l_non
    · obtain ⟨h1, q⟩ := grd_some q
      cases q
      have := fun (j : Nat) (pos : Pos) => l_str (X := X) (S := S) (E := E) (W := W) (P := P) (ro := ro) (j := j) (pos := pos) h1
      simp only [xS_of] at this
      exact this _ _
    · cases q
  | Name x pos => exact s_name h q
  | BinOp a op b pos =>
    obtain ⟨o, e0, q⟩ := bnd (show ((boI op).bind fun o => (cE n C a).bind fun ca => (cE n C b).map fun cb => CE.bin o ca cb) = some ce from q)
    obtain ⟨ca, e1, q⟩ := bnd q
    obtain ⟨cb, e2, rfl⟩ := mpd q
    rw [boI_op e0]
    exact l_bin h.G (ih.e h e1) (ih.e h e2)
  | UnaryOp op a pos =>
    replace q : (match (generalizing := false) op with
      | .USub => (cE n C a).map .neg
      | .Not => (cE n C a).map .not_
      | _ => none) = some ce := q
    split at q
    · obtain ⟨c, e1, rfl⟩ := mpd q
      exact l_neg (ih.e h e1)
    · obtain ⟨c, e1, rfl⟩ := mpd q
      exact l_not h.G (ih.e h e1)
    · cases q
  | BoolOp op l pos =>
    have := ih.b (pos := pos) h (show cB n C (isAnd op) l = some ce from q)
    rw [isAnd_op] at this
    exact this
  | IfExp t a b pos =>
    obtain ⟨ct, e0, q⟩ := bnd (show ((cT n C t).bind fun ct => (cE n C a).bind fun ca => (cE n C b).map fun cb => CE.ife ct ca cb) = some ce from q)
    obtain ⟨ca, e1, q⟩ := bnd q
    obtain ⟨cb, e2, rfl⟩ := mpd q
    exact l_ife (ih.t h e0) (ih.e h e1) (ih.e h e2)
  | Compare a ops l pos =>
    replace q : (match (generalizing := false) ops, l with
      | [op], [b] => grd (notSet b) ((cE n C a).bind fun ca => (cE n C b).map fun cb => CE.cmp (coI op) ca cb)
      | [op, op'], [b, c] => grd (notSet c) ((cE n C a).bind fun ca => (cE n C b).bind fun cb => (cE n C c).map fun cc => .chain (coI op) (coI op') ca cb cc)
      | _, _ => none) = some ce := q
    split at q
    · obtain ⟨h1, q⟩ := grd_some q
      obtain ⟨ca, e1, q⟩ := bnd q
      obtain ⟨cb, e2, rfl⟩ := mpd q
      have := fun (op : CmpOp) => l_cmp (pos := pos) (op := coI op) h.G (ih.e h e1) (ih.e h e2) (behind_ok h1)
      simp only [coI_op] at this
      exact this _
    · obtain ⟨h1, q⟩ := grd_some q
      obtain ⟨ca, e1, q⟩ := bnd q
      obtain ⟨cb, e2, q⟩ := bnd q
      obtain ⟨cc, e3, rfl⟩ := mpd q
      have := fun (op op' : CmpOp) => l_chain (pos := pos) (op := coI op) (op' := coI op') h.G (ih.e h e1) (ih.e h e2) (ih.e h e3) (last_ok h1)
      simp only [coI_op] at this
      exact this _ _
    · cases q
  | Call f args kw cpos =>
    cases kw with
    | cons _ _ => cases q
    | nil =>
      cases f with
      | Name x p => exact ih.call h q
      | Attribute o m apos =>
        cases args with
        | nil =>
          obtain ⟨h1, q1⟩ := grd_some (show grd (decide (m = "pop") && noSup o && (apos.endLine == cpos.line)) ((cE n C o).map fun co => CE.bc .pop co []) = some ce from q)
          simp only [Bool.and_eq_true, decide_eq_true_eq] at h1
          obtain ⟨⟨rfl, h2⟩, h3⟩ := h1
          obtain ⟨co, e1, rfl⟩ := mpd q1
          exact l_bc0 h.G (ih.e h e1) h2 h3
        | cons a r =>
          obtain ⟨h1, q⟩ := grd_some (show grd ((a :: r).all nostar && noSup o && decide ((a :: r).length < 30) && (apos.endLine == cpos.line)) ((cE n C o).bind fun co => (cEs n C (a :: r)).bind fun cs => match bmI m with
            | some b => some (CE.bm b co cs)
            | none => (bcI m).map fun b => .bc b co cs) = some ce from q)
          simp only [Bool.and_eq_true] at h1
          obtain ⟨⟨⟨h2, h3⟩, h4⟩, h5⟩ := h1
          obtain ⟨co, e1, q⟩ := bnd q
          obtain ⟨cs, e2, q⟩ := bnd q
          obtain ⟨p1, p2⟩ := ih.es h h2 e2
          split at q
          · rename_i b hb
            cases q
            obtain ⟨rfl, bok⟩ := bmI_nm hb
            exact l_bm h.G bok (ih.e h e1) p1 h2 h3 h4 h5
          · obtain ⟨b, hb, rfl⟩ := mpd q
            obtain ⟨rfl, bok⟩ := bcI_nm hb
            exact l_bc h.G bok (ih.e h e1) p1 h2 h3 h4 h5
      | _ => cases q
  | Attribute o f pos =>
    cases o with
    | Name x p =>
      replace q : (match (generalizing := false) C.xs with
        | some i => grd (decide (idx x C.N 0 = some i) && okN x && C.vis x) ((idx f C.fs 0).map fun k => CE.xat i k)
        | none => none) = some ce := q
      split at q
      · rename_i i hi
        obtain ⟨h1, q⟩ := grd_some q
        simp only [Bool.and_eq_true, decide_eq_true_eq] at h1
        obtain ⟨⟨h1, h2⟩, hv⟩ := h1
        obtain ⟨k, hk, rfl⟩ := mpd q
        obtain ⟨X0, a, oe, pn, c, dd, hX, hz, hf, hcur⟩ := h.xs i hi
        obtain ⟨n1, n2, n3⟩ := okN_db h2
        refine l_xat hX hz hf h.G.K hcur (by rw [h.N]; exact idx_get h1) ?_ n1 n2 (fun jj hj => ?_)
        · unfold CC.vis at hv
          simp only [Bool.or_eq_true] at hv
          unfold Vis
          rw [h.nm]
          rcases hv with (hv | hv) | hv
          · exact .inl (of_decide_eq_true hv)
          · exact .inr (.inl (of_decide_eq_true hv))
          · exact .inr (.inr (of_decide_eq_true hv))
        · have := h.xf c k jj hj
          rw [h.fs f k hk] at this
          exact this
      · cases q
    | _ => cases q
  | Subscript o i pos =>
    have plain : ∀ i : Expr, grd (notSlice i) ((cE n C o).bind fun co => (cE n C i).map fun ci => CE.sub co ci) = some ce → PE X (.Subscript o i pos) (xE S E W P ro ce) := fun i q => by
      obtain ⟨h1, q⟩ := grd_some q
      obtain ⟨co, e1, q⟩ := bnd q
      obtain ⟨ci, e2, rfl⟩ := mpd q
      exact l_sub h.G (ih.e h e1) (ih.e h e2) (ix_ok h1)
    cases i with
    | Slice lo hi st p2 =>
      cases st with
      | none =>
        obtain ⟨co, e1, q⟩ := bnd (show ((cE n C o).bind fun co => (cO n C lo).bind fun cl => (cO n C hi).map fun ch => CE.slc co cl ch) = some ce from q)
        obtain ⟨cl, e2, q⟩ := bnd q
        obtain ⟨ch, e3, rfl⟩ := mpd q
        exact l_slc h.G (ih.e h e1) (ih.o h e2) (ih.o h e3)
      | some _ => cases q
    | _ => exact plain _ q
  | List l pos =>
    obtain ⟨h1, q⟩ := grd_some (show grd (l.all nostar) ((cEs n C l).bind fun cs => grd (decide (cs.length ≤ 1000)) (some (CE.lst cs))) = some ce from q)
    obtain ⟨cs, e1, q⟩ := bnd q
    obtain ⟨h2, q⟩ := grd_some q
    cases q
    exact l_lst (of_decide_eq_true h2) (ih.es h h1 e1).1
  | Tuple l k pos =>
    obtain ⟨h1, q⟩ := grd_some (show grd (l.all nostar) ((cEs n C l).bind fun cs => grd (decide (cs.length ≤ 1000)) (some (CE.tup cs))) = some ce from q)
    obtain ⟨cs, e1, q⟩ := bnd q
    obtain ⟨h2, q⟩ := grd_some q
    cases q
    exact l_tup (of_decide_eq_true h2) (ih.es h h1 e1).1
  | Dict ks vs pos =>
    replace q : (match (generalizing := false) ks, vs with
      | [], [] => some (CE.dct [])
      | _, _ => none) = some ce := q
    split at q
    · cases q; exact l_dct0
    · cases q
  | JoinedStr l pos =>
    replace q : (match (generalizing := false) l with
      | a :: b :: r => (cF n C (a :: b :: r)).map CE.fst
      | _ => none) = some ce := q
    split at q
    · obtain ⟨cs, e1, rfl⟩ := mpd q
      exact l_fst (ih.f h e1)
    · cases q
  | ListComp elt gens sc pos =>
    replace q : (match (generalizing := false) gens with
      | [g] => grd (decide (g.is_async = 0)) (cLc n C elt g.target g.iter g.ifs sc)
      | _ => none) = some ce := q
    split at q
    · rename_i g
      obtain ⟨tg, iter, ifs, asy⟩ := g
      obtain ⟨h1, q⟩ := grd_some q
      have h1 : asy = 0 := of_decide_eq_true h1
      subst h1
      obtain ⟨k0, own, t, ci, cts, cl, rfl, k1, k2, k3, k4, k5, k6, k7⟩ := ih.lc h q
      exact l_lc k0 k1 k2 k3 k4 k5 k6 k7
    · cases q
  | DictComp kx vx gens sc pos =>
    replace q : (match (generalizing := false) gens with
      | [g] => grd (decide (g.is_async = 0)) (cDc n C kx vx g.target g.iter g.ifs sc)
      | _ => none) = some ce := q
    split at q
    · rename_i g
      obtain ⟨tg, iter, ifs, asy⟩ := g
      obtain ⟨h1, q⟩ := grd_some q
      have h1 : asy = 0 := of_decide_eq_true h1
      subst h1
      obtain ⟨k0, own, t, ci, cts, ck, cv, rfl, k1, k2, k3, k4, k5, k6, k7, k8⟩ := ih.dc h q
      exact l_dc k0 k1 k2 k3 k4 k5 k6 k7 k8
    · cases q
  | _ => cases q
theorem snd_all : ∀ n : Nat, Snd S E P ro j n
  | 0 => snd0
  | n + 1 =>
    have ih := snd_all n
    ⟨s_e ih, s_b ih, s_t ih, s_bt ih, s_es ih, s_ts ih, s_o ih, s_f ih, s_i ih, s_call ih, s_lc ih, s_dc ih, s_g ih⟩
end
end Av
end
section
set_option Elab.async false
set_option linter.all false
set_option maxRecDepth 100000
set_option autoImplicit false
set_option maxHeartbeats 8000000
namespace Av
open PySem PySem.Spec PyProof.Rows L2
section
variable {S : SE} {E : ED} {W : WX} {P : Pm} {ro : Mem} {j n : Nat} {C : CC} {X : Cx}
/-- whether the value goes to the name before the block is left -/
def swB (env : Env) (x : Str) (p lp : Pos) (sc : Scope) : Bool := env.blockKind == .function && env.kindOf x == some .local && p.line == lp.line && !(sc.names.any fun (n, k) => n == x && (k == .local || k == .cell))
theorem sw_lc {env : Env} {elt : Expr} {gens : List Comprehension} {sc : Scope} {lp p : Pos} {x : Str} {l : Nat} : swapsWith (.ListComp elt gens sc lp) (some (.Name x p)) l env = pure (swB env x p lp sc) := rfl
theorem sw_dc {env : Env} {kx vx : Expr} {gens : List Comprehension} {sc : Scope} {lp p : Pos} {x : Str} {l : Nat} : swapsWith (.DictComp kx vx gens sc lp) (some (.Name x p)) l env = pure (swB env x p lp sc) := rfl
def isName : Expr → Bool
  | .Name _ _ => true
  | _ => false
theorem sw_other {env : Env} {elt t : Expr} {gens : List Comprehension} {sc : Scope} {lp : Pos} {l : Nat} (h : isName t = false) : swapsWith (.ListComp elt gens sc lp) (some t) l env = pure false := by
  cases t <;> first | (cases h; done) | rfl
theorem sw_otherD {env : Env} {kx vx t : Expr} {gens : List Comprehension} {sc : Scope} {lp : Pos} {l : Nat} (h : isName t = false) : swapsWith (.DictComp kx vx gens sc lp) (some t) l env = pure false := by
  cases t <;> first | (cases h; done) | rfl
theorem s_asg {t e : Expr} {ct : Tg} {ce : CE} {pos : Pos} (h : CtxOk S E W P j C X) (h1 : nostar t = true) (h2 : notTup t = true ∨ notTup e = true) (e1 : cTg n C t = some ct) (e2 : cE n C e = some ce) : PS X (.Assign [t] e pos) (xS1 S E W P ro (.asg (.t ct) ce)) := by
  have hg := s_tg h n t ct e1
  have he := (snd_all (ro := ro) n).e h e2
  have gen : swapsWithSole [t] e pos.line X.env = pure false → PS X (.Assign [t] e pos) (xS1 S E W P ro (.asg (.t ct) ce)) := fun hs => ls_asg h.G hg he hs h1 h2
  by_cases hn : noComp e = true
  · exact gen (swapS_ok hn)
  · cases e with
    | ListComp elt gens sc lp =>
      by_cases ht : isName t = true
      · cases t with
        | Name x p =>
          cases hb : swB X.env x p lp sc with
          | false => exact gen ((show swapsWithSole [.Name x p] (.ListComp elt gens sc lp) pos.line X.env = pure (swB X.env x p lp sc) from rfl).trans (by rw [hb]))
          | true =>
            have hk : X.env.scope.names.lookup x = some .local := by
              unfold swB at hb
              simp only [Bool.and_eq_true] at hb
              have := hb.1.1.2
              exact eq_of_beq this
            cases n with
            | zero => cases e2
            | succ n =>
              have q : (match (generalizing := false) gens with
                | [g] => grd (decide (g.is_async = 0)) (cLc n C elt g.target g.iter g.ifs sc)
                | _ => none) = some ce := e2
              split at q
              · rename_i g
                obtain ⟨tg, iter, ifs, asy⟩ := g
                obtain ⟨g1, q⟩ := grd_some q
                have g1 : asy = 0 := of_decide_eq_true g1
                subst g1
                obtain ⟨k0, own, t, ci, cts, cl, rfl, k1, k2, k3, k4, k5, k6, k7⟩ := (snd_all (ro := ro) n).lc h q
                obtain ⟨_, e1⟩ := grd_some (show grd (C.loc x) ((idx x C.N 0).map .v) = some ct from e1)
                obtain ⟨i, e3, rfl⟩ := mpd e1
                exact ls_setLc k0 (by rw [h.N]; exact idx_get e3) hk (by rw [sw_lc, hb]) k1 k2 k3 k4 k5 k6 k7
              · cases q
        | _ => cases ht
      · exact gen (sw_other (by simpa using ht))
    | DictComp kx vx gens sc lp =>
      by_cases ht : isName t = true
      · cases t with
        | Name x p =>
          cases hb : swB X.env x p lp sc with
          | false => exact gen ((show swapsWithSole [.Name x p] (.DictComp kx vx gens sc lp) pos.line X.env = pure (swB X.env x p lp sc) from rfl).trans (by rw [hb]))
          | true =>
            have hk : X.env.scope.names.lookup x = some .local := by
              unfold swB at hb
              simp only [Bool.and_eq_true] at hb
              have := hb.1.1.2
              exact eq_of_beq this
            cases n with
            | zero => cases e2
            | succ n =>
              have q : (match (generalizing := false) gens with
                | [g] => grd (decide (g.is_async = 0)) (cDc n C kx vx g.target g.iter g.ifs sc)
                | _ => none) = some ce := e2
              split at q
              · rename_i g
                obtain ⟨tg, iter, ifs, asy⟩ := g
                obtain ⟨g1, q⟩ := grd_some q
                have g1 : asy = 0 := of_decide_eq_true g1
                subst g1
                obtain ⟨k0, own, t, ci, cts, ck, cv, rfl, k1, k2, k3, k4, k5, k6, k7, k8⟩ := (snd_all (ro := ro) n).dc h q
                obtain ⟨_, e1⟩ := grd_some (show grd (C.loc x) ((idx x C.N 0).map .v) = some ct from e1)
                obtain ⟨i, e3, rfl⟩ := mpd e1
                exact ls_setDc k0 (by rw [h.N]; exact idx_get e3) hk (by rw [sw_dc, hb]) k1 k2 k3 k4 k5 k6 k7 k8
              · cases q
        | _ => cases ht
      · exact gen (sw_otherD (by simpa using ht))
    | SetComp _ _ _ _ => cases n <;> cases e2
    | _ => exact absurd rfl hn
/-- where a statement may stand -/
structure StOk (C : CC) (X : Cx) : Prop where
  hp : PassesOwn (model X.prog X.w) X.A X.env X.xe
  stk : C.hot = false → X.stack = X.env :: X.outer
  frm : C.hot = false → X.env.frame = some X.env.locals
  cur : C.hot = false → C.xs = none
structure SndS (E : ED) (P : Pm) (ro : Mem) (j n : Nat) : Prop where
  s : ∀ {S : SE} {W : WX} {C : CC} {X : Cx} {s : Stmt} {cs : CS}, CtxOk S E W P j C X → StOk C X → cS n C s = some cs → PS X s (xS1 S E W P ro cs)
  ss : ∀ {S : SE} {W : WX} {C : CC} {X : Cx} {l : List Stmt} {cs : List CS}, CtxOk S E W P j C X → StOk C X → cSs n C l = some cs → PSs X l (xSs S E W P ro cs)
  h : ∀ {S : SE} {W : WX} {C : CC} {X : Cx} {body : List Stmt} {h : ExceptHandler} {cs : CS} {pos : Pos}, CtxOk S E W P j C X → StOk C X → cH n C body h = some cs → PS X (.Try body [h] [] [] pos) (xS1 S E W P ro cs)
theorem sndS_all {j : Nat} : ∀ n : Nat, SndS E P ro j n
  | 0 => ⟨fun _ _ q => (by cases q), fun _ _ q => (by cases q), fun _ _ q => (by cases q)⟩
  | n + 1 => by
    have ihs : SndS E P ro j n := sndS_all n
    refine ⟨fun {S W C X s cs} h hp q => ?_, fun {S W C X l cs} h hp q => ?_, fun {S W C X body h0 cs pos} h hp q => ?_⟩
    · have ih := snd_all (S := S) (E := E) (P := P) (ro := ro) (j := j) n
      cases s with
      | Pass pos => cases q; exact ls_pass
      | Break pos => cases q; exact ls_break
      | Continue pos => cases q; exact ls_continue
      | Expr e pos =>
        replace q : (match (generalizing := false) e with
          | .Constant c _ _ => (match c with
            | .str _ => some .pass
            | _ => none)
          | e => grd (noComp e) ((cE n C e).map .exp)) = some cs := q
        split at q
        · split at q
          · cases q; exact ls_doc
          · cases q
        · obtain ⟨h1, q⟩ := grd_some q
          obtain ⟨ce, e1, rfl⟩ := mpd q
          exact ls_expr (ih.e h e1) h1
      | Return o pos =>
        cases o with
        | none => cases q; exact ls_retN
        | some e =>
          obtain ⟨ce, e1, rfl⟩ := mpd (show (cE n C e).map .ret = some cs from q)
          exact ls_ret (ih.e h e1)
      | If c a b pos =>
        obtain ⟨ct, e0, q⟩ := bnd (show ((cT n C c).bind fun ct => (cSs n C a).bind fun ca => (cSs n C b).map fun cb => CS.ife ct ca cb) = some cs from q)
        obtain ⟨ca, e1, q⟩ := bnd q
        obtain ⟨cb, e2, rfl⟩ := mpd q
        exact ls_if (ih.t h e0) (ihs.ss h hp e1) (ihs.ss h hp e2)
      | Assign ts e pos =>
        replace q : (match (generalizing := false) ts with
          | [t] => grd (nostar t && (notTup t || notTup e)) ((cTg n C t).bind fun ct => (cE n C e).map fun ce => CS.asg (.t ct) ce)
          | _ => none) = some cs := q
        split at q
        · obtain ⟨h1, q⟩ := grd_some q
          rw [Bool.and_eq_true, Bool.or_eq_true] at h1
          obtain ⟨ct, e1, q⟩ := bnd q
          obtain ⟨ce, e2, rfl⟩ := mpd q
          exact s_asg h h1.1 h1.2 e1 e2
        · cases q
      | For tg iter body orelse pos =>
        obtain ⟨h1, q1⟩ := grd_some (show grd (!C.hot && orelse.isEmpty && notFold iter) ((cI n C iter).bind fun ci => (cTg n C tg).bind fun t => (cSs n C body).map fun cb => CS.for_ t ci cb) = some cs from q)
        rw [Bool.and_eq_true, Bool.and_eq_true, List.isEmpty_iff] at h1
        obtain ⟨⟨hh, rfl⟩, h2⟩ := h1
        obtain ⟨ci, e1, q1⟩ := bnd q1
        obtain ⟨t, e2, q1⟩ := bnd q1
        obtain ⟨cb, e3, rfl⟩ := mpd q1
        exact ls_for (h.GG (nhot hh)) hp.hp (ih.i h e1) (s_tg h n tg t e2) (ihs.ss h hp e3) (fold_ok h2)
      | While c body orelse pos =>
        obtain ⟨h1, q1⟩ := grd_some (show grd (!C.hot && orelse.isEmpty) ((cT n C c).bind fun ct => (cSs n C body).map fun cb => CS.whl ct cb) = some cs from q)
        rw [Bool.and_eq_true, List.isEmpty_iff] at h1
        obtain ⟨hh, rfl⟩ := h1
        obtain ⟨ct, e1, q1⟩ := bnd q1
        obtain ⟨cb, e3, rfl⟩ := mpd q1
        exact ls_while hp.hp (ih.t h e1) (ihs.ss h hp e3)
      | Raise o cause pos =>
        replace q : (match (generalizing := false) o, cause with
          | some e, none => (match (generalizing := false) e with
            | .Call f args kw _ => (match (generalizing := false) f, args, kw with
              | .Name x _, [a, b], [] => grd (!C.hot && decide (2 ≤ C.dep) && C.isG x && nostar a && nostar b) (match (generalizing := false) C.gl.lookup x with
                | some (.exc c r) => grd r ((cEs n C [a, b]).map (CS.rai c))
                | _ => none)
              | _, _, _ => none)
            | _ => none)
          | _, _ => none) = some cs := q
        split at q
        · split at q
          · split at q
            · obtain ⟨h1, q⟩ := grd_some q
              simp only [Bool.and_eq_true, decide_eq_true_eq] at h1
              obtain ⟨⟨⟨⟨hh, hd⟩, hg⟩, sa⟩, sb⟩ := h1
              have hh := nhot hh
              split at q
              · rename_i c r hl
                obtain ⟨hr, q⟩ := grd_some q
                obtain ⟨cs', e1, rfl⟩ := mpd q
                obtain ⟨g1, g2⟩ := isG_gl h hg
                obtain ⟨k1, k2, k3⟩ := h.gl _ _ hl
                obtain ⟨p1, p2⟩ := ih.es h (by simp [sa, sb]) e1
                exact l_raise (h.GG hh) (k3 hh hr) h.tk ((h.room hh).mono (by omega)) g1 p1 (by simpa using p2) ⟨sa, sb⟩ (okN_db g2).1
              · cases q
            · cases q
          · cases q
        · cases q
      | Try body hs orelse fin pos =>
        replace q : (match (generalizing := false) hs, orelse, fin with
          | [h], [], [] => cH n C body h
          | _, _, _ => none) = some cs := q
        split at q
        · exact ihs.h h hp q
        · cases q
      | _ => cases q
    · cases l with
      | nil => cases q; exact ls_nil
      | cons s r =>
        obtain ⟨c, e1, q⟩ := bnd (show ((cS n C s).bind fun cs => (cSs n C r).map fun cr => cs :: cr) = some cs from q)
        obtain ⟨cr, e2, rfl⟩ := mpd q
        exact ls_cons (ihs.s h hp e1) (ihs.ss h hp e2)
    · obtain ⟨ty, nm, suite, hpos⟩ := h0
      replace q : (match (generalizing := false) ty with
        | some t => (match (generalizing := false) t with
          | .Name x _ => grd (!C.hot && C.isG x && !suite.isEmpty) (match (generalizing := false) C.gl.lookup x with
            | some (.exc c _) => (cSs n C body).bind fun cb => (match (generalizing := false) nm with
              | some e => (idx e C.N 0).bind fun i => grd (decide (C.kind e = some .local)) ((cSs n { C with hot := true, xs := some i, tb := false } suite).map fun ch => CS.try_ cb [.mk c (some i) ch])
              | none => (cSs n { C with hot := true, xs := none, tb := false } suite).map fun ch => .try_ cb [.mk c none ch])
            | _ => none)
          | _ => none)
        | none => none) = some cs := q
      split at q
      · split at q
        · rename_i x np
          obtain ⟨h1, q⟩ := grd_some q
          simp only [Bool.and_eq_true, Bool.not_eq_true'] at h1
          obtain ⟨⟨hh, hg⟩, hne⟩ := h1
          split at q
          · rename_i c r hl
            obtain ⟨cb, e1, q⟩ := bnd q
            obtain ⟨g1, g2⟩ := isG_gl h hg
            obtain ⟨k1, k2, k3⟩ := h.gl _ _ hl
            have hnm : Names X x (.ref (E.xa c)) := ⟨g1, (okN_db g2).1, .inl k1⟩
            have hbody : ∀ (W : WX) (pn : List (Addr × Obj)) (xe : Value → Shared → Prop), Takes (X.tr pn xe) W → PassesOwn (model X.prog X.w) X.A X.env xe → PSs (X.tr pn xe) body (xSs S E W P ro cb) := fun W' pn xe tk hp' =>
              ihs.ss (ctx_tr h (hp.cur hh) pn xe tk) ⟨hp', hp.stk, hp.frm, hp.cur⟩ e1
            obtain ⟨b0, suite, rfl⟩ : ∃ b0 s', suite = b0 :: s' := by
              cases suite with
              | nil => cases hne
              | cons b0 s' => exact ⟨b0, s', rfl⟩
            cases nm with
            | some e =>
              have q : ((idx e C.N 0).bind fun i => grd (decide (C.kind e = some .local)) ((cSs n { C with hot := true, xs := some i, tb := false } (b0 :: suite)).map fun ch => CS.try_ cb [.mk c (some i) ch])) = some cs := q
              obtain ⟨i, hi, q⟩ := bnd q
              obtain ⟨hk, q⟩ := grd_some q
              obtain ⟨ch, e2, rfl⟩ := mpd q
              exact ls_try_as (h.GG hh) (hp.stk hh) (hp.frm hh) (by rw [h.N]; exact idx_get hi) (by show X.env.scope.names.lookup e = _; rw [h.nm]; exact of_decide_eq_true hk) hnm h.tk k2 hbody fun a oe dd pn c' hz hf =>
                ihs.ss (ctx_suite h hz hf) ⟨PassesOwn.never, fun z => (by cases z), fun z => (by cases z), fun z => (by cases z)⟩ e2
            | none =>
              have q : ((cSs n { C with hot := true, xs := none, tb := false } (b0 :: suite)).map fun ch => CS.try_ cb [.mk c none ch]) = some cs := q
              obtain ⟨ch, e2, rfl⟩ := mpd q
              exact ls_try_only (h.GG hh) (hp.stk hh) (hp.frm hh) hnm h.tk k2 hbody fun a oe pn => ihs.ss (ctx_suite0 h) ⟨PassesOwn.never, fun z => (by cases z), fun z => (by cases z), fun z => (by cases z)⟩ e2
          · cases q
        · cases q
      · cases q
end
end Av
end
section
set_option Elab.async false
set_option linter.all false
set_option maxRecDepth 100000
set_option autoImplicit false
set_option maxHeartbeats 4000000
namespace Av
open PySem PySem.Spec PyProof.Rows L2 NdefX
section
variable {CX : CXT} {Pr : Program} {wd : World} {S : SE} {P : Pm} {mg : Str → Option Value} {base : Heap} {F : NF} {C fI cc : Addr} {x0 q1 q2 f1 f2 : Str} {arg : Expr} {ce : CE} {n : Nat}
theorem xinit_ok {E0 : ED} (hxf : ∀ c k jj, P.xf c k = some jj → (E0.xn c)[jj]? = some (S.fn k) ∧ (E0.xn c).Nodup ∧ XfC S.K (E0.xa c) ∧ PySem.W.findIn S.K (.ref (E0.xa c)) (S.fn k) = some none) (hcur : S.cur = none) {p0 p1 p2 p3 p4 p5 p6 p7 p8 p9 p10 p11 p12 : Pos} (T : XiK Pr S.K mg C fI cc F x0) (hS : NScope [x0, q1, q2, "__class__"] [x0, q1, q2] ["__class__"] F.scope) (hks : F.scope.names.lookup ("super" : Str) = some .globalImplicit)
    (hb : F.body = [.Expr (.Call (.Attribute (.Call (.Name "super" p0) [] [] p1) "__init__" p2) [arg] [] p3) p4, .Assign [.Attribute (.Name x0 p5) f1 p6] (.Name q1 p7) p8, .Assign [.Attribute (.Name x0 p9) f2 p10] (.Name q2 p11) p12])
    (hc : cE n ⟨[x0, q1, q2, "__class__"], F.scope.names, [], false, 0, false, false, none, []⟩ arg = some ce) (hst : nostar arg = true) (hline : (p2.endLine == p3.line) = true) (hno1 : PySem.W.findIn S.K (.ref C) f1 = some none) (hno2 : PySem.W.findIn S.K (.ref C) f2 = some none)
    (hx : okN x0 = true ∧ okN q1 = true ∧ okN q2 = true) {fd : FuncData} (hfd : ∃ oc od osl, S.K.lookup fI = some ⟨oc, od, .func fd, osl⟩) :
    FnOk Pr wd S.K mg base CX 1 fI fd [x0, q1, q2] (spX S P ce C f1 f2) := by
  obtain ⟨oc, od, osl, doc, pm, ctv, hf⟩ := T.fo
  obtain ⟨oc', od', osl', hf'⟩ := hfd
  have efd : fd = F.fd doc pm ctv := by
    rw [hf] at hf'
    injection hf' with hf'
    injection hf' with _ _ h _
    injection h with h
    exact h.symm
  subst efd
  obtain ⟨cl, cld, csl, hcell⟩ := T.cell
  refine ⟨fun vs H Q E ⟨_, _, _, _, _, _, _, _, _, _, e, _⟩ => by rw [e]; rfl, fun A outer s H args us vs Q E hr e0 hbi r hsp => ?_⟩
  obtain ⟨w, ro, m, a, d1, d2, v1, v2, x, m2, rfl, hwc, hr0, ha, r1, r2, hev, hq⟩ := hsp
  have lim : s.heap.NoLimit := e0.mod.nolimit.keeps fun b o e => (e0.bs b o e).1
  have KX : S.K.In s.heap := e0.mod.kin.keeps fun b o e => (e0.bs b o e).1
  have ea : H a = some (exo a C none) := hr0.hld a _ ha
  refine codeAny_call_function hr.depth (KX _ _ hf) rfl hS.co hS.gen rfl (PySem.W.codeRec_of KX T.codeR) (hbi _ _ _ _ ?_)
  refine wpAny_newFunctionEnv hS.nocell (fun ⟨n, _⟩ hy => hS.par n (List.of_mem_zip hy).1) (fun h₁ hns hsb => ⟨lim.fresh _ hsb, ?_⟩) hS.kind
  show codeAny _ _ (.func F.body (envF F fI s.heap.objs.size)) _ _
  refine ks_codeAny_funcAt ?_
  have kp : ∀ b o, s.heap.get? b = some o → h₁.get? b = some o := fun b o e => hsb.extBut b o (Nat.ne_of_lt (Heap.lt_size e)) (Heap.get?_push_of_some _ e)
  have hlk : ∀ y c, F.cl.lookup y = some c → y = ("__class__" : Str) ∧ c = cc := fun y c e => by
    rw [T.cl] at e
    by_cases hy : y = ("__class__" : Str)
    · subst hy
      simp [List.lookup] at e
      exact ⟨rfl, e.symm⟩
    · have : (y == ("__class__" : Str)) = false := by simpa using hy
      simp [List.lookup, this] at e
  have hbc := e0.mod.kin _ _ hcell
  have hcs : CellsAt F.cl ["__class__"] [none] s.heap H := by
    refine ⟨rfl, fun y c e => ?_, fun y z c e1 e2 => ?_, fun i y e => ?_⟩
    · obtain ⟨_, rfl⟩ := hlk y c e
      exact ⟨(e0.bs _ _ hbc).2, _, _, (e0.bs _ _ hbc).1, rfl⟩
    · rw [(hlk y c e1).1, (hlk z c e2).1]
    · cases i with
      | zero =>
        have e : some ("__class__" : Str) = some y := e
        cases e
        exact ⟨cc, by rw [T.cl]; rfl, fun v hv => by cases hv⟩
      | succ i => cases e
  have hl : ([V.ref a, v1, v2] : List V).length = [x0, q1, q2].length := rfl
  have I := inv_startN (CX := CX) (E := E) (N := [x0, q1, q2, "__class__"]) (f := fI) (tk := s.toks + ([x0, q1, q2].zip us).length) hS hr.hd e0 hl r hcs hns kp
  have hkc : F.scope.names.lookup ("__class__" : Str) = some .free := hS.frk _ (by simp)
  have hk0 : F.scope.names.lookup x0 = some .local := hS.par _ (by simp)
  have hk1 : F.scope.names.lookup q1 = some .local := hS.par _ (by simp)
  have hk2 : F.scope.names.lookup q2 = some .local := hS.par _ (by simp)
  have hrd : Room 0 (A.deeper (envF F fI s.heap.objs.size)) := hr.deeper _
  have cx : CtxOk S E0 W0 P 0 ⟨[x0, q1, q2, "__class__"], F.scope.names, [], false, 0, false, false, none, []⟩ (ncx CX Pr wd S.K mg base [x0, q1, q2, "__class__"] F fI A outer s H E) :=
    ⟨⟨rfl, by have := hrd.un; show (A.deeper (envF F fI s.heap.objs.size)).units + 150 < cLine; omega, hS.nd⟩, rfl, hS.kind, rfl, (fun z => by cases z), (fun _ => ⟨rfl, hcur⟩), (fun _ => hrd), (fun x g z => by cases z), takes0, (fun z => by cases z), (fun i z => by cases z), (fun f k z => by cases z), hxf⟩
  have hce : cEs (n + 1) ⟨[x0, q1, q2, "__class__"], F.scope.names, [], false, 0, false, false, none, []⟩ [arg] = some [ce] := by
    unfold cEs
    show (cE n _ arg).bind (fun ca => (cEs n _ []).map fun cr => ca :: cr) = _
    rw [hc]
    cases n with
    | zero => cases hc
    | succ n => rfl
  obtain ⟨pa, _⟩ := (snd_all (ro := ro) (n + 1)).es cx (by simp [hst]) hce
  rw [hb]
  have rd : xA S E0 W0 P ro [ce] (startF [x0, q1, q2, "__class__"] [V.ref a, v1, v2] [none]) H fun vs H1 => vs.length ≤ 1000 ∧ H1 a = some (exo a C none) ∧ ∃ w', w.Le w' ∧ HR S w' ro m2 H1 := by
    refine ⟨w, [none, some d1, some d2, none], m, ⟨rfl, fun i d e => ?_, fun i a c nms dd c' fs e => by rw [hwc] at e; cases e⟩, hr0, ?_⟩
    · match i, e with
      | 0, e => cases e
      | 1, e => cases e; exact ⟨v1, rfl, r1⟩
      | 2, e => cases e; exact ⟨v2, rfl, r2⟩
      | 3, e => cases e
      | i + 4, e => simp at e
    · have : evs P ro [ce] [none, some d1, some d2, none] m = .ok [x] m2 := by
        rw [evs, hev]; rfl
      rw [this]
      exact fun w1 vs H1 l hr1 rs => ⟨by rw [← rs.length]; simp, hr1.hld a _ (by rw [l.hd]; exact ha), w1, l, hr1⟩
  refine ks_wpAt_execs_cons (ks_wpAt_mono (super_init (fI' := fI) T hks hkc hk0 rfl I rfl ea pa hst hline rd) (fun f s' ⟨hf1, H1, J, w', l, hr1⟩ => ?_) fun e s' h => h)
  subst hf1
  refine wpAt_of_wpAny ?_
  have o0 : ∀ {x : Str}, okN x = true → (x == ("__debug__" : Str)) = false ∧ (x == ("__classdict__" : Str)) = false := fun {x} h => by
    unfold okN at h
    simp only [Bool.and_eq_true, Bool.not_eq_true'] at h
    exact ⟨h.1.1, h.1.2⟩
  have hP := pss_cons (X := ncx CX Pr wd S.K mg base [x0, q1, q2, "__class__"] F fI A outer s H E) (ps_ost (p' := p6) (pos := p8) (f := f1) (pe_var (i := 0) (x := x0) (pos := p5) rfl (.inl hk0) (o0 hx.1).1 (o0 hx.1).2) (pe_var (i := 1) (x := q1) (pos := p7) rfl (.inl hk1) (o0 hx.2.1).1 (o0 hx.2.1).2) (swap_ok rfl))
    (pss_one (ps_ost (p' := p10) (pos := p12) (f := f2) (pe_var (i := 0) (x := x0) (pos := p9) rfl (.inl hk0) (o0 hx.1).1 (o0 hx.1).2) (pe_var (i := 2) (x := q2) (pos := p11) rfl (.inl hk2) (o0 hx.2.2).1 (o0 hx.2.2).2) (swap_ok rfl)))
  have ea1 : H1 a = some (exo a C none) := hr1.hld a _ (by rw [l.hd]; exact ha)
  refine wpAny_mono (hP.run [] s' _ H1 { nx := fun _ H' => Q .non H', rt := Q } J ⟨v1, rfl, .ref a, rfl, a, C, rfl, T.cls, hno1, .inl ⟨ea1, fun dx hdx hne =>
    ⟨v2, rfl, .ref a, rfl, a, C, rfl, T.cls, hno2, .inr ⟨dx, [(f1, v1)], upd_same, by rw [upd_ne hne, upd_same], by simp, hq w' H1 l hr1 dx hdx hne⟩⟩⟩⟩) (fun fl s' hs => ?_) fun e s' hs => hs
  have fin : ∀ {σ' : L2.St} {H' : Hp} {v : V} {u : Value}, Inv (ncx CX Pr wd S.K mg base [x0, q1, q2, "__class__"] F fI A outer s H E) [] σ' H' s' → L2.RelV v u → Q v H' → L2.CE outer Pr wd H s Q u s' :=
    fun {σ' H' v u} J rv q => ⟨v, H', J.os, J.bare, J.base, J.hok, rv, q⟩
  cases fl with
  | ret u =>
    obtain ⟨v, σ', H', J, rv, q⟩ := hs
    exact fin J rv q
  | next =>
    obtain ⟨σ', H', J, q⟩ := hs
    exact fin (v := V.non) (u := Value.none) J rfl q
  | brk =>
    obtain ⟨_, _, _, q⟩ := hs
    exact False.elim q
  | cont =>
    obtain ⟨_, _, _, q⟩ := hs
    exact False.elim q
end
end Av
end
section
set_option Elab.async false
set_option linter.all false
set_option maxRecDepth 100000
set_option autoImplicit false
set_option maxHeartbeats 8000000
namespace Av
open PySem PySem.Spec PyProof.Rows L2
/-- a def as the program holds it -/
structure DI where
  fa : Addr
  fdat : FuncData
  name : Str
  qual : Str
  params : Arguments
  body : List Stmt
  scope : Scope
  N : List Str
  ps : List Str
  tb : Bool
def DI.ctx (d : DI) (gl : List (Str × GK)) (fs : List Str) : CC := ⟨d.N, d.scope.names, gl, true, 2, d.tb, false, none, fs⟩
structure DiOk (S : SE) (gl : List (Str × GK)) (fs : List Str) (mg : Str → Option Value) (base : Heap) (d : DI) (fd : FD) : Prop where
  lk : ∃ (oc : Value) (od : Option Addr) (dV kV doc pm : Value) (an : Option Addr) (cdv ct : Value) (osl : Array (Option Value)), d.fdat = PySem.W.fnOf d.name d.qual d.params d.body d.scope dV kV doc pm an cdv ct ∧ S.K.lookup d.fa = some ⟨oc, od, .func d.fdat, osl⟩ ∧ PySem.W.codeIn S.K cdv d.qual = true ∧
    (d.tb = true → ∃ c T, GxR.TabB base mg c T ∧ T ∈ S.tb ∧ cdv = .ref c)
  sc : FnScope d.N d.ps d.scope
  np : fd.np = d.ps.length
  ns : fd.ns = d.N.length
  body : ∃ fuel, cSs fuel (d.ctx gl fs) d.body = some fd.body
def GlS (Pr : Program) (wd : World) (S : SE) (E : ED) (G : Pg) (di : Nat → DI) (mg : Str → Option Value) (base : Heap) (x : Str) : GK → Prop
  | .bi => mg x = none
  | .fn f np dds => ∃ (fd : FD) (dvs : List V) (dus : List Value), G.fn f = some fd ∧ np = fd.np ∧ mg x = some (.ref (di f).fa) ∧ PySem.W.keepIn S.K (.ref (di f).fa) = true ∧ Binds S.K (di f).fdat (di f).ps dus ∧ Vals dvs dus ∧ ∀ w, RelDs w dds dvs
  | .cst d => ∃ (u : Value) (v : V), mg x = some u ∧ RelV v u ∧ ∀ w, RelD w d v
  | .exc c r => mg x = some (.ref (E.xa c)) ∧ (∀ c', PySem.W.exmOne S.K (.ref (E.xa c')) (.ref (E.xa c)) = some (G.xsub c' c)) ∧ (r = true → ∀ cf, XcOk Pr wd S E (G.pm cf) mg base c x)
section
variable {Pr : Program} {wd : World} {mg : Str → Option Value} {base : Heap} {S : SE} {E : ED} {G : Pg} {gl : List (Str × GK)} {di : Nat → DI}
theorem all_ok {fs : List Str} (hcur : S.cur = none) (hfs : ∀ f k, idx f fs 0 = some k → S.fn k = f) (hxf : ∀ c k jj, G.xf c k = some jj → (E.xn c)[jj]? = some (S.fn k) ∧ (E.xn c).Nodup ∧ XfC S.K (E.xa c) ∧ PySem.W.findIn S.K (.ref (E.xa c)) (S.fn k) = some none) (hD : ∀ f fd, G.fn f = some fd → DiOk S gl fs mg base (di f) fd) (hG : ∀ x g, gl.lookup x = some g → GlS Pr wd S E G di mg base x g) : ∀ (n f : Nat) (fd : FD), G.fn f = some fd →
    FnOk Pr wd S.K mg base (L2.CX Pr wd) (3 * n) (di f).fa (di f).fdat (di f).ps (spC S E (callF G n f) fd.np)
  | 0, f, fd, hf => ⟨fun vs H Q Ex h => by rw [← (hD f fd hf).np]; exact h.1, fun A outer s H args us vs Q Ex _ _ _ _ ⟨_, w, ro, m, ds, _, _, _, z⟩ => z.elim⟩
  | n + 1, f, fd, hf => by
    have ih := all_ok hcur hfs hxf hD hG n
    have d := hD f fd hf
    obtain ⟨oc, od, dV, kV, doc, pm, an, cdv, ct, osl, e1, e2, e3, e4⟩ := d.lk
    obtain ⟨fuel, hb⟩ := d.body
    rw [e1] at e2 ⊢
    refine fn_of (k := 3 * n + 2) e2 e3 d.sc (fun vs H Q Ex h => by rw [← d.np]; exact h.1) fun A outer s H vs Q Ex hr h => ?_
    refine def_end (ps := (di f).ps) (E₁ := fun e' s'' => L2.CX Pr wd outer H s Ex e' s'') hf d.np d.ns rfl rfl rfl rfl (fun ro W tk => ?_) h
    have hu : (A.deeper (envOfC (di f).qual (di f).scope s.heap.objs.size (di f).fa cdv)).units + 150 < cLine := by have := hr.un; omega
    have cx : CtxOk S E W (G.pm (callF G n)) (3 * n) ((di f).ctx gl fs) (cxOf (L2.CX Pr wd) Pr wd S.K mg base (di f).N (di f).qual (di f).scope (di f).fa cdv A outer s H Ex) := by
      refine ⟨⟨rfl, hu, d.sc.nd⟩, rfl, d.sc.kind, rfl, fun _ _ => rfl, fun _ => ⟨rfl, hcur⟩, fun _ => hr, fun x g hx => ?_, tk, fun ht => ?_, fun i z => (by cases z), hfs, hxf⟩
      · have := hG x g hx
        cases g with
        | bi => exact this
        | cst d => exact this
        | exc c r => exact ⟨this.1, this.2.1, fun _ hr => this.2.2 hr _⟩
        | fn f' np dds =>
          intro _
          obtain ⟨fd', dvs, dus, k1, k2, k3, k4, k5, k6, k7⟩ := this
          subst k2
          exact ⟨_, _, _, dvs, dus, ih f' fd' k1, k3, k4, k5, k6, k7⟩
      · obtain ⟨c, T, t1, t2, t3⟩ := e4 ht
        exact ⟨c, T, t1, t2, t3⟩
    exact (sndS_all fuel).ss cx ⟨passes_of (K := fun e s'' => L2.CX Pr wd outer H s Ex e s'') (E₁ := fun e' s'' => L2.CX Pr wd outer H s Ex e' s'') rfl, fun _ => rfl, fun _ => rfl, fun _ => rfl⟩ hb
end
end Av
end
section
set_option Elab.async false
set_option linter.all false
set_option maxRecDepth 100000
set_option autoImplicit false
set_option maxHeartbeats 4000000
namespace Av
open PySem PySem.Spec PyProof.Rows L2 NdefX
/-- an exception class: its global name, whether it has an own __init__, that one's words, the fields that it stores -/
structure XD where
  x : Str
  init : Bool
  name : Str
  qual : Str
  params : Arguments
  body : List Stmt
  scope : Scope
  f1 : Str
  f2 : Str
abbrev XW : Type := Option (Str × Str × Arguments × FuncBody × Scope × Addr × List Str × Addr)
def xFn (K : PySem.W.Frag) (x : Str) : XW := match K.lookup (He.fAd K (x, some "__init__")) with
  | some ⟨_, _, .func fd, _⟩ => some (fd.name, fd.qualname, fd.params, fd.body, fd.scope, fd.globals, fd.closure.map (·.1), fd.builtins)
  | _ => none
def XD.obs (K : PySem.W.Frag) (d : XD) : XW := if d.init then xFn K d.x else none
def XD.val (d : XD) : XW := if d.init then some (d.name, d.qual, d.params, .stmts d.body, d.scope, mainGlobals, ["__class__"], builtinsNs) else none
def oexB (K : PySem.W.Frag) (C : Addr) : Bool := match K.lookup C with
  | some ⟨.type "type", _, .cls cd, sl⟩ => (match cd.mro, sl.toList with
    | .ref C' :: bm, [_, _, _, _, some (.builtin n), _] => C' == C && n == "ValueError.__new__" && !cd.hasDel && cd.hasDict && PySem.HandSPX.refsVE bm
    | _, _ => false)
  | _ => false
theorem oexB_ok {K : PySem.W.Frag} {C : Addr} (q : oexB K C = true) : ∃ nm q N bs bm sn sub ab col dd k0 k1 k2 k3 k5, K.lookup C = some (excClassObj nm q C N bs bm true sn sub ab col dd k0 k1 k2 k3 k5 "ValueError.__new__") ∧ PySem.HandSPX.refsVE bm = true := by
  unfold oexB at q
  split at q
  · rename_i dd cd sl ho
    split at q
    · rename_i C' bm k0 k1 k2 k3 n k5 hm hs
      simp only [Bool.and_eq_true, beq_iff_eq, Bool.not_eq_true'] at q
      obtain ⟨⟨⟨⟨rfl, rfl⟩, h3⟩, h4⟩, h5⟩ := q
      obtain ⟨nm, bs, mro, ns, qn, hd, sn, sub, ab, col, del⟩ := cd
      dsimp only at hm h3 h4
      subst hm h3 h4
      have hsl : sl = #[k0, k1, k2, k3, some (.builtin "ValueError.__new__"), k5] := by
        obtain ⟨l⟩ := sl
        simp only at hs
        rw [hs]
      subst hsl
      exact ⟨nm, qn, ns, bs, bm, sn, sub, ab, col, dd, k0, k1, k2, k3, k5, ho, h5⟩
    · cases q
  · cases q
/-- the __init__'s object: plain, its class's cell, its code -/
def xoB (K : PySem.W.Frag) (file : Str) (q : Str) (C : Addr) (o : Option Obj) : Bool := match o with
  | some ⟨_, _, .func fd, _⟩ => (match fd.defaults, fd.kwdefaults, fd.annotations, fd.closure, fd.code with
    | .none, .none, none, [(_, cc)], .ref c => PySem.W.codeIn K (.ref c) q && (match K.lookup c with
        | some ⟨_, _, .fields vs, _⟩ => (match (vs[2]? : Option Value) with
          | some (.str f _) => f == file
          | _ => false)
        | _ => false) && (match K.lookup cc with
        | some ⟨_, _, .cell (some (.ref C')), _⟩ => C' == C
        | _ => false)
    | _, _, _, _, _ => false)
  | _ => false
def eqB (a b : Option Bool) : Bool := decide (a = b)
def XD.ok (K : PySem.W.Frag) (file : Str) (d : XD) : Bool := if d.init then
    oexB K (He.ga K d.x) && He.eqO (PySem.W.findIn K (.ref (He.ga K d.x)) "__setattr__") (some (some (.builtin "object.__setattr__"))) && eqB (PySem.W.subIn K (.ref (He.ga K d.x)) (.type "BaseException")) (some true)
      && decide (PySem.W.typeIn K (.ref (He.ga K d.x)) = some (.type "type")) && PySem.W.keepIn K (.ref (He.ga K d.x)) && xoB K file d.qual (He.ga K d.x) (K.lookup (He.fAd K (d.x, some "__init__")))
      && eqB (PySem.W.mroIn K (He.ga K d.x) (.ref (He.ga K d.x))) (some true) && He.eqO (PySem.W.ks_superIn K (He.ga K d.x) (He.ga K d.x) "__init__") (some (some (.builtin "ValueError.__init__")))
      && He.eqO (PySem.W.nsIn K cStatics "thirdparty.any") (some none) && eqB (PySem.W.subIn K (.ref (He.ga K d.x)) (.type "ValueError")) (some true)
      && He.eqO (PySem.W.findIn K (.ref (He.ga K d.x)) "__init__") (some (some (.ref (He.fAd K (d.x, some "__init__"))))) && decide (PySem.W.typeIn K (.ref (He.fAd K (d.x, some "__init__"))) = some (.type "function"))
      && He.eqO (PySem.W.findIn K (.ref (He.ga K d.x)) d.f1) (some none) && He.eqO (PySem.W.findIn K (.ref (He.ga K d.x)) d.f2) (some none) && xfB K (He.ga K d.x)
  else true
/-- .. read -/
structure XOk (Pr : Program) (K : PySem.W.Frag) (mg : Str → Option Value) (d : XD) (x0 : Str) : Prop where
  xik : ∃ cc c, XiK Pr K mg (He.ga K d.x) (He.fAd K (d.x, some "__init__")) cc ⟨d.name, d.qual, d.params, d.body, d.scope, [("__class__", cc)], c⟩ x0
  ini : PySem.W.findIn K (.ref (He.ga K d.x)) "__init__" = some (some (.ref (He.fAd K (d.x, some "__init__"))))
  fnT : PySem.W.typeIn K (.ref (He.fAd K (d.x, some "__init__"))) = some (.type "function")
  n1 : PySem.W.findIn K (.ref (He.ga K d.x)) d.f1 = some none
  n2 : PySem.W.findIn K (.ref (He.ga K d.x)) d.f2 = some none
  xf : XfC K (He.ga K d.x)
theorem XD.read {Pr : Program} {K : PySem.W.Frag} {mg : Str → Option Value} {d : XD} {x0 : Str} (hi : d.init = true) (h : d.ok K Pr.main.file = true) (ho : d.obs K = d.val) (hhd : (d.params.posonlyargs ++ d.params.args).head?.map (·.arg) = some x0) (hs : mg "super" = none) (ht : (Pr.main.scope.names.lookup ("super" : Str)).isSome = false) : XOk Pr K mg d x0 := by
  unfold XD.ok at h
  rw [if_pos hi] at h
  simp only [Bool.and_eq_true] at h
  obtain ⟨⟨⟨⟨⟨⟨⟨⟨⟨⟨⟨⟨⟨⟨h1, h2⟩, h3⟩, h4⟩, h5⟩, h6⟩, h7⟩, h8⟩, h9⟩, h10⟩, h11⟩, h12⟩, h13⟩, h14⟩, h15⟩ := h
  refine ⟨?_, He.eqO_ok h11, of_decide_eq_true h12, He.eqO_ok h13, He.eqO_ok h14, xfB_ok h15⟩
  unfold XD.obs XD.val at ho
  rw [if_pos hi, if_pos hi] at ho
  unfold xFn at ho
  unfold xoB at h6
  cases q : K.lookup (He.fAd K (d.x, some "__init__")) with
  | none => rw [q] at ho; cases ho
  | some o =>
    obtain ⟨oc, od, dt, osl⟩ := o
    rw [q] at ho h6
    cases dt with
    | func fd =>
      obtain ⟨n1, n2, n3, n4, n5, n6, n7, n8, n9, n10, n11, n12, n13, n14, n15⟩ := fd
      simp only [Option.some.injEq, Prod.mk.injEq] at ho
      obtain ⟨rfl, rfl, rfl, rfl, rfl, rfl, e7, rfl⟩ := ho
      dsimp only at h6
      split at h6
      · rename_i nm cc c
        simp only [List.map_cons, List.map_nil, List.cons.injEq, and_true] at e7
        subst e7
        simp only [Bool.and_eq_true] at h6
        obtain ⟨⟨k1, k2⟩, k3⟩ := h6
        refine ⟨cc, c, ⟨⟨oexB_ok h1, He.eqO_ok h2, of_decide_eq_true h3, of_decide_eq_true h4, h5⟩, ⟨oc, od, osl, n10, n11, n14, q⟩, rfl, hhd, k1, ?_, ?_, of_decide_eq_true h7, He.eqO_ok h8, He.eqO_ok h9, of_decide_eq_true h10, hs, ht⟩⟩
        · split at k2
          · rename_i ccl cdd vs ccs hq
            split at k2
            · rename_i f tf hv
              exact ⟨ccl, cdd, vs, ccs, f, tf, hq, hv, by rw [beq_iff_eq] at k2 ⊢; exact k2.symm⟩
            · cases k2
          · cases k2
        · split at k3
          · rename_i cl cld C' csl hq
            rw [beq_iff_eq] at k3
            subst k3
            exact ⟨cl, cld, csl, hq⟩
          · cases k3
      · cases h6
    | _ => cases ho
def xpB (K : PySem.W.Frag) (xs : List XD) (sub : List (List Bool)) : Bool := (List.range xs.length).all fun i => (List.range xs.length).all fun j => match xs[i]?, xs[j]? with
  | some a, some b => eqB (PySem.W.exmOne K (.ref (He.ga K a.x)) (.ref (He.ga K b.x))) (some ((sub.getD i []).getD j false))
  | _, _ => false
/-- the addresses: what the names reach, the statics, the __init__s' cells -/
def clsL (K : PySem.W.Frag) (xs : List XD) : List Addr := xs.flatMap fun d => if d.init then (match K.lookup (He.fAd K (d.x, some "__init__")) with
  | some ⟨_, _, .func fd, _⟩ => fd.closure.map (·.2)
  | _ => []) else []
def asX (g : Addr → Option Obj) (n : Nat) (tbs : List (Str × Option Str)) (xs : List XD) : List Addr := (asT g n tbs ++ (if xs.isEmpty then [] else [cStatics])) ++ clsL (He.frG g (asT g n tbs)) xs
abbrev AlX : Type := He.AlD × Bool × List XW
def obsX (n : Nat) (fa : List He.Fa) (fn : List He.DefD) (tbs : List (Str × Option Str)) (file : Str) (xs : List XD) (sub : List (List Bool)) (g : Addr → Option Obj) : AlX :=
  (He.obsD fa fn (He.frG g (asX g n tbs xs)), (tbs.all (tabB g (He.frG g (asX g n tbs xs))) && (He.frG g (asX g n tbs xs)).all fun p => noList p.2) && ((xs.all fun d => d.ok (He.frG g (asX g n tbs xs)) file) && xpB (He.frG g (asX g n tbs xs)) xs sub), xs.map fun d => d.obs (He.frG g (asX g n tbs xs)))
def SaysX (file : Str) (xs : List XD) (sub : List (List Bool)) (K : PySem.W.Frag) : Prop := (∀ d ∈ xs, d.ok K file = true ∧ d.obs K = d.val) ∧ xpB K xs sub = true
def hookX (n : Nat) (fa : List He.Fa) (fn : List He.DefD) (tbs : List (Str × Option Str)) (file : Str) (xs : List XD) (sub : List (List Bool)) : PySem.W.Hook where
  α := AlX
  obs := fun s => obsX n fa fn tbs file xs sub s.heap.get?
  val := fun _ => (He.valD fn, true, xs.map XD.val)
  says := fun _ h => ∃ K : PySem.W.Frag, K.In h ∧ He.SaysD fa fn K ∧ SaysT tbs K h ∧ (K.all fun p => noList p.2) = true ∧ SaysX file xs sub K
  of := fun _ s e => by
    have e2 : ((tbs.all (tabB s.heap.get? (He.frG s.heap.get? (asX s.heap.get? n tbs xs))) && (He.frG s.heap.get? (asX s.heap.get? n tbs xs)).all fun p => noList p.2) && ((xs.all fun d => d.ok (He.frG s.heap.get? (asX s.heap.get? n tbs xs)) file) && xpB (He.frG s.heap.get? (asX s.heap.get? n tbs xs)) xs sub)) = true := congrArg (fun z : AlX => z.2.1) e
    have e3 : (xs.map fun d => d.obs (He.frG s.heap.get? (asX s.heap.get? n tbs xs))) = xs.map XD.val := congrArg (fun z : AlX => z.2.2) e
    rw [Bool.and_eq_true, Bool.and_eq_true, Bool.and_eq_true] at e2
    refine ⟨He.frG s.heap.get? (asX s.heap.get? n tbs xs), He.frG_in, congrArg (fun z : AlX => z.1) e, fun p hp => ?_, e2.1.2, fun d hd => ⟨List.all_eq_true.mp e2.2.1 d hd, ?_⟩, e2.2.2⟩
    · have h := List.all_eq_true.mp e2.1.1 p hp
      unfold tabB at h
      split at h
      · rename_i c P hc
        simp only [Bool.and_eq_true, Option.isNone_iff_eq_none] at h
        exact ⟨c, P, hc, h.1.1, emptyTab_ok h.1.2, h.2⟩
      · cases h
    · obtain ⟨i, hi⟩ := List.mem_iff_getElem?.mp hd
      have := congrArg (fun l : List XW => l[i]?) e3
      simpa [hi] using this
  keeps := fun _ _ _ ⟨K, hK, c, t, nl, x⟩ k => ⟨K, PySem.W.Frag.In.keeps hK k, c, (fun p hp => let ⟨a, b, h1, h2, h3, h4⟩ := t p hp; ⟨a, b, h1, h2, k _ _ h3, h4⟩), nl, x⟩
theorem obsX_eq {n : Nat} {fa : List He.Fa} {fn : List He.DefD} {tbs : List (Str × Option Str)} {file : Str} {xs : List XD} {sub : List (List Bool)} {g : Addr → Option Obj} {s : Shared} (h : ∀ a, g a = s.heap.get? a) : obsX n fa fn tbs file xs sub g = (hookX n fa fn tbs file xs sub).obs s := by
  have e : g = s.heap.get? := funext h
  rw [e] <;> rfl
end Av
end
section
set_option Elab.async false
set_option linter.all false
set_option maxRecDepth 100000
set_option autoImplicit false
set_option maxHeartbeats 4000000
namespace Av
open PySem PySem.Spec PyProof.Rows L2
section
variable {S : SE} {E : ED}
theorem frag_mem {a : Addr} {o : Obj} : ∀ {K : PySem.W.Frag}, K.lookup a = some o → (a, o) ∈ K
  | [], e => by cases e
  | (b, u) :: r, e => by
    have e : (match a == b with | true => some u | false => List.lookup a r) = some o := e
    split at e
    · rename_i h
      cases e
      rw [eq_of_beq h]
      exact List.mem_cons_self
    · exact List.mem_cons_of_mem _ (frag_mem e)
theorem noList_no {K : PySem.W.Frag} {a : Addr} {o : Obj} (h : (K.all fun p => noList p.2) = true) (e : K.lookup a = some o) : o.cls ≠ .type "list" := fun z => by
  have hm : (a, o) ∈ K := frag_mem e
  have := List.all_eq_true.mp h _ hm
  unfold noList at this
  rw [z] at this
  simp at this
/-- the script, at the law's start -/
theorem law_hsp {r : List D → Mem → Mem → R Mem D} (hcur : S.cur = none) (hnl : (S.K.all fun p => noList p.2) = true) {H : Hp} {a : Addr} {ns : List Int} (hlen : ns.length ≤ LIM) (hT : ∀ P ∈ S.tb, H P = some (.tbl #[])) (hS : SqL S.K H a (ns.map V.int)) (hr : r [.scr ns] [] [] = .ok (.bl true) []) :
    spC S E r 1 [.ref a] H (fun v _ => v = .bl true) (fun _ _ _ => False) := by
  have hR : Rd H a (.lst (ns.map V.int)) := by
    rcases hS with h | ⟨o, its, n, e, hc, _⟩
    · exact h
    · exact absurd hc (noList_no hnl e)
  refine ⟨rfl, ⟨fun _ => none, fun b => if b = a then H a else none, fun _ => none, fun _ => none, fun _ => none, fun _ => none, none⟩, [], [], [.scr ns], rfl, ?_, .cons (.scr ?_ hlen) .nil, ?_⟩
  · refine ⟨(fun n a e => nomatch e), (fun n o e => by simp at e), (fun n n' a e => nomatch e), (fun n a e => nomatch e), fun b o e => ?_, (fun b p e => nomatch e), (fun n b kvs e => by simp at e), (fun n o => ⟨(fun e => nomatch e), (fun e => by simp at e)⟩), (fun b o e => nomatch e), (fun b o e => nomatch e), (fun b o e => nomatch e), (fun b o n e => nomatch e), fun P hP => ?_, hcur.symm⟩
    · have e : (if b = a then H a else none) = some o := e
      split at e
      · rename_i hb
        subst hb
        exact At.of e rfl
      · cases e
    · have hP' := hT P hP
      refine ⟨?_, rfl, #[], hP', ?_⟩
      · show (if P = a then H a else none) = none
        rw [if_neg]
        intro z
        rw [z] at hP'
        rcases hR with h | ⟨o, h⟩ <;> (rw [hP'] at h; cases h)
      · first | exact trivial | simp [TriplesOk]
  · show Rd (fun b => if b = a then H a else none) a _
    rcases hR with h | ⟨o, h⟩
    · exact .inl (by show (if a = a then H a else none) = _; rw [if_pos rfl]; exact h)
    · exact .inr ⟨o, by show (if a = a then H a else none) = _; rw [if_pos rfl]; exact h⟩
  · rw [hr]
    intro w' v H' _ _ rv
    cases rv
    rfl
end
end Av
end
section
set_option linter.all false
namespace Av
def fnAt (L : List (Nat × FD)) (f : Nat) : Option FD := (L.find? fun p => p.1 == f).map (·.2)
/-- a number within n -/
def clN (n c : Nat) : Nat := if c < n then c else 0
/-- a program: its defs; the exceptions' fields, which class is over which, their messages -/
def gX (L : List (Nat × FD)) (xfT : List (List (Option Nat))) (subT : List (List Bool)) (xmT : List (Option CE)) (wl : Nat) : Pg := ⟨fnAt L, fun _ => none, fun _ _ => none, fun c k => (xfT.getD (clN xmT.length c) []).getD k none, fun a b => (subT.getD (clN xmT.length a) []).getD (clN xmT.length b) false, fun c => xmT.getD (clN xmT.length c) none, fun _ _ => false, wl⟩
def gP (L : List (Nat × FD)) (wl : Nat) : Pg := gX L [] [] [] wl
/-- a pure def's call, by its body's run -/
theorem call_pure {G : Pg} {n f : Nat} {fd : FD} {ds : List D} {ro m : Mem} {d e : D} {st : Fr} (hf : G.fn f = some fd) (hl : ds.length = fd.np) (hp : fd.pure = true) (hb : exs (G.pm (callF G n)) (ro ++ m) fd.body ⟨slots ds fd.ns, []⟩ = .ok (.ret d) st) (hx : xp (memGet (ro ++ m) st.m) (ro ++ m).length 6 d = some e) :
    callF G (n + 1) f ds ro m = .ok e m := by
  simp only [callF, hf, if_pos hl, hp, if_true, hb, endP, hx]
/-- .. that ends without a value -/
theorem call_pure0 {G : Pg} {n f : Nat} {fd : FD} {ds : List D} {ro m : Mem} {st : Fr} (hf : G.fn f = some fd) (hl : ds.length = fd.np) (hp : fd.pure = true) (hb : exs (G.pm (callF G n)) (ro ++ m) fd.body ⟨slots ds fd.ns, []⟩ = .ok .nx st) :
    callF G (n + 1) f ds ro m = .ok .non m := by
  simp only [callF, hf, if_pos hl, hp, if_true, hb, endP]
theorem allL_pure (f : D → Mem → R Mem Bool) (g : D → Bool) (m : Mem) : ∀ xs : List D, (∀ x ∈ xs, f x m = .ok (g x) m) → allL f xs m = .ok (xs.all g) m
  | [], _ => rfl
  | x :: r, h => by
    rw [allL, h x List.mem_cons_self, R.bind_ok, List.all_cons]
    cases g x with
    | true => simpa using allL_pure f g m r fun y hy => h y (List.mem_cons_of_mem _ hy)
    | false => rfl
end Av
end
section
set_option Elab.async false
set_option linter.all false
set_option maxRecDepth 100000
set_option autoImplicit false
set_option maxHeartbeats 4000000
namespace Av
open PySem PySem.Spec PyProof.Rows L2
def fdOf (K : PySem.W.Frag) (p : Str × Option Str) : Option FuncData := match K.lookup (He.fAd K p) with
  | some ⟨_, _, .func fd, _⟩ => some fd
  | _ => none
/-- a def's row: its number, its datum, its slots, its parameters, its core, whether it has a table -/
structure Row where
  f : Nat
  d : He.DefD
  N : List Str
  P : List Str
  fd : FD
  tb : Bool
def Row.di (K : PySem.W.Frag) (r : Row) (fd : FuncData) : DI := ⟨He.fAd K r.d.at_, fd, r.d.name, r.d.qual, r.d.params, r.d.body, r.d.scope, r.N, r.P, r.tb⟩
section
variable {S : SE} {gl : List (Str × GK)} {mg : Str → Option Value} {base h : Heap} {tbs : List (Str × Option Str)} {fs : List Str}
theorem row_ok {r : Row} {dvs : List V} {kws : List (Str × V)} {fdat : FuncData} (F : FunD S.K r.d.name r.d.qual r.d.params r.d.body r.d.scope dvs kws (He.fAd S.K r.d.at_) fdat) (sc : FnScope r.N r.P r.d.scope) (np : r.fd.np = r.P.length) (ns : r.fd.ns = r.N.length)
    (cp : cSs 60 ⟨r.N, r.d.scope.names, gl, true, 2, r.tb, false, none, fs⟩ r.d.body = some r.fd.body) (ht : r.tb = true → ∃ c T, tabAt S.K r.d.at_ = some (c, T) ∧ GxR.TabB base mg c T ∧ T ∈ S.tb) : DiOk S gl fs mg base (r.di S.K fdat) r.fd := by
  obtain ⟨oc, od, dV, kV, doc, pm, an, cdv, ct, osl, e1, e2, e3, _, _⟩ := F.ex
  refine ⟨⟨oc, od, dV, kV, doc, pm, an, cdv, ct, osl, e1, e2, e3, fun hb => ?_⟩, sc, np, ns, ⟨60, cp⟩⟩
  obtain ⟨c, T, t1, t2, t3⟩ := ht hb
  refine ⟨c, T, t2, t3, ?_⟩
  unfold tabAt at t1
  rw [e2] at t1
  rw [e1] at t1
  have t1 : (match (generalizing := false) cdv with
    | .ref c => (match S.K.lookup c with
      | some ⟨_, _, .fields vs, _⟩ => (match (vs[11]? : Option Value) with
        | some (.ref P) => some (c, P)
        | _ => none)
      | _ => none)
    | _ => none) = some (c, T) := t1
  split at t1
  · split at t1
    · split at t1
      · cases t1; rfl
      · cases t1
    · cases t1
  · cases t1
end
def rowAt (T : List Row) (f : Nat) : Option Row := T.find? fun r => r.f == f
/-- an exception class's row: its datum, its __init__'s parameters, its message's core -/
structure XRow where
  d : XD
  x0 : Str
  q1 : Str
  q2 : Str
  ce : CE
def XRow.m (r : XRow) : Option CE := if r.d.init then some r.ce else none
def XRow.ns (r : XRow) : List Str := if r.d.init then [r.d.f1, r.d.f2] else []
def gOf (T : List Row) (X : List XRow) (xfT : List (List (Option Nat))) (subT : List (List Bool)) (wl : Nat) : Pg := ⟨fun f => (rowAt T f).map (·.fd), fun _ => none, fun _ _ => none, fun c k => (xfT.getD (clN X.length c) []).getD k none, fun a b => (subT.getD (clN X.length a) []).getD (clN X.length b) false, fun c => (X[clN X.length c]?).bind XRow.m, fun _ _ => false, wl⟩
theorem gOf_eq {T : List Row} {X : List XRow} {xfT : List (List (Option Nat))} {subT : List (List Bool)} {wl : Nat} : gOf T X xfT subT wl = gX (T.map fun r => (r.f, r.fd)) xfT subT (X.map XRow.m) wl := by
  unfold gOf gX
  congr 1
  · funext f
    unfold rowAt fnAt
    induction T with
    | nil => rfl
    | cons r T ih =>
      rw [List.map_cons, List.find?_cons, List.find?_cons]
      cases h : r.f == f with
      | true => rfl
      | false => exact ih
  · rw [List.length_map]
  · rw [List.length_map]
  · funext c
    rw [List.length_map, List.getD_eq_getElem?_getD, List.getElem?_map]
    cases X[clN X.length c]? <;> rfl
/-- what stands in an __init__'s words -/
structure XStat (r : XRow) : Prop where
  hd : (r.d.params.posonlyargs ++ r.d.params.args).head?.map (·.arg) = some r.x0
  sc : NdefX.NScope [r.x0, r.q1, r.q2, "__class__"] [r.x0, r.q1, r.q2] ["__class__"] r.d.scope
  ks : r.d.scope.names.lookup ("super" : Str) = some .globalImplicit
  body : ∃ (p0 p1 p2 p3 p4 p5 p6 p7 p8 p9 p10 p11 p12 : Pos) (arg : Expr) (n : Nat), r.d.body = [.Expr (.Call (.Attribute (.Call (.Name "super" p0) [] [] p1) "__init__" p2) [arg] [] p3) p4, .Assign [.Attribute (.Name r.x0 p5) r.d.f1 p6] (.Name r.q1 p7) p8, .Assign [.Attribute (.Name r.x0 p9) r.d.f2 p10] (.Name r.q2 p11) p12] ∧
    cE n ⟨[r.x0, r.q1, r.q2, "__class__"], r.d.scope.names, [], false, 0, false, false, none, []⟩ arg = some r.ce ∧ nostar arg = true ∧ (p2.endLine == p3.line) = true
  nm : okN r.x0 = true ∧ okN r.q1 = true ∧ okN r.q2 = true
  bind : ∀ (cl : List (Str × Addr)) (c : Addr) (doc pm ctv : Value) (us : List Value), us.length = 3 → bindArgs (NdefX.NF.fd ⟨r.d.name, r.d.qual, r.d.params, r.d.body, r.d.scope, cl, c⟩ doc pm ctv) ⟨us, []⟩ = pure ([r.x0, r.q1, r.q2].zip us)
/-- the words of an __init__, checked -/
def xArg : List Stmt → Expr
  | .Expr (.Call _ [arg] _ _) _ :: _ => arg
  | _ => .Constant .none 0 ⟨0, 0, 0, 0⟩
def xbB (x0 q1 q2 f1 f2 : Str) : List Stmt → Bool
  | [.Expr (.Call (.Attribute (.Call (.Name s _) [] [] _) i p2) [arg] [] p3) _, .Assign [.Attribute (.Name a _) g1 _] (.Name b _) _, .Assign [.Attribute (.Name a' _) g2 _] (.Name b' _) _] =>
    decide (s = "super") && decide (i = "__init__") && decide (a = x0) && decide (g1 = f1) && decide (b = q1) && decide (a' = x0) && decide (g2 = f2) && decide (b' = q2) && nostar arg && (p2.endLine == p3.line)
  | _ => false
theorem xbB_ok {x0 q1 q2 f1 f2 : Str} {b : List Stmt} {C : CC} {ce : CE} {n : Nat} (h : xbB x0 q1 q2 f1 f2 b = true) (hc : cE n C (xArg b) = some ce) : ∃ (p0 p1 p2 p3 p4 p5 p6 p7 p8 p9 p10 p11 p12 : Pos) (arg : Expr) (n : Nat), b = [.Expr (.Call (.Attribute (.Call (.Name "super" p0) [] [] p1) "__init__" p2) [arg] [] p3) p4, .Assign [.Attribute (.Name x0 p5) f1 p6] (.Name q1 p7) p8, .Assign [.Attribute (.Name x0 p9) f2 p10] (.Name q2 p11) p12] ∧
    cE n C arg = some ce ∧ nostar arg = true ∧ (p2.endLine == p3.line) = true := by
  unfold xbB at h
  split at h
  · simp only [Bool.and_eq_true, decide_eq_true_eq] at h
    obtain ⟨⟨⟨⟨⟨⟨⟨⟨⟨rfl, rfl⟩, rfl⟩, rfl⟩, rfl⟩, rfl⟩, rfl⟩, rfl⟩, h1⟩, h2⟩ := h
    exact ⟨_, _, _, _, _, _, _, _, _, _, _, _, _, _, n, rfl, hc, h1, h2⟩
  · cases h
/-- fields' names, by number -/
def fnS (fs : List Str) (i : Nat) : Str := match fs[i]? with
  | some f => f
  | none => xS [1114112 + i]
def fsOk (fs : List Str) : Bool := decide fs.Nodup && fs.all fun f => okTb f.cps.toList
theorem fnS_inj {fs : List Str} (h : fsOk fs = true) (i j : Nat) (e : fnS fs i = fnS fs j) : i = j := by
  unfold fsOk at h
  rw [Bool.and_eq_true] at h
  have nd := of_decide_eq_true h.1
  have big : ∀ (f : Str) (k : Nat), f ∈ fs → f = xS [1114112 + k] → False := fun f k hf ef => by
    have := okTb_ok (List.all_eq_true.mp h.2 f hf)
    rw [ef, xS_tl] at this
    have := this.2 (1114112 + k) (by simp)
    omega
  unfold fnS at e
  cases hi : fs[i]? with
  | some f =>
    cases hj : fs[j]? with
    | some g =>
      rw [hi, hj] at e
      have e : f = g := e
      subst e
      obtain ⟨h1, e1⟩ := List.getElem?_eq_some_iff.mp hi
      obtain ⟨h2, e2⟩ := List.getElem?_eq_some_iff.mp hj
      exact (List.getElem_inj nd).mp (e1.trans e2.symm)
    | none => rw [hi, hj] at e; exact (big f j (List.mem_of_getElem? hi) e).elim
  | none =>
    cases hj : fs[j]? with
    | some g => rw [hi, hj] at e; exact (big g i (List.mem_of_getElem? hj) e.symm).elim
    | none =>
      rw [hi, hj] at e
      have := xS_inj e
      simpa using this
theorem fnS_idx {fs : List Str} {f : Str} {k : Nat} (h : idx f fs 0 = some k) : fnS fs k = f := by
  unfold fnS
  rw [idx_get h]
/-- the fields' table tells the classes' fields -/
def xfOk (X : List XRow) (xfT : List (List (Option Nat))) (fs : List Str) : Bool := decide (xfT.length ≤ X.length) && (List.range xfT.length).all fun c => match X[c]? with
  | some r => decide r.ns.Nodup && (List.range (xfT.getD c []).length).all fun k => match (xfT.getD c []).getD k none with
    | some j => r.d.init && decide (r.ns[j]? = some (fnS fs k))
    | none => true
  | none => true
theorem xfOk_at {X : List XRow} {xfT : List (List (Option Nat))} {fs : List Str} (h : xfOk X xfT fs = true) {c k j : Nat} (e : (xfT.getD c []).getD k none = some j) : ∃ r, X[c]? = some r ∧ r.ns.Nodup ∧ r.d.init = true ∧ r.ns[j]? = some (fnS fs k) := by
  unfold xfOk at h
  rw [Bool.and_eq_true] at h
  have hl := of_decide_eq_true h.1
  have hk : k < (xfT.getD c []).length := by
    refine Nat.lt_of_not_le fun hn => ?_
    rw [List.getD_eq_getElem?_getD, List.getElem?_eq_none_iff.mpr hn] at e
    cases e
  have hc : c < xfT.length := by
    refine Nat.lt_of_not_le fun hn => ?_
    rw [List.getD_eq_getElem?_getD (l := xfT), List.getElem?_eq_none_iff.mpr hn] at hk
    exact absurd hk (Nat.not_lt_zero _)
  have := List.all_eq_true.mp h.2 c (List.mem_range.mpr hc)
  have hX : c < X.length := by omega
  rw [List.getElem?_eq_getElem hX] at this
  simp only [Bool.and_eq_true] at this
  have h2 := List.all_eq_true.mp this.2 k (List.mem_range.mpr hk)
  simp only [e, Bool.and_eq_true] at h2
  exact ⟨_, List.getElem?_eq_getElem hX, of_decide_eq_true this.1, h2.1, of_decide_eq_true h2.2⟩
theorem rowAt_mem {T : List Row} {f : Nat} {r : Row} (h : rowAt T f = some r) : r ∈ T := List.mem_of_find?_eq_some h
/-- a row's def stands in K -/
abbrev RowF (K : PySem.W.Frag) (r : Row) (fd : FuncData) : Prop := FunD K r.d.name r.d.qual r.d.params r.d.body r.d.scope [] [] (He.fAd K r.d.at_) fd
/-- what a global is, by rows -/
def GlR (K : PySem.W.Frag) (T : List Row) (X : List XRow) (mg : Str → Option Value) (x : Str) : GK → Prop
  | .bi => mg x = none
  | .cst d => ∃ (u : Value) (v : V), mg x = some u ∧ RelV v u ∧ ∀ w, RelD w d v
  | .fn f np dds => ∃ r, rowAt T f = some r ∧ np = r.fd.np ∧ dds = [] ∧ mg x = some (.ref (He.fAd K r.d.at_))
  | .exc c i => ∃ r, X[c]? = some r ∧ r.d.x = x ∧ (i = true → r.d.init = true) ∧ mg x = some (.ref (He.ga K x))
theorem law_at {l : PySem.W.OpenLaw} {wd : World} {K : PySem.W.Frag} {h : Heap} {mg : Str → Option Value} {fa : Addr} {T : List Row} {X : List XRow} {xfT : List (List (Option Nat))} {subT : List (List Bool)} {fs : List Str} {tbs : List (Str × Option Str)} {gl : List (Str × GK)} {m wl lawf : Nat} {law : Row} {x : Str}
    (hK : K.In h) (st : SaysT tbs K h) (nl : (K.all fun p => noList p.2) = true) (hF : ∀ r ∈ T, ∃ fd, RowF K r fd) (hA : ∀ r ∈ T, ∀ fd, RowF K r fd → ∀ (s : Shared) (us : List Value), us.length = r.P.length → BindsTo s fd ⟨us, []⟩ (r.P.zip us))
    (hS : ∀ r ∈ T, FnScope r.N r.P r.d.scope ∧ r.fd.np = r.P.length ∧ r.fd.ns = r.N.length ∧ cSs 60 ⟨r.N, r.d.scope.names, gl, true, 2, r.tb, false, none, fs⟩ r.d.body = some r.fd.body ∧ (r.tb = true → r.d.at_ ∈ tbs)) (hG : ∀ x g, gl.lookup x = some g → GlR K T X mg x g)
    (hX : SaysX l.prog.main.file (X.map (·.d)) subT K) (hXs : ∀ r ∈ X, r.d.init = true → XStat r) (hfs : fsOk fs = true) (hxt : xfOk X xfT fs = true) (hsup : X ≠ [] → mg "super" = none) (htop : (l.prog.main.scope.names.lookup ("super" : Str)).isSome = false)
    (hl : rowAt T lawf = some law) (hP : law.P = [x]) (hfa : fa = He.fAd K law.d.at_) (hc : ∀ ns : List Int, ns.length ≤ 63 → (∀ z ∈ ns, Builtin.Int.intBits z ≤ 1048576) → callF (gOf T X xfT subT wl) m lawf [.scr ns] [] [] = .ok (.bl true) []) :
    LamX.LawAtS l wd K (L2.CX l.prog wd) (3 * m) 63 x mg fa h := by
  have hlm := rowAt_mem hl
  obtain ⟨fd0, hF0⟩ := hF law hlm
  have hF' : ∀ r : Row, ∃ fd, r ∈ T → RowF K r fd := fun r => by
    by_cases hr : r ∈ T
    · obtain ⟨fd, q⟩ := hF r hr; exact ⟨fd, fun _ => q⟩
    · exact ⟨fd0, fun z => absurd z hr⟩
  obtain ⟨fds, hfds⟩ := Classical.axiomOfChoice hF'
  have tabs : ∀ p ∈ tbs.filterMap (tabAt K), PySem.W.codeHdIn K p.1 p.2 = true ∧ h.get? p.2 = some (PySem.W.tabObj #[]) ∧ K.lookup p.2 = none := fun p hp => by
    obtain ⟨q, hq, e⟩ := List.mem_filterMap.mp hp
    obtain ⟨c, P, h1, h2, h3, h4⟩ := st q hq
    rw [e] at h1; cases h1
    exact ⟨h2, h3, h4⟩
  generalize hSS : (⟨K, fun _ => 0, fnS fs, fnS_inj hfs, (tbs.filterMap (tabAt K)).map (·.2), none⟩ : SE) = S
  have eK : S.K = K := by rw [← hSS]
  have eF : S.fn = fnS fs := by rw [← hSS]
  have eC : S.cur = none := by rw [← hSS]
  have eT : S.tb = (tbs.filterMap (tabAt K)).map (·.2) := by rw [← hSS]
  generalize hEE : (⟨fun c => match X[clN X.length c]? with | some r => He.ga K r.d.x | none => 0, fun c => match X[clN X.length c]? with | some r => r.ns | none => []⟩ : ED) = E
  have xaE : ∀ c r, X[clN X.length c]? = some r → E.xa c = He.ga K r.d.x := fun c r hr => by rw [← hEE]; simp only [hr]
  have xnE : ∀ c r, X[clN X.length c]? = some r → E.xn c = r.ns := fun c r hr => by rw [← hEE]; simp only [hr]
  have readX : ∀ r ∈ X, r.d.init = true → XOk l.prog K mg r.d r.x0 := fun r hr hi => by
    obtain ⟨h1, h2⟩ := hX.1 r.d (List.mem_map.mpr ⟨r, hr, rfl⟩)
    exact XD.read hi h1 h2 (hXs r hr hi).hd (hsup (List.ne_nil_of_mem hr)) htop
  have hxf : ∀ c k jj, (gOf T X xfT subT wl).xf c k = some jj → (E.xn c)[jj]? = some (S.fn k) ∧ (E.xn c).Nodup ∧ XfC S.K (E.xa c) ∧ PySem.W.findIn S.K (.ref (E.xa c)) (S.fn k) = some none := fun c k jj e => by
    obtain ⟨r, hr, nd, hi, hj⟩ := xfOk_at hxt (c := clN X.length c) e
    have ok := readX r (List.mem_of_getElem? hr) hi
    rw [xnE c r hr, xaE c r hr, eK, eF]
    refine ⟨hj, nd, ok.xf, ?_⟩
    have hm : fnS fs k ∈ r.ns := List.mem_of_getElem? hj
    unfold XRow.ns at hm
    rw [if_pos hi] at hm
    rcases List.mem_cons.mp hm with q | q
    · rw [q]; exact ok.n1
    · rw [List.mem_singleton.mp q]; exact ok.n2
  refine ⟨fds law, tbs.filterMap (tabAt K), spC S E (callF (gOf T X xfT subT wl) m lawf) 1, fun p hp => (tabs p hp).2.1, fun p hp => (tabs p hp).2.2, fun p hp => PySem.W.codeHd_of_K hK (tabs p hp).1, fun s u => ?_, fun H a ns h1 h2 h3 h4 => ?_, fun base hb hg hTB => ?_⟩
  · have := hA law hlm _ (hfds law hlm) s [u] (by rw [hP]; rfl)
    rw [hP] at this
    exact this
  · refine law_hsp (S := S) eC (by rw [eK]; exact nl) (Nat.le_trans h1 (by decide)) (fun P hP => ?_) (by rw [eK]; exact h4) (hc ns h1 h2)
    rw [eT] at hP
    obtain ⟨p, hp, rfl⟩ := List.mem_map.mp hP
    exact h3 p hp
  · have key := all_ok (fs := fs) eC (fun f k hk => by rw [eF]; exact fnS_idx hk) hxf (Pr := l.prog) (wd := wd) (mg := mg) (base := base) (S := S) (E := E) (G := gOf T X xfT subT wl) (gl := gl) (di := fun f => match rowAt T f with | some r => r.di K (fds r) | none => law.di K (fds law)) (fun f fd hf => ?_) (fun x g hx => ?_) m lawf law.fd (by show (rowAt T lawf).map (·.fd) = _; rw [hl]; rfl)
    · simp only [hl] at key
      rw [eK, (hS law hlm).2.1, hP] at key
      rw [hfa, ← hP]
      have e1 : (law.di K (fds law)).ps = law.P := rfl
      exact key
    · have hf : (rowAt T f).map (·.fd) = some fd := hf
      obtain ⟨r, hr, rfl⟩ := mpd hf
      have hm := rowAt_mem hr
      obtain ⟨s1, s2, s3, s4, s5⟩ := hS r hm
      simp only [hr]
      rw [← eK]
      refine row_ok (by rw [eK]; exact hfds r hm) s1 s2 s3 s4 fun ht => ?_
      obtain ⟨c, P, t1, t2, t3, t4⟩ := st _ (s5 ht)
      have hp : (c, P) ∈ tbs.filterMap (tabAt K) := List.mem_filterMap.mpr ⟨_, s5 ht, t1⟩
      exact ⟨c, P, by rw [eK]; exact t1, ⟨(hTB _ hp).code, (hTB _ hp).bm, (hTB _ hp).gP⟩, by rw [eT]; exact List.mem_map.mpr ⟨_, hp, rfl⟩⟩
    · have := hG x g hx
      cases g with
      | bi => exact this
      | cst d => exact this
      | exc c i =>
        obtain ⟨r, hr, rfl, hi, hm⟩ := this
        have hc : c < X.length := (List.getElem?_eq_some_iff.mp hr).1
        have hcc : clN X.length c = c := if_pos hc
        have hrc : X[clN X.length c]? = some r := by rw [hcc]; exact hr
        have hmem : r ∈ X := List.mem_of_getElem? hr
        refine ⟨by rw [xaE c r hrc]; exact hm, fun c' => ?_, fun hit cf => ⟨?_⟩⟩
        · have hc' : clN X.length c' < X.length := by unfold clN; split <;> omega
          have hr' := List.getElem?_eq_getElem hc'
          rw [xaE c r hrc, xaE c' _ hr', eK]
          have := hX.2
          unfold xpB at this
          rw [List.length_map] at this
          have := List.all_eq_true.mp (List.all_eq_true.mp this _ (List.mem_range.mpr hc')) c (List.mem_range.mpr hc)
          simp only [List.getElem?_map, hr', hr, Option.map_some] at this
          rw [of_decide_eq_true this]
          show _ = some ((subT.getD (clN X.length c') []).getD (clN X.length c) false)
          rw [hcc]
        · have hinit := hi hit
          have st := hXs r hmem hinit
          obtain ⟨⟨cc, cd, hxk⟩, o2, o3, o4, o5, o6⟩ := readX r hmem hinit
          obtain ⟨oc, od, osl, doc, pm, ctv, hfo⟩ := hxk.fo
          obtain ⟨p0, p1, p2, p3, p4, p5, p6, p7, p8, p9, p10, p11, p12, arg, n, hb, hce, hst, hline⟩ := st.body
          have hxk' : XiK l.prog S.K mg (He.ga K r.d.x) (He.fAd K (r.d.x, some "__init__")) cc ⟨r.d.name, r.d.qual, r.d.params, r.d.body, r.d.scope, [("__class__", cc)], cd⟩ r.x0 := by rw [eK]; exact hxk
          refine ⟨_, _, [r.x0, r.q1, r.q2], r.ce, r.d.f1, r.d.f2, ?_, ?_, ?_, ?_, ?_, xinit_ok (E0 := E) (P := (gOf T X xfT subT wl).pm cf) (C := E.xa c) hxf eC (by rw [xaE c r hrc]; exact hxk') st.sc st.ks hb hce hst hline (by rw [xaE c r hrc, eK]; exact o4) (by rw [xaE c r hrc, eK]; exact o5) st.nm ⟨oc, od, osl, by rw [eK]; exact hfo⟩, ?_, ?_⟩
          · rw [xnE c r hrc]; unfold XRow.ns; rw [if_pos hinit]
          · show (X[clN X.length c]?).bind XRow.m = _
            rw [hrc]
            show XRow.m r = _
            unfold XRow.m
            rw [if_pos hinit]
          · rw [eK, xaE c r hrc]; exact hxk.cls
          · rw [eK, xaE c r hrc]; exact o2
          · rw [eK]; exact o3
          · exact Binds.all fun us hl => st.bind _ _ _ _ _ us hl
          · rw [xaE c r hrc]; exact hm
      | fn f np dds =>
        obtain ⟨r, hr, rfl, rfl, hmx⟩ := this
        have hm := rowAt_mem hr
        refine ⟨r.fd, [], [], by show (rowAt T f).map (·.fd) = _; rw [hr]; rfl, rfl, ?_⟩
        simp only [hr]
        refine ⟨hmx, by rw [eK]; exact (hfds r hm).kp, fun s us _ hl => ?_, .nil, fun w => .nil⟩
        rw [List.append_nil] at hl ⊢
        exact hA r hm _ (hfds r hm) s us hl
end Av
end
section
set_option linter.all false
set_option maxRecDepth 100000
namespace Av
def B10 : List CS := [(.asg (.t (.v 2)) (.dc [4] (.v 4) (.var 0) [] (.var 4) (.cst (.bl true)))), (.asg (.t (.v 3)) (.dc [4] (.v 4) (.var 1) [] (.var 4) (.cst (.bl true)))), (.ret (.tup [(.bi .sorted [(.lc [4] (.v 4) (.var 3) [(.e (.cmp .nmem (.var 4) (.var 2)))] (.var 4))]), (.bi .sorted [(.lc [4] (.v 4) (.var 2) [(.e (.cmp .nmem (.var 4) (.var 3)))] (.var 4))])]))]
def B11 : List CS := [(.asg (.t (.v 2)) (.dc [3] (.v 3) (.var 0) [] (.var 3) (.cst (.bl true)))), (.ret (.and_ (.alg [3] (.v 3) (.sub (.var 1) (.cst (.int (0)))) (.cmp .nmem (.var 3) (.var 2))) (.alg [3] (.v 3) (.sub (.var 1) (.cst (.int (1)))) (.cmp .mem (.var 3) (.var 2)))))]
def B12 : List CS := [(.ife (.not_ (.e (.call 11 [(.var 0), (.var 1)]))) [(.rai 1 [(.cst (.str [99, 104, 97, 110, 103, 101, 32, 100, 111, 101, 115, 32, 110, 111, 116, 32, 97, 112, 112, 108, 121])), (.neg (.cst (.int (1))))])] []), (.asg (.t (.v 2)) (.dc [3] (.v 3) (.sub (.var 1) (.cst (.int (1)))) [] (.var 3) (.cst (.bl true)))), (.ret (.bi .sorted [(.bin .add (.lc [3] (.v 3) (.var 0) [(.e (.cmp .nmem (.var 3) (.var 2)))] (.var 3)) (.bi .list [(.sub (.var 1) (.cst (.int (0))))]))]))]
def B13 : List CS := [(.asg (.t (.v 2)) (.dc [3] (.v 3) (.var 1) [] (.var 3) (.cst (.bl true)))), (.ret (.lc [3] (.v 3) (.var 0) [(.e (.cmp .nmem (.var 3) (.var 2)))] (.var 3)))]
def B14 : List CS := [(.ife (.or_ (.e (.cmp .ne (.call 13 [(.sub (.var 0) (.cst (.int (0)))), (.sub (.var 1) (.cst (.int (0))))]) (.bi .list [(.sub (.var 0) (.cst (.int (0))))]))) (.e (.cmp .ne (.call 13 [(.sub (.var 0) (.cst (.int (1)))), (.sub (.var 1) (.cst (.int (1))))]) (.bi .list [(.sub (.var 0) (.cst (.int (1))))])))) [(.rai 1 [(.cst (.str [99, 104, 97, 110, 103, 101, 115, 32, 100, 111, 32, 110, 111, 116, 32, 99, 111, 109, 112, 111, 115, 101])), (.neg (.cst (.int (1))))])] []), (.asg (.t (.v 2)) (.bin .add (.call 13 [(.sub (.var 0) (.cst (.int (0)))), (.sub (.var 1) (.cst (.int (1))))]) (.call 13 [(.sub (.var 1) (.cst (.int (0)))), (.sub (.var 0) (.cst (.int (1))))]))), (.asg (.t (.v 3)) (.bin .add (.call 13 [(.sub (.var 0) (.cst (.int (1)))), (.sub (.var 1) (.cst (.int (0))))]) (.call 13 [(.sub (.var 1) (.cst (.int (1)))), (.sub (.var 0) (.cst (.int (0))))]))), (.ret (.tup [(.bi .sorted [(.var 2)]), (.bi .sorted [(.var 3)])]))]
def B1000 : List CS := [(.ife (.e (.cmp .lt (.var 1) (.bi .len [(.var 0)]))) [(.ret (.sub (.var 0) (.var 1)))] []), (.ret (.cst (.int (0))))]
def L1001_1 : List CS := [(.ife (.e (.var 3)) [(.exp (.bc .append (.var 2) [(.bin .mod (.var 0) (.cst (.int (1009))))])), (.asg (.t (.v 0)) (.bin .fdiv (.var 0) (.cst (.int (1009)))))] [(.asg (.t (.v 5)) (.bin .mod (.bin .add (.bin .mul (.var 0) (.cst (.int (48271)))) (.bin .mul (.var 4) (.cst (.int (69621))))) (.cst (.int (2147483647))))), (.exp (.bc .append (.var 2) [(.bin .mod (.bin .add (.bin .add (.bin .mul (.var 5) (.var 5)) (.bin .mul (.var 0) (.cst (.int (31))))) (.var 4)) (.cst (.int (1000003))))]))])]
def B1001 : List CS := [(.asg (.t (.v 2)) (.lst [])), (.asg (.t (.v 3)) (.cmp .ge (.var 0) (.bin .pow (.cst (.int (10))) (.cst (.int (18)))))), (.for_ (.v 4) (.rng [(.var 1)]) L1001_1), (.ret (.var 2))]
def B1002 : List CS := [(.ret (.tup [(.lc [2] (.v 2) (.var 1) [(.e (.cmp .nmem (.var 2) (.var 0)))] (.var 2)), (.lc [2] (.v 2) (.var 0) [(.e (.cmp .nmem (.var 2) (.var 1)))] (.var 2))]))]
def L1003_1 : CE := (.tup [(.bin .add (.cst (.str [100, 58])) (.sub (.cst (.str [49, 50, 51])) (.bin .mod (.var 3) (.cst (.int (3)))))), (.sub (.cst (.str [118, 101])) (.bin .fdiv (.var 3) (.cst (.int (9))))), (.bin .add (.cst (.str [117, 115, 101, 114, 58])) (.sub (.cst (.str [97, 98, 99])) (.bin .mod (.bin .fdiv (.var 3) (.cst (.int (3)))) (.cst (.int (3))))))])
def B1003 : List CS := [(.asg (.t (.v 1)) (.call 1001 [(.var 0), (.cst (.int (18)))])), (.asg (.t (.v 2)) (.bin .add (.cst (.int (2))) (.bin .mod (.sub (.var 1) (.cst (.int (0)))) (.cst (.int (3)))))), (.ret (.lc [3] (.v 3) (.rng [(.cst (.int (18)))]) [(.e (.cmp .eq (.bin .mod (.sub (.var 1) (.var 3)) (.var 2)) (.cst (.int (0)))))] L1003_1))]
def B1004 : List CS := [(.try_ [(.ret (.call 12 [(.var 0), (.var 1)]))] [(.mk 1 (some 2) [(.ret (.tup [(.xat 2 0), (.xat 2 1)]))])])]
def B1005 : List CS := [(.try_ [(.ret (.call 14 [(.var 0), (.var 1)]))] [(.mk 1 (some 2) [(.ret (.tup [(.xat 2 0), (.xat 2 1)]))])])]
def L1006_1 : CE := (.bi .sorted [(.call 1003 [(.call 1000 [(.var 0), (.var 3)])])])
def L1006_2 : List CS := [(.asg (.t (.v 6)) (.call 1002 [(.sub (.var 1) (.var 3)), (.sub (.var 1) (.bin .add (.var 3) (.cst (.int (1)))))])), (.asg (.t (.v 7)) (.call 10 [(.bi .list [(.sub (.var 1) (.var 3))]), (.bi .list [(.sub (.var 1) (.bin .add (.var 3) (.cst (.int (1)))))])])), (.ife (.or_ (.not_ (.e (.isi (.var 7) .tuple))) (.or_ (.e (.cmp .ne (.var 7) (.var 6))) (.e (.cmp .ne (.call 1004 [(.bi .list [(.sub (.var 1) (.var 3))]), (.var 7)]) (.sub (.var 1) (.bin .add (.var 3) (.cst (.int (1))))))))) [(.ret (.cst (.bl false)))] []), (.exp (.bc .append (.var 2) [(.var 7)]))]
def L1006_3 : List CS := [(.asg (.t (.v 9)) (.and_ (.var 9) (.cmp .nmem (.var 10) (.sub (.var 1) (.var 8)))))]
def L1006_4 : List CS := [(.asg (.t (.v 9)) (.and_ (.var 9) (.cmp .mem (.var 10) (.sub (.var 1) (.var 8)))))]
def L1006_5 : List CS := [(.asg (.t (.v 9)) (.cst (.bl true))), (.for_ (.v 10) (.sub (.sub (.var 2) (.var 3)) (.cst (.int (0)))) L1006_3), (.for_ (.v 10) (.sub (.sub (.var 2) (.var 3)) (.cst (.int (1)))) L1006_4), (.asg (.t (.v 7)) (.call 1004 [(.bi .list [(.sub (.var 1) (.var 8))]), (.sub (.var 2) (.var 3))])), (.ife (.e (.cmp .eq (.cmp .eq (.var 7) (.tup [(.cst (.str [99, 104, 97, 110, 103, 101, 32, 100, 111, 101, 115, 32, 110, 111, 116, 32, 97, 112, 112, 108, 121])), (.neg (.cst (.int (1))))])) (.var 9))) [(.ret (.cst (.bl false)))] [])]
def L1006_6 : List CS := [(.for_ (.v 8) (.rng [(.cst (.int (4)))]) L1006_5)]
def B1006 : List CS := [(.asg (.t (.v 1)) (.lc [3] (.v 3) (.rng [(.cst (.int (4)))]) [] L1006_1)), (.asg (.t (.v 2)) (.lst [])), (.for_ (.v 3) (.rng [(.cst (.int (3)))]) L1006_2), (.for_ (.v 3) (.rng [(.cst (.int (3)))]) L1006_6), (.ife (.e (.cmp .ne (.call 1005 [(.sub (.var 2) (.cst (.int (0)))), (.sub (.var 2) (.cst (.int (1))))]) (.call 1002 [(.sub (.var 1) (.cst (.int (0)))), (.sub (.var 1) (.cst (.int (2))))]))) [(.ret (.cst (.bl false)))] []), (.asg (.t (.v 4)) (.call 1002 [(.sub (.var 1) (.cst (.int (0)))), (.sub (.var 1) (.cst (.int (3))))])), (.ife (.e (.cmp .ne (.call 14 [(.call 14 [(.sub (.var 2) (.cst (.int (0)))), (.sub (.var 2) (.cst (.int (1))))]), (.sub (.var 2) (.cst (.int (2))))]) (.var 4))) [(.ret (.cst (.bl false)))] []), (.ife (.e (.cmp .ne (.call 14 [(.sub (.var 2) (.cst (.int (0)))), (.call 14 [(.sub (.var 2) (.cst (.int (1)))), (.sub (.var 2) (.cst (.int (2))))])]) (.var 4))) [(.ret (.cst (.bl false)))] []), (.asg (.t (.v 5)) (.lc [10] (.v 10) (.sub (.sub (.var 2) (.cst (.int (0)))) (.cst (.int (0)))) [(.e (.cmp .mem (.var 10) (.sub (.sub (.var 2) (.cst (.int (2)))) (.cst (.int (0))))))] (.var 10))), (.asg (.t (.v 5)) (.bin .add (.var 5) (.lc [10] (.v 10) (.sub (.sub (.var 2) (.cst (.int (0)))) (.cst (.int (1)))) [(.e (.cmp .mem (.var 10) (.sub (.sub (.var 2) (.cst (.int (2)))) (.cst (.int (1))))))] (.var 10)))), (.ret (.cmp .eq (.cmp .eq (.call 1005 [(.sub (.var 2) (.cst (.int (0)))), (.sub (.var 2) (.cst (.int (2))))]) (.tup [(.cst (.str [99, 104, 97, 110, 103, 101, 115, 32, 100, 111, 32, 110, 111, 116, 32, 99, 111, 109, 112, 111, 115, 101])), (.neg (.cst (.int (1))))])) (.cmp .gt (.bi .len [(.var 5)]) (.cst (.int (0))))))]
def L0 : List (Nat × FD) := (10, ⟨2, 5, true, B10⟩) :: (11, ⟨2, 4, true, B11⟩) :: (12, ⟨2, 4, true, B12⟩) :: (13, ⟨2, 4, true, B13⟩) :: (14, ⟨2, 4, true, B14⟩) :: (1000, ⟨2, 2, true, B1000⟩) :: (1001, ⟨2, 6, true, B1001⟩) :: (1002, ⟨2, 3, true, B1002⟩) :: (1003, ⟨1, 4, true, B1003⟩) :: (1004, ⟨2, 3, true, B1004⟩) :: (1005, ⟨2, 3, true, B1005⟩) :: (1006, ⟨1, 11, true, B1006⟩) :: []
def XM1 : CE := (.ife (.e (.cmp .lt (.var 2) (.cst (.int (0))))) (.var 1) (.fst [(.var 1), (.cst (.str [32, 40])), (.var 2), (.cst (.str [41]))]))
def xf0 : List (List (Option Nat)) := [[], [some 0, some 1]]
def sub0 : List (List Bool) := [[true, false], [true, true]]
def xm0 : List (Option CE) := none :: some XM1 :: []
abbrev G0 : Pg := gX L0 xf0 sub0 xm0 0
end Av
end
section
set_option linter.all false
set_option maxRecDepth 100000
namespace Av
section
variable {S α β : Type}
/-- an end's wish -/
def R.wp (r : R S α) (Q : α → S → Prop) (E : Xn → S → Prop) : Prop := match r with
  | .ok a s => Q a s
  | .exc x s => E x s
  | .stuck => False
end
namespace C
section
variable {S α β : Type}
theorem wp_ok (a : α) (s : S) (Q : α → S → Prop) (E : Xn → S → Prop) : (R.ok a s).wp Q E = Q a s := rfl
theorem wp_exc (x : Xn) (s : S) (Q : α → S → Prop) (E : Xn → S → Prop) : (R.exc x s : R S α).wp Q E = E x s := rfl
theorem wp_bind (r : R S α) (f : α → S → R S β) (Q : β → S → Prop) (E : Xn → S → Prop) : (r.bind f).wp Q E = r.wp (fun a s => (f a s).wp Q E) E := by
  cases r <;> rfl
theorem wp_mono {r : R S α} {Q Q' : α → S → Prop} {E E' : Xn → S → Prop} (h : r.wp Q E) (hq : ∀ a s, Q a s → Q' a s) (he : ∀ x s, E x s → E' x s) : r.wp Q' E' := by
  cases r with
  | ok a s => exact hq a s h
  | exc x s => exact he x s h
  | stuck => exact h
theorem wp_eq {r : R S α} {a : α} {s : S} (h : r.wp (fun b t => b = a ∧ t = s) (fun _ _ => False)) : r = .ok a s := by
  cases r with
  | ok b t => obtain ⟨h1, h2⟩ := h; subst h1; subst h2; rfl
  | exc x s => exact h.elim
  | stuck => exact h.elim
theorem wp_get {r : R S α} {Q : α → S → Prop} (h : r.wp Q (fun _ _ => False)) : ∃ a s, r = .ok a s ∧ Q a s := by
  cases r with
  | ok b t => exact ⟨b, t, rfl, h⟩
  | exc x s => exact h.elim
  | stuck => exact h.elim
theorem bind_congr {r r' : R S α} {f : α → S → R S β} (h : r = r') : r.bind f = r'.bind f := by rw [h]
theorem calm_congr {r r' : R S α} {f : α → S → R S β} (h : r = r') : r.calm f = r'.calm f := by rw [h]
theorem wp_congr {r r' : R S α} {Q : α → S → Prop} {E : Xn → S → Prop} (h : r = r') : r.wp Q E = r'.wp Q E := by rw [h]
theorem calm_ok (a : α) (s : S) (f : α → S → R S β) : (R.ok a s).calm f = f a s := rfl
theorem bind_ite {c : Prop} [Decidable c] (a b : R S α) (f : α → S → R S β) : (if c then a else b).bind f = if c then a.bind f else b.bind f := by
  split <;> rfl
theorem ok_and (c d : Bool) (s : S) : (if c = true then R.ok d s else R.ok false s) = R.ok (c && d) s := by cases c <;> rfl
theorem ok_or (c d : Bool) (s : S) : (if c = true then R.ok true s else R.ok d s) = R.ok (c || d) s := by cases c <;> rfl
theorem ok_andD (c d : Bool) (s : S) : (if c = true then R.ok (D.bl d) s else R.ok (D.bl false) s) = R.ok (D.bl (c && d)) s := by cases c <;> rfl
theorem ok_orD (c d : Bool) (s : S) : (if c = true then R.ok (D.bl true) s else R.ok (D.bl d) s) = R.ok (D.bl (c || d)) s := by cases c <;> rfl
theorem up_ite {c : Prop} [Decidable c] (a b : R Mem α) (σ : Sl) : (if c then a else b).up σ = if c then a.up σ else b.up σ := by
  split <;> rfl
end
theorem up_stuck {α : Type} (σ : Sl) : (R.stuck : R Mem α).up σ = .stuck := rfl
theorem wp_up {α : Type} (r : R Mem α) (σ : Sl) (Q : α → Fr → Prop) (E : Xn → Fr → Prop) : (r.up σ).wp Q E = r.wp (fun a m => Q a ⟨σ, m⟩) (fun x m => E x ⟨σ, m⟩) := by
  cases r <;> rfl

theorem isX_non : isX .non = false := rfl
theorem isX_bl (b : Bool) : isX (.bl b) = false := rfl
theorem isX_int (i : Int) : isX (.int i) = false := rfl
theorem isX_str (t : Tx) : isX (.str t) = false := rfl
theorem isX_tup (l : List D) : isX (.tup l) = false := rfl
theorem isX_lst (l : List D) : isX (.lst l) = false := rfl
theorem isX_dct (l : List (Ky × D)) : isX (.dct l) = false := rfl
theorem isX_ref (n : Nat) : isX (.ref n) = false := rfl
theorem isX_scr (l : List Int) : isX (.scr l) = false := rfl
section
variable (ro m : Mem)
theorem rd_non : rd ro m .non = .non := rfl
theorem rd_bl (b : Bool) : rd ro m (.bl b) = .bl b := rfl
theorem rd_int (i : Int) : rd ro m (.int i) = .int i := rfl
theorem rd_str (t : Tx) : rd ro m (.str t) = .str t := rfl
theorem rd_tup (l : List D) : rd ro m (.tup l) = .tup l := rfl
theorem rd_lst (l : List D) : rd ro m (.lst l) = .lst l := rfl
theorem rd_dct (l : List (Ky × D)) : rd ro m (.dct l) = .dct l := rfl
theorem rd_scr (l : List Int) : rd ro m (.scr l) = .scr l := rfl
theorem memGet_own (k : Nat) : memGet ro m (ro.length + k) = m[k]? := by
  unfold memGet
  rw [if_neg (by omega)]
  congr 1
  omega
theorem memGet_own0 : memGet ro m ro.length = m[0]? := memGet_own ro m 0
theorem memSet_own {k : Nat} (o : Ob) (h : k < m.length) : memSet ro m (ro.length + k) o = some (m.set k o) := by
  unfold memSet
  rw [if_neg (by omega), if_pos (by omega)]
  congr 2
  omega
theorem memSet_own0 (o o' : Ob) (r : Mem) : memSet ro (o' :: r) ro.length o = some (o :: r) := memSet_own ro (o' :: r) (k := 0) o (by simp)
theorem memSet_own1 (o a b : Ob) (r : Mem) : memSet ro (a :: b :: r) (ro.length + 1) o = some (a :: o :: r) := memSet_own ro (a :: b :: r) (k := 1) o (by simp)
theorem memSet_own2 (o a b c : Ob) (r : Mem) : memSet ro (a :: b :: c :: r) (ro.length + 2) o = some (a :: b :: o :: r) := memSet_own ro (a :: b :: c :: r) (k := 2) o (by simp)
theorem memGet_own1 : memGet ro m (ro.length + 1) = m[1]? := memGet_own ro m 1
theorem memGet_own2 : memGet ro m (ro.length + 2) = m[2]? := memGet_own ro m 2
theorem rd_own (k : Nat) : rd ro m (.ref (ro.length + k)) = (match m[k]? with | some o => (obD o).getD (.ref (ro.length + k)) | none => .ref (ro.length + k)) := by
  show (match memGet ro m (ro.length + k) with | some o => (obD o).getD (.ref (ro.length + k)) | none => .ref (ro.length + k)) = _
  rw [memGet_own]
theorem rd_own0 : rd ro m (.ref ro.length) = (match m[0]? with | some o => (obD o).getD (.ref ro.length) | none => .ref ro.length) := rd_own ro m 0
theorem le1 (a b : Nat) : cmpV ro m .le (.str [a]) (.str [b]) = some (decide (a ≤ b)) := by
  have : ltS (.str [b]) (.str [a]) = some (decide (b < a)) := by
    simp [ltS, shO, shB, shD, ltV, List.cons_lt_cons_iff]
  simp only [cmpV, leS, flat, if_pos, this, Option.map_some]
  congr 1
  by_cases h : b < a
  · simp [h, Nat.not_le.mpr h]
  · simp [h, Nat.le_of_not_lt h]
theorem ltI (a b : Int) : cmpV ro m .lt (.int a) (.int b) = some (decide (a < b)) := by
  simp [cmpV, ltS, shO, shB, shD, ltV]
theorem leI (a b : Int) : cmpV ro m .le (.int a) (.int b) = some (decide (a ≤ b)) := by
  have : ltS (.int b) (.int a) = some (decide (b < a)) := by simp [ltS, shO, shB, shD, ltV]
  simp only [cmpV, leS, flat, if_pos, this, Option.map_some]
  congr 1
  by_cases h : b < a
  · simp [h, Int.not_le.mpr h]
  · simp [h, Int.not_lt.mp h]
theorem gtI (a b : Int) : cmpV ro m .gt (.int a) (.int b) = some (decide (b < a)) := by
  simp [cmpV, gtS, ltS, shO, shB, shD, ltV, flat]
theorem geI (a b : Int) : cmpV ro m .ge (.int a) (.int b) = some (decide (b ≤ a)) := by
  have : ltS (.int a) (.int b) = some (decide (a < b)) := by simp [ltS, shO, shB, shD, ltV]
  simp only [cmpV, geS, flat, if_pos, this, Option.map_some]
  congr 1
  by_cases h : a < b
  · simp [h, Int.not_le.mpr h]
  · simp [h, Int.not_lt.mp h]
theorem eqI (a b : Int) : cmpV ro m .eq (.int a) (.int b) = some (decide (a = b)) := by
  simp [cmpV, eqM, vw, vwS, eqok, eqv]; rfl
theorem neI (a b : Int) : cmpV ro m .ne (.int a) (.int b) = some (!decide (a = b)) := by
  simp [cmpV, eqM, vw, vwS, eqok, eqv]; rfl
theorem eqS (a b : Tx) : cmpV ro m .eq (.str a) (.str b) = some (decide (a = b)) := by
  simp [cmpV, eqM, vw, vwS, eqok, eqv]
theorem neS (a b : Tx) : cmpV ro m .ne (.str a) (.str b) = some (!decide (a = b)) := by
  simp [cmpV, eqM, vw, vwS, eqok, eqv]
theorem mem1 (c : Nat) (t : Tx) : cmpV ro m .mem (.str [c]) (.str t) = some (decide (c ∈ t)) := rfl
theorem nmem1 (c : Nat) (t : Tx) : cmpV ro m .nmem (.str [c]) (.str t) = some (!decide (c ∈ t)) := rfl
theorem isN (d : D) : cmpV ro m .is_ d .non = some (match d with | .non => true | _ => false) := by
  cases d <;> rfl
theorem isntN (d : D) : cmpV ro m .isnt d .non = some (!match d with | .non => true | _ => false) := by
  cases d <;> rfl
theorem tru_bl (b : Bool) : truV (.bl b) = some b := rfl
theorem tru_non : truV .non = some false := rfl
end
theorem fsV_int (i : Int) (h0 : 0 ≤ i) (h1 : i ≤ 1000000000) : fsV (.int i) = some (intT i) := by
  show (if 0 ≤ i ∧ i < 10 ^ 200 then some (intT i) else none) = _
  rw [if_pos ⟨h0, by omega⟩]
theorem fsV_str (t : Tx) : fsV (.str t) = some t := rfl
theorem bi_str_int (i : Int) (h0 : 0 ≤ i) (h1 : i ≤ 1000000000) : biV .str [.int i] = some (.str (intT i)) := by
  show (if 0 ≤ i ∧ i < 10 ^ 200 then some (D.str (intT i)) else none) = _
  rw [if_pos ⟨h0, by omega⟩]
theorem bi_int_int (i : Int) : biV .int [.int i] = some (.int i) := rfl
theorem bi_len_str (t : Tx) : biV .len [.str t] = some (.int t.length) := rfl
theorem bi_len_lst (t : List D) : biV .len [.lst t] = some (.int t.length) := rfl
theorem bi_len_tup (t : List D) : biV .len [.tup t] = some (.int t.length) := rfl
theorem bi_len_dct (t : List (Ky × D)) : biV .len [.dct t] = some (.int t.length) := rfl
theorem bi_len_scr (t : List Int) : biV .len [.scr t] = some (.int t.length) := rfl
theorem bin_add_int (i j : Int) : binV .add (.int i) (.int j) = some (.int (i + j)) := rfl
theorem bin_sub_int (i j : Int) : binV .sub (.int i) (.int j) = some (.int (i - j)) := rfl
theorem bin_mod_int (i j : Int) (h : 0 < j) : binV .mod (.int i) (.int j) = some (.int (i % j)) := by
  simp [binV, modV, h]
theorem bin_fdiv_int (i j : Int) (h : 0 < j) (h' : j < 1073741824) : binV .fdiv (.int i) (.int j) = some (.int (i / j)) := by
  simp [binV, fdivV, h, h']
theorem bin_mul_r (i j : Int) (h : -B64 < j) (h' : j < B64) : binV .mul (.int i) (.int j) = some (.int (i * j)) := by
  simp [binV, mulV, h, h']
theorem bin_mul_l (i j : Int) (h : -B64 < i) (h' : i < B64) : binV .mul (.int i) (.int j) = some (.int (i * j)) := by
  simp [binV, mulV, h, h']
theorem ixD_in {n : Nat} {i : Int} (h0 : 0 ≤ i) (h1 : i < n) : ixD n i = some i.toNat := by
  unfold ixD
  rw [if_pos h0, if_pos h1]
theorem at_lst {L : List D} {i : Int} {d : D} (h0 : 0 ≤ i) (h1 : L[i.toNat]? = some d) : atV (.lst L) (.int i) = some d := by
  have hl : i.toNat < L.length := (List.getElem?_eq_some_iff.mp h1).1
  simp only [atV, ixD_in h0 (by omega : i < (L.length : Int)), Option.bind_some, h1]
theorem at_tup {L : List D} {i : Int} {d : D} (h0 : 0 ≤ i) (h1 : L[i.toNat]? = some d) : atV (.tup L) (.int i) = some d := by
  have hl : i.toNat < L.length := (List.getElem?_eq_some_iff.mp h1).1
  simp only [atV, ixD_in h0 (by omega : i < (L.length : Int)), Option.bind_some, h1]
theorem at_str {L : Tx} {i : Int} {d : Nat} (h0 : 0 ≤ i) (h1 : L[i.toNat]? = some d) : atV (.str L) (.int i) = some (.str [d]) := by
  have hl : i.toNat < L.length := (List.getElem?_eq_some_iff.mp h1).1
  simp only [atV, ixD_in h0 (by omega : i < (L.length : Int)), Option.bind_some, h1, Option.map_some]
theorem at_scr {L : List Int} {i : Int} {d : Int} (h0 : 0 ≤ i) (h1 : L[i.toNat]? = some d) : atV (.scr L) (.int i) = some (.int d) := by
  have hl : i.toNat < L.length := (List.getElem?_eq_some_iff.mp h1).1
  simp only [atV, ixD_in h0 (by omega : i < (L.length : Int)), Option.bind_some, h1, Option.map_some]
/-- some item of a list, by an index within it -/
theorem at_ex {L : List D} {i : Int} (h0 : 0 ≤ i) (h1 : i < L.length) : ∃ d ∈ L, atV (.lst L) (.int i) = some d := by
  have hl : i.toNat < L.length := by omega
  exact ⟨L[i.toNat], List.getElem_mem hl, at_lst h0 (List.getElem?_eq_getElem hl)⟩
theorem at_exS {L : Tx} {i : Int} (h0 : 0 ≤ i) (h1 : i < L.length) : ∃ c ∈ L, atV (.str L) (.int i) = some (.str [c]) := by
  have hl : i.toNat < L.length := by omega
  exact ⟨L[i.toNat], List.getElem_mem hl, at_str h0 (List.getElem?_eq_getElem hl)⟩
theorem at_exI {L : List Int} {i : Int} (h0 : 0 ≤ i) (h1 : i < L.length) : ∃ c ∈ L, atV (.lst (L.map .int)) (.int i) = some (.int c) := by
  have hl : i.toNat < L.length := by omega
  exact ⟨L[i.toNat], List.getElem_mem hl, at_lst h0 (by rw [List.getElem?_map, List.getElem?_eq_getElem hl]; rfl)⟩
theorem at_ints {l : List Int} {i : Int} (h0 : 0 ≤ i) (h1 : i < l.length) : atV (.lst (l.map .int)) (.int i) = some (.int (l.getD i.toNat 0)) := by
  have hl : i.toNat < l.length := by omega
  exact at_lst h0 (by rw [List.getElem?_map, List.getElem?_eq_getElem hl]; simp [List.getD, hl])
theorem at_strD {L : Tx} {i : Int} (h0 : 0 ≤ i) (h1 : i < L.length) : atV (.str L) (.int i) = some (.str [L.getD i.toNat 0]) := by
  have hl : i.toNat < L.length := by omega
  exact at_str h0 (by rw [List.getElem?_eq_getElem hl]; simp [List.getD, hl])
theorem at_lstD {L : List D} {i : Int} (h0 : 0 ≤ i) (h1 : i < L.length) : atV (.lst L) (.int i) = some (L.getD i.toNat .non) := by
  have hl : i.toNat < L.length := by omega
  exact at_lst h0 (by rw [List.getElem?_eq_getElem hl]; simp [List.getD, hl])
theorem strsOf_map : ∀ ts : List Tx, strsOf (ts.map .str) = some ts
  | [] => rfl
  | t :: r => by rw [List.map_cons, strsOf, strsOf_map r]; rfl
theorem bm_join (s : Tx) (ts : List Tx) (h : (ts.map (·.length)).sum + ts.length * s.length ≤ 16777214) : bmV .join (.str s) [.lst (ts.map .str)] = some (.str (joinT s ts)) := by
  show joiV s (ts.map .str) = _
  unfold joiV
  rw [strsOf_map]
  show (if (ts.map (·.length)).sum + ts.length * s.length ≤ LIM then some (D.str (joinT s ts)) else none) = _
  exact if_pos h
theorem mod_nn (x k : Int) (h : 0 < k) : 0 ≤ x % k := Int.emod_nonneg x (by omega)
theorem slc_to {t : Tx} {n : Nat} (h : n ≤ t.length) : slcV (.str t) none (some (n : Int)) = some (.str (t.take n)) := by
  simp only [slcV, cutL, cutI]
  congr 2
  rw [if_neg (by omega)]
  simp [Nat.min_eq_left h]
theorem slc_from {t : Tx} {n : Nat} (h : n ≤ t.length) : slcV (.str t) (some (n : Int)) none = some (.str (t.drop n)) := by
  simp only [slcV, cutL, cutI]
  congr 2
  rw [if_neg (by omega)]
  simp [Nat.min_eq_left h, List.take_of_length_le]
theorem bin_add_str (s t : Tx) (h : s.length + t.length ≤ 16777214) : binV .add (.str s) (.str t) = some (.str (s ++ t)) := by
  simp [binV, addV, LIM, h]
theorem spanT_fst_le (c : Nat) : ∀ t : Tx, (spanT c t).1.length ≤ t.length
  | [] => by simp [spanT]
  | x :: r => by
    unfold spanT
    split
    · simp
    · simpa using spanT_fst_le c r
theorem spanT_some {c : Nat} : ∀ {t a b : Tx}, spanT c t = (a, some b) → t = a ++ c :: b
  | [], _, _, h => by cases h
  | x :: r, a, b, h => by
    unfold spanT at h
    split at h
    · cases h; subst_vars; rfl
    · rename_i hx
      have h1 : x :: (spanT c r).1 = a := congrArg Prod.fst h
      have h2 : (spanT c r).2 = some b := congrArg Prod.snd h
      have := spanT_some (t := r) (a := (spanT c r).1) (b := b) (by rw [← h2])
      rw [← h1, List.cons_append, ← this]
theorem spanT_none {c : Nat} : ∀ {t a : Tx}, spanT c t = (a, none) → t = a
  | [], _, h => by cases h; rfl
  | x :: r, a, h => by
    unfold spanT at h
    split at h
    · cases h
    · have h1 : x :: (spanT c r).1 = a := congrArg Prod.fst h
      have h2 : (spanT c r).2 = none := congrArg Prod.snd h
      have := spanT_none (t := r) (a := (spanT c r).1) (by rw [← h2])
      rw [← h1, ← this]
/-- the texts of a partition -/
def p1 (c : Nat) (t : Tx) : Tx := (spanT c t).1
def p2 (c : Nat) (t : Tx) : Tx := if (spanT c t).2.isSome then [c] else []
def p3 (c : Nat) (t : Tx) : Tx := (spanT c t).2.getD []
theorem bm_part (c : Nat) (t : Tx) : bmV .partition (.str t) [.str [c]] = some (.tup [.str (p1 c t), .str (p2 c t), .str (p3 c t)]) := by
  simp only [bmV, parM, partT, p1, p2, p3]
  generalize spanT c t = q
  obtain ⟨a, b⟩ := q
  cases b <;> rfl
theorem bm_find (c : Nat) (t : Tx) : bmV .find (.str t) [.str [c]] = some (.int (findT c t)) := rfl
/-- where a sign stands in a text -/
theorem find_cases (c : Nat) (t : Tx) : (spanT c t = (t, none) ∧ findT c t = -1) ∨ ∃ a b, spanT c t = (a, some b) ∧ t = a ++ c :: b ∧ findT c t = a.length := by
  unfold findT
  cases h : spanT c t with
  | mk a o =>
    cases o with
    | none => have := spanT_none h; subst this; exact .inl ⟨rfl, rfl⟩
    | some b => exact .inr ⟨a, b, rfl, spanT_some h, rfl⟩
theorem slc_fst (a b : Tx) (c : Nat) : slcV (.str (a ++ c :: b)) none (some (a.length : Int)) = some (.str a) := by
  rw [slc_to (by simp)]
  simp
theorem slc_snd (a b : Tx) (c : Nat) : slcV (.str (a ++ c :: b)) (some ((a.length : Int) + 1)) none = some (.str b) := by
  have := slc_from (t := a ++ c :: b) (n := a.length + 1) (by simp)
  rw [show ((a.length + 1 : Nat) : Int) = (a.length : Int) + 1 by omega] at this
  rw [this]
  congr 2
  rw [show a.length + 1 = (a ++ [c]).length by simp, show a ++ c :: b = (a ++ [c]) ++ b by simp, List.drop_left]
theorem tyV_wide (P : Pm) (ro m : Mem) (d : D) : tyV P ro m d .tuple = tyW .tuple (rd ro m d) ∧ tyV P ro m d .bool = tyW .bool (rd ro m d) ∧ tyV P ro m d .str = tyW .str (rd ro m d) ∧ tyV P ro m d .int = tyW .int (rd ro m d) := ⟨rfl, rfl, rfl, rfl⟩
theorem tyV_tuple (P : Pm) (ro m : Mem) (d : D) : tyV P ro m d .tuple = tyW .tuple (rd ro m d) := rfl
theorem tyV_bool (P : Pm) (ro m : Mem) (d : D) : tyV P ro m d .bool = tyW .bool (rd ro m d) := rfl
theorem tyV_str (P : Pm) (ro m : Mem) (d : D) : tyV P ro m d .str = tyW .str (rd ro m d) := rfl
theorem tyV_int (P : Pm) (ro m : Mem) (d : D) : tyV P ro m d .int = tyW .int (rd ro m d) := rfl
theorem tyV_list (P : Pm) (ro m : Mem) (d : D) : tyV P ro m d .list = tyW .list (rd ro m d) := rfl
theorem tyV_dict (P : Pm) (ro m : Mem) (d : D) : tyV P ro m d .dict = tyW .dict (rd ro m d) := rfl
theorem tyW_str (t : Ty) (x : Tx) : tyW t (.str x) = some (decide (t = .str)) := by cases t <;> rfl
theorem tyW_int (t : Ty) (x : Int) : tyW t (.int x) = some (decide (t = .int)) := by cases t <;> rfl
theorem tyW_tup (t : Ty) (x : List D) : tyW t (.tup x) = some (decide (t = .tuple)) := by cases t <;> rfl
theorem tyW_lst (t : Ty) (x : List D) : tyW t (.lst x) = some (decide (t = .list)) := by cases t <;> rfl
theorem tyW_bl (t : Ty) (x : Bool) : tyW t (.bl x) = some (decide (t = .bool) || decide (t = .int)) := by cases t <;> rfl
theorem tyW_non (t : Ty) : tyW t .non = some false := by cases t <;> rfl
theorem pm_cf (G : Pg) (cf : Nat → List D → Mem → Mem → R Mem D) : (G.pm cf).cf = cf := rfl

def forB (P : Pm) (ro : Mem) (tg : Tg) (b : List CS) : D → Fr → R Fr Fl := fun x s => match asgT tg x s.sl with
  | some σ => exs P ro b ⟨σ, s.m⟩
  | none => .stuck
theorem ex_for (P : Pm) (ro : Mem) (tg : Tg) (it : CE) (b : List CS) (st : Fr) : ex P ro (.for_ tg it b) st = ((ev P ro it st.sl st.m).up st.sl).bind fun d st1 => walkS ro d st1 fun xs st2 => forL (forB P ro tg b) xs st2 := rfl
def whT (P : Pm) (ro : Mem) (t : CT) : Fr → R Fr Bool := fun s => (evT P ro t s.sl s.m).up s.sl
theorem ex_whl (P : Pm) (ro : Mem) (t : CT) (b : List CS) (st : Fr) : ex P ro (.whl t b) st = whlL (whT P ro t) (exs P ro b) P.wl st := rfl
def lcB (P : Pm) (ro : Mem) (own : List Nat) (tg : Tg) (ifs : List CT) (e : CE) (σ : Sl) : D → Mem → R Mem (Option D) := fun x m3 => match asgT tg x (wipe σ own) with
  | some σ1 => (evTs P ro ifs σ1 m3).bind fun c m4 => if c then (ev P ro e σ1 m4).bind fun y m5 => .ok (some y) m5 else .ok none m4
  | none => .stuck
theorem ev_lc (P : Pm) (ro : Mem) (own : List Nat) (tg : Tg) (it : CE) (ifs : List CT) (e : CE) (σ : Sl) (m : Mem) : ev P ro (.lc own tg it ifs e) σ m = (ev P ro it σ m).bind fun d m1 => (walkE ro d m1 fun xs m2 => lcL (lcB P ro own tg ifs e σ) xs m2).bind fun ys m6 => .ok (.lst ys) m6 := rfl
def gnB (P : Pm) (ro : Mem) (own : List Nat) (tg : Tg) (e : CE) (σ : Sl) : D → Mem → R Mem Bool := fun x m3 => match asgT tg x (wipe σ own) with
  | some σ1 => (ev P ro e σ1 m3).bind fun y m4 => match y with
    | .bl b => .ok b m4
    | _ => .stuck
  | none => .stuck
theorem ev_alg (P : Pm) (ro : Mem) (own : List Nat) (tg : Tg) (it : CE) (e : CE) (σ : Sl) (m : Mem) : ev P ro (.alg own tg it e) σ m = (ev P ro it σ m).bind fun d m1 => (walkE ro d m1 fun xs m2 => allL (gnB P ro own tg e σ) xs m2).bind fun b m5 => .ok (.bl b) m5 := rfl
theorem ev_ang (P : Pm) (ro : Mem) (own : List Nat) (tg : Tg) (it : CE) (e : CE) (σ : Sl) (m : Mem) : ev P ro (.ang own tg it e) σ m = (ev P ro it σ m).bind fun d m1 => (walkE ro d m1 fun xs m2 => anyL (gnB P ro own tg e σ) xs m2).bind fun b m5 => .ok (.bl b) m5 := rfl
def dcB (P : Pm) (ro : Mem) (own : List Nat) (tg : Tg) (ifs : List CT) (k v : CE) (σ : Sl) : D → Mem → R Mem (Option (Ky × D)) := fun x m3 => match asgT tg x (wipe σ own) with
  | some σ1 => (evTs P ro ifs σ1 m3).bind fun c m4 => if c then (ev P ro k σ1 m4).bind fun y m5 => (ev P ro v σ1 m5).bind fun z m6 => match ky y with
      | some kk => .ok (some (kk, z)) m6
      | none => .stuck
    else .ok none m4
  | none => .stuck
theorem ev_dc (P : Pm) (ro : Mem) (own : List Nat) (tg : Tg) (it : CE) (ifs : List CT) (k v : CE) (σ : Sl) (m : Mem) : ev P ro (.dc own tg it ifs k v) σ m = (ev P ro it σ m).bind fun d m1 => (walkE ro d m1 fun xs m2 => dcL (dcB P ro own tg ifs k v σ) xs [] m2).bind fun kvs m7 => .ok (.dct kvs) m7 := rfl

theorem allL_map {α : Type} (c : α → D) (f : D → Mem → R Mem Bool) (g : α → Bool) (m : Mem) : ∀ xs : List α, (∀ x ∈ xs, f (c x) m = .ok (g x) m) → allL f (xs.map c) m = .ok (xs.all g) m
  | [], _ => rfl
  | x :: r, h => by
    rw [List.map_cons, allL, h x List.mem_cons_self, R.bind_ok, List.all_cons]
    cases g x with
    | true => simpa using allL_map c f g m r fun y hy => h y (List.mem_cons_of_mem _ hy)
    | false => rfl
theorem anyL_map {α : Type} (c : α → D) (f : D → Mem → R Mem Bool) (g : α → Bool) (m : Mem) : ∀ xs : List α, (∀ x ∈ xs, f (c x) m = .ok (g x) m) → anyL f (xs.map c) m = .ok (xs.any g) m
  | [], _ => rfl
  | x :: r, h => by
    rw [List.map_cons, anyL, h x List.mem_cons_self, R.bind_ok, List.any_cons]
    cases g x with
    | false => simpa using anyL_map c f g m r fun y hy => h y (List.mem_cons_of_mem _ hy)
    | true => rfl
theorem lcL_map {α : Type} (c : α → D) (f : D → Mem → R Mem (Option D)) (g : α → Option D) (m : Mem) : ∀ xs : List α, (∀ x ∈ xs, f (c x) m = .ok (g x) m) → lcL f (xs.map c) m = .ok (xs.filterMap g) m
  | [], _ => rfl
  | x :: r, h => by
    rw [List.map_cons, lcL, h x List.mem_cons_self, R.bind_ok, lcL_map c f g m r fun y hy => h y (List.mem_cons_of_mem _ hy), R.bind_ok, List.filterMap_cons]
    cases g x <;> rfl
/-- .. without a test -/
theorem lcL_all {α : Type} (c : α → D) (f : D → Mem → R Mem (Option D)) (g : α → D) (m : Mem) (xs : List α) (h : ∀ x ∈ xs, f (c x) m = .ok (some (g x)) m) : lcL f (xs.map c) m = .ok (xs.map g) m := by
  rw [lcL_map c f (fun x => some (g x)) m xs h]
  congr 1
  induction xs with
  | nil => rfl
  | cons x r ih => rw [List.filterMap_cons, List.map_cons, ih fun y hy => h y (List.mem_cons_of_mem _ hy)]
theorem forL_wp {α : Type} (c : α → D) (I : List α → List α → Fr → Prop) {f : D → Fr → R Fr Fl} {Q : Fl → Fr → Prop} {E : Xn → Fr → Prop} {xs0 : List α}
    (hs : ∀ d x r st, xs0 = d ++ x :: r → I d (x :: r) st → (f (c x) st).wp (fun fl st' => match fl with | .nx => I (d ++ [x]) r st' | .cnt => I (d ++ [x]) r st' | .brk => Q .nx st' | .ret v => Q (.ret v) st') E)
    (he : ∀ st, I xs0 [] st → Q .nx st) : ∀ (xs d : List α) (st : Fr), xs0 = d ++ xs → I d xs st → (forL f (xs.map c) st).wp Q E
  | [], d, st, e, h => by
    rw [List.append_nil] at e
    subst e
    exact he st h
  | x :: r, d, st, e, h => by
    rw [List.map_cons, forL, wp_bind]
    refine wp_mono (hs d x r st e h) (fun fl st' q => ?_) (fun _ _ q => q)
    cases fl with
    | nx => exact forL_wp c I hs he r (d ++ [x]) st' (by simp [e]) q
    | cnt => exact forL_wp c I hs he r (d ++ [x]) st' (by simp [e]) q
    | brk => exact q
    | ret v => exact q
/-- the items of a range -/
def iD (a : Int) (k : Nat) : D := .int (a + k)
theorem intsIn_eq : ∀ (n : Nat) (a : Int), intsIn a n = (List.range n).map (iD a)
  | 0, _ => rfl
  | n + 1, a => by
    rw [intsIn, List.range_succ_eq_map, List.map_cons, List.map_map, intsIn_eq n (a + 1)]
    unfold iD
    congr 1
    · simp
    · apply List.map_congr_left
      intro k _
      simp only [Function.comp, Nat.succ_eq_add_one, Int.natCast_add]
      congr 1
      omega
/-- a for over a range: its invariant by the number of rounds -/
theorem forR_wp (I : Nat → Fr → Prop) {f : D → Fr → R Fr Fl} {Q : Fl → Fr → Prop} {E : Xn → Fr → Prop} {n : Nat} {a : Int} {st : Fr}
    (h0 : I 0 st)
    (hs : ∀ k z st, k < n → z = a + (k : Int) → I k st → (f (.int z) st).wp (fun fl st' => match fl with | .nx => I (k + 1) st' | .cnt => I (k + 1) st' | .brk => Q .nx st' | .ret v => Q (.ret v) st') E)
    (he : ∀ st, I n st → Q .nx st) : (forL f (intsIn a n) st).wp Q E := by
  rw [intsIn_eq]
  refine forL_wp (iD a) (fun d _ st => I d.length st) (xs0 := List.range n) ?_ (fun st h => he st (by simpa using h)) (List.range n) [] st rfl h0
  intro d x r st e h
  have hx : x = d.length := by
    have : (List.range n)[d.length]? = some x := by rw [e]; simp
    rw [List.getElem?_range] at this
    · exact (Option.some.inj this).symm
    · have := congrArg List.length e
      simp at this
      omega
  have hn : d.length < n := by
    have := congrArg List.length e
    simp at this
    omega
  subst hx
  refine wp_mono (hs d.length _ st hn rfl h) (fun fl st' q => ?_) (fun _ _ q => q)
  cases fl <;> simpa using q
/-- .. a list comprehension over it -/
theorem lcR {f : D → Mem → R Mem (Option D)} {g : Nat → D} {m : Mem} {n : Nat} {a : Int} (h : ∀ k z, k < n → z = a + (k : Int) → f (.int z) m = .ok (some (g k)) m) : lcL f (intsIn a n) m = .ok ((List.range n).map g) m := by
  rw [intsIn_eq]
  exact lcL_all (iD a) f g m (List.range n) fun k hk => h k _ (List.mem_range.mp hk) rfl
/-- a pure def's call -/
theorem call_wp {G : Pg} {n f : Nat} {fd : FD} {ds : List D} {ro m : Mem} {e : D} (hf : G.fn f = some fd) (hl : ds.length = fd.np) (hp : fd.pure = true)
    (hb : ∀ P : Pm, P = G.pm (callF G n) → P.cf = callF G n → (exs P (ro ++ m) fd.body ⟨slots ds fd.ns, []⟩).wp (fun fl st => match fl with | .ret d => xp (memGet (ro ++ m) st.m) (ro ++ m).length 6 d = some e | .nx => e = .non | _ => False) (fun _ _ => False)) :
    callF G (n + 1) f ds ro m = .ok e m := by
  have hb := hb _ rfl rfl
  simp only [callF, hf, if_pos hl, hp, if_true]
  revert hb
  generalize exs (G.pm (callF G n)) (ro ++ m) fd.body ⟨slots ds fd.ns, []⟩ = r
  intro hb
  cases r with
  | stuck => exact hb.elim
  | exc x s => exact hb.elim
  | ok fl st =>
    cases fl with
    | nx => cases hb; rfl
    | brk => exact hb.elim
    | cnt => exact hb.elim
    | ret d =>
      have hb : xp (memGet (ro ++ m) st.m) (ro ++ m).length 6 d = some e := hb
      simp only [endP, hb]
/-- .. whose value is told by what holds of it -/
theorem call_ex {G : Pg} {n f : Nat} {fd : FD} {ds : List D} {ro m : Mem} {Y : D → Prop} (hf : G.fn f = some fd) (hl : ds.length = fd.np) (hp : fd.pure = true)
    (hb : ∀ P : Pm, P = G.pm (callF G n) → P.cf = callF G n → (exs P (ro ++ m) fd.body ⟨slots ds fd.ns, []⟩).wp (fun fl st => match fl with | .ret d => ∃ e, xp (memGet (ro ++ m) st.m) (ro ++ m).length 6 d = some e ∧ Y e | .nx => Y .non | _ => False) (fun _ _ => False)) :
    ∃ e, callF G (n + 1) f ds ro m = .ok e m ∧ Y e := by
  have hb := hb _ rfl rfl
  simp only [callF, hf, if_pos hl, hp, if_true]
  revert hb
  generalize exs (G.pm (callF G n)) (ro ++ m) fd.body ⟨slots ds fd.ns, []⟩ = r
  intro hb
  cases r with
  | stuck => exact hb.elim
  | exc x s => exact hb.elim
  | ok fl st =>
    cases fl with
    | nx => exact ⟨.non, rfl, hb⟩
    | brk => exact hb.elim
    | cnt => exact hb.elim
    | ret d =>
      obtain ⟨e, h1, h2⟩ := hb
      refine ⟨e, ?_, h2⟩
      simp only [endP, h1]
mutual
theorem vwS_plain (f : Nat → Option D) : ∀ {d : D}, plain d = true → vwS f d = some d
  | .non, _ => rfl
  | .bl _, _ => rfl
  | .int _, _ => rfl
  | .str _, _ => rfl
  | .tup ds, h => by rw [vwS, vwSs_plain f h]; rfl
  | .lst ds, h => by rw [vwS, vwSs_plain f h]; rfl
  | .dct ds, h => by rw [vwS, vwSk_plain f h]; rfl
  | .ref _, h => by cases h
  | .exn _ _, h => by cases h
  | .scr _, h => by cases h
theorem vwSs_plain (f : Nat → Option D) : ∀ {ds : List D}, plains ds = true → vwSs f ds = some ds
  | [], _ => rfl
  | d :: r, h => by
    have h : (plain d && plains r) = true := h
    rw [Bool.and_eq_true] at h
    rw [vwSs, vwS_plain f h.1, vwSs_plain f h.2]
theorem vwSk_plain (f : Nat → Option D) : ∀ {ds : List (Ky × D)}, plaink ds = true → vwSk f ds = some ds
  | [], _ => rfl
  | p :: r, h => by
    have h : (plainp p && plaink r) = true := h
    rw [Bool.and_eq_true] at h
    rw [vwSk, vwSp_plain f h.1, vwSk_plain f h.2]
theorem vwSp_plain (f : Nat → Option D) : ∀ {p : Ky × D}, plainp p = true → vwSp f p = some p
  | (k, d), h => by
    have h : plain d = true := h
    rw [vwSp, vwS_plain f h]; rfl
end
theorem plains_map {α : Type} {c : α → D} : ∀ l : List α, (∀ x ∈ l, plain (c x) = true) → plains (l.map c) = true
  | [], _ => rfl
  | x :: r, h => by
    show (plain (c x) && plains (r.map c)) = true
    rw [h x List.mem_cons_self, plains_map r fun y hy => h y (List.mem_cons_of_mem _ hy)]
    rfl
theorem xp_plain (g : Nat → Option Ob) (b k : Nat) {d : D} (h : plain d = true) : xp g b k d = some d := vwS_plain _ h
/-- an own list, frozen -/
theorem xp_own {ro m : Mem} {k i : Nat} {ds : List D} (h : m[i]? = some (.lst ds)) (hp : plains ds = true) : xp (memGet ro m) ro.length (k + 1) (.ref (ro.length + i)) = some (.lst ds) := by
  show xpF (memGet ro m) ro.length (k + 1) (ro.length + i) = _
  rw [xpF, if_neg (by omega), memGet_own, h]
  show (vwSs _ ds).map D.lst = _
  rw [vwSs_plain _ hp]
  rfl
theorem xp_own0 {ro m : Mem} {k : Nat} {ds : List D} (h : m[0]? = some (.lst ds)) (hp : plains ds = true) : xp (memGet ro m) ro.length (k + 1) (.ref ro.length) = some (.lst ds) := xp_own (i := 0) h hp
theorem walkS_lst (ro : Mem) (ds : List D) (st : Fr) (k : List D → Fr → R Fr Fl) : walkS ro (.lst ds) st k = k ds st := by
  show (match k ds st with | .ok a st1 => _ | .exc x st1 => _ | .stuck => _) = _
  cases k ds st <;> rfl
theorem walkS_tup (ro : Mem) (ds : List D) (st : Fr) (k : List D → Fr → R Fr Fl) : walkS ro (.tup ds) st k = k ds st := by
  show (match k ds st with | .ok a st1 => _ | .exc x st1 => _ | .stuck => _) = _
  cases k ds st <;> rfl
theorem walkS_str (ro : Mem) (t : Tx) (st : Fr) (k : List D → Fr → R Fr Fl) : walkS ro (.str t) st k = k (t.map fun c => .str [c]) st := by
  show (match k (t.map fun c => .str [c]) st with | .ok a st1 => _ | .exc x st1 => _ | .stuck => _) = _
  cases k (t.map fun c => .str [c]) st <;> rfl
theorem lockAt_own {ro m : Mem} {j : Nat} {d : D} {ds : List D} (h : m[j]? = some (.lst (d :: ds))) : lockAt ro m (.ref (ro.length + j)) = some j := by
  show (if ro.length + j < ro.length then none else match m[ro.length + j - ro.length]? with | some (.lst (_ :: _)) => some (ro.length + j - ro.length) | some (.dct (_ :: _)) => some (ro.length + j - ro.length) | _ => none) = _
  rw [if_neg (by omega), show ro.length + j - ro.length = j by omega, h]
theorem rd_ownL {ro m : Mem} {j : Nat} {ds : List D} (h : m[j]? = some (.lst ds)) : rd ro m (.ref (ro.length + j)) = .lst ds := by
  rw [rd_own, h]; rfl
/-- a for over an own list -/
theorem walkS_own {ro m : Mem} {j : Nat} {d : D} {ds : List D} {σ : Sl} {k : List D → Fr → R Fr Fl} {Q : Fl → Fr → Prop} {E : Xn → Fr → Prop} (h : m[j]? = some (.lst (d :: ds)))
    (hk : (k (d :: ds) ⟨σ, m.set j (.lk (.lst (d :: ds)))⟩).wp (fun fl st => Q fl ⟨st.sl, unlockM st.m (some j)⟩) (fun x st => E x ⟨st.sl, unlockM st.m (some j)⟩)) :
    (walkS ro (.ref (ro.length + j)) ⟨σ, m⟩ k).wp Q E := by
  unfold walkS
  show R.wp (match itemsV (rd ro m (.ref (ro.length + j))) with | some xs => _ | none => _) Q E
  rw [rd_ownL h]
  show R.wp (match k (d :: ds) ⟨σ, lockM m (lockAt ro m (.ref (ro.length + j)))⟩ with | .ok a st1 => R.ok a ⟨st1.sl, unlockM st1.m (lockAt ro m (.ref (ro.length + j)))⟩ | .exc x st1 => if isDct (.lst (d :: ds)) then .stuck else R.exc x ⟨st1.sl, unlockM st1.m (lockAt ro m (.ref (ro.length + j)))⟩ | .stuck => .stuck) Q E
  rw [lockAt_own h]
  have e : lockM m (some j) = m.set j (.lk (.lst (d :: ds))) := by
    show (match m[j]? with | some o => m.set j (.lk o) | none => m) = _
    rw [h]
  rw [e]
  revert hk
  generalize k (d :: ds) ⟨σ, m.set j (.lk (.lst (d :: ds)))⟩ = r
  intro hk
  cases r <;> exact hk
theorem vw_own {ro m : Mem} {i k : Nat} {ds : List D} (h : m[i]? = some (.lst ds)) (hp : plains ds = true) : vw (memGet ro m) (k + 1) (.ref (ro.length + i)) = some (.lst ds) := by
  show vwF (memGet ro m) (k + 1) (ro.length + i) = _
  rw [vwF, memGet_own, h]
  show (vwSs _ ds).map D.lst = _
  rw [vwSs_plain _ hp]
  rfl
theorem ne_own {ro m : Mem} {i j : Nat} {a b : List D} (h : m[i]? = some (.lst a)) (h' : m[j]? = some (.lst b)) (ha : plains a = true) (hb : plains b = true) (ea : eqok (.lst a) 50 = true) (eb : eqok (.lst b) 50 = true) : cmpV ro m .ne (.ref (ro.length + i)) (.ref (ro.length + j)) = some (!eqvs a b) := by
  show (eqM (memGet ro m) _ _).map _ = _
  unfold eqM
  rw [vw_own h ha, vw_own h' hb]
  show Option.map _ (if (eqok (.lst a) 50 && eqok (.lst b) 50) = true then some (eqv (.lst a) (.lst b)) else none) = _
  rw [ea, eb]
  rfl
theorem rngV_int {j : Int} (h0 : 0 ≤ j) (h1 : j ≤ 1000000) : rngV [.int j] = some (.lst (intsIn 0 j.toNat)) := by
  show (if -B62 ≤ j ∧ j < B62 ∧ j.toNat ≤ LIM then some (D.lst (intsIn 0 j.toNat)) else none) = _
  rw [if_pos ⟨by unfold B62; omega, by unfold B62; omega, by unfold LIM; omega⟩]
theorem rngV_int2 {i j : Int} (h0 : 0 ≤ i) (h1 : i ≤ 1000000) (h2 : 0 ≤ j) (h3 : j ≤ 1000000) : rngV [.int i, .int j] = some (.lst (intsIn i (j - i).toNat)) := by
  show (if -B62 ≤ i ∧ i < B62 ∧ -B62 ≤ j ∧ j < B62 ∧ (j - i).toNat ≤ LIM then some (D.lst (intsIn i (j - i).toNat)) else none) = _
  rw [if_pos ⟨by unfold B62; omega, by unfold B62; omega, by unfold B62; omega, by unfold B62; omega, by unfold LIM; omega⟩]
theorem bcE_app {ro m : Mem} {n : Nat} {ds : List D} {d : D} {m' : Mem} (h : memGet ro m n = some (.lst ds)) (hl : ds.length ≤ 10000000) (hs : memSet ro m n (.lst (ds ++ [d])) = some m') : bcE .append ro n [d] m = .ok .non m' := by
  unfold bcE
  rw [h]
  show (match (if ds.length < LIM then some (Ob.lst (ds ++ [d]), D.non) else none) with | some (ob', d) => _ | none => _) = _
  rw [if_pos (by unfold LIM; omega)]
  show (match memSet ro m n (.lst (ds ++ [d])) with | some m' => _ | none => _) = _
  rw [hs]
theorem bin_pow {i j : Int} (h0 : 0 ≤ j) (h1 : j ≤ 1000) (h2 : -B64 < i) (h3 : i < B64) : binV .pow (.int i) (.int j) = some (.int (i ^ j.toNat)) := by
  show (if 0 ≤ j ∧ j ≤ 1000000 ∧ -B64 < i ∧ i < B64 then some (D.int (i ^ j.toNat)) else none) = _
  rw [if_pos ⟨h0, by omega, h2, h3⟩]
/-- what a return freezes: data without references stay -/
theorem xp_non (g : Nat → Option Ob) (b k : Nat) : xp g b k .non = some .non := rfl
theorem xp_bl (g : Nat → Option Ob) (b k : Nat) (x : Bool) : xp g b k (.bl x) = some (.bl x) := rfl
theorem xp_int (g : Nat → Option Ob) (b k : Nat) (x : Int) : xp g b k (.int x) = some (.int x) := rfl
theorem xp_str (g : Nat → Option Ob) (b k : Nat) (x : Tx) : xp g b k (.str x) = some (.str x) := rfl
theorem walkE_lst {α : Type} (ro : Mem) (ds : List D) (m : Mem) (k : List D → Mem → R Mem α) : walkE ro (.lst ds) m k = (k ds m).calm fun a m1 => .ok a m1 := rfl
theorem walkE_tup {α : Type} (ro : Mem) (ds : List D) (m : Mem) (k : List D → Mem → R Mem α) : walkE ro (.tup ds) m k = (k ds m).calm fun a m1 => .ok a m1 := rfl
theorem walkE_str {α : Type} (ro : Mem) (t : Tx) (m : Mem) (k : List D → Mem → R Mem α) : walkE ro (.str t) m k = (k (t.map fun c => .str [c]) m).calm fun a m1 => .ok a m1 := rfl
end C
end Av
end
section
set_option linter.all false
set_option maxRecDepth 100000
namespace Av.C
structure Uni (v : Nat → D) (kk : Nat → Ky) (sh : Sh) (n : Nat) : Prop where
  ky : ∀ i, i < n → Av.ky (v i) = some (kk i)
  dk : ∀ i, i < n → dK (kk i) = v i
  kt : ∀ i j, i < n → j < n → isT (kk i) = isT (kk j)
  inj : ∀ i j, i < n → j < n → kk i = kk j → i = j
  eq : ∀ i j, i < n → j < n → eqv (v i) (v j) = decide (i = j)
  le : ∀ i j, i < n → j < n → leB (v i) (v j) = decide (i ≤ j)
  pl : ∀ i, i < n → plain (v i) = true
  eo : ∀ i k, i < n → eqok (v i) (k + 1) = true
  so : ∀ i, i < n → shO (v i) = some sh
  sb : ∀ i, i < n → shB (v i) sh = true
  sn : shNE sh = true
  sd : shD sh ≤ 20
section
variable {v : Nat → D} {kk : Nat → Ky} {sh : Sh} {n : Nat} (U : Uni v kk sh n)
def dctOf (kk : Nat → Ky) (l : List Nat) : List (Ky × D) := l.map fun i => (kk i, D.bl true)
include U
theorem Uni.hasK {l : List Nat} (h : ∀ i ∈ l, i < n) {j : Nat} (hj : j < n) : hasK (dctOf kk l) (kk j) = decide (j ∈ l) := by
  unfold Av.hasK dctOf
  rw [List.any_map]
  induction l with
  | nil => rfl
  | cons a r ih =>
    rw [List.any_cons, ih fun i hi => h i (List.mem_cons_of_mem _ hi)]
    by_cases e : a = j
    · subst e; simp
    · have : kk a ≠ kk j := fun z => e (U.inj a j (h a List.mem_cons_self) hj z)
      simp [Function.comp, this, Ne.symm e]
theorem Uni.kindK {l : List Nat} (h : ∀ i ∈ l, i < n) {j : Nat} (hj : j < n) : kindK (dctOf kk l) (kk j) = true := by
  cases l with
  | nil => rfl
  | cons a r =>
    show (isT (kk a) == isT (kk j)) = true
    rw [U.kt a j (h a List.mem_cons_self) hj]
    simp
theorem Uni.dcL {f : D → Mem → R Mem (Option (Ky × D))} {m : Mem} : ∀ {l acc : List Nat}, (∀ i ∈ acc ++ l, i < n) → (acc ++ l).Nodup → (∀ i ∈ l, f (v i) m = .ok (some (kk i, .bl true)) m) → dcL f (l.map v) (dctOf kk acc) m = .ok (dctOf kk (acc ++ l)) m
  | [], acc, _, _, _ => by simp [Av.dcL]
  | a :: r, acc, h, nd, hf => by
    have ha : a < n := h a (by simp)
    have hacc : ∀ i ∈ acc, i < n := fun i hi => h i (by simp [hi])
    have hn : a ∉ acc := fun z => by
      have := List.nodup_append.mp nd
      exact this.2.2 a z a (by simp) rfl
    rw [List.map_cons, Av.dcL, hf a List.mem_cons_self, R.bind_ok]
    show (if Av.kindK (dctOf kk acc) (kk a) then Av.dcL f (r.map v) (putK (dctOf kk acc) (kk a) (.bl true)) m else .stuck) = _
    rw [if_pos (U.kindK hacc ha)]
    have e : putK (dctOf kk acc) (kk a) (.bl true) = dctOf kk (acc ++ [a]) := by
      unfold putK
      rw [U.hasK hacc ha]
      simp [hn, dctOf]
    rw [e, Uni.dcL (by simpa using h) (by simpa using nd) fun i hi => hf i (List.mem_cons_of_mem _ hi)]
    simp
theorem Uni.dc {f : D → Mem → R Mem (Option (Ky × D))} {m : Mem} {l : List Nat} (h : ∀ i ∈ l, i < n) (nd : l.Nodup) (hf : ∀ i ∈ l, f (v i) m = .ok (some (kk i, .bl true)) m) : Av.dcL f (l.map v) [] m = .ok (dctOf kk l) m := by
  have := U.dcL (acc := []) (f := f) (m := m) (by simpa using h) (by simpa using nd) hf
  simpa [dctOf] using this
theorem Uni.keys {l : List Nat} (h : ∀ i ∈ l, i < n) : (dctOf kk l).map (fun kv => dK kv.1) = l.map v := by
  unfold dctOf
  rw [List.map_map]
  exact List.map_congr_left fun i hi => U.dk i (h i hi)
theorem Uni.memD {ro m : Mem} {l : List Nat} (h : ∀ i ∈ l, i < n) {j : Nat} (hj : j < n) : cmpV ro m .mem (v j) (.dct (dctOf kk l)) = some (decide (j ∈ l)) := by
  show (match Av.ky (v j) with | some k => if Av.kindK (dctOf kk l) k then some (Av.hasK (dctOf kk l) k) else none | none => none) = _
  rw [U.ky j hj]
  show (if Av.kindK (dctOf kk l) (kk j) then some (Av.hasK (dctOf kk l) (kk j)) else none) = _
  rw [if_pos (U.kindK h hj), U.hasK h hj]
theorem Uni.nmemD {ro m : Mem} {l : List Nat} (h : ∀ i ∈ l, i < n) {j : Nat} (hj : j < n) : cmpV ro m .nmem (v j) (.dct (dctOf kk l)) = some (!decide (j ∈ l)) := by
  show (cmpV ro m .mem (v j) (.dct (dctOf kk l))).map (!·) = _
  rw [U.memD h hj]; rfl
theorem Uni.plains {l : List Nat} (h : ∀ i ∈ l, i < n) : Av.plains (l.map v) = true := plains_map l fun i hi => U.pl i (h i hi)
theorem Uni.eoks {l : List Nat} (h : ∀ i ∈ l, i < n) (k : Nat) : eqoks (l.map v) (k + 1) = true := by
  induction l with
  | nil => rfl
  | cons a r ih =>
    rw [List.map_cons, eqoks, U.eo a k (h a List.mem_cons_self), ih fun i hi => h i (List.mem_cons_of_mem _ hi)]; rfl
theorem Uni.memL {ro m : Mem} {l : List Nat} (h : ∀ i ∈ l, i < n) {j : Nat} (hj : j < n) : cmpV ro m .mem (v j) (.lst (l.map v)) = some (decide (j ∈ l)) := by
  show (match vw (memGet ro m) 6 (v j), vwSs (vwF (memGet ro m) 6) (l.map v) with
    | some x, some ys => if eqok x 50 && eqoks ys 50 then some (ys.any fun y => eqv y x) else none
    | _, _ => none) = _
  rw [show vw (memGet ro m) 6 (v j) = some (v j) from vwS_plain _ (U.pl j hj), vwSs_plain _ (U.plains h)]
  show (if eqok (v j) 50 && eqoks (l.map v) 50 then some ((l.map v).any fun y => eqv y (v j)) else none) = _
  rw [U.eo j 49 hj, U.eoks h 49]
  show some ((l.map v).any fun y => eqv y (v j)) = _
  congr 1
  rw [List.any_map]
  clear ro m
  induction l with
  | nil => rfl
  | cons a r ih =>
    rw [List.any_cons, ih fun i hi => h i (List.mem_cons_of_mem _ hi)]
    show (eqv (v a) (v j) || _) = _
    rw [U.eq a j (h a List.mem_cons_self) hj]
    by_cases e : a = j
    · subst e; simp
    · simp [e, Ne.symm e]
theorem Uni.nmemL {ro m : Mem} {l : List Nat} (h : ∀ i ∈ l, i < n) {j : Nat} (hj : j < n) : cmpV ro m .nmem (v j) (.lst (l.map v)) = some (!decide (j ∈ l)) := by
  show (cmpV ro m .mem (v j) (.lst (l.map v))).map (!·) = _
  rw [U.memL h hj]; rfl
theorem Uni.eqs {l k : List Nat} (h : ∀ i ∈ l, i < n) (h2 : ∀ i ∈ k, i < n) : eqvs (l.map v) (k.map v) = decide (l = k) := by
  induction l generalizing k with
  | nil => cases k <;> simp [eqvs]
  | cons a r ih =>
    cases k with
    | nil => simp [eqvs]
    | cons b s =>
      rw [List.map_cons, List.map_cons, eqvs, U.eq a b (h a List.mem_cons_self) (h2 b List.mem_cons_self), ih (fun i hi => h i (List.mem_cons_of_mem _ hi)) fun i hi => h2 i (List.mem_cons_of_mem _ hi)]
      by_cases e : a = b <;> simp [e]
theorem Uni.eqL {ro m : Mem} {l k : List Nat} (h : ∀ i ∈ l, i < n) (h2 : ∀ i ∈ k, i < n) : cmpV ro m .eq (.lst (l.map v)) (.lst (k.map v)) = some (decide (l = k)) := by
  show eqM (memGet ro m) (.lst (l.map v)) (.lst (k.map v)) = _
  unfold eqM
  rw [show vw (memGet ro m) 6 (.lst (l.map v)) = some (.lst (l.map v)) from vwS_plain _ (U.plains h), show vw (memGet ro m) 6 (.lst (k.map v)) = some (.lst (k.map v)) from vwS_plain _ (U.plains h2)]
  show (if eqoks (l.map v) 49 && eqoks (k.map v) 49 then some (eqvs (l.map v) (k.map v)) else none) = _
  rw [U.eoks h 48, U.eoks h2 48, U.eqs h h2]; rfl
theorem Uni.neL {ro m : Mem} {l k : List Nat} (h : ∀ i ∈ l, i < n) (h2 : ∀ i ∈ k, i < n) : cmpV ro m .ne (.lst (l.map v)) (.lst (k.map v)) = some (!decide (l = k)) := by
  show (cmpV ro m .eq (.lst (l.map v)) (.lst (k.map v))).map (!·) = _
  rw [U.eqL h h2]; rfl
/-- pairs of lists -/
theorem Uni.eqP {ro m : Mem} {l k l' k' : List Nat} (h : ∀ i ∈ l, i < n) (h2 : ∀ i ∈ k, i < n) (h' : ∀ i ∈ l', i < n) (h2' : ∀ i ∈ k', i < n) : cmpV ro m .eq (.tup [.lst (l.map v), .lst (k.map v)]) (.tup [.lst (l'.map v), .lst (k'.map v)]) = some (decide (l = l' ∧ k = k')) := by
  have p : ∀ {a b : List Nat}, (∀ i ∈ a, i < n) → (∀ i ∈ b, i < n) → plain (.tup [.lst (a.map v), .lst (b.map v)]) = true := fun ha hb => by
    show (Av.plains _ && (Av.plains _ && true)) = true
    rw [U.plains ha, U.plains hb]; rfl
  show eqM (memGet ro m) _ _ = _
  unfold eqM
  rw [show vw (memGet ro m) 6 (.tup [.lst (l.map v), .lst (k.map v)]) = some _ from vwS_plain _ (p h h2), show vw (memGet ro m) 6 (.tup [.lst (l'.map v), .lst (k'.map v)]) = some _ from vwS_plain _ (p h' h2')]
  show (if (eqoks (l.map v) 48 && (eqoks (k.map v) 48 && true)) && (eqoks (l'.map v) 48 && (eqoks (k'.map v) 48 && true)) then some (eqvs (l.map v) (l'.map v) && (eqvs (k.map v) (k'.map v) && true)) else none) = _
  rw [U.eoks h 47, U.eoks h2 47, U.eoks h' 47, U.eoks h2' 47, U.eqs h h', U.eqs h2 h2']
  simp
theorem Uni.neP {ro m : Mem} {l k l' k' : List Nat} (h : ∀ i ∈ l, i < n) (h2 : ∀ i ∈ k, i < n) (h' : ∀ i ∈ l', i < n) (h2' : ∀ i ∈ k', i < n) : cmpV ro m .ne (.tup [.lst (l.map v), .lst (k.map v)]) (.tup [.lst (l'.map v), .lst (k'.map v)]) = some (!decide (l = l' ∧ k = k')) := by
  show (cmpV ro m .eq _ _).map (!·) = _
  rw [U.eqP h h2 h' h2']; rfl
theorem Uni.sortOk {l : List Nat} (h : ∀ i ∈ l, i < n) : Av.sortOk (l.map v) = true := by
  cases l with
  | nil => rfl
  | cons a r =>
    show (match shO (v a) with | some h => shNE h && decide (shD h ≤ 20) && ((a :: r).map v).all fun e => shB e h | none => false) = true
    rw [U.so a (h a List.mem_cons_self)]
    simp only [U.sn, U.sd, decide_true, Bool.true_and, List.all_eq_true]
    intro d hd
    obtain ⟨i, hi, rfl⟩ := List.mem_map.mp hd
    exact U.sb i (h i hi)
end
def srt (l : List Nat) : List Nat := l.mergeSort fun a b => decide (a ≤ b)
theorem Uni.sort {v : Nat → D} {kk : Nat → Ky} {sh : Sh} {n : Nat} (U : Uni v kk sh n) {l : List Nat} (h : ∀ i ∈ l, i < n) : sortV (l.map v) = some (.lst ((srt l).map v)) := by
  unfold sortV srt
  rw [if_pos (U.sortOk h), List.map_mergeSort (s := leB) fun a ha b hb => (U.le a b (h a ha) (h b hb)).symm]
theorem incr_ext : ∀ {l k : List Nat}, l.Pairwise (· < ·) → k.Pairwise (· < ·) → (∀ i, i ∈ l ↔ i ∈ k) → l = k
  | [], [], _, _, _ => rfl
  | [], b :: s, _, _, e => absurd ((e b).mpr List.mem_cons_self) (by simp)
  | a :: r, [], _, _, e => absurd ((e a).mp List.mem_cons_self) (by simp)
  | a :: r, b :: s, h, k, e => by
    have h' := List.pairwise_cons.mp h
    have k' := List.pairwise_cons.mp k
    have ab : a = b := by
      rcases List.mem_cons.mp ((e a).mp List.mem_cons_self) with x | x
      · exact x
      · rcases List.mem_cons.mp ((e b).mpr List.mem_cons_self) with y | y
        · exact y.symm
        · have := h'.1 b y; have := k'.1 a x; omega
    subst ab
    congr 1
    refine incr_ext h'.2 k'.2 fun i => ⟨fun hi => ?_, fun hi => ?_⟩
    · rcases List.mem_cons.mp ((e i).mp (List.mem_cons_of_mem _ hi)) with x | x
      · have := h'.1 i hi; omega
      · exact x
    · rcases List.mem_cons.mp ((e i).mpr (List.mem_cons_of_mem _ hi)) with x | x
      · have := k'.1 i hi; omega
      · exact x
theorem srt_incr {l : List Nat} (nd : l.Nodup) : (srt l).Pairwise (· < ·) := by
  have h1 : (srt l).Pairwise (fun a b => decide (a ≤ b) = true) := List.pairwise_mergeSort (fun a b c h1 h2 => by simp only [decide_eq_true_eq] at *; omega) (fun a b => by simp only [Bool.or_eq_true, decide_eq_true_eq]; omega) l
  have h2 : (srt l).Nodup := (List.mergeSort_perm l _).nodup_iff.mpr nd
  exact (h1.and h2).imp fun ⟨a, b⟩ => by
    have := of_decide_eq_true a
    omega
theorem mem_srt {l : List Nat} {i : Nat} : i ∈ srt l ↔ i ∈ l := (List.mergeSort_perm l _).mem_iff
theorem incr_filter (n : Nat) (q : Nat → Bool) : ((List.range n).filter q).Pairwise (· < ·) := List.Pairwise.filter _ List.pairwise_lt_range
/-- a row of the universe, by what holds of its items -/
def tb (n : Nat) (q : Nat → Bool) : List Nat := (List.range n).filter q
theorem mem_tb {n : Nat} {q : Nat → Bool} {i : Nat} : i ∈ tb n q ↔ i < n ∧ q i = true := by unfold tb; simp
theorem tb_nd {n : Nat} {q : Nat → Bool} : (tb n q).Nodup := (incr_filter n q).imp fun h => Nat.ne_of_lt h
theorem tb_ext {n : Nat} {q q' : Nat → Bool} : tb n q = tb n q' ↔ ∀ i, i < n → q i = q' i := by
  constructor
  · intro e i hi
    have h1 := mem_tb (n := n) (q := q) (i := i)
    have h2 := mem_tb (n := n) (q := q') (i := i)
    rw [e] at h1
    cases h : q i <;> cases h' : q' i <;> simp_all
  · intro h
    exact List.filter_congr fun i hi => h i (List.mem_range.mp hi)
/-- sorted, a list of the universe stands by its items -/
theorem srt_tb {n : Nat} {l : List Nat} {q : Nat → Bool} (nd : l.Nodup) (h : ∀ i, i ∈ l ↔ i < n ∧ q i = true) : srt l = tb n q :=
  incr_ext (srt_incr nd) (incr_filter n q) fun i => by rw [mem_srt, h]; exact mem_tb.symm
theorem tb_filter {n : Nat} {q p : Nat → Bool} : (tb n q).filter p = tb n fun i => q i && p i := by
  unfold tb; rw [List.filter_filter]; exact List.filter_congr fun i _ => by rw [Bool.and_comm]
end Av.C
end
section
set_option linter.all false
set_option maxRecDepth 100000
namespace Av.C
abbrev g0 : Pg := G0
def dv (i : Nat) : D := .tup [.str [100, 58, 49 + i / 6], .str [if i % 6 < 3 then 101 else 118], .str [117, 115, 101, 114, 58, 97 + i % 3]]
def dkk (i : Nat) : Ky := .t [.inr [100, 58, 49 + i / 6], .inr [if i % 6 < 3 then 101 else 118], .inr [117, 115, 101, 114, 58, 97 + i % 3]]
theorem eq_all : (List.range 18).all (fun i => (List.range 18).all fun j => (eqv (dv i) (dv j) == decide (i = j)) && (leB (dv i) (dv j) == decide (i ≤ j)) && (decide (dkk i = dkk j) == decide (i = j))) = true := by decide +kernel
theorem eq_at {i j : Nat} (hi : i < 18) (hj : j < 18) : eqv (dv i) (dv j) = decide (i = j) ∧ leB (dv i) (dv j) = decide (i ≤ j) ∧ (dkk i = dkk j → i = j) := by
  have := List.all_eq_true.mp (List.all_eq_true.mp eq_all i (List.mem_range.mpr hi)) j (List.mem_range.mpr hj)
  simp only [Bool.and_eq_true, beq_iff_eq] at this
  refine ⟨this.1.1, this.1.2, fun e => ?_⟩
  have h := this.2
  rw [decide_eq_true e] at h
  exact of_decide_eq_true h.symm
theorem UN : Uni dv dkk (.t [.s, .s, .s]) 18 where
  ky := fun i _ => rfl
  dk := fun i _ => rfl
  kt := fun i j _ _ => rfl
  inj := fun i j hi hj => (eq_at hi hj).2.2
  eq := fun i j hi hj => (eq_at hi hj).1
  le := fun i j hi hj => (eq_at hi hj).2.1
  pl := fun i _ => rfl
  eo := fun i k _ => rfl
  so := fun i _ => rfl
  sb := fun i _ => rfl
  sn := rfl
  sd := by decide
/-- a list of grants -/
def tl (q : Nat → Bool) : D := .lst ((tb 18 q).map dv)
theorem tb_lt {q : Nat → Bool} : ∀ i ∈ tb 18 q, i < 18 := fun i h => (mem_tb.mp h).1
theorem dec_tb {q : Nat → Bool} {i : Nat} (hi : i < 18) : decide (i ∈ tb 18 q) = q i := by
  rw [Bool.eq_iff_iff]
  simp [mem_tb, hi]
theorem rdD (ro m : Mem) (i : Nat) : rd ro m (dv i) = dv i := rfl
theorem isXD (i : Nat) : isX (dv i) = false := rfl
theorem fm_tb {p c : Nat → Bool} {g : Nat → Option D} (h : ∀ i ∈ tb 18 p, g i = if c i then some (dv i) else none) : (tb 18 p).filterMap g = (tb 18 fun i => p i && c i).map dv := by
  rw [← tb_filter]
  generalize tb 18 p = l at h
  induction l with
  | nil => rfl
  | cons a r ih =>
    rw [List.filterMap_cons, h a List.mem_cons_self, ih fun i hi => h i (List.mem_cons_of_mem _ hi)]
    by_cases e : c a = true
    · simp [e]
    · simp [e]
theorem memT {ro m : Mem} {q : Nat → Bool} {i : Nat} (h : i < 18) : cmpV ro m .mem (dv i) (.dct (dctOf dkk (tb 18 q))) = some (q i) := by rw [UN.memD tb_lt h, dec_tb h]
theorem nmemT {ro m : Mem} {q : Nat → Bool} {i : Nat} (h : i < 18) : cmpV ro m .nmem (dv i) (.dct (dctOf dkk (tb 18 q))) = some (!q i) := by rw [UN.nmemD tb_lt h, dec_tb h]
theorem memU {ro m : Mem} {q : Nat → Bool} {i : Nat} (h : i < 18) : cmpV ro m .mem (dv i) (.lst ((tb 18 q).map dv)) = some (q i) := by rw [UN.memL tb_lt h, dec_tb h]
theorem nmemU {ro m : Mem} {q : Nat → Bool} {i : Nat} (h : i < 18) : cmpV ro m .nmem (dv i) (.lst ((tb 18 q).map dv)) = some (!q i) := by rw [UN.nmemL tb_lt h, dec_tb h]
theorem kyD (i : Nat) : ky (dv i) = some (dkk i) := rfl
theorem c_without (n : Nat) (p q : Nat → Bool) (ro m : Mem) : callF g0 (n + 1) 13 [tl p, tl q] ro m = .ok (tl fun i => p i && !q i) m := by
  refine call_wp (fd := ⟨2, 4, true, B13⟩) rfl rfl rfl fun P hP hcf => ?_
  show R.wp (exs P _ B13 ⟨[some (tl p), some (tl q), none, none], []⟩) _ _
  unfold B13 tl
  generalize ro ++ m = ro
  simp only [↓ex_for, ↓ex_whl, ↓ev_lc, ↓ev_alg, ↓ev_ang, ↓ev_dc, exs, ex, ev, evs, evT, evTs, evO, asgLv, asgT, asgTs, wipe, R.bind_ok, R.bind_exc, R.bind_stuck, up_stuck, R.up_ok, R.up_exc, R.of_some, calm_ok, ok_and, ok_or, ok_andD, ok_orD, bind_ite, up_ite, pm_cf, List.getElem?_cons_zero, List.getElem?_cons_succ, List.set_cons_zero, List.set_cons_succ, List.length_cons, List.length_nil, List.map_cons, List.map_nil, List.nil_append, List.cons_append, Nat.zero_add, Nat.add_zero, rd_non, rd_bl, rd_int, rd_str, rd_tup, rd_lst, rd_dct, rd_scr, rd_own0, rd_own, memGet_own0, memGet_own, memSet_own0, obD, Option.getD_some, Option.bind_some, Option.map_some, isX_non, isX_bl, isX_int, isX_str, isX_tup, isX_lst, isX_dct, isX_ref, isX_scr, le1, ltI, leI, gtI, geI, eqI, neI, eqS, neS, mem1, nmem1, isN, isntN, tru_bl, tru_non, bi_int_int, bi_len_str, bi_len_lst, bi_len_tup, bi_len_dct, bi_len_scr, bin_add_int, bin_sub_int, bmT, bmA, bm_part, bm_find, tyV_tuple, tyV_bool, tyV_str, tyV_int, tyV_list, tyW_str, tyW_int, tyW_tup, tyW_lst, tyW_bl, tyW_non, Bool.not_true, Bool.not_false, Bool.and_true, Bool.true_and, Bool.or_true, Bool.true_or, Bool.and_false, Bool.false_and, Bool.or_false, Bool.false_or, decide_true, decide_false, evF, fsV_str, Nat.reduceAdd, Nat.reduceLT, Nat.reduceSub, Nat.reduceLeDiff, Int.reduceLT, Int.reduceLE, Int.reduceToNat, Int.reduceNeg, Int.reduceMul, Int.reduceAdd, Int.reduceSub, if_true, if_false, ite_true, ite_false, ↓reduceIte, reduceCtorEq, Bool.false_eq_true, walkS_lst, walkS_tup, walkS_str, bcT, bcA, walkE_lst, walkE_tup, walkE_str]
  rw [UN.dc tb_lt tb_nd fun i hi => by
    unfold dcB
    simp only [↓ex_for, ↓ex_whl, ↓ev_lc, ↓ev_alg, ↓ev_ang, ↓ev_dc, exs, ex, ev, evs, evT, evTs, evO, asgLv, asgT, asgTs, wipe, R.bind_ok, R.bind_exc, R.bind_stuck, up_stuck, R.up_ok, R.up_exc, R.of_some, calm_ok, ok_and, ok_or, ok_andD, ok_orD, bind_ite, up_ite, pm_cf, List.getElem?_cons_zero, List.getElem?_cons_succ, List.set_cons_zero, List.set_cons_succ, List.length_cons, List.length_nil, List.map_cons, List.map_nil, List.nil_append, List.cons_append, Nat.zero_add, Nat.add_zero, rd_non, rd_bl, rd_int, rd_str, rd_tup, rd_lst, rd_dct, rd_scr, rd_own0, rd_own, memGet_own0, memGet_own, memSet_own0, obD, Option.getD_some, Option.bind_some, Option.map_some, isX_non, isX_bl, isX_int, isX_str, isX_tup, isX_lst, isX_dct, isX_ref, isX_scr, le1, ltI, leI, gtI, geI, eqI, neI, eqS, neS, mem1, nmem1, isN, isntN, tru_bl, tru_non, bi_int_int, bi_len_str, bi_len_lst, bi_len_tup, bi_len_dct, bi_len_scr, bin_add_int, bin_sub_int, bmT, bmA, bm_part, bm_find, tyV_tuple, tyV_bool, tyV_str, tyV_int, tyV_list, tyW_str, tyW_int, tyW_tup, tyW_lst, tyW_bl, tyW_non, Bool.not_true, Bool.not_false, Bool.and_true, Bool.true_and, Bool.or_true, Bool.true_or, Bool.and_false, Bool.false_and, Bool.or_false, Bool.false_or, decide_true, decide_false, evF, fsV_str, Nat.reduceAdd, Nat.reduceLT, Nat.reduceSub, Nat.reduceLeDiff, Int.reduceLT, Int.reduceLE, Int.reduceToNat, Int.reduceNeg, Int.reduceMul, Int.reduceAdd, Int.reduceSub, if_true, if_false, ite_true, ite_false, ↓reduceIte, reduceCtorEq, Bool.false_eq_true, walkS_lst, walkS_tup, walkS_str, bcT, bcA, walkE_lst, walkE_tup, walkE_str, isXD, kyD]]
  simp only [↓ex_for, ↓ex_whl, ↓ev_lc, ↓ev_alg, ↓ev_ang, ↓ev_dc, exs, ex, ev, evs, evT, evTs, evO, asgLv, asgT, asgTs, wipe, R.bind_ok, R.bind_exc, R.bind_stuck, up_stuck, R.up_ok, R.up_exc, R.of_some, calm_ok, ok_and, ok_or, ok_andD, ok_orD, bind_ite, up_ite, pm_cf, List.getElem?_cons_zero, List.getElem?_cons_succ, List.set_cons_zero, List.set_cons_succ, List.length_cons, List.length_nil, List.map_cons, List.map_nil, List.nil_append, List.cons_append, Nat.zero_add, Nat.add_zero, rd_non, rd_bl, rd_int, rd_str, rd_tup, rd_lst, rd_dct, rd_scr, rd_own0, rd_own, memGet_own0, memGet_own, memSet_own0, obD, Option.getD_some, Option.bind_some, Option.map_some, isX_non, isX_bl, isX_int, isX_str, isX_tup, isX_lst, isX_dct, isX_ref, isX_scr, le1, ltI, leI, gtI, geI, eqI, neI, eqS, neS, mem1, nmem1, isN, isntN, tru_bl, tru_non, bi_int_int, bi_len_str, bi_len_lst, bi_len_tup, bi_len_dct, bi_len_scr, bin_add_int, bin_sub_int, bmT, bmA, bm_part, bm_find, tyV_tuple, tyV_bool, tyV_str, tyV_int, tyV_list, tyW_str, tyW_int, tyW_tup, tyW_lst, tyW_bl, tyW_non, Bool.not_true, Bool.not_false, Bool.and_true, Bool.true_and, Bool.or_true, Bool.true_or, Bool.and_false, Bool.false_and, Bool.or_false, Bool.false_or, decide_true, decide_false, evF, fsV_str, Nat.reduceAdd, Nat.reduceLT, Nat.reduceSub, Nat.reduceLeDiff, Int.reduceLT, Int.reduceLE, Int.reduceToNat, Int.reduceNeg, Int.reduceMul, Int.reduceAdd, Int.reduceSub, if_true, if_false, ite_true, ite_false, ↓reduceIte, reduceCtorEq, Bool.false_eq_true, walkS_lst, walkS_tup, walkS_str, bcT, bcA, walkE_lst, walkE_tup, walkE_str]
  rw [lcL_map dv _ (fun i => if !q i then some (dv i) else none)]
  · simp only [↓ex_for, ↓ex_whl, ↓ev_lc, ↓ev_alg, ↓ev_ang, ↓ev_dc, exs, ex, ev, evs, evT, evTs, evO, asgLv, asgT, asgTs, wipe, R.bind_ok, R.bind_exc, R.bind_stuck, up_stuck, R.up_ok, R.up_exc, R.of_some, calm_ok, ok_and, ok_or, ok_andD, ok_orD, bind_ite, up_ite, pm_cf, List.getElem?_cons_zero, List.getElem?_cons_succ, List.set_cons_zero, List.set_cons_succ, List.length_cons, List.length_nil, List.map_cons, List.map_nil, List.nil_append, List.cons_append, Nat.zero_add, Nat.add_zero, rd_non, rd_bl, rd_int, rd_str, rd_tup, rd_lst, rd_dct, rd_scr, rd_own0, rd_own, memGet_own0, memGet_own, memSet_own0, obD, Option.getD_some, Option.bind_some, Option.map_some, isX_non, isX_bl, isX_int, isX_str, isX_tup, isX_lst, isX_dct, isX_ref, isX_scr, le1, ltI, leI, gtI, geI, eqI, neI, eqS, neS, mem1, nmem1, isN, isntN, tru_bl, tru_non, bi_int_int, bi_len_str, bi_len_lst, bi_len_tup, bi_len_dct, bi_len_scr, bin_add_int, bin_sub_int, bmT, bmA, bm_part, bm_find, tyV_tuple, tyV_bool, tyV_str, tyV_int, tyV_list, tyW_str, tyW_int, tyW_tup, tyW_lst, tyW_bl, tyW_non, Bool.not_true, Bool.not_false, Bool.and_true, Bool.true_and, Bool.or_true, Bool.true_or, Bool.and_false, Bool.false_and, Bool.or_false, Bool.false_or, decide_true, decide_false, evF, fsV_str, Nat.reduceAdd, Nat.reduceLT, Nat.reduceSub, Nat.reduceLeDiff, Int.reduceLT, Int.reduceLE, Int.reduceToNat, Int.reduceNeg, Int.reduceMul, Int.reduceAdd, Int.reduceSub, if_true, if_false, ite_true, ite_false, ↓reduceIte, reduceCtorEq, Bool.false_eq_true, walkS_lst, walkS_tup, walkS_str, bcT, bcA, walkE_lst, walkE_tup, walkE_str]
    rw [fm_tb fun _ _ => rfl]
    exact xp_plain _ _ _ (UN.plains tb_lt)
  · intro i hi
    unfold lcB
    simp only [↓ex_for, ↓ex_whl, ↓ev_lc, ↓ev_alg, ↓ev_ang, ↓ev_dc, exs, ex, ev, evs, evT, evTs, evO, asgLv, asgT, asgTs, wipe, R.bind_ok, R.bind_exc, R.bind_stuck, up_stuck, R.up_ok, R.up_exc, R.of_some, calm_ok, ok_and, ok_or, ok_andD, ok_orD, bind_ite, up_ite, pm_cf, List.getElem?_cons_zero, List.getElem?_cons_succ, List.set_cons_zero, List.set_cons_succ, List.length_cons, List.length_nil, List.map_cons, List.map_nil, List.nil_append, List.cons_append, Nat.zero_add, Nat.add_zero, rd_non, rd_bl, rd_int, rd_str, rd_tup, rd_lst, rd_dct, rd_scr, rd_own0, rd_own, memGet_own0, memGet_own, memSet_own0, obD, Option.getD_some, Option.bind_some, Option.map_some, isX_non, isX_bl, isX_int, isX_str, isX_tup, isX_lst, isX_dct, isX_ref, isX_scr, le1, ltI, leI, gtI, geI, eqI, neI, eqS, neS, mem1, nmem1, isN, isntN, tru_bl, tru_non, bi_int_int, bi_len_str, bi_len_lst, bi_len_tup, bi_len_dct, bi_len_scr, bin_add_int, bin_sub_int, bmT, bmA, bm_part, bm_find, tyV_tuple, tyV_bool, tyV_str, tyV_int, tyV_list, tyW_str, tyW_int, tyW_tup, tyW_lst, tyW_bl, tyW_non, Bool.not_true, Bool.not_false, Bool.and_true, Bool.true_and, Bool.or_true, Bool.true_or, Bool.and_false, Bool.false_and, Bool.or_false, Bool.false_or, decide_true, decide_false, evF, fsV_str, Nat.reduceAdd, Nat.reduceLT, Nat.reduceSub, Nat.reduceLeDiff, Int.reduceLT, Int.reduceLE, Int.reduceToNat, Int.reduceNeg, Int.reduceMul, Int.reduceAdd, Int.reduceSub, if_true, if_false, ite_true, ite_false, ↓reduceIte, reduceCtorEq, Bool.false_eq_true, walkS_lst, walkS_tup, walkS_str, bcT, bcA, walkE_lst, walkE_tup, walkE_str, isXD, kyD, nmemT (tb_lt i hi), rdD]
    cases q i <;> rfl
end Av.C
end
section
set_option linter.all false
set_option maxRecDepth 100000
namespace Av.C
theorem walkE_dct {α : Type} (ro : Mem) (ds : List (Ky × D)) (m : Mem) (k : List D → Mem → R Mem α) : walkE ro (.dct ds) m k = (k (ds.map fun kv => dK kv.1) m).calm fun a m1 => .ok a m1 := rfl
theorem sortT (q : Nat → Bool) : biV .sorted [.lst ((tb 18 q).map dv)] = some (.lst ((tb 18 q).map dv)) := by
  show sortV _ = _
  rw [UN.sort tb_lt, srt_tb tb_nd fun i => mem_tb]
theorem listL (l : List D) : biV .list [.lst l] = some (.lst l) := rfl
theorem at2 (a b : D) : atV (.tup [a, b]) (.int 0) = some a ∧ atV (.tup [a, b]) (.int 1) = some b := ⟨rfl, rfl⟩
theorem c_difference (n : Nat) (p q : Nat → Bool) (ro m : Mem) : callF g0 (n + 1) 10 [tl p, tl q] ro m = .ok (.tup [tl fun i => q i && !p i, tl fun i => p i && !q i]) m := by
  refine call_wp (fd := ⟨2, 5, true, B10⟩) rfl rfl rfl fun P hP hcf => ?_
  show R.wp (exs P _ B10 ⟨[some (tl p), some (tl q), none, none, none], []⟩) _ _
  unfold B10 tl
  generalize ro ++ m = ro
  simp only [↓ex_for, ↓ex_whl, ↓ev_lc, ↓ev_alg, ↓ev_ang, ↓ev_dc, exs, ex, ev, evs, evT, evTs, evO, asgLv, asgT, asgTs, wipe, R.bind_ok, R.bind_exc, R.bind_stuck, up_stuck, R.up_ok, R.up_exc, R.of_some, calm_ok, ok_and, ok_or, ok_andD, ok_orD, bind_ite, up_ite, pm_cf, List.getElem?_cons_zero, List.getElem?_cons_succ, List.set_cons_zero, List.set_cons_succ, List.length_cons, List.length_nil, List.map_cons, List.map_nil, List.nil_append, List.cons_append, Nat.zero_add, Nat.add_zero, rd_non, rd_bl, rd_int, rd_str, rd_tup, rd_lst, rd_dct, rd_scr, rd_own0, rd_own, memGet_own0, memGet_own, memSet_own0, obD, Option.getD_some, Option.bind_some, Option.map_some, isX_non, isX_bl, isX_int, isX_str, isX_tup, isX_lst, isX_dct, isX_ref, isX_scr, le1, ltI, leI, gtI, geI, eqI, neI, eqS, neS, mem1, nmem1, isN, isntN, tru_bl, tru_non, bi_int_int, bi_len_str, bi_len_lst, bi_len_tup, bi_len_dct, bi_len_scr, bin_add_int, bin_sub_int, bmT, bmA, bm_part, bm_find, tyV_tuple, tyV_bool, tyV_str, tyV_int, tyV_list, tyW_str, tyW_int, tyW_tup, tyW_lst, tyW_bl, tyW_non, Bool.not_true, Bool.not_false, Bool.and_true, Bool.true_and, Bool.or_true, Bool.true_or, Bool.and_false, Bool.false_and, Bool.or_false, Bool.false_or, decide_true, decide_false, evF, fsV_str, Nat.reduceAdd, Nat.reduceLT, Nat.reduceSub, Nat.reduceLeDiff, Int.reduceLT, Int.reduceLE, Int.reduceToNat, Int.reduceNeg, Int.reduceMul, Int.reduceAdd, Int.reduceSub, if_true, if_false, ite_true, ite_false, ↓reduceIte, reduceCtorEq, Bool.false_eq_true, walkS_lst, walkS_tup, walkS_str, bcT, bcA, walkE_lst, walkE_tup, walkE_str]
  rw [UN.dc tb_lt tb_nd fun i hi => by
    unfold dcB
    simp only [↓ex_for, ↓ex_whl, ↓ev_lc, ↓ev_alg, ↓ev_ang, ↓ev_dc, exs, ex, ev, evs, evT, evTs, evO, asgLv, asgT, asgTs, wipe, R.bind_ok, R.bind_exc, R.bind_stuck, up_stuck, R.up_ok, R.up_exc, R.of_some, calm_ok, ok_and, ok_or, ok_andD, ok_orD, bind_ite, up_ite, pm_cf, List.getElem?_cons_zero, List.getElem?_cons_succ, List.set_cons_zero, List.set_cons_succ, List.length_cons, List.length_nil, List.map_cons, List.map_nil, List.nil_append, List.cons_append, Nat.zero_add, Nat.add_zero, rd_non, rd_bl, rd_int, rd_str, rd_tup, rd_lst, rd_dct, rd_scr, rd_own0, rd_own, memGet_own0, memGet_own, memSet_own0, obD, Option.getD_some, Option.bind_some, Option.map_some, isX_non, isX_bl, isX_int, isX_str, isX_tup, isX_lst, isX_dct, isX_ref, isX_scr, le1, ltI, leI, gtI, geI, eqI, neI, eqS, neS, mem1, nmem1, isN, isntN, tru_bl, tru_non, bi_int_int, bi_len_str, bi_len_lst, bi_len_tup, bi_len_dct, bi_len_scr, bin_add_int, bin_sub_int, bmT, bmA, bm_part, bm_find, tyV_tuple, tyV_bool, tyV_str, tyV_int, tyV_list, tyW_str, tyW_int, tyW_tup, tyW_lst, tyW_bl, tyW_non, Bool.not_true, Bool.not_false, Bool.and_true, Bool.true_and, Bool.or_true, Bool.true_or, Bool.and_false, Bool.false_and, Bool.or_false, Bool.false_or, decide_true, decide_false, evF, fsV_str, Nat.reduceAdd, Nat.reduceLT, Nat.reduceSub, Nat.reduceLeDiff, Int.reduceLT, Int.reduceLE, Int.reduceToNat, Int.reduceNeg, Int.reduceMul, Int.reduceAdd, Int.reduceSub, if_true, if_false, ite_true, ite_false, ↓reduceIte, reduceCtorEq, Bool.false_eq_true, walkS_lst, walkS_tup, walkS_str, bcT, bcA, walkE_lst, walkE_tup, walkE_str, isXD, kyD]]
  simp only [↓ex_for, ↓ex_whl, ↓ev_lc, ↓ev_alg, ↓ev_ang, ↓ev_dc, exs, ex, ev, evs, evT, evTs, evO, asgLv, asgT, asgTs, wipe, R.bind_ok, R.bind_exc, R.bind_stuck, up_stuck, R.up_ok, R.up_exc, R.of_some, calm_ok, ok_and, ok_or, ok_andD, ok_orD, bind_ite, up_ite, pm_cf, List.getElem?_cons_zero, List.getElem?_cons_succ, List.set_cons_zero, List.set_cons_succ, List.length_cons, List.length_nil, List.map_cons, List.map_nil, List.nil_append, List.cons_append, Nat.zero_add, Nat.add_zero, rd_non, rd_bl, rd_int, rd_str, rd_tup, rd_lst, rd_dct, rd_scr, rd_own0, rd_own, memGet_own0, memGet_own, memSet_own0, obD, Option.getD_some, Option.bind_some, Option.map_some, isX_non, isX_bl, isX_int, isX_str, isX_tup, isX_lst, isX_dct, isX_ref, isX_scr, le1, ltI, leI, gtI, geI, eqI, neI, eqS, neS, mem1, nmem1, isN, isntN, tru_bl, tru_non, bi_int_int, bi_len_str, bi_len_lst, bi_len_tup, bi_len_dct, bi_len_scr, bin_add_int, bin_sub_int, bmT, bmA, bm_part, bm_find, tyV_tuple, tyV_bool, tyV_str, tyV_int, tyV_list, tyW_str, tyW_int, tyW_tup, tyW_lst, tyW_bl, tyW_non, Bool.not_true, Bool.not_false, Bool.and_true, Bool.true_and, Bool.or_true, Bool.true_or, Bool.and_false, Bool.false_and, Bool.or_false, Bool.false_or, decide_true, decide_false, evF, fsV_str, Nat.reduceAdd, Nat.reduceLT, Nat.reduceSub, Nat.reduceLeDiff, Int.reduceLT, Int.reduceLE, Int.reduceToNat, Int.reduceNeg, Int.reduceMul, Int.reduceAdd, Int.reduceSub, if_true, if_false, ite_true, ite_false, ↓reduceIte, reduceCtorEq, Bool.false_eq_true, walkS_lst, walkS_tup, walkS_str, bcT, bcA, walkE_lst, walkE_tup, walkE_str]
  rw [UN.dc tb_lt tb_nd fun i hi => by
    unfold dcB
    simp only [↓ex_for, ↓ex_whl, ↓ev_lc, ↓ev_alg, ↓ev_ang, ↓ev_dc, exs, ex, ev, evs, evT, evTs, evO, asgLv, asgT, asgTs, wipe, R.bind_ok, R.bind_exc, R.bind_stuck, up_stuck, R.up_ok, R.up_exc, R.of_some, calm_ok, ok_and, ok_or, ok_andD, ok_orD, bind_ite, up_ite, pm_cf, List.getElem?_cons_zero, List.getElem?_cons_succ, List.set_cons_zero, List.set_cons_succ, List.length_cons, List.length_nil, List.map_cons, List.map_nil, List.nil_append, List.cons_append, Nat.zero_add, Nat.add_zero, rd_non, rd_bl, rd_int, rd_str, rd_tup, rd_lst, rd_dct, rd_scr, rd_own0, rd_own, memGet_own0, memGet_own, memSet_own0, obD, Option.getD_some, Option.bind_some, Option.map_some, isX_non, isX_bl, isX_int, isX_str, isX_tup, isX_lst, isX_dct, isX_ref, isX_scr, le1, ltI, leI, gtI, geI, eqI, neI, eqS, neS, mem1, nmem1, isN, isntN, tru_bl, tru_non, bi_int_int, bi_len_str, bi_len_lst, bi_len_tup, bi_len_dct, bi_len_scr, bin_add_int, bin_sub_int, bmT, bmA, bm_part, bm_find, tyV_tuple, tyV_bool, tyV_str, tyV_int, tyV_list, tyW_str, tyW_int, tyW_tup, tyW_lst, tyW_bl, tyW_non, Bool.not_true, Bool.not_false, Bool.and_true, Bool.true_and, Bool.or_true, Bool.true_or, Bool.and_false, Bool.false_and, Bool.or_false, Bool.false_or, decide_true, decide_false, evF, fsV_str, Nat.reduceAdd, Nat.reduceLT, Nat.reduceSub, Nat.reduceLeDiff, Int.reduceLT, Int.reduceLE, Int.reduceToNat, Int.reduceNeg, Int.reduceMul, Int.reduceAdd, Int.reduceSub, if_true, if_false, ite_true, ite_false, ↓reduceIte, reduceCtorEq, Bool.false_eq_true, walkS_lst, walkS_tup, walkS_str, bcT, bcA, walkE_lst, walkE_tup, walkE_str, isXD, kyD]]
  simp only [↓ex_for, ↓ex_whl, ↓ev_lc, ↓ev_alg, ↓ev_ang, ↓ev_dc, exs, ex, ev, evs, evT, evTs, evO, asgLv, asgT, asgTs, wipe, R.bind_ok, R.bind_exc, R.bind_stuck, up_stuck, R.up_ok, R.up_exc, R.of_some, calm_ok, ok_and, ok_or, ok_andD, ok_orD, bind_ite, up_ite, pm_cf, List.getElem?_cons_zero, List.getElem?_cons_succ, List.set_cons_zero, List.set_cons_succ, List.length_cons, List.length_nil, List.map_cons, List.map_nil, List.nil_append, List.cons_append, Nat.zero_add, Nat.add_zero, rd_non, rd_bl, rd_int, rd_str, rd_tup, rd_lst, rd_dct, rd_scr, rd_own0, rd_own, memGet_own0, memGet_own, memSet_own0, obD, Option.getD_some, Option.bind_some, Option.map_some, isX_non, isX_bl, isX_int, isX_str, isX_tup, isX_lst, isX_dct, isX_ref, isX_scr, le1, ltI, leI, gtI, geI, eqI, neI, eqS, neS, mem1, nmem1, isN, isntN, tru_bl, tru_non, bi_int_int, bi_len_str, bi_len_lst, bi_len_tup, bi_len_dct, bi_len_scr, bin_add_int, bin_sub_int, bmT, bmA, bm_part, bm_find, tyV_tuple, tyV_bool, tyV_str, tyV_int, tyV_list, tyW_str, tyW_int, tyW_tup, tyW_lst, tyW_bl, tyW_non, Bool.not_true, Bool.not_false, Bool.and_true, Bool.true_and, Bool.or_true, Bool.true_or, Bool.and_false, Bool.false_and, Bool.or_false, Bool.false_or, decide_true, decide_false, evF, fsV_str, Nat.reduceAdd, Nat.reduceLT, Nat.reduceSub, Nat.reduceLeDiff, Int.reduceLT, Int.reduceLE, Int.reduceToNat, Int.reduceNeg, Int.reduceMul, Int.reduceAdd, Int.reduceSub, if_true, if_false, ite_true, ite_false, ↓reduceIte, reduceCtorEq, Bool.false_eq_true, walkS_lst, walkS_tup, walkS_str, bcT, bcA, walkE_lst, walkE_tup, walkE_str, walkE_dct, UN.keys tb_lt]
  rw [lcL_map dv _ (fun i => if !p i then some (dv i) else none)]
  · simp only [↓ex_for, ↓ex_whl, ↓ev_lc, ↓ev_alg, ↓ev_ang, ↓ev_dc, exs, ex, ev, evs, evT, evTs, evO, asgLv, asgT, asgTs, wipe, R.bind_ok, R.bind_exc, R.bind_stuck, up_stuck, R.up_ok, R.up_exc, R.of_some, calm_ok, ok_and, ok_or, ok_andD, ok_orD, bind_ite, up_ite, pm_cf, List.getElem?_cons_zero, List.getElem?_cons_succ, List.set_cons_zero, List.set_cons_succ, List.length_cons, List.length_nil, List.map_cons, List.map_nil, List.nil_append, List.cons_append, Nat.zero_add, Nat.add_zero, rd_non, rd_bl, rd_int, rd_str, rd_tup, rd_lst, rd_dct, rd_scr, rd_own0, rd_own, memGet_own0, memGet_own, memSet_own0, obD, Option.getD_some, Option.bind_some, Option.map_some, isX_non, isX_bl, isX_int, isX_str, isX_tup, isX_lst, isX_dct, isX_ref, isX_scr, le1, ltI, leI, gtI, geI, eqI, neI, eqS, neS, mem1, nmem1, isN, isntN, tru_bl, tru_non, bi_int_int, bi_len_str, bi_len_lst, bi_len_tup, bi_len_dct, bi_len_scr, bin_add_int, bin_sub_int, bmT, bmA, bm_part, bm_find, tyV_tuple, tyV_bool, tyV_str, tyV_int, tyV_list, tyW_str, tyW_int, tyW_tup, tyW_lst, tyW_bl, tyW_non, Bool.not_true, Bool.not_false, Bool.and_true, Bool.true_and, Bool.or_true, Bool.true_or, Bool.and_false, Bool.false_and, Bool.or_false, Bool.false_or, decide_true, decide_false, evF, fsV_str, Nat.reduceAdd, Nat.reduceLT, Nat.reduceSub, Nat.reduceLeDiff, Int.reduceLT, Int.reduceLE, Int.reduceToNat, Int.reduceNeg, Int.reduceMul, Int.reduceAdd, Int.reduceSub, if_true, if_false, ite_true, ite_false, ↓reduceIte, reduceCtorEq, Bool.false_eq_true, walkS_lst, walkS_tup, walkS_str, bcT, bcA, walkE_lst, walkE_tup, walkE_str]
    rw [fm_tb fun _ _ => rfl]
    simp only [↓ex_for, ↓ex_whl, ↓ev_lc, ↓ev_alg, ↓ev_ang, ↓ev_dc, exs, ex, ev, evs, evT, evTs, evO, asgLv, asgT, asgTs, wipe, R.bind_ok, R.bind_exc, R.bind_stuck, up_stuck, R.up_ok, R.up_exc, R.of_some, calm_ok, ok_and, ok_or, ok_andD, ok_orD, bind_ite, up_ite, pm_cf, List.getElem?_cons_zero, List.getElem?_cons_succ, List.set_cons_zero, List.set_cons_succ, List.length_cons, List.length_nil, List.map_cons, List.map_nil, List.nil_append, List.cons_append, Nat.zero_add, Nat.add_zero, rd_non, rd_bl, rd_int, rd_str, rd_tup, rd_lst, rd_dct, rd_scr, rd_own0, rd_own, memGet_own0, memGet_own, memSet_own0, obD, Option.getD_some, Option.bind_some, Option.map_some, isX_non, isX_bl, isX_int, isX_str, isX_tup, isX_lst, isX_dct, isX_ref, isX_scr, le1, ltI, leI, gtI, geI, eqI, neI, eqS, neS, mem1, nmem1, isN, isntN, tru_bl, tru_non, bi_int_int, bi_len_str, bi_len_lst, bi_len_tup, bi_len_dct, bi_len_scr, bin_add_int, bin_sub_int, bmT, bmA, bm_part, bm_find, tyV_tuple, tyV_bool, tyV_str, tyV_int, tyV_list, tyW_str, tyW_int, tyW_tup, tyW_lst, tyW_bl, tyW_non, Bool.not_true, Bool.not_false, Bool.and_true, Bool.true_and, Bool.or_true, Bool.true_or, Bool.and_false, Bool.false_and, Bool.or_false, Bool.false_or, decide_true, decide_false, evF, fsV_str, Nat.reduceAdd, Nat.reduceLT, Nat.reduceSub, Nat.reduceLeDiff, Int.reduceLT, Int.reduceLE, Int.reduceToNat, Int.reduceNeg, Int.reduceMul, Int.reduceAdd, Int.reduceSub, if_true, if_false, ite_true, ite_false, ↓reduceIte, reduceCtorEq, Bool.false_eq_true, walkS_lst, walkS_tup, walkS_str, bcT, bcA, walkE_lst, walkE_tup, walkE_str, sortT, walkE_dct, UN.keys tb_lt]
    rw [lcL_map dv _ (fun i => if !q i then some (dv i) else none)]
    · simp only [↓ex_for, ↓ex_whl, ↓ev_lc, ↓ev_alg, ↓ev_ang, ↓ev_dc, exs, ex, ev, evs, evT, evTs, evO, asgLv, asgT, asgTs, wipe, R.bind_ok, R.bind_exc, R.bind_stuck, up_stuck, R.up_ok, R.up_exc, R.of_some, calm_ok, ok_and, ok_or, ok_andD, ok_orD, bind_ite, up_ite, pm_cf, List.getElem?_cons_zero, List.getElem?_cons_succ, List.set_cons_zero, List.set_cons_succ, List.length_cons, List.length_nil, List.map_cons, List.map_nil, List.nil_append, List.cons_append, Nat.zero_add, Nat.add_zero, rd_non, rd_bl, rd_int, rd_str, rd_tup, rd_lst, rd_dct, rd_scr, rd_own0, rd_own, memGet_own0, memGet_own, memSet_own0, obD, Option.getD_some, Option.bind_some, Option.map_some, isX_non, isX_bl, isX_int, isX_str, isX_tup, isX_lst, isX_dct, isX_ref, isX_scr, le1, ltI, leI, gtI, geI, eqI, neI, eqS, neS, mem1, nmem1, isN, isntN, tru_bl, tru_non, bi_int_int, bi_len_str, bi_len_lst, bi_len_tup, bi_len_dct, bi_len_scr, bin_add_int, bin_sub_int, bmT, bmA, bm_part, bm_find, tyV_tuple, tyV_bool, tyV_str, tyV_int, tyV_list, tyW_str, tyW_int, tyW_tup, tyW_lst, tyW_bl, tyW_non, Bool.not_true, Bool.not_false, Bool.and_true, Bool.true_and, Bool.or_true, Bool.true_or, Bool.and_false, Bool.false_and, Bool.or_false, Bool.false_or, decide_true, decide_false, evF, fsV_str, Nat.reduceAdd, Nat.reduceLT, Nat.reduceSub, Nat.reduceLeDiff, Int.reduceLT, Int.reduceLE, Int.reduceToNat, Int.reduceNeg, Int.reduceMul, Int.reduceAdd, Int.reduceSub, if_true, if_false, ite_true, ite_false, ↓reduceIte, reduceCtorEq, Bool.false_eq_true, walkS_lst, walkS_tup, walkS_str, bcT, bcA, walkE_lst, walkE_tup, walkE_str]
      rw [fm_tb fun _ _ => rfl]
      simp only [↓ex_for, ↓ex_whl, ↓ev_lc, ↓ev_alg, ↓ev_ang, ↓ev_dc, exs, ex, ev, evs, evT, evTs, evO, asgLv, asgT, asgTs, wipe, R.bind_ok, R.bind_exc, R.bind_stuck, up_stuck, R.up_ok, R.up_exc, R.of_some, calm_ok, ok_and, ok_or, ok_andD, ok_orD, bind_ite, up_ite, pm_cf, List.getElem?_cons_zero, List.getElem?_cons_succ, List.set_cons_zero, List.set_cons_succ, List.length_cons, List.length_nil, List.map_cons, List.map_nil, List.nil_append, List.cons_append, Nat.zero_add, Nat.add_zero, rd_non, rd_bl, rd_int, rd_str, rd_tup, rd_lst, rd_dct, rd_scr, rd_own0, rd_own, memGet_own0, memGet_own, memSet_own0, obD, Option.getD_some, Option.bind_some, Option.map_some, isX_non, isX_bl, isX_int, isX_str, isX_tup, isX_lst, isX_dct, isX_ref, isX_scr, le1, ltI, leI, gtI, geI, eqI, neI, eqS, neS, mem1, nmem1, isN, isntN, tru_bl, tru_non, bi_int_int, bi_len_str, bi_len_lst, bi_len_tup, bi_len_dct, bi_len_scr, bin_add_int, bin_sub_int, bmT, bmA, bm_part, bm_find, tyV_tuple, tyV_bool, tyV_str, tyV_int, tyV_list, tyW_str, tyW_int, tyW_tup, tyW_lst, tyW_bl, tyW_non, Bool.not_true, Bool.not_false, Bool.and_true, Bool.true_and, Bool.or_true, Bool.true_or, Bool.and_false, Bool.false_and, Bool.or_false, Bool.false_or, decide_true, decide_false, evF, fsV_str, Nat.reduceAdd, Nat.reduceLT, Nat.reduceSub, Nat.reduceLeDiff, Int.reduceLT, Int.reduceLE, Int.reduceToNat, Int.reduceNeg, Int.reduceMul, Int.reduceAdd, Int.reduceSub, if_true, if_false, ite_true, ite_false, ↓reduceIte, reduceCtorEq, Bool.false_eq_true, walkS_lst, walkS_tup, walkS_str, bcT, bcA, walkE_lst, walkE_tup, walkE_str, sortT]
      refine xp_plain _ _ _ ?_
      show (plains _ && (plains _ && true)) = true
      rw [UN.plains tb_lt, UN.plains tb_lt]; rfl
    · intro i hi
      unfold lcB
      simp only [↓ex_for, ↓ex_whl, ↓ev_lc, ↓ev_alg, ↓ev_ang, ↓ev_dc, exs, ex, ev, evs, evT, evTs, evO, asgLv, asgT, asgTs, wipe, R.bind_ok, R.bind_exc, R.bind_stuck, up_stuck, R.up_ok, R.up_exc, R.of_some, calm_ok, ok_and, ok_or, ok_andD, ok_orD, bind_ite, up_ite, pm_cf, List.getElem?_cons_zero, List.getElem?_cons_succ, List.set_cons_zero, List.set_cons_succ, List.length_cons, List.length_nil, List.map_cons, List.map_nil, List.nil_append, List.cons_append, Nat.zero_add, Nat.add_zero, rd_non, rd_bl, rd_int, rd_str, rd_tup, rd_lst, rd_dct, rd_scr, rd_own0, rd_own, memGet_own0, memGet_own, memSet_own0, obD, Option.getD_some, Option.bind_some, Option.map_some, isX_non, isX_bl, isX_int, isX_str, isX_tup, isX_lst, isX_dct, isX_ref, isX_scr, le1, ltI, leI, gtI, geI, eqI, neI, eqS, neS, mem1, nmem1, isN, isntN, tru_bl, tru_non, bi_int_int, bi_len_str, bi_len_lst, bi_len_tup, bi_len_dct, bi_len_scr, bin_add_int, bin_sub_int, bmT, bmA, bm_part, bm_find, tyV_tuple, tyV_bool, tyV_str, tyV_int, tyV_list, tyW_str, tyW_int, tyW_tup, tyW_lst, tyW_bl, tyW_non, Bool.not_true, Bool.not_false, Bool.and_true, Bool.true_and, Bool.or_true, Bool.true_or, Bool.and_false, Bool.false_and, Bool.or_false, Bool.false_or, decide_true, decide_false, evF, fsV_str, Nat.reduceAdd, Nat.reduceLT, Nat.reduceSub, Nat.reduceLeDiff, Int.reduceLT, Int.reduceLE, Int.reduceToNat, Int.reduceNeg, Int.reduceMul, Int.reduceAdd, Int.reduceSub, if_true, if_false, ite_true, ite_false, ↓reduceIte, reduceCtorEq, Bool.false_eq_true, walkS_lst, walkS_tup, walkS_str, bcT, bcA, walkE_lst, walkE_tup, walkE_str, isXD, kyD, nmemT (tb_lt i hi), rdD]
      cases q i <;> rfl
  · intro i hi
    unfold lcB
    simp only [↓ex_for, ↓ex_whl, ↓ev_lc, ↓ev_alg, ↓ev_ang, ↓ev_dc, exs, ex, ev, evs, evT, evTs, evO, asgLv, asgT, asgTs, wipe, R.bind_ok, R.bind_exc, R.bind_stuck, up_stuck, R.up_ok, R.up_exc, R.of_some, calm_ok, ok_and, ok_or, ok_andD, ok_orD, bind_ite, up_ite, pm_cf, List.getElem?_cons_zero, List.getElem?_cons_succ, List.set_cons_zero, List.set_cons_succ, List.length_cons, List.length_nil, List.map_cons, List.map_nil, List.nil_append, List.cons_append, Nat.zero_add, Nat.add_zero, rd_non, rd_bl, rd_int, rd_str, rd_tup, rd_lst, rd_dct, rd_scr, rd_own0, rd_own, memGet_own0, memGet_own, memSet_own0, obD, Option.getD_some, Option.bind_some, Option.map_some, isX_non, isX_bl, isX_int, isX_str, isX_tup, isX_lst, isX_dct, isX_ref, isX_scr, le1, ltI, leI, gtI, geI, eqI, neI, eqS, neS, mem1, nmem1, isN, isntN, tru_bl, tru_non, bi_int_int, bi_len_str, bi_len_lst, bi_len_tup, bi_len_dct, bi_len_scr, bin_add_int, bin_sub_int, bmT, bmA, bm_part, bm_find, tyV_tuple, tyV_bool, tyV_str, tyV_int, tyV_list, tyW_str, tyW_int, tyW_tup, tyW_lst, tyW_bl, tyW_non, Bool.not_true, Bool.not_false, Bool.and_true, Bool.true_and, Bool.or_true, Bool.true_or, Bool.and_false, Bool.false_and, Bool.or_false, Bool.false_or, decide_true, decide_false, evF, fsV_str, Nat.reduceAdd, Nat.reduceLT, Nat.reduceSub, Nat.reduceLeDiff, Int.reduceLT, Int.reduceLE, Int.reduceToNat, Int.reduceNeg, Int.reduceMul, Int.reduceAdd, Int.reduceSub, if_true, if_false, ite_true, ite_false, ↓reduceIte, reduceCtorEq, Bool.false_eq_true, walkS_lst, walkS_tup, walkS_str, bcT, bcA, walkE_lst, walkE_tup, walkE_str, isXD, kyD, nmemT (tb_lt i hi), rdD]
    cases p i <;> rfl
/-- whether a change fits a table -/
def fits (p a b : Nat → Bool) : Bool := ((tb 18 a).all fun i => !p i) && (tb 18 b).all fun i => p i
def chg (a b : Nat → Bool) : D := .tup [tl a, tl b]
theorem c_applies (n : Nat) (p a b : Nat → Bool) (ro m : Mem) : callF g0 (n + 1) 11 [tl p, chg a b] ro m = .ok (.bl (fits p a b)) m := by
  refine call_wp (fd := ⟨2, 4, true, B11⟩) rfl rfl rfl fun P hP hcf => ?_
  show R.wp (exs P _ B11 ⟨[some (tl p), some (chg a b), none, none], []⟩) _ _
  unfold B11 chg tl
  generalize ro ++ m = ro
  simp only [↓ex_for, ↓ex_whl, ↓ev_lc, ↓ev_alg, ↓ev_ang, ↓ev_dc, exs, ex, ev, evs, evT, evTs, evO, asgLv, asgT, asgTs, wipe, R.bind_ok, R.bind_exc, R.bind_stuck, up_stuck, R.up_ok, R.up_exc, R.of_some, calm_ok, ok_and, ok_or, ok_andD, ok_orD, bind_ite, up_ite, pm_cf, List.getElem?_cons_zero, List.getElem?_cons_succ, List.set_cons_zero, List.set_cons_succ, List.length_cons, List.length_nil, List.map_cons, List.map_nil, List.nil_append, List.cons_append, Nat.zero_add, Nat.add_zero, rd_non, rd_bl, rd_int, rd_str, rd_tup, rd_lst, rd_dct, rd_scr, rd_own0, rd_own, memGet_own0, memGet_own, memSet_own0, obD, Option.getD_some, Option.bind_some, Option.map_some, isX_non, isX_bl, isX_int, isX_str, isX_tup, isX_lst, isX_dct, isX_ref, isX_scr, le1, ltI, leI, gtI, geI, eqI, neI, eqS, neS, mem1, nmem1, isN, isntN, tru_bl, tru_non, bi_int_int, bi_len_str, bi_len_lst, bi_len_tup, bi_len_dct, bi_len_scr, bin_add_int, bin_sub_int, bmT, bmA, bm_part, bm_find, tyV_tuple, tyV_bool, tyV_str, tyV_int, tyV_list, tyW_str, tyW_int, tyW_tup, tyW_lst, tyW_bl, tyW_non, Bool.not_true, Bool.not_false, Bool.and_true, Bool.true_and, Bool.or_true, Bool.true_or, Bool.and_false, Bool.false_and, Bool.or_false, Bool.false_or, decide_true, decide_false, evF, fsV_str, Nat.reduceAdd, Nat.reduceLT, Nat.reduceSub, Nat.reduceLeDiff, Int.reduceLT, Int.reduceLE, Int.reduceToNat, Int.reduceNeg, Int.reduceMul, Int.reduceAdd, Int.reduceSub, if_true, if_false, ite_true, ite_false, ↓reduceIte, reduceCtorEq, Bool.false_eq_true, walkS_lst, walkS_tup, walkS_str, bcT, bcA, walkE_lst, walkE_tup, walkE_str]
  rw [UN.dc tb_lt tb_nd fun i hi => by
    unfold dcB
    simp only [↓ex_for, ↓ex_whl, ↓ev_lc, ↓ev_alg, ↓ev_ang, ↓ev_dc, exs, ex, ev, evs, evT, evTs, evO, asgLv, asgT, asgTs, wipe, R.bind_ok, R.bind_exc, R.bind_stuck, up_stuck, R.up_ok, R.up_exc, R.of_some, calm_ok, ok_and, ok_or, ok_andD, ok_orD, bind_ite, up_ite, pm_cf, List.getElem?_cons_zero, List.getElem?_cons_succ, List.set_cons_zero, List.set_cons_succ, List.length_cons, List.length_nil, List.map_cons, List.map_nil, List.nil_append, List.cons_append, Nat.zero_add, Nat.add_zero, rd_non, rd_bl, rd_int, rd_str, rd_tup, rd_lst, rd_dct, rd_scr, rd_own0, rd_own, memGet_own0, memGet_own, memSet_own0, obD, Option.getD_some, Option.bind_some, Option.map_some, isX_non, isX_bl, isX_int, isX_str, isX_tup, isX_lst, isX_dct, isX_ref, isX_scr, le1, ltI, leI, gtI, geI, eqI, neI, eqS, neS, mem1, nmem1, isN, isntN, tru_bl, tru_non, bi_int_int, bi_len_str, bi_len_lst, bi_len_tup, bi_len_dct, bi_len_scr, bin_add_int, bin_sub_int, bmT, bmA, bm_part, bm_find, tyV_tuple, tyV_bool, tyV_str, tyV_int, tyV_list, tyW_str, tyW_int, tyW_tup, tyW_lst, tyW_bl, tyW_non, Bool.not_true, Bool.not_false, Bool.and_true, Bool.true_and, Bool.or_true, Bool.true_or, Bool.and_false, Bool.false_and, Bool.or_false, Bool.false_or, decide_true, decide_false, evF, fsV_str, Nat.reduceAdd, Nat.reduceLT, Nat.reduceSub, Nat.reduceLeDiff, Int.reduceLT, Int.reduceLE, Int.reduceToNat, Int.reduceNeg, Int.reduceMul, Int.reduceAdd, Int.reduceSub, if_true, if_false, ite_true, ite_false, ↓reduceIte, reduceCtorEq, Bool.false_eq_true, walkS_lst, walkS_tup, walkS_str, bcT, bcA, walkE_lst, walkE_tup, walkE_str, isXD, kyD]]
  simp only [↓ex_for, ↓ex_whl, ↓ev_lc, ↓ev_alg, ↓ev_ang, ↓ev_dc, exs, ex, ev, evs, evT, evTs, evO, asgLv, asgT, asgTs, wipe, R.bind_ok, R.bind_exc, R.bind_stuck, up_stuck, R.up_ok, R.up_exc, R.of_some, calm_ok, ok_and, ok_or, ok_andD, ok_orD, bind_ite, up_ite, pm_cf, List.getElem?_cons_zero, List.getElem?_cons_succ, List.set_cons_zero, List.set_cons_succ, List.length_cons, List.length_nil, List.map_cons, List.map_nil, List.nil_append, List.cons_append, Nat.zero_add, Nat.add_zero, rd_non, rd_bl, rd_int, rd_str, rd_tup, rd_lst, rd_dct, rd_scr, rd_own0, rd_own, memGet_own0, memGet_own, memSet_own0, obD, Option.getD_some, Option.bind_some, Option.map_some, isX_non, isX_bl, isX_int, isX_str, isX_tup, isX_lst, isX_dct, isX_ref, isX_scr, le1, ltI, leI, gtI, geI, eqI, neI, eqS, neS, mem1, nmem1, isN, isntN, tru_bl, tru_non, bi_int_int, bi_len_str, bi_len_lst, bi_len_tup, bi_len_dct, bi_len_scr, bin_add_int, bin_sub_int, bmT, bmA, bm_part, bm_find, tyV_tuple, tyV_bool, tyV_str, tyV_int, tyV_list, tyW_str, tyW_int, tyW_tup, tyW_lst, tyW_bl, tyW_non, Bool.not_true, Bool.not_false, Bool.and_true, Bool.true_and, Bool.or_true, Bool.true_or, Bool.and_false, Bool.false_and, Bool.or_false, Bool.false_or, decide_true, decide_false, evF, fsV_str, Nat.reduceAdd, Nat.reduceLT, Nat.reduceSub, Nat.reduceLeDiff, Int.reduceLT, Int.reduceLE, Int.reduceToNat, Int.reduceNeg, Int.reduceMul, Int.reduceAdd, Int.reduceSub, if_true, if_false, ite_true, ite_false, ↓reduceIte, reduceCtorEq, Bool.false_eq_true, walkS_lst, walkS_tup, walkS_str, bcT, bcA, walkE_lst, walkE_tup, walkE_str, (at2 _ _).1, (at2 _ _).2]
  rw [allL_map dv _ fun i => !p i]
  · simp only [↓ex_for, ↓ex_whl, ↓ev_lc, ↓ev_alg, ↓ev_ang, ↓ev_dc, exs, ex, ev, evs, evT, evTs, evO, asgLv, asgT, asgTs, wipe, R.bind_ok, R.bind_exc, R.bind_stuck, up_stuck, R.up_ok, R.up_exc, R.of_some, calm_ok, ok_and, ok_or, ok_andD, ok_orD, bind_ite, up_ite, pm_cf, List.getElem?_cons_zero, List.getElem?_cons_succ, List.set_cons_zero, List.set_cons_succ, List.length_cons, List.length_nil, List.map_cons, List.map_nil, List.nil_append, List.cons_append, Nat.zero_add, Nat.add_zero, rd_non, rd_bl, rd_int, rd_str, rd_tup, rd_lst, rd_dct, rd_scr, rd_own0, rd_own, memGet_own0, memGet_own, memSet_own0, obD, Option.getD_some, Option.bind_some, Option.map_some, isX_non, isX_bl, isX_int, isX_str, isX_tup, isX_lst, isX_dct, isX_ref, isX_scr, le1, ltI, leI, gtI, geI, eqI, neI, eqS, neS, mem1, nmem1, isN, isntN, tru_bl, tru_non, bi_int_int, bi_len_str, bi_len_lst, bi_len_tup, bi_len_dct, bi_len_scr, bin_add_int, bin_sub_int, bmT, bmA, bm_part, bm_find, tyV_tuple, tyV_bool, tyV_str, tyV_int, tyV_list, tyW_str, tyW_int, tyW_tup, tyW_lst, tyW_bl, tyW_non, Bool.not_true, Bool.not_false, Bool.and_true, Bool.true_and, Bool.or_true, Bool.true_or, Bool.and_false, Bool.false_and, Bool.or_false, Bool.false_or, decide_true, decide_false, evF, fsV_str, Nat.reduceAdd, Nat.reduceLT, Nat.reduceSub, Nat.reduceLeDiff, Int.reduceLT, Int.reduceLE, Int.reduceToNat, Int.reduceNeg, Int.reduceMul, Int.reduceAdd, Int.reduceSub, if_true, if_false, ite_true, ite_false, ↓reduceIte, reduceCtorEq, Bool.false_eq_true, walkS_lst, walkS_tup, walkS_str, bcT, bcA, walkE_lst, walkE_tup, walkE_str]
    rw [allL_map dv _ fun i => p i]
    · simp only [↓ex_for, ↓ex_whl, ↓ev_lc, ↓ev_alg, ↓ev_ang, ↓ev_dc, exs, ex, ev, evs, evT, evTs, evO, asgLv, asgT, asgTs, wipe, R.bind_ok, R.bind_exc, R.bind_stuck, up_stuck, R.up_ok, R.up_exc, R.of_some, calm_ok, ok_and, ok_or, ok_andD, ok_orD, bind_ite, up_ite, pm_cf, List.getElem?_cons_zero, List.getElem?_cons_succ, List.set_cons_zero, List.set_cons_succ, List.length_cons, List.length_nil, List.map_cons, List.map_nil, List.nil_append, List.cons_append, Nat.zero_add, Nat.add_zero, rd_non, rd_bl, rd_int, rd_str, rd_tup, rd_lst, rd_dct, rd_scr, rd_own0, rd_own, memGet_own0, memGet_own, memSet_own0, obD, Option.getD_some, Option.bind_some, Option.map_some, isX_non, isX_bl, isX_int, isX_str, isX_tup, isX_lst, isX_dct, isX_ref, isX_scr, le1, ltI, leI, gtI, geI, eqI, neI, eqS, neS, mem1, nmem1, isN, isntN, tru_bl, tru_non, bi_int_int, bi_len_str, bi_len_lst, bi_len_tup, bi_len_dct, bi_len_scr, bin_add_int, bin_sub_int, bmT, bmA, bm_part, bm_find, tyV_tuple, tyV_bool, tyV_str, tyV_int, tyV_list, tyW_str, tyW_int, tyW_tup, tyW_lst, tyW_bl, tyW_non, Bool.not_true, Bool.not_false, Bool.and_true, Bool.true_and, Bool.or_true, Bool.true_or, Bool.and_false, Bool.false_and, Bool.or_false, Bool.false_or, decide_true, decide_false, evF, fsV_str, Nat.reduceAdd, Nat.reduceLT, Nat.reduceSub, Nat.reduceLeDiff, Int.reduceLT, Int.reduceLE, Int.reduceToNat, Int.reduceNeg, Int.reduceMul, Int.reduceAdd, Int.reduceSub, if_true, if_false, ite_true, ite_false, ↓reduceIte, reduceCtorEq, Bool.false_eq_true, walkS_lst, walkS_tup, walkS_str, bcT, bcA, walkE_lst, walkE_tup, walkE_str]
      unfold fits
      cases (tb 18 a).all fun i => !p i <;> rfl
    · intro i hi
      unfold gnB
      simp only [↓ex_for, ↓ex_whl, ↓ev_lc, ↓ev_alg, ↓ev_ang, ↓ev_dc, exs, ex, ev, evs, evT, evTs, evO, asgLv, asgT, asgTs, wipe, R.bind_ok, R.bind_exc, R.bind_stuck, up_stuck, R.up_ok, R.up_exc, R.of_some, calm_ok, ok_and, ok_or, ok_andD, ok_orD, bind_ite, up_ite, pm_cf, List.getElem?_cons_zero, List.getElem?_cons_succ, List.set_cons_zero, List.set_cons_succ, List.length_cons, List.length_nil, List.map_cons, List.map_nil, List.nil_append, List.cons_append, Nat.zero_add, Nat.add_zero, rd_non, rd_bl, rd_int, rd_str, rd_tup, rd_lst, rd_dct, rd_scr, rd_own0, rd_own, memGet_own0, memGet_own, memSet_own0, obD, Option.getD_some, Option.bind_some, Option.map_some, isX_non, isX_bl, isX_int, isX_str, isX_tup, isX_lst, isX_dct, isX_ref, isX_scr, le1, ltI, leI, gtI, geI, eqI, neI, eqS, neS, mem1, nmem1, isN, isntN, tru_bl, tru_non, bi_int_int, bi_len_str, bi_len_lst, bi_len_tup, bi_len_dct, bi_len_scr, bin_add_int, bin_sub_int, bmT, bmA, bm_part, bm_find, tyV_tuple, tyV_bool, tyV_str, tyV_int, tyV_list, tyW_str, tyW_int, tyW_tup, tyW_lst, tyW_bl, tyW_non, Bool.not_true, Bool.not_false, Bool.and_true, Bool.true_and, Bool.or_true, Bool.true_or, Bool.and_false, Bool.false_and, Bool.or_false, Bool.false_or, decide_true, decide_false, evF, fsV_str, Nat.reduceAdd, Nat.reduceLT, Nat.reduceSub, Nat.reduceLeDiff, Int.reduceLT, Int.reduceLE, Int.reduceToNat, Int.reduceNeg, Int.reduceMul, Int.reduceAdd, Int.reduceSub, if_true, if_false, ite_true, ite_false, ↓reduceIte, reduceCtorEq, Bool.false_eq_true, walkS_lst, walkS_tup, walkS_str, bcT, bcA, walkE_lst, walkE_tup, walkE_str, isXD, kyD, memT (tb_lt i hi), rdD]
  · intro i hi
    unfold gnB
    simp only [↓ex_for, ↓ex_whl, ↓ev_lc, ↓ev_alg, ↓ev_ang, ↓ev_dc, exs, ex, ev, evs, evT, evTs, evO, asgLv, asgT, asgTs, wipe, R.bind_ok, R.bind_exc, R.bind_stuck, up_stuck, R.up_ok, R.up_exc, R.of_some, calm_ok, ok_and, ok_or, ok_andD, ok_orD, bind_ite, up_ite, pm_cf, List.getElem?_cons_zero, List.getElem?_cons_succ, List.set_cons_zero, List.set_cons_succ, List.length_cons, List.length_nil, List.map_cons, List.map_nil, List.nil_append, List.cons_append, Nat.zero_add, Nat.add_zero, rd_non, rd_bl, rd_int, rd_str, rd_tup, rd_lst, rd_dct, rd_scr, rd_own0, rd_own, memGet_own0, memGet_own, memSet_own0, obD, Option.getD_some, Option.bind_some, Option.map_some, isX_non, isX_bl, isX_int, isX_str, isX_tup, isX_lst, isX_dct, isX_ref, isX_scr, le1, ltI, leI, gtI, geI, eqI, neI, eqS, neS, mem1, nmem1, isN, isntN, tru_bl, tru_non, bi_int_int, bi_len_str, bi_len_lst, bi_len_tup, bi_len_dct, bi_len_scr, bin_add_int, bin_sub_int, bmT, bmA, bm_part, bm_find, tyV_tuple, tyV_bool, tyV_str, tyV_int, tyV_list, tyW_str, tyW_int, tyW_tup, tyW_lst, tyW_bl, tyW_non, Bool.not_true, Bool.not_false, Bool.and_true, Bool.true_and, Bool.or_true, Bool.true_or, Bool.and_false, Bool.false_and, Bool.or_false, Bool.false_or, decide_true, decide_false, evF, fsV_str, Nat.reduceAdd, Nat.reduceLT, Nat.reduceSub, Nat.reduceLeDiff, Int.reduceLT, Int.reduceLE, Int.reduceToNat, Int.reduceNeg, Int.reduceMul, Int.reduceAdd, Int.reduceSub, if_true, if_false, ite_true, ite_false, ↓reduceIte, reduceCtorEq, Bool.false_eq_true, walkS_lst, walkS_tup, walkS_str, bcT, bcA, walkE_lst, walkE_tup, walkE_str, isXD, kyD, nmemT (tb_lt i hi), rdD]
end Av.C
end
section
set_option linter.all false
set_option maxRecDepth 100000
namespace Av.C
theorem call_exc {G : Pg} {n f : Nat} {fd : FD} {ds : List D} {ro m : Mem} {x0 : Xn} (hf : G.fn f = some fd) (hl : ds.length = fd.np) (hp : fd.pure = true) (hx : plains x0.fs = true)
    (hb : ∀ P : Pm, P = G.pm (callF G n) → P.cf = callF G n → (exs P (ro ++ m) fd.body ⟨slots ds fd.ns, []⟩).wp (fun _ _ => False) (fun x _ => x = x0)) :
    callF G (n + 1) f ds ro m = .exc x0 m := by
  have hb := hb _ rfl rfl
  simp only [callF, hf, if_pos hl, hp, if_true]
  revert hb
  generalize exs (G.pm (callF G n)) (ro ++ m) fd.body ⟨slots ds fd.ns, []⟩ = r
  intro hb
  cases r with
  | stuck => exact hb.elim
  | exc x s =>
    have hb : x = x0 := hb
    subst hb
    simp only [endP, hx, if_true]
  | ok fl st => exact hb.elim
theorem sort2 {q1 q2 : Nat → Bool} (h : ∀ i, i < 18 → ¬ (q1 i = true ∧ q2 i = true)) : biV .sorted [.lst ((tb 18 q1).map dv ++ (tb 18 q2).map dv)] = some (tl fun i => q1 i || q2 i) := by
  show sortV _ = _
  rw [← List.map_append, UN.sort fun i hi => by rcases List.mem_append.mp hi with h | h <;> exact tb_lt i h]
  rw [srt_tb (q := fun i => q1 i || q2 i) ?_ ?_]
  · rfl
  · exact List.nodup_append.mpr ⟨tb_nd, tb_nd, fun a ha b hb e => by
      subst e
      exact h a (mem_tb.mp ha).1 ⟨(mem_tb.mp ha).2, (mem_tb.mp hb).2⟩⟩
  · intro i
    rw [List.mem_append, mem_tb, mem_tb]
    simp only [Bool.or_eq_true]
    constructor
    · rintro (⟨a, b⟩ | ⟨a, b⟩)
      · exact ⟨a, .inl b⟩
      · exact ⟨a, .inr b⟩
    · rintro ⟨a, b | b⟩
      · exact .inl ⟨a, b⟩
      · exact .inr ⟨a, b⟩
theorem tb_len (q : Nat → Bool) : (tb 18 q).length ≤ 18 := by
  have := List.length_filter_le q (List.range 18)
  simpa [tb] using this
theorem add2 (q1 q2 : Nat → Bool) : binV .add (.lst ((tb 18 q1).map dv)) (.lst ((tb 18 q2).map dv)) = some (.lst ((tb 18 q1).map dv ++ (tb 18 q2).map dv)) := by
  show (if ((tb 18 q1).map dv).length + ((tb 18 q2).map dv).length ≤ LIM then some (D.lst _) else none) = _
  have := tb_len q1
  have := tb_len q2
  rw [if_pos (by rw [List.length_map, List.length_map]; unfold LIM; omega)]
theorem fits_at {p a b : Nat → Bool} (h : fits p a b = true) {i : Nat} (hi : i < 18) : (a i = true → p i = false) ∧ (b i = true → p i = true) := by
  unfold fits at h
  rw [Bool.and_eq_true, List.all_eq_true, List.all_eq_true] at h
  refine ⟨fun ha => ?_, fun hb => h.2 i (mem_tb.mpr ⟨hi, hb⟩)⟩
  simpa using h.1 i (mem_tb.mpr ⟨hi, ha⟩)
theorem c_applyY (n : Nat) (p a b : Nat → Bool) (ro m : Mem) (hfit : fits p a b = true) : callF g0 (n + 2) 12 [tl p, chg a b] ro m = .ok (tl fun i => (p i && !b i) || a i) m := by
  refine call_wp (fd := ⟨2, 4, true, B12⟩) rfl rfl rfl fun P hP hcf => ?_
  show R.wp (exs P _ B12 ⟨[some (tl p), some (chg a b), none, none], []⟩) _ _
  unfold B12
  generalize ro ++ m = ro
  simp only [↓ex_for, ↓ex_whl, ↓ev_lc, ↓ev_alg, ↓ev_ang, ↓ev_dc, exs, ex, ev, evs, evT, evTs, evO, asgLv, asgT, asgTs, wipe, R.bind_ok, R.bind_exc, R.bind_stuck, up_stuck, R.up_ok, R.up_exc, R.of_some, calm_ok, ok_and, ok_or, ok_andD, ok_orD, bind_ite, up_ite, pm_cf, List.getElem?_cons_zero, List.getElem?_cons_succ, List.set_cons_zero, List.set_cons_succ, List.length_cons, List.length_nil, List.map_cons, List.map_nil, List.nil_append, List.cons_append, Nat.zero_add, Nat.add_zero, rd_non, rd_bl, rd_int, rd_str, rd_tup, rd_lst, rd_dct, rd_scr, rd_own0, rd_own, memGet_own0, memGet_own, memSet_own0, obD, Option.getD_some, Option.bind_some, Option.map_some, isX_non, isX_bl, isX_int, isX_str, isX_tup, isX_lst, isX_dct, isX_ref, isX_scr, le1, ltI, leI, gtI, geI, eqI, neI, eqS, neS, mem1, nmem1, isN, isntN, tru_bl, tru_non, bi_int_int, bi_len_str, bi_len_lst, bi_len_tup, bi_len_dct, bi_len_scr, bin_add_int, bin_sub_int, bmT, bmA, bm_part, bm_find, tyV_tuple, tyV_bool, tyV_str, tyV_int, tyV_list, tyW_str, tyW_int, tyW_tup, tyW_lst, tyW_bl, tyW_non, Bool.not_true, Bool.not_false, Bool.and_true, Bool.true_and, Bool.or_true, Bool.true_or, Bool.and_false, Bool.false_and, Bool.or_false, Bool.false_or, decide_true, decide_false, evF, fsV_str, Nat.reduceAdd, Nat.reduceLT, Nat.reduceSub, Nat.reduceLeDiff, Int.reduceLT, Int.reduceLE, Int.reduceToNat, Int.reduceNeg, Int.reduceMul, Int.reduceAdd, Int.reduceSub, if_true, if_false, ite_true, ite_false, ↓reduceIte, reduceCtorEq, Bool.false_eq_true, walkS_lst, walkS_tup, walkS_str, bcT, bcA, walkE_lst, walkE_tup, walkE_str, hcf, c_applies, hfit]
  unfold chg tl
  simp only [↓ex_for, ↓ex_whl, ↓ev_lc, ↓ev_alg, ↓ev_ang, ↓ev_dc, exs, ex, ev, evs, evT, evTs, evO, asgLv, asgT, asgTs, wipe, R.bind_ok, R.bind_exc, R.bind_stuck, up_stuck, R.up_ok, R.up_exc, R.of_some, calm_ok, ok_and, ok_or, ok_andD, ok_orD, bind_ite, up_ite, pm_cf, List.getElem?_cons_zero, List.getElem?_cons_succ, List.set_cons_zero, List.set_cons_succ, List.length_cons, List.length_nil, List.map_cons, List.map_nil, List.nil_append, List.cons_append, Nat.zero_add, Nat.add_zero, rd_non, rd_bl, rd_int, rd_str, rd_tup, rd_lst, rd_dct, rd_scr, rd_own0, rd_own, memGet_own0, memGet_own, memSet_own0, obD, Option.getD_some, Option.bind_some, Option.map_some, isX_non, isX_bl, isX_int, isX_str, isX_tup, isX_lst, isX_dct, isX_ref, isX_scr, le1, ltI, leI, gtI, geI, eqI, neI, eqS, neS, mem1, nmem1, isN, isntN, tru_bl, tru_non, bi_int_int, bi_len_str, bi_len_lst, bi_len_tup, bi_len_dct, bi_len_scr, bin_add_int, bin_sub_int, bmT, bmA, bm_part, bm_find, tyV_tuple, tyV_bool, tyV_str, tyV_int, tyV_list, tyW_str, tyW_int, tyW_tup, tyW_lst, tyW_bl, tyW_non, Bool.not_true, Bool.not_false, Bool.and_true, Bool.true_and, Bool.or_true, Bool.true_or, Bool.and_false, Bool.false_and, Bool.or_false, Bool.false_or, decide_true, decide_false, evF, fsV_str, Nat.reduceAdd, Nat.reduceLT, Nat.reduceSub, Nat.reduceLeDiff, Int.reduceLT, Int.reduceLE, Int.reduceToNat, Int.reduceNeg, Int.reduceMul, Int.reduceAdd, Int.reduceSub, if_true, if_false, ite_true, ite_false, ↓reduceIte, reduceCtorEq, Bool.false_eq_true, walkS_lst, walkS_tup, walkS_str, bcT, bcA, walkE_lst, walkE_tup, walkE_str, (at2 _ _).1, (at2 _ _).2]
  rw [UN.dc tb_lt tb_nd fun i hi => by
    unfold dcB
    simp only [↓ex_for, ↓ex_whl, ↓ev_lc, ↓ev_alg, ↓ev_ang, ↓ev_dc, exs, ex, ev, evs, evT, evTs, evO, asgLv, asgT, asgTs, wipe, R.bind_ok, R.bind_exc, R.bind_stuck, up_stuck, R.up_ok, R.up_exc, R.of_some, calm_ok, ok_and, ok_or, ok_andD, ok_orD, bind_ite, up_ite, pm_cf, List.getElem?_cons_zero, List.getElem?_cons_succ, List.set_cons_zero, List.set_cons_succ, List.length_cons, List.length_nil, List.map_cons, List.map_nil, List.nil_append, List.cons_append, Nat.zero_add, Nat.add_zero, rd_non, rd_bl, rd_int, rd_str, rd_tup, rd_lst, rd_dct, rd_scr, rd_own0, rd_own, memGet_own0, memGet_own, memSet_own0, obD, Option.getD_some, Option.bind_some, Option.map_some, isX_non, isX_bl, isX_int, isX_str, isX_tup, isX_lst, isX_dct, isX_ref, isX_scr, le1, ltI, leI, gtI, geI, eqI, neI, eqS, neS, mem1, nmem1, isN, isntN, tru_bl, tru_non, bi_int_int, bi_len_str, bi_len_lst, bi_len_tup, bi_len_dct, bi_len_scr, bin_add_int, bin_sub_int, bmT, bmA, bm_part, bm_find, tyV_tuple, tyV_bool, tyV_str, tyV_int, tyV_list, tyW_str, tyW_int, tyW_tup, tyW_lst, tyW_bl, tyW_non, Bool.not_true, Bool.not_false, Bool.and_true, Bool.true_and, Bool.or_true, Bool.true_or, Bool.and_false, Bool.false_and, Bool.or_false, Bool.false_or, decide_true, decide_false, evF, fsV_str, Nat.reduceAdd, Nat.reduceLT, Nat.reduceSub, Nat.reduceLeDiff, Int.reduceLT, Int.reduceLE, Int.reduceToNat, Int.reduceNeg, Int.reduceMul, Int.reduceAdd, Int.reduceSub, if_true, if_false, ite_true, ite_false, ↓reduceIte, reduceCtorEq, Bool.false_eq_true, walkS_lst, walkS_tup, walkS_str, bcT, bcA, walkE_lst, walkE_tup, walkE_str, isXD, kyD]]
  simp only [↓ex_for, ↓ex_whl, ↓ev_lc, ↓ev_alg, ↓ev_ang, ↓ev_dc, exs, ex, ev, evs, evT, evTs, evO, asgLv, asgT, asgTs, wipe, R.bind_ok, R.bind_exc, R.bind_stuck, up_stuck, R.up_ok, R.up_exc, R.of_some, calm_ok, ok_and, ok_or, ok_andD, ok_orD, bind_ite, up_ite, pm_cf, List.getElem?_cons_zero, List.getElem?_cons_succ, List.set_cons_zero, List.set_cons_succ, List.length_cons, List.length_nil, List.map_cons, List.map_nil, List.nil_append, List.cons_append, Nat.zero_add, Nat.add_zero, rd_non, rd_bl, rd_int, rd_str, rd_tup, rd_lst, rd_dct, rd_scr, rd_own0, rd_own, memGet_own0, memGet_own, memSet_own0, obD, Option.getD_some, Option.bind_some, Option.map_some, isX_non, isX_bl, isX_int, isX_str, isX_tup, isX_lst, isX_dct, isX_ref, isX_scr, le1, ltI, leI, gtI, geI, eqI, neI, eqS, neS, mem1, nmem1, isN, isntN, tru_bl, tru_non, bi_int_int, bi_len_str, bi_len_lst, bi_len_tup, bi_len_dct, bi_len_scr, bin_add_int, bin_sub_int, bmT, bmA, bm_part, bm_find, tyV_tuple, tyV_bool, tyV_str, tyV_int, tyV_list, tyW_str, tyW_int, tyW_tup, tyW_lst, tyW_bl, tyW_non, Bool.not_true, Bool.not_false, Bool.and_true, Bool.true_and, Bool.or_true, Bool.true_or, Bool.and_false, Bool.false_and, Bool.or_false, Bool.false_or, decide_true, decide_false, evF, fsV_str, Nat.reduceAdd, Nat.reduceLT, Nat.reduceSub, Nat.reduceLeDiff, Int.reduceLT, Int.reduceLE, Int.reduceToNat, Int.reduceNeg, Int.reduceMul, Int.reduceAdd, Int.reduceSub, if_true, if_false, ite_true, ite_false, ↓reduceIte, reduceCtorEq, Bool.false_eq_true, walkS_lst, walkS_tup, walkS_str, bcT, bcA, walkE_lst, walkE_tup, walkE_str, (at2 _ _).1, (at2 _ _).2]
  rw [lcL_map dv _ (fun i => if !b i then some (dv i) else none)]
  · simp only [↓ex_for, ↓ex_whl, ↓ev_lc, ↓ev_alg, ↓ev_ang, ↓ev_dc, exs, ex, ev, evs, evT, evTs, evO, asgLv, asgT, asgTs, wipe, R.bind_ok, R.bind_exc, R.bind_stuck, up_stuck, R.up_ok, R.up_exc, R.of_some, calm_ok, ok_and, ok_or, ok_andD, ok_orD, bind_ite, up_ite, pm_cf, List.getElem?_cons_zero, List.getElem?_cons_succ, List.set_cons_zero, List.set_cons_succ, List.length_cons, List.length_nil, List.map_cons, List.map_nil, List.nil_append, List.cons_append, Nat.zero_add, Nat.add_zero, rd_non, rd_bl, rd_int, rd_str, rd_tup, rd_lst, rd_dct, rd_scr, rd_own0, rd_own, memGet_own0, memGet_own, memSet_own0, obD, Option.getD_some, Option.bind_some, Option.map_some, isX_non, isX_bl, isX_int, isX_str, isX_tup, isX_lst, isX_dct, isX_ref, isX_scr, le1, ltI, leI, gtI, geI, eqI, neI, eqS, neS, mem1, nmem1, isN, isntN, tru_bl, tru_non, bi_int_int, bi_len_str, bi_len_lst, bi_len_tup, bi_len_dct, bi_len_scr, bin_add_int, bin_sub_int, bmT, bmA, bm_part, bm_find, tyV_tuple, tyV_bool, tyV_str, tyV_int, tyV_list, tyW_str, tyW_int, tyW_tup, tyW_lst, tyW_bl, tyW_non, Bool.not_true, Bool.not_false, Bool.and_true, Bool.true_and, Bool.or_true, Bool.true_or, Bool.and_false, Bool.false_and, Bool.or_false, Bool.false_or, decide_true, decide_false, evF, fsV_str, Nat.reduceAdd, Nat.reduceLT, Nat.reduceSub, Nat.reduceLeDiff, Int.reduceLT, Int.reduceLE, Int.reduceToNat, Int.reduceNeg, Int.reduceMul, Int.reduceAdd, Int.reduceSub, if_true, if_false, ite_true, ite_false, ↓reduceIte, reduceCtorEq, Bool.false_eq_true, walkS_lst, walkS_tup, walkS_str, bcT, bcA, walkE_lst, walkE_tup, walkE_str, (at2 _ _).1, (at2 _ _).2]
    rw [fm_tb fun _ _ => rfl]
    simp only [↓ex_for, ↓ex_whl, ↓ev_lc, ↓ev_alg, ↓ev_ang, ↓ev_dc, exs, ex, ev, evs, evT, evTs, evO, asgLv, asgT, asgTs, wipe, R.bind_ok, R.bind_exc, R.bind_stuck, up_stuck, R.up_ok, R.up_exc, R.of_some, calm_ok, ok_and, ok_or, ok_andD, ok_orD, bind_ite, up_ite, pm_cf, List.getElem?_cons_zero, List.getElem?_cons_succ, List.set_cons_zero, List.set_cons_succ, List.length_cons, List.length_nil, List.map_cons, List.map_nil, List.nil_append, List.cons_append, Nat.zero_add, Nat.add_zero, rd_non, rd_bl, rd_int, rd_str, rd_tup, rd_lst, rd_dct, rd_scr, rd_own0, rd_own, memGet_own0, memGet_own, memSet_own0, obD, Option.getD_some, Option.bind_some, Option.map_some, isX_non, isX_bl, isX_int, isX_str, isX_tup, isX_lst, isX_dct, isX_ref, isX_scr, le1, ltI, leI, gtI, geI, eqI, neI, eqS, neS, mem1, nmem1, isN, isntN, tru_bl, tru_non, bi_int_int, bi_len_str, bi_len_lst, bi_len_tup, bi_len_dct, bi_len_scr, bin_add_int, bin_sub_int, bmT, bmA, bm_part, bm_find, tyV_tuple, tyV_bool, tyV_str, tyV_int, tyV_list, tyW_str, tyW_int, tyW_tup, tyW_lst, tyW_bl, tyW_non, Bool.not_true, Bool.not_false, Bool.and_true, Bool.true_and, Bool.or_true, Bool.true_or, Bool.and_false, Bool.false_and, Bool.or_false, Bool.false_or, decide_true, decide_false, evF, fsV_str, Nat.reduceAdd, Nat.reduceLT, Nat.reduceSub, Nat.reduceLeDiff, Int.reduceLT, Int.reduceLE, Int.reduceToNat, Int.reduceNeg, Int.reduceMul, Int.reduceAdd, Int.reduceSub, if_true, if_false, ite_true, ite_false, ↓reduceIte, reduceCtorEq, Bool.false_eq_true, walkS_lst, walkS_tup, walkS_str, bcT, bcA, walkE_lst, walkE_tup, walkE_str, listL, add2]
    rw [sort2 fun i hi z => by
      have := (fits_at hfit hi).1 z.2
      have z := z.1
      simp [this] at z]
    simp only [↓ex_for, ↓ex_whl, ↓ev_lc, ↓ev_alg, ↓ev_ang, ↓ev_dc, exs, ex, ev, evs, evT, evTs, evO, asgLv, asgT, asgTs, wipe, R.bind_ok, R.bind_exc, R.bind_stuck, up_stuck, R.up_ok, R.up_exc, R.of_some, calm_ok, ok_and, ok_or, ok_andD, ok_orD, bind_ite, up_ite, pm_cf, List.getElem?_cons_zero, List.getElem?_cons_succ, List.set_cons_zero, List.set_cons_succ, List.length_cons, List.length_nil, List.map_cons, List.map_nil, List.nil_append, List.cons_append, Nat.zero_add, Nat.add_zero, rd_non, rd_bl, rd_int, rd_str, rd_tup, rd_lst, rd_dct, rd_scr, rd_own0, rd_own, memGet_own0, memGet_own, memSet_own0, obD, Option.getD_some, Option.bind_some, Option.map_some, isX_non, isX_bl, isX_int, isX_str, isX_tup, isX_lst, isX_dct, isX_ref, isX_scr, le1, ltI, leI, gtI, geI, eqI, neI, eqS, neS, mem1, nmem1, isN, isntN, tru_bl, tru_non, bi_int_int, bi_len_str, bi_len_lst, bi_len_tup, bi_len_dct, bi_len_scr, bin_add_int, bin_sub_int, bmT, bmA, bm_part, bm_find, tyV_tuple, tyV_bool, tyV_str, tyV_int, tyV_list, tyW_str, tyW_int, tyW_tup, tyW_lst, tyW_bl, tyW_non, Bool.not_true, Bool.not_false, Bool.and_true, Bool.true_and, Bool.or_true, Bool.true_or, Bool.and_false, Bool.false_and, Bool.or_false, Bool.false_or, decide_true, decide_false, evF, fsV_str, Nat.reduceAdd, Nat.reduceLT, Nat.reduceSub, Nat.reduceLeDiff, Int.reduceLT, Int.reduceLE, Int.reduceToNat, Int.reduceNeg, Int.reduceMul, Int.reduceAdd, Int.reduceSub, if_true, if_false, ite_true, ite_false, ↓reduceIte, reduceCtorEq, Bool.false_eq_true, walkS_lst, walkS_tup, walkS_str, bcT, bcA, walkE_lst, walkE_tup, walkE_str]
    exact xp_plain _ _ _ (UN.plains tb_lt)
  · intro i hi
    unfold lcB
    simp only [↓ex_for, ↓ex_whl, ↓ev_lc, ↓ev_alg, ↓ev_ang, ↓ev_dc, exs, ex, ev, evs, evT, evTs, evO, asgLv, asgT, asgTs, wipe, R.bind_ok, R.bind_exc, R.bind_stuck, up_stuck, R.up_ok, R.up_exc, R.of_some, calm_ok, ok_and, ok_or, ok_andD, ok_orD, bind_ite, up_ite, pm_cf, List.getElem?_cons_zero, List.getElem?_cons_succ, List.set_cons_zero, List.set_cons_succ, List.length_cons, List.length_nil, List.map_cons, List.map_nil, List.nil_append, List.cons_append, Nat.zero_add, Nat.add_zero, rd_non, rd_bl, rd_int, rd_str, rd_tup, rd_lst, rd_dct, rd_scr, rd_own0, rd_own, memGet_own0, memGet_own, memSet_own0, obD, Option.getD_some, Option.bind_some, Option.map_some, isX_non, isX_bl, isX_int, isX_str, isX_tup, isX_lst, isX_dct, isX_ref, isX_scr, le1, ltI, leI, gtI, geI, eqI, neI, eqS, neS, mem1, nmem1, isN, isntN, tru_bl, tru_non, bi_int_int, bi_len_str, bi_len_lst, bi_len_tup, bi_len_dct, bi_len_scr, bin_add_int, bin_sub_int, bmT, bmA, bm_part, bm_find, tyV_tuple, tyV_bool, tyV_str, tyV_int, tyV_list, tyW_str, tyW_int, tyW_tup, tyW_lst, tyW_bl, tyW_non, Bool.not_true, Bool.not_false, Bool.and_true, Bool.true_and, Bool.or_true, Bool.true_or, Bool.and_false, Bool.false_and, Bool.or_false, Bool.false_or, decide_true, decide_false, evF, fsV_str, Nat.reduceAdd, Nat.reduceLT, Nat.reduceSub, Nat.reduceLeDiff, Int.reduceLT, Int.reduceLE, Int.reduceToNat, Int.reduceNeg, Int.reduceMul, Int.reduceAdd, Int.reduceSub, if_true, if_false, ite_true, ite_false, ↓reduceIte, reduceCtorEq, Bool.false_eq_true, walkS_lst, walkS_tup, walkS_str, bcT, bcA, walkE_lst, walkE_tup, walkE_str, isXD, kyD, nmemT (tb_lt i hi), rdD]
    cases b i <;> rfl
def msgA : Tx := [99, 104, 97, 110, 103, 101, 32, 100, 111, 101, 115, 32, 110, 111, 116, 32, 97, 112, 112, 108, 121]
def msgC : Tx := [99, 104, 97, 110, 103, 101, 115, 32, 100, 111, 32, 110, 111, 116, 32, 99, 111, 109, 112, 111, 115, 101]
theorem c_applyN (n : Nat) (p a b : Nat → Bool) (ro m : Mem) (hfit : fits p a b = false) : callF g0 (n + 2) 12 [tl p, chg a b] ro m = .exc ⟨1, [.str msgA, .int (-1)]⟩ m := by
  refine call_exc (fd := ⟨2, 4, true, B12⟩) rfl rfl rfl rfl fun P hP hcf => ?_
  show R.wp (exs P _ B12 ⟨[some (tl p), some (chg a b), none, none], []⟩) _ _
  have hxm : P.xm 1 = some XM1 := by rw [hP]; rfl
  unfold B12
  generalize ro ++ m = ro
  simp only [↓ex_for, ↓ex_whl, ↓ev_lc, ↓ev_alg, ↓ev_ang, ↓ev_dc, exs, ex, ev, evs, evT, evTs, evO, asgLv, asgT, asgTs, wipe, R.bind_ok, R.bind_exc, R.bind_stuck, up_stuck, R.up_ok, R.up_exc, R.of_some, calm_ok, ok_and, ok_or, ok_andD, ok_orD, bind_ite, up_ite, pm_cf, List.getElem?_cons_zero, List.getElem?_cons_succ, List.set_cons_zero, List.set_cons_succ, List.length_cons, List.length_nil, List.map_cons, List.map_nil, List.nil_append, List.cons_append, Nat.zero_add, Nat.add_zero, rd_non, rd_bl, rd_int, rd_str, rd_tup, rd_lst, rd_dct, rd_scr, rd_own0, rd_own, memGet_own0, memGet_own, memSet_own0, obD, Option.getD_some, Option.bind_some, Option.map_some, isX_non, isX_bl, isX_int, isX_str, isX_tup, isX_lst, isX_dct, isX_ref, isX_scr, le1, ltI, leI, gtI, geI, eqI, neI, eqS, neS, mem1, nmem1, isN, isntN, tru_bl, tru_non, bi_int_int, bi_len_str, bi_len_lst, bi_len_tup, bi_len_dct, bi_len_scr, bin_add_int, bin_sub_int, bmT, bmA, bm_part, bm_find, tyV_tuple, tyV_bool, tyV_str, tyV_int, tyV_list, tyW_str, tyW_int, tyW_tup, tyW_lst, tyW_bl, tyW_non, Bool.not_true, Bool.not_false, Bool.and_true, Bool.true_and, Bool.or_true, Bool.true_or, Bool.and_false, Bool.false_and, Bool.or_false, Bool.false_or, decide_true, decide_false, evF, fsV_str, Nat.reduceAdd, Nat.reduceLT, Nat.reduceSub, Nat.reduceLeDiff, Int.reduceLT, Int.reduceLE, Int.reduceToNat, Int.reduceNeg, Int.reduceMul, Int.reduceAdd, Int.reduceSub, if_true, if_false, ite_true, ite_false, ↓reduceIte, reduceCtorEq, Bool.false_eq_true, walkS_lst, walkS_tup, walkS_str, bcT, bcA, walkE_lst, walkE_tup, walkE_str, hcf, c_applies, hfit, hxm]
  unfold XM1
  simp only [↓ex_for, ↓ex_whl, ↓ev_lc, ↓ev_alg, ↓ev_ang, ↓ev_dc, exs, ex, ev, evs, evT, evTs, evO, asgLv, asgT, asgTs, wipe, R.bind_ok, R.bind_exc, R.bind_stuck, up_stuck, R.up_ok, R.up_exc, R.of_some, calm_ok, ok_and, ok_or, ok_andD, ok_orD, bind_ite, up_ite, pm_cf, List.getElem?_cons_zero, List.getElem?_cons_succ, List.set_cons_zero, List.set_cons_succ, List.length_cons, List.length_nil, List.map_cons, List.map_nil, List.nil_append, List.cons_append, Nat.zero_add, Nat.add_zero, rd_non, rd_bl, rd_int, rd_str, rd_tup, rd_lst, rd_dct, rd_scr, rd_own0, rd_own, memGet_own0, memGet_own, memSet_own0, obD, Option.getD_some, Option.bind_some, Option.map_some, isX_non, isX_bl, isX_int, isX_str, isX_tup, isX_lst, isX_dct, isX_ref, isX_scr, le1, ltI, leI, gtI, geI, eqI, neI, eqS, neS, mem1, nmem1, isN, isntN, tru_bl, tru_non, bi_int_int, bi_len_str, bi_len_lst, bi_len_tup, bi_len_dct, bi_len_scr, bin_add_int, bin_sub_int, bmT, bmA, bm_part, bm_find, tyV_tuple, tyV_bool, tyV_str, tyV_int, tyV_list, tyW_str, tyW_int, tyW_tup, tyW_lst, tyW_bl, tyW_non, Bool.not_true, Bool.not_false, Bool.and_true, Bool.true_and, Bool.or_true, Bool.true_or, Bool.and_false, Bool.false_and, Bool.or_false, Bool.false_or, decide_true, decide_false, evF, fsV_str, Nat.reduceAdd, Nat.reduceLT, Nat.reduceSub, Nat.reduceLeDiff, Int.reduceLT, Int.reduceLE, Int.reduceToNat, Int.reduceNeg, Int.reduceMul, Int.reduceAdd, Int.reduceSub, if_true, if_false, ite_true, ite_false, ↓reduceIte, reduceCtorEq, Bool.false_eq_true, walkS_lst, walkS_tup, walkS_str, bcT, bcA, walkE_lst, walkE_tup, walkE_str, R.still, hxm]
  rfl
end Av.C
end
section
set_option linter.all false
set_option maxRecDepth 100000
namespace Av.C
def apart (a b : Nat → Bool) : Bool := (tb 18 a).all fun i => !b i
theorem apart_at {a b : Nat → Bool} (h : apart a b = true) {i : Nat} (hi : i < 18) : ¬ (a i = true ∧ b i = true) := by
  rintro ⟨h1, h2⟩
  unfold apart at h
  have := List.all_eq_true.mp h i (mem_tb.mpr ⟨hi, h1⟩)
  simp [h2] at this
theorem apart_eq (a b : Nat → Bool) : decide ((tb 18 fun i => a i && !b i) = tb 18 a) = apart a b := by
  unfold apart
  rw [Bool.eq_iff_iff, decide_eq_true_iff, tb_ext, List.all_eq_true]
  constructor
  · intro h i hi
    have := h i (mem_tb.mp hi).1
    rw [(mem_tb.mp hi).2] at this
    simpa using this
  · intro h i hi
    cases ha : a i with
    | false => rfl
    | true =>
      have := h i (mem_tb.mpr ⟨hi, ha⟩)
      simpa using this
theorem neT (a b : Nat → Bool) (ro m : Mem) : cmpV ro m .ne (tl fun i => a i && !b i) (.lst ((tb 18 a).map dv)) = some (!apart a b) := by
  unfold tl
  rw [UN.neL tb_lt tb_lt, apart_eq]
theorem addT (p q : Nat → Bool) : binV .add (tl p) (tl q) = some (.lst ((tb 18 p).map dv ++ (tb 18 q).map dv)) := add2 p q
theorem listT (p : Nat → Bool) : biV .list [tl p] = some (.lst ((tb 18 p).map dv)) := rfl
theorem at2T (a b : Nat → Bool) : atV (chg a b) (.int 0) = some (tl a) ∧ atV (chg a b) (.int 1) = some (tl b) := ⟨rfl, rfl⟩
theorem rdT (ro m : Mem) (p : Nat → Bool) : rd ro m (tl p) = tl p := rfl
theorem rdC (ro m : Mem) (p q : Nat → Bool) : rd ro m (chg p q) = chg p q := rfl
theorem isXT (p : Nat → Bool) : isX (tl p) = false := rfl
theorem isXC (p q : Nat → Bool) : isX (chg p q) = false := rfl
theorem plC (p q : Nat → Bool) : plain (chg p q) = true := by
  show (plains _ && (plains _ && true)) = true
  rw [UN.plains tb_lt, UN.plains tb_lt]; rfl
theorem plT (p : Nat → Bool) : plain (tl p) = true := UN.plains tb_lt
def cmpG (a1 a2 b1 b2 : Nat → Bool) : Nat → Bool := fun i => (a1 i && !b2 i) || (b1 i && !a2 i)
theorem c_composeY (n : Nat) (a0 a1 b0 b1 : Nat → Bool) (ro m : Mem) (h0 : apart a0 b0 = true) (h1 : apart a1 b1 = true) : callF g0 (n + 2) 14 [chg a0 a1, chg b0 b1] ro m = .ok (chg (cmpG a0 a1 b0 b1) (cmpG a1 a0 b1 b0)) m := by
  refine call_wp (fd := ⟨2, 4, true, B14⟩) rfl rfl rfl fun P hP hcf => ?_
  show R.wp (exs P _ B14 ⟨[some (chg a0 a1), some (chg b0 b1), none, none], []⟩) _ _
  unfold B14
  generalize ro ++ m = ro
  simp only [↓ex_for, ↓ex_whl, ↓ev_lc, ↓ev_alg, ↓ev_ang, ↓ev_dc, exs, ex, ev, evs, evT, evTs, evO, asgLv, asgT, asgTs, wipe, R.bind_ok, R.bind_exc, R.bind_stuck, up_stuck, R.up_ok, R.up_exc, R.of_some, calm_ok, ok_and, ok_or, ok_andD, ok_orD, bind_ite, up_ite, pm_cf, List.getElem?_cons_zero, List.getElem?_cons_succ, List.set_cons_zero, List.set_cons_succ, List.length_cons, List.length_nil, List.map_cons, List.map_nil, List.nil_append, List.cons_append, Nat.zero_add, Nat.add_zero, rd_non, rd_bl, rd_int, rd_str, rd_tup, rd_lst, rd_dct, rd_scr, rd_own0, rd_own, memGet_own0, memGet_own, memSet_own0, obD, Option.getD_some, Option.bind_some, Option.map_some, isX_non, isX_bl, isX_int, isX_str, isX_tup, isX_lst, isX_dct, isX_ref, isX_scr, le1, ltI, leI, gtI, geI, eqI, neI, eqS, neS, mem1, nmem1, isN, isntN, tru_bl, tru_non, bi_int_int, bi_len_str, bi_len_lst, bi_len_tup, bi_len_dct, bi_len_scr, bin_add_int, bin_sub_int, bmT, bmA, bm_part, bm_find, tyV_tuple, tyV_bool, tyV_str, tyV_int, tyV_list, tyW_str, tyW_int, tyW_tup, tyW_lst, tyW_bl, tyW_non, Bool.not_true, Bool.not_false, Bool.and_true, Bool.true_and, Bool.or_true, Bool.true_or, Bool.and_false, Bool.false_and, Bool.or_false, Bool.false_or, decide_true, decide_false, evF, fsV_str, Nat.reduceAdd, Nat.reduceLT, Nat.reduceSub, Nat.reduceLeDiff, Int.reduceLT, Int.reduceLE, Int.reduceToNat, Int.reduceNeg, Int.reduceMul, Int.reduceAdd, Int.reduceSub, if_true, if_false, ite_true, ite_false, ↓reduceIte, reduceCtorEq, Bool.false_eq_true, walkS_lst, walkS_tup, walkS_str, bcT, bcA, walkE_lst, walkE_tup, walkE_str, rdC, rdT, (at2T _ _).1, (at2T _ _).2, hcf, c_without, listT, neT, h0, h1, addT]
  rw [sort2 fun i hi z => apart_at h0 hi (by have h := z.1; have h' := z.2; rw [Bool.and_eq_true] at h h'; exact ⟨h.1, h'.1⟩), sort2 fun i hi z => apart_at h1 hi (by have h := z.1; have h' := z.2; rw [Bool.and_eq_true] at h h'; exact ⟨h.1, h'.1⟩)]
  simp only [↓ex_for, ↓ex_whl, ↓ev_lc, ↓ev_alg, ↓ev_ang, ↓ev_dc, exs, ex, ev, evs, evT, evTs, evO, asgLv, asgT, asgTs, wipe, R.bind_ok, R.bind_exc, R.bind_stuck, up_stuck, R.up_ok, R.up_exc, R.of_some, calm_ok, ok_and, ok_or, ok_andD, ok_orD, bind_ite, up_ite, pm_cf, List.getElem?_cons_zero, List.getElem?_cons_succ, List.set_cons_zero, List.set_cons_succ, List.length_cons, List.length_nil, List.map_cons, List.map_nil, List.nil_append, List.cons_append, Nat.zero_add, Nat.add_zero, rd_non, rd_bl, rd_int, rd_str, rd_tup, rd_lst, rd_dct, rd_scr, rd_own0, rd_own, memGet_own0, memGet_own, memSet_own0, obD, Option.getD_some, Option.bind_some, Option.map_some, isX_non, isX_bl, isX_int, isX_str, isX_tup, isX_lst, isX_dct, isX_ref, isX_scr, le1, ltI, leI, gtI, geI, eqI, neI, eqS, neS, mem1, nmem1, isN, isntN, tru_bl, tru_non, bi_int_int, bi_len_str, bi_len_lst, bi_len_tup, bi_len_dct, bi_len_scr, bin_add_int, bin_sub_int, bmT, bmA, bm_part, bm_find, tyV_tuple, tyV_bool, tyV_str, tyV_int, tyV_list, tyW_str, tyW_int, tyW_tup, tyW_lst, tyW_bl, tyW_non, Bool.not_true, Bool.not_false, Bool.and_true, Bool.true_and, Bool.or_true, Bool.true_or, Bool.and_false, Bool.false_and, Bool.or_false, Bool.false_or, decide_true, decide_false, evF, fsV_str, Nat.reduceAdd, Nat.reduceLT, Nat.reduceSub, Nat.reduceLeDiff, Int.reduceLT, Int.reduceLE, Int.reduceToNat, Int.reduceNeg, Int.reduceMul, Int.reduceAdd, Int.reduceSub, if_true, if_false, ite_true, ite_false, ↓reduceIte, reduceCtorEq, Bool.false_eq_true, walkS_lst, walkS_tup, walkS_str, bcT, bcA, walkE_lst, walkE_tup, walkE_str]
  exact xp_plain _ _ _ (plC _ _)
theorem c_composeN (n : Nat) (a0 a1 b0 b1 : Nat → Bool) (ro m : Mem) (h : (apart a0 b0 && apart a1 b1) = false) : callF g0 (n + 2) 14 [chg a0 a1, chg b0 b1] ro m = .exc ⟨1, [.str msgC, .int (-1)]⟩ m := by
  refine call_exc (fd := ⟨2, 4, true, B14⟩) rfl rfl rfl rfl fun P hP hcf => ?_
  show R.wp (exs P _ B14 ⟨[some (chg a0 a1), some (chg b0 b1), none, none], []⟩) _ _
  have hxm : P.xm 1 = some XM1 := by rw [hP]; rfl
  unfold B14
  generalize ro ++ m = ro
  cases h0 : apart a0 b0 with
  | false =>
    simp only [↓ex_for, ↓ex_whl, ↓ev_lc, ↓ev_alg, ↓ev_ang, ↓ev_dc, exs, ex, ev, evs, evT, evTs, evO, asgLv, asgT, asgTs, wipe, R.bind_ok, R.bind_exc, R.bind_stuck, up_stuck, R.up_ok, R.up_exc, R.of_some, calm_ok, ok_and, ok_or, ok_andD, ok_orD, bind_ite, up_ite, pm_cf, List.getElem?_cons_zero, List.getElem?_cons_succ, List.set_cons_zero, List.set_cons_succ, List.length_cons, List.length_nil, List.map_cons, List.map_nil, List.nil_append, List.cons_append, Nat.zero_add, Nat.add_zero, rd_non, rd_bl, rd_int, rd_str, rd_tup, rd_lst, rd_dct, rd_scr, rd_own0, rd_own, memGet_own0, memGet_own, memSet_own0, obD, Option.getD_some, Option.bind_some, Option.map_some, isX_non, isX_bl, isX_int, isX_str, isX_tup, isX_lst, isX_dct, isX_ref, isX_scr, le1, ltI, leI, gtI, geI, eqI, neI, eqS, neS, mem1, nmem1, isN, isntN, tru_bl, tru_non, bi_int_int, bi_len_str, bi_len_lst, bi_len_tup, bi_len_dct, bi_len_scr, bin_add_int, bin_sub_int, bmT, bmA, bm_part, bm_find, tyV_tuple, tyV_bool, tyV_str, tyV_int, tyV_list, tyW_str, tyW_int, tyW_tup, tyW_lst, tyW_bl, tyW_non, Bool.not_true, Bool.not_false, Bool.and_true, Bool.true_and, Bool.or_true, Bool.true_or, Bool.and_false, Bool.false_and, Bool.or_false, Bool.false_or, decide_true, decide_false, evF, fsV_str, Nat.reduceAdd, Nat.reduceLT, Nat.reduceSub, Nat.reduceLeDiff, Int.reduceLT, Int.reduceLE, Int.reduceToNat, Int.reduceNeg, Int.reduceMul, Int.reduceAdd, Int.reduceSub, if_true, if_false, ite_true, ite_false, ↓reduceIte, reduceCtorEq, Bool.false_eq_true, walkS_lst, walkS_tup, walkS_str, bcT, bcA, walkE_lst, walkE_tup, walkE_str, rdC, rdT, (at2T _ _).1, (at2T _ _).2, hcf, c_without, listT, neT, h0, addT, hxm]
    unfold XM1
    simp only [↓ex_for, ↓ex_whl, ↓ev_lc, ↓ev_alg, ↓ev_ang, ↓ev_dc, exs, ex, ev, evs, evT, evTs, evO, asgLv, asgT, asgTs, wipe, R.bind_ok, R.bind_exc, R.bind_stuck, up_stuck, R.up_ok, R.up_exc, R.of_some, calm_ok, ok_and, ok_or, ok_andD, ok_orD, bind_ite, up_ite, pm_cf, List.getElem?_cons_zero, List.getElem?_cons_succ, List.set_cons_zero, List.set_cons_succ, List.length_cons, List.length_nil, List.map_cons, List.map_nil, List.nil_append, List.cons_append, Nat.zero_add, Nat.add_zero, rd_non, rd_bl, rd_int, rd_str, rd_tup, rd_lst, rd_dct, rd_scr, rd_own0, rd_own, memGet_own0, memGet_own, memSet_own0, obD, Option.getD_some, Option.bind_some, Option.map_some, isX_non, isX_bl, isX_int, isX_str, isX_tup, isX_lst, isX_dct, isX_ref, isX_scr, le1, ltI, leI, gtI, geI, eqI, neI, eqS, neS, mem1, nmem1, isN, isntN, tru_bl, tru_non, bi_int_int, bi_len_str, bi_len_lst, bi_len_tup, bi_len_dct, bi_len_scr, bin_add_int, bin_sub_int, bmT, bmA, bm_part, bm_find, tyV_tuple, tyV_bool, tyV_str, tyV_int, tyV_list, tyW_str, tyW_int, tyW_tup, tyW_lst, tyW_bl, tyW_non, Bool.not_true, Bool.not_false, Bool.and_true, Bool.true_and, Bool.or_true, Bool.true_or, Bool.and_false, Bool.false_and, Bool.or_false, Bool.false_or, decide_true, decide_false, evF, fsV_str, Nat.reduceAdd, Nat.reduceLT, Nat.reduceSub, Nat.reduceLeDiff, Int.reduceLT, Int.reduceLE, Int.reduceToNat, Int.reduceNeg, Int.reduceMul, Int.reduceAdd, Int.reduceSub, if_true, if_false, ite_true, ite_false, ↓reduceIte, reduceCtorEq, Bool.false_eq_true, walkS_lst, walkS_tup, walkS_str, bcT, bcA, walkE_lst, walkE_tup, walkE_str, R.still, hxm]
    rfl
  | true =>
    rw [h0, Bool.true_and] at h
    simp only [↓ex_for, ↓ex_whl, ↓ev_lc, ↓ev_alg, ↓ev_ang, ↓ev_dc, exs, ex, ev, evs, evT, evTs, evO, asgLv, asgT, asgTs, wipe, R.bind_ok, R.bind_exc, R.bind_stuck, up_stuck, R.up_ok, R.up_exc, R.of_some, calm_ok, ok_and, ok_or, ok_andD, ok_orD, bind_ite, up_ite, pm_cf, List.getElem?_cons_zero, List.getElem?_cons_succ, List.set_cons_zero, List.set_cons_succ, List.length_cons, List.length_nil, List.map_cons, List.map_nil, List.nil_append, List.cons_append, Nat.zero_add, Nat.add_zero, rd_non, rd_bl, rd_int, rd_str, rd_tup, rd_lst, rd_dct, rd_scr, rd_own0, rd_own, memGet_own0, memGet_own, memSet_own0, obD, Option.getD_some, Option.bind_some, Option.map_some, isX_non, isX_bl, isX_int, isX_str, isX_tup, isX_lst, isX_dct, isX_ref, isX_scr, le1, ltI, leI, gtI, geI, eqI, neI, eqS, neS, mem1, nmem1, isN, isntN, tru_bl, tru_non, bi_int_int, bi_len_str, bi_len_lst, bi_len_tup, bi_len_dct, bi_len_scr, bin_add_int, bin_sub_int, bmT, bmA, bm_part, bm_find, tyV_tuple, tyV_bool, tyV_str, tyV_int, tyV_list, tyW_str, tyW_int, tyW_tup, tyW_lst, tyW_bl, tyW_non, Bool.not_true, Bool.not_false, Bool.and_true, Bool.true_and, Bool.or_true, Bool.true_or, Bool.and_false, Bool.false_and, Bool.or_false, Bool.false_or, decide_true, decide_false, evF, fsV_str, Nat.reduceAdd, Nat.reduceLT, Nat.reduceSub, Nat.reduceLeDiff, Int.reduceLT, Int.reduceLE, Int.reduceToNat, Int.reduceNeg, Int.reduceMul, Int.reduceAdd, Int.reduceSub, if_true, if_false, ite_true, ite_false, ↓reduceIte, reduceCtorEq, Bool.false_eq_true, walkS_lst, walkS_tup, walkS_str, bcT, bcA, walkE_lst, walkE_tup, walkE_str, rdC, rdT, (at2T _ _).1, (at2T _ _).2, hcf, c_without, listT, neT, h0, h, addT, hxm]
    unfold XM1
    simp only [↓ex_for, ↓ex_whl, ↓ev_lc, ↓ev_alg, ↓ev_ang, ↓ev_dc, exs, ex, ev, evs, evT, evTs, evO, asgLv, asgT, asgTs, wipe, R.bind_ok, R.bind_exc, R.bind_stuck, up_stuck, R.up_ok, R.up_exc, R.of_some, calm_ok, ok_and, ok_or, ok_andD, ok_orD, bind_ite, up_ite, pm_cf, List.getElem?_cons_zero, List.getElem?_cons_succ, List.set_cons_zero, List.set_cons_succ, List.length_cons, List.length_nil, List.map_cons, List.map_nil, List.nil_append, List.cons_append, Nat.zero_add, Nat.add_zero, rd_non, rd_bl, rd_int, rd_str, rd_tup, rd_lst, rd_dct, rd_scr, rd_own0, rd_own, memGet_own0, memGet_own, memSet_own0, obD, Option.getD_some, Option.bind_some, Option.map_some, isX_non, isX_bl, isX_int, isX_str, isX_tup, isX_lst, isX_dct, isX_ref, isX_scr, le1, ltI, leI, gtI, geI, eqI, neI, eqS, neS, mem1, nmem1, isN, isntN, tru_bl, tru_non, bi_int_int, bi_len_str, bi_len_lst, bi_len_tup, bi_len_dct, bi_len_scr, bin_add_int, bin_sub_int, bmT, bmA, bm_part, bm_find, tyV_tuple, tyV_bool, tyV_str, tyV_int, tyV_list, tyW_str, tyW_int, tyW_tup, tyW_lst, tyW_bl, tyW_non, Bool.not_true, Bool.not_false, Bool.and_true, Bool.true_and, Bool.or_true, Bool.true_or, Bool.and_false, Bool.false_and, Bool.or_false, Bool.false_or, decide_true, decide_false, evF, fsV_str, Nat.reduceAdd, Nat.reduceLT, Nat.reduceSub, Nat.reduceLeDiff, Int.reduceLT, Int.reduceLE, Int.reduceToNat, Int.reduceNeg, Int.reduceMul, Int.reduceAdd, Int.reduceSub, if_true, if_false, ite_true, ite_false, ↓reduceIte, reduceCtorEq, Bool.false_eq_true, walkS_lst, walkS_tup, walkS_str, bcT, bcA, walkE_lst, walkE_tup, walkE_str, R.still, hxm]
    rfl
theorem c_change (n : Nat) (p q : Nat → Bool) (ro m : Mem) : callF g0 (n + 1) 1002 [tl p, tl q] ro m = .ok (chg (fun i => q i && !p i) (fun i => p i && !q i)) m := by
  refine call_wp (fd := ⟨2, 3, true, B1002⟩) rfl rfl rfl fun P hP hcf => ?_
  show R.wp (exs P _ B1002 ⟨[some (tl p), some (tl q), none], []⟩) _ _
  unfold B1002 tl
  generalize ro ++ m = ro
  simp only [↓ex_for, ↓ex_whl, ↓ev_lc, ↓ev_alg, ↓ev_ang, ↓ev_dc, exs, ex, ev, evs, evT, evTs, evO, asgLv, asgT, asgTs, wipe, R.bind_ok, R.bind_exc, R.bind_stuck, up_stuck, R.up_ok, R.up_exc, R.of_some, calm_ok, ok_and, ok_or, ok_andD, ok_orD, bind_ite, up_ite, pm_cf, List.getElem?_cons_zero, List.getElem?_cons_succ, List.set_cons_zero, List.set_cons_succ, List.length_cons, List.length_nil, List.map_cons, List.map_nil, List.nil_append, List.cons_append, Nat.zero_add, Nat.add_zero, rd_non, rd_bl, rd_int, rd_str, rd_tup, rd_lst, rd_dct, rd_scr, rd_own0, rd_own, memGet_own0, memGet_own, memSet_own0, obD, Option.getD_some, Option.bind_some, Option.map_some, isX_non, isX_bl, isX_int, isX_str, isX_tup, isX_lst, isX_dct, isX_ref, isX_scr, le1, ltI, leI, gtI, geI, eqI, neI, eqS, neS, mem1, nmem1, isN, isntN, tru_bl, tru_non, bi_int_int, bi_len_str, bi_len_lst, bi_len_tup, bi_len_dct, bi_len_scr, bin_add_int, bin_sub_int, bmT, bmA, bm_part, bm_find, tyV_tuple, tyV_bool, tyV_str, tyV_int, tyV_list, tyW_str, tyW_int, tyW_tup, tyW_lst, tyW_bl, tyW_non, Bool.not_true, Bool.not_false, Bool.and_true, Bool.true_and, Bool.or_true, Bool.true_or, Bool.and_false, Bool.false_and, Bool.or_false, Bool.false_or, decide_true, decide_false, evF, fsV_str, Nat.reduceAdd, Nat.reduceLT, Nat.reduceSub, Nat.reduceLeDiff, Int.reduceLT, Int.reduceLE, Int.reduceToNat, Int.reduceNeg, Int.reduceMul, Int.reduceAdd, Int.reduceSub, if_true, if_false, ite_true, ite_false, ↓reduceIte, reduceCtorEq, Bool.false_eq_true, walkS_lst, walkS_tup, walkS_str, bcT, bcA, walkE_lst, walkE_tup, walkE_str]
  rw [lcL_map dv _ (fun i => if !p i then some (dv i) else none)]
  · simp only [↓ex_for, ↓ex_whl, ↓ev_lc, ↓ev_alg, ↓ev_ang, ↓ev_dc, exs, ex, ev, evs, evT, evTs, evO, asgLv, asgT, asgTs, wipe, R.bind_ok, R.bind_exc, R.bind_stuck, up_stuck, R.up_ok, R.up_exc, R.of_some, calm_ok, ok_and, ok_or, ok_andD, ok_orD, bind_ite, up_ite, pm_cf, List.getElem?_cons_zero, List.getElem?_cons_succ, List.set_cons_zero, List.set_cons_succ, List.length_cons, List.length_nil, List.map_cons, List.map_nil, List.nil_append, List.cons_append, Nat.zero_add, Nat.add_zero, rd_non, rd_bl, rd_int, rd_str, rd_tup, rd_lst, rd_dct, rd_scr, rd_own0, rd_own, memGet_own0, memGet_own, memSet_own0, obD, Option.getD_some, Option.bind_some, Option.map_some, isX_non, isX_bl, isX_int, isX_str, isX_tup, isX_lst, isX_dct, isX_ref, isX_scr, le1, ltI, leI, gtI, geI, eqI, neI, eqS, neS, mem1, nmem1, isN, isntN, tru_bl, tru_non, bi_int_int, bi_len_str, bi_len_lst, bi_len_tup, bi_len_dct, bi_len_scr, bin_add_int, bin_sub_int, bmT, bmA, bm_part, bm_find, tyV_tuple, tyV_bool, tyV_str, tyV_int, tyV_list, tyW_str, tyW_int, tyW_tup, tyW_lst, tyW_bl, tyW_non, Bool.not_true, Bool.not_false, Bool.and_true, Bool.true_and, Bool.or_true, Bool.true_or, Bool.and_false, Bool.false_and, Bool.or_false, Bool.false_or, decide_true, decide_false, evF, fsV_str, Nat.reduceAdd, Nat.reduceLT, Nat.reduceSub, Nat.reduceLeDiff, Int.reduceLT, Int.reduceLE, Int.reduceToNat, Int.reduceNeg, Int.reduceMul, Int.reduceAdd, Int.reduceSub, if_true, if_false, ite_true, ite_false, ↓reduceIte, reduceCtorEq, Bool.false_eq_true, walkS_lst, walkS_tup, walkS_str, bcT, bcA, walkE_lst, walkE_tup, walkE_str]
    rw [fm_tb fun _ _ => rfl]
    try simp only [↓ex_for, ↓ex_whl, ↓ev_lc, ↓ev_alg, ↓ev_ang, ↓ev_dc, exs, ex, ev, evs, evT, evTs, evO, asgLv, asgT, asgTs, wipe, R.bind_ok, R.bind_exc, R.bind_stuck, up_stuck, R.up_ok, R.up_exc, R.of_some, calm_ok, ok_and, ok_or, ok_andD, ok_orD, bind_ite, up_ite, pm_cf, List.getElem?_cons_zero, List.getElem?_cons_succ, List.set_cons_zero, List.set_cons_succ, List.length_cons, List.length_nil, List.map_cons, List.map_nil, List.nil_append, List.cons_append, Nat.zero_add, Nat.add_zero, rd_non, rd_bl, rd_int, rd_str, rd_tup, rd_lst, rd_dct, rd_scr, rd_own0, rd_own, memGet_own0, memGet_own, memSet_own0, obD, Option.getD_some, Option.bind_some, Option.map_some, isX_non, isX_bl, isX_int, isX_str, isX_tup, isX_lst, isX_dct, isX_ref, isX_scr, le1, ltI, leI, gtI, geI, eqI, neI, eqS, neS, mem1, nmem1, isN, isntN, tru_bl, tru_non, bi_int_int, bi_len_str, bi_len_lst, bi_len_tup, bi_len_dct, bi_len_scr, bin_add_int, bin_sub_int, bmT, bmA, bm_part, bm_find, tyV_tuple, tyV_bool, tyV_str, tyV_int, tyV_list, tyW_str, tyW_int, tyW_tup, tyW_lst, tyW_bl, tyW_non, Bool.not_true, Bool.not_false, Bool.and_true, Bool.true_and, Bool.or_true, Bool.true_or, Bool.and_false, Bool.false_and, Bool.or_false, Bool.false_or, decide_true, decide_false, evF, fsV_str, Nat.reduceAdd, Nat.reduceLT, Nat.reduceSub, Nat.reduceLeDiff, Int.reduceLT, Int.reduceLE, Int.reduceToNat, Int.reduceNeg, Int.reduceMul, Int.reduceAdd, Int.reduceSub, if_true, if_false, ite_true, ite_false, ↓reduceIte, reduceCtorEq, Bool.false_eq_true, walkS_lst, walkS_tup, walkS_str, bcT, bcA, walkE_lst, walkE_tup, walkE_str]
    rw [lcL_map dv _ (fun i => if !q i then some (dv i) else none)]
    · try simp only [↓ex_for, ↓ex_whl, ↓ev_lc, ↓ev_alg, ↓ev_ang, ↓ev_dc, exs, ex, ev, evs, evT, evTs, evO, asgLv, asgT, asgTs, wipe, R.bind_ok, R.bind_exc, R.bind_stuck, up_stuck, R.up_ok, R.up_exc, R.of_some, calm_ok, ok_and, ok_or, ok_andD, ok_orD, bind_ite, up_ite, pm_cf, List.getElem?_cons_zero, List.getElem?_cons_succ, List.set_cons_zero, List.set_cons_succ, List.length_cons, List.length_nil, List.map_cons, List.map_nil, List.nil_append, List.cons_append, Nat.zero_add, Nat.add_zero, rd_non, rd_bl, rd_int, rd_str, rd_tup, rd_lst, rd_dct, rd_scr, rd_own0, rd_own, memGet_own0, memGet_own, memSet_own0, obD, Option.getD_some, Option.bind_some, Option.map_some, isX_non, isX_bl, isX_int, isX_str, isX_tup, isX_lst, isX_dct, isX_ref, isX_scr, le1, ltI, leI, gtI, geI, eqI, neI, eqS, neS, mem1, nmem1, isN, isntN, tru_bl, tru_non, bi_int_int, bi_len_str, bi_len_lst, bi_len_tup, bi_len_dct, bi_len_scr, bin_add_int, bin_sub_int, bmT, bmA, bm_part, bm_find, tyV_tuple, tyV_bool, tyV_str, tyV_int, tyV_list, tyW_str, tyW_int, tyW_tup, tyW_lst, tyW_bl, tyW_non, Bool.not_true, Bool.not_false, Bool.and_true, Bool.true_and, Bool.or_true, Bool.true_or, Bool.and_false, Bool.false_and, Bool.or_false, Bool.false_or, decide_true, decide_false, evF, fsV_str, Nat.reduceAdd, Nat.reduceLT, Nat.reduceSub, Nat.reduceLeDiff, Int.reduceLT, Int.reduceLE, Int.reduceToNat, Int.reduceNeg, Int.reduceMul, Int.reduceAdd, Int.reduceSub, if_true, if_false, ite_true, ite_false, ↓reduceIte, reduceCtorEq, Bool.false_eq_true, walkS_lst, walkS_tup, walkS_str, bcT, bcA, walkE_lst, walkE_tup, walkE_str]
      rw [fm_tb fun _ _ => rfl]
      exact xp_plain _ _ _ (plC _ _)
    · intro i hi
      unfold lcB
      simp only [↓ex_for, ↓ex_whl, ↓ev_lc, ↓ev_alg, ↓ev_ang, ↓ev_dc, exs, ex, ev, evs, evT, evTs, evO, asgLv, asgT, asgTs, wipe, R.bind_ok, R.bind_exc, R.bind_stuck, up_stuck, R.up_ok, R.up_exc, R.of_some, calm_ok, ok_and, ok_or, ok_andD, ok_orD, bind_ite, up_ite, pm_cf, List.getElem?_cons_zero, List.getElem?_cons_succ, List.set_cons_zero, List.set_cons_succ, List.length_cons, List.length_nil, List.map_cons, List.map_nil, List.nil_append, List.cons_append, Nat.zero_add, Nat.add_zero, rd_non, rd_bl, rd_int, rd_str, rd_tup, rd_lst, rd_dct, rd_scr, rd_own0, rd_own, memGet_own0, memGet_own, memSet_own0, obD, Option.getD_some, Option.bind_some, Option.map_some, isX_non, isX_bl, isX_int, isX_str, isX_tup, isX_lst, isX_dct, isX_ref, isX_scr, le1, ltI, leI, gtI, geI, eqI, neI, eqS, neS, mem1, nmem1, isN, isntN, tru_bl, tru_non, bi_int_int, bi_len_str, bi_len_lst, bi_len_tup, bi_len_dct, bi_len_scr, bin_add_int, bin_sub_int, bmT, bmA, bm_part, bm_find, tyV_tuple, tyV_bool, tyV_str, tyV_int, tyV_list, tyW_str, tyW_int, tyW_tup, tyW_lst, tyW_bl, tyW_non, Bool.not_true, Bool.not_false, Bool.and_true, Bool.true_and, Bool.or_true, Bool.true_or, Bool.and_false, Bool.false_and, Bool.or_false, Bool.false_or, decide_true, decide_false, evF, fsV_str, Nat.reduceAdd, Nat.reduceLT, Nat.reduceSub, Nat.reduceLeDiff, Int.reduceLT, Int.reduceLE, Int.reduceToNat, Int.reduceNeg, Int.reduceMul, Int.reduceAdd, Int.reduceSub, if_true, if_false, ite_true, ite_false, ↓reduceIte, reduceCtorEq, Bool.false_eq_true, walkS_lst, walkS_tup, walkS_str, bcT, bcA, walkE_lst, walkE_tup, walkE_str, isXD, kyD, nmemU (tb_lt i hi), rdD]
      cases q i <;> rfl
  · intro i hi
    unfold lcB
    simp only [↓ex_for, ↓ex_whl, ↓ev_lc, ↓ev_alg, ↓ev_ang, ↓ev_dc, exs, ex, ev, evs, evT, evTs, evO, asgLv, asgT, asgTs, wipe, R.bind_ok, R.bind_exc, R.bind_stuck, up_stuck, R.up_ok, R.up_exc, R.of_some, calm_ok, ok_and, ok_or, ok_andD, ok_orD, bind_ite, up_ite, pm_cf, List.getElem?_cons_zero, List.getElem?_cons_succ, List.set_cons_zero, List.set_cons_succ, List.length_cons, List.length_nil, List.map_cons, List.map_nil, List.nil_append, List.cons_append, Nat.zero_add, Nat.add_zero, rd_non, rd_bl, rd_int, rd_str, rd_tup, rd_lst, rd_dct, rd_scr, rd_own0, rd_own, memGet_own0, memGet_own, memSet_own0, obD, Option.getD_some, Option.bind_some, Option.map_some, isX_non, isX_bl, isX_int, isX_str, isX_tup, isX_lst, isX_dct, isX_ref, isX_scr, le1, ltI, leI, gtI, geI, eqI, neI, eqS, neS, mem1, nmem1, isN, isntN, tru_bl, tru_non, bi_int_int, bi_len_str, bi_len_lst, bi_len_tup, bi_len_dct, bi_len_scr, bin_add_int, bin_sub_int, bmT, bmA, bm_part, bm_find, tyV_tuple, tyV_bool, tyV_str, tyV_int, tyV_list, tyW_str, tyW_int, tyW_tup, tyW_lst, tyW_bl, tyW_non, Bool.not_true, Bool.not_false, Bool.and_true, Bool.true_and, Bool.or_true, Bool.true_or, Bool.and_false, Bool.false_and, Bool.or_false, Bool.false_or, decide_true, decide_false, evF, fsV_str, Nat.reduceAdd, Nat.reduceLT, Nat.reduceSub, Nat.reduceLeDiff, Int.reduceLT, Int.reduceLE, Int.reduceToNat, Int.reduceNeg, Int.reduceMul, Int.reduceAdd, Int.reduceSub, if_true, if_false, ite_true, ite_false, ↓reduceIte, reduceCtorEq, Bool.false_eq_true, walkS_lst, walkS_tup, walkS_str, bcT, bcA, walkE_lst, walkE_tup, walkE_str, isXD, kyD, nmemU (tb_lt i hi), rdD]
    cases p i <;> rfl
/-- what _law_applied answers -/
def apd (p a b : Nat → Bool) : D := if fits p a b then tl fun i => (p i && !b i) || a i else .tup [.str msgA, .int (-1)]
theorem c_applied (n : Nat) (p a b : Nat → Bool) (ro m : Mem) : callF g0 (n + 3) 1004 [tl p, chg a b] ro m = .ok (apd p a b) m := by
  refine call_wp (fd := ⟨2, 3, true, B1004⟩) rfl rfl rfl fun P hP hcf => ?_
  show R.wp (exs P _ B1004 ⟨[some (tl p), some (chg a b), none], []⟩) _ _
  have hxs : P.xsub 1 1 = true := by rw [hP]; rfl
  have hx0 : P.xf 1 0 = some 0 := by rw [hP]; rfl
  have hx1 : P.xf 1 1 = some 1 := by rw [hP]; rfl
  unfold B1004 apd
  generalize ro ++ m = ro
  cases h : fits p a b with
  | true =>
    simp only [↓ex_for, ↓ex_whl, ↓ev_lc, ↓ev_alg, ↓ev_ang, ↓ev_dc, exs, ex, ev, evs, evT, evTs, evO, asgLv, asgT, asgTs, wipe, R.bind_ok, R.bind_exc, R.bind_stuck, up_stuck, R.up_ok, R.up_exc, R.of_some, calm_ok, ok_and, ok_or, ok_andD, ok_orD, bind_ite, up_ite, pm_cf, List.getElem?_cons_zero, List.getElem?_cons_succ, List.set_cons_zero, List.set_cons_succ, List.length_cons, List.length_nil, List.map_cons, List.map_nil, List.nil_append, List.cons_append, Nat.zero_add, Nat.add_zero, rd_non, rd_bl, rd_int, rd_str, rd_tup, rd_lst, rd_dct, rd_scr, rd_own0, rd_own, memGet_own0, memGet_own, memSet_own0, obD, Option.getD_some, Option.bind_some, Option.map_some, isX_non, isX_bl, isX_int, isX_str, isX_tup, isX_lst, isX_dct, isX_ref, isX_scr, le1, ltI, leI, gtI, geI, eqI, neI, eqS, neS, mem1, nmem1, isN, isntN, tru_bl, tru_non, bi_int_int, bi_len_str, bi_len_lst, bi_len_tup, bi_len_dct, bi_len_scr, bin_add_int, bin_sub_int, bmT, bmA, bm_part, bm_find, tyV_tuple, tyV_bool, tyV_str, tyV_int, tyV_list, tyW_str, tyW_int, tyW_tup, tyW_lst, tyW_bl, tyW_non, Bool.not_true, Bool.not_false, Bool.and_true, Bool.true_and, Bool.or_true, Bool.true_or, Bool.and_false, Bool.false_and, Bool.or_false, Bool.false_or, decide_true, decide_false, evF, fsV_str, Nat.reduceAdd, Nat.reduceLT, Nat.reduceSub, Nat.reduceLeDiff, Int.reduceLT, Int.reduceLE, Int.reduceToNat, Int.reduceNeg, Int.reduceMul, Int.reduceAdd, Int.reduceSub, if_true, if_false, ite_true, ite_false, ↓reduceIte, reduceCtorEq, Bool.false_eq_true, walkS_lst, walkS_tup, walkS_str, bcT, bcA, walkE_lst, walkE_tup, walkE_str, hcf, c_applyY _ _ _ _ _ _ h]
    exact xp_plain _ _ _ (plT _)
  | false =>
    simp only [↓ex_for, ↓ex_whl, ↓ev_lc, ↓ev_alg, ↓ev_ang, ↓ev_dc, exs, ex, ev, evs, evT, evTs, evO, asgLv, asgT, asgTs, wipe, R.bind_ok, R.bind_exc, R.bind_stuck, up_stuck, R.up_ok, R.up_exc, R.of_some, calm_ok, ok_and, ok_or, ok_andD, ok_orD, bind_ite, up_ite, pm_cf, List.getElem?_cons_zero, List.getElem?_cons_succ, List.set_cons_zero, List.set_cons_succ, List.length_cons, List.length_nil, List.map_cons, List.map_nil, List.nil_append, List.cons_append, Nat.zero_add, Nat.add_zero, rd_non, rd_bl, rd_int, rd_str, rd_tup, rd_lst, rd_dct, rd_scr, rd_own0, rd_own, memGet_own0, memGet_own, memSet_own0, obD, Option.getD_some, Option.bind_some, Option.map_some, isX_non, isX_bl, isX_int, isX_str, isX_tup, isX_lst, isX_dct, isX_ref, isX_scr, le1, ltI, leI, gtI, geI, eqI, neI, eqS, neS, mem1, nmem1, isN, isntN, tru_bl, tru_non, bi_int_int, bi_len_str, bi_len_lst, bi_len_tup, bi_len_dct, bi_len_scr, bin_add_int, bin_sub_int, bmT, bmA, bm_part, bm_find, tyV_tuple, tyV_bool, tyV_str, tyV_int, tyV_list, tyW_str, tyW_int, tyW_tup, tyW_lst, tyW_bl, tyW_non, Bool.not_true, Bool.not_false, Bool.and_true, Bool.true_and, Bool.or_true, Bool.true_or, Bool.and_false, Bool.false_and, Bool.or_false, Bool.false_or, decide_true, decide_false, evF, fsV_str, Nat.reduceAdd, Nat.reduceLT, Nat.reduceSub, Nat.reduceLeDiff, Int.reduceLT, Int.reduceLE, Int.reduceToNat, Int.reduceNeg, Int.reduceMul, Int.reduceAdd, Int.reduceSub, if_true, if_false, ite_true, ite_false, ↓reduceIte, reduceCtorEq, Bool.false_eq_true, walkS_lst, walkS_tup, walkS_str, bcT, bcA, walkE_lst, walkE_tup, walkE_str, hcf, c_applyN _ _ _ _ _ _ h, exH, exHd, hdC, hxs, R.still, hx0, hx1]
    rfl
def cpd (a0 a1 b0 b1 : Nat → Bool) : D := if apart a0 b0 && apart a1 b1 then chg (cmpG a0 a1 b0 b1) (cmpG a1 a0 b1 b0) else .tup [.str msgC, .int (-1)]
theorem c_composed (n : Nat) (a0 a1 b0 b1 : Nat → Bool) (ro m : Mem) : callF g0 (n + 3) 1005 [chg a0 a1, chg b0 b1] ro m = .ok (cpd a0 a1 b0 b1) m := by
  refine call_wp (fd := ⟨2, 3, true, B1005⟩) rfl rfl rfl fun P hP hcf => ?_
  show R.wp (exs P _ B1005 ⟨[some (chg a0 a1), some (chg b0 b1), none], []⟩) _ _
  have hxs : P.xsub 1 1 = true := by rw [hP]; rfl
  have hx0 : P.xf 1 0 = some 0 := by rw [hP]; rfl
  have hx1 : P.xf 1 1 = some 1 := by rw [hP]; rfl
  unfold B1005 cpd
  generalize ro ++ m = ro
  cases h : (apart a0 b0 && apart a1 b1) with
  | true =>
    rw [Bool.and_eq_true] at h
    simp only [↓ex_for, ↓ex_whl, ↓ev_lc, ↓ev_alg, ↓ev_ang, ↓ev_dc, exs, ex, ev, evs, evT, evTs, evO, asgLv, asgT, asgTs, wipe, R.bind_ok, R.bind_exc, R.bind_stuck, up_stuck, R.up_ok, R.up_exc, R.of_some, calm_ok, ok_and, ok_or, ok_andD, ok_orD, bind_ite, up_ite, pm_cf, List.getElem?_cons_zero, List.getElem?_cons_succ, List.set_cons_zero, List.set_cons_succ, List.length_cons, List.length_nil, List.map_cons, List.map_nil, List.nil_append, List.cons_append, Nat.zero_add, Nat.add_zero, rd_non, rd_bl, rd_int, rd_str, rd_tup, rd_lst, rd_dct, rd_scr, rd_own0, rd_own, memGet_own0, memGet_own, memSet_own0, obD, Option.getD_some, Option.bind_some, Option.map_some, isX_non, isX_bl, isX_int, isX_str, isX_tup, isX_lst, isX_dct, isX_ref, isX_scr, le1, ltI, leI, gtI, geI, eqI, neI, eqS, neS, mem1, nmem1, isN, isntN, tru_bl, tru_non, bi_int_int, bi_len_str, bi_len_lst, bi_len_tup, bi_len_dct, bi_len_scr, bin_add_int, bin_sub_int, bmT, bmA, bm_part, bm_find, tyV_tuple, tyV_bool, tyV_str, tyV_int, tyV_list, tyW_str, tyW_int, tyW_tup, tyW_lst, tyW_bl, tyW_non, Bool.not_true, Bool.not_false, Bool.and_true, Bool.true_and, Bool.or_true, Bool.true_or, Bool.and_false, Bool.false_and, Bool.or_false, Bool.false_or, decide_true, decide_false, evF, fsV_str, Nat.reduceAdd, Nat.reduceLT, Nat.reduceSub, Nat.reduceLeDiff, Int.reduceLT, Int.reduceLE, Int.reduceToNat, Int.reduceNeg, Int.reduceMul, Int.reduceAdd, Int.reduceSub, if_true, if_false, ite_true, ite_false, ↓reduceIte, reduceCtorEq, Bool.false_eq_true, walkS_lst, walkS_tup, walkS_str, bcT, bcA, walkE_lst, walkE_tup, walkE_str, hcf, c_composeY _ _ _ _ _ _ _ h.1 h.2]
    exact xp_plain _ _ _ (plC _ _)
  | false =>
    simp only [↓ex_for, ↓ex_whl, ↓ev_lc, ↓ev_alg, ↓ev_ang, ↓ev_dc, exs, ex, ev, evs, evT, evTs, evO, asgLv, asgT, asgTs, wipe, R.bind_ok, R.bind_exc, R.bind_stuck, up_stuck, R.up_ok, R.up_exc, R.of_some, calm_ok, ok_and, ok_or, ok_andD, ok_orD, bind_ite, up_ite, pm_cf, List.getElem?_cons_zero, List.getElem?_cons_succ, List.set_cons_zero, List.set_cons_succ, List.length_cons, List.length_nil, List.map_cons, List.map_nil, List.nil_append, List.cons_append, Nat.zero_add, Nat.add_zero, rd_non, rd_bl, rd_int, rd_str, rd_tup, rd_lst, rd_dct, rd_scr, rd_own0, rd_own, memGet_own0, memGet_own, memSet_own0, obD, Option.getD_some, Option.bind_some, Option.map_some, isX_non, isX_bl, isX_int, isX_str, isX_tup, isX_lst, isX_dct, isX_ref, isX_scr, le1, ltI, leI, gtI, geI, eqI, neI, eqS, neS, mem1, nmem1, isN, isntN, tru_bl, tru_non, bi_int_int, bi_len_str, bi_len_lst, bi_len_tup, bi_len_dct, bi_len_scr, bin_add_int, bin_sub_int, bmT, bmA, bm_part, bm_find, tyV_tuple, tyV_bool, tyV_str, tyV_int, tyV_list, tyW_str, tyW_int, tyW_tup, tyW_lst, tyW_bl, tyW_non, Bool.not_true, Bool.not_false, Bool.and_true, Bool.true_and, Bool.or_true, Bool.true_or, Bool.and_false, Bool.false_and, Bool.or_false, Bool.false_or, decide_true, decide_false, evF, fsV_str, Nat.reduceAdd, Nat.reduceLT, Nat.reduceSub, Nat.reduceLeDiff, Int.reduceLT, Int.reduceLE, Int.reduceToNat, Int.reduceNeg, Int.reduceMul, Int.reduceAdd, Int.reduceSub, if_true, if_false, ite_true, ite_false, ↓reduceIte, reduceCtorEq, Bool.false_eq_true, walkS_lst, walkS_tup, walkS_str, bcT, bcA, walkE_lst, walkE_tup, walkE_str, hcf, c_composeN _ _ _ _ _ _ _ h, exH, exHd, hdC, hxs, R.still, hx0, hx1]
    rfl
end Av.C
end
section
set_option linter.all false
set_option maxRecDepth 100000
namespace Av.C
theorem getD_get (is : List Int) (k : Nat) (h : k < is.length) : is[k]? = some (is.getD k 0) := by
  simp [List.getD, h]
theorem c_cell (n : Nat) (is : List Int) (k : Int) (ro m : Mem) (h0 : 0 ≤ k) : callF g0 (n + 1) 1000 [.scr is, .int k] ro m = .ok (.int (is.getD k.toNat 0)) m := by
  refine call_wp (fd := ⟨2, 2, true, B1000⟩) rfl rfl rfl fun P hP hcf => ?_
  show R.wp (exs P _ B1000 ⟨[some (.scr is), some (.int k)], []⟩) _ _
  unfold B1000
  by_cases h : k < is.length
  · simp only [↓ex_for, ↓ex_whl, ↓ev_lc, ↓ev_alg, ↓ev_ang, ↓ev_dc, exs, ex, ev, evs, evT, evTs, evO, asgLv, asgT, asgTs, wipe, R.bind_ok, R.bind_exc, R.bind_stuck, up_stuck, R.up_ok, R.up_exc, R.of_some, calm_ok, ok_and, ok_or, ok_andD, ok_orD, bind_ite, up_ite, pm_cf, List.getElem?_cons_zero, List.getElem?_cons_succ, List.set_cons_zero, List.set_cons_succ, List.length_cons, List.length_nil, List.map_cons, List.map_nil, List.nil_append, List.cons_append, Nat.zero_add, Nat.add_zero, rd_non, rd_bl, rd_int, rd_str, rd_tup, rd_lst, rd_dct, rd_scr, rd_own0, rd_own, memGet_own0, memGet_own, memSet_own0, obD, Option.getD_some, Option.bind_some, Option.map_some, isX_non, isX_bl, isX_int, isX_str, isX_tup, isX_lst, isX_dct, isX_ref, isX_scr, le1, ltI, leI, gtI, geI, eqI, neI, eqS, neS, mem1, nmem1, isN, isntN, tru_bl, tru_non, bi_int_int, bi_len_str, bi_len_lst, bi_len_tup, bi_len_dct, bi_len_scr, bin_add_int, bin_sub_int, bmT, bmA, bm_part, bm_find, tyV_tuple, tyV_bool, tyV_str, tyV_int, tyV_list, tyW_str, tyW_int, tyW_tup, tyW_lst, tyW_bl, tyW_non, Bool.not_true, Bool.not_false, Bool.and_true, Bool.true_and, Bool.or_true, Bool.true_or, Bool.and_false, Bool.false_and, Bool.or_false, Bool.false_or, decide_true, decide_false, evF, fsV_str, Nat.reduceAdd, Nat.reduceLT, Nat.reduceSub, Nat.reduceLeDiff, Int.reduceLT, Int.reduceLE, Int.reduceToNat, Int.reduceNeg, Int.reduceMul, Int.reduceAdd, Int.reduceSub, if_true, if_false, ite_true, ite_false, ↓reduceIte, reduceCtorEq, Bool.false_eq_true, walkS_lst, walkS_tup, walkS_str, bcT, bcA, walkE_lst, walkE_tup, walkE_str, h, at_scr (L := is) h0 (getD_get is k.toNat (by omega)), decide_true]
    rfl
  · simp only [↓ex_for, ↓ex_whl, ↓ev_lc, ↓ev_alg, ↓ev_ang, ↓ev_dc, exs, ex, ev, evs, evT, evTs, evO, asgLv, asgT, asgTs, wipe, R.bind_ok, R.bind_exc, R.bind_stuck, up_stuck, R.up_ok, R.up_exc, R.of_some, calm_ok, ok_and, ok_or, ok_andD, ok_orD, bind_ite, up_ite, pm_cf, List.getElem?_cons_zero, List.getElem?_cons_succ, List.set_cons_zero, List.set_cons_succ, List.length_cons, List.length_nil, List.map_cons, List.map_nil, List.nil_append, List.cons_append, Nat.zero_add, Nat.add_zero, rd_non, rd_bl, rd_int, rd_str, rd_tup, rd_lst, rd_dct, rd_scr, rd_own0, rd_own, memGet_own0, memGet_own, memSet_own0, obD, Option.getD_some, Option.bind_some, Option.map_some, isX_non, isX_bl, isX_int, isX_str, isX_tup, isX_lst, isX_dct, isX_ref, isX_scr, le1, ltI, leI, gtI, geI, eqI, neI, eqS, neS, mem1, nmem1, isN, isntN, tru_bl, tru_non, bi_int_int, bi_len_str, bi_len_lst, bi_len_tup, bi_len_dct, bi_len_scr, bin_add_int, bin_sub_int, bmT, bmA, bm_part, bm_find, tyV_tuple, tyV_bool, tyV_str, tyV_int, tyV_list, tyW_str, tyW_int, tyW_tup, tyW_lst, tyW_bl, tyW_non, Bool.not_true, Bool.not_false, Bool.and_true, Bool.true_and, Bool.or_true, Bool.true_or, Bool.and_false, Bool.false_and, Bool.or_false, Bool.false_or, decide_true, decide_false, evF, fsV_str, Nat.reduceAdd, Nat.reduceLT, Nat.reduceSub, Nat.reduceLeDiff, Int.reduceLT, Int.reduceLE, Int.reduceToNat, Int.reduceNeg, Int.reduceMul, Int.reduceAdd, Int.reduceSub, if_true, if_false, ite_true, ite_false, ↓reduceIte, reduceCtorEq, Bool.false_eq_true, walkS_lst, walkS_tup, walkS_str, bcT, bcA, walkE_lst, walkE_tup, walkE_str, h, decide_false]
    rw [show is.getD k.toNat 0 = 0 by simp [List.getD, List.getElem?_eq_none (show is.length ≤ k.toNat by omega)]]
    rfl
theorem mulM (x : Int) : binV .mul (.int (x % 2147483647)) (.int (x % 2147483647)) = some (.int ((x % 2147483647) * (x % 2147483647))) :=
  bin_mul_l _ _ (by have := Int.emod_nonneg x (by decide : (2147483647 : Int) ≠ 0); unfold B64; omega) (by have := Int.emod_lt_of_pos x (by decide : (0 : Int) < 2147483647); unfold B64; omega)
theorem c_draws (n : Nat) (c k : Int) (ro m : Mem) (h0 : 0 ≤ k) (h1 : k ≤ 1000) : ∃ e, callF g0 (n + 1) 1001 [.int c, .int k] ro m = .ok e m ∧ ∃ l : List Int, e = .lst (l.map .int) ∧ l.length = k.toNat ∧ ∀ x ∈ l, 0 ≤ x := by
  refine call_ex (fd := ⟨2, 6, true, B1001⟩) rfl rfl rfl fun P hP hcf => ?_
  show R.wp (exs P _ B1001 ⟨[some (.int c), some (.int k), none, none, none, none], []⟩) _ _
  unfold B1001
  generalize ro ++ m = ro
  simp only [↓ex_for, ↓ex_whl, ↓ev_lc, ↓ev_alg, ↓ev_ang, ↓ev_dc, exs, ex, ev, evs, evT, evTs, evO, asgLv, asgT, asgTs, wipe, R.bind_ok, R.bind_exc, R.bind_stuck, up_stuck, R.up_ok, R.up_exc, R.of_some, calm_ok, ok_and, ok_or, ok_andD, ok_orD, bind_ite, up_ite, pm_cf, List.getElem?_cons_zero, List.getElem?_cons_succ, List.set_cons_zero, List.set_cons_succ, List.length_cons, List.length_nil, List.map_cons, List.map_nil, List.nil_append, List.cons_append, Nat.zero_add, Nat.add_zero, rd_non, rd_bl, rd_int, rd_str, rd_tup, rd_lst, rd_dct, rd_scr, rd_own0, rd_own, memGet_own0, memGet_own, memSet_own0, obD, Option.getD_some, Option.bind_some, Option.map_some, isX_non, isX_bl, isX_int, isX_str, isX_tup, isX_lst, isX_dct, isX_ref, isX_scr, le1, ltI, leI, gtI, geI, eqI, neI, eqS, neS, mem1, nmem1, isN, isntN, tru_bl, tru_non, bi_int_int, bi_len_str, bi_len_lst, bi_len_tup, bi_len_dct, bi_len_scr, bin_add_int, bin_sub_int, bmT, bmA, bm_part, bm_find, tyV_tuple, tyV_bool, tyV_str, tyV_int, tyV_list, tyW_str, tyW_int, tyW_tup, tyW_lst, tyW_bl, tyW_non, Bool.not_true, Bool.not_false, Bool.and_true, Bool.true_and, Bool.or_true, Bool.true_or, Bool.and_false, Bool.false_and, Bool.or_false, Bool.false_or, decide_true, decide_false, evF, fsV_str, Nat.reduceAdd, Nat.reduceLT, Nat.reduceSub, Nat.reduceLeDiff, Int.reduceLT, Int.reduceLE, Int.reduceToNat, Int.reduceNeg, Int.reduceMul, Int.reduceAdd, Int.reduceSub, if_true, if_false, ite_true, ite_false, ↓reduceIte, reduceCtorEq, Bool.false_eq_true, walkS_lst, walkS_tup, walkS_str, bcT, bcA, walkE_lst, walkE_tup, walkE_str, bin_pow (i := 10) (j := 18) (by decide) (by decide) (by decide) (by decide), rngV_int h0 (by omega : k ≤ 1000000)]
  rw [wp_bind]
  generalize decide (_ ≤ c) = wide
  refine wp_mono (Q := fun fl st => fl = .nx ∧ ∃ (c : Int) (x y : Option D) (l : List Int), l.length = k.toNat ∧ (∀ x ∈ l, 0 ≤ x) ∧ st = ⟨[some (.int c), some (.int k), some (.ref ro.length), some (.bl wide), x, y], [.lst (l.map .int)]⟩) (forR_wp (fun i st => ∃ (c : Int) (x y : Option D) (l : List Int), l.length = i ∧ (∀ x ∈ l, 0 ≤ x) ∧ st = ⟨[some (.int c), some (.int k), some (.ref ro.length), some (.bl wide), x, y], [.lst (l.map .int)]⟩) ?_ ?_ fun st h => ⟨rfl, h⟩) ?_ fun _ _ h => h
  · exact ⟨c, none, none, [], rfl, by simp, rfl⟩
  · rintro i z st hi hz ⟨c, x, y, l, hl, hp, rfl⟩
    unfold L1001_1 forB
    have ha := fun d => bcE_app (ro := ro) (m := [.lst (l.map .int)]) (n := ro.length) (ds := l.map .int) (d := d) (by rw [memGet_own0]; rfl) (by rw [List.length_map]; omega) (memSet_own0 ro _ _ _)
    cases wide with
    | true =>
      simp only [↓ex_for, ↓ex_whl, ↓ev_lc, ↓ev_alg, ↓ev_ang, ↓ev_dc, exs, ex, ev, evs, evT, evTs, evO, asgLv, asgT, asgTs, wipe, R.bind_ok, R.bind_exc, R.bind_stuck, up_stuck, R.up_ok, R.up_exc, R.of_some, calm_ok, ok_and, ok_or, ok_andD, ok_orD, bind_ite, up_ite, pm_cf, List.getElem?_cons_zero, List.getElem?_cons_succ, List.set_cons_zero, List.set_cons_succ, List.length_cons, List.length_nil, List.map_cons, List.map_nil, List.nil_append, List.cons_append, Nat.zero_add, Nat.add_zero, rd_non, rd_bl, rd_int, rd_str, rd_tup, rd_lst, rd_dct, rd_scr, rd_own0, rd_own, memGet_own0, memGet_own, memSet_own0, obD, Option.getD_some, Option.bind_some, Option.map_some, isX_non, isX_bl, isX_int, isX_str, isX_tup, isX_lst, isX_dct, isX_ref, isX_scr, le1, ltI, leI, gtI, geI, eqI, neI, eqS, neS, mem1, nmem1, isN, isntN, tru_bl, tru_non, bi_int_int, bi_len_str, bi_len_lst, bi_len_tup, bi_len_dct, bi_len_scr, bin_add_int, bin_sub_int, bmT, bmA, bm_part, bm_find, tyV_tuple, tyV_bool, tyV_str, tyV_int, tyV_list, tyW_str, tyW_int, tyW_tup, tyW_lst, tyW_bl, tyW_non, Bool.not_true, Bool.not_false, Bool.and_true, Bool.true_and, Bool.or_true, Bool.true_or, Bool.and_false, Bool.false_and, Bool.or_false, Bool.false_or, decide_true, decide_false, evF, fsV_str, Nat.reduceAdd, Nat.reduceLT, Nat.reduceSub, Nat.reduceLeDiff, Int.reduceLT, Int.reduceLE, Int.reduceToNat, Int.reduceNeg, Int.reduceMul, Int.reduceAdd, Int.reduceSub, if_true, if_false, ite_true, ite_false, ↓reduceIte, reduceCtorEq, Bool.false_eq_true, walkS_lst, walkS_tup, walkS_str, bcT, bcA, walkE_lst, walkE_tup, walkE_str, ha, bin_mod_int _ 1009 (by decide), bin_fdiv_int _ 1009 (by decide) (by decide)]
      rw [wp_ok]
      exact ⟨_, _, _, l ++ [c % 1009], by simp [hl], fun x hx => by
        rcases List.mem_append.mp hx with h | h
        · exact hp x h
        · rw [List.mem_singleton.mp h]; exact Int.emod_nonneg _ (by decide), by rw [List.map_append]; rfl⟩
    | false =>
      simp only [↓ex_for, ↓ex_whl, ↓ev_lc, ↓ev_alg, ↓ev_ang, ↓ev_dc, exs, ex, ev, evs, evT, evTs, evO, asgLv, asgT, asgTs, wipe, R.bind_ok, R.bind_exc, R.bind_stuck, up_stuck, R.up_ok, R.up_exc, R.of_some, calm_ok, ok_and, ok_or, ok_andD, ok_orD, bind_ite, up_ite, pm_cf, List.getElem?_cons_zero, List.getElem?_cons_succ, List.set_cons_zero, List.set_cons_succ, List.length_cons, List.length_nil, List.map_cons, List.map_nil, List.nil_append, List.cons_append, Nat.zero_add, Nat.add_zero, rd_non, rd_bl, rd_int, rd_str, rd_tup, rd_lst, rd_dct, rd_scr, rd_own0, rd_own, memGet_own0, memGet_own, memSet_own0, obD, Option.getD_some, Option.bind_some, Option.map_some, isX_non, isX_bl, isX_int, isX_str, isX_tup, isX_lst, isX_dct, isX_ref, isX_scr, le1, ltI, leI, gtI, geI, eqI, neI, eqS, neS, mem1, nmem1, isN, isntN, tru_bl, tru_non, bi_int_int, bi_len_str, bi_len_lst, bi_len_tup, bi_len_dct, bi_len_scr, bin_add_int, bin_sub_int, bmT, bmA, bm_part, bm_find, tyV_tuple, tyV_bool, tyV_str, tyV_int, tyV_list, tyW_str, tyW_int, tyW_tup, tyW_lst, tyW_bl, tyW_non, Bool.not_true, Bool.not_false, Bool.and_true, Bool.true_and, Bool.or_true, Bool.true_or, Bool.and_false, Bool.false_and, Bool.or_false, Bool.false_or, decide_true, decide_false, evF, fsV_str, Nat.reduceAdd, Nat.reduceLT, Nat.reduceSub, Nat.reduceLeDiff, Int.reduceLT, Int.reduceLE, Int.reduceToNat, Int.reduceNeg, Int.reduceMul, Int.reduceAdd, Int.reduceSub, if_true, if_false, ite_true, ite_false, ↓reduceIte, reduceCtorEq, Bool.false_eq_true, walkS_lst, walkS_tup, walkS_str, bcT, bcA, walkE_lst, walkE_tup, walkE_str, ha, bin_mod_int _ 2147483647 (by decide), bin_mod_int _ 1000003 (by decide), bin_mul_r _ 48271 (by decide) (by decide), bin_mul_r _ 69621 (by decide) (by decide), bin_mul_r _ 31 (by decide) (by decide), mulM]
      rw [wp_ok]
      refine ⟨_, _, _, l ++ [_], by simp [hl], fun x hx => ?_, by rw [List.map_append]; rfl⟩
      rcases List.mem_append.mp hx with h | h
      · exact hp x h
      · rw [List.mem_singleton.mp h]; exact Int.emod_nonneg _ (by decide)
  · rintro fl st ⟨rfl, c, x, y, l, hl, hp, rfl⟩
    simp only [↓ex_for, ↓ex_whl, ↓ev_lc, ↓ev_alg, ↓ev_ang, ↓ev_dc, exs, ex, ev, evs, evT, evTs, evO, asgLv, asgT, asgTs, wipe, R.bind_ok, R.bind_exc, R.bind_stuck, up_stuck, R.up_ok, R.up_exc, R.of_some, calm_ok, ok_and, ok_or, ok_andD, ok_orD, bind_ite, up_ite, pm_cf, List.getElem?_cons_zero, List.getElem?_cons_succ, List.set_cons_zero, List.set_cons_succ, List.length_cons, List.length_nil, List.map_cons, List.map_nil, List.nil_append, List.cons_append, Nat.zero_add, Nat.add_zero, rd_non, rd_bl, rd_int, rd_str, rd_tup, rd_lst, rd_dct, rd_scr, rd_own0, rd_own, memGet_own0, memGet_own, memSet_own0, obD, Option.getD_some, Option.bind_some, Option.map_some, isX_non, isX_bl, isX_int, isX_str, isX_tup, isX_lst, isX_dct, isX_ref, isX_scr, le1, ltI, leI, gtI, geI, eqI, neI, eqS, neS, mem1, nmem1, isN, isntN, tru_bl, tru_non, bi_int_int, bi_len_str, bi_len_lst, bi_len_tup, bi_len_dct, bi_len_scr, bin_add_int, bin_sub_int, bmT, bmA, bm_part, bm_find, tyV_tuple, tyV_bool, tyV_str, tyV_int, tyV_list, tyW_str, tyW_int, tyW_tup, tyW_lst, tyW_bl, tyW_non, Bool.not_true, Bool.not_false, Bool.and_true, Bool.true_and, Bool.or_true, Bool.true_or, Bool.and_false, Bool.false_and, Bool.or_false, Bool.false_or, decide_true, decide_false, evF, fsV_str, Nat.reduceAdd, Nat.reduceLT, Nat.reduceSub, Nat.reduceLeDiff, Int.reduceLT, Int.reduceLE, Int.reduceToNat, Int.reduceNeg, Int.reduceMul, Int.reduceAdd, Int.reduceSub, if_true, if_false, ite_true, ite_false, ↓reduceIte, reduceCtorEq, Bool.false_eq_true, walkS_lst, walkS_tup, walkS_str, bcT, bcA, walkE_lst, walkE_tup, walkE_str]
    exact ⟨_, xp_own0 rfl (plains_map l fun _ _ => rfl), l, rfl, hl, hp⟩
def rk (k : Nat) : Nat := (k % 3) * 6 + (if k < 9 then 3 else 0) + k / 3 % 3
theorem ev_u (P : Pm) (ro m : Mem) (a b c : Option D) : ∀ k : Nat, k < 18 → ev P ro L1003_1 [a, b, c, some (.int (k : Int))] m = .ok (dv (rk k)) m := by
  intro k hk
  match k, hk with
  | 0, _ => rfl
  | 1, _ => rfl
  | 2, _ => rfl
  | 3, _ => rfl
  | 4, _ => rfl
  | 5, _ => rfl
  | 6, _ => rfl
  | 7, _ => rfl
  | 8, _ => rfl
  | 9, _ => rfl
  | 10, _ => rfl
  | 11, _ => rfl
  | 12, _ => rfl
  | 13, _ => rfl
  | 14, _ => rfl
  | 15, _ => rfl
  | 16, _ => rfl
  | 17, _ => rfl
  | n + 18, h => omega
theorem rk_ok : (∀ k, k < 18 → rk k < 18) ∧ ∀ i, i < 18 → ∀ j, j < 18 → rk i = rk j → i = j := by decide +kernel
theorem fm_rk (c : Nat → Bool) : ∀ l : List Nat, l.filterMap (fun k => if c k then some (dv (rk k)) else none) = ((l.filter c).map rk).map dv
  | [] => rfl
  | a :: r => by
    rw [List.filterMap_cons, fm_rk c r]
    by_cases e : c a = true <;> simp [e]
theorem nodup_map_on {f : Nat → Nat} : ∀ {l : List Nat}, (∀ a ∈ l, ∀ b ∈ l, f a = f b → a = b) → l.Nodup → (l.map f).Nodup
  | [], _, _ => List.nodup_nil
  | a :: r, h, nd => by
    rw [List.map_cons]
    have nd := List.nodup_cons.mp nd
    refine List.nodup_cons.mpr ⟨fun z => ?_, nodup_map_on (fun x hx y hy => h x (List.mem_cons_of_mem _ hx) y (List.mem_cons_of_mem _ hy)) nd.2⟩
    obtain ⟨b, hb, e⟩ := List.mem_map.mp z
    exact nd.1 (h b (List.mem_cons_of_mem _ hb) a List.mem_cons_self e ▸ hb)
theorem c_grants (n : Nat) (c : Int) (ro m : Mem) : ∃ e, callF g0 (n + 2) 1003 [.int c] ro m = .ok e m ∧ (∀ ro m, rd ro m e = e) ∧ ∃ q : Nat → Bool, biV .sorted [e] = some (tl q) := by
  refine call_ex (fd := ⟨1, 4, true, B1003⟩) rfl rfl rfl fun P hP hcf => ?_
  show R.wp (exs P _ B1003 ⟨[some (.int c), none, none, none], []⟩) _ _
  unfold B1003
  generalize ro ++ m = ro
  obtain ⟨_, cd, l, rfl, hl, hp⟩ := c_draws n c 18 ro [] (by decide) (by decide)
  have hl : l.length = 18 := hl
  have i0 : atV (.lst (l.map .int)) (.int 0) = some (.int (l.getD 0 0)) := at_ints (l := l) (i := 0) (by decide) (by rw [hl]; decide)
  simp only [↓ex_for, ↓ex_whl, ↓ev_lc, ↓ev_alg, ↓ev_ang, ↓ev_dc, exs, ex, ev, evs, evT, evTs, evO, asgLv, asgT, asgTs, wipe, R.bind_ok, R.bind_exc, R.bind_stuck, up_stuck, R.up_ok, R.up_exc, R.of_some, calm_ok, ok_and, ok_or, ok_andD, ok_orD, bind_ite, up_ite, pm_cf, List.getElem?_cons_zero, List.getElem?_cons_succ, List.set_cons_zero, List.set_cons_succ, List.length_cons, List.length_nil, List.map_cons, List.map_nil, List.nil_append, List.cons_append, Nat.zero_add, Nat.add_zero, rd_non, rd_bl, rd_int, rd_str, rd_tup, rd_lst, rd_dct, rd_scr, rd_own0, rd_own, memGet_own0, memGet_own, memSet_own0, obD, Option.getD_some, Option.bind_some, Option.map_some, isX_non, isX_bl, isX_int, isX_str, isX_tup, isX_lst, isX_dct, isX_ref, isX_scr, le1, ltI, leI, gtI, geI, eqI, neI, eqS, neS, mem1, nmem1, isN, isntN, tru_bl, tru_non, bi_int_int, bi_len_str, bi_len_lst, bi_len_tup, bi_len_dct, bi_len_scr, bin_add_int, bin_sub_int, bmT, bmA, bm_part, bm_find, tyV_tuple, tyV_bool, tyV_str, tyV_int, tyV_list, tyW_str, tyW_int, tyW_tup, tyW_lst, tyW_bl, tyW_non, Bool.not_true, Bool.not_false, Bool.and_true, Bool.true_and, Bool.or_true, Bool.true_or, Bool.and_false, Bool.false_and, Bool.or_false, Bool.false_or, decide_true, decide_false, evF, fsV_str, Nat.reduceAdd, Nat.reduceLT, Nat.reduceSub, Nat.reduceLeDiff, Int.reduceLT, Int.reduceLE, Int.reduceToNat, Int.reduceNeg, Int.reduceMul, Int.reduceAdd, Int.reduceSub, if_true, if_false, ite_true, ite_false, ↓reduceIte, reduceCtorEq, Bool.false_eq_true, walkS_lst, walkS_tup, walkS_str, bcT, bcA, walkE_lst, walkE_tup, walkE_str, hcf, cd, i0, bin_mod_int _ 3 (by decide), rngV_int (by decide : (0 : Int) ≤ 18) (by decide : (18 : Int) ≤ 1000000)]
  have hs : 0 < 2 + l.getD 0 0 % 3 := by have := mod_nn (l.getD 0 0) 3 (by decide); omega
  generalize 2 + l.getD 0 0 % 3 = s at hs
  rw [intsIn_eq, lcL_map (iD 0) _ (fun k => if decide (l.getD k 0 % s = 0) then some (dv (rk k)) else none)]
  · rw [fm_rk]
    have hm : ∀ k ∈ (List.range 18).filter (fun k => decide (l.getD k 0 % s = 0)), k < 18 := fun k hk => List.mem_range.mp (List.mem_filter.mp hk).1
    have hlt : ∀ i ∈ ((List.range 18).filter fun k => decide (l.getD k 0 % s = 0)).map rk, i < 18 := fun i hi => by
      obtain ⟨k, hk, rfl⟩ := List.mem_map.mp hi
      exact rk_ok.1 k (hm k hk)
    have hnd : (((List.range 18).filter fun k => decide (l.getD k 0 % s = 0)).map rk).Nodup :=
      nodup_map_on (fun a ha b hb e => rk_ok.2 a (hm a ha) b (hm b hb) e) (List.Pairwise.filter _ List.nodup_range)
    generalize ((List.range 18).filter fun k => decide (l.getD k 0 % s = 0)).map rk = L at hlt hnd
    simp only [↓ex_for, ↓ex_whl, ↓ev_lc, ↓ev_alg, ↓ev_ang, ↓ev_dc, exs, ex, ev, evs, evT, evTs, evO, asgLv, asgT, asgTs, wipe, R.bind_ok, R.bind_exc, R.bind_stuck, up_stuck, R.up_ok, R.up_exc, R.of_some, calm_ok, ok_and, ok_or, ok_andD, ok_orD, bind_ite, up_ite, pm_cf, List.getElem?_cons_zero, List.getElem?_cons_succ, List.set_cons_zero, List.set_cons_succ, List.length_cons, List.length_nil, List.map_cons, List.map_nil, List.nil_append, List.cons_append, Nat.zero_add, Nat.add_zero, rd_non, rd_bl, rd_int, rd_str, rd_tup, rd_lst, rd_dct, rd_scr, rd_own0, rd_own, memGet_own0, memGet_own, memSet_own0, obD, Option.getD_some, Option.bind_some, Option.map_some, isX_non, isX_bl, isX_int, isX_str, isX_tup, isX_lst, isX_dct, isX_ref, isX_scr, le1, ltI, leI, gtI, geI, eqI, neI, eqS, neS, mem1, nmem1, isN, isntN, tru_bl, tru_non, bi_int_int, bi_len_str, bi_len_lst, bi_len_tup, bi_len_dct, bi_len_scr, bin_add_int, bin_sub_int, bmT, bmA, bm_part, bm_find, tyV_tuple, tyV_bool, tyV_str, tyV_int, tyV_list, tyW_str, tyW_int, tyW_tup, tyW_lst, tyW_bl, tyW_non, Bool.not_true, Bool.not_false, Bool.and_true, Bool.true_and, Bool.or_true, Bool.true_or, Bool.and_false, Bool.false_and, Bool.or_false, Bool.false_or, decide_true, decide_false, evF, fsV_str, Nat.reduceAdd, Nat.reduceLT, Nat.reduceSub, Nat.reduceLeDiff, Int.reduceLT, Int.reduceLE, Int.reduceToNat, Int.reduceNeg, Int.reduceMul, Int.reduceAdd, Int.reduceSub, if_true, if_false, ite_true, ite_false, ↓reduceIte, reduceCtorEq, Bool.false_eq_true, walkS_lst, walkS_tup, walkS_str, bcT, bcA, walkE_lst, walkE_tup, walkE_str]
    refine ⟨_, xp_plain _ _ _ (UN.plains hlt), fun _ _ => rfl, fun i => decide (i ∈ L), ?_⟩
    show sortV _ = _
    rw [UN.sort hlt, srt_tb (q := fun i => decide (i ∈ L)) hnd fun i => ?_]
    · rfl
    · simp only [decide_eq_true_eq]
      exact ⟨fun h => ⟨hlt i h, h⟩, fun h => h.2⟩
  · intro k hk
    have hk : k < 18 := List.mem_range.mp hk
    unfold lcB iD
    rw [Int.zero_add]
    have ik : atV (.lst (l.map .int)) (.int (k : Int)) = some (.int (l.getD k 0)) := at_ints (l := l) (i := (k : Int)) (by omega) (by rw [hl]; omega)
    simp only [↓ex_for, ↓ex_whl, ↓ev_lc, ↓ev_alg, ↓ev_ang, ↓ev_dc, exs, ex, ev, evs, evT, evTs, evO, asgLv, asgT, asgTs, wipe, R.bind_ok, R.bind_exc, R.bind_stuck, up_stuck, R.up_ok, R.up_exc, R.of_some, calm_ok, ok_and, ok_or, ok_andD, ok_orD, bind_ite, up_ite, pm_cf, List.getElem?_cons_zero, List.getElem?_cons_succ, List.set_cons_zero, List.set_cons_succ, List.length_cons, List.length_nil, List.map_cons, List.map_nil, List.nil_append, List.cons_append, Nat.zero_add, Nat.add_zero, rd_non, rd_bl, rd_int, rd_str, rd_tup, rd_lst, rd_dct, rd_scr, rd_own0, rd_own, memGet_own0, memGet_own, memSet_own0, obD, Option.getD_some, Option.bind_some, Option.map_some, isX_non, isX_bl, isX_int, isX_str, isX_tup, isX_lst, isX_dct, isX_ref, isX_scr, le1, ltI, leI, gtI, geI, eqI, neI, eqS, neS, mem1, nmem1, isN, isntN, tru_bl, tru_non, bi_int_int, bi_len_str, bi_len_lst, bi_len_tup, bi_len_dct, bi_len_scr, bin_add_int, bin_sub_int, bmT, bmA, bm_part, bm_find, tyV_tuple, tyV_bool, tyV_str, tyV_int, tyV_list, tyW_str, tyW_int, tyW_tup, tyW_lst, tyW_bl, tyW_non, Bool.not_true, Bool.not_false, Bool.and_true, Bool.true_and, Bool.or_true, Bool.true_or, Bool.and_false, Bool.false_and, Bool.or_false, Bool.false_or, decide_true, decide_false, evF, fsV_str, Nat.reduceAdd, Nat.reduceLT, Nat.reduceSub, Nat.reduceLeDiff, Int.reduceLT, Int.reduceLE, Int.reduceToNat, Int.reduceNeg, Int.reduceMul, Int.reduceAdd, Int.reduceSub, if_true, if_false, ite_true, ite_false, ↓reduceIte, reduceCtorEq, Bool.false_eq_true, walkS_lst, walkS_tup, walkS_str, bcT, bcA, walkE_lst, walkE_tup, walkE_str, ik, bin_mod_int _ s hs, ev_u _ _ _ _ _ _ k hk]
    by_cases e : l.getD k 0 % s = 0
    · simp only [↓ex_for, ↓ex_whl, ↓ev_lc, ↓ev_alg, ↓ev_ang, ↓ev_dc, exs, ex, ev, evs, evT, evTs, evO, asgLv, asgT, asgTs, wipe, R.bind_ok, R.bind_exc, R.bind_stuck, up_stuck, R.up_ok, R.up_exc, R.of_some, calm_ok, ok_and, ok_or, ok_andD, ok_orD, bind_ite, up_ite, pm_cf, List.getElem?_cons_zero, List.getElem?_cons_succ, List.set_cons_zero, List.set_cons_succ, List.length_cons, List.length_nil, List.map_cons, List.map_nil, List.nil_append, List.cons_append, Nat.zero_add, Nat.add_zero, rd_non, rd_bl, rd_int, rd_str, rd_tup, rd_lst, rd_dct, rd_scr, rd_own0, rd_own, memGet_own0, memGet_own, memSet_own0, obD, Option.getD_some, Option.bind_some, Option.map_some, isX_non, isX_bl, isX_int, isX_str, isX_tup, isX_lst, isX_dct, isX_ref, isX_scr, le1, ltI, leI, gtI, geI, eqI, neI, eqS, neS, mem1, nmem1, isN, isntN, tru_bl, tru_non, bi_int_int, bi_len_str, bi_len_lst, bi_len_tup, bi_len_dct, bi_len_scr, bin_add_int, bin_sub_int, bmT, bmA, bm_part, bm_find, tyV_tuple, tyV_bool, tyV_str, tyV_int, tyV_list, tyW_str, tyW_int, tyW_tup, tyW_lst, tyW_bl, tyW_non, Bool.not_true, Bool.not_false, Bool.and_true, Bool.true_and, Bool.or_true, Bool.true_or, Bool.and_false, Bool.false_and, Bool.or_false, Bool.false_or, decide_true, decide_false, evF, fsV_str, Nat.reduceAdd, Nat.reduceLT, Nat.reduceSub, Nat.reduceLeDiff, Int.reduceLT, Int.reduceLE, Int.reduceToNat, Int.reduceNeg, Int.reduceMul, Int.reduceAdd, Int.reduceSub, if_true, if_false, ite_true, ite_false, ↓reduceIte, reduceCtorEq, Bool.false_eq_true, walkS_lst, walkS_tup, walkS_str, bcT, bcA, walkE_lst, walkE_tup, walkE_str, e]
    · simp only [↓ex_for, ↓ex_whl, ↓ev_lc, ↓ev_alg, ↓ev_ang, ↓ev_dc, exs, ex, ev, evs, evT, evTs, evO, asgLv, asgT, asgTs, wipe, R.bind_ok, R.bind_exc, R.bind_stuck, up_stuck, R.up_ok, R.up_exc, R.of_some, calm_ok, ok_and, ok_or, ok_andD, ok_orD, bind_ite, up_ite, pm_cf, List.getElem?_cons_zero, List.getElem?_cons_succ, List.set_cons_zero, List.set_cons_succ, List.length_cons, List.length_nil, List.map_cons, List.map_nil, List.nil_append, List.cons_append, Nat.zero_add, Nat.add_zero, rd_non, rd_bl, rd_int, rd_str, rd_tup, rd_lst, rd_dct, rd_scr, rd_own0, rd_own, memGet_own0, memGet_own, memSet_own0, obD, Option.getD_some, Option.bind_some, Option.map_some, isX_non, isX_bl, isX_int, isX_str, isX_tup, isX_lst, isX_dct, isX_ref, isX_scr, le1, ltI, leI, gtI, geI, eqI, neI, eqS, neS, mem1, nmem1, isN, isntN, tru_bl, tru_non, bi_int_int, bi_len_str, bi_len_lst, bi_len_tup, bi_len_dct, bi_len_scr, bin_add_int, bin_sub_int, bmT, bmA, bm_part, bm_find, tyV_tuple, tyV_bool, tyV_str, tyV_int, tyV_list, tyW_str, tyW_int, tyW_tup, tyW_lst, tyW_bl, tyW_non, Bool.not_true, Bool.not_false, Bool.and_true, Bool.true_and, Bool.or_true, Bool.true_or, Bool.and_false, Bool.false_and, Bool.or_false, Bool.false_or, decide_true, decide_false, evF, fsV_str, Nat.reduceAdd, Nat.reduceLT, Nat.reduceSub, Nat.reduceLeDiff, Int.reduceLT, Int.reduceLE, Int.reduceToNat, Int.reduceNeg, Int.reduceMul, Int.reduceAdd, Int.reduceSub, if_true, if_false, ite_true, ite_false, ↓reduceIte, reduceCtorEq, Bool.false_eq_true, walkS_lst, walkS_tup, walkS_str, bcT, bcA, walkE_lst, walkE_tup, walkE_str, e]
end Av.C
end
section
set_option linter.all false
set_option maxRecDepth 100000
namespace Av.C
def del (p q : Nat → Bool) : Nat → Bool := fun i => q i && !p i
def cg (p q : Nat → Bool) : D := chg (del p q) (del q p)
theorem tl_ext {p q : Nat → Bool} (h : ∀ i, i < 18 → p i = q i) : tl p = tl q := by
  unfold tl; rw [tb_ext.mpr h]
theorem chg_ext {p q p' q' : Nat → Bool} (h : ∀ i, i < 18 → p i = p' i ∧ q i = q' i) : chg p q = chg p' q' := by
  unfold chg
  rw [tl_ext fun i hi => (h i hi).1, tl_ext fun i hi => (h i hi).2]
theorem apart_of {a b : Nat → Bool} (h : ∀ i, i < 18 → ¬ (a i = true ∧ b i = true)) : apart a b = true := by
  unfold apart
  rw [List.all_eq_true]
  intro i hi
  have := h i (mem_tb.mp hi).1
  cases e : b i with
  | false => rfl
  | true => exact absurd ⟨(mem_tb.mp hi).2, e⟩ this
theorem apart_del (p q r : Nat → Bool) : apart (del p q) (del q r) = true := apart_of fun i _ z => by
  unfold del at z
  cases h : q i <;> simp [h] at z
theorem apart_del2 (p q r : Nat → Bool) : apart (del q p) (del r q) = true := apart_of fun i _ z => by
  unfold del at z
  cases h : q i <;> simp [h] at z
theorem comp_step (p q r : Nat → Bool) : chg (cmpG (del p q) (del q p) (del q r) (del r q)) (cmpG (del q p) (del p q) (del r q) (del q r)) = cg p r := by
  refine chg_ext fun i _ => ?_
  unfold cmpG del
  cases p i <;> cases q i <;> cases r i <;> exact ⟨rfl, rfl⟩
theorem fits_del (p q : Nat → Bool) : fits p (del p q) (del q p) = true := by
  unfold fits
  rw [Bool.and_eq_true, List.all_eq_true, List.all_eq_true]
  refine ⟨fun i hi => ?_, fun i hi => ?_⟩
  · have := (mem_tb.mp hi).2
    unfold del at this
    rw [Bool.and_eq_true] at this
    exact this.2
  · have := (mem_tb.mp hi).2
    unfold del at this
    rw [Bool.and_eq_true] at this
    exact this.1
theorem apd_step (p q : Nat → Bool) : apd p (del p q) (del q p) = tl q := by
  unfold apd
  rw [if_pos (fits_del p q)]
  refine tl_ext fun i _ => ?_
  unfold del
  cases p i <;> cases q i <;> rfl
theorem h14 (n : Nat) (p q r : Nat → Bool) (ro m : Mem) : callF g0 (n + 3) 14 [cg p q, cg q r] ro m = .ok (cg p r) m := by
  have := c_composeY (n + 1) (del p q) (del q p) (del q r) (del r q) ro m (apart_del _ _ _) (apart_del2 _ _ _)
  rw [comp_step] at this
  exact this
theorem h1005 (n : Nat) (p q r : Nat → Bool) (ro m : Mem) : callF g0 (n + 3) 1005 [cg p q, cg q r] ro m = .ok (cg p r) m := by
  have := c_composed n (del p q) (del q p) (del q r) (del r q) ro m
  unfold cpd at this
  rw [apart_del, apart_del2, Bool.and_true, if_pos rfl, comp_step] at this
  exact this
theorem h1002 (n : Nat) (p q : Nat → Bool) (ro m : Mem) : callF g0 (n + 3) 1002 [tl p, tl q] ro m = .ok (cg p q) m := c_change (n + 2) p q ro m
theorem h10 (n : Nat) (p q : Nat → Bool) (ro m : Mem) : callF g0 (n + 3) 10 [tl p, tl q] ro m = .ok (cg p q) m := c_difference (n + 2) p q ro m
theorem h1004 (n : Nat) (p a b : Nat → Bool) (ro m : Mem) : callF g0 (n + 3) 1004 [tl p, chg a b] ro m = .ok (apd p a b) m := c_applied n p a b ro m
theorem h1004s (n : Nat) (p q : Nat → Bool) (ro m : Mem) : callF g0 (n + 3) 1004 [tl p, cg p q] ro m = .ok (tl q) m := by rw [← apd_step p q]; exact c_applied n p _ _ ro m
theorem listT' (p : Nat → Bool) : biV .list [tl p] = some (tl p) := rfl
theorem tyC (P : Pm) (ro m : Mem) (p q : Nat → Bool) : tyV P ro m (cg p q) .tuple = some true := rfl
theorem tyG (p q : Nat → Bool) : tyW .tuple (cg p q) = some true := rfl
theorem neCC (ro m : Mem) (p q : Nat → Bool) : cmpV ro m .ne (cg p q) (cg p q) = some false := by
  unfold cg chg tl
  rw [UN.neP tb_lt tb_lt tb_lt tb_lt]; simp
theorem neTT (ro m : Mem) (q : Nat → Bool) : cmpV ro m .ne (tl q) (tl q) = some false := by
  unfold tl
  rw [UN.neL tb_lt tb_lt]; simp
theorem rdG (ro m : Mem) (p q : Nat → Bool) : rd ro m (cg p q) = cg p q := rfl
theorem isXG (p q : Nat → Bool) : isX (cg p q) = false := rfl
theorem eqB (ro m : Mem) (a b : Bool) : cmpV ro m .eq (.bl a) (.bl b) = some (a == b) := by cases a <;> cases b <;> rfl
theorem at2G (p q : Nat → Bool) : atV (cg p q) (.int 0) = some (tl (del p q)) ∧ atV (cg p q) (.int 1) = some (tl (del q p)) := ⟨rfl, rfl⟩
theorem walkS_tl (ro : Mem) (p : Nat → Bool) (st : Fr) (k : List D → Fr → R Fr Fl) : walkS ro (tl p) st k = k ((tb 18 p).map dv) st := walkS_lst ro _ st k
theorem eqA (ro m : Mem) (p a b : Nat → Bool) : cmpV ro m .eq (apd p a b) (.tup [.str msgA, .int (-1)]) = some (!fits p a b) := by
  unfold apd
  cases fits p a b with
  | true =>
    show eqM (memGet ro m) (tl _) _ = _
    unfold eqM
    rw [show vw (memGet ro m) 6 (tl fun i => (p i && !b i) || a i) = some (tl fun i => (p i && !b i) || a i) from vwS_plain _ (plT _)]
    show (if eqoks _ 49 && true then some false else none) = _
    rw [UN.eoks tb_lt 48]; rfl
  | false => rfl
theorem eqC (ro m : Mem) (a0 a1 b0 b1 : Nat → Bool) : cmpV ro m .eq (cpd a0 a1 b0 b1) (.tup [.str msgC, .int (-1)]) = some (!(apart a0 b0 && apart a1 b1)) := by
  unfold cpd
  cases (apart a0 b0 && apart a1 b1) with
  | true =>
    show eqM (memGet ro m) (chg _ _) _ = _
    unfold eqM
    rw [show vw (memGet ro m) 6 (chg (cmpG a0 a1 b0 b1) (cmpG a1 a0 b1 b0)) = some (chg (cmpG a0 a1 b0 b1) (cmpG a1 a0 b1 b0)) from vwS_plain _ (plC _ _)]
    show (if (eqoks _ 48 && (eqoks _ 48 && true)) && true then some false else none) = _
    rw [UN.eoks tb_lt 47, UN.eoks tb_lt 47]; rfl
  | false => rfl
section
variable {n : Nat} {P : Pm} {ro : Mem} {is : List Int} {Q : Nat → Nat → Bool}
def tabs (Q : Nat → Nat → Bool) : List D := (List.range 4).map fun k => tl (Q k)
def chs (Q : Nat → Nat → Bool) (k : Nat) : List D := (List.range k).map fun k => cg (Q k) (Q (k + 1))
theorem at_tabs {k : Nat} (h : k < 4) : atV (.lst (tabs Q)) (.int (k : Int)) = some (tl (Q k)) := at_lst (by omega) (by simp [tabs, h])
theorem at_tabs1 {k : Nat} (h : k < 3) : atV (.lst (tabs Q)) (.int ((k : Int) + 1)) = some (tl (Q (k + 1))) := at_tabs (k := k + 1) (by omega)
theorem at_chs {k : Nat} (h : k < 3) : atV (.lst (chs Q 3)) (.int (k : Int)) = some (cg (Q k) (Q (k + 1))) := at_lst (by omega) (by simp [chs, h])
abbrev st1 (is : List Int) (Q : Nat → Nat → Bool) (ro : Mem) (j : Nat) (x3 x6 x7 x8 x9 x10 : Option D) : Fr := ⟨[some (.scr is), some (.lst (tabs Q)), some (.ref ro.length), x3, none, none, x6, x7, x8, x9, x10], [.lst (chs Q j)]⟩
theorem loop1 (hcf : P.cf = callF g0 (n + 3)) (E : Xn → Fr → Prop) : (forL (forB P ro (.v 3) L1006_2) (intsIn 0 3) (st1 is Q ro 0 none none none none none none)).wp (fun fl st => fl = .nx ∧ ∃ x3 x6 x7, st = st1 is Q ro 3 x3 x6 x7 none none none) E := by
  refine forR_wp (fun k st => ∃ x3 x6 x7, st = st1 is Q ro k x3 x6 x7 none none none) ⟨_, _, _, rfl⟩ ?_ fun st h => ⟨rfl, h⟩
  rintro k z st hk hz ⟨x3, x6, x7, rfl⟩
  rw [Int.zero_add] at hz
  subst hz
  unfold L1006_2 forB
  have ha := fun d => bcE_app (ro := ro) (m := [.lst (chs Q k)]) (n := ro.length) (ds := chs Q k) (d := d) (by rw [memGet_own0]; rfl) (by simp [chs]; omega) (memSet_own0 ro _ _ _)
  simp only [↓ex_for, ↓ex_whl, ↓ev_lc, ↓ev_alg, ↓ev_ang, ↓ev_dc, exs, ex, ev, evs, evT, evTs, evO, asgLv, asgT, asgTs, wipe, R.bind_ok, R.bind_exc, R.bind_stuck, up_stuck, R.up_ok, R.up_exc, R.of_some, calm_ok, ok_and, ok_or, ok_andD, ok_orD, bind_ite, up_ite, pm_cf, List.getElem?_cons_zero, List.getElem?_cons_succ, List.set_cons_zero, List.set_cons_succ, List.length_cons, List.length_nil, List.map_cons, List.map_nil, List.nil_append, List.cons_append, Nat.zero_add, Nat.add_zero, rd_non, rd_bl, rd_int, rd_str, rd_tup, rd_lst, rd_dct, rd_scr, rd_own0, rd_own, memGet_own0, memGet_own, memSet_own0, obD, Option.getD_some, Option.bind_some, Option.map_some, isX_non, isX_bl, isX_int, isX_str, isX_tup, isX_lst, isX_dct, isX_ref, isX_scr, le1, ltI, leI, gtI, geI, eqI, neI, eqS, neS, mem1, nmem1, isN, isntN, tru_bl, tru_non, bi_int_int, bi_len_str, bi_len_lst, bi_len_tup, bi_len_dct, bi_len_scr, bin_add_int, bin_sub_int, bmT, bmA, bm_part, bm_find, tyV_tuple, tyV_bool, tyV_str, tyV_int, tyV_list, tyW_str, tyW_int, tyW_tup, tyW_lst, tyW_bl, tyW_non, Bool.not_true, Bool.not_false, Bool.and_true, Bool.true_and, Bool.or_true, Bool.true_or, Bool.and_false, Bool.false_and, Bool.or_false, Bool.false_or, decide_true, decide_false, evF, fsV_str, Nat.reduceAdd, Nat.reduceLT, Nat.reduceSub, Nat.reduceLeDiff, Int.reduceLT, Int.reduceLE, Int.reduceToNat, Int.reduceNeg, Int.reduceMul, Int.reduceAdd, Int.reduceSub, if_true, if_false, ite_true, ite_false, ↓reduceIte, reduceCtorEq, Bool.false_eq_true, walkS_lst, walkS_tup, walkS_str, bcT, bcA, walkE_lst, walkE_tup, walkE_str, isXG, hcf, h1002, h10, h1004s, listT', tyG, rdG, rdT, neCC, neTT, at_tabs (Q := Q) (show k < 4 by omega), at_tabs1 (Q := Q) hk, ha]
  rw [wp_ok]
  refine ⟨some (.int k), some (cg (Q k) (Q (k + 1))), some (cg (Q k) (Q (k + 1))), ?_⟩
  simp [st1, chs, List.range_succ]
end
end Av.C
end
section
set_option linter.all false
set_option maxRecDepth 100000
namespace Av.C
section
variable {n : Nat} {P : Pm} {ro : Mem} {is : List Int} {Q : Nat → Nat → Bool}
theorem h1004g (n : Nat) (p a b : Nat → Bool) (ro m : Mem) : callF g0 (n + 3) 1004 [tl p, cg a b] ro m = .ok (apd p (del a b) (del b a)) m := c_applied n p _ _ ro m
theorem isXA (p a b : Nat → Bool) : isX (apd p a b) = false := by unfold apd; split <;> rfl
theorem isXdv (i : Nat) : isX (dv i) = false := rfl
theorem all_snoc (d : List Nat) (x : Nat) (f : Nat → Bool) : (d ++ [x]).all f = (d.all f && f x) := by simp
theorem nmemTL {ro m : Mem} {q : Nat → Bool} {i : Nat} (h : i < 18) : cmpV ro m .nmem (dv i) (tl q) = some (!q i) := nmemU h
theorem memTL {ro m : Mem} {q : Nat → Bool} {i : Nat} (h : i < 18) : cmpV ro m .mem (dv i) (tl q) = some (q i) := memU h
theorem loop3 {j : Nat} (hj : j < 4) (a : Nat → Bool) (x3 x6 x7 x10 : Option D) (E : Xn → Fr → Prop) : (forL (forB P ro (.v 10) L1006_3) ((tb 18 a).map dv) (st1 is Q ro 3 x3 x6 x7 (some (.int (j : Int))) (some (.bl true)) x10)).wp (fun fl st => fl = .nx ∧ ∃ y, st = st1 is Q ro 3 x3 x6 x7 (some (.int (j : Int))) (some (.bl ((tb 18 a).all fun i => !Q j i))) y) E := by
  refine forL_wp dv (fun d _ st => ∃ y, st = st1 is Q ro 3 x3 x6 x7 (some (.int (j : Int))) (some (.bl (d.all fun i => !Q j i))) y) (xs0 := tb 18 a) ?_ (fun st h => ⟨rfl, h⟩) (tb 18 a) [] _ rfl ⟨_, rfl⟩
  rintro d x r st hx ⟨y, rfl⟩
  have hlt : x < 18 := tb_lt (q := a) x (by rw [hx]; simp)
  unfold L1006_3 forB
  rw [all_snoc]
  cases hb : d.all fun i => !Q j i with
  | true =>
    simp only [↓ex_for, ↓ex_whl, ↓ev_lc, ↓ev_alg, ↓ev_ang, ↓ev_dc, exs, ex, ev, evs, evT, evTs, evO, asgLv, asgT, asgTs, wipe, R.bind_ok, R.bind_exc, R.bind_stuck, up_stuck, R.up_ok, R.up_exc, R.of_some, calm_ok, ok_and, ok_or, ok_andD, ok_orD, bind_ite, up_ite, pm_cf, List.getElem?_cons_zero, List.getElem?_cons_succ, List.set_cons_zero, List.set_cons_succ, List.length_cons, List.length_nil, List.map_cons, List.map_nil, List.nil_append, List.cons_append, Nat.zero_add, Nat.add_zero, rd_non, rd_bl, rd_int, rd_str, rd_tup, rd_lst, rd_dct, rd_scr, rd_own0, rd_own, memGet_own0, memGet_own, memSet_own0, obD, Option.getD_some, Option.bind_some, Option.map_some, isX_non, isX_bl, isX_int, isX_str, isX_tup, isX_lst, isX_dct, isX_ref, isX_scr, le1, ltI, leI, gtI, geI, eqI, neI, eqS, neS, mem1, nmem1, isN, isntN, tru_bl, tru_non, bi_int_int, bi_len_str, bi_len_lst, bi_len_tup, bi_len_dct, bi_len_scr, bin_add_int, bin_sub_int, bmT, bmA, bm_part, bm_find, tyV_tuple, tyV_bool, tyV_str, tyV_int, tyV_list, tyW_str, tyW_int, tyW_tup, tyW_lst, tyW_bl, tyW_non, Bool.not_true, Bool.not_false, Bool.and_true, Bool.true_and, Bool.or_true, Bool.true_or, Bool.and_false, Bool.false_and, Bool.or_false, Bool.false_or, decide_true, decide_false, evF, fsV_str, Nat.reduceAdd, Nat.reduceLT, Nat.reduceSub, Nat.reduceLeDiff, Int.reduceLT, Int.reduceLE, Int.reduceToNat, Int.reduceNeg, Int.reduceMul, Int.reduceAdd, Int.reduceSub, if_true, if_false, ite_true, ite_false, ↓reduceIte, reduceCtorEq, Bool.false_eq_true, walkS_lst, walkS_tup, walkS_str, bcT, bcA, walkE_lst, walkE_tup, walkE_str, isXdv, at_tabs (Q := Q) hj, nmemTL hlt, rdT, rdD, hb]
    rw [wp_ok]
    exact ⟨_, rfl⟩
  | false =>
    simp only [↓ex_for, ↓ex_whl, ↓ev_lc, ↓ev_alg, ↓ev_ang, ↓ev_dc, exs, ex, ev, evs, evT, evTs, evO, asgLv, asgT, asgTs, wipe, R.bind_ok, R.bind_exc, R.bind_stuck, up_stuck, R.up_ok, R.up_exc, R.of_some, calm_ok, ok_and, ok_or, ok_andD, ok_orD, bind_ite, up_ite, pm_cf, List.getElem?_cons_zero, List.getElem?_cons_succ, List.set_cons_zero, List.set_cons_succ, List.length_cons, List.length_nil, List.map_cons, List.map_nil, List.nil_append, List.cons_append, Nat.zero_add, Nat.add_zero, rd_non, rd_bl, rd_int, rd_str, rd_tup, rd_lst, rd_dct, rd_scr, rd_own0, rd_own, memGet_own0, memGet_own, memSet_own0, obD, Option.getD_some, Option.bind_some, Option.map_some, isX_non, isX_bl, isX_int, isX_str, isX_tup, isX_lst, isX_dct, isX_ref, isX_scr, le1, ltI, leI, gtI, geI, eqI, neI, eqS, neS, mem1, nmem1, isN, isntN, tru_bl, tru_non, bi_int_int, bi_len_str, bi_len_lst, bi_len_tup, bi_len_dct, bi_len_scr, bin_add_int, bin_sub_int, bmT, bmA, bm_part, bm_find, tyV_tuple, tyV_bool, tyV_str, tyV_int, tyV_list, tyW_str, tyW_int, tyW_tup, tyW_lst, tyW_bl, tyW_non, Bool.not_true, Bool.not_false, Bool.and_true, Bool.true_and, Bool.or_true, Bool.true_or, Bool.and_false, Bool.false_and, Bool.or_false, Bool.false_or, decide_true, decide_false, evF, fsV_str, Nat.reduceAdd, Nat.reduceLT, Nat.reduceSub, Nat.reduceLeDiff, Int.reduceLT, Int.reduceLE, Int.reduceToNat, Int.reduceNeg, Int.reduceMul, Int.reduceAdd, Int.reduceSub, if_true, if_false, ite_true, ite_false, ↓reduceIte, reduceCtorEq, Bool.false_eq_true, walkS_lst, walkS_tup, walkS_str, bcT, bcA, walkE_lst, walkE_tup, walkE_str, isXdv, at_tabs (Q := Q) hj, nmemTL hlt, rdT, rdD, hb]
    rw [wp_ok]
    exact ⟨_, rfl⟩
theorem loop4 {j : Nat} (hj : j < 4) (a : Nat → Bool) (b0 : Bool) (x3 x6 x7 x10 : Option D) (E : Xn → Fr → Prop) : (forL (forB P ro (.v 10) L1006_4) ((tb 18 a).map dv) (st1 is Q ro 3 x3 x6 x7 (some (.int (j : Int))) (some (.bl b0)) x10)).wp (fun fl st => fl = .nx ∧ ∃ y, st = st1 is Q ro 3 x3 x6 x7 (some (.int (j : Int))) (some (.bl (b0 && (tb 18 a).all fun i => Q j i))) y) E := by
  refine forL_wp dv (fun d _ st => ∃ y, st = st1 is Q ro 3 x3 x6 x7 (some (.int (j : Int))) (some (.bl (b0 && d.all fun i => Q j i))) y) (xs0 := tb 18 a) ?_ (fun st h => ⟨rfl, h⟩) (tb 18 a) [] _ rfl ⟨x10, by simp⟩
  rintro d x r st hx ⟨y, rfl⟩
  have hlt : x < 18 := tb_lt (q := a) x (by rw [hx]; simp)
  unfold L1006_4 forB
  rw [all_snoc, ← Bool.and_assoc]
  cases hb : (b0 && d.all fun i => Q j i) with
  | true =>
    simp only [↓ex_for, ↓ex_whl, ↓ev_lc, ↓ev_alg, ↓ev_ang, ↓ev_dc, exs, ex, ev, evs, evT, evTs, evO, asgLv, asgT, asgTs, wipe, R.bind_ok, R.bind_exc, R.bind_stuck, up_stuck, R.up_ok, R.up_exc, R.of_some, calm_ok, ok_and, ok_or, ok_andD, ok_orD, bind_ite, up_ite, pm_cf, List.getElem?_cons_zero, List.getElem?_cons_succ, List.set_cons_zero, List.set_cons_succ, List.length_cons, List.length_nil, List.map_cons, List.map_nil, List.nil_append, List.cons_append, Nat.zero_add, Nat.add_zero, rd_non, rd_bl, rd_int, rd_str, rd_tup, rd_lst, rd_dct, rd_scr, rd_own0, rd_own, memGet_own0, memGet_own, memSet_own0, obD, Option.getD_some, Option.bind_some, Option.map_some, isX_non, isX_bl, isX_int, isX_str, isX_tup, isX_lst, isX_dct, isX_ref, isX_scr, le1, ltI, leI, gtI, geI, eqI, neI, eqS, neS, mem1, nmem1, isN, isntN, tru_bl, tru_non, bi_int_int, bi_len_str, bi_len_lst, bi_len_tup, bi_len_dct, bi_len_scr, bin_add_int, bin_sub_int, bmT, bmA, bm_part, bm_find, tyV_tuple, tyV_bool, tyV_str, tyV_int, tyV_list, tyW_str, tyW_int, tyW_tup, tyW_lst, tyW_bl, tyW_non, Bool.not_true, Bool.not_false, Bool.and_true, Bool.true_and, Bool.or_true, Bool.true_or, Bool.and_false, Bool.false_and, Bool.or_false, Bool.false_or, decide_true, decide_false, evF, fsV_str, Nat.reduceAdd, Nat.reduceLT, Nat.reduceSub, Nat.reduceLeDiff, Int.reduceLT, Int.reduceLE, Int.reduceToNat, Int.reduceNeg, Int.reduceMul, Int.reduceAdd, Int.reduceSub, if_true, if_false, ite_true, ite_false, ↓reduceIte, reduceCtorEq, Bool.false_eq_true, walkS_lst, walkS_tup, walkS_str, bcT, bcA, walkE_lst, walkE_tup, walkE_str, isXdv, at_tabs (Q := Q) hj, memTL hlt, rdT, rdD, hb]
    rw [wp_ok]
    exact ⟨_, rfl⟩
  | false =>
    simp only [↓ex_for, ↓ex_whl, ↓ev_lc, ↓ev_alg, ↓ev_ang, ↓ev_dc, exs, ex, ev, evs, evT, evTs, evO, asgLv, asgT, asgTs, wipe, R.bind_ok, R.bind_exc, R.bind_stuck, up_stuck, R.up_ok, R.up_exc, R.of_some, calm_ok, ok_and, ok_or, ok_andD, ok_orD, bind_ite, up_ite, pm_cf, List.getElem?_cons_zero, List.getElem?_cons_succ, List.set_cons_zero, List.set_cons_succ, List.length_cons, List.length_nil, List.map_cons, List.map_nil, List.nil_append, List.cons_append, Nat.zero_add, Nat.add_zero, rd_non, rd_bl, rd_int, rd_str, rd_tup, rd_lst, rd_dct, rd_scr, rd_own0, rd_own, memGet_own0, memGet_own, memSet_own0, obD, Option.getD_some, Option.bind_some, Option.map_some, isX_non, isX_bl, isX_int, isX_str, isX_tup, isX_lst, isX_dct, isX_ref, isX_scr, le1, ltI, leI, gtI, geI, eqI, neI, eqS, neS, mem1, nmem1, isN, isntN, tru_bl, tru_non, bi_int_int, bi_len_str, bi_len_lst, bi_len_tup, bi_len_dct, bi_len_scr, bin_add_int, bin_sub_int, bmT, bmA, bm_part, bm_find, tyV_tuple, tyV_bool, tyV_str, tyV_int, tyV_list, tyW_str, tyW_int, tyW_tup, tyW_lst, tyW_bl, tyW_non, Bool.not_true, Bool.not_false, Bool.and_true, Bool.true_and, Bool.or_true, Bool.true_or, Bool.and_false, Bool.false_and, Bool.or_false, Bool.false_or, decide_true, decide_false, evF, fsV_str, Nat.reduceAdd, Nat.reduceLT, Nat.reduceSub, Nat.reduceLeDiff, Int.reduceLT, Int.reduceLE, Int.reduceToNat, Int.reduceNeg, Int.reduceMul, Int.reduceAdd, Int.reduceSub, if_true, if_false, ite_true, ite_false, ↓reduceIte, reduceCtorEq, Bool.false_eq_true, walkS_lst, walkS_tup, walkS_str, bcT, bcA, walkE_lst, walkE_tup, walkE_str, isXdv, at_tabs (Q := Q) hj, memTL hlt, rdT, rdD, hb]
    rw [wp_ok]
    exact ⟨_, rfl⟩
theorem loop5 (hcf : P.cf = callF g0 (n + 3)) {k : Nat} (hk : k < 3) (x6 x7 x8 x9 x10 : Option D) (E : Xn → Fr → Prop) : (forL (forB P ro (.v 8) L1006_5) (intsIn 0 4) (st1 is Q ro 3 (some (.int (k : Int))) x6 x7 x8 x9 x10)).wp (fun fl st => fl = .nx ∧ ∃ x6 x7 x8 x9 x10, st = st1 is Q ro 3 (some (.int (k : Int))) x6 x7 x8 x9 x10) E := by
  refine forR_wp (fun _ st => ∃ x6 x7 x8 x9 x10, st = st1 is Q ro 3 (some (.int (k : Int))) x6 x7 x8 x9 x10) ⟨_, _, _, _, _, rfl⟩ ?_ fun st h => ⟨rfl, h⟩
  rintro j z st hj hz ⟨x6, x7, x8, x9, x10, rfl⟩
  rw [Int.zero_add] at hz
  subst hz
  unfold L1006_5 forB
  simp only [↓ex_for, ↓ex_whl, ↓ev_lc, ↓ev_alg, ↓ev_ang, ↓ev_dc, exs, ex, ev, evs, evT, evTs, evO, asgLv, asgT, asgTs, wipe, R.bind_ok, R.bind_exc, R.bind_stuck, up_stuck, R.up_ok, R.up_exc, R.of_some, calm_ok, ok_and, ok_or, ok_andD, ok_orD, bind_ite, up_ite, pm_cf, List.getElem?_cons_zero, List.getElem?_cons_succ, List.set_cons_zero, List.set_cons_succ, List.length_cons, List.length_nil, List.map_cons, List.map_nil, List.nil_append, List.cons_append, Nat.zero_add, Nat.add_zero, rd_non, rd_bl, rd_int, rd_str, rd_tup, rd_lst, rd_dct, rd_scr, rd_own0, rd_own, memGet_own0, memGet_own, memSet_own0, obD, Option.getD_some, Option.bind_some, Option.map_some, isX_non, isX_bl, isX_int, isX_str, isX_tup, isX_lst, isX_dct, isX_ref, isX_scr, le1, ltI, leI, gtI, geI, eqI, neI, eqS, neS, mem1, nmem1, isN, isntN, tru_bl, tru_non, bi_int_int, bi_len_str, bi_len_lst, bi_len_tup, bi_len_dct, bi_len_scr, bin_add_int, bin_sub_int, bmT, bmA, bm_part, bm_find, tyV_tuple, tyV_bool, tyV_str, tyV_int, tyV_list, tyW_str, tyW_int, tyW_tup, tyW_lst, tyW_bl, tyW_non, Bool.not_true, Bool.not_false, Bool.and_true, Bool.true_and, Bool.or_true, Bool.true_or, Bool.and_false, Bool.false_and, Bool.or_false, Bool.false_or, decide_true, decide_false, evF, fsV_str, Nat.reduceAdd, Nat.reduceLT, Nat.reduceSub, Nat.reduceLeDiff, Int.reduceLT, Int.reduceLE, Int.reduceToNat, Int.reduceNeg, Int.reduceMul, Int.reduceAdd, Int.reduceSub, if_true, if_false, ite_true, ite_false, ↓reduceIte, reduceCtorEq, Bool.false_eq_true, walkS_lst, walkS_tup, walkS_str, bcT, bcA, walkE_lst, walkE_tup, walkE_str, at_chs (Q := Q) hk, rdG, rdT, (at2G _ _).1, (at2G _ _).2, walkS_tl]
  rw [wp_bind]
  refine wp_mono (loop3 hj _ _ _ _ _ _) (fun fl st h => ?_) fun _ _ h => h
  obtain ⟨rfl, y, rfl⟩ := h
  simp only [↓ex_for, ↓ex_whl, ↓ev_lc, ↓ev_alg, ↓ev_ang, ↓ev_dc, exs, ex, ev, evs, evT, evTs, evO, asgLv, asgT, asgTs, wipe, R.bind_ok, R.bind_exc, R.bind_stuck, up_stuck, R.up_ok, R.up_exc, R.of_some, calm_ok, ok_and, ok_or, ok_andD, ok_orD, bind_ite, up_ite, pm_cf, List.getElem?_cons_zero, List.getElem?_cons_succ, List.set_cons_zero, List.set_cons_succ, List.length_cons, List.length_nil, List.map_cons, List.map_nil, List.nil_append, List.cons_append, Nat.zero_add, Nat.add_zero, rd_non, rd_bl, rd_int, rd_str, rd_tup, rd_lst, rd_dct, rd_scr, rd_own0, rd_own, memGet_own0, memGet_own, memSet_own0, obD, Option.getD_some, Option.bind_some, Option.map_some, isX_non, isX_bl, isX_int, isX_str, isX_tup, isX_lst, isX_dct, isX_ref, isX_scr, le1, ltI, leI, gtI, geI, eqI, neI, eqS, neS, mem1, nmem1, isN, isntN, tru_bl, tru_non, bi_int_int, bi_len_str, bi_len_lst, bi_len_tup, bi_len_dct, bi_len_scr, bin_add_int, bin_sub_int, bmT, bmA, bm_part, bm_find, tyV_tuple, tyV_bool, tyV_str, tyV_int, tyV_list, tyW_str, tyW_int, tyW_tup, tyW_lst, tyW_bl, tyW_non, Bool.not_true, Bool.not_false, Bool.and_true, Bool.true_and, Bool.or_true, Bool.true_or, Bool.and_false, Bool.false_and, Bool.or_false, Bool.false_or, decide_true, decide_false, evF, fsV_str, Nat.reduceAdd, Nat.reduceLT, Nat.reduceSub, Nat.reduceLeDiff, Int.reduceLT, Int.reduceLE, Int.reduceToNat, Int.reduceNeg, Int.reduceMul, Int.reduceAdd, Int.reduceSub, if_true, if_false, ite_true, ite_false, ↓reduceIte, reduceCtorEq, Bool.false_eq_true, walkS_lst, walkS_tup, walkS_str, bcT, bcA, walkE_lst, walkE_tup, walkE_str, at_chs (Q := Q) hk, rdG, rdT, (at2G _ _).1, (at2G _ _).2, walkS_tl]
  rw [wp_bind]
  refine wp_mono (loop4 hj _ _ _ _ _ _ _) (fun fl st h => ?_) fun _ _ h => h
  obtain ⟨rfl, y, rfl⟩ := h
  have hA := eqA ro [Ob.lst (chs Q 3)] (Q j) (del (Q k) (Q (k + 1))) (del (Q (k + 1)) (Q k))
  unfold msgA at hA
  simp only [↓ex_for, ↓ex_whl, ↓ev_lc, ↓ev_alg, ↓ev_ang, ↓ev_dc, exs, ex, ev, evs, evT, evTs, evO, asgLv, asgT, asgTs, wipe, R.bind_ok, R.bind_exc, R.bind_stuck, up_stuck, R.up_ok, R.up_exc, R.of_some, calm_ok, ok_and, ok_or, ok_andD, ok_orD, bind_ite, up_ite, pm_cf, List.getElem?_cons_zero, List.getElem?_cons_succ, List.set_cons_zero, List.set_cons_succ, List.length_cons, List.length_nil, List.map_cons, List.map_nil, List.nil_append, List.cons_append, Nat.zero_add, Nat.add_zero, rd_non, rd_bl, rd_int, rd_str, rd_tup, rd_lst, rd_dct, rd_scr, rd_own0, rd_own, memGet_own0, memGet_own, memSet_own0, obD, Option.getD_some, Option.bind_some, Option.map_some, isX_non, isX_bl, isX_int, isX_str, isX_tup, isX_lst, isX_dct, isX_ref, isX_scr, le1, ltI, leI, gtI, geI, eqI, neI, eqS, neS, mem1, nmem1, isN, isntN, tru_bl, tru_non, bi_int_int, bi_len_str, bi_len_lst, bi_len_tup, bi_len_dct, bi_len_scr, bin_add_int, bin_sub_int, bmT, bmA, bm_part, bm_find, tyV_tuple, tyV_bool, tyV_str, tyV_int, tyV_list, tyW_str, tyW_int, tyW_tup, tyW_lst, tyW_bl, tyW_non, Bool.not_true, Bool.not_false, Bool.and_true, Bool.true_and, Bool.or_true, Bool.true_or, Bool.and_false, Bool.false_and, Bool.or_false, Bool.false_or, decide_true, decide_false, evF, fsV_str, Nat.reduceAdd, Nat.reduceLT, Nat.reduceSub, Nat.reduceLeDiff, Int.reduceLT, Int.reduceLE, Int.reduceToNat, Int.reduceNeg, Int.reduceMul, Int.reduceAdd, Int.reduceSub, if_true, if_false, ite_true, ite_false, ↓reduceIte, reduceCtorEq, Bool.false_eq_true, walkS_lst, walkS_tup, walkS_str, bcT, bcA, walkE_lst, walkE_tup, walkE_str, at_chs (Q := Q) hk, at_tabs (Q := Q) hj, rdG, rdT, hcf, h1004g, listT', isXA, hA, eqB]
  rw [show ((!fits (Q j) (del (Q k) (Q (k + 1))) (del (Q (k + 1)) (Q k))) == (((tb 18 (del (Q k) (Q (k + 1)))).all fun i => !Q j i) && (tb 18 (del (Q (k + 1)) (Q k))).all fun i => Q j i)) = false from by
    unfold fits
    generalize (_ && _ : Bool) = b
    cases b <;> rfl]
  simp only [↓ex_for, ↓ex_whl, ↓ev_lc, ↓ev_alg, ↓ev_ang, ↓ev_dc, exs, ex, ev, evs, evT, evTs, evO, asgLv, asgT, asgTs, wipe, R.bind_ok, R.bind_exc, R.bind_stuck, up_stuck, R.up_ok, R.up_exc, R.of_some, calm_ok, ok_and, ok_or, ok_andD, ok_orD, bind_ite, up_ite, pm_cf, List.getElem?_cons_zero, List.getElem?_cons_succ, List.set_cons_zero, List.set_cons_succ, List.length_cons, List.length_nil, List.map_cons, List.map_nil, List.nil_append, List.cons_append, Nat.zero_add, Nat.add_zero, rd_non, rd_bl, rd_int, rd_str, rd_tup, rd_lst, rd_dct, rd_scr, rd_own0, rd_own, memGet_own0, memGet_own, memSet_own0, obD, Option.getD_some, Option.bind_some, Option.map_some, isX_non, isX_bl, isX_int, isX_str, isX_tup, isX_lst, isX_dct, isX_ref, isX_scr, le1, ltI, leI, gtI, geI, eqI, neI, eqS, neS, mem1, nmem1, isN, isntN, tru_bl, tru_non, bi_int_int, bi_len_str, bi_len_lst, bi_len_tup, bi_len_dct, bi_len_scr, bin_add_int, bin_sub_int, bmT, bmA, bm_part, bm_find, tyV_tuple, tyV_bool, tyV_str, tyV_int, tyV_list, tyW_str, tyW_int, tyW_tup, tyW_lst, tyW_bl, tyW_non, Bool.not_true, Bool.not_false, Bool.and_true, Bool.true_and, Bool.or_true, Bool.true_or, Bool.and_false, Bool.false_and, Bool.or_false, Bool.false_or, decide_true, decide_false, evF, fsV_str, Nat.reduceAdd, Nat.reduceLT, Nat.reduceSub, Nat.reduceLeDiff, Int.reduceLT, Int.reduceLE, Int.reduceToNat, Int.reduceNeg, Int.reduceMul, Int.reduceAdd, Int.reduceSub, if_true, if_false, ite_true, ite_false, ↓reduceIte, reduceCtorEq, Bool.false_eq_true, walkS_lst, walkS_tup, walkS_str, bcT, bcA, walkE_lst, walkE_tup, walkE_str]
  rw [wp_ok]
  exact ⟨_, _, _, _, _, rfl⟩
theorem loop6 (hcf : P.cf = callF g0 (n + 3)) (x3 x6 x7 x8 x9 x10 : Option D) (E : Xn → Fr → Prop) : (forL (forB P ro (.v 3) L1006_6) (intsIn 0 3) (st1 is Q ro 3 x3 x6 x7 x8 x9 x10)).wp (fun fl st => fl = .nx ∧ ∃ x3 x6 x7 x8 x9 x10, st = st1 is Q ro 3 x3 x6 x7 x8 x9 x10) E := by
  refine forR_wp (fun _ st => ∃ x3 x6 x7 x8 x9 x10, st = st1 is Q ro 3 x3 x6 x7 x8 x9 x10) ⟨_, _, _, _, _, _, rfl⟩ ?_ fun st h => ⟨rfl, h⟩
  rintro k z st hk hz ⟨x3, x6, x7, x8, x9, x10, rfl⟩
  rw [Int.zero_add] at hz
  subst hz
  unfold L1006_6 forB
  simp only [↓ex_for, ↓ex_whl, ↓ev_lc, ↓ev_alg, ↓ev_ang, ↓ev_dc, exs, ex, ev, evs, evT, evTs, evO, asgLv, asgT, asgTs, wipe, R.bind_ok, R.bind_exc, R.bind_stuck, up_stuck, R.up_ok, R.up_exc, R.of_some, calm_ok, ok_and, ok_or, ok_andD, ok_orD, bind_ite, up_ite, pm_cf, List.getElem?_cons_zero, List.getElem?_cons_succ, List.set_cons_zero, List.set_cons_succ, List.length_cons, List.length_nil, List.map_cons, List.map_nil, List.nil_append, List.cons_append, Nat.zero_add, Nat.add_zero, rd_non, rd_bl, rd_int, rd_str, rd_tup, rd_lst, rd_dct, rd_scr, rd_own0, rd_own, memGet_own0, memGet_own, memSet_own0, obD, Option.getD_some, Option.bind_some, Option.map_some, isX_non, isX_bl, isX_int, isX_str, isX_tup, isX_lst, isX_dct, isX_ref, isX_scr, le1, ltI, leI, gtI, geI, eqI, neI, eqS, neS, mem1, nmem1, isN, isntN, tru_bl, tru_non, bi_int_int, bi_len_str, bi_len_lst, bi_len_tup, bi_len_dct, bi_len_scr, bin_add_int, bin_sub_int, bmT, bmA, bm_part, bm_find, tyV_tuple, tyV_bool, tyV_str, tyV_int, tyV_list, tyW_str, tyW_int, tyW_tup, tyW_lst, tyW_bl, tyW_non, Bool.not_true, Bool.not_false, Bool.and_true, Bool.true_and, Bool.or_true, Bool.true_or, Bool.and_false, Bool.false_and, Bool.or_false, Bool.false_or, decide_true, decide_false, evF, fsV_str, Nat.reduceAdd, Nat.reduceLT, Nat.reduceSub, Nat.reduceLeDiff, Int.reduceLT, Int.reduceLE, Int.reduceToNat, Int.reduceNeg, Int.reduceMul, Int.reduceAdd, Int.reduceSub, if_true, if_false, ite_true, ite_false, ↓reduceIte, reduceCtorEq, Bool.false_eq_true, walkS_lst, walkS_tup, walkS_str, bcT, bcA, walkE_lst, walkE_tup, walkE_str, rngV_int (by decide : (0 : Int) ≤ 4) (by decide : (4 : Int) ≤ 1000000)]
  rw [wp_bind]
  refine wp_mono (loop5 hcf hk _ _ _ _ _ _) (fun fl st h => ?_) fun _ _ h => h
  obtain ⟨rfl, x6, x7, x8, x9, x10, rfl⟩ := h
  exact ⟨_, _, _, _, _, _, rfl⟩
end
end Av.C
end
section
set_option linter.all false
set_option maxRecDepth 100000
namespace Av.C
section
theorem h1003 (n : Nat) (c : Int) (ro m : Mem) : ∃ e, callF g0 (n + 3) 1003 [.int c] ro m = .ok e m ∧ (∀ ro m, rd ro m e = e) ∧ ∃ q : Nat → Bool, biV .sorted [e] = some (tl q) := c_grants (n + 1) c ro m
theorem h1000 (n : Nat) (is : List Int) (k : Int) (ro m : Mem) (h0 : 0 ≤ k) : callF g0 (n + 3) 1000 [.scr is, .int k] ro m = .ok (.int (is.getD k.toNat 0)) m := c_cell (n + 2) is k ro m h0
theorem h1005g (n : Nat) (p q r s : Nat → Bool) (ro m : Mem) : callF g0 (n + 3) 1005 [cg p q, cg r s] ro m = .ok (cpd (del p q) (del q p) (del r s) (del s r)) m := c_composed n _ _ _ _ ro m
theorem apart_nil (a b : Nat → Bool) : apart a b = decide ((tb 18 fun i => a i && b i) = []) := by
  unfold apart
  rw [← tb_filter, Bool.eq_iff_iff, List.all_eq_true, decide_eq_true_iff, List.filter_eq_nil_iff]
  simp
theorem clash_len (a0 a1 b0 b1 : Nat → Bool) : decide (0 < (((tb 18 fun i => a0 i && b0 i).map dv ++ (tb 18 fun i => a1 i && b1 i).map dv).length : Int)) = !(apart a0 b0 && apart a1 b1) := by
  rw [apart_nil, apart_nil]
  generalize (tb 18 fun i => a0 i && b0 i) = A
  generalize (tb 18 fun i => a1 i && b1 i) = B
  cases A <;> cases B <;> simp <;> omega
theorem walkE_tl {α : Type} (ro : Mem) (p : Nat → Bool) (m : Mem) (k : List D → Mem → R Mem α) : walkE ro (tl p) m k = (k ((tb 18 p).map dv) m).calm fun a m1 => .ok a m1 := walkE_lst ro _ m k
theorem isXL (l : List D) : isX (.lst l) = false := rfl
theorem at_c0 (Q : Nat → Nat → Bool) : atV (.lst (chs Q 3)) (.int 0) = some (cg (Q 0) (Q 1)) := rfl
theorem at_c1 (Q : Nat → Nat → Bool) : atV (.lst (chs Q 3)) (.int 1) = some (cg (Q 1) (Q 2)) := rfl
theorem at_c2 (Q : Nat → Nat → Bool) : atV (.lst (chs Q 3)) (.int 2) = some (cg (Q 2) (Q 3)) := rfl
theorem at_t0 (Q : Nat → Nat → Bool) : atV (.lst (tabs Q)) (.int 0) = some (tl (Q 0)) := rfl
theorem at_t2 (Q : Nat → Nat → Bool) : atV (.lst (tabs Q)) (.int 2) = some (tl (Q 2)) := rfl
theorem at_t3 (Q : Nat → Nat → Bool) : atV (.lst (tabs Q)) (.int 3) = some (tl (Q 3)) := rfl
theorem c_law (n : Nat) (is : List Int) : callF g0 (n + 4) 1006 [.scr is] [] [] = .ok (.bl true) [] := by
  refine call_wp (fd := ⟨1, 11, true, B1006⟩) rfl rfl rfl fun P hP hcf => ?_
  show R.wp (exs P _ B1006 ⟨[some (.scr is), none, none, none, none, none, none, none, none, none, none], []⟩) _ _
  have hQ : ∀ k : Nat, ∃ q : Nat → Bool, ∃ e, callF g0 (n + 3) 1003 [.int (is.getD k 0)] ([] ++ []) [] = .ok e [] ∧ (∀ ro m, rd ro m e = e) ∧ biV .sorted [e] = some (tl q) := fun k => by
    obtain ⟨e, h1, h0, q, h2⟩ := h1003 n (is.getD k 0) ([] ++ []) []
    exact ⟨q, e, h1, h0, h2⟩
  obtain ⟨Q, hQ⟩ := Classical.axiomOfChoice hQ
  unfold B1006
  generalize hro : ([] ++ [] : Mem) = ro at hQ ⊢
  simp only [↓ex_for, ↓ex_whl, ↓ev_lc, ↓ev_alg, ↓ev_ang, ↓ev_dc, exs, ex, ev, evs, evT, evTs, evO, asgLv, asgT, asgTs, wipe, R.bind_ok, R.bind_exc, R.bind_stuck, up_stuck, R.up_ok, R.up_exc, R.of_some, calm_ok, ok_and, ok_or, ok_andD, ok_orD, bind_ite, up_ite, pm_cf, List.getElem?_cons_zero, List.getElem?_cons_succ, List.set_cons_zero, List.set_cons_succ, List.length_cons, List.length_nil, List.map_cons, List.map_nil, List.nil_append, List.cons_append, Nat.zero_add, Nat.add_zero, rd_non, rd_bl, rd_int, rd_str, rd_tup, rd_lst, rd_dct, rd_scr, rd_own0, rd_own, memGet_own0, memGet_own, memSet_own0, obD, Option.getD_some, Option.bind_some, Option.map_some, isX_non, isX_bl, isX_int, isX_str, isX_tup, isX_lst, isX_dct, isX_ref, isX_scr, le1, ltI, leI, gtI, geI, eqI, neI, eqS, neS, mem1, nmem1, isN, isntN, tru_bl, tru_non, bi_int_int, bi_len_str, bi_len_lst, bi_len_tup, bi_len_dct, bi_len_scr, bin_add_int, bin_sub_int, bmT, bmA, bm_part, bm_find, tyV_tuple, tyV_bool, tyV_str, tyV_int, tyV_list, tyW_str, tyW_int, tyW_tup, tyW_lst, tyW_bl, tyW_non, Bool.not_true, Bool.not_false, Bool.and_true, Bool.true_and, Bool.or_true, Bool.true_or, Bool.and_false, Bool.false_and, Bool.or_false, Bool.false_or, decide_true, decide_false, evF, fsV_str, Nat.reduceAdd, Nat.reduceLT, Nat.reduceSub, Nat.reduceLeDiff, Int.reduceLT, Int.reduceLE, Int.reduceToNat, Int.reduceNeg, Int.reduceMul, Int.reduceAdd, Int.reduceSub, if_true, if_false, ite_true, ite_false, ↓reduceIte, reduceCtorEq, Bool.false_eq_true, walkS_lst, walkS_tup, walkS_str, bcT, bcA, walkE_lst, walkE_tup, walkE_str, rngV_int (by decide : (0 : Int) ≤ 4) (by decide : (4 : Int) ≤ 1000000)]
  rw [lcR (n := 4) (g := fun k => tl (Q k))]
  · simp only [↓ex_for, ↓ex_whl, ↓ev_lc, ↓ev_alg, ↓ev_ang, ↓ev_dc, exs, ex, ev, evs, evT, evTs, evO, asgLv, asgT, asgTs, wipe, R.bind_ok, R.bind_exc, R.bind_stuck, up_stuck, R.up_ok, R.up_exc, R.of_some, calm_ok, ok_and, ok_or, ok_andD, ok_orD, bind_ite, up_ite, pm_cf, List.getElem?_cons_zero, List.getElem?_cons_succ, List.set_cons_zero, List.set_cons_succ, List.length_cons, List.length_nil, List.map_cons, List.map_nil, List.nil_append, List.cons_append, Nat.zero_add, Nat.add_zero, rd_non, rd_bl, rd_int, rd_str, rd_tup, rd_lst, rd_dct, rd_scr, rd_own0, rd_own, memGet_own0, memGet_own, memSet_own0, obD, Option.getD_some, Option.bind_some, Option.map_some, isX_non, isX_bl, isX_int, isX_str, isX_tup, isX_lst, isX_dct, isX_ref, isX_scr, le1, ltI, leI, gtI, geI, eqI, neI, eqS, neS, mem1, nmem1, isN, isntN, tru_bl, tru_non, bi_int_int, bi_len_str, bi_len_lst, bi_len_tup, bi_len_dct, bi_len_scr, bin_add_int, bin_sub_int, bmT, bmA, bm_part, bm_find, tyV_tuple, tyV_bool, tyV_str, tyV_int, tyV_list, tyW_str, tyW_int, tyW_tup, tyW_lst, tyW_bl, tyW_non, Bool.not_true, Bool.not_false, Bool.and_true, Bool.true_and, Bool.or_true, Bool.true_or, Bool.and_false, Bool.false_and, Bool.or_false, Bool.false_or, decide_true, decide_false, evF, fsV_str, Nat.reduceAdd, Nat.reduceLT, Nat.reduceSub, Nat.reduceLeDiff, Int.reduceLT, Int.reduceLE, Int.reduceToNat, Int.reduceNeg, Int.reduceMul, Int.reduceAdd, Int.reduceSub, if_true, if_false, ite_true, ite_false, ↓reduceIte, reduceCtorEq, Bool.false_eq_true, walkS_lst, walkS_tup, walkS_str, bcT, bcA, walkE_lst, walkE_tup, walkE_str, rngV_int (by decide : (0 : Int) ≤ 3) (by decide : (3 : Int) ≤ 1000000)]
    rw [wp_bind]
    refine wp_mono (loop1 (is := is) (Q := Q) hcf _) (fun fl st h => ?_) fun _ _ h => h
    obtain ⟨rfl, x3, x6, x7, rfl⟩ := h
    simp only [↓ex_for, ↓ex_whl, ↓ev_lc, ↓ev_alg, ↓ev_ang, ↓ev_dc, exs, ex, ev, evs, evT, evTs, evO, asgLv, asgT, asgTs, wipe, R.bind_ok, R.bind_exc, R.bind_stuck, up_stuck, R.up_ok, R.up_exc, R.of_some, calm_ok, ok_and, ok_or, ok_andD, ok_orD, bind_ite, up_ite, pm_cf, List.getElem?_cons_zero, List.getElem?_cons_succ, List.set_cons_zero, List.set_cons_succ, List.length_cons, List.length_nil, List.map_cons, List.map_nil, List.nil_append, List.cons_append, Nat.zero_add, Nat.add_zero, rd_non, rd_bl, rd_int, rd_str, rd_tup, rd_lst, rd_dct, rd_scr, rd_own0, rd_own, memGet_own0, memGet_own, memSet_own0, obD, Option.getD_some, Option.bind_some, Option.map_some, isX_non, isX_bl, isX_int, isX_str, isX_tup, isX_lst, isX_dct, isX_ref, isX_scr, le1, ltI, leI, gtI, geI, eqI, neI, eqS, neS, mem1, nmem1, isN, isntN, tru_bl, tru_non, bi_int_int, bi_len_str, bi_len_lst, bi_len_tup, bi_len_dct, bi_len_scr, bin_add_int, bin_sub_int, bmT, bmA, bm_part, bm_find, tyV_tuple, tyV_bool, tyV_str, tyV_int, tyV_list, tyW_str, tyW_int, tyW_tup, tyW_lst, tyW_bl, tyW_non, Bool.not_true, Bool.not_false, Bool.and_true, Bool.true_and, Bool.or_true, Bool.true_or, Bool.and_false, Bool.false_and, Bool.or_false, Bool.false_or, decide_true, decide_false, evF, fsV_str, Nat.reduceAdd, Nat.reduceLT, Nat.reduceSub, Nat.reduceLeDiff, Int.reduceLT, Int.reduceLE, Int.reduceToNat, Int.reduceNeg, Int.reduceMul, Int.reduceAdd, Int.reduceSub, if_true, if_false, ite_true, ite_false, ↓reduceIte, reduceCtorEq, Bool.false_eq_true, walkS_lst, walkS_tup, walkS_str, bcT, bcA, walkE_lst, walkE_tup, walkE_str, rngV_int (by decide : (0 : Int) ≤ 3) (by decide : (3 : Int) ≤ 1000000)]
    rw [wp_bind]
    refine wp_mono (loop6 (is := is) (Q := Q) hcf _ _ _ _ _ _ _) (fun fl st h => ?_) fun _ _ h => h
    obtain ⟨rfl, x3, x6, x7, x8, x9, x10, rfl⟩ := h
    simp only [↓ex_for, ↓ex_whl, ↓ev_lc, ↓ev_alg, ↓ev_ang, ↓ev_dc, exs, ex, ev, evs, evT, evTs, evO, asgLv, asgT, asgTs, wipe, R.bind_ok, R.bind_exc, R.bind_stuck, up_stuck, R.up_ok, R.up_exc, R.of_some, calm_ok, ok_and, ok_or, ok_andD, ok_orD, bind_ite, up_ite, pm_cf, List.getElem?_cons_zero, List.getElem?_cons_succ, List.set_cons_zero, List.set_cons_succ, List.length_cons, List.length_nil, List.map_cons, List.map_nil, List.nil_append, List.cons_append, Nat.zero_add, Nat.add_zero, rd_non, rd_bl, rd_int, rd_str, rd_tup, rd_lst, rd_dct, rd_scr, rd_own0, rd_own, memGet_own0, memGet_own, memSet_own0, obD, Option.getD_some, Option.bind_some, Option.map_some, isX_non, isX_bl, isX_int, isX_str, isX_tup, isX_lst, isX_dct, isX_ref, isX_scr, le1, ltI, leI, gtI, geI, eqI, neI, eqS, neS, mem1, nmem1, isN, isntN, tru_bl, tru_non, bi_int_int, bi_len_str, bi_len_lst, bi_len_tup, bi_len_dct, bi_len_scr, bin_add_int, bin_sub_int, bmT, bmA, bm_part, bm_find, tyV_tuple, tyV_bool, tyV_str, tyV_int, tyV_list, tyW_str, tyW_int, tyW_tup, tyW_lst, tyW_bl, tyW_non, Bool.not_true, Bool.not_false, Bool.and_true, Bool.true_and, Bool.or_true, Bool.true_or, Bool.and_false, Bool.false_and, Bool.or_false, Bool.false_or, decide_true, decide_false, evF, fsV_str, Nat.reduceAdd, Nat.reduceLT, Nat.reduceSub, Nat.reduceLeDiff, Int.reduceLT, Int.reduceLE, Int.reduceToNat, Int.reduceNeg, Int.reduceMul, Int.reduceAdd, Int.reduceSub, if_true, if_false, ite_true, ite_false, ↓reduceIte, reduceCtorEq, Bool.false_eq_true, walkS_lst, walkS_tup, walkS_str, bcT, bcA, walkE_lst, walkE_tup, walkE_str, at_c0, at_c1, at_c2, at_t0, at_t2, at_t3, rdG, rdT, hcf, h1005, h1002, h14, neCC, isXG, (at2G _ _).1, (at2G _ _).2, walkE_tl]
    rw [lcL_map dv _ (fun i => if del (Q 2) (Q 3) i then some (dv i) else none)]
    · rw [fm_tb fun _ _ => rfl]
      simp only [↓ex_for, ↓ex_whl, ↓ev_lc, ↓ev_alg, ↓ev_ang, ↓ev_dc, exs, ex, ev, evs, evT, evTs, evO, asgLv, asgT, asgTs, wipe, R.bind_ok, R.bind_exc, R.bind_stuck, up_stuck, R.up_ok, R.up_exc, R.of_some, calm_ok, ok_and, ok_or, ok_andD, ok_orD, bind_ite, up_ite, pm_cf, List.getElem?_cons_zero, List.getElem?_cons_succ, List.set_cons_zero, List.set_cons_succ, List.length_cons, List.length_nil, List.map_cons, List.map_nil, List.nil_append, List.cons_append, Nat.zero_add, Nat.add_zero, rd_non, rd_bl, rd_int, rd_str, rd_tup, rd_lst, rd_dct, rd_scr, rd_own0, rd_own, memGet_own0, memGet_own, memSet_own0, obD, Option.getD_some, Option.bind_some, Option.map_some, isX_non, isX_bl, isX_int, isX_str, isX_tup, isX_lst, isX_dct, isX_ref, isX_scr, le1, ltI, leI, gtI, geI, eqI, neI, eqS, neS, mem1, nmem1, isN, isntN, tru_bl, tru_non, bi_int_int, bi_len_str, bi_len_lst, bi_len_tup, bi_len_dct, bi_len_scr, bin_add_int, bin_sub_int, bmT, bmA, bm_part, bm_find, tyV_tuple, tyV_bool, tyV_str, tyV_int, tyV_list, tyW_str, tyW_int, tyW_tup, tyW_lst, tyW_bl, tyW_non, Bool.not_true, Bool.not_false, Bool.and_true, Bool.true_and, Bool.or_true, Bool.true_or, Bool.and_false, Bool.false_and, Bool.or_false, Bool.false_or, decide_true, decide_false, evF, fsV_str, Nat.reduceAdd, Nat.reduceLT, Nat.reduceSub, Nat.reduceLeDiff, Int.reduceLT, Int.reduceLE, Int.reduceToNat, Int.reduceNeg, Int.reduceMul, Int.reduceAdd, Int.reduceSub, if_true, if_false, ite_true, ite_false, ↓reduceIte, reduceCtorEq, Bool.false_eq_true, walkS_lst, walkS_tup, walkS_str, bcT, bcA, walkE_lst, walkE_tup, walkE_str, at_c0, at_c1, at_c2, rdG, rdT, hcf, (at2G _ _).1, (at2G _ _).2, walkE_tl]
      rw [lcL_map dv _ (fun i => if del (Q 3) (Q 2) i then some (dv i) else none)]
      · rw [fm_tb fun _ _ => rfl]
        have hC := eqC ro [Ob.lst (chs Q 3)] (del (Q 0) (Q 1)) (del (Q 1) (Q 0)) (del (Q 2) (Q 3)) (del (Q 3) (Q 2))
        unfold msgC at hC
        simp only [↓ex_for, ↓ex_whl, ↓ev_lc, ↓ev_alg, ↓ev_ang, ↓ev_dc, exs, ex, ev, evs, evT, evTs, evO, asgLv, asgT, asgTs, wipe, R.bind_ok, R.bind_exc, R.bind_stuck, up_stuck, R.up_ok, R.up_exc, R.of_some, calm_ok, ok_and, ok_or, ok_andD, ok_orD, bind_ite, up_ite, pm_cf, List.getElem?_cons_zero, List.getElem?_cons_succ, List.set_cons_zero, List.set_cons_succ, List.length_cons, List.length_nil, List.map_cons, List.map_nil, List.nil_append, List.cons_append, Nat.zero_add, Nat.add_zero, rd_non, rd_bl, rd_int, rd_str, rd_tup, rd_lst, rd_dct, rd_scr, rd_own0, rd_own, memGet_own0, memGet_own, memSet_own0, obD, Option.getD_some, Option.bind_some, Option.map_some, isX_non, isX_bl, isX_int, isX_str, isX_tup, isX_lst, isX_dct, isX_ref, isX_scr, le1, ltI, leI, gtI, geI, eqI, neI, eqS, neS, mem1, nmem1, isN, isntN, tru_bl, tru_non, bi_int_int, bi_len_str, bi_len_lst, bi_len_tup, bi_len_dct, bi_len_scr, bin_add_int, bin_sub_int, bmT, bmA, bm_part, bm_find, tyV_tuple, tyV_bool, tyV_str, tyV_int, tyV_list, tyW_str, tyW_int, tyW_tup, tyW_lst, tyW_bl, tyW_non, Bool.not_true, Bool.not_false, Bool.and_true, Bool.true_and, Bool.or_true, Bool.true_or, Bool.and_false, Bool.false_and, Bool.or_false, Bool.false_or, decide_true, decide_false, evF, fsV_str, Nat.reduceAdd, Nat.reduceLT, Nat.reduceSub, Nat.reduceLeDiff, Int.reduceLT, Int.reduceLE, Int.reduceToNat, Int.reduceNeg, Int.reduceMul, Int.reduceAdd, Int.reduceSub, if_true, if_false, ite_true, ite_false, ↓reduceIte, reduceCtorEq, Bool.false_eq_true, walkS_lst, walkS_tup, walkS_str, bcT, bcA, walkE_lst, walkE_tup, walkE_str, at_c0, at_c1, at_c2, rdG, rdT, hcf, add2, h1005g, hC, clash_len, eqB]
        rw [show ∀ b : Bool, (b == b) = true from fun b => by cases b <;> rfl]
        rfl
      · intro i hi
        unfold lcB
        simp only [↓ex_for, ↓ex_whl, ↓ev_lc, ↓ev_alg, ↓ev_ang, ↓ev_dc, exs, ex, ev, evs, evT, evTs, evO, asgLv, asgT, asgTs, wipe, R.bind_ok, R.bind_exc, R.bind_stuck, up_stuck, R.up_ok, R.up_exc, R.of_some, calm_ok, ok_and, ok_or, ok_andD, ok_orD, bind_ite, up_ite, pm_cf, List.getElem?_cons_zero, List.getElem?_cons_succ, List.set_cons_zero, List.set_cons_succ, List.length_cons, List.length_nil, List.map_cons, List.map_nil, List.nil_append, List.cons_append, Nat.zero_add, Nat.add_zero, rd_non, rd_bl, rd_int, rd_str, rd_tup, rd_lst, rd_dct, rd_scr, rd_own0, rd_own, memGet_own0, memGet_own, memSet_own0, obD, Option.getD_some, Option.bind_some, Option.map_some, isX_non, isX_bl, isX_int, isX_str, isX_tup, isX_lst, isX_dct, isX_ref, isX_scr, le1, ltI, leI, gtI, geI, eqI, neI, eqS, neS, mem1, nmem1, isN, isntN, tru_bl, tru_non, bi_int_int, bi_len_str, bi_len_lst, bi_len_tup, bi_len_dct, bi_len_scr, bin_add_int, bin_sub_int, bmT, bmA, bm_part, bm_find, tyV_tuple, tyV_bool, tyV_str, tyV_int, tyV_list, tyW_str, tyW_int, tyW_tup, tyW_lst, tyW_bl, tyW_non, Bool.not_true, Bool.not_false, Bool.and_true, Bool.true_and, Bool.or_true, Bool.true_or, Bool.and_false, Bool.false_and, Bool.or_false, Bool.false_or, decide_true, decide_false, evF, fsV_str, Nat.reduceAdd, Nat.reduceLT, Nat.reduceSub, Nat.reduceLeDiff, Int.reduceLT, Int.reduceLE, Int.reduceToNat, Int.reduceNeg, Int.reduceMul, Int.reduceAdd, Int.reduceSub, if_true, if_false, ite_true, ite_false, ↓reduceIte, reduceCtorEq, Bool.false_eq_true, walkS_lst, walkS_tup, walkS_str, bcT, bcA, walkE_lst, walkE_tup, walkE_str, isXdv, at_c0, at_c1, at_c2, rdG, rdT, rdD, (at2G _ _).1, (at2G _ _).2, memTL (tb_lt i hi)]
        cases del (Q 3) (Q 2) i <;> rfl
    · intro i hi
      unfold lcB
      simp only [↓ex_for, ↓ex_whl, ↓ev_lc, ↓ev_alg, ↓ev_ang, ↓ev_dc, exs, ex, ev, evs, evT, evTs, evO, asgLv, asgT, asgTs, wipe, R.bind_ok, R.bind_exc, R.bind_stuck, up_stuck, R.up_ok, R.up_exc, R.of_some, calm_ok, ok_and, ok_or, ok_andD, ok_orD, bind_ite, up_ite, pm_cf, List.getElem?_cons_zero, List.getElem?_cons_succ, List.set_cons_zero, List.set_cons_succ, List.length_cons, List.length_nil, List.map_cons, List.map_nil, List.nil_append, List.cons_append, Nat.zero_add, Nat.add_zero, rd_non, rd_bl, rd_int, rd_str, rd_tup, rd_lst, rd_dct, rd_scr, rd_own0, rd_own, memGet_own0, memGet_own, memSet_own0, obD, Option.getD_some, Option.bind_some, Option.map_some, isX_non, isX_bl, isX_int, isX_str, isX_tup, isX_lst, isX_dct, isX_ref, isX_scr, le1, ltI, leI, gtI, geI, eqI, neI, eqS, neS, mem1, nmem1, isN, isntN, tru_bl, tru_non, bi_int_int, bi_len_str, bi_len_lst, bi_len_tup, bi_len_dct, bi_len_scr, bin_add_int, bin_sub_int, bmT, bmA, bm_part, bm_find, tyV_tuple, tyV_bool, tyV_str, tyV_int, tyV_list, tyW_str, tyW_int, tyW_tup, tyW_lst, tyW_bl, tyW_non, Bool.not_true, Bool.not_false, Bool.and_true, Bool.true_and, Bool.or_true, Bool.true_or, Bool.and_false, Bool.false_and, Bool.or_false, Bool.false_or, decide_true, decide_false, evF, fsV_str, Nat.reduceAdd, Nat.reduceLT, Nat.reduceSub, Nat.reduceLeDiff, Int.reduceLT, Int.reduceLE, Int.reduceToNat, Int.reduceNeg, Int.reduceMul, Int.reduceAdd, Int.reduceSub, if_true, if_false, ite_true, ite_false, ↓reduceIte, reduceCtorEq, Bool.false_eq_true, walkS_lst, walkS_tup, walkS_str, bcT, bcA, walkE_lst, walkE_tup, walkE_str, isXdv, at_c0, at_c1, at_c2, rdG, rdT, rdD, (at2G _ _).1, (at2G _ _).2, memTL (tb_lt i hi)]
      cases del (Q 2) (Q 3) i <;> rfl
  · intro k z hk hz
    rw [Int.zero_add] at hz
    subst hz
    obtain ⟨e, h1, h0, h2⟩ := hQ k
    unfold lcB L1006_1
    simp only [↓ex_for, ↓ex_whl, ↓ev_lc, ↓ev_alg, ↓ev_ang, ↓ev_dc, exs, ex, ev, evs, evT, evTs, evO, asgLv, asgT, asgTs, wipe, R.bind_ok, R.bind_exc, R.bind_stuck, up_stuck, R.up_ok, R.up_exc, R.of_some, calm_ok, ok_and, ok_or, ok_andD, ok_orD, bind_ite, up_ite, pm_cf, List.getElem?_cons_zero, List.getElem?_cons_succ, List.set_cons_zero, List.set_cons_succ, List.length_cons, List.length_nil, List.map_cons, List.map_nil, List.nil_append, List.cons_append, Nat.zero_add, Nat.add_zero, rd_non, rd_bl, rd_int, rd_str, rd_tup, rd_lst, rd_dct, rd_scr, rd_own0, rd_own, memGet_own0, memGet_own, memSet_own0, obD, Option.getD_some, Option.bind_some, Option.map_some, isX_non, isX_bl, isX_int, isX_str, isX_tup, isX_lst, isX_dct, isX_ref, isX_scr, le1, ltI, leI, gtI, geI, eqI, neI, eqS, neS, mem1, nmem1, isN, isntN, tru_bl, tru_non, bi_int_int, bi_len_str, bi_len_lst, bi_len_tup, bi_len_dct, bi_len_scr, bin_add_int, bin_sub_int, bmT, bmA, bm_part, bm_find, tyV_tuple, tyV_bool, tyV_str, tyV_int, tyV_list, tyW_str, tyW_int, tyW_tup, tyW_lst, tyW_bl, tyW_non, Bool.not_true, Bool.not_false, Bool.and_true, Bool.true_and, Bool.or_true, Bool.true_or, Bool.and_false, Bool.false_and, Bool.or_false, Bool.false_or, decide_true, decide_false, evF, fsV_str, Nat.reduceAdd, Nat.reduceLT, Nat.reduceSub, Nat.reduceLeDiff, Int.reduceLT, Int.reduceLE, Int.reduceToNat, Int.reduceNeg, Int.reduceMul, Int.reduceAdd, Int.reduceSub, if_true, if_false, ite_true, ite_false, ↓reduceIte, reduceCtorEq, Bool.false_eq_true, walkS_lst, walkS_tup, walkS_str, bcT, bcA, walkE_lst, walkE_tup, walkE_str, hcf, h1000 n is (k : Int) ro [] (by omega), Int.toNat_natCast, h1, h0, h2]
end
end Av.C
end
section
set_option Elab.async false
set_option linter.all false
set_option maxRecDepth 100000
set_option maxHeartbeats 0
namespace Av
open PySem PySem.Spec PyProof.Rows L2
def top0 (i : Nat) : Stmt := PySem.Challenge.pw_authsync_k26_changes.main.body.getD i (.Pass ⟨0, 0, 0, 0⟩)
def gl0 : List (Str × GK) := ("len", .bi) :: ("list", .bi) :: ("tuple", .bi) :: ("sorted", .bi) :: ("isinstance", .bi) :: ("all", .bi) :: ("range", .bi) :: ("AuthError", .exc 0 false) :: ("Refused", .exc 1 true) :: ("difference", .fn 10 2 []) :: ("applies", .fn 11 2 []) :: ("apply_change", .fn 12 2 []) :: ("without", .fn 13 2 []) :: ("compose", .fn 14 2 []) :: ("_law_cell", .fn 1000 2 []) :: ("_law_draws", .fn 1001 2 []) :: ("_law_change", .fn 1002 2 []) :: ("_law_grants", .fn 1003 1 []) :: ("_law_applied", .fn 1004 2 []) :: ("_law_composed", .fn 1005 2 []) :: ("law", .fn 1006 1 []) :: []
def fs0 : List Str := ["what", "index"]
def N10 : List Str := ["before", "after", "old", "new", "grant"]
def P10 : List Str := ["before", "after"]
def D10 : He.DefD := ⟨("difference", none), "difference", "difference", defArgs (top0 4), defBody (top0 4), defScope (top0 4), [], []⟩
theorem sc10 : FnScope N10 P10 D10.scope := ⟨rfl, rfl, rfl, by decide +kernel, rfl, by decide +kernel, by decide +kernel⟩
theorem cp10 : cSs 60 ⟨N10, D10.scope.names, gl0, true, 2, false, false, none, fs0⟩ D10.body = some B10 := by kernel_rfl
def N11 : List Str := ["grants", "change", "known", "grant"]
def P11 : List Str := ["grants", "change"]
def D11 : He.DefD := ⟨("applies", none), "applies", "applies", defArgs (top0 5), defBody (top0 5), defScope (top0 5), [], []⟩
theorem sc11 : FnScope N11 P11 D11.scope := ⟨rfl, rfl, rfl, by decide +kernel, rfl, by decide +kernel, by decide +kernel⟩
theorem cp11 : cSs 60 ⟨N11, D11.scope.names, gl0, true, 2, true, false, none, fs0⟩ D11.body = some B11 := by kernel_rfl
def N12 : List Str := ["grants", "change", "lost", "grant"]
def P12 : List Str := ["grants", "change"]
def D12 : He.DefD := ⟨("apply_change", none), "apply_change", "apply_change", defArgs (top0 6), defBody (top0 6), defScope (top0 6), [], []⟩
theorem sc12 : FnScope N12 P12 D12.scope := ⟨rfl, rfl, rfl, by decide +kernel, rfl, by decide +kernel, by decide +kernel⟩
theorem cp12 : cSs 60 ⟨N12, D12.scope.names, gl0, true, 2, false, false, none, fs0⟩ D12.body = some B12 := by kernel_rfl
def N13 : List Str := ["grants", "others", "known", "grant"]
def P13 : List Str := ["grants", "others"]
def D13 : He.DefD := ⟨("without", none), "without", "without", defArgs (top0 7), defBody (top0 7), defScope (top0 7), [], []⟩
theorem sc13 : FnScope N13 P13 D13.scope := ⟨rfl, rfl, rfl, by decide +kernel, rfl, by decide +kernel, by decide +kernel⟩
theorem cp13 : cSs 60 ⟨N13, D13.scope.names, gl0, true, 2, false, false, none, fs0⟩ D13.body = some B13 := by kernel_rfl
def N14 : List Str := ["first", "second", "gained", "lost"]
def P14 : List Str := ["first", "second"]
def D14 : He.DefD := ⟨("compose", none), "compose", "compose", defArgs (top0 8), defBody (top0 8), defScope (top0 8), [], []⟩
theorem sc14 : FnScope N14 P14 D14.scope := ⟨rfl, rfl, rfl, by decide +kernel, rfl, by decide +kernel, by decide +kernel⟩
theorem cp14 : cSs 60 ⟨N14, D14.scope.names, gl0, true, 2, false, false, none, fs0⟩ D14.body = some B14 := by kernel_rfl
def N1000 : List Str := ["_law_script", "_law_k"]
def P1000 : List Str := ["_law_script", "_law_k"]
def D1000 : He.DefD := ⟨("_law_cell", none), "_law_cell", "_law_cell", defArgs (top0 10), defBody (top0 10), defScope (top0 10), [], []⟩
theorem sc1000 : FnScope N1000 P1000 D1000.scope := ⟨rfl, rfl, rfl, by decide +kernel, rfl, by decide +kernel, by decide +kernel⟩
theorem cp1000 : cSs 60 ⟨N1000, D1000.scope.names, gl0, true, 2, false, false, none, fs0⟩ D1000.body = some B1000 := by kernel_rfl
def N1001 : List Str := ["_law_cell_here", "_law_count", "_law_found", "_law_is_wide", "_law_k", "_law_mixed"]
def P1001 : List Str := ["_law_cell_here", "_law_count"]
def D1001 : He.DefD := ⟨("_law_draws", none), "_law_draws", "_law_draws", defArgs (top0 11), defBody (top0 11), defScope (top0 11), [], []⟩
theorem sc1001 : FnScope N1001 P1001 D1001.scope := ⟨rfl, rfl, rfl, by decide +kernel, rfl, by decide +kernel, by decide +kernel⟩
theorem cp1001 : cSs 60 ⟨N1001, D1001.scope.names, gl0, true, 2, false, false, none, fs0⟩ D1001.body = some B1001 := by kernel_rfl
def N1002 : List Str := ["_law_old", "_law_new", "_law_grant"]
def P1002 : List Str := ["_law_old", "_law_new"]
def D1002 : He.DefD := ⟨("_law_change", none), "_law_change", "_law_change", defArgs (top0 12), defBody (top0 12), defScope (top0 12), [], []⟩
theorem sc1002 : FnScope N1002 P1002 D1002.scope := ⟨rfl, rfl, rfl, by decide +kernel, rfl, by decide +kernel, by decide +kernel⟩
theorem cp1002 : cSs 60 ⟨N1002, D1002.scope.names, gl0, true, 2, false, false, none, fs0⟩ D1002.body = some B1002 := by kernel_rfl
def N1003 : List Str := ["_law_cell_here", "_law_draws_here", "_law_spread", "_law_k"]
def P1003 : List Str := ["_law_cell_here"]
def D1003 : He.DefD := ⟨("_law_grants", none), "_law_grants", "_law_grants", defArgs (top0 13), defBody (top0 13), defScope (top0 13), [], []⟩
theorem sc1003 : FnScope N1003 P1003 D1003.scope := ⟨rfl, rfl, rfl, by decide +kernel, rfl, by decide +kernel, by decide +kernel⟩
theorem cp1003 : cSs 60 ⟨N1003, D1003.scope.names, gl0, true, 2, false, false, none, fs0⟩ D1003.body = some B1003 := by kernel_rfl
def N1004 : List Str := ["_law_grants_here", "_law_change_here", "e"]
def P1004 : List Str := ["_law_grants_here", "_law_change_here"]
def D1004 : He.DefD := ⟨("_law_applied", none), "_law_applied", "_law_applied", defArgs (top0 14), defBody (top0 14), defScope (top0 14), [], []⟩
theorem sc1004 : FnScope N1004 P1004 D1004.scope := ⟨rfl, rfl, rfl, by decide +kernel, rfl, by decide +kernel, by decide +kernel⟩
theorem cp1004 : cSs 60 ⟨N1004, D1004.scope.names, gl0, true, 2, false, false, none, fs0⟩ D1004.body = some B1004 := by kernel_rfl
def N1005 : List Str := ["_law_first", "_law_second", "e"]
def P1005 : List Str := ["_law_first", "_law_second"]
def D1005 : He.DefD := ⟨("_law_composed", none), "_law_composed", "_law_composed", defArgs (top0 15), defBody (top0 15), defScope (top0 15), [], []⟩
theorem sc1005 : FnScope N1005 P1005 D1005.scope := ⟨rfl, rfl, rfl, by decide +kernel, rfl, by decide +kernel, by decide +kernel⟩
theorem cp1005 : cSs 60 ⟨N1005, D1005.scope.names, gl0, true, 2, false, false, none, fs0⟩ D1005.body = some B1005 := by kernel_rfl
def N1006 : List Str := ["_law_script", "_law_tables", "_law_changes", "_law_k", "_law_whole", "_law_clash", "_law_due", "_law_told", "_law_j", "_law_fits", "_law_grant"]
def P1006 : List Str := ["_law_script"]
def D1006 : He.DefD := ⟨("law", none), "law", "law", defArgs (top0 16), defBody (top0 16), defScope (top0 16), [], []⟩
theorem sc1006 : FnScope N1006 P1006 D1006.scope := ⟨rfl, rfl, rfl, by decide +kernel, rfl, by decide +kernel, by decide +kernel⟩
theorem cp1006 : cSs 60 ⟨N1006, D1006.scope.names, gl0, true, 2, false, false, none, fs0⟩ D1006.body = some B1006 := by kernel_rfl
def clBody (s : Stmt) (k : Nat) : Stmt := match s with | .ClassDef _ _ _ b _ _ _ _ _ _ _ => b.getD k (.Pass ⟨0, 0, 0, 0⟩) | s => s
def XD0 : XD := ⟨"AuthError", false, "", "", defArgs (top0 0), [], defScope (top0 0), "", ""⟩
def XR0 : XRow := ⟨XD0, "", "", "", .cst .non⟩
def XS1 : Stmt := clBody (top0 2) 0
def XD1 : XD := ⟨"Refused", true, "__init__", "Refused.__init__", defArgs XS1, defBody XS1, defScope XS1, "what", "index"⟩
def XR1 : XRow := ⟨XD1, "self", "what", "index", XM1⟩
theorem xs1 : XStat XR1 := by
  refine ⟨by kernel_rfl, ?_, by kernel_rfl, xbB_ok (n := 40) (by kernel_rfl) (by kernel_rfl), by decide +kernel, fun cl c doc pm ctv us hl => match us, hl with | [_, _, _], _ => rfl⟩
  exact NdefX.nscope_by (by kernel_rfl)
def X0 : List XRow := XR0 :: XR1 :: []
def xd0 : List XD := XD0 :: XD1 :: []
theorem hXs0 : ∀ r ∈ X0, r.d.init = true → XStat r := List.forall_mem_cons.mpr ⟨(fun z => by cases z), List.forall_mem_cons.mpr ⟨(fun _ => xs1), (fun _ z => nomatch z)⟩⟩
def fn0 : List He.DefD := [D10, D11, D12, D13, D14, D1000, D1001, D1002, D1003, D1004, D1005, D1006]
def fa0 : List He.Fa := ([.glo "difference", .glo "applies", .glo "apply_change", .glo "without", .glo "compose", .glo "_law_cell", .glo "_law_draws", .glo "_law_change", .glo "_law_grants", .glo "_law_applied", .glo "_law_composed", .glo "law", .glo "AuthError", .glo "Refused", .free "super", .free "len", .free "list", .free "tuple", .free "sorted", .free "isinstance"] : List He.Fa) ++ ([.free "all", .free "range"] : List He.Fa)
def tb0 : List (Str × Option Str) := [("applies", none)]
abbrev R0 : PySem.W.OpenRow := PySem.W.OpenLaw.row PySem.Challenge.rw_authsync_k26_changes
abbrev hk0 : PySem.W.Hook := hookX 5 fa0 fn0 tb0 R0.prog.main.file xd0 sub0
def ob0 (s : PySem.W.SharedT) : AlX := obsX 5 fa0 fn0 tb0 R0.prog.main.file xd0 sub0 (HandSHeadRun.getT s)
theorem ob_eq0 (s : PySem.W.SharedT) : ob0 s = hk0.obs s.abs := obsX_eq (HandSHeadRun.getT_eq s)
def loose0 : List Str := (["AuthError", "Refused", "difference", "applies", "apply_change", "without", "compose", "_law_cell", "_law_draws", "_law_change", "_law_grants", "_law_applied", "_law_composed"] : List Str)
theorem run0 (w : World) : HandSHeadRun.RunEq R0 (PySem.W.view R0.prog [16]) hk0 ob0 40000 loose0 w := by
  intro os
  kernel_rfl
def W10 : Row := ⟨10, D10, N10, P10, ⟨2, 5, true, B10⟩, false⟩
def W11 : Row := ⟨11, D11, N11, P11, ⟨2, 4, true, B11⟩, true⟩
def W12 : Row := ⟨12, D12, N12, P12, ⟨2, 4, true, B12⟩, false⟩
def W13 : Row := ⟨13, D13, N13, P13, ⟨2, 4, true, B13⟩, false⟩
def W14 : Row := ⟨14, D14, N14, P14, ⟨2, 4, true, B14⟩, false⟩
def W1000 : Row := ⟨1000, D1000, N1000, P1000, ⟨2, 2, true, B1000⟩, false⟩
def W1001 : Row := ⟨1001, D1001, N1001, P1001, ⟨2, 6, true, B1001⟩, false⟩
def W1002 : Row := ⟨1002, D1002, N1002, P1002, ⟨2, 3, true, B1002⟩, false⟩
def W1003 : Row := ⟨1003, D1003, N1003, P1003, ⟨1, 4, true, B1003⟩, false⟩
def W1004 : Row := ⟨1004, D1004, N1004, P1004, ⟨2, 3, true, B1004⟩, false⟩
def W1005 : Row := ⟨1005, D1005, N1005, P1005, ⟨2, 3, true, B1005⟩, false⟩
def W1006 : Row := ⟨1006, D1006, N1006, P1006, ⟨1, 11, true, B1006⟩, false⟩
def T0 : List Row := W10 :: W11 :: W12 :: W13 :: W14 :: W1000 :: W1001 :: W1002 :: W1003 :: W1004 :: W1005 :: W1006 :: []
theorem T0_all {p : Row → Prop} (h10 : p W10) (h11 : p W11) (h12 : p W12) (h13 : p W13) (h14 : p W14) (h1000 : p W1000) (h1001 : p W1001) (h1002 : p W1002) (h1003 : p W1003) (h1004 : p W1004) (h1005 : p W1005) (h1006 : p W1006) : ∀ r ∈ T0, p r := List.forall_mem_cons.mpr ⟨h10, List.forall_mem_cons.mpr ⟨h11, List.forall_mem_cons.mpr ⟨h12, List.forall_mem_cons.mpr ⟨h13, List.forall_mem_cons.mpr ⟨h14, List.forall_mem_cons.mpr ⟨h1000, List.forall_mem_cons.mpr ⟨h1001, List.forall_mem_cons.mpr ⟨h1002, List.forall_mem_cons.mpr ⟨h1003, List.forall_mem_cons.mpr ⟨h1004, List.forall_mem_cons.mpr ⟨h1005, List.forall_mem_cons.mpr ⟨h1006, (fun _ z => nomatch z)⟩⟩⟩⟩⟩⟩⟩⟩⟩⟩⟩⟩
section
variable {K : PySem.W.Frag} {h : Heap} {mg : Str → Option Value}
theorem hS0 : ∀ r ∈ T0, FnScope r.N r.P r.d.scope ∧ r.fd.np = r.P.length ∧ r.fd.ns = r.N.length ∧ cSs 60 ⟨r.N, r.d.scope.names, gl0, true, 2, r.tb, false, none, fs0⟩ r.d.body = some r.fd.body ∧ (r.tb = true → r.d.at_ ∈ tb0) := T0_all ⟨sc10, rfl, rfl, cp10, by decide⟩ ⟨sc11, rfl, rfl, cp11, by decide⟩ ⟨sc12, rfl, rfl, cp12, by decide⟩ ⟨sc13, rfl, rfl, cp13, by decide⟩ ⟨sc14, rfl, rfl, cp14, by decide⟩ ⟨sc1000, rfl, rfl, cp1000, by decide⟩ ⟨sc1001, rfl, rfl, cp1001, by decide⟩ ⟨sc1002, rfl, rfl, cp1002, by decide⟩ ⟨sc1003, rfl, rfl, cp1003, by decide⟩ ⟨sc1004, rfl, rfl, cp1004, by decide⟩ ⟨sc1005, rfl, rfl, cp1005, by decide⟩ ⟨sc1006, rfl, rfl, cp1006, by decide⟩
theorem hF0 (c : He.SaysD fa0 fn0 K) : ∀ r ∈ T0, ∃ fd, RowF K r fd := T0_all (c.def_ 0 (d := D10) rfl) (c.def_ 1 (d := D11) rfl) (c.def_ 2 (d := D12) rfl) (c.def_ 3 (d := D13) rfl) (c.def_ 4 (d := D14) rfl) (c.def_ 5 (d := D1000) rfl) (c.def_ 6 (d := D1001) rfl) (c.def_ 7 (d := D1002) rfl) (c.def_ 8 (d := D1003) rfl) (c.def_ 9 (d := D1004) rfl) (c.def_ 10 (d := D1005) rfl) (c.def_ 11 (d := D1006) rfl)
theorem hA0 : ∀ r ∈ T0, ∀ fd, RowF K r fd → ∀ (s : Shared) (us : List Value), us.length = r.P.length → BindsTo s fd ⟨us, []⟩ (r.P.zip us) := T0_all (fun _ F => FunD.bindsA F fun _ _ _ _ _ _ us hl => match us, hl with | [_, _], _ => rfl) (fun _ F => FunD.bindsA F fun _ _ _ _ _ _ us hl => match us, hl with | [_, _], _ => rfl) (fun _ F => FunD.bindsA F fun _ _ _ _ _ _ us hl => match us, hl with | [_, _], _ => rfl) (fun _ F => FunD.bindsA F fun _ _ _ _ _ _ us hl => match us, hl with | [_, _], _ => rfl) (fun _ F => FunD.bindsA F fun _ _ _ _ _ _ us hl => match us, hl with | [_, _], _ => rfl) (fun _ F => FunD.bindsA F fun _ _ _ _ _ _ us hl => match us, hl with | [_, _], _ => rfl) (fun _ F => FunD.bindsA F fun _ _ _ _ _ _ us hl => match us, hl with | [_, _], _ => rfl) (fun _ F => FunD.bindsA F fun _ _ _ _ _ _ us hl => match us, hl with | [_, _], _ => rfl) (fun _ F => FunD.bindsA F fun _ _ _ _ _ _ us hl => match us, hl with | [_], _ => rfl) (fun _ F => FunD.bindsA F fun _ _ _ _ _ _ us hl => match us, hl with | [_, _], _ => rfl) (fun _ F => FunD.bindsA F fun _ _ _ _ _ _ us hl => match us, hl with | [_, _], _ => rfl) (fun _ F => FunD.bindsA F fun _ _ _ _ _ _ us hl => match us, hl with | [_], _ => rfl)
theorem hsup0 (X : K.In h) (G : h.Ns mainGlobals mg) (c : He.SaysD fa0 fn0 K) : X0 ≠ [] → mg "super" = none := fun _ => He.free_ok X G (c.fact 14 (f := .free "super") rfl)
theorem gl0_all {p : Str × GK → Prop} (h0 : p ("len", .bi)) (h1 : p ("list", .bi)) (h2 : p ("tuple", .bi)) (h3 : p ("sorted", .bi)) (h4 : p ("isinstance", .bi)) (h5 : p ("all", .bi)) (h6 : p ("range", .bi)) (h7 : p ("AuthError", .exc 0 false)) (h8 : p ("Refused", .exc 1 true)) (h9 : p ("difference", .fn 10 2 [])) (h10 : p ("applies", .fn 11 2 [])) (h11 : p ("apply_change", .fn 12 2 [])) (h12 : p ("without", .fn 13 2 [])) (h13 : p ("compose", .fn 14 2 [])) (h14 : p ("_law_cell", .fn 1000 2 [])) (h15 : p ("_law_draws", .fn 1001 2 [])) (h16 : p ("_law_change", .fn 1002 2 [])) (h17 : p ("_law_grants", .fn 1003 1 [])) (h18 : p ("_law_applied", .fn 1004 2 [])) (h19 : p ("_law_composed", .fn 1005 2 [])) (h20 : p ("law", .fn 1006 1 [])) : ∀ q ∈ gl0, p q := List.forall_mem_cons.mpr ⟨h0, List.forall_mem_cons.mpr ⟨h1, List.forall_mem_cons.mpr ⟨h2, List.forall_mem_cons.mpr ⟨h3, List.forall_mem_cons.mpr ⟨h4, List.forall_mem_cons.mpr ⟨h5, List.forall_mem_cons.mpr ⟨h6, List.forall_mem_cons.mpr ⟨h7, List.forall_mem_cons.mpr ⟨h8, List.forall_mem_cons.mpr ⟨h9, List.forall_mem_cons.mpr ⟨h10, List.forall_mem_cons.mpr ⟨h11, List.forall_mem_cons.mpr ⟨h12, List.forall_mem_cons.mpr ⟨h13, List.forall_mem_cons.mpr ⟨h14, List.forall_mem_cons.mpr ⟨h15, List.forall_mem_cons.mpr ⟨h16, List.forall_mem_cons.mpr ⟨h17, List.forall_mem_cons.mpr ⟨h18, List.forall_mem_cons.mpr ⟨h19, List.forall_mem_cons.mpr ⟨h20, (fun _ z => nomatch z)⟩⟩⟩⟩⟩⟩⟩⟩⟩⟩⟩⟩⟩⟩⟩⟩⟩⟩⟩⟩⟩
theorem hG0 (X : K.In h) (G : h.Ns mainGlobals mg) (c : He.SaysD fa0 fn0 K) : ∀ q ∈ gl0, GlR K T0 X0 mg q.1 q.2 := gl0_all (He.free_ok X G (c.fact 15 (f := .free "len") rfl)) (He.free_ok X G (c.fact 16 (f := .free "list") rfl)) (He.free_ok X G (c.fact 17 (f := .free "tuple") rfl)) (He.free_ok X G (c.fact 18 (f := .free "sorted") rfl)) (He.free_ok X G (c.fact 19 (f := .free "isinstance") rfl)) (He.free_ok X G (c.fact 20 (f := .free "all") rfl)) (He.free_ok X G (c.fact 21 (f := .free "range") rfl)) ⟨XR0, rfl, rfl, (fun z => by cases z), He.glo_ok X G (c.fact 12 (f := .glo "AuthError") rfl)⟩ ⟨XR1, rfl, rfl, (fun z => rfl), He.glo_ok X G (c.fact 13 (f := .glo "Refused") rfl)⟩ ⟨W10, rfl, rfl, rfl, He.glo_ok X G (c.fact 0 (f := .glo "difference") rfl)⟩ ⟨W11, rfl, rfl, rfl, He.glo_ok X G (c.fact 1 (f := .glo "applies") rfl)⟩ ⟨W12, rfl, rfl, rfl, He.glo_ok X G (c.fact 2 (f := .glo "apply_change") rfl)⟩ ⟨W13, rfl, rfl, rfl, He.glo_ok X G (c.fact 3 (f := .glo "without") rfl)⟩ ⟨W14, rfl, rfl, rfl, He.glo_ok X G (c.fact 4 (f := .glo "compose") rfl)⟩ ⟨W1000, rfl, rfl, rfl, He.glo_ok X G (c.fact 5 (f := .glo "_law_cell") rfl)⟩ ⟨W1001, rfl, rfl, rfl, He.glo_ok X G (c.fact 6 (f := .glo "_law_draws") rfl)⟩ ⟨W1002, rfl, rfl, rfl, He.glo_ok X G (c.fact 7 (f := .glo "_law_change") rfl)⟩ ⟨W1003, rfl, rfl, rfl, He.glo_ok X G (c.fact 8 (f := .glo "_law_grants") rfl)⟩ ⟨W1004, rfl, rfl, rfl, He.glo_ok X G (c.fact 9 (f := .glo "_law_applied") rfl)⟩ ⟨W1005, rfl, rfl, rfl, He.glo_ok X G (c.fact 10 (f := .glo "_law_composed") rfl)⟩ ⟨W1006, rfl, rfl, rfl, He.glo_ok X G (c.fact 11 (f := .glo "law") rfl)⟩
end
end Av
end
section
set_option Elab.async false
set_option linter.all false
set_option maxRecDepth 100000
set_option maxHeartbeats 0
namespace Av
open PySem PySem.Spec PyProof.Rows L2
theorem client0 (ns : List Int) (h : ns.length ≤ 63) (hb : ∀ z ∈ ns, Builtin.Int.intBits z ≤ 1048576) : callF (gOf T0 X0 xf0 sub0 0) 20 1006 [.scr ns] [] [] = .ok (.bl true) [] := by
  have e : gOf T0 X0 xf0 sub0 0 = G0 := gOf_eq.trans (by rfl)
  rw [e]
  exact C.c_law 16 ns
end Av
open PySem PySem.W PySem.Calls PyProof.Rows
theorem PySem.Challenge.cw_authsync_k26_changes_holds : PySem.Challenge.rw_authsync_k26_changes.Holds := by
  w_on; o_law
  refine HandSHeadRun.head_any (r := Av.R0) (q := view Av.R0.prog [16]) (H := Av.hk0) (ob := Av.ob0) (M := 40000) (loose := Av.loose0) (d := HandSHeadRun.topDef Av.R0.prog 16) (kwd := []) Av.ob_eq0
    (by kernel_rfl) (fun s => by kernel_rfl) Av.run0 (by kernel_rfl) (by kernel_rfl) (by kernel_rfl) (by rfl) (by first | assumption | decide +kernel) (by decide +kernel) ⟨rfl, rfl, rfl, rfl, rfl, by decide +kernel⟩ ?hw ?hc
  case hw => w_witness2
  case hc =>
    refine LamX.walk_ofTsE (l := PySem.Challenge.rw_authsync_k26_changes) (n := 63) (k := 3 * 20) (x := "_law_script") (CX := fun w => L2.CX (PySem.Challenge.rw_authsync_k26_changes).prog w) rfl (by decide) (by kernel_rfl) ⟨rfl, by decide, by decide⟩ ?F (fun w H s e s' ⟨_, _, _, _, _, _, _, _, _, _, _, _, z⟩ => z)
    intro w mg fa h Y G hmg0
    obtain ⟨K, KX, c, st, nl, sx⟩ := Y
    have hmg : mg ("law" : PySem.Str) = some (.ref fa) := by
      have e : (HandSHeadRun.topDef Av.R0.prog 16).name = ("law" : PySem.Str) := by kernel_rfl
      rw [← e]
      exact hmg0
    have e := hmg.symm.trans (He.glo_ok KX G (c.fact 11 (f := .glo "law") rfl))
    refine ⟨K, KX, Av.law_at (m := 20) (lawf := 1006) (law := Av.W1006) (X := Av.X0) (xfT := Av.xf0) (subT := Av.sub0) (fs := Av.fs0) KX st nl (Av.hF0 c) Av.hA0 Av.hS0 (fun x g hx => Av.hG0 KX G c (x, g) (PySem.mem_of_lookup hx)) sx Av.hXs0 (by decide +kernel) (by decide +kernel) (Av.hsup0 KX G c) (by kernel_rfl) rfl rfl (by cases e; rfl) Av.client0⟩
end
