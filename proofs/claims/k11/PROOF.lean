import PyProof.Rows.All
import Wide.All
import OpenK.AllK
import Wide.FinOn
import HandS.ForMost
import HandS.ForExc
import HandS.Lambda
import HandS.EndTab
import HandS.Walk
import HandS.Style
import HandS.Deep
import HandS.Flow
import HandS.AnyAll
import HandS.CallSlots
import HandS.TupAny
import HandS.SortInts
import HandS.TupSets
import KE.GoesEnum
import KE.GoesMore
import KE.DataMinMax
import PyProof.GenCompT
import PyProof.WalksPairs
import KE.GoesZip
import HandS.Zip
import HandS.HeadHook2
import HandS.HeadHook4
import HandS.ExcOwn
import HandS.HeadEnd
import HandS.HeadWalk
import HandS.Head2
import PySem.Challenge.RW_widgetstack_k11_a_view_on_what_is_larger
set_option Elab.async false
set_option linter.all false
section
/-! Ev: a small deterministic machine over plain values; programs are compact code. -/
namespace Ev

/-- a value: numbers, texts, tuples, frozen lists and dicts are plain data; ref: an object on the logical heap -/
inductive LV where
  | non
  | bl (b : Bool)
  | int (i : Int)
  | str (s : List Nat)
  | tup (xs : List LV)
  | lst (xs : List LV)
  | dct (kvs : List (LV × LV))
  | ref (n : Nat)
  | clo (k : Nat)
  | rol (xs : List LV)
  deriving Inhabited, Repr

inductive LO where
  | lst (xs : List LV)
  | dct (kvs : List (LV × LV))
  | ins (c : Nat) (fs : List (Nat × LV))
  deriving Inhabited, Repr

abbrev Hp := List LO
/-- a name's place: empty, a value, or a list / dict that this name alone holds -/
inductive Slot where
  | un
  | val (v : LV)
  | own (v : LV)
  | lam (ks : List Nat)
  deriving Inhabited, Repr
abbrev Env := List Slot

inductive Res (α : Type) where
  | ok (a : α) (h : Hp)
  | exc (c : Nat) (h : Hp)
  | bad
  deriving Repr
namespace Res
def bind {α β : Type} (r : Res α) (f : α → Hp → Res β) : Res β :=
  match r with
  | .ok a h => f a h
  | .exc c h => .exc c h
  | .bad => .bad
end Res
def ofO {α : Type} (o : Option α) (h : Hp) : Res α := match o with | some a => .ok a h | none => .bad

inductive Op where
  | add | sub | mul | fdiv | mod | pow | neg
  | eq | ne | lt | le | gt | ge | isn | notn | inn | nin
  | idx | slc | slcb | len | abs | min | max | int | str | ord | minR | maxR | sumR | srtI | srtP | minT
  | get | get2 | join | split | isalnum | isalpha | isdigit | lower | sfind | count | index | lstrip | partition
  | isTup | isStr | isInt | fstr | dictc
  deriving DecidableEq, Repr, Inhabited
inductive COp where
  | tuple | list | sorted | sum | min | max | dict
  deriving DecidableEq, Repr, Inhabited
inductive MOp where
  | append | pop | popAt | update | setdefault | insert | extend
  deriving DecidableEq, Repr, Inhabited

mutual
inductive CE where
  | cst (v : LV)
  | var (i : Nat)
  | op (o : Op) (as : CEs)
  | bm (o : Op) (r : CE) (as : CEs)
  | slice (a lo hi : CE)
  | cons (o : COp) (s : Src)
  | sum2 (s : Src) (a : CE)
  | join (a : CE) (s : Src)
  | cmp (a : CE) (ops : List Op) (bs : CEs)
  | and (a b : CE)
  | or (a b : CE)
  | not (a : CE)
  | ite (c a b : CE)
  | tup (as : CEs)
  | lst (as : CEs)
  | dsp (ks : CKs)
  | hnew (e : CE)
  | call (f : Nat) (as : CEs)
  | call0 (f : Nat)
  | meth (m : Nat) (o : CE) (as : CEs)
  | make (c : Nat) (as : CEs)
  | attr (o : CE) (a : Nat)
  | comp (elt : CE) (t : Tg) (ts : CEs) (s : Src)
  | dcomp (k v : CE) (t : Tg) (ts : CEs) (s : Src)
  | anyg (elt : CE) (t : Tg) (ts : CEs) (s : Src)
  | allg (elt : CE) (t : Tg) (ts : CEs) (s : Src)
  | lam (k : Nat)
  | told (c : Nat) (s : List Nat) (e : CE)
  | tolds (i : Nat) (ks : List Nat) (c : Nat) (s : List Nat)
  | mut (m : MOp) (o : CE) (as : CEs)
inductive CEs where
  | nil
  | cons (e : CE) (es : CEs)
inductive CKs where
  | nil
  | cons (k v : CE) (r : CKs)
inductive Src where
  | of (e : CE)
  | range (as : CEs)
  | enum (s : Src)
  | zip2 (a b : Src)
  | zip3 (a b c : Src)
  | items (e : CE)
  | values (e : CE)
  | gen (elt : CE) (t : Tg) (ts : CEs) (s : Src)
inductive Tg where
  | nm (i : Nat)
  | tup (ts : Tgs)
inductive Tgs where
  | nil
  | cons (t : Tg) (ts : Tgs)
end
instance : Inhabited CE := ⟨.cst .non⟩

/-- a statement's target -/
inductive TG where
  | nm (i : Nat)
  | tup (t : Tg)
  | idx (o k : CE)
  | attr (o : CE) (a : Nat)
  | oidx (i : Nat) (k : CE)
  | own (i : Nat)
inductive TGs where
  | nil
  | cons (t : TG) (ts : TGs)
mutual
inductive CS where
  | asg (t : TG) (e : CE)
  | asgo (i : Nat) (e : CE)
  | par (ts : TGs) (es : CEs)
  | augn (i : Nat) (o : Op) (e : CE)
  | auga (b : CE) (a : Nat) (o : Op) (e : CE)
  | augi (b k : CE) (o : Op) (e : CE)
  | augoi (i : Nat) (k : CE) (o : Op) (e : CE)
  | omut (m : MOp) (i : Nat) (as : CEs)
  | popo (t : TG) (i : Nat) (as : CEs)
  | lams (i : Nat) (ks : List Nat)
  | lamx (i : Nat) (ks : List Nat)
  | mv (i j : Nat)
  | expr (e : CE)
  | ret (e : CE)
  | reto (i : Nat)
  | retn
  | ife (c : CE) (a b : CSs)
  | for (t : Tg) (s : Src) (body : CSs)
  | whl (c : CE) (body : CSs)
  | brk
  | cnt
  | pass
  | raise (c : Nat)
  | try (body : CSs) (c : Nat) (hd : CSs)
  | del (o k : CE)
  | delo (i : Nat) (k : CE)
inductive CSs where
  | nil
  | cons (s : CS) (ss : CSs)
end

structure Fn where
  np : Nat
  ns : Nat
  body : CSs
structure Prg where
  fn : Nat → Fn
  meth : Nat → Nat → Nat
  lam : Nat → CE
  sub : Nat → Nat → Bool
  nf : Nat

/-! ### values -/
def b2i (b : Bool) : Int := if b then 1 else 0
mutual
def LV.eqv : LV → LV → Bool
  | .non, .non => true
  | .bl a, .bl b => a == b
  | .bl a, .int j => b2i a == j
  | .int i, .bl b => i == b2i b
  | .int i, .int j => i == j
  | .str a, .str b => a == b
  | .tup xs, .tup ys => eqvs xs ys
  | .lst xs, .lst ys => eqvs xs ys
  | .ref a, .ref b => a == b
  | _, _ => false
def eqvs : List LV → List LV → Bool
  | [], [] => true
  | x :: xs, y :: ys => x.eqv y && eqvs xs ys
  | _, _ => false
end
/-- plain data at most n deep: no object, no dict, no lambda in it -/
def LV.pd : Nat → LV → Bool
  | _, .non => true
  | _, .bl _ => true
  | _, .int _ => true
  | _, .str _ => true
  | n + 1, .tup xs => xs.all (LV.pd n)
  | n + 1, .lst xs => xs.all (LV.pd n)
  | _, _ => false
/-- what may be a key: a number, a text, a tuple of these -/
def LV.flat : LV → Bool
  | .int _ => true
  | .str _ => true
  | _ => false
/-- a key that a dict with such entries takes -/
def okKey (k : LV) (kvs : List (LV × LV)) : Bool := k.flat
def dget (k : LV) : List (LV × LV) → Option LV
  | [] => none
  | (q, v) :: r => if k.eqv q then some v else dget k r
def dput (k v : LV) (kvs : List (LV × LV)) : List (LV × LV) :=
  if (kvs.any fun p => k.eqv p.1) = true then kvs.map (fun p => if k.eqv p.1 = true then (p.1, v) else p) else kvs ++ [(k, v)]
def ddel (k : LV) (kvs : List (LV × LV)) : List (LV × LV) := kvs.filter fun p => !k.eqv p.1
def strLt : List Nat → List Nat → Bool
  | [], [] => false
  | [], _ :: _ => true
  | _ :: _, [] => false
  | x :: xs, y :: ys => if x < y then true else if y < x then false else strLt xs ys
mutual
/-- x < y where they may be compared -/
def LV.lt : LV → LV → Option Bool
  | .int i, .int j => some (decide (i < j))
  | .bl a, .bl b => some (!a && b)
  | .str a, .str b => some (strLt a b)
  | .tup xs, .tup ys => lts xs ys
  | .lst xs, .lst ys => lts xs ys
  | _, _ => none
def lts : List LV → List LV → Option Bool
  | [], [] => some false
  | [], _ :: _ => some true
  | _ :: _, [] => some false
  | x :: xs, y :: ys => if x.eqv y then lts xs ys else x.lt y
end
def LV.truth : LV → Option Bool
  | .non => some false
  | .bl b => some b
  | .int i => some (i != 0)
  | .str s => some (!s.isEmpty)
  | .tup xs => some (!xs.isEmpty)
  | .lst xs => some (!xs.isEmpty)
  | .dct xs => some (!xs.isEmpty)
  | _ => none

def SL : Nat := 16777216
def natOf (i : Int) (n : Nat) : Option Nat :=
  if 0 ≤ i then (if i < n then some i.toNat else none) else (if 0 ≤ i + n then some (i + n).toNat else none)
/-- a slice's end -/
def clip (o : LV) (d : Nat) (n : Nat) : Option Nat :=
  match o with
  | .non => some d
  | .int i => some (if i < 0 then (i + n).toNat else Nat.min i.toNat n)
  | _ => none
def cut {α : Type} (lo hi : Nat) (xs : List α) : List α := (xs.take hi).drop lo
def pint (i : Int) : LV := .int i

def insertL (x : LV) : List LV → Option (List LV)
  | [] => some [x]
  | y :: ys => match y.lt x with
    | some true => (insertL x ys).map (y :: ·)
    | some false => some (x :: y :: ys)
    | none => none
def isort : List LV → Option (List LV)
  | [] => some []
  | x :: xs => match isort xs with
    | some ys => insertL x ys
    | none => none
def minL (m : LV) : List LV → Option LV
  | [] => some m
  | y :: ys => match y.lt m with
    | some true => minL y ys
    | some false => minL m ys
    | none => none
def maxL (m : LV) : List LV → Option LV
  | [] => some m
  | y :: ys => match m.lt y with
    | some true => maxL y ys
    | some false => maxL m ys
    | none => none
def sumI : Int → List LV → Option Int
  | a, [] => some a
  | a, .int i :: r => if -(2 ^ 62) < a + i ∧ a + i < 2 ^ 62 then sumI (a + i) r else none
  | a, .bl b :: r => if -(2 ^ 62) < a + b2i b ∧ a + b2i b < 2 ^ 62 then sumI (a + b2i b) r else none
  | _, _ => none
def sumL : List LV → List LV → Option (List LV)
  | a, [] => some a
  | a, .lst xs :: r => if a.length + xs.length ≤ SL then sumL (a ++ xs) r else none
  | _, _ => none
def inL (x : LV) : List LV → Bool
  | [] => false
  | y :: ys => x.eqv y || inL x ys
def indexL (x : LV) : List LV → Nat → Option Nat
  | [], _ => none
  | y :: ys, i => if y.eqv x then some i else indexL x ys (i + 1)
def isPre : List Nat → List Nat → Bool
  | [], _ => true
  | _ :: _, [] => false
  | x :: xs, y :: ys => x == y && isPre xs ys
/-- the first place at which p stands in s -/
def findS (p : List Nat) : List Nat → Nat → Option Nat
  | [], i => if p.isEmpty then some i else none
  | c :: s, i => if isPre p (c :: s) then some i else findS p s (i + 1)
def joinS (sep : List Nat) : List LV → Option (List Nat)
  | [] => some []
  | [.str a] => some a
  | .str a :: r => (joinS sep r).map fun t => a ++ sep ++ t
  | _ => none
/-- the parts of a text between the one sign c -/
def splitC (c : Nat) : List Nat → List Nat → List (List Nat)
  | [], acc => [acc.reverse]
  | x :: r, acc => if x == c then acc.reverse :: splitC c r [] else splitC c r (x :: acc)
def digitsR : Nat → Nat → List Nat
  | 0, _ => []
  | f + 1, n => if n < 10 then [48 + n] else (48 + n % 10) :: digitsR f (n / 10)
def natS (n : Nat) : List Nat := (digitsR (n + 1) n).reverse
def intS (i : Int) : List Nat := if i < 0 then 45 :: natS i.natAbs else natS i.natAbs
def isDig (c : Nat) : Bool := decide (48 ≤ c ∧ c ≤ 57)
def isAlp (c : Nat) : Bool := decide (65 ≤ c ∧ c ≤ 90 ∨ 97 ≤ c ∧ c ≤ 122)
def lowC (c : Nat) : Nat := if 65 ≤ c ∧ c ≤ 90 then c + 32 else c
def ascii (s : List Nat) : Bool := s.all fun c => decide (c < 128)
def valS : Nat → List Nat → Option Nat
  | a, [] => some a
  | a, c :: r => if isDig c then valS (10 * a + (c - 48)) r else none
def intOf : List Nat → Option Int
  | [] => none
  | 45 :: c :: r => (valS 0 (c :: r)).map fun n => -(n : Int)
  | c :: r => (valS 0 (c :: r)).map fun n => (n : Int)
def dictOf : List LV → List (LV × LV) → Option (List (LV × LV))
  | [], acc => some acc
  | .tup [k, v] :: r, acc => if okKey k acc then dictOf r (dput k v acc) else none
  | _, _ => none

/-! ### an operation by values -/
def addV : LV → LV → Option LV
  | .int i, .int j => some (.int (i + j))
  | .str a, .str b => if a.length + b.length ≤ SL then some (.str (a ++ b)) else none
  | .tup a, .tup b => if a.length + b.length ≤ SL then some (.tup (a ++ b)) else none
  | .lst a, .lst b => if a.length + b.length ≤ SL then some (.lst (a ++ b)) else none
  | _, _ => none
def subV : LV → LV → Option LV
  | .int i, .int j => some (.int (i - j))
  | _, _ => none
def mulV : LV → LV → Option LV
  | .int i, .int j => if i.natAbs < 2 ^ 64 ∨ j.natAbs < 2 ^ 64 then some (.int (i * j)) else none
  | .lst a, .int j => if a.length * j.toNat ≤ SL ∧ j < 2 ^ 60 ∧ -(2 ^ 60) < j then some (.lst (List.replicate j.toNat a).flatten) else none
  | _, _ => none
def fdivV : LV → LV → Option LV
  | .int i, .int j => if j ≠ 0 ∧ j.natAbs < 1073741824 then some (.int (i.fdiv j)) else none
  | _, _ => none
def modV : LV → LV → Option LV
  | .int i, .int j => if j ≠ 0 then some (.int (i.fmod j)) else none
  | _, _ => none
def powV : LV → LV → Option LV
  | .int i, .int j => if 0 ≤ j ∧ j ≤ 1000 ∧ i.natAbs < 2 ^ 64 then some (.int (i ^ j.toNat)) else none
  | _, _ => none
def negV : LV → Option LV
  | .int i => some (.int (-i))
  | _ => none
def eqV (a b : LV) : Option LV := if a.pd 60 && b.pd 60 then some (.bl (a.eqv b)) else none
def neV (a b : LV) : Option LV := if a.pd 60 && b.pd 60 then some (.bl (!a.eqv b)) else none
def ltV : LV → LV → Option LV
  | .int i, .int j => some (.bl (decide (i < j)))
  | .str a, .str b => some (.bl (strLt a b))
  | _, _ => none
def gtV : LV → LV → Option LV
  | .int i, .int j => some (.bl (decide (j < i)))
  | .str a, .str b => some (.bl (strLt b a))
  | _, _ => none
def leV : LV → LV → Option LV
  | .int i, .int j => some (.bl (decide (i ≤ j)))
  | _, _ => none
def geV : LV → LV → Option LV
  | .int i, .int j => some (.bl (decide (j ≤ i)))
  | _, _ => none
def isNon : LV → Bool
  | .non => true
  | _ => false
def one? : LV → Option Nat
  | .str [c] => some c
  | _ => none
/-- x in y -/
def innB (x y : LV) : Option Bool :=
  match y with
  | .str s => (one? x).map fun c => decide (c ∈ s)
  | .tup ys => if x.pd 0 && ys.all (LV.pd 0) then some (inL x ys) else none
  | .lst ys => if x.pd 60 && ys.all (LV.pd 60) then some (inL x ys) else none
  | .dct kvs => if okKey x kvs then some (dget x kvs).isSome else none
  | _ => none
def innV (x y : LV) : Option LV := (innB x y).map .bl
def ninV (x y : LV) : Option LV := (innB x y).map fun b => .bl (!b)
def intI : LV → Option Int
  | .int i => some i
  | _ => none
def idxV (x k : LV) : Option LV :=
  match x with
  | .tup xs => (intI k).bind fun i => (natOf i xs.length).bind fun n => xs[n]?
  | .lst xs => (intI k).bind fun i => (natOf i xs.length).bind fun n => xs[n]?
  | .str s => (intI k).bind fun i => (natOf i s.length).bind fun n => s[n]?.map fun c => .str [c]
  | .dct kvs => if okKey k kvs then dget k kvs else none
  | _ => none
def slcL {α : Type} (xs : List α) (a b : LV) : Option (List α) :=
  (clip a 0 xs.length).bind fun lo => (clip b xs.length xs.length).map fun hi => cut lo hi xs
def slcV (x a b : LV) : Option LV :=
  match x with
  | .tup xs => (slcL xs a b).map .tup
  | .lst xs => (slcL xs a b).map .lst
  | .rol xs => (slcL xs a b).map .lst
  | .str xs => (slcL xs a b).map .str
  | _ => none
def slcbV : LV → Option LV
  | .tup xs => some (.tup xs.reverse)
  | .lst xs => some (.lst xs.reverse)
  | .str xs => some (.str xs.reverse)
  | _ => none
def lenV : LV → Option LV
  | .tup xs => some (.int xs.length)
  | .lst xs => some (.int xs.length)
  | .str xs => some (.int xs.length)
  | .dct xs => some (.int xs.length)
  | _ => none
def absV : LV → Option LV
  | .int i => some (.int (if i < 0 then -i else i))
  | _ => none
def minV : LV → LV → Option LV
  | .int i, .int j => some (.int (if j < i then j else i))
  | _, _ => none
def maxV : LV → LV → Option LV
  | .int i, .int j => some (.int (if i < j then j else i))
  | _, _ => none
def intV : LV → Option LV
  | .int i => some (.int i)
  | .bl b => some (.int (b2i b))
  | _ => none
def strV : LV → Option LV
  | .int i => if i.natAbs.log2 < 1900 then some (.str (intS i)) else none
  | .str s => some (.str s)
  | _ => none
def getV (x k d : LV) : Option LV :=
  match x with
  | .dct kvs => if okKey k kvs then some ((dget k kvs).getD d) else none
  | _ => none
def strF (f : List Nat → LV) : LV → Option LV
  | .str s => if ascii s then some (f s) else none
  | _ => none
def indexV (x y : LV) : Option LV :=
  match x with
  | .lst xs => if y.pd 60 && xs.all (LV.pd 60) then (indexL y xs 0).map fun (n : Nat) => .int (n : Int) else none
  | .tup xs => if y.pd 60 && xs.all (LV.pd 60) then (indexL y xs 0).map fun (n : Nat) => .int (n : Int) else none
  | .str s => (match y with | .str p => (findS p s 0).map fun (n : Nat) => .int (n : Int) | _ => none)
  | _ => none
def countV (x y : LV) : Option LV :=
  match x with
  | .lst xs => if y.pd 60 && xs.all (LV.pd 60) then some (.int (xs.filter fun z => z.eqv y).length) else none
  | .str s => (one? y).map fun c => .int (s.filter fun z => z == c).length
  | _ => none
def splitV (x y : LV) : Option LV :=
  match x with
  | .str s => (one? y).map fun c => .lst ((splitC c s []).map .str)
  | _ => none
def partV (x y : LV) : Option LV :=
  match x with
  | .str s => (one? y).map fun c => (match findS [c] s 0 with | some i => .tup [.str (s.take i), .str [c], .str (s.drop (i + 1))] | none => .tup [.str s, .str [], .str []])
  | _ => none
def sfindV (x y : LV) : Option LV :=
  match x, y with
  | .str s, .str p => some (.int (match findS p s 0 with | some i => (i : Int) | none => -1))
  | _, _ => none
def lstripV : LV → Option LV
  | .str s => some (.str (s.dropWhile fun c => c == 32))
  | _ => none
def isTupB : LV → Bool | .tup _ => true | _ => false
/-- a pair of ints, a pair of tuples -/
def prB : LV → Bool
  | .tup [.int _, .int _] => true
  | .tup [.tup _, .tup _] => true
  | _ => false
def isStrB : LV → Bool | .str _ => true | _ => false
def isIntB : LV → Bool | .int _ => true | .bl _ => true | _ => false
def dictcV : LV → Option LV
  | .dct kvs => some (.dct kvs)
  | .lst xs => (dictOf xs []).map .dct
  | .tup xs => (dictOf xs []).map .dct
  | _ => none
def fstrV (as : List LV) : Option LV := (joinS [] (as.map fun a => match a with | .int i => .str (intS i) | a => a)).map .str
def un (f : LV → Option LV) : List LV → Option LV
  | [a] => f a
  | _ => none
def bi (f : LV → LV → Option LV) : List LV → Option LV
  | [a, b] => f a b
  | _ => none
def tri (f : LV → LV → LV → Option LV) : List LV → Option LV
  | [a, b, c] => f a b c
  | _ => none
/-- of two or three -/
def bi3 (f : LV → LV → Option LV) : List LV → Option LV
  | [a, b] => f a b
  | [a, b, c] => (f a b).bind fun m => f m c
  | _ => none
/-- a list's ints; the least, the greatest, the sum -/
def intsOf : List LV → Option (List Int)
  | [] => some []
  | .int i :: r => (intsOf r).map (i :: ·)
  | _ => none
def minI : Int → List Int → Int
  | m, [] => m
  | m, n :: r => minI (if n < m then n else m) r
def maxI : Int → List Int → Int
  | m, [] => m
  | m, n :: r => maxI (if m < n then n else m) r
def ofInts (f : List Int → Option Int) : LV → Option LV
  | .lst xs => (match intsOf xs with
    | some ns => (f ns).map .int
    | none => none)
  | _ => none
def insI (n : Int) : List Int → List Int
  | [] => [n]
  | m :: r => if n ≤ m then n :: m :: r else m :: insI n r
def srtNs : List Int → List Int
  | [] => []
  | n :: r => insI n (srtNs r)
def srtIV : LV → Option LV
  | .lst xs => (intsOf xs).map fun ns => .lst ((srtNs ns).map .int)
  | _ => none
def PB : Int := 1073741824
def keyP (p : Int × Int) : Int := p.1 * PB + p.2
def insP (n : Int × Int) : List (Int × Int) → List (Int × Int)
  | [] => [n]
  | m :: r => if keyP n ≤ keyP m then n :: m :: r else m :: insP n r
def srtPs : List (Int × Int) → List (Int × Int)
  | [] => []
  | n :: r => insP n (srtPs r)
def inP (p : Int × Int) : Bool := decide (0 ≤ p.1) && decide (p.1 < PB) && decide (0 ≤ p.2) && decide (p.2 < PB)
def pairL (p : Int × Int) : LV := .tup [.int p.1, .int p.2]
def pairsOf : List LV → Option (List (Int × Int))
  | [] => some []
  | .tup [.int a, .int b] :: r => (pairsOf r).map ((a, b) :: ·)
  | _ => none
def srtPV : LV → Option LV
  | .lst xs => (match pairsOf xs with
    | some ps => if decide (ps.length < 64) && ps.all inP then some (.lst ((srtPs ps).map pairL)) else none
    | none => none)
  | _ => none
/-- triples of ints, the first of the least -/
def tripOf : List LV → Option (List (Int × Int × Int))
  | [] => some []
  | .tup [.int a, .int b, .int c] :: r => (tripOf r).map ((a, b, c) :: ·)
  | _ => none
def ltT (p q : Int × Int × Int) : Bool := decide (p.1 < q.1) || (decide (p.1 = q.1) && (decide (p.2.1 < q.2.1) || (decide (p.2.1 = q.2.1) && decide (p.2.2 < q.2.2))))
def minTs : Int × Int × Int → List (Int × Int × Int) → Int × Int × Int
  | m, [] => m
  | m, n :: r => minTs (if ltT n m then n else m) r
def tripL (p : Int × Int × Int) : LV := .tup [.int p.1, .int p.2.1, .int p.2.2]
def minTV : LV → Option LV
  | .lst xs => (match tripOf xs with
    | some (m :: r) => some (tripL (minTs m r))
    | _ => none)
  | _ => none
def minNs : List Int → Option Int
  | [] => none
  | m :: r => some (minI m r)
def maxNs : List Int → Option Int
  | [] => none
  | m :: r => some (maxI m r)
def opv (o : Op) : List LV → Option LV :=
  match o with
  | .add => bi addV | .sub => bi subV | .mul => bi mulV | .fdiv => bi fdivV | .mod => bi modV | .pow => bi powV | .neg => un negV
  | .eq => bi eqV | .ne => bi neV | .lt => bi ltV | .le => bi leV | .gt => bi gtV | .ge => bi geV
  | .isn => un fun a => some (.bl (isNon a)) | .notn => un fun a => some (.bl (!isNon a))
  | .inn => bi innV | .nin => bi ninV | .idx => bi idxV | .slc => tri slcV | .slcb => un slcbV
  | .len => un lenV | .abs => un absV | .min => bi3 minV | .max => bi3 maxV | .int => un intV | .str => un strV
  | .minR => un (ofInts minNs) | .maxR => un (ofInts maxNs) | .sumR => un (ofInts fun ns => some ns.sum) | .srtI => un srtIV | .srtP => un srtPV | .minT => un minTV
  | .ord => un fun a => (one? a).map fun (c : Nat) => .int (c : Int)
  | .get => bi fun x k => getV x k .non | .get2 => tri getV
  | .join => fun _ => none
  | .split => bi splitV
  | .isalnum => un (strF fun s => .bl (!s.isEmpty && s.all fun c => isDig c || isAlp c))
  | .isalpha => un (strF fun s => .bl (!s.isEmpty && s.all isAlp))
  | .isdigit => un (strF fun s => .bl (!s.isEmpty && s.all isDig))
  | .lower => un (strF fun s => .str (s.map lowC))
  | .sfind => bi sfindV | .count => bi countV | .index => bi indexV | .lstrip => un lstripV | .partition => bi partV
  | .isTup => un fun a => some (.bl (isTupB a)) | .isStr => un fun a => some (.bl (isStrB a)) | .isInt => un fun a => some (.bl (isIntB a))
  | .fstr => fstrV
  | .dictc => un dictcV

def isEnd : LV → Bool
  | .non => true
  | .int _ => true
  | _ => false
/-- a built-in's method: of what -/
def bmOk (o : Op) (v : LV) : Bool :=
  match o, v with
  | .index, .lst _ => true
  | .count, .lst _ => true
  | .get, .dct _ => true
  | .get2, .dct _ => true
  | .index, _ => false
  | .count, _ => false
  | .get, _ => false
  | .get2, _ => false
  | _, .str _ => true
  | _, _ => false
/-- a whole row is taken -/
def copv (o : COp) (xs : List LV) : Option LV :=
  match o with
  | .tuple => some (.tup xs)
  | .list => some (.lst xs)
  | .sorted => (isort xs).map .lst
  | .sum => (sumI 0 xs).map .int
  | .min => (match xs with | [] => none | x :: r => minL x r)
  | .max => (match xs with | [] => none | x :: r => maxL x r)
  | .dict => (dictOf xs []).map .dct
def sum2v (xs : List LV) (a : LV) : Option LV :=
  match a with
  | .lst a => (sumL a xs).map .lst
  | .int a => (sumI a xs).map .int
  | _ => none
def joinv (a : LV) (xs : List LV) : Option LV :=
  match a with
  | .str sep => (joinS sep xs).map .str
  | _ => none

/-! ### the machine -/
structure Orc where
  call : Nat → List LV → Hp → Res LV
  lam : Nat → Env → Hp → Res LV

def look (σ : Env) (i : Nat) : Option LV := match σ[i]? with | some (.val v) => some v | _ => none
/-- a list or dict is read for what stands in it -/
def view (v : LV) (h : Hp) : LV :=
  match v with
  | .ref n => (match h[n]? with
    | some (.lst xs) => .lst xs
    | some (.dct kvs) => .dct kvs
    | _ => .ref n)
  | v => v
def itemsOf : LV → Option (List LV)
  | .tup xs => some xs
  | .lst xs => some xs
  | _ => none
def rangeL (a b : Int) : List LV := (List.range (b - a).toNat).map fun (k : Nat) => .int (a + (k : Int))
def rangeC (a b c : Int) : List LV :=
  if 0 < c then (List.range ((b - a + c - 1) / c).toNat).map fun (k : Nat) => .int (a + (k : Int) * c)
  else (List.range ((a - b - c - 1) / (-c)).toNat).map fun (k : Nat) => .int (a + (k : Int) * c)
def rangeOf : List LV → Option (List LV)
  | [.int b] => if b ≤ SL ∧ -(2 ^ 60) < b then some (rangeL 0 b) else none
  | [.int a, .int b] => if b - a ≤ SL ∧ -(2 ^ 60) < a ∧ a < 2 ^ 60 ∧ -(2 ^ 60) < b ∧ b < 2 ^ 60 then some (rangeL a b) else none
  | [.int a, .int b, .int c] => if c ≠ 0 ∧ c.natAbs ≤ SL ∧ (b - a).natAbs ≤ SL then some (rangeC a b c) else none
  | _ => none
def enumL : Nat → List LV → List LV
  | _, [] => []
  | n, x :: r => .tup [.int n, x] :: enumL (n + 1) r
def zipL : List LV → List LV → List LV
  | x :: xs, y :: ys => .tup [x, y] :: zipL xs ys
  | _, _ => []
def zipL3 : List LV → List LV → List LV → List LV
  | x :: xs, y :: ys, z :: zs => .tup [x, y, z] :: zipL3 xs ys zs
  | _, _, _ => []
mutual
def bindT : Tg → LV → Env → Option Env
  | .nm i, v, σ => some (σ.set i (.val v))
  | .tup ts, .tup vs, σ => bindTs ts vs σ
  | .tup ts, .lst vs, σ => bindTs ts vs σ
  | _, _, _ => none
def bindTs : Tgs → List LV → Env → Option Env
  | .nil, [], σ => some σ
  | .cons t ts, v :: vs, σ => match bindT t v σ with
    | some σ' => bindTs ts vs σ'
    | none => none
  | _, _, _ => none
end
def isCmp : Op → Bool
  | .eq | .ne | .lt | .le | .gt | .ge | .inn | .nin => true
  | _ => false
/-- one after another, each with a value of its own -/
def mapR (f : LV → Hp → Res (Option LV)) : List LV → Hp → Res (List LV)
  | [], h => .ok [] h
  | x :: xs, h => match f x h with
    | .ok (some v) h1 => (match mapR f xs h1 with
      | .ok vs h2 => .ok (v :: vs) h2
      | .exc c h2 => .exc c h2
      | .bad => .bad)
    | .ok none h1 => mapR f xs h1
    | .exc c h1 => .exc c h1
    | .bad => .bad
/-- is one of them so? all are asked: the tests have no effect -/
def anyR (f : LV → Hp → Res Bool) : List LV → Hp → Res Bool
  | [], h => .ok false h
  | x :: xs, h => match f x h with
    | .ok b h1 => (match anyR f xs h1 with
      | .ok b2 h2 => .ok (b || b2) h2
      | .exc c h2 => .exc c h2
      | .bad => .bad)
    | .exc c h1 => .exc c h1
    | .bad => .bad
/-- lambdas called one after another: the places of those that do not tell s -/
def toldR (f : Nat → Hp → Res LV) (s : List Nat) : Nat → List Nat → Hp → Res (List LV)
  | _, [], h => .ok [] h
  | n, k :: r, h => match f k h with
    | .ok v h1 => (match neV (view v h1) (.str s) with
      | some (.bl true) => (match toldR f s (n + 1) r h1 with
        | .ok vs h2 => .ok (.int n :: vs) h2
        | .exc c h2 => .exc c h2
        | .bad => .bad)
      | some (.bl false) => toldR f s (n + 1) r h1
      | _ => .bad)
    | .exc c h1 => .exc c h1
    | .bad => .bad
def fld (h : Hp) (n a : Nat) : Option LV := match h[n]? with
  | some (.ins _ fs) => fs.lookup a
  | _ => none
def putF (a : Nat) (v : LV) : List (Nat × LV) → List (Nat × LV)
  | [] => [(a, v)]
  | (b, w) :: r => if a = b then (a, v) :: r else (b, w) :: putF a v r
def dmerge : List (LV × LV) → List (LV × LV) → Option (List (LV × LV))
  | [], acc => some acc
  | (k, v) :: r, acc => if okKey k acc then dmerge r (dput k v acc) else none
/-- a container's method: its new state and what comes back -/
def mutv (m : MOp) (o : LV) (as : List LV) : Option (LV × LV) :=
  match m, o, as with
  | .append, .lst xs, [v] => if xs.length < SL then some (.lst (xs ++ [v]), .non) else none
  | .extend, .lst xs, [.lst ys] => if xs.length + ys.length ≤ SL then some (.lst (xs ++ ys), .non) else none
  | .extend, .lst xs, [.tup ys] => if xs.length + ys.length ≤ SL then some (.lst (xs ++ ys), .non) else none
  | .pop, .lst xs, [] => (match xs.getLast? with | some v => some (.lst xs.dropLast, v) | none => none)
  | .popAt, .lst xs, [.int i] => (natOf i xs.length).bind fun n => xs[n]?.map fun v => (.lst (xs.eraseIdx n), v)
  | .insert, .lst xs, [.int i, v] => if 0 ≤ i ∧ i ≤ xs.length ∧ xs.length < SL then some (.lst (xs.take i.toNat ++ v :: xs.drop i.toNat), .non) else none
  | .pop, .dct kvs, [k] => if okKey k kvs then (dget k kvs).map fun v => (.dct (ddel k kvs), v) else none
  | .popAt, .dct kvs, [k, d] => if okKey k kvs then some (match dget k kvs with | some v => (.dct (ddel k kvs), v) | none => (.dct kvs, d)) else none
  | .update, .dct kvs, [.dct more] => (dmerge more kvs).map fun m => (.dct m, .non)
  | .setdefault, .dct kvs, [k, d] => if okKey k kvs then (match dget k kvs with | some v => some (.dct kvs, v) | none => some (.dct (dput k d kvs), d)) else none
  | _, _, _ => none
def setv (o k v : LV) : Option LV :=
  match o, k with
  | .lst xs, .int i => (natOf i xs.length).map fun n => .lst (xs.set n v)
  | .dct kvs, k => if okKey k kvs && decide (kvs.length < SL) then some (.dct (dput k v kvs)) else none
  | _, _ => none
def delv (o k : LV) : Option LV :=
  match o, k with
  | .dct kvs, k => if okKey k kvs && (dget k kvs).isSome then some (.dct (ddel k kvs)) else none
  | _, _ => none
def toLO : LV → Option LO
  | .lst xs => some (.lst xs)
  | .dct kvs => some (.dct kvs)
  | _ => none
def ofLO : LO → LV
  | .lst xs => .lst xs
  | .dct kvs => .dct kvs
  | .ins _ _ => .non

/-- to be read at once: a name's own list is seen, an object's list too -/
def sel (e : CE) (σ : Env) (h : Hp) (r : Res LV) : Res LV :=
  match e with
  | .var i => (match σ[i]? with
    | some (.val v) => .ok v h
    | some (.own v) => .ok v h
    | _ => .bad)
  | _ => r
mutual
def ev (P : Prg) (O : Orc) : CE → Env → Hp → Res LV
  | .cst v, _, h => .ok v h
  | .var i, σ, h => ofO (look σ i) h
  | .op o as, σ, h => match evA P O as σ h with
    | .ok vs h1 => ofO (opv o (vs.map fun v => view v h1)) h1
    | .exc c h1 => .exc c h1
    | .bad => .bad
  | .bm o r as, σ, h => match sel r σ h (ev P O r σ h) with
    | .ok v h1 => if bmOk o (view v h1) then (match evA P O as σ h1 with
      | .ok vs h2 => if bmOk o (view v h2) then ofO (opv o (view v h2 :: vs.map fun v => view v h2)) h2 else .bad
      | .exc c h2 => .exc c h2
      | .bad => .bad) else .bad
    | .exc c h1 => .exc c h1
    | .bad => .bad
  | .slice a lo hi, σ, h => match sel a σ h (ev P O a σ h) with
    | .ok v h1 => (match sel lo σ h1 (ev P O lo σ h1) with
      | .ok l h2 => if isEnd l then (match sel hi σ h2 (ev P O hi σ h2) with
        | .ok u h3 => if isEnd u then ofO (slcV (view v h3) l u) h3 else .bad
        | .exc c h3 => .exc c h3
        | .bad => .bad) else .bad
      | .exc c h2 => .exc c h2
      | .bad => .bad)
    | .exc c h1 => .exc c h1
    | .bad => .bad
  | .cons o s, σ, h => match evS P O s σ h with
    | .ok xs h1 => ofO (copv o xs) h1
    | .exc c h1 => .exc c h1
    | .bad => .bad
  | .sum2 s a, σ, h => match evS P O s σ h with
    | .ok xs h1 => (match ev P O a σ h1 with
      | .ok v h2 => ofO (sum2v xs v) h2
      | .exc c h2 => .exc c h2
      | .bad => .bad)
    | .exc c h1 => .exc c h1
    | .bad => .bad
  | .join a s, σ, h => match ev P O a σ h with
    | .ok v h1 => (match evS P O s σ h1 with
      | .ok xs h2 => ofO (joinv v xs) h2
      | .exc c h2 => .exc c h2
      | .bad => .bad)
    | .exc c h1 => .exc c h1
    | .bad => .bad
  | .cmp a ops bs, σ, h => match sel a σ h (ev P O a σ h) with
    | .ok v h1 => evC P O v ops bs σ h1
    | .exc c h1 => .exc c h1
    | .bad => .bad
  | .and a b, σ, h => match ev P O a σ h with
    | .ok v h1 => (match (view v h1).truth with
      | some true => ev P O b σ h1
      | some false => .ok v h1
      | none => .bad)
    | .exc c h1 => .exc c h1
    | .bad => .bad
  | .or a b, σ, h => match ev P O a σ h with
    | .ok v h1 => (match (view v h1).truth with
      | some true => .ok v h1
      | some false => ev P O b σ h1
      | none => .bad)
    | .exc c h1 => .exc c h1
    | .bad => .bad
  | .not a, σ, h => match ev P O a σ h with
    | .ok v h1 => (match (view v h1).truth with
      | some b => .ok (.bl (!b)) h1
      | none => .bad)
    | .exc c h1 => .exc c h1
    | .bad => .bad
  | .ite c a b, σ, h => match ev P O c σ h with
    | .ok v h1 => (match (view v h1).truth with
      | some true => ev P O a σ h1
      | some false => ev P O b σ h1
      | none => .bad)
    | .exc c h1 => .exc c h1
    | .bad => .bad
  | .tup as, σ, h => match evs P O as σ h with
    | .ok vs h1 => .ok (.tup vs) h1
    | .exc c h1 => .exc c h1
    | .bad => .bad
  | .lst as, σ, h => match evs P O as σ h with
    | .ok vs h1 => .ok (.lst vs) h1
    | .exc c h1 => .exc c h1
    | .bad => .bad
  | .dsp ks, σ, h => evD P O ks [] σ h
  | .hnew e, σ, h => match ev P O e σ h with
    | .ok v h1 => (match toLO v with
      | some o => .ok (.ref h1.length) (h1 ++ [o])
      | none => .bad)
    | .exc c h1 => .exc c h1
    | .bad => .bad
  | .call f as, σ, h => match evs P O as σ h with
    | .ok vs h1 => O.call f vs h1
    | .exc c h1 => .exc c h1
    | .bad => .bad
  | .call0 f, _, h => match O.call f [] [] with
    | .ok v _ => if v.pd 60 then .ok v h else .bad
    | _ => .bad
  | .meth m o as, σ, h => match ev P O o σ h with
    | .ok v h1 => (match v with
      | .ref n => (match h1[n]? with
        | some (.ins c _) => if P.meth c m < P.nf then (match evs P O as σ h1 with
          | .ok vs h2 => O.call (P.meth c m) (v :: vs) h2
          | .exc c h2 => .exc c h2
          | .bad => .bad) else .bad
        | _ => .bad)
      | _ => .bad)
    | .exc c h1 => .exc c h1
    | .bad => .bad
  | .make c as, σ, h => match evs P O as σ h with
    | .ok vs h1 => (match O.call (P.meth c 0) (.ref h1.length :: vs) (h1 ++ [.ins c []]) with
      | .ok v h2 => if v matches .non then .ok (.ref h1.length) h2 else .bad
      | .exc c h2 => .exc c h2
      | .bad => .bad)
    | .exc c h1 => .exc c h1
    | .bad => .bad
  | .attr o a, σ, h => match ev P O o σ h with
    | .ok v h1 => (match v with
      | .ref n => ofO (fld h1 n a) h1
      | _ => .bad)
    | .exc c h1 => .exc c h1
    | .bad => .bad
  | .comp elt t ts s, σ, h => match evS P O s σ h with
    | .ok xs h1 => if xs.length ≤ SL then (match mapR (fun x h2 => match bindT t x σ with
        | some σ2 => (match evT P O ts σ2 h2 with
          | .ok true h3 => (match ev P O elt σ2 h3 with
            | .ok v h4 => .ok (some v) h4
            | _ => .bad)
          | .ok false h3 => .ok none h3
          | _ => .bad)
        | none => .bad) xs h1 with
      | .ok vs h2 => .ok (.lst vs) h2
      | _ => .bad) else .bad
    | .exc c h1 => .exc c h1
    | .bad => .bad
  | .dcomp k v t ts s, σ, h => match evS P O s σ h with
    | .ok xs h1 => (match mapR (fun x h2 => match bindT t x σ with
        | some σ2 => (match evT P O ts σ2 h2 with
          | .ok true h3 => (match ev P O k σ2 h3 with
            | .ok kv h4 => (match ev P O v σ2 h4 with
              | .ok vv h5 => .ok (some (.tup [kv, vv])) h5
              | .exc c h5 => .exc c h5
              | .bad => .bad)
            | .exc c h4 => .exc c h4
            | .bad => .bad)
          | .ok false h3 => .ok none h3
          | .exc c h3 => .exc c h3
          | .bad => .bad)
        | none => .bad) xs h1 with
      | .ok vs h2 => ofO ((dictOf vs []).map .dct) h2
      | .exc c h2 => .exc c h2
      | .bad => .bad)
    | .exc c h1 => .exc c h1
    | .bad => .bad
  | .anyg elt t ts s, σ, h => match evS P O s σ h with
    | .ok xs h1 => if xs.all prB then (match anyR (fun x h2 => match bindT t x σ with
        | some σ2 => (match evT P O ts σ2 h2 with
          | .ok true h3 => (match ev P O elt σ2 h3 with
            | .ok v h4 => ofO (view v h4).truth h4
            | .exc c h4 => .exc c h4
            | .bad => .bad)
          | .ok false h3 => .ok false h3
          | .exc c h3 => .exc c h3
          | .bad => .bad)
        | none => .bad) xs h1 with
      | .ok b h2 => .ok (.bl b) h2
      | .exc c h2 => .exc c h2
      | .bad => .bad) else .bad
    | .exc c h1 => .exc c h1
    | .bad => .bad
  | .allg elt t ts s, σ, h => match evS P O s σ h with
    | .ok xs h1 => (match anyR (fun x h2 => match bindT t x σ with
        | some σ2 => (match evT P O ts σ2 h2 with
          | .ok true h3 => (match ev P O elt σ2 h3 with
            | .ok v h4 => ofO ((view v h4).truth.map not) h4
            | .exc c h4 => .exc c h4
            | .bad => .bad)
          | .ok false h3 => .ok false h3
          | .exc c h3 => .exc c h3
          | .bad => .bad)
        | none => .bad) xs h1 with
      | .ok b h2 => .ok (.bl (!b)) h2
      | .exc c h2 => .exc c h2
      | .bad => .bad)
    | .exc c h1 => .exc c h1
    | .bad => .bad
  | .lam k, _, h => .ok (.clo k) h
  | .told c s e, σ, h => match ev P O e σ h with
    | .ok (.clo k) h1 => (match O.lam k σ h1 with
      | .ok v h2 => .ok v h2
      | .exc d h2 => if P.sub d c then .ok (.str s) h2 else .bad
      | .bad => .bad)
    | .ok _ _ => .bad
    | .exc c h1 => .exc c h1
    | .bad => .bad
  | .tolds i ks c s, σ, h => match σ[i]? with
    | some (.lam js) => if (js ++ ks).length ≤ SL then (match toldR (fun k h1 => match O.lam k σ h1 with
        | .ok v h2 => .ok v h2
        | .exc d h2 => if P.sub d c then .ok (.str s) h2 else .bad
        | .bad => .bad) s 0 (js ++ ks) h with
      | .ok vs h1 => .ok (.lst vs) h1
      | _ => .bad) else .bad
    | _ => .bad
  | .mut m o as, σ, h => match ev P O o σ h with
    | .ok v h1 => (match v with
      | .ref n => (match evs P O as σ h1 with
        | .ok vs h2 => (match h2[n]? with
          | some ob => (match mutv m (ofLO ob) (if m = .update || m = .extend then vs.map (view · h2) else vs) with
            | some (o2, r) => (match toLO o2 with
              | some ob2 => .ok r (h2.set n ob2)
              | none => .bad)
            | none => .bad)
          | none => .bad)
        | .exc c h2 => .exc c h2
        | .bad => .bad)
      | _ => .bad)
    | .exc c h1 => .exc c h1
    | .bad => .bad
/-- as it is, to be kept -/
def evs (P : Prg) (O : Orc) : CEs → Env → Hp → Res (List LV)
  | .nil, _, h => .ok [] h
  | .cons e es, σ, h => match ev P O e σ h with
    | .ok v h1 => (match evs P O es σ h1 with
      | .ok vs h2 => .ok (v :: vs) h2
      | .exc c h2 => .exc c h2
      | .bad => .bad)
    | .exc c h1 => .exc c h1
    | .bad => .bad
def evA (P : Prg) (O : Orc) : CEs → Env → Hp → Res (List LV)
  | .nil, _, h => .ok [] h
  | .cons e es, σ, h => match sel e σ h (ev P O e σ h) with
    | .ok v h1 => (match evA P O es σ h1 with
      | .ok vs h2 => .ok (v :: vs) h2
      | .exc c h2 => .exc c h2
      | .bad => .bad)
    | .exc c h1 => .exc c h1
    | .bad => .bad
def evC (P : Prg) (O : Orc) (v : LV) (os : List Op) : CEs → Env → Hp → Res LV
  | .nil, _, h => (match os with | [] => .ok (.bl true) h | _ => .bad)
  | .cons b bs, σ, h => (match os with
    | o :: os => (match sel b σ h (ev P O b σ h) with
      | .ok w h1 => (match opv o [view v h1, view w h1] with
        | some (.bl true) => evC P O w os bs σ h1
        | some (.bl false) => .ok (.bl false) h1
        | _ => .bad)
      | .exc c h1 => .exc c h1
      | .bad => .bad)
    | [] => .bad)
def evT (P : Prg) (O : Orc) : CEs → Env → Hp → Res Bool
  | .nil, _, h => .ok true h
  | .cons e es, σ, h => match ev P O e σ h with
    | .ok v h1 => (match (view v h1).truth with
      | some true => evT P O es σ h1
      | some false => .ok false h1
      | none => .bad)
    | .exc c h1 => .exc c h1
    | .bad => .bad
def evD (P : Prg) (O : Orc) : CKs → List (LV × LV) → Env → Hp → Res LV
  | .nil, acc, _, h => .ok (.dct acc) h
  | .cons k v r, acc, σ, h => match ev P O k σ h with
    | .ok kv h1 => (match ev P O v σ h1 with
      | .ok vv h2 => if okKey kv acc then evD P O r (dput kv vv acc) σ h2 else .bad
      | .exc c h2 => .exc c h2
      | .bad => .bad)
    | .exc c h1 => .exc c h1
    | .bad => .bad
def evS (P : Prg) (O : Orc) : Src → Env → Hp → Res (List LV)
  | .of e, σ, h => match ev P O e σ h with
    | .ok v h1 => ofO (itemsOf v) h1
    | .exc c h1 => .exc c h1
    | .bad => .bad
  | .range as, σ, h => match evA P O as σ h with
    | .ok vs h1 => ofO (rangeOf vs) h1
    | .exc c h1 => .exc c h1
    | .bad => .bad
  | .enum s, σ, h => match evS P O s σ h with
    | .ok xs h1 => .ok (enumL 0 xs) h1
    | .exc c h1 => .exc c h1
    | .bad => .bad
  | .zip2 a b, σ, h => match evS P O a σ h with
    | .ok xs h1 => (match evS P O b σ h1 with
      | .ok ys h2 => .ok (zipL xs ys) h2
      | .exc c h2 => .exc c h2
      | .bad => .bad)
    | .exc c h1 => .exc c h1
    | .bad => .bad
  | .zip3 a b d, σ, h => match evS P O a σ h with
    | .ok xs h1 => (match evS P O b σ h1 with
      | .ok ys h2 => (match evS P O d σ h2 with
        | .ok zs h3 => .ok (zipL3 xs ys zs) h3
        | .exc c h3 => .exc c h3
        | .bad => .bad)
      | .exc c h2 => .exc c h2
      | .bad => .bad)
    | .exc c h1 => .exc c h1
    | .bad => .bad
  | .items e, σ, h => match sel e σ h (ev P O e σ h) with
    | .ok v h1 => (match view v h1 with
      | .dct kvs => .ok (kvs.map fun p => .tup [p.1, p.2]) h1
      | _ => .bad)
    | .exc c h1 => .exc c h1
    | .bad => .bad
  | .values e, σ, h => match sel e σ h (ev P O e σ h) with
    | .ok v h1 => (match view v h1 with
      | .dct kvs => .ok (kvs.map (·.2)) h1
      | _ => .bad)
    | .exc c h1 => .exc c h1
    | .bad => .bad
  | .gen elt t ts s, σ, h => match evS P O s σ h with
    | .ok xs h1 => mapR (fun x h2 => match bindT t x σ with
        | some σ2 => (match evT P O ts σ2 h2 with
          | .ok true h3 => (match ev P O elt σ2 h3 with
            | .ok v h4 => .ok (some v) h4
            | .exc c h4 => .exc c h4
            | .bad => .bad)
          | .ok false h3 => .ok none h3
          | .exc c h3 => .exc c h3
          | .bad => .bad)
        | none => .bad) xs h1
    | .exc c h1 => .exc c h1
    | .bad => .bad
end

/-! ### statements -/
inductive SR where
  | nx (σ : Env) (h : Hp)
  | rt (v : LV) (h : Hp)
  | bk (σ : Env) (h : Hp)
  | ct (σ : Env) (h : Hp)
  | ex (c : Nat) (σ : Env) (h : Hp)
  | bad
  deriving Repr
/-- a target takes a value -/
def asgT (P : Prg) (O : Orc) (t : TG) (v : LV) (σ : Env) (h : Hp) : SR :=
  match t with
  | .nm i => .nx (σ.set i (.val v)) h
  | .own i => (match toLO v with
    | some _ => .nx (σ.set i (.own v)) h
    | none => .bad)
  | .tup t => (match bindT t v σ with
    | some σ' => .nx σ' h
    | none => .bad)
  | .idx o k => (match ev P O o σ h with
    | .ok (.ref n) h1 => (match ev P O k σ h1 with
      | .ok kv h2 => (match h2[n]? with
        | some ob => (match setv (ofLO ob) kv v with
          | some o2 => (match toLO o2 with
            | some ob2 => .nx σ (h2.set n ob2)
            | none => .bad)
          | none => .bad)
        | none => .bad)
      | .exc c h2 => .ex c σ h2
      | .bad => .bad)
    | .ok _ _ => .bad
    | .exc c h1 => .ex c σ h1
    | .bad => .bad)
  | .attr o a => (match ev P O o σ h with
    | .ok (.ref n) h1 => (match h1[n]? with
      | some (.ins c fs) => if fs.length < 900 then .nx σ (h1.set n (.ins c (putF a v fs))) else .bad
      | _ => .bad)
    | .ok _ _ => .bad
    | .exc c h1 => .ex c σ h1
    | .bad => .bad)
  | .oidx i k => (match ev P O k σ h with
    | .ok kv h2 => (match σ[i]? with
      | some (.own ov) => (match setv ov kv v with
        | some o2 => .nx (σ.set i (.own o2)) h2
        | none => .bad)
      | _ => .bad)
    | .exc c h2 => .ex c σ h2
    | .bad => .bad)
def asgTs (P : Prg) (O : Orc) : TGs → List LV → Env → Hp → SR
  | .nil, vs, σ, h => (match vs with | [] => .nx σ h | _ => .bad)
  | .cons t ts, vs, σ, h => (match vs with
    | v :: vs => (match asgT P O t v σ h with
      | .nx σ' h' => asgTs P O ts vs σ' h'
      | r => r)
    | [] => .bad)
/-- in place -/
def augv (o : Op) (a b : LV) : Option LV :=
  match o with
  | .add => (match a, b with | .int i, .int j => some (.int (i + j)) | _, _ => none)
  | .sub => (match a, b with | .int i, .int j => some (.int (i - j)) | _, _ => none)
  | _ => none
/-- a loop over a row: nx, brk end it -/
def forR (t : Tg) (body : Env → Hp → SR) : List LV → Env → Hp → SR
  | [], σ, h => .nx σ h
  | x :: xs, σ, h => match bindT t x σ with
    | some σ1 => (match body σ1 h with
      | .nx σ2 h2 => forR t body xs σ2 h2
      | .ct σ2 h2 => forR t body xs σ2 h2
      | .bk σ2 h2 => .nx σ2 h2
      | r => r)
    | none => .bad
def whlR (c : Env → Hp → Res LV) (body : Env → Hp → SR) : Nat → Env → Hp → SR
  | 0, _, _ => .bad
  | n + 1, σ, h => match c σ h with
    | .ok v h1 => (match (view v h1).truth with
      | some true => (match body σ h1 with
        | .nx σ2 h2 => whlR c body n σ2 h2
        | .ct σ2 h2 => whlR c body n σ2 h2
        | .bk σ2 h2 => .nx σ2 h2
        | r => r)
      | some false => .nx σ h1
      | none => .bad)
    | .exc d h1 => .ex d σ h1
    | .bad => .bad
def WF : Nat := 1000000
mutual
def ex (P : Prg) (O : Orc) : CS → Env → Hp → SR
  | .asg t e, σ, h => match ev P O e σ h with
    | .ok v h1 => asgT P O t v σ h1
    | .exc c h1 => .ex c σ h1
    | .bad => .bad
  | .asgo i e, σ, h => match ev P O e σ h with
    | .ok v h1 => (match toLO v with
      | some _ => .nx (σ.set i (.own v)) h1
      | none => .bad)
    | .exc c h1 => .ex c σ h1
    | .bad => .bad
  | .par ts es, σ, h => match evs P O es σ h with
    | .ok vs h1 => asgTs P O ts vs σ h1
    | .exc c h1 => .ex c σ h1
    | .bad => .bad
  | .augn i o e, σ, h => match look σ i with
    | some a => (match sel e σ h (ev P O e σ h) with
      | .ok b h1 => (match augv o a (view b h1) with
        | some v => .nx (σ.set i (.val v)) h1
        | none => .bad)
      | .exc c h1 => .ex c σ h1
      | .bad => .bad)
    | none => .bad
  | .auga b a o e, σ, h => match ev P O b σ h with
    | .ok (.ref n) h1 => (match h1[n]? with
      | some (.ins c fs0) => (match fs0.lookup a with
        | some x => (match sel e σ h1 (ev P O e σ h1) with
          | .ok y h2 => (match augv o x (view y h2) with
            | some v => (match h2[n]? with
              | some (.ins c2 fs) => if c2 = c ∧ fs.length < 900 then .nx σ (h2.set n (.ins c (putF a v fs))) else .bad
              | _ => .bad)
            | none => .bad)
          | .exc c h2 => .ex c σ h2
          | .bad => .bad)
        | none => .bad)
      | _ => .bad)
    | .ok _ _ => .bad
    | .exc c h1 => .ex c σ h1
    | .bad => .bad
  | .augi b k o e, σ, h => match ev P O b σ h with
    | .ok (.ref n) h1 => (match ev P O k σ h1 with
      | .ok kv h2 => (match opv .idx [view (.ref n) h2, kv] with
        | some x => (match sel e σ h2 (ev P O e σ h2) with
          | .ok y h3 => (match augv o x (view y h3) with
            | some v => (match setv (view (.ref n) h3) kv v with
              | some o2 => (match toLO o2 with
                | some ob2 => .nx σ (h3.set n ob2)
                | none => .bad)
              | none => .bad)
            | none => .bad)
          | .exc c h3 => .ex c σ h3
          | .bad => .bad)
        | none => .bad)
      | .exc c h2 => .ex c σ h2
      | .bad => .bad)
    | .ok _ _ => .bad
    | .exc c h1 => .ex c σ h1
    | .bad => .bad
  | .augoi i k o e, σ, h => match σ[i]? with
    | some (.own ov) => (match ev P O k σ h with
      | .ok kv h2 => (match opv .idx [ov, kv] with
        | some x => (match sel e σ h2 (ev P O e σ h2) with
          | .ok y h3 => (match augv o x (view y h3) with
            | some v => (match setv ov kv v with
              | some o2 => .nx (σ.set i (.own o2)) h3
              | none => .bad)
            | none => .bad)
          | .exc c h3 => .ex c σ h3
          | .bad => .bad)
        | none => .bad)
      | .exc c h2 => .ex c σ h2
      | .bad => .bad)
    | _ => .bad
  | .omut m i as, σ, h => match (if m = .update || m = .extend then evA P O as σ h else evs P O as σ h) with
    | .ok vs h1 => (match σ[i]? with
      | some (.own ov) => (match mutv m ov (if m = .update || m = .extend then vs.map fun v => view v h1 else vs) with
        | some (o2, _) => .nx (σ.set i (.own o2)) h1
        | none => .bad)
      | _ => .bad)
    | .exc c h1 => .ex c σ h1
    | .bad => .bad
  | .popo t i as, σ, h => match evs P O as σ h with
    | .ok vs h1 => (match σ[i]? with
      | some (.own ov) => (match mutv (if vs.isEmpty then .pop else .popAt) ov vs with
        | some (o2, v) => asgT P O t v (σ.set i (.own o2)) h1
        | none => .bad)
      | _ => .bad)
    | .exc c h1 => .ex c σ h1
    | .bad => .bad
  | .lams i ks, σ, h => .nx (σ.set i (.lam ks)) h
  | .lamx i ks, σ, h => (match σ[i]? with
    | some (.lam js) => if (js ++ ks).length ≤ SL then .nx (σ.set i (.lam (js ++ ks))) h else .bad
    | _ => .bad)
  | .mv i j, σ, h => (match σ[j]? with
    | some (.own v) => .nx ((σ.set j (.val v)).set i (.val v)) h
    | _ => .bad)
  | .expr e, σ, h => match ev P O e σ h with
    | .ok _ h1 => .nx σ h1
    | .exc c h1 => .ex c σ h1
    | .bad => .bad
  | .ret e, σ, h => match ev P O e σ h with
    | .ok v h1 => .rt v h1
    | .exc c h1 => .ex c σ h1
    | .bad => .bad
  | .reto i, σ, h => (match σ[i]? with
    | some (.own v) => .rt v h
    | _ => .bad)
  | .retn, _, h => .rt .non h
  | .ife c a b, σ, h => match ev P O c σ h with
    | .ok v h1 => (match (view v h1).truth with
      | some true => exs P O a σ h1
      | some false => exs P O b σ h1
      | none => .bad)
    | .exc d h1 => .ex d σ h1
    | .bad => .bad
  | .for t s body, σ, h => match evS P O s σ h with
    | .ok xs h1 => forR t (fun σ h => exs P O body σ h) xs σ h1
    | .exc c h1 => .ex c σ h1
    | .bad => .bad
  | .whl c body, σ, h => whlR (fun σ h => ev P O c σ h) (fun σ h => exs P O body σ h) WF σ h
  | .brk, σ, h => .bk σ h
  | .cnt, σ, h => .ct σ h
  | .pass, σ, h => .nx σ h
  | .raise c, σ, h => .ex c σ h
  | .try body c hd, σ, h => match exs P O body σ h with
    | .ex d σ1 h1 => if P.sub d c then exs P O hd σ1 h1 else .ex d σ1 h1
    | r => r
  | .del o k, σ, h => match ev P O o σ h with
    | .ok (.ref n) h1 => (match ev P O k σ h1 with
      | .ok kv h2 => (match h2[n]? with
        | some ob => (match delv (ofLO ob) kv with
          | some o2 => (match toLO o2 with
            | some ob2 => .nx σ (h2.set n ob2)
            | none => .bad)
          | none => .bad)
        | none => .bad)
      | .exc c h2 => .ex c σ h2
      | .bad => .bad)
    | .ok _ _ => .bad
    | .exc c h1 => .ex c σ h1
    | .bad => .bad
  | .delo i k, σ, h => match ev P O k σ h with
    | .ok kv h2 => (match σ[i]? with
      | some (.own ov) => (match delv ov kv with
        | some o2 => .nx (σ.set i (.own o2)) h2
        | none => .bad)
      | _ => .bad)
    | .exc c h2 => .ex c σ h2
    | .bad => .bad
def exs (P : Prg) (O : Orc) : CSs → Env → Hp → SR
  | .nil, σ, h => .nx σ h
  | .cons s ss, σ, h => match ex P O s σ h with
    | .nx σ1 h1 => exs P O ss σ1 h1
    | r => r
end
/-! ### calls -/
def start (f : Fn) (vs : List LV) : Env := vs.map .val ++ List.replicate (f.ns - vs.length) .un
def runF (P : Prg) (O : Orc) (f : Nat) (vs : List LV) (h : Hp) : Res LV :=
  if vs.length = (P.fn f).np then
    match exs P O (P.fn f).body (start (P.fn f) vs) h with
    | .rt v h1 => .ok v h1
    | .nx _ h1 => .ok .non h1
    | .ex c _ h1 => .exc c h1
    | _ => .bad
  else .bad
def orc (P : Prg) : Nat → Orc
  | 0 => ⟨fun _ _ _ => .bad, fun _ _ _ => .bad⟩
  | k + 1 => ⟨fun f vs h => runF P (orc P k) f vs h, fun i σ h => ev P (orc P k) (P.lam i) σ h⟩
end Ev
end
section
set_option maxRecDepth 100000
set_option maxHeartbeats 4000000
/-! what a run of the machine comes to: rules for reading code -/
namespace Wp
open Ev
variable {P : Prg} {O : Orc}
def W {α : Type} (r : Res α) (Q : α → Hp → Prop) : Prop := match r with
  | .ok a h => Q a h
  | _ => False
/-- a statement: goes on, returns, breaks, continues -/
def S (r : SR) (N : Env → Hp → Prop) (T : LV → Hp → Prop) (B C : Env → Hp → Prop) : Prop := match r with
  | .nx σ h => N σ h
  | .rt v h => T v h
  | .bk σ h => B σ h
  | .ct σ h => C σ h
  | _ => False
def OT (o : Option Bool) (A B : Prop) : Prop := match o with
  | some true => A
  | some false => B
  | none => False
def OV {α : Type} (o : Option α) (Q : α → Prop) : Prop := match o with
  | some a => Q a
  | none => False
theorem W.mono {α : Type} {r : Res α} {Q Q' : α → Hp → Prop} (k : ∀ a h, Q a h → Q' a h) (x : W r Q) : W r Q' := by
  cases r <;> first | exact k _ _ x | exact x
theorem S.mono {r : SR} {N N' : Env → Hp → Prop} {T T' : LV → Hp → Prop} {B B' C C' : Env → Hp → Prop} (k1 : ∀ a h, N a h → N' a h) (k2 : ∀ a h, T a h → T' a h) (k3 : ∀ a h, B a h → B' a h) (k4 : ∀ a h, C a h → C' a h) (x : S r N T B C) : S r N' T' B' C' := by
  cases r <;> first | exact k1 _ _ x | exact k2 _ _ x | exact k3 _ _ x | exact k4 _ _ x | exact x
@[simp] theorem bT_n {i : Nat} {v : LV} {σ : Env} : bindT (.nm i) v σ = some (σ.set i (.val v)) := rfl
@[simp] theorem bT_t {ts : Tgs} {vs : List LV} {σ : Env} : bindT (.tup ts) (.tup vs) σ = bindTs ts vs σ := rfl
@[simp] theorem bT_l {ts : Tgs} {vs : List LV} {σ : Env} : bindT (.tup ts) (.lst vs) σ = bindTs ts vs σ := rfl
@[simp] theorem bTs_0 {σ : Env} : bindTs .nil [] σ = some σ := rfl
@[simp] theorem bTs_1 {t : Tg} {ts : Tgs} {v : LV} {vs : List LV} {σ : Env} : bindTs (.cons t ts) (v :: vs) σ = match bindT t v σ with | some σ' => bindTs ts vs σ' | none => none := rfl
section ot
variable {A B : Prop} {b c : Bool} {p : Prop} [Decidable p]
@[simp] theorem ot_t : OT (some true) A B = A := rfl
@[simp] theorem ot_f : OT (some false) A B = B := rfl
@[simp] theorem ot_d : OT (some (decide p)) A B = ((p → A) ∧ (¬ p → B)) := by
  by_cases h : p <;> simp [OT, h]
@[simp] theorem ot_n : OT (some (!b)) A B = OT (some b) B A := by cases b <;> rfl
@[simp] theorem ot_and : OT (some (b && c)) A B = OT (some b) (OT (some c) A B) B := by cases b <;> rfl
@[simp] theorem ot_or : OT (some (b || c)) A B = OT (some b) A (OT (some c) A B) := by cases b <;> rfl
@[simp] theorem ot_ne : OT (some (b != c)) A B = OT (some (b == c)) B A := by cases b <;> cases c <;> rfl
@[simp] theorem ot_beqI {i j : Int} : OT (some (i == j)) A B = ((i = j → A) ∧ (¬ i = j → B)) := by
  by_cases h : i = j
  · subst h; simp [OT]
  · rw [show (i == j) = false from by simp [h]]; simp [OT, h]
@[simp] theorem ot_bneI {i j : Int} : OT (some (i != j)) A B = ((¬ i = j → A) ∧ (i = j → B)) := by
  by_cases h : i = j
  · subst h; simp [OT]
  · rw [show (i != j) = true from by simp [h]]; simp [OT, h]
end ot
@[simp] theorem ov_s {α : Type} {a : α} {Q : α → Prop} : OV (some a) Q = Q a := rfl
@[simp] theorem ov_n {α : Type} {Q : α → Prop} : OV (none : Option α) Q = False := rfl
@[simp] theorem w_ok {α : Type} {a : α} {h : Hp} {Q : α → Hp → Prop} : W (.ok a h) Q = Q a h := rfl
@[simp] theorem w_ofO {α : Type} {o : Option α} {h : Hp} {Q : α → Hp → Prop} : W (ofO o h) Q = OV o fun a => Q a h := by cases o <;> rfl
/-- `a or b`, `a and b`: the value itself comes back -/
def OR (v : LV) (h : Hp) (Q : LV → Hp → Prop) (B : Prop) : Prop := OT (view v h).truth (Q v h) B
def AN (v : LV) (h : Hp) (Q : LV → Hp → Prop) (B : Prop) : Prop := OT (view v h).truth B (Q v h)
@[simp] theorem or_b {b : Bool} {h : Hp} {Q : LV → Hp → Prop} {B : Prop} : OR (.bl b) h Q B = OT (some b) (Q (.bl true) h) B := by cases b <;> rfl
@[simp] theorem an_b {b : Bool} {h : Hp} {Q : LV → Hp → Prop} {B : Prop} : AN (.bl b) h Q B = OT (some b) B (Q (.bl false) h) := by cases b <;> rfl
/-- a list or dict is seen -/
def vw (n : Nat) : Option LO → LV
  | some (.lst xs) => .lst xs
  | some (.dct kvs) => .dct kvs
  | _ => .ref n
@[simp] theorem vw_l {n : Nat} {xs : List LV} : vw n (some (.lst xs)) = .lst xs := rfl
@[simp] theorem vw_d {n : Nat} {xs : List (LV × LV)} : vw n (some (.dct xs)) = .dct xs := rfl
@[simp] theorem vw_i {n c : Nat} {fs : List (Nat × LV)} : vw n (some (.ins c fs)) = .ref n := rfl
@[simp] theorem view_r {n : Nat} {h : Hp} : view (.ref n) h = vw n h[n]? := by
  show (match h[n]? with
    | some (.lst xs) => LV.lst xs
    | some (.dct kvs) => .dct kvs
    | _ => .ref n) = vw n h[n]?
  cases h[n]? with
  | none => rfl
  | some o => cases o <;> rfl
@[simp] theorem view_int {i : Int} {h : Hp} : view (.int i) h = .int i := rfl
@[simp] theorem view_bl {b : Bool} {h : Hp} : view (.bl b) h = .bl b := rfl
@[simp] theorem view_str {s : List Nat} {h : Hp} : view (.str s) h = .str s := rfl
@[simp] theorem view_tup {xs : List LV} {h : Hp} : view (.tup xs) h = .tup xs := rfl
@[simp] theorem view_lst {xs : List LV} {h : Hp} : view (.lst xs) h = .lst xs := rfl
@[simp] theorem view_dct {xs : List (LV × LV)} {h : Hp} : view (.dct xs) h = .dct xs := rfl
@[simp] theorem view_rol {xs : List LV} {h : Hp} : view (.rol xs) h = .rol xs := rfl
@[simp] theorem view_non {h : Hp} : view .non h = .non := rfl
@[simp] theorem truth_bl {b : Bool} : (LV.bl b).truth = some b := rfl
section
variable {σ : Env} {h : Hp} {Q : LV → Hp → Prop}
@[simp] theorem w_cst {v : LV} : W (ev P O (.cst v) σ h) Q = Q v h := by rw [ev]; rfl
@[simp] theorem w_var {i : Nat} : W (ev P O (.var i) σ h) Q = OV (look σ i) fun v => Q v h := by rw [ev, w_ofO]
@[simp] theorem w_op {o : Op} {as : CEs} : W (ev P O (.op o as) σ h) Q = W (evA P O as σ h) fun vs h1 => OV (opv o (vs.map fun v => view v h1)) fun v => Q v h1 := by
  rw [ev]; cases evA P O as σ h <;> simp [W]
  cases opv o _ <;> rfl
@[simp] theorem w_and {a b : CE} : W (ev P O (.and a b) σ h) Q = W (ev P O a σ h) fun v h1 => AN v h1 Q (W (ev P O b σ h1) Q) := by
  rw [ev]; cases ev P O a σ h <;> simp [W, AN]
  rename_i v h1
  cases (view v h1).truth with
  | none => rfl
  | some b => cases b <;> rfl
@[simp] theorem w_or {a b : CE} : W (ev P O (.or a b) σ h) Q = W (ev P O a σ h) fun v h1 => OR v h1 Q (W (ev P O b σ h1) Q) := by
  rw [ev]; cases ev P O a σ h <;> simp [W, OR]
  rename_i v h1
  cases (view v h1).truth with
  | none => rfl
  | some b => cases b <;> rfl
@[simp] theorem w_not {a : CE} : W (ev P O (.not a) σ h) Q = W (ev P O a σ h) fun v h1 => OV (view v h1).truth fun b => Q (.bl (!b)) h1 := by
  rw [ev]; cases ev P O a σ h <;> simp [W]
  rename_i v h1
  cases (view v h1).truth <;> rfl
@[simp] theorem w_ite {c a b : CE} : W (ev P O (.ite c a b) σ h) Q = W (ev P O c σ h) fun v h1 => OT (view v h1).truth (W (ev P O a σ h1) Q) (W (ev P O b σ h1) Q) := by
  rw [ev]; cases ev P O c σ h <;> simp [W]
  rename_i v h1
  cases (view v h1).truth with
  | none => rfl
  | some b => cases b <;> rfl
@[simp] theorem w_tup {as : CEs} : W (ev P O (.tup as) σ h) Q = W (evs P O as σ h) fun vs h1 => Q (.tup vs) h1 := by
  rw [ev]; cases evs P O as σ h <;> rfl
@[simp] theorem w_lst {as : CEs} : W (ev P O (.lst as) σ h) Q = W (evs P O as σ h) fun vs h1 => Q (.lst vs) h1 := by
  rw [ev]; cases evs P O as σ h <;> rfl
@[simp] theorem w_hnew {e : CE} : W (ev P O (.hnew e) σ h) Q = W (ev P O e σ h) fun v h1 => OV (toLO v) fun o => Q (.ref h1.length) (h1 ++ [o]) := by
  rw [ev]; cases ev P O e σ h <;> simp [W]
  rename_i v h1
  cases toLO v <;> rfl
@[simp] theorem w_call {f : Nat} {as : CEs} : W (ev P O (.call f as) σ h) Q = W (evs P O as σ h) fun vs h1 => W (O.call f vs h1) Q := by
  rw [ev]; cases evs P O as σ h <;> rfl
@[simp] theorem w_call0 {f : Nat} : W (ev P O (.call0 f) σ h) Q = W (O.call f [] []) fun v _ => v.pd 60 = true ∧ Q v h := by
  rw [ev]; cases O.call f [] [] <;> simp [W]
  rename_i v h1
  by_cases hl : v.pd 60 = true
  · simp only [hl, if_true, true_and]
  · simp [hl]
@[simp] theorem w_attr {o : CE} {a : Nat} : W (ev P O (.attr o a) σ h) Q = W (ev P O o σ h) fun v h1 => (match v with | .ref n => OV (fld h1 n a) fun x => Q x h1 | _ => False) := by
  rw [ev]; cases ev P O o σ h <;> simp [W]
  rename_i v h1
  cases v <;> try rfl
  simp
  cases fld h1 _ a <;> rfl
/-- attributes of an instance -/
def insO : Option LO → Option (Nat × List (Nat × LV))
  | some (.ins c fs) => some (c, fs)
  | _ => none
@[simp] theorem insO_i {c : Nat} {fs : List (Nat × LV)} : insO (some (.ins c fs)) = some (c, fs) := rfl
/-- the class of an object -/
def clsO : Option LO → Option Nat
  | some (.ins c _) => some c
  | _ => none
@[simp] theorem clsO_i {c : Nat} {fs : List (Nat × LV)} : clsO (some (.ins c fs)) = some c := rfl
def fldO (a : Nat) : Option LO → Option LV
  | some (.ins _ fs) => fs.lookup a
  | _ => none
@[simp] theorem fldO_i {a c : Nat} {fs : List (Nat × LV)} : fldO a (some (.ins c fs)) = fs.lookup a := rfl
@[simp] theorem fld_r {h : Hp} {n a : Nat} : fld h n a = fldO a h[n]? := by
  show (match h[n]? with | some (.ins _ fs) => fs.lookup a | _ => none) = _
  cases h[n]? with
  | none => rfl
  | some o => cases o <;> rfl
@[simp] theorem w_meth {m : Nat} {o : CE} {as : CEs} : W (ev P O (.meth m o as) σ h) Q = W (ev P O o σ h) fun v h1 => (match v with | .ref n => OV (clsO h1[n]?) (fun c => P.meth c m < P.nf ∧ W (evs P O as σ h1) fun vs h2 => W (O.call (P.meth c m) (.ref n :: vs) h2) Q) | _ => False) := by
  rw [ev]; cases ev P O o σ h <;> simp [W]
  rename_i v h1
  cases v <;> try rfl
  rename_i n
  dsimp only
  cases h1[n]? with
  | none => rfl
  | some o => cases o with
    | lst => rfl
    | dct => rfl
    | ins c fs =>
      simp only [ov_s, clsO_i, insO_i]
      by_cases hc : P.meth c m < P.nf
      · simp only [hc, if_true, true_and]
        cases evs P O as σ h1 <;> rfl
      · simp only [hc, if_false, false_and]
@[simp] theorem w_make {c : Nat} {as : CEs} : W (ev P O (.make c as) σ h) Q = W (evs P O as σ h) fun vs h1 => W (O.call (P.meth c 0) (.ref h1.length :: vs) (h1 ++ [.ins c []])) fun v h2 => v = .non ∧ Q (.ref h1.length) h2 := by
  rw [ev]; cases evs P O as σ h <;> simp [W]
  rename_i vs h1
  cases O.call (P.meth c 0) (.ref h1.length :: vs) (h1 ++ [.ins c []]) <;> simp
  rename_i v h2
  cases v <;> simp
@[simp] theorem w_cmp {a : CE} {os : List Op} {bs : CEs} : W (ev P O (.cmp a os bs) σ h) Q = W (sel a σ h (ev P O a σ h)) fun v h1 => W (evC P O v os bs σ h1) Q := by
  rw [ev]; cases sel a σ h (ev P O a σ h) <;> rfl
@[simp] theorem w_slice {a lo hi : CE} : W (ev P O (.slice a lo hi) σ h) Q = W (sel a σ h (ev P O a σ h)) fun v h1 => W (sel lo σ h1 (ev P O lo σ h1)) fun l h2 => isEnd l = true ∧ W (sel hi σ h2 (ev P O hi σ h2)) fun u h3 => isEnd u = true ∧ OV (slcV (view v h3) l u) fun x => Q x h3 := by
  rw [ev]; cases sel a σ h (ev P O a σ h) <;> simp [W]
  rename_i v h1
  cases sel lo σ h1 (ev P O lo σ h1) <;> simp
  rename_i l h2
  by_cases hl : isEnd l = true
  · simp only [hl, if_true, true_and]
    cases sel hi σ h2 (ev P O hi σ h2) <;> simp
    rename_i u h3
    by_cases hu : isEnd u = true
    · simp only [hu, if_true, true_and]
      cases slcV (view v h3) l u <;> rfl
    · simp [hu]
  · simp [hl]
@[simp] theorem w_bm {o : Op} {r : CE} {as : CEs} : W (ev P O (.bm o r as) σ h) Q = W (sel r σ h (ev P O r σ h)) fun v h1 => bmOk o (view v h1) = true ∧ W (evA P O as σ h1) fun vs h2 => bmOk o (view v h2) = true ∧ OV (opv o (view v h2 :: vs.map fun v => view v h2)) fun x => Q x h2 := by
  rw [ev]; cases sel r σ h (ev P O r σ h) <;> simp [W]
  rename_i v h1
  by_cases hl : bmOk o (view v h1) = true
  · simp only [hl, if_true, true_and]
    cases evA P O as σ h1 <;> simp
    rename_i vs h2
    by_cases hu : bmOk o (view v h2) = true
    · simp only [hu, if_true, true_and]
      cases opv o (view v h2 :: vs.map fun v => view v h2) <;> rfl
    · simp [hu]
  · simp [hl]
/-- one element of a comprehension -/
def elem (P : Prg) (O : Orc) (elt : CE) (t : Tg) (ts : CEs) (σ : Env) (x : LV) (h2 : Hp) : Res (Option LV) := match bindT t x σ with
        | some σ2 => (match evT P O ts σ2 h2 with
          | .ok true h3 => (match ev P O elt σ2 h3 with
            | .ok v h4 => .ok (some v) h4
            | _ => .bad)
          | .ok false h3 => .ok none h3
          | _ => .bad)
        | none => .bad
@[simp] theorem w_elem {elt : CE} {t : Tg} {ts : CEs} {x : LV} {Q : Option LV → Hp → Prop} : W (elem P O elt t ts σ x h) Q = OV (bindT t x σ) fun σ2 => W (evT P O ts σ2 h) fun b h3 => OT (some b) (W (ev P O elt σ2 h3) fun v h4 => Q (some v) h4) (Q none h3) := by
  unfold elem
  cases bindT t x σ <;> simp [W]
  rename_i σ2
  cases evT P O ts σ2 h <;> simp
  rename_i b h3
  cases b <;> simp
  cases ev P O elt σ2 h3 <;> rfl
@[simp] theorem w_comp {elt : CE} {t : Tg} {ts : CEs} {s : Src} : W (ev P O (.comp elt t ts s) σ h) Q = W (evS P O s σ h) fun xs h1 => xs.length ≤ SL ∧ W (mapR (elem P O elt t ts σ) xs h1) fun vs h2 => Q (.lst vs) h2 := by
  rw [ev]; cases evS P O s σ h <;> simp [W]
  rename_i xs h1
  by_cases hl : xs.length ≤ SL
  · simp only [hl, if_true, true_and]
    show W (match mapR (elem P O elt t ts σ) xs h1 with | .ok vs h2 => Res.ok (.lst vs) h2 | _ => Res.bad) Q ↔ _
    cases mapR (elem P O elt t ts σ) xs h1 <;> rfl
  · simp [hl]
def elemB (P : Prg) (O : Orc) (elt : CE) (t : Tg) (ts : CEs) (σ : Env) (x : LV) (h2 : Hp) : Res Bool := match bindT t x σ with
        | some σ2 => (match evT P O ts σ2 h2 with
          | .ok true h3 => (match ev P O elt σ2 h3 with
            | .ok v h4 => ofO (view v h4).truth h4
            | .exc c h4 => .exc c h4
            | .bad => .bad)
          | .ok false h3 => .ok false h3
          | .exc c h3 => .exc c h3
          | .bad => .bad)
        | none => .bad
@[simp] theorem w_elemB {elt : CE} {t : Tg} {ts : CEs} {x : LV} {Q : Bool → Hp → Prop} : W (elemB P O elt t ts σ x h) Q = OV (bindT t x σ) fun σ2 => W (evT P O ts σ2 h) fun b h3 => OT (some b) (W (ev P O elt σ2 h3) fun v h4 => OV (view v h4).truth fun b => Q b h4) (Q false h3) := by
  unfold elemB
  cases bindT t x σ <;> simp [W]
  rename_i σ2
  cases evT P O ts σ2 h <;> simp
  rename_i b h3
  cases b <;> simp
  cases ev P O elt σ2 h3 <;> simp
  rename_i v h4
  cases (view v h4).truth <;> rfl
@[simp] theorem w_anyg {elt : CE} {t : Tg} {ts : CEs} {s : Src} : W (ev P O (.anyg elt t ts s) σ h) Q = W (evS P O s σ h) fun xs h1 => xs.all prB = true ∧ W (anyR (elemB P O elt t ts σ) xs h1) fun b h2 => Q (.bl b) h2 := by
  rw [ev]; cases evS P O s σ h <;> simp [W]
  rename_i xs h1
  by_cases hl : xs.all prB = true
  · have hl' := hl
    simp only [List.all_eq_true] at hl'
    rw [if_pos (by simpa using hl')]
    show W (match anyR (elemB P O elt t ts σ) xs h1 with | .ok b h2 => Res.ok (.bl b) h2 | .exc c h2 => Res.exc c h2 | .bad => Res.bad) Q ↔ _
    cases anyR (elemB P O elt t ts σ) xs h1 with
    | ok b h2 => exact ⟨fun z => ⟨hl', z⟩, fun z => z.2⟩
    | exc c h2 => exact ⟨fun z => z.elim, fun z => z.2⟩
    | bad => exact ⟨fun z => z.elim, fun z => z.2⟩
  · rw [if_neg (by simpa using hl)]
    simp only [List.all_eq_true] at hl
    exact ⟨fun z => z.elim, fun z => (hl z.1).elim⟩
@[simp] theorem w_dsp {ks : CKs} : W (ev P O (.dsp ks) σ h) Q = W (evD P O ks [] σ h) Q := by rw [ev]
@[simp] theorem w_evD0 {acc : List (LV × LV)} : W (evD P O .nil acc σ h) Q = Q (.dct acc) h := by rw [evD]; rfl
@[simp] theorem w_evD1 {k v : CE} {r : CKs} {acc : List (LV × LV)} : W (evD P O (.cons k v r) acc σ h) Q = W (ev P O k σ h) fun kv h1 => W (ev P O v σ h1) fun vv h2 => okKey kv acc = true ∧ W (evD P O r (dput kv vv acc) σ h2) Q := by
  rw [evD]; cases ev P O k σ h <;> simp [W]
  rename_i kv h1
  cases ev P O v σ h1 <;> simp
  rename_i vv h2
  by_cases hl : okKey kv acc = true
  · simp only [hl, if_true, true_and]
  · simp [hl]
@[simp] theorem w_evC0 {v : LV} : W (evC P O v [] .nil σ h) Q = Q (.bl true) h := by rw [evC]; rfl
@[simp] theorem w_evC1 {v : LV} {o : Op} {os : List Op} {b : CE} {bs : CEs} : W (evC P O v (o :: os) (.cons b bs) σ h) Q = W (sel b σ h (ev P O b σ h)) fun w h1 => OV (opv o [view v h1, view w h1]) fun x => (match x with | .bl c => OT (some c) (W (evC P O w os bs σ h1) Q) (Q (.bl false) h1) | _ => False) := by
  rw [evC]; cases sel b σ h (ev P O b σ h) <;> simp [W]
  rename_i w h1
  cases opv o [view v h1, view w h1] with
  | none => rfl
  | some x => cases x <;> try rfl
              rename_i b
              cases b <;> rfl
end
section
variable {σ : Env} {h : Hp} {Q : List LV → Hp → Prop}
@[simp] theorem w_evs0 : W (evs P O .nil σ h) Q = Q [] h := by rw [evs]; rfl
@[simp] theorem w_evs1 {e : CE} {es : CEs} : W (evs P O (.cons e es) σ h) Q = W (ev P O e σ h) fun v h1 => W (evs P O es σ h1) fun vs h2 => Q (v :: vs) h2 := by
  rw [evs]; cases ev P O e σ h <;> simp [W]
  rename_i v h1
  cases evs P O es σ h1 <;> rfl
@[simp] theorem w_evA0 : W (evA P O .nil σ h) Q = Q [] h := by rw [evA]; rfl
@[simp] theorem w_evA1 {e : CE} {es : CEs} : W (evA P O (.cons e es) σ h) Q = W (sel e σ h (ev P O e σ h)) fun v h1 => W (evA P O es σ h1) fun vs h2 => Q (v :: vs) h2 := by
  rw [evA]; cases sel e σ h (ev P O e σ h) <;> simp [W]
  rename_i v h1
  cases evA P O es σ h1 <;> rfl
@[simp] theorem w_of {e : CE} : W (evS P O (.of e) σ h) Q = W (ev P O e σ h) fun v h1 => OV (itemsOf v) fun xs => Q xs h1 := by
  rw [evS]; cases ev P O e σ h <;> simp [W]
  rename_i v h1
  cases itemsOf v <;> rfl
@[simp] theorem w_range {as : CEs} : W (evS P O (.range as) σ h) Q = W (evA P O as σ h) fun vs h1 => OV (rangeOf vs) fun xs => Q xs h1 := by
  rw [evS]; cases evA P O as σ h <;> simp [W]
  rename_i v h1
  cases rangeOf v <;> rfl
@[simp] theorem w_enum {s : Src} : W (evS P O (.enum s) σ h) Q = W (evS P O s σ h) fun xs h1 => Q (enumL 0 xs) h1 := by
  rw [evS]; cases evS P O s σ h <;> rfl
@[simp] theorem w_zip2 {a b : Src} : W (evS P O (.zip2 a b) σ h) Q = W (evS P O a σ h) fun xs h1 => W (evS P O b σ h1) fun ys h2 => Q (zipL xs ys) h2 := by
  rw [evS]; cases evS P O a σ h <;> simp [W]
  rename_i v h1
  cases evS P O b σ h1 <;> rfl
@[simp] theorem w_mapR0 {f : LV → Hp → Res (Option LV)} : W (mapR f [] h) Q = Q [] h := rfl
@[simp] theorem w_mapR1 {f : LV → Hp → Res (Option LV)} {x : LV} {xs : List LV} : W (mapR f (x :: xs) h) Q = W (f x h) fun o h1 => (match o with | some v => W (mapR f xs h1) fun vs h2 => Q (v :: vs) h2 | none => W (mapR f xs h1) Q) := by
  rw [mapR]; cases f x h <;> simp [W]
  rename_i o h1
  cases o <;> simp
  cases mapR f xs h1 <;> rfl
end
@[simp] theorem w_evT0 {σ : Env} {h : Hp} {Q : Bool → Hp → Prop} : W (evT P O .nil σ h) Q = Q true h := by rw [evT]; rfl
@[simp] theorem w_evT1 {e : CE} {es : CEs} {σ : Env} {h : Hp} {Q : Bool → Hp → Prop} : W (evT P O (.cons e es) σ h) Q = W (ev P O e σ h) fun v h1 => OT (view v h1).truth (W (evT P O es σ h1) Q) (Q false h1) := by
  rw [evT]; cases ev P O e σ h <;> simp [W]
  rename_i v h1
  cases (view v h1).truth with
  | none => rfl
  | some b => cases b <;> rfl
/-! ### statements -/
section
variable {σ : Env} {h : Hp} {N B C : Env → Hp → Prop} {T : LV → Hp → Prop}
@[simp] theorem s_nil : S (exs P O .nil σ h) N T B C = N σ h := by rw [exs]; rfl
@[simp] theorem s_cons {s : CS} {ss : CSs} : S (exs P O (.cons s ss) σ h) N T B C = S (ex P O s σ h) (fun σ1 h1 => S (exs P O ss σ1 h1) N T B C) T B C := by
  rw [exs]; cases ex P O s σ h <;> rfl
@[simp] theorem s_nx : S (.nx σ h) N T B C = N σ h := rfl
@[simp] theorem s_asg {t : TG} {e : CE} : S (ex P O (.asg t e) σ h) N T B C = W (ev P O e σ h) fun v h1 => S (asgT P O t v σ h1) N T B C := by
  rw [ex]; cases ev P O e σ h <;> rfl
@[simp] theorem s_par {ts : TGs} {es : CEs} : S (ex P O (.par ts es) σ h) N T B C = W (evs P O es σ h) fun vs h1 => S (asgTs P O ts vs σ h1) N T B C := by
  rw [ex]; cases evs P O es σ h <;> rfl
@[simp] theorem s_expr {e : CE} : S (ex P O (.expr e) σ h) N T B C = W (ev P O e σ h) fun _ h1 => N σ h1 := by
  rw [ex]; cases ev P O e σ h <;> rfl
@[simp] theorem s_ret {e : CE} : S (ex P O (.ret e) σ h) N T B C = W (ev P O e σ h) T := by
  rw [ex]; cases ev P O e σ h <;> rfl
@[simp] theorem s_retn : S (ex P O .retn σ h) N T B C = T .non h := by rw [ex]; rfl
@[simp] theorem s_pass : S (ex P O .pass σ h) N T B C = N σ h := by rw [ex]; rfl
@[simp] theorem s_brk : S (ex P O .brk σ h) N T B C = B σ h := by rw [ex]; rfl
@[simp] theorem s_cnt : S (ex P O .cnt σ h) N T B C = C σ h := by rw [ex]; rfl
@[simp] theorem s_raise {c : Nat} : S (ex P O (.raise c) σ h) N T B C = False := by rw [ex]; rfl
@[simp] theorem s_ife {c : CE} {a b : CSs} : S (ex P O (.ife c a b) σ h) N T B C = W (ev P O c σ h) fun v h1 => OT (view v h1).truth (S (exs P O a σ h1) N T B C) (S (exs P O b σ h1) N T B C) := by
  rw [ex]; cases ev P O c σ h <;> simp [W, S]
  rename_i v h1
  cases (view v h1).truth with
  | none => rfl
  | some b => cases b <;> rfl
@[simp] theorem s_augn {i : Nat} {o : Op} {e : CE} : S (ex P O (.augn i o e) σ h) N T B C = OV (look σ i) fun a => W (sel e σ h (ev P O e σ h)) fun b h1 => OV (augv o a (view b h1)) fun v => N (σ.set i (.val v)) h1 := by
  rw [ex]; cases look σ i <;> simp [W, S]
  rename_i a
  cases sel e σ h (ev P O e σ h) <;> simp
  rename_i b h1
  cases augv o a (view b h1) <;> rfl
@[simp] theorem s_for {t : Tg} {s : Src} {body : CSs} : S (ex P O (.for t s body) σ h) N T B C = W (evS P O s σ h) fun xs h1 => S (forR t (fun σ h => exs P O body σ h) xs σ h1) N T B C := by
  rw [ex]; cases evS P O s σ h <;> rfl
@[simp] theorem s_a_nm {i : Nat} {v : LV} : S (asgT P O (.nm i) v σ h) N T B C = N (σ.set i (.val v)) h := rfl
@[simp] theorem s_a_tup {t : Tg} {v : LV} : S (asgT P O (.tup t) v σ h) N T B C = OV (bindT t v σ) fun σ' => N σ' h := by
  simp only [asgT]; cases bindT t v σ <;> rfl
@[simp] theorem s_as0 : S (asgTs P O .nil [] σ h) N T B C = N σ h := by simp [asgTs]
@[simp] theorem s_as1 {t : TG} {ts : TGs} {v : LV} {vs : List LV} : S (asgTs P O (.cons t ts) (v :: vs) σ h) N T B C = S (asgT P O t v σ h) (fun σ1 h1 => S (asgTs P O ts vs σ1 h1) N T B C) T B C := by
  rw [asgTs]; cases asgT P O t v σ h <;> rfl
@[simp] theorem s_a_attr {o : CE} {a : Nat} {v : LV} : S (asgT P O (.attr o a) v σ h) N T B C = W (ev P O o σ h) fun x h1 => (match x with | .ref n => OV (insO h1[n]?) (fun p => p.2.length < 900 ∧ N σ (h1.set n (.ins p.1 (putF a v p.2)))) | _ => False) := by
  simp only [asgT]; cases ev P O o σ h <;> simp [W, S]
  rename_i x h1
  cases x <;> try rfl
  rename_i n
  dsimp only
  cases h1[n]? with
  | none => rfl
  | some o => cases o with
    | lst => rfl
    | dct => rfl
    | ins c fs =>
      simp only [ov_s, clsO_i, insO_i]
      by_cases hc : fs.length < 900
      · simp only [hc, if_true, true_and]
      · simp only [hc, if_false, false_and]
@[simp] theorem s_a_idx {o k : CE} {v : LV} : S (asgT P O (.idx o k) v σ h) N T B C = W (ev P O o σ h) fun x h1 => (match x with | .ref n => W (ev P O k σ h1) (fun kv h2 => OV h2[n]? fun ob => OV (setv (ofLO ob) kv v) fun o2 => OV (toLO o2) fun ob2 => N σ (h2.set n ob2)) | _ => False) := by
  simp only [asgT]; cases ev P O o σ h <;> simp [W, S]
  rename_i x h1
  cases x <;> try rfl
  rename_i n
  simp only
  cases ev P O k σ h1 <;> simp
  rename_i kv h2
  cases h2[n]? <;> simp
  rename_i ob
  cases setv (ofLO ob) kv v <;> simp
  rename_i o2
  cases toLO o2 <;> rfl
@[simp] theorem s_auga {b : CE} {a : Nat} {o : Op} {e : CE} : S (ex P O (.auga b a o e) σ h) N T B C = W (ev P O b σ h) fun x h1 => (match x with | .ref n => OV (insO h1[n]?) (fun p => OV (p.2.lookup a) fun y => W (sel e σ h1 (ev P O e σ h1)) fun z h2 => OV (augv o y (view z h2)) fun v => OV (insO h2[n]?) fun q => q.1 = p.1 ∧ q.2.length < 900 ∧ N σ (h2.set n (.ins p.1 (putF a v q.2)))) | _ => False) := by
  rw [ex]; cases ev P O b σ h <;> simp [W, S]
  rename_i x h1
  cases x <;> try rfl
  rename_i n
  dsimp only
  cases h1[n]? with
  | none => rfl
  | some o => cases o with
    | lst => rfl
    | dct => rfl
    | ins c fs =>
      simp only [ov_s, clsO_i, insO_i]
      cases fs.lookup a <;> simp
      rename_i y
      cases sel e σ h1 (ev P O e σ h1) <;> simp
      rename_i z h2
      cases augv o y (view z h2) <;> simp
      cases h2[n]? with
      | none => rfl
      | some o => cases o with
        | lst => rfl
        | dct => rfl
        | ins c2 fs2 =>
          simp only [ov_s, clsO_i, insO_i]
          by_cases hc : c2 = c ∧ fs2.length < 900
          · simp only [hc, if_true, true_and, and_self]
          · simp only [hc, if_false]
            rw [← and_assoc]
            simp only [hc, false_and]
end
section
variable {σ : Env} {h : Hp} {N B C : Env → Hp → Prop} {T : LV → Hp → Prop}
/-- one statement at a time: what is set is known -/
theorem s_asgV {t : TG} {e : CE} {ss : CSs} (v : LV) (h1 : Hp) (e1 : ∀ Q : LV → Hp → Prop, Q v h1 → W (ev P O e σ h) Q) (k : S (asgT P O t v σ h1) (fun σ1 h2 => S (exs P O ss σ1 h2) N T B C) T B C) : S (exs P O (.cons (.asg t e) ss) σ h) N T B C := by
  rw [s_cons, s_asg]
  exact e1 _ k
theorem s_nmV {i : Nat} {e : CE} {ss : CSs} (v : LV) (h1 : Hp) (e1 : ∀ Q : LV → Hp → Prop, Q v h1 → W (ev P O e σ h) Q) (k : S (exs P O ss (σ.set i (.val v)) h1) N T B C) : S (exs P O (.cons (.asg (.nm i) e) ss) σ h) N T B C := by
  rw [s_cons, s_asg]
  exact e1 _ k
/-- a test whose answer is known -/
theorem s_ifV {c : CE} {x y ss : CSs} (b : Bool) (h1 : Hp) (e1 : ∀ Q : LV → Hp → Prop, Q (.bl b) h1 → W (ev P O c σ h) Q) (k : S (exs P O (if b = true then x else y) σ h1) (fun σ1 h2 => S (exs P O ss σ1 h2) N T B C) T B C) : S (exs P O (.cons (.ife c x y) ss) σ h) N T B C := by
  rw [s_cons, s_ife]
  refine e1 _ ?_
  rw [view_bl, truth_bl]
  cases b <;> exact k
theorem s_cut {s : CS} {ss : CSs} (N' : Env → Hp → Prop) (k1 : S (ex P O s σ h) N' T B C) (k2 : ∀ σ1 h1, N' σ1 h1 → S (exs P O ss σ1 h1) N T B C) : S (exs P O (.cons s ss) σ h) N T B C := by
  rw [s_cons]
  exact S.mono k2 (fun _ _ z => z) (fun _ _ z => z) (fun _ _ z => z) k1
theorem s_next {s : CS} {ss : CSs} (k : S (ex P O s σ h) (fun σ1 h1 => S (exs P O ss σ1 h1) N T B C) T B C) : S (exs P O (.cons s ss) σ h) N T B C := by
  rw [s_cons]
  exact k
/-- one statement, what follows kept out of sight -/
theorem s_op {s : CS} {ss : CSs} (k : ∀ N' : Env → Hp → Prop, (∀ σ1 h1, S (exs P O ss σ1 h1) N T B C → N' σ1 h1) → S (ex P O s σ h) N' T B C) : S (exs P O (.cons s ss) σ h) N T B C := by
  rw [s_cons]
  exact k _ fun _ _ z => z
theorem s_atV {i a r c : Nat} {fs : List (Nat × LV)} {e : CE} {ss : CSs} (v : LV) (hi : σ[i]? = some (.val (.ref r))) (hr : h[r]? = some (.ins c fs)) (hl : fs.length < 900) (e1 : ∀ Q : LV → Hp → Prop, Q v h → W (ev P O e σ h) Q) (k : S (exs P O ss σ (h.set r (.ins c (putF a v fs)))) N T B C) : S (exs P O (.cons (.asg (.attr (.var i) a) e) ss) σ h) N T B C := by
  rw [s_cons, s_asg]
  refine e1 _ ?_
  rw [s_a_attr, w_var]
  simp only [look, hi, ov_s, hr, insO_i]
  exact ⟨hl, k⟩
/-- a loop by what holds ahead of each turn -/
theorem s_forI {t : Tg} {body : Env → Hp → SR} (I : List LV → Env → Hp → Prop) (st : ∀ x rest σ h, I (x :: rest) σ h → OV (bindT t x σ) fun σ1 => S (body σ1 h) (I rest) T N (I rest)) (fin : ∀ σ h, I [] σ h → N σ h) : ∀ xs σ h, I xs σ h → S (forR t body xs σ h) N T B C
  | [], σ, h, i => fin σ h i
  | x :: xs, σ, h, i => by
    have z := st x xs σ h i
    unfold forR
    cases q : bindT t x σ with
    | none => rw [q] at z; exact z.elim
    | some σ1 =>
      rw [q] at z
      have z : S (body σ1 h) (I xs) T N (I xs) := z
      dsimp only
      cases q2 : body σ1 h with
      | nx σ2 h2 => rw [q2] at z; exact s_forI I st fin xs σ2 h2 z
      | ct σ2 h2 => rw [q2] at z; exact s_forI I st fin xs σ2 h2 z
      | bk σ2 h2 => rw [q2] at z; exact z
      | rt v h2 => rw [q2] at z; exact z
      | ex c σ2 h2 => rw [q2] at z; exact z.elim
      | bad => rw [q2] at z; exact z.elim
/-- a while loop: m is left at most -/
theorem s_whlI {c : Env → Hp → Res LV} {body : Env → Hp → SR} (I : Nat → Env → Hp → Prop) (st : ∀ m σ h, I m σ h → W (c σ h) fun v h1 => OT (view v h1).truth (S (body σ h1) (fun σ2 h2 => ∃ j, j < m ∧ I j σ2 h2) T N (fun σ2 h2 => ∃ j, j < m ∧ I j σ2 h2)) (N σ h1)) : ∀ f m σ h, m < f → I m σ h → S (whlR c body f σ h) N T B C
  | 0, m, σ, h, l, _ => absurd l (Nat.not_lt_zero _)
  | f + 1, m, σ, h, l, i => by
    have z := st m σ h i
    unfold whlR
    cases q : c σ h with
    | exc d h1 => rw [q] at z; exact z.elim
    | bad => rw [q] at z; exact z.elim
    | ok v h1 =>
      rw [q] at z
      have z : OT (view v h1).truth (S (body σ h1) (fun σ2 h2 => ∃ j, j < m ∧ I j σ2 h2) T N (fun σ2 h2 => ∃ j, j < m ∧ I j σ2 h2)) (N σ h1) := z
      dsimp only
      cases q1 : (view v h1).truth with
      | none => rw [q1] at z; exact z.elim
      | some b =>
        rw [q1] at z
        cases b with
        | false => exact z
        | true =>
          have z : S (body σ h1) (fun σ2 h2 => ∃ j, j < m ∧ I j σ2 h2) T N (fun σ2 h2 => ∃ j, j < m ∧ I j σ2 h2) := z
          dsimp only
          cases q2 : body σ h1 with
          | nx σ2 h2 => rw [q2] at z; obtain ⟨j, l2, z⟩ := z; exact s_whlI I st f j σ2 h2 (by omega) z
          | ct σ2 h2 => rw [q2] at z; obtain ⟨j, l2, z⟩ := z; exact s_whlI I st f j σ2 h2 (by omega) z
          | bk σ2 h2 => rw [q2] at z; exact z
          | rt v h2 => rw [q2] at z; exact z
          | ex c σ2 h2 => rw [q2] at z; exact z.elim
          | bad => rw [q2] at z; exact z.elim
@[simp] theorem s_whl {c : CE} {body : CSs} : S (ex P O (.whl c body) σ h) N T B C = S (whlR (fun σ h => ev P O c σ h) (fun σ h => exs P O body σ h) WF σ h) N T B C := by rw [ex]
end
@[simp] theorem w_any0 {f : LV → Hp → Res Bool} {h : Hp} {Q : Bool → Hp → Prop} : W (anyR f [] h) Q = Q false h := rfl
@[simp] theorem w_any1 {f : LV → Hp → Res Bool} {x : LV} {xs : List LV} {h : Hp} {Q : Bool → Hp → Prop} : W (anyR f (x :: xs) h) Q = W (f x h) fun b h1 => W (anyR f xs h1) fun b2 h2 => Q (b || b2) h2 := by
  rw [anyR]; cases f x h <;> simp [W]
  rename_i b h1
  cases anyR f xs h1 <;> rfl
theorem s_for0 {t : Tg} {body : Env → Hp → SR} {σ : Env} {h : Hp} {N B C : Env → Hp → Prop} {T : LV → Hp → Prop} : S (forR t body [] σ h) N T B C = N σ h := rfl
theorem s_for1 {t : Tg} {body : Env → Hp → SR} {x : LV} {xs : List LV} {σ : Env} {h : Hp} {N B C : Env → Hp → Prop} {T : LV → Hp → Prop} : S (forR t body (x :: xs) σ h) N T B C = OV (bindT t x σ) fun σ1 => S (body σ1 h) (fun σ2 h2 => S (forR t body xs σ2 h2) N T B C) T N (fun σ2 h2 => S (forR t body xs σ2 h2) N T B C) := by
  rw [forR]
  cases bindT t x σ with
  | none => rfl
  | some σ1 =>
    simp only [ov_s]
    cases body σ1 h <;> rfl
/-- a row taken through a function without effect -/
theorem w_mapP {f : LV → Hp → Res (Option LV)} {g : LV → Option LV} {h : Hp} : ∀ {xs : List LV} {Q : List LV → Hp → Prop}, (∀ x ∈ xs, ∀ Q : Option LV → Hp → Prop, Q (g x) h → W (f x h) Q) → Q (xs.filterMap g) h → W (mapR f xs h) Q
  | [], Q, _, k => k
  | x :: xs, Q, e, k => by
    rw [w_mapR1]
    refine e x List.mem_cons_self _ ?_
    rw [List.filterMap_cons] at k
    cases q : g x with
    | none => rw [q] at k; exact w_mapP (fun y hy => e y (List.mem_cons_of_mem _ hy)) k
    | some v => rw [q] at k; exact w_mapP (fun y hy => e y (List.mem_cons_of_mem _ hy)) k
/-- the same, with effects: what holds of the heap stays -/
theorem w_mapI {f : LV → Hp → Res (Option LV)} (I : Hp → Prop) (G : LV → Prop) : ∀ {xs : List LV} {h : Hp} {Q : List LV → Hp → Prop}, (∀ x ∈ xs, ∀ h, I h → W (f x h) fun o h1 => ∃ v, o = some v ∧ G v ∧ I h1) → I h → (∀ vs h1, vs.length = xs.length → (∀ v ∈ vs, G v) → I h1 → Q vs h1) → W (mapR f xs h) Q
  | [], h, Q, _, i, k => k [] h rfl (fun v hv => by cases hv) i
  | x :: xs, h, Q, e, i, k => by
    rw [w_mapR1]
    refine W.mono (fun o h1 z => ?_) (e x List.mem_cons_self h i)
    obtain ⟨v, rfl, gv, i1⟩ := z
    refine w_mapI I G (fun y hy => e y (List.mem_cons_of_mem _ hy)) i1 fun vs h2 hl hg i2 => k _ _ (by simp [hl]) (fun u hu => ?_) i2
    rcases List.mem_cons.mp hu with rfl | hu
    · exact gv
    · exact hg u hu
/-- a call of a def -/
theorem w_run {n f : Nat} {F : Fn} {vs : List LV} {h : Hp} {Q : LV → Hp → Prop} (e : P.fn f = F) (hl : vs.length = F.np) (k : S (exs P (orc P n) F.body (start F vs) h) (fun _ h1 => Q .non h1) Q (fun _ _ => False) (fun _ _ => False)) : W ((orc P (n + 1)).call f vs h) Q := by
  show W (runF P (orc P n) f vs h) Q
  unfold runF
  subst e
  rw [if_pos hl]
  cases hx : exs P (orc P n) (P.fn f).body (start (P.fn f) vs) h <;> rw [hx] at k <;> first | exact k | exact k.elim
theorem w_runS {n f : Nat} {F : Fn} {σ : Env} {vs : List LV} {h : Hp} {Q : LV → Hp → Prop} (e : P.fn f = F) (hl : vs.length = F.np) (es : start F vs = σ) (k : S (exs P (orc P n) F.body σ h) (fun _ h1 => Q .non h1) Q (fun _ _ => False) (fun _ _ => False)) : W ((orc P (n + 1)).call f vs h) Q :=
  w_run e hl (es ▸ k)
end Wp
end
section
set_option maxRecDepth 100000
open Ev
namespace K11
abbrev c_WidgetFault : Nat := 0
abbrev c_ScrollError : Nat := 1
abbrev c_View : Nat := 2
abbrev c_Swing : Nat := 3
abbrev a_whole : Nat := 0
abbrev a_seen : Nat := 1
abbrev a_place : Nat := 2
abbrev a_view : Nat := 3
abbrev a_share : Nat := 4
abbrev a_pace : Nat := 5
abbrev a_rest : Nat := 6
abbrev m___init__ : Nat := 0
abbrev m_most_place : Nat := 1
abbrev m_go : Nat := 2
abbrev m_by : Nat := 3
abbrev m_page : Nat := 4
abbrev m_show : Nat := 5
abbrev m_resize : Nat := 6
abbrev m_grow_ahead : Nat := 7
abbrev m_thumb : Nat := 8
abbrev m_thumb_to : Nat := 9
abbrev m_share_of : Nat := 10
abbrev m_is_seen : Nat := 11
abbrev m_push : Nat := 12
abbrev m_tick : Nat := 13
abbrev m_run : Nat := 14
abbrev f_View_init : Nat := 0
abbrev f_View_most_place : Nat := 1
abbrev f_View_go : Nat := 2
abbrev f_View_by : Nat := 3
abbrev f_View_page : Nat := 4
abbrev f_View_show : Nat := 5
abbrev f_View_resize : Nat := 6
abbrev f_View_grow_ahead : Nat := 7
abbrev f_View_thumb : Nat := 8
abbrev f_View_thumb_to : Nat := 9
abbrev f_View_share_of : Nat := 10
abbrev f_View_is_seen : Nat := 11
abbrev f_Swing_init : Nat := 12
abbrev f_Swing_push : Nat := 13
abbrev f_Swing_tick : Nat := 14
abbrev f_Swing_run : Nat := 15
abbrev f_together : Nat := 16
abbrev f_snap_place : Nat := 17
abbrev f_sticky_tops : Nat := 18
abbrev f_law_dice : Nat := 19
abbrev f_law_roll : Nat := 20
abbrev f_law_rounds : Nat := 21
abbrev f_law_told : Nat := 22
abbrev f_law_clip : Nat := 23
abbrev f_law_show : Nat := 24
abbrev f_law_plain : Nat := 25
abbrev f_law_rest : Nat := 26
abbrev f_law_swings : Nat := 27
abbrev f_law : Nat := 28
def lam0 : CE := (.make 2 (.cons (.op .neg (.cons (.cst (.int 1)) .nil)) (.cons (.cst (.int 0)) .nil)))
def lam1 : CE := (.make 2 (.cons (.cst (.int 0)) (.cons (.cst (.int 1000001)) .nil)))
def lam2 : CE := (.meth 4 (.var 0) (.cons (.cst (.int 1)) (.cons (.op .neg (.cons (.cst (.int 1)) .nil)) .nil)))
def lam3 : CE := (.meth 5 (.var 0) (.cons (.cst (.int 5)) (.cons (.cst (.int 4)) (.cons (.cst (.str [110, 101, 97, 114])) .nil))))
def lam4 : CE := (.meth 5 (.var 0) (.cons (.cst (.int 5)) (.cons (.cst (.int 6)) (.cons (.cst (.str [111, 100, 100])) .nil))))
def lam5 : CE := (.meth 6 (.var 0) (.cons (.op .neg (.cons (.cst (.int 1)) .nil)) (.cons (.cst (.int 5)) .nil)))
def lam6 : CE := (.meth 7 (.var 0) (.cons (.op .neg (.cons (.cst (.int 1)) .nil)) .nil))
def lam7 : CE := (.meth 8 (.var 0) (.cons (.cst (.int 5)) (.cons (.cst (.int 6)) .nil)))
def lam8 : CE := (.meth 8 (.var 0) (.cons (.cst (.int 5)) (.cons (.op .neg (.cons (.cst (.int 1)) .nil)) .nil)))
def lam9 : CE := (.meth 9 (.var 0) (.cons (.cst (.int 0)) (.cons (.cst (.int 5)) (.cons (.cst (.int 6)) .nil))))
def lam10 : CE := (.make 3 (.cons (.var 0) (.cons (.cst (.int 100)) .nil)))
def lam11 : CE := (.make 3 (.cons (.var 0) (.cons (.op .neg (.cons (.cst (.int 1)) .nil)) .nil)))
def lam12 : CE := (.call 17 (.cons (.cst (.int 1)) (.cons (.tup .nil) .nil)))
def lam13 : CE := (.call 18 (.cons (.tup .nil) (.cons (.cst (.int 0)) (.cons (.op .neg (.cons (.cst (.int 1)) .nil)) .nil))))
def lam14 : CE := (.call 18 (.cons (.tup (.cons (.tup (.cons (.cst (.int 5)) (.cons (.cst (.int 4)) .nil))) .nil)) (.cons (.cst (.int 0)) (.cons (.cst (.int 1)) .nil))))
def lam15 : CE := (.call 18 (.cons (.tup (.cons (.tup (.cons (.cst (.int 0)) (.cons (.cst (.int 5)) .nil))) (.cons (.tup (.cons (.cst (.int 4)) (.cons (.cst (.int 9)) .nil))) .nil))) (.cons (.cst (.int 0)) (.cons (.cst (.int 1)) .nil))))
def lam16 : CE := (.meth 14 (.var 3) (.cons (.cst (.int 3)) .nil))
/- View_init: 0 self 1 whole 2 seen -/
def b_View_init : CSs :=
  (.cons (.ife (.or (.not (.cmp (.cst (.int 0)) [.le, .le] (.cons (.var 1) (.cons (.cst (.int 1000000)) .nil)))) (.not (.cmp (.cst (.int 0)) [.le, .le] (.cons (.var 2) (.cons (.cst (.int 1000000)) .nil)))))
 (.cons (.raise 1)
  .nil)
 .nil)
  (.cons (.asg (.attr (.var 0) 0) (.var 1))
  (.cons (.asg (.attr (.var 0) 1) (.var 2))
  (.cons (.asg (.attr (.var 0) 2) (.cst (.int 0)))
  .nil))))
def d_View_init : Fn := ⟨3, 3, b_View_init⟩
/- View_most_place: 0 self -/
def b_View_most_place : CSs :=
  (.cons (.ret (.op .max (.cons (.cst (.int 0)) (.cons (.op .sub (.cons (.attr (.var 0) 0) (.cons (.attr (.var 0) 1) .nil))) .nil))))
  .nil)
def d_View_most_place : Fn := ⟨1, 1, b_View_most_place⟩
/- View_go: 0 self 1 place 2 before -/
def b_View_go : CSs :=
  (.cons (.asg (.nm 2) (.attr (.var 0) 2))
  (.cons (.asg (.attr (.var 0) 2) (.op .max (.cons (.cst (.int 0)) (.cons (.op .min (.cons (.meth 1 (.var 0) .nil) (.cons (.var 1) .nil))) .nil))))
  (.cons (.ret (.op .sub (.cons (.attr (.var 0) 2) (.cons (.var 2) .nil))))
  .nil)))
def d_View_go : Fn := ⟨2, 3, b_View_go⟩
/- View_by: 0 self 1 far -/
def b_View_by : CSs :=
  (.cons (.ret (.meth 2 (.var 0) (.cons (.op .add (.cons (.attr (.var 0) 2) (.cons (.var 1) .nil))) .nil)))
  .nil)
def d_View_by : Fn := ⟨2, 2, b_View_by⟩
/- View_page: 0 self 1 step 2 keep -/
def b_View_page : CSs :=
  (.cons (.ife (.op .lt (.cons (.var 2) (.cons (.cst (.int 0)) .nil)))
 (.cons (.raise 1)
  .nil)
 .nil)
  (.cons (.ret (.meth 3 (.var 0) (.cons (.op .mul (.cons (.var 1) (.cons (.op .max (.cons (.cst (.int 1)) (.cons (.op .sub (.cons (.attr (.var 0) 1) (.cons (.var 2) .nil))) .nil))) .nil))) .nil)))
  .nil))
def d_View_page : Fn := ⟨3, 3, b_View_page⟩
/- View_show: 0 self 1 first 2 behind 3 how -/
def b_View_show : CSs :=
  (.cons (.ife (.or (.op .gt (.cons (.var 1) (.cons (.var 2) .nil))) (.op .nin (.cons (.var 3) (.cons (.tup (.cons (.cst (.str [110, 101, 97, 114])) (.cons (.cst (.str [102, 105, 114, 115, 116])) (.cons (.cst (.str [109, 105, 100, 100, 108, 101])) (.cons (.cst (.str [108, 97, 115, 116])) .nil))))) .nil))))
 (.cons (.raise 1)
  .nil)
 .nil)
  (.cons (.ife (.op .eq (.cons (.var 3) (.cons (.cst (.str [102, 105, 114, 115, 116])) .nil)))
 (.cons (.ret (.meth 2 (.var 0) (.cons (.var 1) .nil)))
  .nil)
 .nil)
  (.cons (.ife (.op .eq (.cons (.var 3) (.cons (.cst (.str [108, 97, 115, 116])) .nil)))
 (.cons (.ret (.meth 2 (.var 0) (.cons (.op .sub (.cons (.var 2) (.cons (.attr (.var 0) 1) .nil))) .nil)))
  .nil)
 .nil)
  (.cons (.ife (.op .eq (.cons (.var 3) (.cons (.cst (.str [109, 105, 100, 100, 108, 101])) .nil)))
 (.cons (.ret (.meth 2 (.var 0) (.cons (.op .fdiv (.cons (.op .sub (.cons (.op .add (.cons (.var 1) (.cons (.var 2) .nil))) (.cons (.attr (.var 0) 1) .nil))) (.cons (.cst (.int 2)) .nil))) .nil)))
  .nil)
 .nil)
  (.cons (.ife (.or (.op .lt (.cons (.var 1) (.cons (.attr (.var 0) 2) .nil))) (.op .gt (.cons (.op .sub (.cons (.var 2) (.cons (.var 1) .nil))) (.cons (.attr (.var 0) 1) .nil))))
 (.cons (.ret (.meth 2 (.var 0) (.cons (.var 1) .nil)))
  .nil)
 .nil)
  (.cons (.ret (.ite (.op .gt (.cons (.var 2) (.cons (.op .add (.cons (.attr (.var 0) 2) (.cons (.attr (.var 0) 1) .nil))) .nil))) (.meth 2 (.var 0) (.cons (.op .sub (.cons (.var 2) (.cons (.attr (.var 0) 1) .nil))) .nil)) (.cst (.int 0))))
  .nil))))))
def d_View_show : Fn := ⟨4, 4, b_View_show⟩
/- View_resize: 0 self 1 whole 2 seen 3 fresh -/
def b_View_resize : CSs :=
  (.cons (.asg (.nm 3) (.make 2 (.cons (.var 1) (.cons (.var 2) .nil))))
  (.cons (.asg (.attr (.var 0) 0) (.attr (.var 3) 0))
  (.cons (.asg (.attr (.var 0) 1) (.attr (.var 3) 1))
  (.cons (.expr (.meth 2 (.var 0) (.cons (.attr (.var 0) 2) .nil)))
  .nil))))
def d_View_resize : Fn := ⟨3, 4, b_View_resize⟩
/- View_grow_ahead: 0 self 1 more -/
def b_View_grow_ahead : CSs :=
  (.cons (.ife (.op .lt (.cons (.var 1) (.cons (.cst (.int 0)) .nil)))
 (.cons (.raise 1)
  .nil)
 .nil)
  (.cons (.expr (.meth 6 (.var 0) (.cons (.op .add (.cons (.attr (.var 0) 0) (.cons (.var 1) .nil))) (.cons (.attr (.var 0) 1) .nil))))
  (.cons (.expr (.meth 2 (.var 0) (.cons (.op .add (.cons (.attr (.var 0) 2) (.cons (.var 1) .nil))) .nil)))
  .nil)))
def d_View_grow_ahead : Fn := ⟨2, 2, b_View_grow_ahead⟩
/- View_thumb: 0 self 1 track 2 least 3 long -/
def b_View_thumb : CSs :=
  (.cons (.ife (.not (.cmp (.cst (.int 0)) [.le, .le] (.cons (.var 2) (.cons (.var 1) .nil))))
 (.cons (.raise 1)
  .nil)
 .nil)
  (.cons (.ife (.op .eq (.cons (.meth 1 (.var 0) .nil) (.cons (.cst (.int 0)) .nil)))
 (.cons (.ret (.tup (.cons (.cst (.int 0)) (.cons (.var 1) .nil))))
  .nil)
 .nil)
  (.cons (.asg (.nm 3) (.op .max (.cons (.var 2) (.cons (.op .fdiv (.cons (.op .mul (.cons (.var 1) (.cons (.attr (.var 0) 1) .nil))) (.cons (.attr (.var 0) 0) .nil))) .nil))))
  (.cons (.ret (.tup (.cons (.op .fdiv (.cons (.op .mul (.cons (.op .sub (.cons (.var 1) (.cons (.var 3) .nil))) (.cons (.attr (.var 0) 2) .nil))) (.cons (.meth 1 (.var 0) .nil) .nil))) (.cons (.var 3) .nil))))
  .nil))))
def d_View_thumb : Fn := ⟨3, 4, b_View_thumb⟩
/- View_thumb_to: 0 self 1 place 2 track 3 least 4 long 5 room -/
def b_View_thumb_to : CSs :=
  (.cons (.asg (.nm 4) (.op .idx (.cons (.meth 8 (.var 0) (.cons (.var 2) (.cons (.var 3) .nil))) (.cons (.cst (.int 1)) .nil))))
  (.cons (.asg (.nm 5) (.op .sub (.cons (.var 2) (.cons (.var 4) .nil))))
  (.cons (.ife (.or (.op .le (.cons (.var 5) (.cons (.cst (.int 0)) .nil))) (.op .eq (.cons (.meth 1 (.var 0) .nil) (.cons (.cst (.int 0)) .nil))))
 (.cons (.ret (.meth 2 (.var 0) (.cons (.cst (.int 0)) .nil)))
  .nil)
 .nil)
  (.cons (.asg (.nm 1) (.op .max (.cons (.cst (.int 0)) (.cons (.op .min (.cons (.var 5) (.cons (.var 1) .nil))) .nil))))
  (.cons (.ret (.meth 2 (.var 0) (.cons (.op .fdiv (.cons (.op .sub (.cons (.op .add (.cons (.op .mul (.cons (.var 1) (.cons (.meth 1 (.var 0) .nil) .nil))) (.cons (.var 5) .nil))) (.cons (.cst (.int 1)) .nil))) (.cons (.var 5) .nil))) .nil)))
  .nil)))))
def d_View_thumb_to : Fn := ⟨4, 6, b_View_thumb_to⟩
/- View_share_of: 0 self -/
def b_View_share_of : CSs :=
  (.cons (.ret (.ite (.op .gt (.cons (.meth 1 (.var 0) .nil) (.cons (.cst (.int 0)) .nil))) (.op .fdiv (.cons (.op .mul (.cons (.cst (.int 1000)) (.cons (.attr (.var 0) 2) .nil))) (.cons (.meth 1 (.var 0) .nil) .nil))) (.cst (.int 1000))))
  .nil)
def d_View_share_of : Fn := ⟨1, 1, b_View_share_of⟩
/- View_is_seen: 0 self 1 first 2 behind -/
def b_View_is_seen : CSs :=
  (.cons (.ife (.and (.op .le (.cons (.attr (.var 0) 2) (.cons (.var 1) .nil))) (.op .le (.cons (.var 2) (.cons (.op .add (.cons (.attr (.var 0) 2) (.cons (.attr (.var 0) 1) .nil))) .nil))))
 (.cons (.ret (.cst (.str [97, 108, 108])))
  .nil)
 .nil)
  (.cons (.ret (.ite (.and (.op .lt (.cons (.var 1) (.cons (.op .add (.cons (.attr (.var 0) 2) (.cons (.attr (.var 0) 1) .nil))) .nil))) (.op .lt (.cons (.attr (.var 0) 2) (.cons (.var 2) .nil)))) (.cst (.str [115, 111, 109, 101])) (.cst (.str [110, 111, 110, 101]))))
  .nil))
def d_View_is_seen : Fn := ⟨3, 3, b_View_is_seen⟩
/- Swing_init: 0 self 1 view 2 share -/
def b_Swing_init : CSs :=
  (.cons (.ife (.not (.cmp (.cst (.int 0)) [.le, .le] (.cons (.var 2) (.cons (.cst (.int 99)) .nil))))
 (.cons (.raise 1)
  .nil)
 .nil)
  (.cons (.asg (.attr (.var 0) 3) (.var 1))
  (.cons (.asg (.attr (.var 0) 4) (.var 2))
  (.cons (.asg (.attr (.var 0) 5) (.cst (.int 0)))
  (.cons (.asg (.attr (.var 0) 6) (.cst (.int 0)))
  .nil)))))
def d_Swing_init : Fn := ⟨3, 3, b_Swing_init⟩
/- Swing_push: 0 self 1 pace -/
def b_Swing_push : CSs :=
  (.cons (.ife (.op .lt (.cons (.op .mul (.cons (.var 1) (.cons (.attr (.var 0) 5) .nil))) (.cons (.cst (.int 0)) .nil)))
 (.cons (.asg (.attr (.var 0) 5) (.cst (.int 0)))
  (.cons (.asg (.attr (.var 0) 6) (.cst (.int 0)))
  .nil))
 .nil)
  (.cons (.auga (.var 0) 5 .add (.var 1))
  .nil))
def d_Swing_push : Fn := ⟨2, 2, b_Swing_push⟩
/- Swing_tick: 0 self 1 whole 2 far 3 moved -/
def b_Swing_tick : CSs :=
  (.cons (.asg (.nm 1) (.op .add (.cons (.attr (.var 0) 6) (.cons (.attr (.var 0) 5) .nil))))
  (.cons (.asg (.nm 2) (.op .mul (.cons (.op .fdiv (.cons (.op .abs (.cons (.var 1) .nil)) (.cons (.cst (.int 100)) .nil))) (.cons (.ite (.op .ge (.cons (.var 1) (.cons (.cst (.int 0)) .nil))) (.cst (.int 1)) (.op .sub (.cons (.cst (.int 0)) (.cons (.cst (.int 1)) .nil)))) .nil))))
  (.cons (.asg (.attr (.var 0) 6) (.op .sub (.cons (.var 1) (.cons (.op .mul (.cons (.cst (.int 100)) (.cons (.var 2) .nil))) .nil))))
  (.cons (.asg (.nm 3) (.meth 3 (.attr (.var 0) 3) (.cons (.var 2) .nil)))
  (.cons (.ife (.op .ne (.cons (.var 3) (.cons (.var 2) .nil)))
 (.cons (.par (.cons (.attr (.var 0) 5) (.cons (.attr (.var 0) 6) .nil)) (.cons (.cst (.int 0)) (.cons (.cst (.int 0)) .nil)))
  .nil)
 .nil)
  (.cons (.asg (.attr (.var 0) 5) (.op .mul (.cons (.op .fdiv (.cons (.op .mul (.cons (.op .abs (.cons (.attr (.var 0) 5) .nil)) (.cons (.attr (.var 0) 4) .nil))) (.cons (.cst (.int 100)) .nil))) (.cons (.ite (.op .ge (.cons (.attr (.var 0) 5) (.cons (.cst (.int 0)) .nil))) (.cst (.int 1)) (.op .sub (.cons (.cst (.int 0)) (.cons (.cst (.int 1)) .nil)))) .nil))))
  (.cons (.ret (.var 3))
  .nil)))))))
def d_Swing_tick : Fn := ⟨1, 4, b_Swing_tick⟩
/- Swing_run: 0 self 1 most 2 found -/
def b_Swing_run : CSs :=
  (.cons (.asg (.nm 2) (.cst (.int 0)))
  (.cons (.whl (.op .ne (.cons (.attr (.var 0) 5) (.cons (.cst (.int 0)) .nil)))
 (.cons (.ife (.op .ge (.cons (.var 2) (.cons (.var 1) .nil)))
 (.cons (.raise 1)
  .nil)
 .nil)
  (.cons (.expr (.meth 13 (.var 0) .nil))
  (.cons (.augn 2 .add (.cst (.int 1)))
  .nil))))
  (.cons (.ret (.var 2))
  .nil)))
def d_Swing_run : Fn := ⟨2, 3, b_Swing_run⟩
/- together: 0 one 1 other -/
def b_together : CSs :=
  (.cons (.ife (.op .eq (.cons (.meth 1 (.var 0) .nil) (.cons (.cst (.int 0)) .nil)))
 (.cons (.ret (.meth 2 (.var 1) (.cons (.cst (.int 0)) .nil)))
  .nil)
 .nil)
  (.cons (.ret (.meth 2 (.var 1) (.cons (.op .fdiv (.cons (.op .mul (.cons (.meth 1 (.var 1) .nil) (.cons (.attr (.var 0) 2) .nil))) (.cons (.meth 1 (.var 0) .nil) .nil))) .nil)))
  .nil))
def d_together : Fn := ⟨2, 2, b_together⟩
/- snap_place: 0 place 1 stops 2 rows 3 spot 4 stop -/
def b_snap_place : CSs :=
  (.cons (.ife (.op .eq (.cons (.op .len (.cons (.var 1) .nil)) (.cons (.cst (.int 0)) .nil)))
 (.cons (.raise 1)
  .nil)
 .nil)
  (.cons (.asg (.nm 2) (.comp (.tup (.cons (.op .abs (.cons (.op .sub (.cons (.var 4) (.cons (.var 0) .nil))) .nil)) (.cons (.var 3) (.cons (.var 4) .nil)))) (.tup (.cons (.nm 3) (.cons (.nm 4) .nil))) .nil (.enum (.of (.var 1)))))
  (.cons (.ret (.op .idx (.cons (.op .minT (.cons (.var 2) .nil)) (.cons (.cst (.int 2)) .nil))))
  .nil)))
def d_snap_place : Fn := ⟨2, 5, b_snap_place⟩
/- sticky_tops: 0 heads 1 place 2 high 3 number 4 first 5 behind 6 one 7 other -/
def b_sticky_tops : CSs :=
  (.cons (.ife (.or (.op .lt (.cons (.var 2) (.cons (.cst (.int 0)) .nil))) (.anyg (.op .gt (.cons (.var 4) (.cons (.var 5) .nil))) (.tup (.cons (.nm 4) (.cons (.nm 5) .nil))) .nil (.of (.var 0))))
 (.cons (.raise 1)
  .nil)
 .nil)
  (.cons (.ife (.anyg (.op .gt (.cons (.op .idx (.cons (.var 6) (.cons (.cst (.int 1)) .nil))) (.cons (.op .idx (.cons (.var 7) (.cons (.cst (.int 0)) .nil))) .nil))) (.tup (.cons (.nm 6) (.cons (.nm 7) .nil))) .nil (.zip2 (.of (.var 0)) (.of (.slice (.var 0) (.cst (.int 1)) (.cst .non)))))
 (.cons (.raise 1)
  .nil)
 .nil)
  (.cons (.for (.tup (.cons (.nm 3) (.cons (.tup (.cons (.nm 4) (.cons (.nm 5) .nil))) .nil))) (.enum (.of (.var 0)))
 (.cons (.ife (.cmp (.var 4) [.le, .lt] (.cons (.var 1) (.cons (.var 5) .nil)))
 (.cons (.ret (.tup (.cons (.var 3) (.cons (.op .min (.cons (.cst (.int 0)) (.cons (.op .sub (.cons (.op .sub (.cons (.var 5) (.cons (.var 1) .nil))) (.cons (.var 2) .nil))) .nil))) .nil))))
  .nil)
 .nil)
  .nil))
  (.cons (.ret (.tup (.cons (.op .sub (.cons (.cst (.int 0)) (.cons (.cst (.int 1)) .nil))) (.cons (.cst (.int 0)) .nil))))
  .nil))))
def d_sticky_tops : Fn := ⟨3, 8, b_sticky_tops⟩
/- law_dice: 0 cell -/
def b_law_dice : CSs :=
  (.cons (.ife (.cmp (.op .sub (.cons (.cst (.int 0)) (.cons (.cst (.int 10)) .nil))) [.lt, .lt] (.cons (.var 0) (.cons (.cst (.int 10)) .nil)))
 (.cons (.ret (.hnew (.lst (.cons (.op .abs (.cons (.var 0) .nil)) (.cons (.cst (.int 0)) (.cons (.cst (.int 2)) .nil))))))
  .nil)
 .nil)
  (.cons (.ret (.hnew (.lst (.cons (.var 0) (.cons (.op .add (.cons (.cst (.int 1)) (.cons (.op .mod (.cons (.op .int (.cons (.var 0) .nil)) (.cons (.cst (.int 1009)) .nil))) .nil))) (.cons (.op .int (.cons (.op .ge (.cons (.var 0) (.cons (.op .pow (.cons (.cst (.int 10)) (.cons (.cst (.int 18)) .nil))) .nil))) .nil)) .nil))))))
  .nil))
def d_law_dice : Fn := ⟨1, 1, b_law_dice⟩
/- law_roll: 0 dice 1 many 2 found -/
def b_law_roll : CSs :=
  (.cons (.ife (.or (.op .eq (.cons (.op .idx (.cons (.var 0) (.cons (.cst (.int 2)) .nil))) (.cons (.cst (.int 2)) .nil))) (.and (.op .eq (.cons (.op .idx (.cons (.var 0) (.cons (.cst (.int 2)) .nil))) (.cons (.cst (.int 1)) .nil))) (.op .gt (.cons (.op .idx (.cons (.var 0) (.cons (.cst (.int 0)) .nil))) (.cons (.cst (.int 0)) .nil)))))
 (.cons (.asg (.nm 2) (.op .mod (.cons (.op .int (.cons (.op .idx (.cons (.var 0) (.cons (.cst (.int 0)) .nil))) .nil)) (.cons (.var 1) .nil))))
  (.cons (.asg (.idx (.var 0) (.cst (.int 0))) (.op .fdiv (.cons (.op .idx (.cons (.var 0) (.cons (.cst (.int 0)) .nil))) (.cons (.var 1) .nil))))
  (.cons (.ret (.var 2))
  .nil)))
 .nil)
  (.cons (.asg (.idx (.var 0) (.cst (.int 2))) (.cst (.int 0)))
  (.cons (.ife (.op .gt (.cons (.var 1) (.cons (.cst (.int 100000000)) .nil)))
 (.cons (.ret (.op .mod (.cons (.op .int (.cons (.op .add (.cons (.op .mul (.cons (.call 20 (.cons (.var 0) (.cons (.op .add (.cons (.op .fdiv (.cons (.var 1) (.cons (.cst (.int 100000000)) .nil))) (.cons (.cst (.int 1)) .nil))) .nil))) (.cons (.cst (.int 100000000)) .nil))) (.cons (.call 20 (.cons (.var 0) (.cons (.cst (.int 100000000)) .nil))) .nil))) .nil)) (.cons (.var 1) .nil))))
  .nil)
 .nil)
  (.cons (.asg (.idx (.var 0) (.cst (.int 0))) (.op .mod (.cons (.op .int (.cons (.op .add (.cons (.op .add (.cons (.op .mul (.cons (.op .idx (.cons (.var 0) (.cons (.cst (.int 0)) .nil))) (.cons (.cst (.int 48271)) .nil))) (.cons (.op .mul (.cons (.op .idx (.cons (.var 0) (.cons (.cst (.int 1)) .nil))) (.cons (.cst (.int 69621)) .nil))) .nil))) (.cons (.cst (.int 11)) .nil))) .nil)) (.cons (.cst (.int 2147483647)) .nil))))
  (.cons (.asg (.idx (.var 0) (.cst (.int 1))) (.op .add (.cons (.op .idx (.cons (.var 0) (.cons (.cst (.int 1)) .nil))) (.cons (.cst (.int 1)) .nil))))
  (.cons (.ret (.op .mod (.cons (.op .int (.cons (.op .fdiv (.cons (.op .idx (.cons (.var 0) (.cons (.cst (.int 0)) .nil))) (.cons (.cst (.int 7)) .nil))) .nil)) (.cons (.var 1) .nil))))
  .nil))))))
def d_law_roll : Fn := ⟨2, 3, b_law_roll⟩
/- law_rounds: 0 script 1 most 2 cells 3 cell -/
def b_law_rounds : CSs :=
  (.cons (.asg (.nm 2) (.slice (.var 0) (.cst .non) (.var 1)))
  (.cons (.ife (.op .eq (.cons (.var 2) (.cons (.lst .nil) .nil)))
 (.cons (.asg (.nm 2) (.lst (.cons (.cst (.int 0)) .nil)))
  .nil)
 .nil)
  (.cons (.ret (.comp (.call 19 (.cons (.var 3) .nil)) (.nm 3) .nil (.of (.var 2))))
  .nil)))
def d_law_rounds : Fn := ⟨2, 4, b_law_rounds⟩
/- law_told: 0 what -/
def b_law_told : CSs :=
  (.cons .brk .nil)
def d_law_told : Fn := ⟨1, 1, b_law_told⟩
/- law_clip: 0 place 1 whole 2 seen -/
def b_law_clip : CSs :=
  (.cons (.ret (.op .max (.cons (.cst (.int 0)) (.cons (.op .min (.cons (.op .max (.cons (.cst (.int 0)) (.cons (.op .sub (.cons (.var 1) (.cons (.var 2) .nil))) .nil))) (.cons (.var 0) .nil))) .nil))))
  .nil)
def d_law_clip : Fn := ⟨3, 3, b_law_clip⟩
/- law_show: 0 place 1 whole 2 seen 3 first 4 behind 5 how 6 goals 7 goal -/
def b_law_show : CSs :=
  (.cons (.ife (.op .eq (.cons (.var 5) (.cons (.cst (.str [110, 101, 97, 114])) .nil)))
 (.cons (.asg (.nm 6) (.op .srtP (.cons (.comp (.tup (.cons (.op .abs (.cons (.op .sub (.cons (.var 7) (.cons (.var 0) .nil))) .nil)) (.cons (.var 7) .nil))) (.nm 7) (.cons (.and (.op .le (.cons (.var 7) (.cons (.var 3) .nil))) (.op .le (.cons (.var 4) (.cons (.op .add (.cons (.var 7) (.cons (.var 2) .nil))) .nil)))) .nil) (.range (.cons (.cst (.int 0)) (.cons (.op .add (.cons (.op .max (.cons (.cst (.int 0)) (.cons (.op .sub (.cons (.var 1) (.cons (.var 2) .nil))) .nil))) (.cons (.cst (.int 1)) .nil))) .nil)))) .nil)))
  (.cons (.ife (.op .ne (.cons (.var 6) (.cons (.lst .nil) .nil)))
 (.cons (.ret (.op .idx (.cons (.op .idx (.cons (.var 6) (.cons (.cst (.int 0)) .nil))) (.cons (.cst (.int 1)) .nil))))
  .nil)
 .nil)
  (.cons (.asg (.nm 7) (.ite (.or (.op .lt (.cons (.var 3) (.cons (.var 0) .nil))) (.op .gt (.cons (.op .sub (.cons (.var 4) (.cons (.var 3) .nil))) (.cons (.var 2) .nil)))) (.var 3) (.ite (.op .gt (.cons (.var 4) (.cons (.op .add (.cons (.var 0) (.cons (.var 2) .nil))) .nil))) (.op .sub (.cons (.var 4) (.cons (.var 2) .nil))) (.var 0))))
  (.cons (.ret (.call 23 (.cons (.var 7) (.cons (.var 1) (.cons (.var 2) .nil)))))
  .nil))))
 .nil)
  (.cons (.ret (.call 23 (.cons (.op .idx (.cons (.dsp (.cons (.cst (.str [102, 105, 114, 115, 116])) (.var 3) (.cons (.cst (.str [108, 97, 115, 116])) (.op .sub (.cons (.var 4) (.cons (.var 2) .nil))) (.cons (.cst (.str [109, 105, 100, 100, 108, 101])) (.op .fdiv (.cons (.op .sub (.cons (.op .add (.cons (.var 3) (.cons (.var 4) .nil))) (.cons (.var 2) .nil))) (.cons (.cst (.int 2)) .nil))) .nil)))) (.cons (.var 5) .nil))) (.cons (.var 1) (.cons (.var 2) .nil)))))
  .nil))
def d_law_show : Fn := ⟨6, 8, b_law_show⟩
/- law_plain: 0 view 1 told 2 bad 3 stuck 4 due 5 small 6 swing 7 how 8 k 9 f -/
def b_law_plain : CSs :=
  (.cons (.asg (.nm 0) (.make 2 (.cons (.cst (.int 100)) (.cons (.cst (.int 20)) .nil))))
  (.cons (.asg (.nm 1) (.lst (.cons (.meth 1 (.var 0) .nil) (.cons (.meth 2 (.var 0) (.cons (.cst (.int 30)) .nil)) (.cons (.meth 3 (.var 0) (.cons (.op .neg (.cons (.cst (.int 50)) .nil)) .nil)) (.cons (.meth 3 (.var 0) (.cons (.cst (.int 500)) .nil)) (.cons (.attr (.var 0) 2) (.cons (.meth 4 (.var 0) (.cons (.op .neg (.cons (.cst (.int 2)) .nil)) (.cons (.cst (.int 5)) .nil))) (.cons (.attr (.var 0) 2) (.cons (.comp (.meth 5 (.var 0) (.cons (.cst (.int 40)) (.cons (.cst (.int 45)) (.cons (.var 7) .nil)))) (.nm 7) .nil (.of (.lst (.cons (.cst (.str [110, 101, 97, 114])) (.cons (.cst (.str [102, 105, 114, 115, 116])) (.cons (.cst (.str [109, 105, 100, 100, 108, 101])) (.cons (.cst (.str [108, 97, 115, 116])) .nil))))))) (.cons (.meth 5 (.var 0) (.cons (.cst (.int 0)) (.cons (.cst (.int 90)) (.cons (.cst (.str [110, 101, 97, 114])) .nil)))) (.cons (.meth 8 (.var 0) (.cons (.cst (.int 20)) (.cons (.cst (.int 2)) .nil))) (.cons (.meth 9 (.var 0) (.cons (.cst (.int 9)) (.cons (.cst (.int 20)) (.cons (.cst (.int 2)) .nil)))) (.cons (.attr (.var 0) 2) (.cons (.meth 10 (.var 0) .nil) (.cons (.meth 11 (.var 0) (.cons (.cst (.int 50)) (.cons (.cst (.int 60)) .nil))) (.cons (.meth 11 (.var 0) (.cons (.cst (.int 0)) (.cons (.cst (.int 99)) .nil))) (.cons (.meth 11 (.var 0) (.cons (.cst (.int 0)) (.cons (.cst (.int 5)) .nil))) (.cons (.meth 6 (.var 0) (.cons (.cst (.int 60)) (.cons (.cst (.int 20)) .nil))) (.cons (.attr (.var 0) 2) (.cons (.meth 7 (.var 0) (.cons (.cst (.int 10)) .nil)) (.cons (.attr (.var 0) 2) .nil))))))))))))))))))))))
  (.cons (.par (.cons (.nm 5) (.cons (.nm 6) .nil)) (.cons (.make 2 (.cons (.cst (.int 5)) (.cons (.cst (.int 20)) .nil))) (.cons (.make 3 (.cons (.make 2 (.cons (.cst (.int 100)) (.cons (.cst (.int 20)) .nil))) (.cons (.cst (.int 80)) .nil))) .nil)))
  (.cons (.asg (.nm 1) (.op .add (.cons (.var 1) (.cons (.lst (.cons (.meth 1 (.var 5) .nil) (.cons (.meth 2 (.var 5) (.cons (.cst (.int 9)) .nil)) (.cons (.meth 8 (.var 5) (.cons (.cst (.int 20)) (.cons (.cst (.int 2)) .nil))) (.cons (.meth 10 (.var 5) .nil) (.cons (.meth 9 (.var 5) (.cons (.cst (.int 5)) (.cons (.cst (.int 20)) (.cons (.cst (.int 2)) .nil)))) (.cons (.meth 12 (.var 6) (.cons (.cst (.int 500)) .nil)) (.cons (.meth 13 (.var 6) .nil) (.cons (.attr (.var 6) 5) (.cons (.meth 14 (.var 6) (.cons (.cst (.int 50)) .nil)) (.cons (.attr (.attr (.var 6) 3) 2) (.cons (.meth 12 (.var 6) (.cons (.op .neg (.cons (.cst (.int 300)) .nil)) .nil)) (.cons (.attr (.var 6) 5) (.cons (.meth 14 (.var 6) (.cons (.cst (.int 50)) .nil)) (.cons (.attr (.attr (.var 6) 3) 2) (.cons (.call 16 (.cons (.var 0) (.cons (.attr (.var 6) 3) .nil))) (.cons (.call 16 (.cons (.var 5) (.cons (.var 0) .nil))) (.cons (.call 17 (.cons (.cst (.int 13)) (.cons (.tup (.cons (.cst (.int 10)) (.cons (.cst (.int 16)) .nil))) .nil))) (.cons (.call 18 (.cons (.tup (.cons (.tup (.cons (.cst (.int 0)) (.cons (.cst (.int 30)) .nil))) (.cons (.tup (.cons (.cst (.int 30)) (.cons (.cst (.int 60)) .nil))) .nil))) (.cons (.cst (.int 28)) (.cons (.cst (.int 5)) .nil)))) (.cons (.call 18 (.cons (.tup (.cons (.tup (.cons (.cst (.int 5)) (.cons (.cst (.int 30)) .nil))) .nil)) (.cons (.cst (.int 2)) (.cons (.cst (.int 5)) .nil)))) .nil)))))))))))))))))))) .nil))))
  (.cons (.lams 2 [0, 1, 2, 3, 4])
  (.cons (.lamx 2 [5, 6, 7, 8, 9])
  (.cons (.lamx 2 [10, 11, 12, 13, 14])
  (.cons (.lamx 2 [15])
  (.cons (.asg (.nm 3) (.make 3 (.cons (.make 2 (.cons (.cst (.int 100000)) (.cons (.cst (.int 10)) .nil))) (.cons (.cst (.int 99)) .nil))))
  (.cons (.expr (.meth 12 (.var 3) (.cons (.cst (.int 50000)) .nil)))
  (.cons (.ife (.or (.op .ne (.cons (.tolds 2 [16] 1 [83, 99, 114, 111, 108, 108, 69, 114, 114, 111, 114]) (.cons (.lst .nil) .nil))) (.op .ne (.cons (.cst (.int 1000000)) (.cons (.cst (.int 1000000)) .nil))))
 (.cons (.ret (.cst (.bl false)))
  .nil)
 .nil)
  (.cons (.asg (.nm 4) (.lst (.cons (.cst (.int 80)) (.cons (.cst (.int 30)) (.cons (.op .neg (.cons (.cst (.int 30)) .nil)) (.cons (.cst (.int 80)) (.cons (.cst (.int 80)) (.cons (.op .neg (.cons (.cst (.int 30)) .nil)) (.cons (.cst (.int 50)) (.cons (.lst (.cons (.op .neg (.cons (.cst (.int 10)) .nil)) (.cons (.cst (.int 0)) (.cons (.op .neg (.cons (.cst (.int 8)) .nil)) (.cons (.op .neg (.cons (.cst (.int 7)) .nil)) .nil))))) (.cons (.op .neg (.cons (.cst (.int 25)) .nil)) (.cons (.tup (.cons (.cst (.int 0)) (.cons (.cst (.int 4)) .nil))) (.cons (.cst (.int 45)) (.cons (.cst (.int 45)) (.cons (.cst (.int 562)) (.cons (.cst (.str [97, 108, 108])) (.cons (.cst (.str [115, 111, 109, 101])) (.cons (.cst (.str [110, 111, 110, 101])) (.cons (.cst .non) (.cons (.cst (.int 40)) (.cons (.cst .non) (.cons (.cst (.int 50)) (.cons (.cst (.int 0)) (.cons (.cst (.int 0)) (.cons (.tup (.cons (.cst (.int 0)) (.cons (.cst (.int 20)) .nil))) (.cons (.cst (.int 1000)) (.cons (.cst (.int 0)) (.cons (.cst .non) (.cons (.cst (.int 5)) (.cons (.cst (.int 400)) (.cons (.cst (.int 23)) (.cons (.cst (.int 24)) (.cons (.cst .non) (.cons (.op .neg (.cons (.cst (.int 300)) .nil)) (.cons (.cst (.int 22)) (.cons (.cst (.int 10)) (.cons (.cst (.int 70)) (.cons (.op .neg (.cons (.cst (.int 50)) .nil)) (.cons (.cst (.int 10)) (.cons (.tup (.cons (.cst (.int 0)) (.cons (.op .neg (.cons (.cst (.int 3)) .nil)) .nil))) (.cons (.tup (.cons (.op .neg (.cons (.cst (.int 1)) .nil)) (.cons (.cst (.int 0)) .nil))) .nil)))))))))))))))))))))))))))))))))))))))))
  (.cons (.ret (.op .eq (.cons (.var 1) (.cons (.var 4) .nil))))
  .nil)))))))))))))
def d_law_plain : Fn := ⟨0, 10, b_law_plain⟩
/- law_rest: 0 dice 1 view 2 most 3 first 4 other 5 told 6 stops 7 fars 8 heads 9 at 10 ends 11 high 12 k 13 stop 14 low 15 top -/
def b_law_rest : CSs :=
  (.cons (.asg (.nm 4) (.make 2 (.cons (.call 20 (.cons (.var 0) (.cons (.cst (.int 200)) .nil))) (.cons (.op .add (.cons (.cst (.int 1)) (.cons (.call 20 (.cons (.var 0) (.cons (.cst (.int 30)) .nil))) .nil))) .nil))))
  (.cons (.asg (.nm 5) (.call 16 (.cons (.var 1) (.cons (.var 4) .nil))))
  (.cons (.ife (.op .ne (.cons (.attr (.var 4) 2) (.cons (.ite (.op .gt (.cons (.var 2) (.cons (.cst (.int 0)) .nil))) (.op .fdiv (.cons (.op .mul (.cons (.meth 1 (.var 4) .nil) (.cons (.attr (.var 1) 2) .nil))) (.cons (.var 2) .nil))) (.cst (.int 0))) .nil)))
 (.cons (.ret (.cst (.bl false)))
  .nil)
 .nil)
  (.cons (.asg (.nm 6) (.comp (.call 20 (.cons (.var 0) (.cons (.cst (.int 60)) .nil))) (.nm 12) .nil (.range (.cons (.op .add (.cons (.cst (.int 1)) (.cons (.call 20 (.cons (.var 0) (.cons (.cst (.int 5)) .nil))) .nil))) .nil))))
  (.cons (.asg (.nm 7) (.comp (.op .abs (.cons (.op .sub (.cons (.var 13) (.cons (.var 3) .nil))) .nil)) (.nm 13) .nil (.of (.var 6))))
  (.cons (.ife (.op .ne (.cons (.call 17 (.cons (.var 3) (.cons (.var 6) .nil))) (.cons (.op .idx (.cons (.var 6) (.cons (.bm .index (.var 7) (.cons (.op .minR (.cons (.var 7) .nil)) .nil)) .nil))) .nil)))
 (.cons (.ret (.cst (.bl false)))
  .nil)
 .nil)
  (.cons (.par (.cons (.nm 10) (.cons (.nm 11) .nil)) (.cons (.op .srtI (.cons (.comp (.call 20 (.cons (.var 0) (.cons (.cst (.int 60)) .nil))) (.nm 12) .nil (.range (.cons (.cst (.int 6)) .nil))) .nil)) (.cons (.call 20 (.cons (.var 0) (.cons (.cst (.int 8)) .nil))) .nil)))
  (.cons (.asg (.nm 8) (.comp (.tup (.cons (.op .idx (.cons (.var 10) (.cons (.var 12) .nil))) (.cons (.op .idx (.cons (.var 10) (.cons (.op .add (.cons (.var 12) (.cons (.cst (.int 1)) .nil))) .nil))) .nil))) (.nm 12) .nil (.of (.lst (.cons (.cst (.int 0)) (.cons (.cst (.int 2)) (.cons (.cst (.int 4)) .nil)))))))
  (.cons (.asg (.nm 9) (.comp (.var 12) (.tup (.cons (.nm 12) (.cons (.tup (.cons (.nm 14) (.cons (.nm 15) .nil))) .nil))) (.cons (.cmp (.var 14) [.le, .lt] (.cons (.var 3) (.cons (.var 15) .nil))) .nil) (.enum (.of (.var 8)))))
  (.cons (.ife (.op .ne (.cons (.call 18 (.cons (.var 8) (.cons (.var 3) (.cons (.var 11) .nil)))) (.cons (.ite (.op .ne (.cons (.var 9) (.cons (.lst .nil) .nil))) (.tup (.cons (.op .idx (.cons (.var 9) (.cons (.cst (.int 0)) .nil))) (.cons (.op .min (.cons (.cst (.int 0)) (.cons (.op .sub (.cons (.op .sub (.cons (.op .idx (.cons (.op .idx (.cons (.var 8) (.cons (.op .idx (.cons (.var 9) (.cons (.cst (.int 0)) .nil))) .nil))) (.cons (.cst (.int 1)) .nil))) (.cons (.var 3) .nil))) (.cons (.var 11) .nil))) .nil))) .nil))) (.tup (.cons (.op .neg (.cons (.cst (.int 1)) .nil)) (.cons (.cst (.int 0)) .nil)))) .nil)))
 (.cons (.ret (.cst (.bl false)))
  .nil)
 .nil)
  (.cons (.ret (.cst (.bl true)))
  .nil)))))))))))
def d_law_rest : Fn := ⟨4, 16, b_law_rest⟩
/- law_swings: 0 dice 1 view 2 whole 3 seen 4 place 5 turn 6 turns 7 share 8 pace 9 swing 10 rest 11 told 12 here 13 far 14 goal -/
def b_law_swings : CSs :=
  (.cons (.asg (.nm 4) (.attr (.var 1) 2))
  (.cons (.par (.cons (.nm 7) (.cons (.nm 8) .nil)) (.cons (.call 20 (.cons (.var 0) (.cons (.cst (.int 95)) .nil))) (.cons (.op .sub (.cons (.call 20 (.cons (.var 0) (.cons (.cst (.int 3000)) .nil))) (.cons (.cst (.int 1500)) .nil))) .nil)))
  (.cons (.par (.cons (.nm 9) (.cons (.nm 10) .nil)) (.cons (.make 3 (.cons (.var 1) (.cons (.var 7) .nil))) (.cons (.cst (.int 0)) .nil)))
  (.cons (.par (.cons (.nm 11) (.cons (.nm 12) .nil)) (.cons (.meth 12 (.var 9) (.cons (.var 8) .nil)) (.cons (.var 8) .nil)))
  (.cons (.for (.nm 5) (.range (.cons (.cst (.int 8)) .nil))
 (.cons (.asg (.nm 13) (.op .mul (.cons (.op .fdiv (.cons (.op .abs (.cons (.op .add (.cons (.var 10) (.cons (.var 12) .nil))) .nil)) (.cons (.cst (.int 100)) .nil))) (.cons (.ite (.op .ge (.cons (.op .add (.cons (.var 10) (.cons (.var 12) .nil))) (.cons (.cst (.int 0)) .nil))) (.cst (.int 1)) (.op .neg (.cons (.cst (.int 1)) .nil))) .nil))))
  (.cons (.asg (.nm 14) (.call 23 (.cons (.op .add (.cons (.var 4) (.cons (.var 13) .nil))) (.cons (.var 2) (.cons (.var 3) .nil)))))
  (.cons (.asg (.nm 10) (.op .sub (.cons (.op .add (.cons (.var 10) (.cons (.var 12) .nil))) (.cons (.op .mul (.cons (.cst (.int 100)) (.cons (.var 13) .nil))) .nil))))
  (.cons (.asg (.tup (.tup (.cons (.nm 12) (.cons (.nm 10) .nil)))) (.ite (.op .ne (.cons (.op .sub (.cons (.var 14) (.cons (.var 4) .nil))) (.cons (.var 13) .nil))) (.tup (.cons (.cst (.int 0)) (.cons (.cst (.int 0)) .nil))) (.tup (.cons (.var 12) (.cons (.var 10) .nil)))))
  (.cons (.asg (.nm 12) (.op .mul (.cons (.op .fdiv (.cons (.op .mul (.cons (.op .abs (.cons (.var 12) .nil)) (.cons (.var 7) .nil))) (.cons (.cst (.int 100)) .nil))) (.cons (.ite (.op .ge (.cons (.var 12) (.cons (.cst (.int 0)) .nil))) (.cst (.int 1)) (.op .neg (.cons (.cst (.int 1)) .nil))) .nil))))
  (.cons (.ife (.or (.op .ne (.cons (.meth 13 (.var 9) .nil) (.cons (.op .sub (.cons (.var 14) (.cons (.var 4) .nil))) .nil))) (.or (.op .ne (.cons (.attr (.var 9) 5) (.cons (.var 12) .nil))) (.op .ne (.cons (.attr (.var 1) 2) (.cons (.var 14) .nil)))))
 (.cons (.ret (.cst (.bl false)))
  .nil)
 .nil)
  (.cons (.asg (.nm 4) (.var 14))
  .nil))))))))
  (.cons (.asg (.nm 6) (.meth 14 (.var 9) (.cons (.cst (.int 2000)) .nil)))
  (.cons (.ife (.or (.op .ne (.cons (.attr (.var 9) 5) (.cons (.cst (.int 0)) .nil))) (.op .lt (.cons (.var 6) (.cons (.cst (.int 0)) .nil))))
 (.cons (.ret (.cst (.bl false)))
  .nil)
 .nil)
  (.cons (.ret (.cst (.bl true)))
  .nil))))))))
def d_law_swings : Fn := ⟨4, 15, b_law_swings⟩
/- law: 0 script 1 dice 2 view 3 step 4 most 5 first 6 behind 7 held 8 whole 9 seen 10 place 11 sort 12 far 13 y 14 goal 15 told 16 how 17 more 18 track 19 least 20 spot 21 long -/
def b_law : CSs :=
  (.cons (.for (.nm 1) (.of (.call 21 (.cons (.var 0) (.cons (.cst (.int 1)) .nil))))
 (.cons (.par (.cons (.nm 8) (.cons (.nm 9) (.cons (.nm 10) .nil))) (.cons (.call 20 (.cons (.var 1) (.cons (.cst (.int 80)) .nil))) (.cons (.op .add (.cons (.cst (.int 1)) (.cons (.call 20 (.cons (.var 1) (.cons (.cst (.int 30)) .nil))) .nil))) (.cons (.cst (.int 0)) .nil))))
  (.cons (.asg (.nm 2) (.make 2 (.cons (.var 8) (.cons (.var 9) .nil))))
  (.cons (.for (.nm 3) (.range (.cons (.call 20 (.cons (.var 1) (.cons (.cst (.int 14)) .nil))) .nil))
 (.cons (.par (.cons (.nm 11) (.cons (.nm 12) .nil)) (.cons (.call 20 (.cons (.var 1) (.cons (.cst (.int 7)) .nil))) (.cons (.op .sub (.cons (.call 20 (.cons (.var 1) (.cons (.cst (.int 90)) .nil))) (.cons (.cst (.int 30)) .nil))) .nil)))
  (.cons (.ife (.op .eq (.cons (.var 11) (.cons (.cst (.int 0)) .nil)))
 (.cons (.par (.cons (.nm 14) (.cons (.nm 15) .nil)) (.cons (.call 23 (.cons (.var 12) (.cons (.var 8) (.cons (.var 9) .nil)))) (.cons (.meth 2 (.var 2) (.cons (.var 12) .nil)) .nil)))
  .nil)
 (.cons (.ife (.op .eq (.cons (.var 11) (.cons (.cst (.int 1)) .nil)))
 (.cons (.par (.cons (.nm 14) (.cons (.nm 15) .nil)) (.cons (.call 23 (.cons (.op .add (.cons (.var 10) (.cons (.var 12) .nil))) (.cons (.var 8) (.cons (.var 9) .nil)))) (.cons (.meth 3 (.var 2) (.cons (.var 12) .nil)) .nil)))
  .nil)
 (.cons (.ife (.op .eq (.cons (.var 11) (.cons (.cst (.int 2)) .nil)))
 (.cons (.par (.cons (.nm 14) (.cons (.nm 15) .nil)) (.cons (.call 23 (.cons (.op .add (.cons (.var 10) (.cons (.op .mul (.cons (.op .fdiv (.cons (.op .sub (.cons (.var 12) (.cons (.cst (.int 20)) .nil))) (.cons (.cst (.int 30)) .nil))) (.cons (.op .max (.cons (.cst (.int 1)) (.cons (.op .sub (.cons (.var 9) (.cons (.cst (.int 3)) .nil))) .nil))) .nil))) .nil))) (.cons (.var 8) (.cons (.var 9) .nil)))) (.cons (.meth 4 (.var 2) (.cons (.op .fdiv (.cons (.op .sub (.cons (.var 12) (.cons (.cst (.int 20)) .nil))) (.cons (.cst (.int 30)) .nil))) (.cons (.cst (.int 3)) .nil))) .nil)))
  .nil)
 (.cons (.ife (.op .eq (.cons (.var 11) (.cons (.cst (.int 3)) .nil)))
 (.cons (.par (.cons (.nm 5) (.cons (.nm 16) .nil)) (.cons (.op .max (.cons (.cst (.int 0)) (.cons (.var 12) .nil))) (.cons (.op .idx (.cons (.lst (.cons (.cst (.str [110, 101, 97, 114])) (.cons (.cst (.str [102, 105, 114, 115, 116])) (.cons (.cst (.str [109, 105, 100, 100, 108, 101])) (.cons (.cst (.str [108, 97, 115, 116])) .nil))))) (.cons (.call 20 (.cons (.var 1) (.cons (.cst (.int 4)) .nil))) .nil))) .nil)))
  (.cons (.asg (.nm 6) (.op .add (.cons (.var 5) (.cons (.call 20 (.cons (.var 1) (.cons (.cst (.int 20)) .nil))) .nil))))
  (.cons (.par (.cons (.nm 14) (.cons (.nm 15) .nil)) (.cons (.call 24 (.cons (.var 10) (.cons (.var 8) (.cons (.var 9) (.cons (.var 5) (.cons (.var 6) (.cons (.var 16) .nil))))))) (.cons (.meth 5 (.var 2) (.cons (.var 5) (.cons (.var 6) (.cons (.var 16) .nil)))) .nil)))
  .nil)))
 (.cons (.ife (.op .eq (.cons (.var 11) (.cons (.cst (.int 4)) .nil)))
 (.cons (.par (.cons (.nm 8) (.cons (.nm 9) .nil)) (.cons (.call 20 (.cons (.var 1) (.cons (.cst (.int 80)) .nil))) (.cons (.op .add (.cons (.cst (.int 1)) (.cons (.call 20 (.cons (.var 1) (.cons (.cst (.int 30)) .nil))) .nil))) .nil)))
  (.cons (.par (.cons (.nm 14) (.cons (.nm 15) .nil)) (.cons (.call 23 (.cons (.var 10) (.cons (.var 8) (.cons (.var 9) .nil)))) (.cons (.meth 6 (.var 2) (.cons (.var 8) (.cons (.var 9) .nil))) .nil)))
  .nil))
 (.cons (.ife (.op .eq (.cons (.var 11) (.cons (.cst (.int 5)) .nil)))
 (.cons (.asg (.nm 17) (.call 20 (.cons (.var 1) (.cons (.cst (.int 10)) .nil))))
  (.cons (.asg (.nm 8) (.op .add (.cons (.var 8) (.cons (.var 17) .nil))))
  (.cons (.par (.cons (.nm 14) (.cons (.nm 15) .nil)) (.cons (.call 23 (.cons (.op .add (.cons (.call 23 (.cons (.var 10) (.cons (.var 8) (.cons (.var 9) .nil)))) (.cons (.var 17) .nil))) (.cons (.var 8) (.cons (.var 9) .nil)))) (.cons (.meth 7 (.var 2) (.cons (.var 17) .nil)) .nil)))
  .nil)))
 (.cons (.par (.cons (.nm 18) (.cons (.nm 19) .nil)) (.cons (.op .add (.cons (.cst (.int 5)) (.cons (.call 20 (.cons (.var 1) (.cons (.cst (.int 20)) .nil))) .nil))) (.cons (.op .add (.cons (.cst (.int 1)) (.cons (.call 20 (.cons (.var 1) (.cons (.cst (.int 4)) .nil))) .nil))) .nil)))
  (.cons (.asg (.tup (.tup (.cons (.nm 20) (.cons (.nm 21) .nil)))) (.meth 8 (.var 2) (.cons (.var 18) (.cons (.var 19) .nil))))
  (.cons (.asg (.nm 4) (.op .max (.cons (.cst (.int 0)) (.cons (.op .sub (.cons (.var 8) (.cons (.var 9) .nil))) .nil))))
  (.cons (.ife (.or (.op .ne (.cons (.var 21) (.cons (.ite (.op .eq (.cons (.var 4) (.cons (.cst (.int 0)) .nil))) (.var 18) (.op .max (.cons (.var 19) (.cons (.op .fdiv (.cons (.op .mul (.cons (.var 18) (.cons (.var 9) .nil))) (.cons (.var 8) .nil))) .nil)))) .nil))) (.or (.op .ne (.cons (.var 20) (.cons (.ite (.op .eq (.cons (.var 4) (.cons (.cst (.int 0)) .nil))) (.cst (.int 0)) (.op .fdiv (.cons (.op .mul (.cons (.op .sub (.cons (.var 18) (.cons (.var 21) .nil))) (.cons (.var 10) .nil))) (.cons (.var 4) .nil)))) .nil))) (.not (.cmp (.cst (.int 0)) [.le, .le] (.cons (.var 20) (.cons (.op .sub (.cons (.var 18) (.cons (.var 21) .nil))) .nil))))))
 (.cons (.ret (.cst (.bl false)))
  .nil)
 .nil)
  (.cons (.par (.cons (.nm 14) (.cons (.nm 15) .nil)) (.cons (.call 23 (.cons (.var 10) (.cons (.var 8) (.cons (.var 9) .nil)))) (.cons (.meth 9 (.var 2) (.cons (.var 20) (.cons (.var 18) (.cons (.var 19) .nil)))) .nil)))
  (.cons (.ife (.and (.op .ge (.cons (.var 4) (.cons (.var 18) .nil))) (.and (.op .gt (.cons (.var 18) (.cons (.var 21) .nil))) (.op .ne (.cons (.op .idx (.cons (.meth 8 (.var 2) (.cons (.var 18) (.cons (.var 19) .nil))) (.cons (.cst (.int 0)) .nil))) (.cons (.var 20) .nil)))))
 (.cons (.ret (.cst (.bl false)))
  .nil)
 .nil)
  (.cons (.asg (.nm 14) (.attr (.var 2) 2))
  .nil))))))))
  .nil))
  .nil))
  .nil))
  .nil))
  .nil))
  (.cons (.ife (.or (.op .ne (.cons (.attr (.var 2) 2) (.cons (.var 14) .nil))) (.or (.and (.op .nin (.cons (.var 11) (.cons (.lst (.cons (.cst (.int 4)) (.cons (.cst (.int 5)) .nil))) .nil))) (.op .ne (.cons (.var 15) (.cons (.op .sub (.cons (.var 14) (.cons (.var 10) .nil))) .nil)))) (.or (.not (.cmp (.cst (.int 0)) [.le, .le] (.cons (.var 14) (.cons (.op .max (.cons (.cst (.int 0)) (.cons (.op .sub (.cons (.var 8) (.cons (.var 9) .nil))) .nil))) .nil)))) (.op .ne (.cons (.tup (.cons (.attr (.var 2) 0) (.cons (.attr (.var 2) 1) .nil))) (.cons (.tup (.cons (.var 8) (.cons (.var 9) .nil))) .nil))))))
 (.cons (.ret (.cst (.bl false)))
  .nil)
 .nil)
  (.cons (.asg (.nm 10) (.var 14))
  .nil)))))
  (.cons (.asg (.nm 4) (.op .max (.cons (.cst (.int 0)) (.cons (.op .sub (.cons (.var 8) (.cons (.var 9) .nil))) .nil))))
  (.cons (.ife (.or (.op .ne (.cons (.meth 1 (.var 2) .nil) (.cons (.var 4) .nil))) (.op .ne (.cons (.meth 10 (.var 2) .nil) (.cons (.ite (.op .gt (.cons (.var 4) (.cons (.cst (.int 0)) .nil))) (.op .fdiv (.cons (.op .mul (.cons (.cst (.int 1000)) (.cons (.var 10) .nil))) (.cons (.var 4) .nil))) (.cst (.int 1000))) .nil))))
 (.cons (.ret (.cst (.bl false)))
  .nil)
 .nil)
  (.cons (.asg (.nm 5) (.call 20 (.cons (.var 1) (.cons (.cst (.int 80)) .nil))))
  (.cons (.asg (.nm 6) (.op .add (.cons (.op .add (.cons (.var 5) (.cons (.cst (.int 1)) .nil))) (.cons (.call 20 (.cons (.var 1) (.cons (.cst (.int 20)) .nil))) .nil))))
  (.cons (.asg (.nm 7) (.comp (.var 13) (.nm 13) (.cons (.cmp (.var 10) [.le, .lt] (.cons (.var 13) (.cons (.op .add (.cons (.var 10) (.cons (.var 9) .nil))) .nil))) .nil) (.range (.cons (.var 5) (.cons (.var 6) .nil)))))
  (.cons (.ife (.op .ne (.cons (.meth 11 (.var 2) (.cons (.var 5) (.cons (.var 6) .nil))) (.cons (.ite (.op .eq (.cons (.op .len (.cons (.var 7) .nil)) (.cons (.op .sub (.cons (.var 6) (.cons (.var 5) .nil))) .nil))) (.cst (.str [97, 108, 108])) (.ite (.op .ne (.cons (.var 7) (.cons (.lst .nil) .nil))) (.cst (.str [115, 111, 109, 101])) (.cst (.str [110, 111, 110, 101])))) .nil)))
 (.cons (.ret (.cst (.bl false)))
  .nil)
 .nil)
  (.cons (.ife (.not (.call 27 (.cons (.var 1) (.cons (.var 2) (.cons (.var 8) (.cons (.var 9) .nil))))))
 (.cons (.ret (.cst (.bl false)))
  .nil)
 .nil)
  (.cons (.ife (.not (.call 26 (.cons (.var 1) (.cons (.var 2) (.cons (.var 4) (.cons (.var 5) .nil))))))
 (.cons (.ret (.cst (.bl false)))
  .nil)
 .nil)
  .nil))))))))))))
  (.cons (.ret (.call0 25))
  .nil))
def d_law : Fn := ⟨1, 22, b_law⟩
def fnT : List Fn := [d_View_init, d_View_most_place, d_View_go, d_View_by, d_View_page, d_View_show, d_View_resize, d_View_grow_ahead, d_View_thumb, d_View_thumb_to, d_View_share_of, d_View_is_seen, d_Swing_init, d_Swing_push, d_Swing_tick, d_Swing_run, d_together, d_snap_place, d_sticky_tops, d_law_dice, d_law_roll, d_law_rounds, d_law_told, d_law_clip, d_law_show, d_law_plain, d_law_rest, d_law_swings, d_law]
def lamT : List CE := [lam0, lam1, lam2, lam3, lam4, lam5, lam6, lam7, lam8, lam9, lam10, lam11, lam12, lam13, lam14, lam15, lam16]
def mlT : List (Nat × Nat × Nat) := [(2, 0, 0), (2, 1, 1), (2, 2, 2), (2, 3, 3), (2, 4, 4), (2, 5, 5), (2, 6, 6), (2, 7, 7), (2, 8, 8), (2, 9, 9), (2, 10, 10), (2, 11, 11), (3, 0, 12), (3, 12, 13), (3, 13, 14), (3, 14, 15)]
def methF (c m : Nat) : Nat := ((mlT.find? fun r => r.1 == c && r.2.1 == m).map (·.2.2)).getD 9999
def subT : List (Nat × Nat) := [(0, 0), (1, 1), (1, 0)]
def subF (d c : Nat) : Bool := subT.contains (d, c)
def prg : Prg := ⟨fun i => (fnT[i]?).getD ⟨0, 0, .nil⟩, methF, fun i => (lamT[i]?).getD (.cst .non), subF, 29⟩
end K11
end
section
set_option maxRecDepth 100000
set_option maxHeartbeats 4000000
/-! plain mathematics of k11: views -/
namespace K11
open Ev Wp
/-! ### values -/
@[simp] theorem o_add {i j : Int} : opv .add [.int i, .int j] = some (.int (i + j)) := rfl
@[simp] theorem o_sub {i j : Int} : opv .sub [.int i, .int j] = some (.int (i - j)) := rfl
@[simp] theorem o_neg {i : Int} : opv .neg [.int i] = some (.int (-i)) := rfl
@[simp] theorem o_max {i j : Int} : opv .max [.int i, .int j] = some (.int (max i j)) := by
  show some (LV.int (if i < j then j else i)) = _
  congr 2
  split <;> omega
@[simp] theorem o_min {i j : Int} : opv .min [.int i, .int j] = some (.int (min i j)) := by
  show some (LV.int (if j < i then j else i)) = _
  congr 2
  split <;> omega
@[simp] theorem o_abs {i : Int} : opv .abs [.int i] = some (.int (i.natAbs : Int)) := by
  show some (LV.int (if i < 0 then -i else i)) = _
  congr 2
  split <;> omega
@[simp] theorem o_lt {i j : Int} : opv .lt [.int i, .int j] = some (.bl (decide (i < j))) := rfl
@[simp] theorem o_le {i j : Int} : opv .le [.int i, .int j] = some (.bl (decide (i ≤ j))) := rfl
@[simp] theorem o_gt {i j : Int} : opv .gt [.int i, .int j] = some (.bl (decide (j < i))) := rfl
@[simp] theorem o_ge {i j : Int} : opv .ge [.int i, .int j] = some (.bl (decide (j ≤ i))) := rfl
theorem beqI {i j : Int} : (i == j) = decide (i = j) := by
  by_cases h : i = j <;> simp [h]
@[simp] theorem o_eq {i j : Int} : opv .eq [.int i, .int j] = some (.bl (decide (i = j))) := by
  show eqV (.int i) (.int j) = _
  simp [eqV, LV.pd, LV.eqv, beqI]
@[simp] theorem o_ne {i j : Int} : opv .ne [.int i, .int j] = some (.bl (!decide (i = j))) := by
  show neV (.int i) (.int j) = _
  simp [neV, LV.pd, LV.eqv, beqI]
theorem beqS {s t : List Nat} : (s == t) = decide (s = t) := by
  by_cases h : s = t <;> simp [h]
@[simp] theorem o_eqS {s t : List Nat} : opv .eq [.str s, .str t] = some (.bl (decide (s = t))) := by
  show eqV (.str s) (.str t) = _
  simp [eqV, LV.pd, LV.eqv, beqS]
@[simp] theorem o_neS {s t : List Nat} : opv .ne [.str s, .str t] = some (.bl (!decide (s = t))) := by
  show neV (.str s) (.str t) = _
  simp [neV, LV.pd, LV.eqv, beqS]
/-- a product, one of them less than 2^64 -/
theorem o_mul {i j : Int} (h : i.natAbs < 2 ^ 64 ∨ j.natAbs < 2 ^ 64) : opv .mul [.int i, .int j] = some (.int (i * j)) := if_pos h
theorem o_fdiv {i j : Int} (h : 0 < j) (h2 : j < 1073741824) : opv .fdiv [.int i, .int j] = some (.int (i / j)) := by
  show (if j ≠ 0 ∧ j.natAbs < 1073741824 then some (LV.int (i.fdiv j)) else none) = _
  rw [if_pos ⟨by omega, by omega⟩, Int.fdiv_eq_ediv_of_nonneg _ (by omega)]
theorem o_mod {i j : Int} (h : 0 < j) : opv .mod [.int i, .int j] = some (.int (i % j)) := by
  show (if j ≠ 0 then some (LV.int (i.fmod j)) else none) = _
  rw [if_pos (by omega), Int.fmod_eq_emod_of_nonneg _ (by omega)]
@[simp] theorem ov_fdiv {i j : Int} {Q : LV → Prop} : OV (opv .fdiv [.int i, .int j]) Q ↔ (j ≠ 0 ∧ j.natAbs < 1073741824) ∧ Q (.int (i.fdiv j)) := by
  show OV (if j ≠ 0 ∧ j.natAbs < 1073741824 then some (LV.int (i.fdiv j)) else none) Q ↔ _
  by_cases h : j ≠ 0 ∧ j.natAbs < 1073741824
  · rw [if_pos h]; simp [h]
  · rw [if_neg h]; simp only [h, false_and]; rfl
@[simp] theorem ov_mul {i j : Int} {Q : LV → Prop} : OV (opv .mul [.int i, .int j]) Q ↔ (i.natAbs < 2 ^ 64 ∨ j.natAbs < 2 ^ 64) ∧ Q (.int (i * j)) := by
  show OV (if i.natAbs < 2 ^ 64 ∨ j.natAbs < 2 ^ 64 then some (LV.int (i * j)) else none) Q ↔ _
  by_cases h : i.natAbs < 2 ^ 64 ∨ j.natAbs < 2 ^ 64
  · rw [if_pos h]; simp only [h, true_and]; rfl
  · rw [if_neg h]; simp only [h, false_and]; rfl
@[simp] theorem ov_mod {i j : Int} {Q : LV → Prop} : OV (opv .mod [.int i, .int j]) Q ↔ j ≠ 0 ∧ Q (.int (i.fmod j)) := by
  show OV (if j ≠ 0 then some (LV.int (i.fmod j)) else none) Q ↔ _
  by_cases h : j ≠ 0
  · rw [if_pos h]; simp only [h, true_and, ne_eq, not_false_eq_true]; rfl
  · rw [if_neg h]; simp only [h, false_and]; rfl
@[simp] theorem o_int {i : Int} : opv .int [.int i] = some (.int i) := rfl
@[simp] theorem o_intB {b : Bool} : opv .int [.bl b] = some (.int (b2i b)) := rfl
/-! ### objects -/
abbrev VO (w s p : Int) : LO := .ins 2 [(0, .int w), (1, .int s), (2, .int p)]
abbrev DO (a b c : Int) : LO := .lst [.int a, .int b, .int c]
abbrev SO (v : Nat) (sh pa re : Int) : LO := .ins 3 [(3, .ref v), (4, .int sh), (5, .int pa), (6, .int re)]
theorem getL {α : Type} {xs : List α} {i : Nat} {x y : α} (e : xs[i]? = some x) : (xs.set i y)[i]? = some y := by
  have h := (List.getElem?_eq_some_iff.mp e).1
  simp [List.getElem?_set, h]
theorem setI {α : Type} {xs : List α} {i : Nat} {x : α} (e : xs[i]? = some x) : xs.set i x = xs := by
  apply List.ext_getElem?
  intro j
  by_cases h : i = j
  · subst h
    rw [getL e, e]
  · rw [List.getElem?_set_ne h]
/-! names: what simp is to open -/
@[simp] theorem pm_2_0 : prg.meth 2 0 = 0 := rfl
@[simp] theorem pm_2_1 : prg.meth 2 1 = 1 := rfl
@[simp] theorem pm_2_2 : prg.meth 2 2 = 2 := rfl
@[simp] theorem pm_2_3 : prg.meth 2 3 = 3 := rfl
@[simp] theorem pm_2_4 : prg.meth 2 4 = 4 := rfl
@[simp] theorem pm_2_5 : prg.meth 2 5 = 5 := rfl
@[simp] theorem pm_2_6 : prg.meth 2 6 = 6 := rfl
@[simp] theorem pm_2_7 : prg.meth 2 7 = 7 := rfl
@[simp] theorem pm_2_8 : prg.meth 2 8 = 8 := rfl
@[simp] theorem pm_2_9 : prg.meth 2 9 = 9 := rfl
@[simp] theorem pm_2_10 : prg.meth 2 10 = 10 := rfl
@[simp] theorem pm_2_11 : prg.meth 2 11 = 11 := rfl
@[simp] theorem pm_3_0 : prg.meth 3 0 = 12 := rfl
@[simp] theorem pm_3_12 : prg.meth 3 12 = 13 := rfl
@[simp] theorem pm_3_13 : prg.meth 3 13 = 14 := rfl
@[simp] theorem pm_3_14 : prg.meth 3 14 = 15 := rfl
@[simp] theorem p_nf : prg.nf = 29 := rfl
def clip (p w s : Int) : Int := max 0 (min (max 0 (w - s)) p)
section
variable {n : Nat} {h : Hp} {v d : Nat} {w s p a b c : Int} {Q : LV → Hp → Prop}
theorem c_most (hv : h[v]? = some (VO w s p)) (k : Q (.int (max 0 (w - s))) h) : W ((orc prg (n + 1)).call 1 [.ref v] h) Q := by
  refine w_run (F := d_View_most_place) rfl rfl ?_
  simp [sel, look, start, putF, List.lookup, isEnd, bmOk, toLO, ofLO, setv, natOf, itemsOf, augv, getL, d_View_most_place, b_View_most_place, hv]
  exact k
theorem c_go (hv : h[v]? = some (VO w s p)) {q : Int} (k : Q (.int (clip q w s - p)) (h.set v (VO w s (clip q w s)))) : W ((orc prg (n + 2)).call 2 [.ref v, .int q] h) Q := by
  refine w_run (F := d_View_go) rfl rfl ?_
  simp [sel, look, start, putF, List.lookup, isEnd, bmOk, toLO, ofLO, setv, natOf, itemsOf, augv, getL, d_View_go, b_View_go, hv]
  refine c_most hv ?_
  simp [sel, look, start, putF, List.lookup, isEnd, bmOk, toLO, ofLO, setv, natOf, itemsOf, augv, getL, hv]
  exact k
theorem c_by (hv : h[v]? = some (VO w s p)) {q : Int} (k : Q (.int (clip (p + q) w s - p)) (h.set v (VO w s (clip (p + q) w s)))) : W ((orc prg (n + 3)).call 3 [.ref v, .int q] h) Q := by
  refine w_run (F := d_View_by) rfl rfl ?_
  simp [sel, look, start, putF, List.lookup, isEnd, bmOk, toLO, ofLO, setv, natOf, itemsOf, augv, getL, d_View_by, b_View_by, hv]
  exact c_go hv k
theorem c_page (hv : h[v]? = some (VO w s p)) {q e : Int} (he : 0 ≤ e) (hq : q.natAbs < 2 ^ 64) (k : Q (.int (clip (p + q * max 1 (s - e)) w s - p)) (h.set v (VO w s (clip (p + q * max 1 (s - e)) w s)))) : W ((orc prg (n + 4)).call 4 [.ref v, .int q, .int e] h) Q := by
  refine w_run (F := d_View_page) rfl rfl ?_
  simp [sel, look, start, putF, List.lookup, isEnd, bmOk, toLO, ofLO, setv, natOf, itemsOf, augv, getL, d_View_page, b_View_page, hv]
  refine ⟨by omega, fun _ => ⟨.inl hq, ?_⟩⟩
  exact c_by hv k
theorem c_init {h : Hp} {v : Nat} {w s : Int} {Q : LV → Hp → Prop} (hv : h[v]? = some (.ins 2 [])) (hw : 0 ≤ w ∧ w ≤ 1000000) (hs : 0 ≤ s ∧ s ≤ 1000000) (k : Q .non (h.set v (VO w s 0))) : W ((orc prg (n + 1)).call 0 [.ref v, .int w, .int s] h) Q := by
  refine w_run (F := d_View_init) rfl rfl ?_
  simp [sel, look, start, putF, List.lookup, isEnd, bmOk, toLO, ofLO, setv, natOf, itemsOf, augv, getL, d_View_init, b_View_init, hv]
  refine ⟨fun _ => ⟨fun _ => ⟨fun _ => ⟨fun _ => k, ?_⟩, ?_⟩, ?_⟩, ?_⟩ <;> omega
end
end K11
end
section
set_option maxRecDepth 100000
set_option maxHeartbeats 4000000
namespace K11
open Ev Wp
section
variable {n : Nat} {h : Hp} {v d : Nat} {w s p a b c : Int} {Q : LV → Hp → Prop}
@[simp] theorem o_idxL {x : LV} {xs : List LV} : opv .idx [.lst (x :: xs), .int 0] = some x := by
  show (intI (.int 0)).bind (fun i => (natOf i (x :: xs).length).bind fun n => (x :: xs)[n]?) = _
  simp [intI, natOf]
@[simp] theorem o_idxL1 {x y : LV} {xs : List LV} : opv .idx [.lst (x :: y :: xs), .int 1] = some y := by
  show (intI (.int 1)).bind (fun i => (natOf i (x :: y :: xs).length).bind fun n => (x :: y :: xs)[n]?) = _
  have h1 : (1:Int) < xs.length + 1 + 1 := by omega
  have h2 : (2:Int) < xs.length + 1 + 1 + 1 := by omega
  simp [intI, natOf, h1, h2]
@[simp] theorem o_idxL2 {x y z : LV} {xs : List LV} : opv .idx [.lst (x :: y :: z :: xs), .int 2] = some z := by
  show (intI (.int 2)).bind (fun i => (natOf i (x :: y :: z :: xs).length).bind fun n => (x :: y :: z :: xs)[n]?) = _
  have h1 : (1:Int) < xs.length + 1 + 1 := by omega
  have h2 : (2:Int) < xs.length + 1 + 1 + 1 := by omega
  simp [intI, natOf, h1, h2]
@[simp] theorem o_idxT {x : LV} {xs : List LV} : opv .idx [.tup (x :: xs), .int 0] = some x := by
  show (intI (.int 0)).bind (fun i => (natOf i (x :: xs).length).bind fun n => (x :: xs)[n]?) = _
  simp [intI, natOf]
@[simp] theorem o_idxT1 {x y : LV} {xs : List LV} : opv .idx [.tup (x :: y :: xs), .int 1] = some y := by
  show (intI (.int 1)).bind (fun i => (natOf i (x :: y :: xs).length).bind fun n => (x :: y :: xs)[n]?) = _
  have h1 : (1:Int) < xs.length + 1 + 1 := by omega
  have h2 : (2:Int) < xs.length + 1 + 1 + 1 := by omega
  simp [intI, natOf, h1, h2]
@[simp] theorem o_idxT2 {x y z : LV} {xs : List LV} : opv .idx [.tup (x :: y :: z :: xs), .int 2] = some z := by
  show (intI (.int 2)).bind (fun i => (natOf i (x :: y :: z :: xs).length).bind fun n => (x :: y :: z :: xs)[n]?) = _
  have h1 : (1:Int) < xs.length + 1 + 1 := by omega
  have h2 : (2:Int) < xs.length + 1 + 1 + 1 := by omega
  simp [intI, natOf, h1, h2]
theorem view_ref {n : Nat} {h : Hp} {xs : List LV} (e : h[n]? = some (.lst xs)) : view (.ref n) h = .lst xs := by simp [view, e]
theorem fmodI {i j : Int} (h : 0 < j) : i.fmod j = i % j := Int.fmod_eq_emod_of_nonneg _ (by omega)
theorem fdivI {i j : Int} (h : 0 < j) : i.fdiv j = i / j := Int.fdiv_eq_ediv_of_nonneg _ (by omega)
theorem c_roll (hd : h[d]? = some (DO a b c)) {m : Int} (h0 : 0 < m) (h1 : m ≤ 100000000) (k : ∀ r a' b' c' : Int, 0 ≤ r → r < m → Q (.int r) (h.set d (DO a' b' c'))) : W ((orc prg (n + 1)).call 20 [.ref d, .int m] h) Q := by
  refine w_run (F := d_law_roll) rfl rfl ?_
  have h5 : m ≠ 0 := by omega
  have h6 : m.natAbs < 1073741824 := by omega
  by_cases hc : c = 2
  · simp [sel, look, start, putF, List.lookup, isEnd, bmOk, toLO, ofLO, setv, natOf, itemsOf, augv, getL, d_law_roll, b_law_roll, hd, hc]
    rw [fmodI h0, fdivI h0]
    exact ⟨h5, ⟨h5, h6⟩, k _ _ _ _ (Int.emod_nonneg _ h5) (Int.emod_lt_of_pos _ h0)⟩
  · have hc2 : ¬ (m > 100000000) := by omega
    by_cases hc1 : c = 1 ∧ 0 < a
    · simp [sel, look, start, putF, List.lookup, isEnd, bmOk, toLO, ofLO, setv, natOf, itemsOf, augv, getL, d_law_roll, b_law_roll, hd, hc1]
      rw [fmodI h0, fdivI h0]
      exact ⟨h5, ⟨h5, h6⟩, k _ _ _ _ (Int.emod_nonneg _ h5) (Int.emod_lt_of_pos _ h0)⟩
    · rw [Classical.not_and_iff_not_or_not] at hc1
      rcases hc1 with hc1 | hc1
      · simp [sel, look, start, putF, List.lookup, isEnd, bmOk, toLO, ofLO, setv, natOf, itemsOf, augv, getL, d_law_roll, b_law_roll, hd, hc, hc1, hc2]
        rw [fmodI h0]
        exact ⟨h5, k _ _ _ _ (Int.emod_nonneg _ h5) (Int.emod_lt_of_pos _ h0)⟩
      · have hc3 : a ≤ 0 := by omega
        by_cases hc1 : c = 1
        · simp [sel, look, start, putF, List.lookup, isEnd, bmOk, toLO, ofLO, setv, natOf, itemsOf, augv, getL, d_law_roll, b_law_roll, hd, hc, hc1, hc2, hc3]
          refine ⟨fun z => absurd z (by omega), h5, ?_⟩
          rw [fmodI h0]
          exact k _ _ _ _ (Int.emod_nonneg _ h5) (Int.emod_lt_of_pos _ h0)
        · simp [sel, look, start, putF, List.lookup, isEnd, bmOk, toLO, ofLO, setv, natOf, itemsOf, augv, getL, d_law_roll, b_law_roll, hd, hc, hc1, hc2, hc3]
          rw [fmodI h0]
          exact ⟨h5, k _ _ _ _ (Int.emod_nonneg _ h5) (Int.emod_lt_of_pos _ h0)⟩
end
end K11
end
section
set_option maxRecDepth 100000
set_option maxHeartbeats 4000000
namespace K11
open Ev Wp
section
variable {n : Nat} {h : Hp} {v d : Nat} {w s p a b c : Int} {Q : LV → Hp → Prop}
theorem c_clip {q : Int} (k : Q (.int (clip q w s)) h) : W ((orc prg (n + 1)).call 23 [.int q, .int w, .int s] h) Q := by
  refine w_run (F := d_law_clip) rfl rfl ?_
  simp [sel, look, start, putF, List.lookup, isEnd, bmOk, toLO, ofLO, setv, natOf, itemsOf, augv, getL, d_law_clip, b_law_clip]
  exact k
/-- where a stretch is shown: as little moved as can be -/
def near (p w s f b : Int) : Int := if f < p ∨ s < b - f then clip f w s else if p + s < b then clip (b - s) w s else p
abbrev sNear : List Nat := [110, 101, 97, 114]
abbrev sFirst : List Nat := [102, 105, 114, 115, 116]
abbrev sMiddle : List Nat := [109, 105, 100, 100, 108, 101]
abbrev sLast : List Nat := [108, 97, 115, 116]
@[simp] theorem nin4 {x : List Nat} : opv .nin [.str x, .tup [.str sNear, .str sFirst, .str sMiddle, .str sLast]] = some (.bl (!(x == sNear || (x == sFirst || (x == sMiddle || x == sLast))))) := by
  show (innB (.str x) (.tup [.str sNear, .str sFirst, .str sMiddle, .str sLast])).map (fun b => LV.bl (!b)) = _
  simp [innB, LV.pd, inL, LV.eqv]
theorem c_showN (hv : h[v]? = some (VO w s p)) {f e : Int} (hf : f ≤ e) (k : Q (.int (near p w s f e - p)) (h.set v (VO w s (near p w s f e)))) : W ((orc prg (n + 3)).call 5 [.ref v, .int f, .int e, .str sNear] h) Q := by
  refine w_run (F := d_View_show) rfl rfl ?_
  have h1 : ¬ e < f := by omega
  unfold near at k
  simp [sel, look, start, putF, List.lookup, isEnd, bmOk, toLO, ofLO, setv, natOf, itemsOf, augv, getL, d_View_show, b_View_show, hv, h1]
  by_cases c1 : f < p
  · rw [if_pos (.inl c1)] at k
    exact ⟨fun _ => c_go hv k, fun z => by omega⟩
  · by_cases c2 : s < e - f
    · rw [if_pos (.inr c2)] at k
      refine ⟨fun z => absurd z c1, fun _ => ⟨fun _ => c_go hv k, fun z => by omega⟩⟩
    · rw [if_neg (by omega)] at k
      refine ⟨fun z => absurd z c1, fun _ => ⟨fun z => absurd z c2, fun _ => ?_⟩⟩
      by_cases c3 : p + s < e
      · rw [if_pos c3] at k
        exact ⟨fun _ => c_go hv k, fun z => by omega⟩
      · rw [if_neg c3, Int.sub_self, setI hv] at k
        exact ⟨fun z => by omega, fun _ => k⟩
theorem c_showF (hv : h[v]? = some (VO w s p)) {f e : Int} (hf : f ≤ e) (k : Q (.int (clip f w s - p)) (h.set v (VO w s (clip f w s)))) : W ((orc prg (n + 3)).call 5 [.ref v, .int f, .int e, .str sFirst] h) Q := by
  refine w_run (F := d_View_show) rfl rfl ?_
  have h1 : ¬ e < f := by omega
  simp [sel, look, start, putF, List.lookup, isEnd, bmOk, toLO, ofLO, setv, natOf, itemsOf, augv, getL, d_View_show, b_View_show, hv, h1]
  exact c_go hv k
theorem c_showL (hv : h[v]? = some (VO w s p)) {f e : Int} (hf : f ≤ e) (k : Q (.int (clip (e - s) w s - p)) (h.set v (VO w s (clip (e - s) w s)))) : W ((orc prg (n + 3)).call 5 [.ref v, .int f, .int e, .str sLast] h) Q := by
  refine w_run (F := d_View_show) rfl rfl ?_
  have h1 : ¬ e < f := by omega
  simp [sel, look, start, putF, List.lookup, isEnd, bmOk, toLO, ofLO, setv, natOf, itemsOf, augv, getL, d_View_show, b_View_show, hv, h1]
  exact c_go hv k
theorem c_showM (hv : h[v]? = some (VO w s p)) {f e : Int} (hf : f ≤ e) (k : Q (.int (clip ((f + e - s) / 2) w s - p)) (h.set v (VO w s (clip ((f + e - s) / 2) w s)))) : W ((orc prg (n + 3)).call 5 [.ref v, .int f, .int e, .str sMiddle] h) Q := by
  refine w_run (F := d_View_show) rfl rfl ?_
  have h1 : ¬ e < f := by omega
  simp [sel, look, start, putF, List.lookup, isEnd, bmOk, toLO, ofLO, setv, natOf, itemsOf, augv, getL, d_View_show, b_View_show, hv, h1]
  rw [fdivI (by decide)]
  exact c_go hv k
theorem lt_of_get {α : Type} {xs : List α} {i : Nat} {x : α} (e : xs[i]? = some x) : i < xs.length := (List.getElem?_eq_some_iff.mp e).1
theorem get_app {α : Type} {xs ys : List α} {i : Nat} {x : α} (e : xs[i]? = some x) : (xs ++ ys)[i]? = some x := by
  rw [List.getElem?_append_left (lt_of_get e)]; exact e
theorem get_new {α : Type} {xs : List α} {x : α} : (xs ++ [x])[xs.length]? = some x := by simp
theorem set_new {α : Type} {xs : List α} {x y : α} : (xs ++ [x]).set xs.length y = xs ++ [y] := by simp
theorem ne_new {α : Type} {xs : List α} {i : Nat} {x : α} (e : xs[i]? = some x) : xs.length ≠ i := fun z => by
  have := lt_of_get e
  omega
theorem c_resize (hv : h[v]? = some (VO w s p)) {w' s' : Int} (hw : 0 ≤ w' ∧ w' ≤ 1000000) (hs : 0 ≤ s' ∧ s' ≤ 1000000) (k : Q .non ((h ++ [VO w' s' 0]).set v (VO w' s' (clip p w' s')))) : W ((orc prg (n + 4)).call 6 [.ref v, .int w', .int s'] h) Q := by
  refine w_run (F := d_View_resize) rfl rfl ?_
  have g := get_app (ys := [LO.ins 2 []]) hv
  have g1 := get_app (ys := [VO w' s' 0]) hv
  have g2 := ne_new hv
  simp [sel, look, start, putF, List.lookup, isEnd, bmOk, toLO, ofLO, setv, natOf, itemsOf, augv, getL, d_View_resize, b_View_resize, hv]
  refine c_init get_new hw hs ?_
  rw [set_new]
  have g3 : (h ++ [VO w' s' 0])[h.length]? = some (VO w' s' 0) := get_new
  clear g
  generalize h ++ [VO w' s' 0] = h1 at *
  generalize h.length = m at *
  have g4 : ∀ x, (h1.set v x)[m]? = some (VO w' s' 0) := fun x => by rw [List.getElem?_set_ne (Ne.symm g2)]; exact g3
  simp [sel, look, start, putF, List.lookup, isEnd, bmOk, toLO, ofLO, setv, natOf, itemsOf, augv, getL, g1, g3, g4]
  refine c_go (getL g1) ?_
  simpa using k
theorem c_grow (hv : h[v]? = some (VO w s p)) {m : Int} (hm : 0 ≤ m) (hw : 0 ≤ w ∧ w + m ≤ 1000000) (hs : 0 ≤ s ∧ s ≤ 1000000) (k : Q .non ((h ++ [VO (w + m) s 0]).set v (VO (w + m) s (clip (clip p (w + m) s + m) (w + m) s)))) : W ((orc prg (n + 5)).call 7 [.ref v, .int m] h) Q := by
  refine w_run (F := d_View_grow_ahead) rfl rfl ?_
  have h1 : ¬ m < 0 := by omega
  simp [sel, look, start, putF, List.lookup, isEnd, bmOk, toLO, ofLO, setv, natOf, itemsOf, augv, getL, d_View_grow_ahead, b_View_grow_ahead, hv, h1]
  refine c_resize hv ⟨by omega, hw.2⟩ hs ?_
  have g1 := get_app (ys := [VO (w + m) s 0]) hv
  simp [sel, look, start, putF, List.lookup, isEnd, bmOk, toLO, ofLO, setv, natOf, itemsOf, augv, getL, g1]
  refine c_go (getL g1) ?_
  simpa using k
end
end K11
end
section
set_option maxRecDepth 100000
set_option maxHeartbeats 4000000
namespace K11
open Ev Wp
section
variable {n : Nat} {h : Hp} {v d : Nat} {w s p a b c : Int} {Q : LV → Hp → Prop}
/-- how far a view goes -/
def most (w s : Int) : Int := max 0 (w - s)
theorem most_nn (w s : Int) : 0 ≤ most w s := by unfold most; omega
theorem c_mostM (hv : h[v]? = some (VO w s p)) (k : Q (.int (most w s)) h) : W ((orc prg (n + 1)).call 1 [.ref v] h) Q := c_most hv k
/-- the thumb: how long, where -/
def thL (w s t l : Int) : Int := if most w s = 0 then t else max l (t * s / w)
def thP (w s p t l : Int) : Int := if most w s = 0 then 0 else (t - thL w s t l) * p / most w s
theorem small {i B : Int} (h0 : 0 ≤ i) (h1 : i ≤ B) (hB : B < 2 ^ 64) : i.natAbs < 2 ^ 64 := by omega
theorem c_thumb (hv : h[v]? = some (VO w s p)) {t l : Int} (hw : 0 ≤ w ∧ w ≤ 1000000) (hs : 1 ≤ s ∧ s ≤ 1000000) (hp : 0 ≤ p ∧ p ≤ 1000000) (hl : 0 ≤ l ∧ l ≤ t) (ht : t < 1000000) (k : Q (.tup [.int (thP w s p t l), .int (thL w s t l)]) h) : W ((orc prg (n + 2)).call 8 [.ref v, .int t, .int l] h) Q := by
  refine w_run (F := d_View_thumb) rfl rfl ?_
  have h1 : 0 ≤ l := hl.1
  have h2 : l ≤ t := hl.2
  simp [sel, look, start, putF, List.lookup, isEnd, bmOk, toLO, ofLO, setv, natOf, itemsOf, augv, getL, d_View_thumb, b_View_thumb, hv, h1, h2]
  refine c_mostM hv ?_
  unfold thP thL at k
  have hM : most w s = 0 ∨ (0 < most w s ∧ most w s ≤ 1000000 ∧ 0 < w) := by unfold most; omega
  generalize hE : most w s = M at *
  by_cases hz : M = 0
  · rw [if_pos hz, if_pos hz] at k
    simp [sel, look, start, putF, List.lookup, isEnd, bmOk, toLO, ofLO, setv, natOf, itemsOf, augv, getL, hz]
    exact k
  · have h3 : w ≠ 0 := by omega
    rw [if_neg hz, if_neg hz] at k
    simp [sel, look, start, putF, List.lookup, isEnd, bmOk, toLO, ofLO, setv, natOf, itemsOf, augv, getL, hz, hv, h3]
    refine ⟨.inl (by omega), by omega, .inr (by omega), ?_⟩
    refine c_mostM hv ?_
    have hm : 0 < M := by omega
    simp [sel, look, start, putF, List.lookup, isEnd, bmOk, toLO, ofLO, setv, natOf, itemsOf, augv, getL]
    rw [hE, fdivI hm, fdivI (by omega)]
    exact ⟨⟨hz, by omega⟩, k⟩
theorem c_share (hv : h[v]? = some (VO w s p)) (hw : 0 ≤ w ∧ w ≤ 1000000) (hs : 0 ≤ s) (k : Q (.int (if 0 < most w s then 1000 * p / most w s else 1000)) h) : W ((orc prg (n + 2)).call 10 [.ref v] h) Q := by
  refine w_run (F := d_View_share_of) rfl rfl ?_
  simp [sel, look, start, putF, List.lookup, isEnd, bmOk, toLO, ofLO, setv, natOf, itemsOf, augv, getL, d_View_share_of, b_View_share_of, hv]
  refine c_mostM hv ?_
  simp [sel, look, start, putF, List.lookup, isEnd, bmOk, toLO, ofLO, setv, natOf, itemsOf, augv, getL, hv]
  refine ⟨fun z => ?_, fun z => ?_⟩
  · rw [if_pos z] at k
    refine c_mostM hv ?_
    have hM : most w s ≤ 1000000 := by unfold most; omega
    simp [sel, look, start, putF, List.lookup, isEnd, bmOk, toLO, ofLO, setv, natOf, itemsOf, augv, getL, fdivI z]
    exact ⟨by omega, k⟩
  · rw [if_neg (by omega)] at k
    exact k
abbrev sAll : List Nat := [97, 108, 108]
abbrev sSome : List Nat := [115, 111, 109, 101]
abbrev sNone : List Nat := [110, 111, 110, 101]
theorem c_seen (hv : h[v]? = some (VO w s p)) {f e : Int} (k : Q (.str (if p ≤ f ∧ e ≤ p + s then sAll else if f < p + s ∧ p < e then sSome else sNone)) h) : W ((orc prg (n + 1)).call 11 [.ref v, .int f, .int e] h) Q := by
  refine w_run (F := d_View_is_seen) rfl rfl ?_
  simp [sel, look, start, putF, List.lookup, isEnd, bmOk, toLO, ofLO, setv, natOf, itemsOf, augv, getL, d_View_is_seen, b_View_is_seen, hv]
  by_cases h1 : p ≤ f
  · by_cases h2 : e ≤ p + s
    · rw [if_pos ⟨h1, h2⟩] at k
      exact ⟨fun _ => ⟨fun _ => k, fun z => by omega⟩, fun z => by omega⟩
    · rw [if_neg (fun z => h2 z.2)] at k
      refine ⟨fun _ => ⟨fun z => absurd z h2, fun _ => ?_⟩, fun z => by omega⟩
      by_cases h3 : f < p + s
      · by_cases h4 : p < e
        · rw [if_pos ⟨h3, h4⟩] at k
          exact ⟨fun _ => ⟨fun _ => k, fun z => by omega⟩, fun z => by omega⟩
        · rw [if_neg (fun z => h4 z.2)] at k
          exact ⟨fun _ => ⟨fun z => by omega, fun _ => k⟩, fun z => by omega⟩
      · rw [if_neg (fun z => h3 z.1)] at k
        exact ⟨fun z => by omega, fun _ => k⟩
  · rw [if_neg (fun z => h1 z.1)] at k
    refine ⟨fun z => absurd z h1, fun _ => ?_⟩
    by_cases h3 : f < p + s
    · by_cases h4 : p < e
      · rw [if_pos ⟨h3, h4⟩] at k
        exact ⟨fun _ => ⟨fun _ => k, fun z => by omega⟩, fun z => by omega⟩
      · rw [if_neg (fun z => h4 z.2)] at k
        exact ⟨fun _ => ⟨fun z => by omega, fun _ => k⟩, fun z => by omega⟩
    · rw [if_neg (fun z => h3 z.1)] at k
      exact ⟨fun z => by omega, fun _ => k⟩
theorem c_sinit {x : Nat} (hv : h[x]? = some (.ins 3 [])) {sh : Int} (hs : 0 ≤ sh ∧ sh ≤ 99) (k : Q .non (h.set x (SO v sh 0 0))) : W ((orc prg (n + 1)).call 12 [.ref x, .ref v, .int sh] h) Q := by
  refine w_run (F := d_Swing_init) rfl rfl ?_
  have h1 := hs.1
  have h2 := hs.2
  simp [sel, look, start, putF, List.lookup, isEnd, bmOk, toLO, ofLO, setv, natOf, itemsOf, augv, getL, d_Swing_init, b_Swing_init, hv, h1, h2]
  exact k
theorem c_push0 {x : Nat} {sh q : Int} (hv : h[x]? = some (SO v sh 0 0)) (hq : q.natAbs < 2 ^ 64) (k : Q .non (h.set x (SO v sh q 0))) : W ((orc prg (n + 1)).call 13 [.ref x, .int q] h) Q := by
  refine w_run (F := d_Swing_push) rfl rfl ?_
  simp [sel, look, start, putF, List.lookup, isEnd, bmOk, toLO, ofLO, setv, natOf, itemsOf, augv, getL, d_Swing_push, b_Swing_push, hv]
  exact k
theorem c_together {o : Nat} {w' s' p' : Int} (hv : h[v]? = some (VO w s p)) (ho : h[o]? = some (VO w' s' p')) (hw : most w s ≤ 1000000) (hp : 0 ≤ p ∧ p ≤ 1000000) (k : ∀ r, Q (.int r) (h.set o (VO w' s' (if most w s = 0 then clip 0 w' s' else clip (most w' s' * p / most w s) w' s')))) : W ((orc prg (n + 3)).call 16 [.ref v, .ref o] h) Q := by
  refine w_run (F := d_together) rfl rfl ?_
  simp [sel, look, start, putF, List.lookup, isEnd, bmOk, toLO, ofLO, setv, natOf, itemsOf, augv, getL, d_together, b_together, hv, ho]
  refine c_mostM hv ?_
  have := most_nn w s
  generalize hM : most w s = M at *
  by_cases hz : M = 0
  · simp only [if_pos hz] at k
    simp [sel, look, start, putF, List.lookup, isEnd, bmOk, toLO, ofLO, setv, natOf, itemsOf, augv, getL, hz, ho]
    exact c_go ho (k _)
  · simp only [if_neg hz] at k
    simp [sel, look, start, putF, List.lookup, isEnd, bmOk, toLO, ofLO, setv, natOf, itemsOf, augv, getL, hz, ho]
    refine c_mostM ho ?_
    simp [sel, look, start, putF, List.lookup, isEnd, bmOk, toLO, ofLO, setv, natOf, itemsOf, augv, getL, hv]
    refine ⟨.inr (by omega), ?_⟩
    refine c_mostM hv ?_
    rw [show most w s = M from hM]
    simp [sel, look, start, putF, List.lookup, isEnd, bmOk, toLO, ofLO, setv, natOf, itemsOf, augv, getL]
    rw [fdivI (by omega)]
    refine ⟨⟨hz, by omega⟩, ?_⟩
    exact c_go ho (k _)
end
end K11
end
section
set_option maxRecDepth 100000
set_option maxHeartbeats 4000000
namespace K11
open Ev Wp
section
variable {n : Nat} {h : Hp} {v d : Nat} {w s p a b c : Int} {Q : LV → Hp → Prop}
/-- all else stays -/
def Same (l : List Nat) (h h' : Hp) : Prop := ∀ i o, i ∉ l → h[i]? = some o → h'[i]? = some o
theorem Same.refl {l : List Nat} {h : Hp} : Same l h h := fun _ _ _ e => e
theorem Same.trans {l : List Nat} {h h1 h2 : Hp} (a : Same l h h1) (b : Same l h1 h2) : Same l h h2 := fun i o n e => b i o n (a i o n e)
theorem Same.mono {l m : List Nat} {h h1 : Hp} (a : Same l h h1) (k : ∀ i ∈ l, i ∈ m) : Same m h h1 := fun i o n e => a i o (fun z => n (k i z)) e
theorem Same.set {l : List Nat} {h : Hp} {x : Nat} {o : LO} (m : x ∈ l) : Same l h (h.set x o) := fun i o n e => by
  rw [List.getElem?_set_ne (fun z => n (by rw [← z]; exact m))]
  exact e
theorem Same.app {l : List Nat} {h : Hp} {xs : List LO} : Same l h (h ++ xs) := fun i o n e => get_app e
def sg (i : Int) : Int := if 0 ≤ i then 1 else -1
/-- so far by a tick -/
def far (k : Int) : Int := (k.natAbs : Int) / 100 * sg k
def slow (pa sh : Int) : Int := (pa.natAbs : Int) * sh / 100 * sg pa
theorem set_ne {α : Type} {xs : List α} {i j : Nat} {x : α} (n : i ≠ j) : (xs.set i x)[j]? = xs[j]? := List.getElem?_set_ne n
theorem far_lt (k : Int) (hk : k.natAbs < 2 ^ 60) : (far k).natAbs < 2 ^ 60 ∧ -99 ≤ k - 100 * far k ∧ k - 100 * far k ≤ 99 := by
  unfold far sg
  split <;> omega
theorem c_tick {x : Nat} {sh pa re : Int} (hx : h[x]? = some (SO v sh pa re)) (hv : h[v]? = some (VO w s p)) (hne : x ≠ v) (hsh : 0 ≤ sh ∧ sh ≤ 99) (hpa : pa.natAbs < 2 ^ 40) (hre : re.natAbs < 2 ^ 40)
    (k : ∀ h' : Hp, h'[x]? = some (if clip (p + far (re + pa)) w s - p ≠ far (re + pa) then SO v sh 0 0 else SO v sh (slow pa sh) (re + pa - 100 * far (re + pa))) → h'[v]? = some (VO w s (clip (p + far (re + pa)) w s)) → Same [x, v] h h' → Q (.int (clip (p + far (re + pa)) w s - p)) h') :
    W ((orc prg (n + 4)).call 14 [.ref x] h) Q := by
  refine w_runS (F := d_Swing_tick) (σ := [.val (.ref x), .un, .un, .un]) rfl rfl rfl ?_
  obtain ⟨f1, f2, f3⟩ := far_lt (re + pa) (by omega)
  refine s_nmV (.int (re + pa)) h (fun Q k => by simp [sel, look, start, putF, List.lookup, isEnd, bmOk, toLO, ofLO, setv, natOf, itemsOf, augv, getL, hx]; exact k) ?_
  refine s_nmV (.int (far (re + pa))) h (fun Q k => ?_) ?_
  · simp [sel, look, start, putF, List.lookup, isEnd, bmOk, toLO, ofLO, setv, natOf, itemsOf, augv, getL]
    rw [fdivI (by decide)]
    unfold far sg at k
    by_cases z : 0 ≤ re + pa
    · rw [if_pos z, Int.mul_one] at k
      exact ⟨fun _ => k, fun z2 => by omega⟩
    · rw [if_neg z, Int.mul_neg, Int.mul_one] at k
      exact ⟨fun z2 => absurd z2 z, fun _ => k⟩
  generalize far (re + pa) = fr at *
  refine s_atV (.int (re + pa - 100 * fr)) rfl hx (by simp) (fun Q k => by simp [sel, look, start, putF, List.lookup, isEnd, bmOk, toLO, ofLO, setv, natOf, itemsOf, augv, getL]; exact k) ?_
  have hx1 : (h.set x (SO v sh pa (re + pa - 100 * fr)))[x]? = some (SO v sh pa (re + pa - 100 * fr)) := getL hx
  have hv1 : (h.set x (SO v sh pa (re + pa - 100 * fr)))[v]? = some (VO w s p) := by rw [set_ne hne]; exact hv
  have sm1 : Same [x, v] h (h.set x (SO v sh pa (re + pa - 100 * fr))) := Same.set (by simp)
  have e0 : h.set x (.ins 3 (putF 6 (.int (re + pa - 100 * fr)) [(3, .ref v), (4, .int sh), (5, .int pa), (6, .int re)])) = h.set x (SO v sh pa (re + pa - 100 * fr)) := rfl
  rw [e0]
  generalize h.set x (SO v sh pa (re + pa - 100 * fr)) = h1 at *
  refine s_op fun N' kN => ?_
  simp [sel, look, start, putF, List.lookup, isEnd, bmOk, toLO, ofLO, setv, natOf, itemsOf, augv, getL, hx1, hv1]
  refine c_by hv1 ?_
  refine kN _ _ ?_
  clear kN N'
  generalize clip (p + fr) w s = p2 at *
  have hx2 : (h1.set v (VO w s p2))[x]? = some (SO v sh pa (re + pa - 100 * fr)) := by rw [set_ne (Ne.symm hne)]; exact hx1
  have hv2 : (h1.set v (VO w s p2))[v]? = some (VO w s p2) := getL hv1
  have sm2 : Same [x, v] h (h1.set v (VO w s p2)) := sm1.trans (Same.set (by simp))
  generalize h1.set v (VO w s p2) = h2 at *
  refine s_ifV (!decide (p2 - p = fr)) h2 (fun Q k => by simp [sel, look, start, putF, List.lookup, isEnd, bmOk, toLO, ofLO, setv, natOf, itemsOf, augv, getL]; exact k) ?_
  have key : ∀ (pa3 re3 : Int) (h3 : Hp), h3[x]? = some (SO v sh pa3 re3) → h3[v]? = some (VO w s p2) → Same [x, v] h h3 → pa3.natAbs < 2 ^ 40 → (if p2 - p ≠ fr then SO v sh 0 0 else SO v sh (slow pa sh) (re + pa - 100 * fr)) = SO v sh (slow pa3 sh) re3 →
      S (exs prg (orc prg (n + 3)) (.cons (.asg (.attr (.var 0) 5) (.op .mul (.cons (.op .fdiv (.cons (.op .mul (.cons (.op .abs (.cons (.attr (.var 0) 5) .nil)) (.cons (.attr (.var 0) 4) .nil))) (.cons (.cst (.int 100)) .nil))) (.cons (.ite (.op .ge (.cons (.attr (.var 0) 5) (.cons (.cst (.int 0)) .nil))) (.cst (.int 1)) (.op .sub (.cons (.cst (.int 0)) (.cons (.cst (.int 1)) .nil)))) .nil)))) (.cons (.ret (.var 3)) .nil)) [.val (.ref x), .val (.int (re + pa)), .val (.int fr), .val (.int (p2 - p))] h3) (fun _ h1 => Q .non h1) Q (fun _ _ => False) (fun _ _ => False) := by
    intro pa3 re3 h3 g1 g2 g3 g4 g5
    refine s_atV (.int (slow pa3 sh)) rfl g1 (by simp) (fun Q k => ?_) ?_
    · simp [sel, look, start, putF, List.lookup, isEnd, bmOk, toLO, ofLO, setv, natOf, itemsOf, augv, getL, g1]
      unfold slow sg at k
      refine ⟨.inr (by omega), ?_⟩
      rw [fdivI (by decide)]
      by_cases z : 0 ≤ pa3
      · rw [if_pos z, Int.mul_one] at k
        exact ⟨fun _ => k, fun z2 => by omega⟩
      · rw [if_neg z, Int.mul_neg, Int.mul_one] at k
        exact ⟨fun z2 => absurd z2 z, fun _ => k⟩
    · simp [sel, look, start, putF, List.lookup, isEnd, bmOk, toLO, ofLO, setv, natOf, itemsOf, augv, getL]
      refine k _ ?_ ?_ (g3.trans (Same.set (by simp)))
      · rw [g5]
        exact getL g1
      · rw [set_ne hne]
        exact g2
  by_cases hq : p2 - p = fr
  · rw [if_neg (by simp [hq])]
    rw [s_nil]
    refine key pa (re + pa - 100 * fr) h2 hx2 hv2 sm2 hpa ?_
    rw [if_neg (fun z => z hq)]
  · rw [if_pos (by simp [hq])]
    refine s_op fun N' kN => ?_
    simp [sel, look, start, putF, List.lookup, isEnd, bmOk, toLO, ofLO, setv, natOf, itemsOf, augv, getL, hx2]
    refine kN _ _ ?_
    rw [s_nil]
    have e3 : slow 0 sh = 0 := by unfold slow; simp
    refine key 0 0 _ (getL hx2) (by rw [set_ne hne]; exact hv2) (sm2.trans (Same.set (by simp))) (by decide) ?_
    rw [if_pos hq, e3]
theorem slow_le (pa sh : Int) (hs : 0 ≤ sh ∧ sh ≤ 99) : (slow pa sh).natAbs ≤ pa.natAbs ∧ (pa ≠ 0 → (slow pa sh).natAbs < pa.natAbs) := by
  have h1 : (pa.natAbs : Int) * sh ≤ (pa.natAbs : Int) * 99 := Int.mul_le_mul_of_nonneg_left hs.2 (by omega)
  have h0 : 0 ≤ (pa.natAbs : Int) * sh := Int.mul_nonneg (by omega) hs.1
  unfold slow sg
  generalize (pa.natAbs : Int) * sh = m at *
  split <;> omega
def Pl (w s p : Int) : Prop := 0 ≤ p ∧ p ≤ most w s
theorem clip_pl (q w s : Int) : Pl w s (clip q w s) := by unfold Pl clip most; omega
theorem c_run {x : Nat} {sh pa re mo : Int} (hx : h[x]? = some (SO v sh pa re)) (hv : h[v]? = some (VO w s p)) (hne : x ≠ v) (hsh : 0 ≤ sh ∧ sh ≤ 99) (hre : re.natAbs ≤ 2000) (hpa : (pa.natAbs : Int) < mo) (hmo : mo ≤ 2000) (hp : Pl w s p)
    (k : ∀ (h' : Hp) (r re' p' : Int), 0 ≤ r → Pl w s p' → h'[x]? = some (SO v sh 0 re') → h'[v]? = some (VO w s p') → Same [x, v] h h' → Q (.int r) h') :
    W ((orc prg (n + 5)).call 15 [.ref x, .int mo] h) Q := by
  refine w_runS (F := d_Swing_run) (σ := [.val (.ref x), .val (.int mo), .un]) rfl rfl rfl ?_
  refine s_nmV (.int 0) h (fun Q k => by simp [sel, look, start, putF, List.lookup, isEnd, bmOk, toLO, ofLO, setv, natOf, itemsOf, augv, getL]; exact k) ?_
  refine s_op fun N' kN => ?_
  rw [s_whl]
  refine s_whlI (fun m σ1 h1 => ∃ fd pa1 re1 p1 : Int, σ1 = [.val (.ref x), .val (.int mo), .val (.int fd)] ∧ 0 ≤ fd ∧ fd + pa1.natAbs < mo ∧ pa1.natAbs = m ∧ re1.natAbs ≤ 2000 ∧ h1[x]? = some (SO v sh pa1 re1) ∧ h1[v]? = some (VO w s p1) ∧ Pl w s p1 ∧ Same [x, v] h h1) ?_ Ev.WF pa.natAbs _ _ (by unfold Ev.WF; omega) ⟨0, pa, re, p, rfl, by omega, by omega, rfl, hre, hx, hv, hp, Same.refl⟩
  rintro m σ1 h1 ⟨fd, pa1, re1, p1, rfl, i1, i2, i3, i4, i5, i6, ip, i7⟩
  simp [sel, look, start, putF, List.lookup, isEnd, bmOk, toLO, ofLO, setv, natOf, itemsOf, augv, getL, i5]
  refine ⟨fun z => ?_, fun z => ?_⟩
  · subst z
    refine kN _ _ ?_
    simp [sel, look, start, putF, List.lookup, isEnd, bmOk, toLO, ofLO, setv, natOf, itemsOf, augv, getL]
    exact k h1 _ re1 p1 i1 ip i5 i6 i7
  · refine ⟨by omega, fun _ => ?_⟩
    refine c_tick i5 i6 hne hsh (by omega) (by omega) fun h2 j1 j2 j3 => ?_
    obtain ⟨l1, l2⟩ := slow_le pa1 sh hsh
    have l2 := l2 z
    obtain ⟨f1, f2, f3⟩ := far_lt (re1 + pa1) (by omega)
    by_cases q : clip (p1 + far (re1 + pa1)) w s - p1 ≠ far (re1 + pa1)
    · rw [if_pos q] at j1
      exact ⟨0, by omega, by omega, 0, by simp; omega, rfl, 0, by decide, j1, _, j2, clip_pl _ _ _, i7.trans j3⟩
    · rw [if_neg q] at j1
      exact ⟨(slow pa1 sh).natAbs, by omega, by omega, slow pa1 sh, by omega, rfl, _, by omega, j1, _, j2, clip_pl _ _ _, i7.trans j3⟩
end
end K11
end
section
set_option maxRecDepth 100000
set_option maxHeartbeats 4000000
namespace K11
open Ev Wp
section
variable {n : Nat} {h : Hp} {v d : Nat} {w s p a b c : Int} {Q : LV → Hp → Prop}
theorem ne_at {h : Hp} {i j : Nat} {x y : LO} (e1 : h[i]? = some x) (e2 : h[j]? = some y) (n : x ≠ y) : i ≠ j := fun z => by
  subst z
  rw [e1] at e2
  exact n (Option.some.inj e2)
theorem dv {h : Hp} {d v : Nat} (hd : h[d]? = some (DO a b c)) (hv : h[v]? = some (VO w s p)) : d ≠ v := ne_at hd hv (by simp)
theorem sw_ne {x : Nat} {sh pa re : Int} (hx : h[x]? = some (SO v sh pa re)) (hv : h[v]? = some (VO w s p)) : x ≠ v := ne_at hx hv (by simp)
theorem Same.fresh {l m : List Nat} {h h2 h3 : Hp} {x : Nat} (a : Same l h h2) (b : Same m h2 h3) (hx : h[x]? = none) (k : ∀ i ∈ m, i = x ∨ i ∈ l) : Same l h h3 := fun i o n e => b i o (fun z => by
  rcases k i z with rfl | z
  · rw [hx] at e; cases e
  · exact n z) (a i o n e)
theorem ovI {α : Type} {o : Option α} {x : α} {Q : α → Prop} (e : o = some x) (k : Q x) : OV o Q := by rw [e]; exact k
theorem rng1 {b : Int} (hb : b ≤ 16777216 ∧ -(2 ^ 60) < b) : rangeOf [.int b] = some (rangeL 0 b) := if_pos hb
theorem rng2 {a b : Int} (hb : b - a ≤ 16777216 ∧ -(2 ^ 60) < a ∧ a < 2 ^ 60 ∧ -(2 ^ 60) < b ∧ b < 2 ^ 60) : rangeOf [.int a, .int b] = some (rangeL a b) := if_pos hb
theorem c_swings (hd : h[d]? = some (DO a b c)) (hv : h[v]? = some (VO w s p)) (hp : Pl w s p)
    (k : ∀ (h' : Hp) (a' b' c' p' : Int), Pl w s p' → h'[d]? = some (DO a' b' c') → h'[v]? = some (VO w s p') → Same [d, v] h h' → Q (.bl true) h') :
    W ((orc prg (n + 7)).call 27 [.ref d, .ref v, .int w, .int s] h) Q := by
  refine w_runS (F := d_law_swings) (σ := [.val (.ref d), .val (.ref v), .val (.int w), .val (.int s), .un, .un, .un, .un, .un, .un, .un, .un, .un, .un, .un]) rfl rfl rfl ?_
  have hdv := dv hd hv
  refine s_nmV (.int p) h (fun Q k => by simp [sel, look, start, putF, List.lookup, isEnd, bmOk, toLO, ofLO, setv, natOf, itemsOf, augv, getL, hv]; exact k) ?_
  -- share and pace
  refine s_op fun N' kN => ?_
  simp [sel, look, start, putF, List.lookup, isEnd, bmOk, toLO, ofLO, setv, natOf, itemsOf, augv, getL]
  refine c_roll hd (by decide) (by decide) fun sh a1 b1 c1 r1 r2 => ?_
  refine c_roll (getL hd) (by decide) (by decide) fun q a2 b2 c2 q1 q2 => ?_
  try simp [sel, look, start, putF, List.lookup, isEnd, bmOk, toLO, ofLO, setv, natOf, itemsOf, augv, getL]
  refine kN _ _ ?_
  have hd1 : (h.set d (DO a2 b2 c2))[d]? = some (DO a2 b2 c2) := getL hd
  have hv1 : (h.set d (DO a2 b2 c2))[v]? = some (VO w s p) := by rw [set_ne hdv]; exact hv
  have sm1 : Same [d, v] h (h.set d (DO a2 b2 c2)) := Same.set (by simp)
  have nx : h[(h.set d (DO a2 b2 c2)).length]? = none := by simp
  clear kN N'
  generalize h.set d (DO a2 b2 c2) = h1 at *
  -- the swing
  refine s_op fun N' kN => ?_
  simp [sel, look, start, putF, List.lookup, isEnd, bmOk, toLO, ofLO, setv, natOf, itemsOf, augv, getL]
  refine c_sinit get_new ⟨r1, by omega⟩ ?_
  rw [set_new]
  try simp [sel, look, start, putF, List.lookup, isEnd, bmOk, toLO, ofLO, setv, natOf, itemsOf, augv, getL]
  refine kN _ _ ?_
  have hx2 : (h1 ++ [SO v sh 0 0])[h1.length]? = some (SO v sh 0 0) := get_new
  have hd2 : (h1 ++ [SO v sh 0 0])[d]? = some (DO a2 b2 c2) := get_app hd1
  have hv2 : (h1 ++ [SO v sh 0 0])[v]? = some (VO w s p) := get_app hv1
  have sm2 : Same [d, v] h (h1 ++ [SO v sh 0 0]) := sm1.trans Same.app
  clear kN N'
  generalize h1 ++ [SO v sh 0 0] = h2 at *
  generalize h1.length = x at *
  have xv := sw_ne hx2 hv2
  have xd : x ≠ d := ne_at hx2 hd2 (by simp)
  refine s_op fun N' kN => ?_
  simp [sel, look, start, putF, List.lookup, isEnd, bmOk, toLO, ofLO, setv, natOf, itemsOf, augv, getL, hx2]
  refine c_push0 hx2 (by omega) ?_
  try simp [sel, look, start, putF, List.lookup, isEnd, bmOk, toLO, ofLO, setv, natOf, itemsOf, augv, getL]
  refine kN _ _ ?_
  have hx3 : (h2.set x (SO v sh (q - 1500) 0))[x]? = some (SO v sh (q - 1500) 0) := getL hx2
  have hd3 : (h2.set x (SO v sh (q - 1500) 0))[d]? = some (DO a2 b2 c2) := by rw [set_ne xd]; exact hd2
  have hv3 : (h2.set x (SO v sh (q - 1500) 0))[v]? = some (VO w s p) := by rw [set_ne xv]; exact hv2
  have sm3 : Same [d, v] h (h2.set x (SO v sh (q - 1500) 0)) := sm2.fresh (Same.set (l := [x]) (by simp)) nx (by simp)
  clear kN N'
  generalize h2.set x (SO v sh (q - 1500) 0) = h3 at *
  -- eight ticks
  refine s_op fun N' kN => ?_
  simp [sel, look, start, putF, List.lookup, isEnd, bmOk, toLO, ofLO, setv, natOf, itemsOf, augv, getL, rng1]
  refine s_forI (fun _ σ1 h1 => ∃ (s5 s13 s14 : Slot) (p1 pa re : Int), σ1 = [.val (.ref d), .val (.ref v), .val (.int w), .val (.int s), .val (.int p1), s5, .un, .val (.int sh), .val (.int (q - 1500)), .val (.ref x), .val (.int re), .val .non, .val (.int pa), s13, s14] ∧ pa.natAbs ≤ 1500 ∧ re.natAbs ≤ 99 ∧ h1[x]? = some (SO v sh pa re) ∧ h1[v]? = some (VO w s p1) ∧ h1[d]? = some (DO a2 b2 c2) ∧ Pl w s p1 ∧ Same [d, v] h h1) ?_ ?_ _ _ _ ⟨.un, .un, .un, p, q - 1500, 0, rfl, by omega, by decide, hx3, hv3, hd3, hp, sm3⟩
  · rintro y rest σ1 h1 ⟨s5, s13, s14, p1, pa, re, rfl, i1, i2, i3, i4, i5, ip, i6⟩
    obtain ⟨f1, f2, f3⟩ := far_lt (re + pa) (by omega)
    refine ovI rfl ?_
    refine s_nmV (.int (far (re + pa))) h1 (fun Q k => ?_) ?_
    · simp [sel, look, start, putF, List.lookup, isEnd, bmOk, toLO, ofLO, setv, natOf, itemsOf, augv, getL]
      rw [fdivI (by decide)]
      unfold far sg at k
      by_cases z : 0 ≤ re + pa
      · rw [if_pos z, Int.mul_one] at k
        exact ⟨fun _ => k, fun z2 => by omega⟩
      · rw [if_neg z, Int.mul_neg, Int.mul_one] at k
        exact ⟨fun z2 => absurd z2 z, fun _ => k⟩
    generalize hfr : far (re + pa) = fr at *
    refine s_nmV (.int (clip (p1 + fr) w s)) h1 (fun Q k => ?_) ?_
    · simp [sel, look, start, putF, List.lookup, isEnd, bmOk, toLO, ofLO, setv, natOf, itemsOf, augv, getL]
      exact c_clip k
    generalize hg : clip (p1 + fr) w s = g at *
    refine s_nmV (.int (re + pa - 100 * fr)) h1 (fun Q k => by simp [sel, look, start, putF, List.lookup, isEnd, bmOk, toLO, ofLO, setv, natOf, itemsOf, augv, getL]; exact k) ?_
    obtain ⟨pz, hpz⟩ : ∃ pz : Int, pz = if g - p1 = fr then pa else 0 := ⟨_, rfl⟩
    obtain ⟨rz, hrz⟩ : ∃ rz : Int, rz = if g - p1 = fr then re + pa - 100 * fr else 0 := ⟨_, rfl⟩
    refine s_asgV (.tup [.int pz, .int rz]) h1 (fun Q k => ?_) ?_
    · simp [sel, look, start, putF, List.lookup, isEnd, bmOk, toLO, ofLO, setv, natOf, itemsOf, augv, getL]
      by_cases z : g - p1 = fr
      · rw [if_pos z] at hpz hrz
        subst hpz; subst hrz
        exact ⟨fun _ => k, fun z2 => absurd z z2⟩
      · rw [if_neg z] at hpz hrz
        subst hpz; subst hrz
        exact ⟨fun z2 => absurd z2 z, fun _ => k⟩
    rw [s_a_tup]
    refine ovI rfl ?_
    have hb : pz.natAbs ≤ 1500 := by rw [hpz]; split <;> omega
    have hr : rz.natAbs ≤ 99 := by rw [hrz]; split <;> omega
    refine s_nmV (.int (slow pz sh)) h1 (fun Q k => ?_) ?_
    · simp [sel, look, start, putF, List.lookup, isEnd, bmOk, toLO, ofLO, setv, natOf, itemsOf, augv, getL]
      unfold slow sg at k
      refine ⟨.inr (by omega), ?_⟩
      rw [fdivI (by decide)]
      by_cases z : 0 ≤ pz
      · rw [if_pos z, Int.mul_one] at k
        exact ⟨fun _ => k, fun z2 => by omega⟩
      · rw [if_neg z, Int.mul_neg, Int.mul_one] at k
        exact ⟨fun z2 => absurd z2 z, fun _ => k⟩
    refine s_op fun N' kN2 => ?_
    simp [sel, look, start, putF, List.lookup, isEnd, bmOk, toLO, ofLO, setv, natOf, itemsOf, augv, getL, i3]
    refine c_tick i3 i4 xv ⟨r1, by omega⟩ (by omega) (by omega) fun h4 j1 j2 j3 => ?_
    rw [hfr] at j1 j2 ⊢
    rw [hg] at j1 j2 ⊢
    have e0 : slow 0 sh = 0 := by unfold slow; simp
    have j4 : h4[x]? = some (SO v sh (slow pz sh) rz) := by
      rw [j1]
      by_cases z : g - p1 = fr
      · rw [if_neg (fun q => q z), hpz, hrz, if_pos z, if_pos z]
      · rw [if_pos z, hpz, hrz, if_neg z, if_neg z, e0]
    have j5 : h4[d]? = some (DO a2 b2 c2) := j3 d _ (by simp [hdv, Ne.symm xd]) i5
    have l1 := (slow_le pz sh ⟨r1, by omega⟩).1
    simp [sel, look, start, putF, List.lookup, isEnd, bmOk, toLO, ofLO, setv, natOf, itemsOf, augv, getL, j4, j2]
    refine kN2 _ _ ?_
    refine s_nmV (.int g) h4 (fun Q k => by simp [sel, look, start, putF, List.lookup, isEnd, bmOk, toLO, ofLO, setv, natOf, itemsOf, augv, getL]; exact k) ?_
    rw [s_nil]
    exact ⟨_, _, _, g, _, _, rfl, by omega, hr, j4, j2, j5, by rw [← hg]; exact clip_pl _ _ _, i6.fresh j3 nx (by simp)⟩
  · rintro σ1 h1 ⟨s5, s13, s14, p1, pa, re, rfl, i1, i2, i3, i4, i5, ip, i6⟩
    refine kN _ _ ?_
    refine s_op fun N' kN2 => ?_
    simp [sel, look, start, putF, List.lookup, isEnd, bmOk, toLO, ofLO, setv, natOf, itemsOf, augv, getL, i3]
    refine c_run i3 i4 xv ⟨r1, by omega⟩ (by omega) (by omega) (by decide) ip fun h4 r re' p' j0 jp j1 j2 j3 => ?_
    refine kN2 _ _ ?_
    have j0' : ¬ r < 0 := by omega
    simp [sel, look, start, putF, List.lookup, isEnd, bmOk, toLO, ofLO, setv, natOf, itemsOf, augv, getL, j1, j0']
    exact k h4 a2 b2 c2 p' jp (j3 d _ (by simp [hdv, Ne.symm xd]) i5) j2 (i6.fresh j3 nx (by simp))
end
end K11
end
section
set_option maxRecDepth 100000
set_option maxHeartbeats 4000000
namespace K11
open Ev Wp
section
variable {n : Nat} {h : Hp} {v d : Nat} {w s p a b c : Int} {Q : LV → Hp → Prop}
/-! ### the nearest stop -/
def trips (p : Int) : Nat → List Int → List (Int × Int × Int)
  | _, [] => []
  | k, x :: r => (((x - p).natAbs : Int), (k : Int), x) :: trips p (k + 1) r
theorem trips_get (p : Int) : ∀ (ns : List Int) (k i : Nat), (trips p k ns)[i]? = (ns[i]?).map fun x => (((x - p).natAbs : Int), ((k + i : Nat) : Int), x)
  | [], k, i => by simp [trips]
  | x :: r, k, 0 => by simp [trips]
  | x :: r, k, i + 1 => by
    rw [trips, List.getElem?_cons_succ, trips_get p r (k + 1) i, List.getElem?_cons_succ]
    congr 1
    funext y
    rw [show k + 1 + i = k + (i + 1) from by omega]
theorem tripOf_map : ∀ ts : List (Int × Int × Int), tripOf (ts.map tripL) = some ts
  | [] => rfl
  | (a, b, c) :: r => by
    rw [List.map_cons]
    show (tripOf (r.map tripL)).map ((a, b, c) :: ·) = _
    rw [tripOf_map r]
    rfl
theorem minTs_ok : ∀ (r : List (Int × Int × Int)) (m : Int × Int × Int), minTs m r ∈ m :: r ∧ ∀ t ∈ m :: r, ltT t (minTs m r) = false
  | [], m => by
    refine ⟨by simp [minTs], fun t ht => ?_⟩
    simp only [List.mem_singleton] at ht
    subst ht
    simp [minTs, ltT]
  | x :: r, m => by
    obtain ⟨h1, h2⟩ := minTs_ok r (if ltT x m then x else m)
    unfold minTs
    have tr : ∀ a b c : Int × Int × Int, ltT b a = false → ltT c b = false → ltT c a = false := by
      intro a b c
      simp only [ltT, Bool.or_eq_false_iff, Bool.and_eq_false_iff, decide_eq_false_iff_not]
      intros
      omega
    by_cases q : ltT x m = true
    · rw [if_pos q] at h1 h2 ⊢
      refine ⟨?_, fun t ht => ?_⟩
      · rcases List.mem_cons.mp h1 with e | e
        · rw [e]; simp
        · exact List.mem_cons_of_mem _ (List.mem_cons_of_mem _ e)
      · rcases List.mem_cons.mp ht with rfl | ht
        · refine tr _ _ _ (h2 x List.mem_cons_self) ?_
          simp only [ltT, Bool.or_eq_true, Bool.and_eq_true, decide_eq_true_eq] at q
          simp only [ltT, Bool.or_eq_false_iff, Bool.and_eq_false_iff, decide_eq_false_iff_not]
          omega
        · exact h2 t ht
    · rw [if_neg q] at h1 h2 ⊢
      refine ⟨?_, fun t ht => ?_⟩
      · rcases List.mem_cons.mp h1 with e | e
        · rw [e]; simp
        · exact List.mem_cons_of_mem _ (List.mem_cons_of_mem _ e)
      · rcases List.mem_cons.mp ht with rfl | ht
        · exact h2 t List.mem_cons_self
        · rcases List.mem_cons.mp ht with rfl | ht
          · refine tr _ _ _ (h2 m List.mem_cons_self) ?_
            simpa using q
          · exact h2 t (List.mem_cons_of_mem _ ht)
/-- the stop that is nearest, of as near the first -/
def Near (p : Int) (ns : List Int) (i : Nat) (x : Int) : Prop := ns[i]? = some x ∧ (∀ y ∈ ns, (x - p).natAbs ≤ (y - p).natAbs) ∧ ∀ j y, j < i → ns[j]? = some y → (y - p).natAbs ≠ (x - p).natAbs
theorem near_of {p x : Int} {r : List Int} : ∃ i y, Near p (x :: r) i y ∧ minTs (((x - p).natAbs : Int), 0, x) (trips p 1 r) = (((y - p).natAbs : Int), (i : Int), y) := by
  obtain ⟨h1, h2⟩ := minTs_ok (trips p 1 r) (((x - p).natAbs : Int), 0, x)
  have e : (((x - p).natAbs : Int), (0 : Int), x) :: trips p 1 r = trips p 0 (x :: r) := rfl
  rw [e] at h1 h2
  generalize minTs (((x - p).natAbs : Int), 0, x) (trips p 1 r) = t at *
  obtain ⟨i, hi⟩ := List.mem_iff_getElem?.mp h1
  rw [trips_get] at hi
  obtain ⟨y, hy, rfl⟩ := Option.map_eq_some_iff.mp hi
  refine ⟨i, y, ⟨hy, fun z hz => ?_, fun j z hj hz => ?_⟩, by simp⟩
  · obtain ⟨j, hj⟩ := List.mem_iff_getElem?.mp hz
    have := h2 _ (List.mem_iff_getElem?.mpr ⟨j, by rw [trips_get, hj]; rfl⟩)
    simp only [ltT, Bool.or_eq_false_iff, Bool.and_eq_false_iff, decide_eq_false_iff_not] at this
    omega
  · have := h2 _ (List.mem_iff_getElem?.mpr ⟨j, by rw [trips_get, hz]; rfl⟩)
    simp only [ltT, Bool.or_eq_false_iff, Bool.and_eq_false_iff, decide_eq_false_iff_not] at this
    omega
def gSnap (p : Int) : LV → Option LV
  | .tup [.int i, .int y] => some (.tup [.int ((y - p).natAbs : Int), .int i, .int y])
  | _ => none
theorem snap_rows (p : Int) : ∀ (ns : List Int) (k : Nat), (enumL k (ns.map .int)).filterMap (gSnap p) = (trips p k ns).map tripL
  | [], k => rfl
  | x :: r, k => by
    rw [List.map_cons, enumL, List.filterMap_cons, trips, List.map_cons, ← snap_rows p r (k + 1)]
    rfl
theorem enum_len : ∀ (xs : List LV) (k : Nat), (enumL k xs).length = xs.length
  | [], k => rfl
  | x :: r, k => by rw [enumL, List.length_cons, List.length_cons, enum_len r]
theorem enum_mem : ∀ (ns : List Int) (k : Nat) (x : LV), x ∈ enumL k (ns.map .int) → ∃ (i : Nat) (y : Int), x = .tup [.int i, .int y]
  | [], k, x, hx => by simp [enumL] at hx
  | y :: r, k, x, hx => by
    rw [List.map_cons, enumL] at hx
    rcases List.mem_cons.mp hx with rfl | hx
    · exact ⟨k, y, rfl⟩
    · exact enum_mem r (k + 1) x hx
theorem o_len {xs : List LV} : opv .len [.lst xs] = some (.int xs.length) := rfl
theorem c_snap {q x : Int} {r : List Int} (hl : (x :: r).length ≤ 1000) (k : ∀ i y, Near q (x :: r) i y → Q (.int y) h) : W ((orc prg (n + 1)).call 17 [.int q, .lst ((x :: r).map .int)] h) Q := by
  refine w_runS (F := d_snap_place) (σ := [.val (.int q), .val (.lst ((x :: r).map .int)), .un, .un, .un]) rfl rfl rfl ?_
  refine s_ifV false h (fun Q k => ?_) ?_
  · simp [sel, look, start, putF, List.lookup, isEnd, bmOk, toLO, ofLO, setv, natOf, itemsOf, augv, getL, o_len]
    have : ¬ ((r.length : Int) + 1 = 0) := by omega
    simpa [this] using k
  rw [if_neg (by decide), s_nil]
  refine s_nmV (.lst ((trips q 0 (x :: r)).map tripL)) h (fun Q k => ?_) ?_
  · rw [w_comp]
    rw [w_enum, w_of, w_var]
    refine ovI (x := .lst ((x :: r).map .int)) rfl ?_
    refine ovI (x := (x :: r).map .int) rfl ?_
    refine ⟨by rw [enum_len, List.length_map]; unfold SL; omega, ?_⟩
    refine w_mapP (g := gSnap q) (fun y hy Q k => ?_) ?_
    · obtain ⟨i, z, rfl⟩ := enum_mem _ _ _ hy
      unfold gSnap at k
      simp [sel, look, start, putF, List.lookup, isEnd, bmOk, toLO, ofLO, setv, natOf, itemsOf, augv, getL]
      exact k
    · rw [snap_rows]
      exact k
  obtain ⟨i, y, ny, e⟩ := near_of (p := q) (x := x) (r := r)
  have e2 : opv .minT [.lst ((trips q 0 (x :: r)).map tripL)] = some (tripL (((y - q).natAbs : Int), (i : Int), y)) := by
    rw [show ∀ x, opv .minT [x] = minTV x from fun _ => rfl]
    unfold minTV
    simp only [tripOf_map]
    show some (tripL (minTs (((x - q).natAbs : Int), 0, x) (trips q 1 r))) = _
    rw [e]
  refine s_op fun N' kN => ?_
  rw [s_ret, w_op]
  simp [sel, look, start, putF, List.lookup, isEnd, bmOk, toLO, ofLO, setv, natOf, itemsOf, augv, getL, e2, tripL]
  exact k i y ny
/-! ### heads that stick -/
abbrev P2 (x y : Int) : LV := .tup [.int x, .int y]
def stick (e0 e1 e2 e3 e4 e5 q g : Int) : LV := if e0 ≤ q ∧ q < e1 then P2 0 (min 0 (e1 - q - g)) else if e2 ≤ q ∧ q < e3 then P2 1 (min 0 (e3 - q - g)) else if e4 ≤ q ∧ q < e5 then P2 2 (min 0 (e5 - q - g)) else P2 (-1) 0
theorem c_sticky {e0 e1 e2 e3 e4 e5 q g : Int} (h0 : e0 ≤ e1) (h1 : e1 ≤ e2) (h2 : e2 ≤ e3) (h3 : e3 ≤ e4) (h4 : e4 ≤ e5) (hg : 0 ≤ g) (k : Q (stick e0 e1 e2 e3 e4 e5 q g) h) : W ((orc prg (n + 1)).call 18 [.lst [P2 e0 e1, P2 e2 e3, P2 e4 e5], .int q, .int g] h) Q := by
  refine w_runS (F := d_sticky_tops) (σ := [.val (.lst [P2 e0 e1, P2 e2 e3, P2 e4 e5]), .val (.int q), .val (.int g), .un, .un, .un, .un, .un]) rfl rfl rfl ?_
  have n0 : ¬ e1 < e0 := by omega
  have n1 : ¬ e2 < e1 := by omega
  have n2 : ¬ e3 < e2 := by omega
  have n3 : ¬ e4 < e3 := by omega
  have n4 : ¬ e5 < e4 := by omega
  have ng : ¬ g < 0 := by omega
  refine s_ifV false h (fun Q k => ?_) ?_
  · simp [sel, look, start, putF, List.lookup, isEnd, bmOk, toLO, ofLO, setv, natOf, itemsOf, augv, getL, n0, n2, n4, ng, prB]
    exact k
  rw [if_neg (by decide), s_nil]
  have esl : slcV (.lst [P2 e0 e1, P2 e2 e3, P2 e4 e5]) (.int 1) .non = some (.lst [P2 e2 e3, P2 e4 e5]) := rfl
  refine s_ifV false h (fun Q k => ?_) ?_
  · simp [sel, look, start, putF, List.lookup, isEnd, bmOk, toLO, ofLO, setv, natOf, itemsOf, augv, getL, n1, n3, esl, zipL, prB]
    exact k
  rw [if_neg (by decide), s_nil]
  unfold stick at k
  refine s_op fun N' kN => ?_
  rw [s_for]
  simp [sel, look, start, putF, List.lookup, isEnd, bmOk, toLO, ofLO, setv, natOf, itemsOf, augv, getL, enumL]
  rw [s_for1]
  refine ovI rfl ?_
  refine s_ifV (decide (e0 ≤ q ∧ q < e1)) h (fun Q k => ?_) ?_
  · have e : decide (e0 ≤ q ∧ q < e1) = (decide (e0 ≤ q) && decide (q < e1)) := by simp
    rw [e] at k
    simp [sel, look, start, putF, List.lookup, isEnd, bmOk, toLO, ofLO, setv, natOf, itemsOf, augv, getL]
    by_cases z : e0 ≤ q
    · by_cases z2 : q < e1
      · exact ⟨fun _ => ⟨fun _ => by simpa [z, z2] using k, fun z => by omega⟩, fun z => by omega⟩
      · exact ⟨fun _ => ⟨fun z => by omega, fun _ => by simpa [z, z2] using k⟩, fun z => by omega⟩
    · exact ⟨fun z2 => absurd z2 z, fun _ => by simpa [z] using k⟩
  by_cases c0 : e0 ≤ q ∧ q < e1
  · rw [if_pos c0] at k
    rw [if_pos (by simp [c0])]
    simp [sel, look, start, putF, List.lookup, isEnd, bmOk, toLO, ofLO, setv, natOf, itemsOf, augv, getL]
    exact k
  rw [if_neg c0] at k
  rw [if_neg (by simpa using c0), s_nil]
  rw [s_nil]
  rw [s_for1]
  refine ovI rfl ?_
  refine s_ifV (decide (e2 ≤ q ∧ q < e3)) h (fun Q k => ?_) ?_
  · have e : decide (e2 ≤ q ∧ q < e3) = (decide (e2 ≤ q) && decide (q < e3)) := by simp
    rw [e] at k
    simp [sel, look, start, putF, List.lookup, isEnd, bmOk, toLO, ofLO, setv, natOf, itemsOf, augv, getL]
    by_cases z : e2 ≤ q
    · by_cases z2 : q < e3
      · exact ⟨fun _ => ⟨fun _ => by simpa [z, z2] using k, fun z => by omega⟩, fun z => by omega⟩
      · exact ⟨fun _ => ⟨fun z => by omega, fun _ => by simpa [z, z2] using k⟩, fun z => by omega⟩
    · exact ⟨fun z2 => absurd z2 z, fun _ => by simpa [z] using k⟩
  by_cases c1 : e2 ≤ q ∧ q < e3
  · rw [if_pos c1] at k
    rw [if_pos (by simp [c1])]
    simp [sel, look, start, putF, List.lookup, isEnd, bmOk, toLO, ofLO, setv, natOf, itemsOf, augv, getL]
    exact k
  rw [if_neg c1] at k
  rw [if_neg (by simpa using c1), s_nil]
  rw [s_nil]
  rw [s_for1]
  refine ovI rfl ?_
  refine s_ifV (decide (e4 ≤ q ∧ q < e5)) h (fun Q k => ?_) ?_
  · have e : decide (e4 ≤ q ∧ q < e5) = (decide (e4 ≤ q) && decide (q < e5)) := by simp
    rw [e] at k
    simp [sel, look, start, putF, List.lookup, isEnd, bmOk, toLO, ofLO, setv, natOf, itemsOf, augv, getL]
    by_cases z : e4 ≤ q
    · by_cases z2 : q < e5
      · exact ⟨fun _ => ⟨fun _ => by simpa [z, z2] using k, fun z => by omega⟩, fun z => by omega⟩
      · exact ⟨fun _ => ⟨fun z => by omega, fun _ => by simpa [z, z2] using k⟩, fun z => by omega⟩
    · exact ⟨fun z2 => absurd z2 z, fun _ => by simpa [z] using k⟩
  by_cases c2 : e4 ≤ q ∧ q < e5
  · rw [if_pos c2] at k
    rw [if_pos (by simp [c2])]
    simp [sel, look, start, putF, List.lookup, isEnd, bmOk, toLO, ofLO, setv, natOf, itemsOf, augv, getL]
    exact k
  rw [if_neg c2] at k
  rw [if_neg (by simpa using c2), s_nil]
  rw [s_nil]
  rw [s_for0]
  refine kN _ _ ?_
  simp [sel, look, start, putF, List.lookup, isEnd, bmOk, toLO, ofLO, setv, natOf, itemsOf, augv, getL]
  exact k
end
end K11
end
section
set_option maxRecDepth 100000
set_option maxHeartbeats 4000000
namespace K11
open Ev Wp
section
variable {n : Nat} {h : Hp} {v d : Nat} {w s p a b c : Int} {Q : LV → Hp → Prop}
/-! ### rows of ints -/
theorem minI_ok : ∀ (r : List Int) (m : Int), minI m r ∈ m :: r ∧ ∀ t ∈ m :: r, minI m r ≤ t
  | [], m => by simp [minI]
  | x :: r, m => by
    obtain ⟨h1, h2⟩ := minI_ok r (if x < m then x else m)
    unfold minI
    generalize minI (if x < m then x else m) r = z at *
    refine ⟨?_, fun t ht => ?_⟩
    · rcases List.mem_cons.mp h1 with e | e
      · rw [e]; split <;> simp
      · simp [e]
    · have h0 := h2 _ List.mem_cons_self
      rcases List.mem_cons.mp ht with rfl | ht
      · split at h0 <;> omega
      · rcases List.mem_cons.mp ht with rfl | ht
        · split at h0 <;> omega
        · exact h2 t (List.mem_cons_of_mem _ ht)
theorem intsOf_map : ∀ ns : List Int, intsOf (ns.map .int) = some ns
  | [] => rfl
  | x :: r => by
    rw [List.map_cons]
    show (intsOf (r.map .int)).map (x :: ·) = _
    rw [intsOf_map r]
    rfl
theorem index_first : ∀ (F : List Int) (i k : Nat) (z : Int), F[i]? = some z → (∀ j, j < i → F[j]? ≠ some z) → indexL (.int z) (F.map .int) k = some (k + i)
  | [], i, k, z, e, _ => by simp at e
  | x :: r, 0, k, z, e, _ => by
    simp only [List.getElem?_cons_zero, Option.some.injEq] at e
    subst e
    simp [indexL, LV.eqv]
  | x :: r, i + 1, k, z, e, q => by
    have h0 : x ≠ z := fun y => q 0 (by omega) (by simp [y])
    rw [List.map_cons]
    unfold indexL
    rw [if_neg (by simp [LV.eqv, h0]), index_first r i (k + 1) z (by simpa using e) fun j hj => by simpa using q (j + 1) (by omega)]
    congr 1
    omega
theorem o_idx {xs : List LV} {i : Nat} {x : LV} (e : xs[i]? = some x) : opv .idx [.lst xs, .int (i : Int)] = some x := by
  have hl := lt_of_get e
  show (intI (.int (i : Int))).bind (fun i => (natOf i xs.length).bind fun n => xs[n]?) = _
  have h1 : ((i : Int) < xs.length) := by omega
  simp [intI, natOf, h1, e]
theorem pdInts : ∀ ns : List Int, (ns.map LV.int).all (LV.pd 60) = true
  | [] => rfl
  | x :: r => by rw [List.map_cons, List.all_cons, pdInts r]; rfl
theorem insI_ok (x : Int) : ∀ r : List Int, r.Pairwise (· ≤ ·) → (insI x r).Pairwise (· ≤ ·) ∧ (insI x r).length = r.length + 1 ∧ ∀ y ∈ insI x r, y = x ∨ y ∈ r
  | [], _ => by simp [insI]
  | m :: r, hp => by
    obtain ⟨h1, h2⟩ := List.pairwise_cons.mp hp
    obtain ⟨i1, i2, i3⟩ := insI_ok x r h2
    unfold insI
    split
    · rename_i hx
      refine ⟨List.pairwise_cons.mpr ⟨fun y hy => ?_, hp⟩, rfl, fun y hy => ?_⟩
      · rcases List.mem_cons.mp hy with rfl | hy
        · exact hx
        · have := h1 y hy; omega
      · rcases List.mem_cons.mp hy with rfl | hy
        · exact .inl rfl
        · exact .inr hy
    · rename_i hx
      refine ⟨List.pairwise_cons.mpr ⟨fun y hy => ?_, i1⟩, by simp [i2], fun y hy => ?_⟩
      · rcases i3 y hy with rfl | hy
        · omega
        · exact h1 y hy
      · rcases List.mem_cons.mp hy with rfl | hy
        · exact .inr List.mem_cons_self
        · rcases i3 y hy with rfl | hy
          · exact .inl rfl
          · exact .inr (List.mem_cons_of_mem _ hy)
theorem srtNs_ok : ∀ r : List Int, (srtNs r).Pairwise (· ≤ ·) ∧ (srtNs r).length = r.length
  | [] => ⟨List.Pairwise.nil, rfl⟩
  | x :: r => by
    obtain ⟨h1, h2⟩ := srtNs_ok r
    obtain ⟨i1, i2, _⟩ := insI_ok x (srtNs r) h1
    exact ⟨i1, by rw [srtNs, i2, h2]; rfl⟩
/-- ints that a row of rolls tells -/
theorem ints_ex {B : Int} : ∀ vs : List LV, (∀ v ∈ vs, ∃ r : Int, v = .int r ∧ 0 ≤ r ∧ r < B) → ∃ ns : List Int, vs = ns.map .int ∧ ∀ x ∈ ns, 0 ≤ x ∧ x < B
  | [], _ => ⟨[], rfl, fun x hx => by cases hx⟩
  | v :: vs, k => by
    obtain ⟨r, rfl, h1, h2⟩ := k v List.mem_cons_self
    obtain ⟨ns, rfl, h3⟩ := ints_ex vs fun u hu => k u (List.mem_cons_of_mem _ hu)
    exact ⟨r :: ns, rfl, fun x hx => by
      rcases List.mem_cons.mp hx with rfl | hx
      · exact ⟨h1, h2⟩
      · exact h3 x hx⟩
theorem srt6 {ns : List Int} (hl : ns.length = 6) : ∃ e0 e1 e2 e3 e4 e5 : Int, srtNs ns = [e0, e1, e2, e3, e4, e5] ∧ e0 ≤ e1 ∧ e1 ≤ e2 ∧ e2 ≤ e3 ∧ e3 ≤ e4 ∧ e4 ≤ e5 := by
  obtain ⟨h1, h2⟩ := srtNs_ok ns
  rw [hl] at h2
  match q : srtNs ns, h1, h2 with
  | [e0, e1, e2, e3, e4, e5], h1, h2 =>
    simp only [List.pairwise_cons, List.mem_cons] at h1
    refine ⟨e0, e1, e2, e3, e4, e5, rfl, h1.1 _ (.inl rfl), h1.2.1 _ (.inl rfl), h1.2.2.1 _ (.inl rfl), h1.2.2.2.1 _ (.inl rfl), h1.2.2.2.2.1 _ (.inl rfl)⟩
theorem rangeL_len {a b : Int} : (rangeL a b).length = (b - a).toNat := by simp [rangeL]
/-- a row of rolls -/
theorem c_rolls {m : Int} {i : Nat} {σ : Env} {xs : List LV} (hd : h[d]? = some (DO a b c)) (h0 : 0 < m) (h1 : m ≤ 100000000) (e0 : σ[0]? = some (.val (.ref d))) (hi : 0 < i) {Q : List LV → Hp → Prop}
    (k : ∀ (ns : List Int) (h' : Hp) (a' b' c' : Int), ns.length = xs.length → (∀ x ∈ ns, 0 ≤ x ∧ x < m) → h'[d]? = some (DO a' b' c') → Same [d] h h' → Q (ns.map .int) h') :
    W (mapR (elem prg (orc prg (n + 1)) (.call 20 (.cons (.var 0) (.cons (.cst (.int m)) .nil))) (.nm i) .nil σ) xs h) Q := by
  refine w_mapI (fun h1 => (∃ a b c, h1[d]? = some (DO a b c)) ∧ Same [d] h h1) (fun v => ∃ r : Int, v = .int r ∧ 0 ≤ r ∧ r < m) (fun x hx h2 i2 => ?_) ⟨⟨a, b, c, hd⟩, Same.refl⟩ fun vs h2 hl hg i2 => ?_
  · obtain ⟨⟨a2, b2, c2, hd2⟩, sm⟩ := i2
    rw [w_elem]
    refine ovI rfl ?_
    have el : look (σ.set i (.val x)) 0 = some (.ref d) := by
      unfold look
      rw [List.getElem?_set_ne (by omega), e0]
    simp only [w_evT0, ot_t, w_call, w_evs1, w_evs0, w_var, el, ov_s, w_cst]
    exact c_roll hd2 h0 h1 fun r a3 b3 c3 r1 r2 => ⟨.int r, rfl, ⟨r, rfl, r1, r2⟩, ⟨a3, b3, c3, getL hd2⟩, sm.trans (Same.set (by simp))⟩
  · obtain ⟨⟨a2, b2, c2, hd2⟩, sm⟩ := i2
    obtain ⟨ns, rfl, hn⟩ := ints_ex vs hg
    exact k ns h2 a2 b2 c2 (by simpa using hl) hn hd2 sm
def gAbs (q : Int) : LV → Option LV
  | .int y => some (.int ((y - q).natAbs : Int))
  | _ => none
theorem gAbs_map (q : Int) : ∀ ns : List Int, (ns.map LV.int).filterMap (gAbs q) = (ns.map fun y => ((y - q).natAbs : Int)).map .int
  | [] => rfl
  | x :: r => by
    rw [List.map_cons, List.filterMap_cons, List.map_cons, List.map_cons, ← gAbs_map q r]
    rfl
/-- what the law tells of the nearest stop -/
theorem near_law {q : Int} {x : Int} {r : List Int} {i : Nat} {y : Int} (ny : Near q (x :: r) i y) : opv .minR [.lst (((x :: r).map fun y => ((y - q).natAbs : Int)).map .int)] = some (.int ((y - q).natAbs : Int)) ∧
    opv .index [.lst (((x :: r).map fun y => ((y - q).natAbs : Int)).map .int), .int ((y - q).natAbs : Int)] = some (.int (i : Int)) ∧ opv .idx [.lst ((x :: r).map .int), .int (i : Int)] = some (.int y) := by
  obtain ⟨n1, n2, n3⟩ := ny
  refine ⟨?_, ?_, o_idx (by rw [List.getElem?_map, n1]; rfl)⟩
  · rw [show ∀ x, opv .minR [x] = ofInts minNs x from fun _ => rfl]
    unfold ofInts
    simp only [intsOf_map]
    show some (LV.int (minI ((x - q).natAbs : Int) (r.map fun y => ((y - q).natAbs : Int)))) = _
    obtain ⟨m1, m2⟩ := minI_ok (r.map fun y => ((y - q).natAbs : Int)) ((x - q).natAbs : Int)
    rw [← List.map_cons (f := fun y : Int => ((y - q).natAbs : Int))] at m1 m2
    congr 2
    obtain ⟨z, hz, e⟩ := List.mem_map.mp m1
    have h1 := n2 z hz
    have h2 := m2 _ (List.mem_map.mpr ⟨y, List.mem_iff_getElem?.mpr ⟨i, n1⟩, rfl⟩)
    rw [← e] at h2 ⊢
    omega
  · rw [show ∀ x y, opv .index [x, y] = indexV x y from fun _ _ => rfl]
    unfold indexV
    dsimp only
    rw [pdInts, if_pos (by rfl), index_first _ i 0 _ (by rw [List.getElem?_map, n1]; rfl) fun j hj e => ?_]
    · simp
    · rw [List.getElem?_map] at e
      obtain ⟨z, hz, e⟩ := Option.map_eq_some_iff.mp e
      exact n3 j z hj hz (by omega)
theorem rest_div {om q M : Int} (h0 : 0 ≤ om) (hp : 0 ≤ q ∧ q ≤ M) (hM : 0 < M) : 0 ≤ om * q / M ∧ om * q / M ≤ om := by
  refine ⟨Int.ediv_nonneg (Int.mul_nonneg h0 hp.1) (by omega), ?_⟩
  exact Int.ediv_le_of_le_mul hM (Int.mul_le_mul_of_nonneg_left hp.2 h0)
theorem clip_id {q w s : Int} (k : 0 ≤ q ∧ q ≤ most w s) : clip q w s = q := by unfold clip most at *; omega
def gAt (q : Int) : LV → Option LV
  | .tup [k, .tup [.int lo, .int hi]] => if lo ≤ q ∧ q < hi then some k else none
  | _ => none
@[simp] theorem tupne2 {x y z t : Int} : opv .ne [.tup [.int x, .int y], .tup [.int z, .int t]] = some (.bl (!(x == z && y == t))) := by
  rw [show ∀ x y, opv .ne [x, y] = neV x y from fun _ _ => rfl]
  simp [neV, LV.pd, LV.eqv, eqvs]
theorem c_rest (hd : h[d]? = some (DO a b c)) (hv : h[v]? = some (VO w s p)) (hp : Pl w s p) (hM : most w s ≤ 1000000) {q : Int}
    (k : ∀ h', Q (.bl true) h') : W ((orc prg (n + 7)).call 26 [.ref d, .ref v, .int (most w s), .int q] h) Q := by
  refine w_runS (F := d_law_rest) (σ := [.val (.ref d), .val (.ref v), .val (.int (most w s)), .val (.int q), .un, .un, .un, .un, .un, .un, .un, .un, .un, .un, .un, .un]) rfl rfl rfl ?_
  have hdv := dv hd hv
  -- another view
  refine s_op fun N' kN => ?_
  simp [sel, look, start, putF, List.lookup, isEnd, bmOk, toLO, ofLO, setv, natOf, itemsOf, augv, getL]
  refine c_roll hd (by decide) (by decide) fun w' a1 b1 c1 r1 r2 => ?_
  refine c_roll (getL hd) (by decide) (by decide) fun s' a2 b2 c2 q1 q2 => ?_
  try simp [sel, look, start, putF, List.lookup, isEnd, bmOk, toLO, ofLO, setv, natOf, itemsOf, augv, getL]
  have hd1 : (h.set d (DO a2 b2 c2))[d]? = some (DO a2 b2 c2) := getL hd
  have hv1 : (h.set d (DO a2 b2 c2))[v]? = some (VO w s p) := by rw [set_ne hdv]; exact hv
  have hlen : (h.set d (DO a2 b2 c2)).length = h.length := by simp
  generalize h.set d (DO a2 b2 c2) = h1 at *
  rw [← hlen]
  refine c_init get_new (by omega) (by omega) ?_
  rw [set_new]
  try simp [sel, look, start, putF, List.lookup, isEnd, bmOk, toLO, ofLO, setv, natOf, itemsOf, augv, getL]
  refine kN _ _ ?_
  have ho2 : (h1 ++ [VO w' (1 + s') 0])[h1.length]? = some (VO w' (1 + s') 0) := get_new
  have hd2 : (h1 ++ [VO w' (1 + s') 0])[d]? = some (DO a2 b2 c2) := get_app hd1
  have hv2 : (h1 ++ [VO w' (1 + s') 0])[v]? = some (VO w s p) := get_app hv1
  have ov : h1.length ≠ v := ne_new hv1
  clear kN N'
  generalize h1 ++ [VO w' (1 + s') 0] = h2 at *
  generalize h1.length = o at *
  have od : o ≠ d := ne_at ho2 hd2 (by simp)
  have hM0 := most_nn w s
  have hp' : 0 ≤ p ∧ p ≤ most w s := hp
  refine s_op fun N' kN => ?_
  simp [sel, look, start, putF, List.lookup, isEnd, bmOk, toLO, ofLO, setv, natOf, itemsOf, augv, getL]
  refine c_together hv2 ho2 hM (by omega) fun rt => ?_
  refine kN _ _ ?_
  have om0 := most_nn w' (1 + s')
  have omb : most w' (1 + s') ≤ 1000 := by unfold most; omega
  have epl : (if most w s = 0 then clip 0 w' (1 + s') else clip (most w' (1 + s') * p / most w s) w' (1 + s')) = if 0 < most w s then most w' (1 + s') * p / most w s else 0 := by
    by_cases z : most w s = 0
    · rw [if_pos z, if_neg (by omega)]
      exact clip_id (by omega)
    · rw [if_neg z, if_pos (by omega)]
      exact clip_id (rest_div om0 hp' (by omega))
  rw [epl]
  generalize hpl : (if 0 < most w s then most w' (1 + s') * p / most w s else 0) = pl at *
  have ho3 : (h2.set o (VO w' (1 + s') pl))[o]? = some (VO w' (1 + s') pl) := getL ho2
  have hd3 : (h2.set o (VO w' (1 + s') pl))[d]? = some (DO a2 b2 c2) := by rw [set_ne od]; exact hd2
  have hv3 : (h2.set o (VO w' (1 + s') pl))[v]? = some (VO w s p) := by rw [set_ne ov]; exact hv2
  clear kN N'
  generalize h2.set o (VO w' (1 + s') pl) = h3 at *
  refine s_ifV false h3 (fun Q k => ?_) ?_
  · simp [sel, look, start, putF, List.lookup, isEnd, bmOk, toLO, ofLO, setv, natOf, itemsOf, augv, getL, ho3]
    refine ⟨fun z => ?_, fun z => ?_⟩
    · refine c_mostM ho3 ?_
      rw [if_pos z] at hpl
      simp [sel, look, start, putF, List.lookup, isEnd, bmOk, toLO, ofLO, setv, natOf, itemsOf, augv, getL, hv3]
      refine ⟨.inl (by omega), ⟨by omega, by omega⟩, ?_⟩
      rw [fdivI z, hpl]
      simpa using k
    · rw [if_neg (by omega)] at hpl
      subst hpl
      simpa using k
  rw [if_neg (by decide), s_nil]
  -- stops
  refine s_op fun N' kN => ?_
  rw [s_asg, w_comp]
  simp [sel, look, start, putF, List.lookup, isEnd, bmOk, toLO, ofLO, setv, natOf, itemsOf, augv, getL]
  refine c_roll hd3 (by decide) (by decide) fun m a3 b3 c3 m1 m2 => ?_
  rw [view_int, o_add, ov_s, rng1 (by omega), ov_s]
  refine ⟨by rw [rangeL_len]; unfold SL; omega, ?_⟩
  refine c_rolls (getL hd3) (by decide) (by decide) rfl (by decide) fun ns h5 a4 b4 c4 hl hn hd5 sm5 => ?_
  refine kN _ _ ?_
  rw [rangeL_len] at hl
  clear kN N'
  match ns, hl, hn with
  | [], hl, _ => exact absurd hl (by simp; omega)
  | x :: r, hl, hn =>
  refine s_nmV (.lst (((x :: r).map fun y => ((y - q).natAbs : Int)).map .int)) h5 (fun Q k => ?_) ?_
  · rw [w_comp, w_of, w_var]
    refine ovI (x := .lst ((x :: r).map .int)) rfl ?_
    refine ovI (x := (x :: r).map .int) rfl ?_
    refine ⟨by rw [List.length_map, hl]; unfold SL; omega, ?_⟩
    refine w_mapP (g := gAbs q) (fun y hy Q k => ?_) ?_
    · obtain ⟨z, _, rfl⟩ := List.mem_map.mp hy
      unfold gAbs at k
      simp [sel, look, start, putF, List.lookup, isEnd, bmOk, toLO, ofLO, setv, natOf, itemsOf, augv, getL]
      exact k
    · rw [gAbs_map]
      exact k
  refine s_ifV false h5 (fun Q k => ?_) ?_
  · simp only [w_op, w_evA1, w_evA0, sel, w_call, w_evs1, w_evs0, w_var]
    refine ovI (x := .int q) rfl ?_
    refine ovI (x := .lst ((x :: r).map .int)) rfl ?_
    refine c_snap (by rw [hl]; omega) fun i y ny => ?_
    obtain ⟨l1, l2, l3⟩ := near_law ny
    generalize (x :: r).map LV.int = SS at *
    generalize ((x :: r).map fun y => ((y - q).natAbs : Int)).map LV.int = FF at *
    simp [sel, look, start, putF, List.lookup, isEnd, bmOk, toLO, ofLO, setv, natOf, itemsOf, augv, getL, l1, l2, l3]
    simpa using k
  rw [if_neg (by decide), s_nil]
  -- heads
  refine s_op fun N' kN => ?_
  rw [s_par, w_evs1, w_op, w_evA1]
  simp only [sel]
  rw [w_comp]
  simp [sel, look, start, putF, List.lookup, isEnd, bmOk, toLO, ofLO, setv, natOf, itemsOf, augv, getL]
  rw [rng1 (by decide), ov_s]
  refine ⟨by rw [rangeL_len]; decide, ?_⟩
  refine c_rolls hd5 (by decide) (by decide) rfl (by decide) fun n6 h6 a5 b5 c5 hl6 hn6 hd6 sm6 => ?_
  obtain ⟨e0, e1, e2, e3, e4, e5, he, i0, i1, i2, i3, i4⟩ := srt6 (ns := n6) (by rw [hl6, rangeL_len]; rfl)
  have hs : opv .srtI [.lst (n6.map .int)] = some (.lst [.int e0, .int e1, .int e2, .int e3, .int e4, .int e5]) := by
    rw [show ∀ x, opv .srtI [x] = srtIV x from fun _ => rfl]
    unfold srtIV
    dsimp only
    rw [intsOf_map, Option.map_some, he]
    rfl
  simp [sel, look, start, putF, List.lookup, isEnd, bmOk, toLO, ofLO, setv, natOf, itemsOf, augv, getL, hs]
  refine c_roll hd6 (by decide) (by decide) fun g a6 b6 c6 g1 g2 => ?_
  try simp [sel, look, start, putF, List.lookup, isEnd, bmOk, toLO, ofLO, setv, natOf, itemsOf, augv, getL]
  refine kN _ _ ?_
  clear kN N'
  generalize h6.set d (DO a6 b6 c6) = h7 at *
  refine s_nmV (.lst [P2 e0 e1, P2 e2 e3, P2 e4 e5]) h7 (fun Q k => ?_) ?_
  · have x0 : opv .idx [.lst [.int e0, .int e1, .int e2, .int e3, .int e4, .int e5], .int 0] = some (.int e0) := rfl
    have x1 : opv .idx [.lst [.int e0, .int e1, .int e2, .int e3, .int e4, .int e5], .int 1] = some (.int e1) := rfl
    have x2 : opv .idx [.lst [.int e0, .int e1, .int e2, .int e3, .int e4, .int e5], .int 2] = some (.int e2) := rfl
    have x3 : opv .idx [.lst [.int e0, .int e1, .int e2, .int e3, .int e4, .int e5], .int 3] = some (.int e3) := rfl
    have x4 : opv .idx [.lst [.int e0, .int e1, .int e2, .int e3, .int e4, .int e5], .int 4] = some (.int e4) := rfl
    have x5 : opv .idx [.lst [.int e0, .int e1, .int e2, .int e3, .int e4, .int e5], .int 5] = some (.int e5) := rfl
    simp [sel, look, start, putF, List.lookup, isEnd, bmOk, toLO, ofLO, setv, natOf, itemsOf, augv, getL, x0, x1, x2, x3, x4, x5, SL]
    exact k
  refine s_nmV (.lst ((enumL 0 [P2 e0 e1, P2 e2 e3, P2 e4 e5]).filterMap (gAt q))) h7 (fun Q k => ?_) ?_
  · rw [w_comp, w_enum, w_of, w_var]
    refine ovI (x := .lst [P2 e0 e1, P2 e2 e3, P2 e4 e5]) rfl ?_
    refine ovI (x := [P2 e0 e1, P2 e2 e3, P2 e4 e5]) rfl ?_
    refine ⟨by rw [enum_len]; exact (by decide : 3 ≤ 16777216), ?_⟩
    refine w_mapP (g := gAt q) (fun y hy Q k => ?_) k
    obtain ⟨i, lo, hi, rfl⟩ : ∃ (i : Nat) (lo hi : Int), y = .tup [.int (i : Int), P2 lo hi] := by
      simp only [enumL, List.mem_cons, List.not_mem_nil, or_false] at hy
      rcases hy with rfl | rfl | rfl
      · exact ⟨0, e0, e1, rfl⟩
      · exact ⟨1, e2, e3, rfl⟩
      · exact ⟨2, e4, e5, rfl⟩
    replace k : Q (if lo ≤ q ∧ q < hi then some (.int (i : Int)) else none) h7 := k
    simp [sel, look, start, putF, List.lookup, isEnd, bmOk, toLO, ofLO, setv, natOf, itemsOf, augv, getL]
    by_cases z : lo ≤ q
    · by_cases z2 : q < hi
      · rw [if_pos ⟨z, z2⟩] at k
        exact ⟨fun _ => ⟨fun _ => k, fun z => by omega⟩, fun z => by omega⟩
      · rw [if_neg (fun z => z2 z.2)] at k
        exact ⟨fun _ => ⟨fun z => absurd z z2, fun _ => k⟩, fun z => by omega⟩
    · rw [if_neg (fun y => z y.1)] at k
      exact ⟨fun z2 => absurd z2 z, fun _ => k⟩
  refine s_ifV false h7 (fun Q k => ?_) ?_
  · simp only [w_op, w_evA1, w_evA0, sel, w_call, w_evs1, w_evs0, w_var]
    refine ovI (x := .lst [P2 e0 e1, P2 e2 e3, P2 e4 e5]) rfl ?_
    refine ovI (x := .int q) rfl ?_
    refine ovI (x := .int g) rfl ?_
    refine c_sticky i0 i1 i2 i3 i4 g1 ?_
    have ne0 : opv .ne [.lst [], .lst []] = some (.bl false) := rfl
    have ne1 : ∀ x : Int, opv .ne [.lst [.int x], .lst []] = some (.bl true) := fun _ => rfl
    have ne2 : ∀ x y : Int, opv .ne [.lst [.int x, .int y], .lst []] = some (.bl true) := fun _ _ => rfl
    have ne3 : ∀ x y z : Int, opv .ne [.lst [.int x, .int y, .int z], .lst []] = some (.bl true) := fun _ _ _ => rfl
    unfold stick
    by_cases c0 : e0 ≤ q ∧ q < e1
    · by_cases c1 : e2 ≤ q ∧ q < e3
      · by_cases c2 : e4 ≤ q ∧ q < e5
        · simp [sel, look, start, putF, List.lookup, isEnd, bmOk, toLO, ofLO, setv, natOf, itemsOf, augv, getL, enumL, gAt, c0, c1, c2, ne0, ne1, ne2, ne3]; exact k
        · simp [sel, look, start, putF, List.lookup, isEnd, bmOk, toLO, ofLO, setv, natOf, itemsOf, augv, getL, enumL, gAt, c0, c1, c2, ne0, ne1, ne2, ne3]; exact k
      · by_cases c2 : e4 ≤ q ∧ q < e5
        · simp [sel, look, start, putF, List.lookup, isEnd, bmOk, toLO, ofLO, setv, natOf, itemsOf, augv, getL, enumL, gAt, c0, c1, c2, ne0, ne1, ne2, ne3]; exact k
        · simp [sel, look, start, putF, List.lookup, isEnd, bmOk, toLO, ofLO, setv, natOf, itemsOf, augv, getL, enumL, gAt, c0, c1, c2, ne0, ne1, ne2, ne3]; exact k
    · by_cases c1 : e2 ≤ q ∧ q < e3
      · by_cases c2 : e4 ≤ q ∧ q < e5
        · simp [sel, look, start, putF, List.lookup, isEnd, bmOk, toLO, ofLO, setv, natOf, itemsOf, augv, getL, enumL, gAt, c0, c1, c2, ne0, ne1, ne2, ne3]; exact k
        · simp [sel, look, start, putF, List.lookup, isEnd, bmOk, toLO, ofLO, setv, natOf, itemsOf, augv, getL, enumL, gAt, c0, c1, c2, ne0, ne1, ne2, ne3]; exact k
      · by_cases c2 : e4 ≤ q ∧ q < e5
        · simp [sel, look, start, putF, List.lookup, isEnd, bmOk, toLO, ofLO, setv, natOf, itemsOf, augv, getL, enumL, gAt, c0, c1, c2, ne0, ne1, ne2, ne3]; exact k
        · simp [sel, look, start, putF, List.lookup, isEnd, bmOk, toLO, ofLO, setv, natOf, itemsOf, augv, getL, enumL, gAt, c0, c1, c2, ne0, ne1, ne2, ne3]; exact k
  rw [if_neg (by decide), s_nil]
  simp [sel, look, start, putF, List.lookup, isEnd, bmOk, toLO, ofLO, setv, natOf, itemsOf, augv, getL]
  exact k h7
end
end K11
end
section
set_option maxRecDepth 100000
set_option maxHeartbeats 4000000
namespace K11
open Ev Wp
section
variable {n : Nat} {h : Hp} {v d : Nat} {w s p a b c : Int} {Q : LV → Hp → Prop}
/-! ### where the law shows a stretch -/
def goalB (s f e : Int) (g : Nat) : Bool := decide ((g : Int) ≤ f) && decide (e ≤ (g : Int) + s)
def goals (M s f e p : Int) : List (Int × Int) := ((List.range (M + 1).toNat).filter (goalB s f e)).map fun (g : Nat) => ((((g : Int) - p).natAbs : Int), (g : Int))
theorem goals_len (s f e : Int) : ∀ m : Nat, (((List.range m).filter (goalB s f e)).length : Int) ≤ max 0 (min (m : Int) (f + 1) - (e - s))
  | 0 => by simp; omega
  | m + 1 => by
    have ih := goals_len s f e m
    rw [List.range_succ, List.filter_append, List.length_append]
    by_cases q : goalB s f e m = true
    · rw [List.filter_cons_of_pos q]
      simp only [goalB, Bool.and_eq_true, decide_eq_true_eq] at q
      simp only [List.filter_nil, List.length_cons, List.length_nil]
      omega
    · rw [List.filter_cons_of_neg q]
      simp only [List.filter_nil, List.length_nil]
      omega
theorem goals_mem {M s f e p : Int} {x : Int × Int} : x ∈ goals M s f e p ↔ x.1 = ((x.2 - p).natAbs : Int) ∧ 0 ≤ x.2 ∧ x.2 < M + 1 ∧ x.2 ≤ f ∧ e ≤ x.2 + s := by
  obtain ⟨x1, x2⟩ := x
  unfold goals
  simp only [List.mem_map, List.mem_filter, List.mem_range, goalB, Bool.and_eq_true, decide_eq_true_eq, Prod.mk.injEq]
  constructor
  · rintro ⟨g, ⟨h1, h2, h3⟩, rfl, rfl⟩
    omega
  · rintro ⟨h1, h2, h3, h4, h5⟩
    exact ⟨x2.toNat, ⟨by omega, by omega, by omega⟩, by rw [h1]; congr 2; omega, by omega⟩
/-- the head is the least -/
theorem srtPs_hd : ∀ r : List (Int × Int), r ≠ [] → ∃ m t, srtPs r = m :: t ∧ m ∈ r ∧ ∀ x ∈ r, keyP m ≤ keyP x
  | [], hr => absurd rfl hr
  | x :: r, _ => by
    unfold srtPs
    by_cases q : r = []
    · subst q
      exact ⟨x, [], rfl, List.mem_cons_self, fun y hy => by
        rcases List.mem_cons.mp hy with rfl | hy
        · omega
        · cases hy⟩
    · obtain ⟨m, t, e, hm, hl⟩ := srtPs_hd r q
      rw [e]
      unfold insP
      split
      · rename_i hx
        exact ⟨x, m :: t, rfl, List.mem_cons_self, fun y hy => by
          rcases List.mem_cons.mp hy with rfl | hy
          · omega
          · have := hl y hy; omega⟩
      · rename_i hx
        exact ⟨m, _, rfl, List.mem_cons_of_mem _ hm, fun y hy => by
          rcases List.mem_cons.mp hy with rfl | hy
          · omega
          · exact hl y hy⟩
theorem srtPs_nil : ∀ r : List (Int × Int), srtPs r = [] → r = []
  | [], _ => rfl
  | x :: r, e => by
    obtain ⟨m, t, e2, _⟩ := srtPs_hd (x :: r) (by simp)
    rw [e2] at e
    cases e
theorem pairsOf_map : ∀ ps : List (Int × Int), pairsOf (ps.map pairL) = some ps
  | [] => rfl
  | (a, b) :: r => by
    rw [List.map_cons]
    show (pairsOf (r.map pairL)).map ((a, b) :: ·) = _
    rw [pairsOf_map r]
    rfl
theorem pdPairs : ∀ ps : List (Int × Int), (ps.map pairL).all (LV.pd 59) = true
  | [] => rfl
  | x :: r => by rw [List.map_cons, List.all_cons, pdPairs r]; rfl
theorem near_is {M p w s f e : Int} (hM : M = most w s) (hp : Pl w s p) (hf : 0 ≤ f) (hM2 : M < 100000) (hf2 : f < 100000) {m : Int × Int} (hm : m ∈ goals M s f e p) (hl : ∀ x ∈ goals M s f e p, keyP m ≤ keyP x) : m.2 = near p w s f e := by
  obtain ⟨g1, g2⟩ := m
  obtain ⟨m1, m2, m3, m4, m5⟩ := goals_mem.mp hm
  dsimp only at m1 m2 m3 m4 m5 ⊢
  have hp' : 0 ≤ p ∧ p ≤ most w s := hp
  rw [← hM] at hp'
  have key : ∀ x : Int, 0 ≤ x → x < M + 1 → x ≤ f → e ≤ x + s → ((g2 - p).natAbs : Int) * 1073741824 + g2 ≤ ((x - p).natAbs : Int) * 1073741824 + x := fun x h1 h2 h3 h4 => by
    have := hl ((((x - p).natAbs : Int)), x) (goals_mem.mpr ⟨rfl, h1, h2, h3, h4⟩)
    simp only [keyP, PB, m1] at this
    exact this
  unfold near clip
  have hm' : max 0 (w - s) = M := by rw [hM]; rfl
  rw [hm']
  split
  · rename_i c1
    have c2 : f < p := by omega
    have := key f hf (by omega) (by omega) (by omega)
    omega
  · split
    · rename_i c1 c2
      have := key (e - s) (by omega) (by omega) (by omega) (by omega)
      omega
    · rename_i c1 c2
      have := key p (by omega) (by omega) (by omega) (by omega)
      omega
def gGoal (s f e p : Int) : LV → Option LV
  | .int g => if g ≤ f ∧ e ≤ g + s then some (.tup [.int ((g - p).natAbs : Int), .int g]) else none
  | _ => none
theorem goals_map (M s f e p : Int) : (rangeL 0 (M + 1)).filterMap (gGoal s f e p) = (goals M s f e p).map pairL := by
  unfold rangeL goals
  rw [Int.sub_zero]
  induction List.range (M + 1).toNat with
  | nil => rfl
  | cons g r ih =>
    rw [List.map_cons, List.filterMap_cons, ih]
    have e0 : (0 : Int) + (g : Int) = g := by omega
    rw [e0]
    by_cases q : (g : Int) ≤ f ∧ e ≤ (g : Int) + s
    · rw [List.filter_cons_of_pos (by simpa [goalB] using q)]
      have : gGoal s f e p (.int (g : Int)) = some (.tup [.int (((g : Int) - p).natAbs : Int), .int (g : Int)]) := if_pos q
      rw [this]
      rfl
    · rw [List.filter_cons_of_neg (by simpa [goalB] using q)]
      have : gGoal s f e p (.int (g : Int)) = none := if_neg q
      rw [this]
theorem neNil {ps : List (Int × Int)} : opv .ne [.lst (ps.map pairL), .lst []] = some (.bl (!ps.isEmpty)) := by
  rw [show ∀ x y, opv .ne [x, y] = neV x y from fun _ _ => rfl]
  unfold neV
  rw [if_pos (by rw [show LV.pd 60 (.lst (ps.map pairL)) = (ps.map pairL).all (LV.pd 59) from rfl, pdPairs]; rfl)]
  cases ps <;> rfl
theorem c_lshowN (hp : Pl w s p) (hw : most w s < 100000) (hs : 0 ≤ s ∧ s ≤ 30) {f e : Int} (hf : 0 ≤ f ∧ f < 100000) (hfe : f ≤ e) (k : Q (.int (near p w s f e)) h) : W ((orc prg (n + 2)).call 24 [.int p, .int w, .int s, .int f, .int e, .str sNear] h) Q := by
  refine w_runS (F := d_law_show) (σ := [.val (.int p), .val (.int w), .val (.int s), .val (.int f), .val (.int e), .val (.str sNear), .un, .un]) rfl rfl rfl ?_
  refine s_ifV true h (fun Q k => ?_) ?_
  · simp [sel, look, start, putF, List.lookup, isEnd, bmOk, toLO, ofLO, setv, natOf, itemsOf, augv, getL]
    exact k
  rw [if_pos rfl]
  obtain ⟨M, hM⟩ : ∃ M, M = most w s := ⟨_, rfl⟩
  have hM0 : 0 ≤ M := by rw [hM]; exact most_nn w s
  refine s_nmV (.lst ((srtPs (goals M s f e p)).map pairL)) h (fun Q k => ?_) ?_
  · rw [w_op, w_evA1]
    simp only [sel]
    rw [w_comp]
    simp only [w_range, w_evA1, w_evA0, w_op, sel, w_cst, w_var]
    simp [sel, look, start, putF, List.lookup, isEnd, bmOk, toLO, ofLO, setv, natOf, itemsOf, augv, getL]
    have hm' : max 0 (w - s) = M := by rw [hM]; rfl
    rw [hm', rng2 (by omega), ov_s]
    refine ⟨by rw [rangeL_len]; unfold SL; omega, ?_⟩
    refine w_mapP (g := gGoal s f e p) (fun y hy Q k => ?_) ?_
    · obtain ⟨i, _, rfl⟩ := List.mem_map.mp hy
      generalize (0 : Int) + (i : Int) = g at *
      replace k : Q (if g ≤ f ∧ e ≤ g + s then some (.tup [.int ((g - p).natAbs : Int), .int g]) else none) h := k
      simp [sel, look, start, putF, List.lookup, isEnd, bmOk, toLO, ofLO, setv, natOf, itemsOf, augv, getL]
      by_cases z : g ≤ f
      · by_cases z2 : e ≤ g + s
        · rw [if_pos ⟨z, z2⟩] at k
          exact ⟨fun _ => ⟨fun _ => k, fun z => by omega⟩, fun z => by omega⟩
        · rw [if_neg (fun z => z2 z.2)] at k
          exact ⟨fun _ => ⟨fun z => absurd z z2, fun _ => k⟩, fun z => by omega⟩
      · rw [if_neg (fun y => z y.1)] at k
        exact ⟨fun z2 => absurd z2 z, fun _ => k⟩
    · rw [goals_map]
      have hlen : (goals M s f e p).length < 64 := by
        have := goals_len s f e (M + 1).toNat
        unfold goals
        rw [List.length_map]
        omega
      have hall : (goals M s f e p).all inP = true := List.all_eq_true.mpr fun x hx => by
        obtain ⟨m1, m2, m3, m4, m5⟩ := goals_mem.mp hx
        have hp' : 0 ≤ p ∧ p ≤ most w s := hp
        rw [← hM] at hp'
        obtain ⟨x1, x2⟩ := x
        dsimp only at m1 m2 m3 m4 m5
        have mb : (x2 - p).natAbs ≤ 200000 := by omega
        have mc : x2 ≤ 200000 := by omega
        have n1 : 0 ≤ x1 := by omega
        have n2 : x1 < 1073741824 := by omega
        have n3 : x2 < 1073741824 := by omega
        show (decide (0 ≤ x1) && decide (x1 < 1073741824) && decide (0 ≤ x2) && decide (x2 < 1073741824)) = true
        rw [decide_eq_true n1, decide_eq_true n2, decide_eq_true m2, decide_eq_true n3]
        rfl
      have hs : opv .srtP [.lst ((goals M s f e p).map pairL)] = some (.lst ((srtPs (goals M s f e p)).map pairL)) := by
        rw [show ∀ x, opv .srtP [x] = srtPV x from fun _ => rfl]
        unfold srtPV
        dsimp only
        rw [pairsOf_map]
        dsimp only
        rw [if_pos (by rw [hall, Bool.and_true]; exact decide_eq_true hlen)]
      generalize (goals M s f e p).map pairL = G at *
      simp [sel, look, start, putF, List.lookup, isEnd, bmOk, toLO, ofLO, setv, natOf, itemsOf, augv, getL, hs]
      exact k
  by_cases q : goals M s f e p = []
  · rw [q]
    refine s_ifV false h (fun Q k => ?_) ?_
    · simp [sel, look, start, putF, List.lookup, isEnd, bmOk, toLO, ofLO, setv, natOf, itemsOf, augv, getL, srtPs]
      exact k
    rw [if_neg (by decide), s_nil]
    refine s_nmV (.int (if f < p ∨ s < e - f then f else if p + s < e then e - s else p)) h (fun Q k => ?_) ?_
    · simp [sel, look, start, putF, List.lookup, isEnd, bmOk, toLO, ofLO, setv, natOf, itemsOf, augv, getL]
      by_cases c1 : f < p
      · rw [if_pos (.inl c1)] at k
        exact ⟨fun _ => k, fun z => by omega⟩
      · refine ⟨fun z => absurd z c1, fun _ => ⟨fun z => ?_, fun z => ?_⟩⟩
        · rw [if_pos (.inr z)] at k
          exact k
        · rw [if_neg (by omega)] at k
          by_cases c3 : p + s < e
          · rw [if_pos c3] at k
            exact ⟨fun _ => k, fun z => by omega⟩
          · rw [if_neg c3] at k
            exact ⟨fun z => absurd z c3, fun _ => k⟩
    have en : near p w s f e = clip (if f < p ∨ s < e - f then f else if p + s < e then e - s else p) w s := by
      unfold near
      split
      · rfl
      · split
        · rfl
        · exact (clip_id hp).symm
    rw [en] at k
    simp [sel, look, start, putF, List.lookup, isEnd, bmOk, toLO, ofLO, setv, natOf, itemsOf, augv, getL]
    exact c_clip k
  · obtain ⟨m, t, e1, hm, hl⟩ := srtPs_hd _ q
    have hn := near_is hM hp hf.1 (by omega) hf.2 hm hl
    rw [e1]
    obtain ⟨m1, m2⟩ := m
    dsimp only at hn
    subst hn
    refine s_ifV true h (fun Q k => ?_) ?_
    · simp only [w_op, w_evA1, w_evA0, sel, w_var]
      try refine ovI (x := .lst ((((m1, near p w s f e)) :: t).map pairL)) rfl ?_
      try rw [w_lst, w_evs0, w_evA0]
      show OV (opv .ne [.lst (((m1, near p w s f e) :: t).map pairL), .lst []]) _
      refine ovI (neNil (ps := (m1, near p w s f e) :: t)) ?_
      exact k
    rw [if_pos rfl]
    have ei : ∀ (x : LV) (l : List LV), opv .idx [.lst (x :: l), .int 0] = some x := fun _ _ => o_idxL
    generalize near p w s f e = g at *
    simp [sel, look, start, putF, List.lookup, isEnd, bmOk, toLO, ofLO, setv, natOf, itemsOf, augv, getL, pairL]
    exact k
theorem okKey_s {s : List Nat} {kvs : List (LV × LV)} : okKey (.str s) kvs = true := rfl
theorem c_lshowX {f e g : Int} {how : List Nat} (hh : how = sFirst ∧ g = f ∨ how = sLast ∧ g = e - s ∨ how = sMiddle ∧ g = (f + e - s) / 2) (k : Q (.int (clip g w s)) h) : W ((orc prg (n + 2)).call 24 [.int p, .int w, .int s, .int f, .int e, .str how] h) Q := by
  refine w_runS (F := d_law_show) (σ := [.val (.int p), .val (.int w), .val (.int s), .val (.int f), .val (.int e), .val (.str how), .un, .un]) rfl rfl rfl ?_
  refine s_ifV false h (fun Q k => ?_) ?_
  · have hq : ¬ how = sNear := by rcases hh with ⟨rfl, _⟩ | ⟨rfl, _⟩ | ⟨rfl, _⟩ <;> decide
    simp [sel, look, start, putF, List.lookup, isEnd, bmOk, toLO, ofLO, setv, natOf, itemsOf, augv, getL]
    simpa [hq] using k
  rw [if_neg (by decide), s_nil]
  have d1 : ∀ x : LV, dput (.str sFirst) x [] = [(.str sFirst, x)] := fun _ => rfl
  have d2 : ∀ x y : LV, dput (.str sLast) y [(.str sFirst, x)] = [(.str sFirst, x), (.str sLast, y)] := fun _ _ => rfl
  have d3 : ∀ x y z : LV, dput (.str sMiddle) z [(.str sFirst, x), (.str sLast, y)] = [(.str sFirst, x), (.str sLast, y), (.str sMiddle, z)] := fun _ _ _ => rfl
  have i1 : ∀ x y z : LV, opv .idx [.dct [(.str sFirst, x), (.str sLast, y), (.str sMiddle, z)], .str sFirst] = some x := fun _ _ _ => rfl
  have i2 : ∀ x y z : LV, opv .idx [.dct [(.str sFirst, x), (.str sLast, y), (.str sMiddle, z)], .str sLast] = some y := fun _ _ _ => rfl
  have i3 : ∀ x y z : LV, opv .idx [.dct [(.str sFirst, x), (.str sLast, y), (.str sMiddle, z)], .str sMiddle] = some z := fun _ _ _ => rfl
  rcases hh with ⟨rfl, rfl⟩ | ⟨rfl, rfl⟩ | ⟨rfl, rfl⟩
  · simp [sel, look, start, putF, List.lookup, isEnd, bmOk, toLO, ofLO, setv, natOf, itemsOf, augv, getL, okKey_s, d1, d2, d3, i1, i2, i3]
    exact c_clip k
  · simp [sel, look, start, putF, List.lookup, isEnd, bmOk, toLO, ofLO, setv, natOf, itemsOf, augv, getL, okKey_s, d1, d2, d3, i1, i2, i3]
    exact c_clip k
  · simp [sel, look, start, putF, List.lookup, isEnd, bmOk, toLO, ofLO, setv, natOf, itemsOf, augv, getL, okKey_s, d1, d2, d3, i1, i2, i3]
    rw [fdivI (by decide)]
    exact c_clip k
/-! ### the first cell -/
theorem c_dice {q : Int} (k : ∀ a b c, Q (.ref h.length) (h ++ [DO a b c])) : W ((orc prg (n + 1)).call 19 [.int q] h) Q := by
  refine w_runS (F := d_law_dice) (σ := [.val (.int q)]) rfl rfl rfl ?_
  have hp : opv .pow [.int 10, .int 18] = some (.int (10 ^ 18)) := rfl
  simp [sel, look, start, putF, List.lookup, isEnd, bmOk, toLO, ofLO, setv, natOf, itemsOf, augv, getL, d_law_dice, b_law_dice, hp]
  refine ⟨fun _ => ⟨fun _ => k _ _ _, fun _ => k _ _ _⟩, fun _ => k _ _ _⟩
theorem c_rounds {ns : List Int} (k : ∀ a b c, Q (.lst [.ref h.length]) (h ++ [DO a b c])) : W ((orc prg (n + 2)).call 21 [.rol (ns.map .int), .int 1] h) Q := by
  refine w_runS (F := d_law_rounds) (σ := [.val (.rol (ns.map .int)), .val (.int 1), .un, .un]) rfl rfl rfl ?_
  have eqL0 : opv .eq [.lst [], .lst []] = some (.bl true) := rfl
  have eqL1 : ∀ x : Int, opv .eq [.lst [.int x], .lst []] = some (.bl false) := fun _ => rfl
  cases ns with
  | nil =>
    have sl : slcV (.rol []) .non (.int 1) = some (.lst []) := rfl
    simp [sel, look, start, putF, List.lookup, isEnd, bmOk, toLO, ofLO, setv, natOf, itemsOf, augv, getL, d_law_rounds, b_law_rounds, sl, eqL0, SL]
    refine c_dice fun a b c => ?_
    exact k a b c
  | cons x r =>
    have sl : slcV (.rol (.int x :: r.map .int)) .non (.int 1) = some (.lst [.int x]) := rfl
    simp [sel, look, start, putF, List.lookup, isEnd, bmOk, toLO, ofLO, setv, natOf, itemsOf, augv, getL, d_law_rounds, b_law_rounds, sl, eqL1, SL]
    refine c_dice fun a b c => ?_
    exact k a b c
end
end K11
end
section
set_option maxRecDepth 100000
set_option maxHeartbeats 4000000
namespace K11
open Ev Wp
section
variable {n : Nat} {h : Hp} {v d : Nat} {w s p a b c : Int} {Q : LV → Hp → Prop}
/-! ### the thumb and back -/
def thTo (w s q t l : Int) : Int := if t - thL w s t l ≤ 0 ∨ most w s = 0 then clip 0 w s else clip ((max 0 (min (t - thL w s t l) q) * most w s + (t - thL w s t l) - 1) / (t - thL w s t l)) w s
theorem thL_ok {t l : Int} (hs : 1 ≤ s) (hw : 0 ≤ w) (hl : 0 ≤ l ∧ l ≤ t) : 0 ≤ thL w s t l ∧ thL w s t l ≤ t ∧ (most w s = 0 → thL w s t l = t) := by
  unfold thL
  split
  · omega
  · rename_i hM
    have hws : s < w := by unfold most at hM; omega
    have h1 : 0 ≤ t * s / w := Int.ediv_nonneg (Int.mul_nonneg (by omega) (by omega)) hw
    have h2 : t * s / w ≤ t := Int.ediv_le_of_le_mul (by omega) (Int.mul_le_mul_of_nonneg_left (by omega) (by omega))
    omega
theorem c_thumbto (hv : h[v]? = some (VO w s p)) {q t l : Int} (hw : 0 ≤ w ∧ w ≤ 1000000) (hs : 1 ≤ s ∧ s ≤ 1000000) (hp : 0 ≤ p ∧ p ≤ 1000000) (hl : 0 ≤ l ∧ l ≤ t) (ht : t < 1000000) (k : Q (.int (thTo w s q t l - p)) (h.set v (VO w s (thTo w s q t l)))) : W ((orc prg (n + 3)).call 9 [.ref v, .int q, .int t, .int l] h) Q := by
  refine w_runS (F := d_View_thumb_to) (σ := [.val (.ref v), .val (.int q), .val (.int t), .val (.int l), .un, .un]) rfl rfl rfl ?_
  obtain ⟨t1, t2, t3⟩ := thL_ok hs.1 hw.1 hl
  refine s_nmV (.int (thL w s t l)) h (fun Q k => ?_) ?_
  · simp [sel, look, start, putF, List.lookup, isEnd, bmOk, toLO, ofLO, setv, natOf, itemsOf, augv, getL, hv]
    refine c_thumb hv hw hs hp hl ht ?_
    simp [sel, look, start, putF, List.lookup, isEnd, bmOk, toLO, ofLO, setv, natOf, itemsOf, augv, getL]
    exact k
  unfold thTo at k
  generalize thL w s t l = L at *
  refine s_nmV (.int (t - L)) h (fun Q k => by simp [sel, look, start, putF, List.lookup, isEnd, bmOk, toLO, ofLO, setv, natOf, itemsOf, augv, getL]; exact k) ?_
  have hM0 := most_nn w s
  have hM1 : most w s ≤ 1000000 := by unfold most; omega
  refine s_ifV (decide (t - L ≤ 0 ∨ most w s = 0)) h (fun Q k => ?_) ?_
  · simp [sel, look, start, putF, List.lookup, isEnd, bmOk, toLO, ofLO, setv, natOf, itemsOf, augv, getL, hv]
    by_cases z : t - L ≤ 0
    · refine ⟨fun _ => ?_, fun z2 => by omega⟩
      rw [decide_eq_true (Or.inl z)] at k
      exact k
    · refine ⟨fun z2 => by omega, fun _ => ?_⟩
      refine c_mostM hv ?_
      have e : decide (t - L ≤ 0 ∨ most w s = 0) = decide (most w s = 0) := by simp [z]
      rw [e] at k
      simp [sel, look, start, putF, List.lookup, isEnd, bmOk, toLO, ofLO, setv, natOf, itemsOf, augv, getL]
      exact k
  by_cases z : t - L ≤ 0 ∨ most w s = 0
  · rw [if_pos z] at k
    rw [decide_eq_true z, if_pos rfl]
    simp [sel, look, start, putF, List.lookup, isEnd, bmOk, toLO, ofLO, setv, natOf, itemsOf, augv, getL, hv]
    exact c_go hv k
  · rw [if_neg z] at k
    rw [decide_eq_false z, if_neg (by decide), s_nil]
    refine s_nmV (.int (max 0 (min (t - L) q))) h (fun Q k => by simp [sel, look, start, putF, List.lookup, isEnd, bmOk, toLO, ofLO, setv, natOf, itemsOf, augv, getL]; exact k) ?_
    generalize hx : max 0 (min (t - L) q) = x at *
    simp [sel, look, start, putF, List.lookup, isEnd, bmOk, toLO, ofLO, setv, natOf, itemsOf, augv, getL, hv]
    refine c_mostM hv ?_
    simp [sel, look, start, putF, List.lookup, isEnd, bmOk, toLO, ofLO, setv, natOf, itemsOf, augv, getL, hv]
    refine ⟨.inr (by omega), ⟨by omega, by omega⟩, ?_⟩
    rw [fdivI (by omega)]
    exact c_go hv k
/-- there and back -/
theorem thumb_back {w s p t l : Int} (hs : 1 ≤ s) (hw : 0 ≤ w) (hl : 0 ≤ l ∧ l ≤ t) (hp : Pl w s p) (h1 : t ≤ most w s) (h2 : thL w s t l < t) : thP w s (thTo w s (thP w s p t l) t l) t l = thP w s p t l := by
  obtain ⟨t1, t2, t3⟩ := thL_ok hs hw hl
  have hM0 := most_nn w s
  have hp' : 0 ≤ p ∧ p ≤ most w s := hp
  by_cases hz : most w s = 0
  · omega
  · have hM : 0 < most w s := by omega
    have hr : 0 < t - thL w s t l := by omega
    have hrM : t - thL w s t l ≤ most w s := by omega
    unfold thP
    rw [if_neg hz, if_neg hz]
    obtain ⟨x0, x1⟩ := rest_div (om := t - thL w s t l) (by omega) hp' hM
    unfold thTo
    rw [if_neg (by omega)]
    generalize (t - thL w s t l) * p / most w s = x at *
    rw [show max 0 (min (t - thL w s t l) x) = x from by omega]
    generalize t - thL w s t l = r at *
    have hcl : clip ((x * most w s + r - 1) / r) w s = (x * most w s + r - 1) / r := by
      refine clip_id ⟨Int.ediv_nonneg ?_ (by omega), ?_⟩
      · have : 0 ≤ x * most w s := Int.mul_nonneg x0 hM0
        omega
      · have h3 : x * most w s ≤ r * most w s := Int.mul_le_mul_of_nonneg_right x1 hM0
        have h4 : (x * most w s + r - 1) / r < most w s + 1 := by
          refine Int.ediv_lt_of_lt_mul hr ?_
          have : (most w s + 1) * r = r * most w s + r := by rw [Int.add_mul, Int.one_mul, Int.mul_comm]
          omega
        omega
    rw [hcl]
    generalize hG : (x * most w s + r - 1) / r = G at *
    have g1 : r * G ≤ x * most w s + r - 1 := by rw [← hG]; exact Int.mul_ediv_self_le (by omega)
    have g2 : x * most w s ≤ r * G := by
      have := Int.lt_mul_ediv_self_add (x := x * most w s + r - 1) hr
      rw [hG] at this
      omega
    have e1 : r * G / most w s = x := by
      refine Int.le_antisymm ?_ ?_
      · have : r * G / most w s < x + 1 := by
          refine Int.ediv_lt_of_lt_mul hM ?_
          rw [Int.add_mul, Int.one_mul]
          omega
        omega
      · exact (Int.le_ediv_iff_mul_le hM).mpr g2
    exact e1
end
end K11
end
section
set_option maxRecDepth 100000
set_option maxHeartbeats 4000000
namespace K11
open Ev Wp
def nth : CSs → Nat → CS
  | .cons s _, 0 => s
  | .cons _ r, k + 1 => nth r k
  | .nil, _ => .pass
def bodyF : CS → CSs
  | .for _ _ b => b
  | _ => .nil
def thenF : CS → CSs
  | .ife _ a _ => a
  | _ => .nil
def elseF : CS → CSs
  | .ife _ _ b => b
  | _ => .nil
/-- the turns of the law: the chain of deeds, its branches -/
abbrev B1 : CSs := bodyF (nth b_law 0)
abbrev B2 : CSs := bodyF (nth B1 2)
def ch0 : CS := nth B2 1
def ch1 : CS := nth (elseF ch0) 0
def ch2 : CS := nth (elseF ch1) 0
def ch3 : CS := nth (elseF ch2) 0
def ch4 : CS := nth (elseF ch3) 0
def ch5 : CS := nth (elseF ch4) 0
section
variable {n : Nat} {h : Hp} {v d : Nat} {W0 S0 p a b c : Int} {N B C : Env → Hp → Prop} {T : LV → Hp → Prop}
/-- what a deed leaves -/
def Deed (d v : Nat) (W0 p so : Int) (s0 : Slot) (N : Env → Hp → Prop) : Prop := ∀ (h' : Hp) (W' S' G a b c : Int) (t : LV) (s3 s4 s5 s6 s7 s12 s13 s16 s17 s18 s19 s20 s21 : Slot),
  0 ≤ W' → W' ≤ max (W0 + 10) 80 → 1 ≤ S' → S' ≤ 30 → Pl W' S' G → (so = 4 ∨ so = 5 ∨ t = .int (G - p)) → h'[d]? = some (DO a b c) → h'[v]? = some (VO W' S' G) →
  N [s0, .val (.ref d), .val (.ref v), s3, s4, s5, s6, s7, .val (.int W'), .val (.int S'), .val (.int p), .val (.int so), s12, s13, .val (.int G), .val t, s16, s17, s18, s19, s20, s21] h'
section
variable {s0 s3 s4 s5 s6 s7 s13 s14 s15 s16 s17 s18 s19 s20 s21 : Slot} {fr : Int}
abbrev env (s0 s3 s4 s5 s6 s7 s13 s14 s15 s16 s17 s18 s19 s20 s21 : Slot) (d v : Nat) (W0 S0 p so fr : Int) : Env := [s0, .val (.ref d), .val (.ref v), s3, s4, s5, s6, s7, .val (.int W0), .val (.int S0), .val (.int p), .val (.int so), .val (.int fr), s13, s14, s15, s16, s17, s18, s19, s20, s21]
variable (hd : h[d]? = some (DO a b c)) (hv : h[v]? = some (VO W0 S0 p)) (hW : 0 ≤ W0 ∧ W0 ≤ 300) (hS : 1 ≤ S0 ∧ S0 ≤ 30) (hp : Pl W0 S0 p) (hfr : -30 ≤ fr ∧ fr < 60)
include hd hv hW hS hp hfr
theorem deed0 (k : Deed d v W0 p 0 s0 N) : S (exs prg (orc prg (n + 6)) (thenF ch0) (env s0 s3 s4 s5 s6 s7 s13 s14 s15 s16 s17 s18 s19 s20 s21 d v W0 S0 p 0 fr) h) N T B C := by
  have hdv := dv hd hv
  refine s_op fun N' kN => ?_
  simp [sel, look, start, putF, List.lookup, isEnd, bmOk, toLO, ofLO, setv, natOf, itemsOf, augv, getL]
  refine c_clip ?_
  simp [sel, look, start, putF, List.lookup, isEnd, bmOk, toLO, ofLO, setv, natOf, itemsOf, augv, getL, hv]
  refine c_go hv ?_
  try simp [sel, look, start, putF, List.lookup, isEnd, bmOk, toLO, ofLO, setv, natOf, itemsOf, augv, getL]
  refine kN _ _ ?_
  rw [s_nil]
  exact k _ W0 S0 (clip fr W0 S0) a b c _ _ _ _ _ _ _ _ _ _ _ _ _ _ hW.1 (by omega) hS.1 hS.2 (clip_pl _ _ _) (.inr (.inr rfl)) (by rw [set_ne (Ne.symm hdv)]; exact hd) (getL hv)
theorem deed1 (k : Deed d v W0 p 1 s0 N) : S (exs prg (orc prg (n + 6)) (thenF ch1) (env s0 s3 s4 s5 s6 s7 s13 s14 s15 s16 s17 s18 s19 s20 s21 d v W0 S0 p 1 fr) h) N T B C := by
  have hdv := dv hd hv
  refine s_op fun N' kN => ?_
  simp [sel, look, start, putF, List.lookup, isEnd, bmOk, toLO, ofLO, setv, natOf, itemsOf, augv, getL]
  refine c_clip ?_
  simp [sel, look, start, putF, List.lookup, isEnd, bmOk, toLO, ofLO, setv, natOf, itemsOf, augv, getL, hv]
  refine c_by hv ?_
  try simp [sel, look, start, putF, List.lookup, isEnd, bmOk, toLO, ofLO, setv, natOf, itemsOf, augv, getL]
  refine kN _ _ ?_
  rw [s_nil]
  exact k _ W0 S0 (clip (p + fr) W0 S0) a b c _ _ _ _ _ _ _ _ _ _ _ _ _ _ hW.1 (by omega) hS.1 hS.2 (clip_pl _ _ _) (.inr (.inr rfl)) (by rw [set_ne (Ne.symm hdv)]; exact hd) (getL hv)
theorem deed2 (k : Deed d v W0 p 2 s0 N) : S (exs prg (orc prg (n + 6)) (thenF ch2) (env s0 s3 s4 s5 s6 s7 s13 s14 s15 s16 s17 s18 s19 s20 s21 d v W0 S0 p 2 fr) h) N T B C := by
  have hdv := dv hd hv
  refine s_op fun N' kN => ?_
  simp [sel, look, start, putF, List.lookup, isEnd, bmOk, toLO, ofLO, setv, natOf, itemsOf, augv, getL]
  rw [fdivI (by decide)]
  refine ⟨.inl (by omega), ?_⟩
  refine c_clip ?_
  simp [sel, look, start, putF, List.lookup, isEnd, bmOk, toLO, ofLO, setv, natOf, itemsOf, augv, getL, hv]
  try rw [fdivI (by decide)]
  refine c_page hv (by decide) (by omega) ?_
  try simp [sel, look, start, putF, List.lookup, isEnd, bmOk, toLO, ofLO, setv, natOf, itemsOf, augv, getL]
  refine kN _ _ ?_
  rw [s_nil]
  exact k _ W0 S0 (clip (p + (fr - 20) / 30 * max 1 (S0 - 3)) W0 S0) a b c _ _ _ _ _ _ _ _ _ _ _ _ _ _ hW.1 (by omega) hS.1 hS.2 (clip_pl _ _ _) (.inr (.inr rfl)) (by rw [set_ne (Ne.symm hdv)]; exact hd) (getL hv)
theorem deed4 (k : Deed d v W0 p 4 s0 N) : S (exs prg (orc prg (n + 6)) (thenF ch4) (env s0 s3 s4 s5 s6 s7 s13 s14 s15 s16 s17 s18 s19 s20 s21 d v W0 S0 p 4 fr) h) N T B C := by
  have hdv := dv hd hv
  refine s_op fun N' kN => ?_
  simp [sel, look, start, putF, List.lookup, isEnd, bmOk, toLO, ofLO, setv, natOf, itemsOf, augv, getL]
  refine c_roll hd (by decide) (by decide) fun w a1 b1 c1 r1 r2 => ?_
  refine c_roll (getL hd) (by decide) (by decide) fun s a2 b2 c2 q1 q2 => ?_
  try simp [sel, look, start, putF, List.lookup, isEnd, bmOk, toLO, ofLO, setv, natOf, itemsOf, augv, getL]
  refine kN _ _ ?_
  have hd1 : (h.set d (DO a2 b2 c2))[d]? = some (DO a2 b2 c2) := getL hd
  have hv1 : (h.set d (DO a2 b2 c2))[v]? = some (VO W0 S0 p) := by rw [set_ne hdv]; exact hv
  clear kN N'
  generalize h.set d (DO a2 b2 c2) = h1 at *
  refine s_op fun N' kN => ?_
  simp [sel, look, start, putF, List.lookup, isEnd, bmOk, toLO, ofLO, setv, natOf, itemsOf, augv, getL]
  refine c_clip ?_
  simp [sel, look, start, putF, List.lookup, isEnd, bmOk, toLO, ofLO, setv, natOf, itemsOf, augv, getL, hv1]
  refine c_resize hv1 (by omega) (by omega) ?_
  try simp [sel, look, start, putF, List.lookup, isEnd, bmOk, toLO, ofLO, setv, natOf, itemsOf, augv, getL]
  refine kN _ _ ?_
  rw [s_nil]
  exact k _ w (1 + s) (clip p w (1 + s)) a2 b2 c2 _ _ _ _ _ _ _ _ _ _ _ _ _ _ r1 (by omega) (by omega) (by omega) (clip_pl _ _ _) (.inl rfl) (by rw [set_ne (Ne.symm hdv)]; exact get_app hd1) (getL (get_app hv1))
theorem deed5 (k : Deed d v W0 p 5 s0 N) : S (exs prg (orc prg (n + 6)) (thenF ch5) (env s0 s3 s4 s5 s6 s7 s13 s14 s15 s16 s17 s18 s19 s20 s21 d v W0 S0 p 5 fr) h) N T B C := by
  have hdv := dv hd hv
  refine s_op fun N' kN => ?_
  simp [sel, look, start, putF, List.lookup, isEnd, bmOk, toLO, ofLO, setv, natOf, itemsOf, augv, getL]
  refine c_roll hd (by decide) (by decide) fun m a1 b1 c1 r1 r2 => ?_
  try simp [sel, look, start, putF, List.lookup, isEnd, bmOk, toLO, ofLO, setv, natOf, itemsOf, augv, getL]
  refine kN _ _ ?_
  have hd1 : (h.set d (DO a1 b1 c1))[d]? = some (DO a1 b1 c1) := getL hd
  have hv1 : (h.set d (DO a1 b1 c1))[v]? = some (VO W0 S0 p) := by rw [set_ne hdv]; exact hv
  clear kN N'
  generalize h.set d (DO a1 b1 c1) = h1 at *
  refine s_nmV (.int (W0 + m)) h1 (fun Q k => by simp [sel, look, start, putF, List.lookup, isEnd, bmOk, toLO, ofLO, setv, natOf, itemsOf, augv, getL]; exact k) ?_
  refine s_op fun N' kN => ?_
  simp [sel, look, start, putF, List.lookup, isEnd, bmOk, toLO, ofLO, setv, natOf, itemsOf, augv, getL]
  refine c_clip ?_
  try simp [sel, look, start, putF, List.lookup, isEnd, bmOk, toLO, ofLO, setv, natOf, itemsOf, augv, getL]
  refine c_clip ?_
  simp [sel, look, start, putF, List.lookup, isEnd, bmOk, toLO, ofLO, setv, natOf, itemsOf, augv, getL, hv1]
  refine c_grow hv1 r1 (by omega) (by omega) ?_
  try simp [sel, look, start, putF, List.lookup, isEnd, bmOk, toLO, ofLO, setv, natOf, itemsOf, augv, getL]
  refine kN _ _ ?_
  rw [s_nil]
  exact k _ (W0 + m) S0 (clip (clip p (W0 + m) S0 + m) (W0 + m) S0) a1 b1 c1 _ _ _ _ _ _ _ _ _ _ _ _ _ _ (by omega) (by omega) hS.1 hS.2 (clip_pl _ _ _) (.inr (.inl rfl)) (by rw [set_ne (Ne.symm hdv)]; exact get_app hd1) (getL (get_app hv1))
end
end
end K11
end
section
set_option maxRecDepth 100000
set_option maxHeartbeats 4000000
namespace K11
open Ev Wp
section
variable {n : Nat} {h : Hp} {v d : Nat} {W0 S0 p a b c : Int} {N B C : Env → Hp → Prop} {T : LV → Hp → Prop}
variable {s0 s3 s4 s5 s6 s7 s13 s14 s15 s16 s17 s18 s19 s20 s21 : Slot} {fr : Int}
variable (hd : h[d]? = some (DO a b c)) (hv : h[v]? = some (VO W0 S0 p)) (hW : 0 ≤ W0 ∧ W0 ≤ 300) (hS : 1 ≤ S0 ∧ S0 ≤ 30) (hp : Pl W0 S0 p) (hfr : -30 ≤ fr ∧ fr < 60)
include hd hv hW hS hp hfr
theorem deed3 (k : Deed d v W0 p 3 s0 N) : S (exs prg (orc prg (n + 6)) (thenF ch3) (env s0 s3 s4 s5 s6 s7 s13 s14 s15 s16 s17 s18 s19 s20 s21 d v W0 S0 p 3 fr) h) N T B C := by
  have hdv := dv hd hv
  have hM : most W0 S0 < 100000 := by unfold most; omega
  refine s_op fun N' kN => ?_
  simp [sel, look, start, putF, List.lookup, isEnd, bmOk, toLO, ofLO, setv, natOf, itemsOf, augv, getL]
  refine c_roll hd (by decide) (by decide) fun r a1 b1 c1 r1 r2 => ?_
  have hd1 : (h.set d (DO a1 b1 c1))[d]? = some (DO a1 b1 c1) := getL hd
  have hv1 : (h.set d (DO a1 b1 c1))[v]? = some (VO W0 S0 p) := by rw [set_ne hdv]; exact hv
  have hi : ∃ how, opv .idx [.lst [.str sNear, .str sFirst, .str sMiddle, .str sLast], .int r] = some (.str how) ∧ (how = sNear ∨ how = sFirst ∨ how = sMiddle ∨ how = sLast) := by
    have : r = 0 ∨ r = 1 ∨ r = 2 ∨ r = 3 := by omega
    rcases this with rfl | rfl | rfl | rfl
    · exact ⟨_, rfl, .inl rfl⟩
    · exact ⟨_, rfl, .inr (.inl rfl)⟩
    · exact ⟨_, rfl, .inr (.inr (.inl rfl))⟩
    · exact ⟨_, rfl, .inr (.inr (.inr rfl))⟩
  obtain ⟨how, hi, hh⟩ := hi
  rw [view_int, hi, ov_s]
  refine kN _ _ ?_
  clear kN N'
  generalize h.set d (DO a1 b1 c1) = h1 at *
  have hf0 : 0 ≤ max 0 fr ∧ max 0 fr < 100 := by omega
  generalize max 0 fr = f at *
  refine s_op fun N' kN => ?_
  simp [sel, look, start, putF, List.lookup, isEnd, bmOk, toLO, ofLO, setv, natOf, itemsOf, augv, getL]
  refine c_roll hd1 (by decide) (by decide) fun m a2 b2 c2 m1 m2 => ?_
  try simp [sel, look, start, putF, List.lookup, isEnd, bmOk, toLO, ofLO, setv, natOf, itemsOf, augv, getL]
  refine kN _ _ ?_
  have hd2 : (h1.set d (DO a2 b2 c2))[d]? = some (DO a2 b2 c2) := getL hd1
  have hv2 : (h1.set d (DO a2 b2 c2))[v]? = some (VO W0 S0 p) := by rw [set_ne hdv]; exact hv1
  clear kN N'
  generalize h1.set d (DO a2 b2 c2) = h2 at *
  have fin : ∀ G : Int, Pl W0 S0 G → Deed d v W0 p 3 s0 N → N [s0, .val (.ref d), .val (.ref v), s3, s4, .val (.int f), .val (.int (f + m)), s7, .val (.int W0), .val (.int S0), .val (.int p), .val (.int 3), .val (.int fr), s13, .val (.int G), .val (.int (G - p)), .val (.str how), s17, s18, s19, s20, s21] (h2.set v (VO W0 S0 G)) := fun G pl k =>
    k _ W0 S0 G a2 b2 c2 _ _ _ _ _ _ _ _ _ _ _ _ _ _ hW.1 (by omega) hS.1 hS.2 pl (.inr (.inr rfl)) (by rw [set_ne (Ne.symm hdv)]; exact hd2) (getL hv2)
  refine s_op fun N' kN => ?_
  simp [sel, look, start, putF, List.lookup, isEnd, bmOk, toLO, ofLO, setv, natOf, itemsOf, augv, getL]
  rcases hh with rfl | rfl | rfl | rfl
  · refine c_lshowN hp hM (by omega) (by omega) (by omega) ?_
    simp [sel, look, start, putF, List.lookup, isEnd, bmOk, toLO, ofLO, setv, natOf, itemsOf, augv, getL, hv2]
    refine c_showN hv2 (by omega) ?_
    try simp [sel, look, start, putF, List.lookup, isEnd, bmOk, toLO, ofLO, setv, natOf, itemsOf, augv, getL]
    refine kN _ _ ?_
    rw [s_nil]
    refine fin _ ?_ k
    unfold near
    split
    · exact clip_pl _ _ _
    · split
      · exact clip_pl _ _ _
      · exact hp
  · refine c_lshowX (.inl ⟨rfl, rfl⟩) ?_
    simp [sel, look, start, putF, List.lookup, isEnd, bmOk, toLO, ofLO, setv, natOf, itemsOf, augv, getL, hv2]
    refine c_showF hv2 (by omega) ?_
    try simp [sel, look, start, putF, List.lookup, isEnd, bmOk, toLO, ofLO, setv, natOf, itemsOf, augv, getL]
    refine kN _ _ ?_
    rw [s_nil]
    exact fin _ (clip_pl _ _ _) k
  · refine c_lshowX (.inr (.inr ⟨rfl, rfl⟩)) ?_
    simp [sel, look, start, putF, List.lookup, isEnd, bmOk, toLO, ofLO, setv, natOf, itemsOf, augv, getL, hv2]
    refine c_showM hv2 (by omega) ?_
    try simp [sel, look, start, putF, List.lookup, isEnd, bmOk, toLO, ofLO, setv, natOf, itemsOf, augv, getL]
    refine kN _ _ ?_
    rw [s_nil]
    exact fin _ (clip_pl _ _ _) k
  · refine c_lshowX (.inr (.inl ⟨rfl, rfl⟩)) ?_
    simp [sel, look, start, putF, List.lookup, isEnd, bmOk, toLO, ofLO, setv, natOf, itemsOf, augv, getL, hv2]
    refine c_showL hv2 (by omega) ?_
    try simp [sel, look, start, putF, List.lookup, isEnd, bmOk, toLO, ofLO, setv, natOf, itemsOf, augv, getL]
    refine kN _ _ ?_
    rw [s_nil]
    exact fin _ (clip_pl _ _ _) k
theorem deed6 (k : Deed d v W0 p 6 s0 N) : S (exs prg (orc prg (n + 6)) (elseF ch5) (env s0 s3 s4 s5 s6 s7 s13 s14 s15 s16 s17 s18 s19 s20 s21 d v W0 S0 p 6 fr) h) N T B C := by
  have hdv := dv hd hv
  have hM : most W0 S0 ≤ 300 := by unfold most; omega
  have hM0 := most_nn W0 S0
  have hp' : 0 ≤ p ∧ p ≤ most W0 S0 := hp
  refine s_op fun N' kN => ?_
  simp [sel, look, start, putF, List.lookup, isEnd, bmOk, toLO, ofLO, setv, natOf, itemsOf, augv, getL]
  refine c_roll hd (by decide) (by decide) fun t' a1 b1 c1 r1 r2 => ?_
  refine c_roll (getL hd) (by decide) (by decide) fun l' a2 b2 c2 q1 q2 => ?_
  try simp [sel, look, start, putF, List.lookup, isEnd, bmOk, toLO, ofLO, setv, natOf, itemsOf, augv, getL]
  refine kN _ _ ?_
  have hd1 : (h.set d (DO a2 b2 c2))[d]? = some (DO a2 b2 c2) := getL hd
  have hv1 : (h.set d (DO a2 b2 c2))[v]? = some (VO W0 S0 p) := by rw [set_ne hdv]; exact hv
  clear kN N'
  generalize h.set d (DO a2 b2 c2) = h1 at *
  obtain ⟨t, ht⟩ : ∃ t, t = 5 + t' := ⟨_, rfl⟩
  obtain ⟨l, hl⟩ : ∃ l, l = 1 + l' := ⟨_, rfl⟩
  rw [← ht, ← hl]
  have hlt : 0 ≤ l ∧ l ≤ t := by omega
  obtain ⟨t1, t2, t3⟩ := thL_ok (t := t) (l := l) hS.1 hW.1 hlt
  have tp : 0 ≤ thP W0 S0 p t l ∧ thP W0 S0 p t l ≤ t - thL W0 S0 t l := by
    unfold thP
    split
    · omega
    · exact rest_div (by omega) hp' (by omega)
  -- the thumb
  refine s_op fun N' kN => ?_
  simp [sel, look, start, putF, List.lookup, isEnd, bmOk, toLO, ofLO, setv, natOf, itemsOf, augv, getL, hv1]
  refine c_thumb hv1 (by omega) (by omega) (by omega) hlt (by omega) ?_
  try simp [sel, look, start, putF, List.lookup, isEnd, bmOk, toLO, ofLO, setv, natOf, itemsOf, augv, getL]
  refine kN _ _ ?_
  clear kN N'
  refine s_nmV (.int (most W0 S0)) h1 (fun Q k => by simp [sel, look, start, putF, List.lookup, isEnd, bmOk, toLO, ofLO, setv, natOf, itemsOf, augv, getL]; exact k) ?_
  refine s_ifV false h1 (fun Q k => ?_) ?_
  · have hL : thL W0 S0 t l = if most W0 S0 = 0 then t else max l (t * S0 / W0) := rfl
    have hX : thP W0 S0 p t l = if most W0 S0 = 0 then 0 else (t - thL W0 S0 t l) * p / most W0 S0 := rfl
    have hWM : most W0 S0 ≠ 0 → 0 < W0 := by unfold most; omega
    generalize thP W0 S0 p t l = X at *
    generalize thL W0 S0 t l = L at *
    generalize most W0 S0 = M at *
    by_cases z : M = 0
    · rw [if_pos z] at hL hX
      subst hL; subst hX; subst z
      simp [sel, look, start, putF, List.lookup, isEnd, bmOk, toLO, ofLO, setv, natOf, itemsOf, augv, getL]
      simpa using k
    · rw [if_neg z] at hL hX
      have hw := hWM z
      simp [sel, look, start, putF, List.lookup, isEnd, bmOk, toLO, ofLO, setv, natOf, itemsOf, augv, getL, z, tp.1, tp.2]
      refine ⟨.inl (by omega), ⟨by omega, by omega⟩, ?_⟩
      rw [fdivI hw, ← hL]
      refine ⟨fun _ => ?_, fun q => absurd rfl q⟩
      rw [fdivI (by omega), ← hX]
      exact ⟨.inl (by omega), by omega, fun _ => k, fun q => absurd rfl q⟩
  rw [if_neg (by decide), s_nil]
  -- there and back
  obtain ⟨G, hG⟩ : ∃ G, G = thTo W0 S0 (thP W0 S0 p t l) t l := ⟨_, rfl⟩
  have hGp : Pl W0 S0 G := by rw [hG]; unfold thTo; split <;> exact clip_pl _ _ _
  have hGb : 0 ≤ G ∧ G ≤ 300 := ⟨hGp.1, Int.le_trans hGp.2 hM⟩
  refine s_op fun N' kN => ?_
  simp [sel, look, start, putF, List.lookup, isEnd, bmOk, toLO, ofLO, setv, natOf, itemsOf, augv, getL]
  refine c_clip ?_
  simp [sel, look, start, putF, List.lookup, isEnd, bmOk, toLO, ofLO, setv, natOf, itemsOf, augv, getL, hv1]
  refine c_thumbto hv1 (by omega) (by omega) (by omega) hlt (by omega) ?_
  rw [← hG]
  try simp [sel, look, start, putF, List.lookup, isEnd, bmOk, toLO, ofLO, setv, natOf, itemsOf, augv, getL]
  refine kN _ _ ?_
  have hd2 : (h1.set v (VO W0 S0 G))[d]? = some (DO a2 b2 c2) := by rw [set_ne (Ne.symm hdv)]; exact hd1
  have hv2 : (h1.set v (VO W0 S0 G))[v]? = some (VO W0 S0 G) := getL hv1
  clear kN N'
  generalize h1.set v (VO W0 S0 G) = h2 at *
  refine s_ifV false h2 (fun Q k => ?_) ?_
  · simp [sel, look, start, putF, List.lookup, isEnd, bmOk, toLO, ofLO, setv, natOf, itemsOf, augv, getL]
    refine ⟨fun z1 => ⟨fun z2 => ?_, fun _ => k⟩, fun _ => k⟩
    simp [sel, look, start, putF, List.lookup, isEnd, bmOk, toLO, ofLO, setv, natOf, itemsOf, augv, getL, hv2]
    refine c_thumb hv2 (by omega) (by omega) (by omega) hlt (by omega) ?_
    rw [hG, thumb_back hS.1 hW.1 hlt hp (by omega) z2]
    simp [sel, look, start, putF, List.lookup, isEnd, bmOk, toLO, ofLO, setv, natOf, itemsOf, augv, getL]
    exact k
  rw [if_neg (by decide), s_nil]
  refine s_nmV (.int G) h2 (fun Q k => by simp [sel, look, start, putF, List.lookup, isEnd, bmOk, toLO, ofLO, setv, natOf, itemsOf, augv, getL, hv2]; exact k) ?_
  rw [s_nil]
  exact k _ W0 S0 G a2 b2 c2 _ _ _ _ _ _ _ _ _ _ _ _ _ _ hW.1 (by omega) hS.1 hS.2 hGp (.inr (.inr rfl)) hd2 hv2
end
end K11
end
section
set_option maxRecDepth 100000
set_option maxHeartbeats 4000000
namespace K11
open Ev Wp
section
variable {n : Nat} {h : Hp} {v d : Nat} {w s p a b c : Int} {Q : LV → Hp → Prop}
theorem s_ifX {P : Prg} {O : Orc} {σ : Env} {N B C : Env → Hp → Prop} {T : LV → Hp → Prop} {c : CE} {x y : CSs} (b : Bool) (h1 : Hp) (e1 : ∀ Q : LV → Hp → Prop, Q (.bl b) h1 → W (ev P O c σ h) Q) (k : S (exs P O (if b = true then x else y) σ h1) N T B C) : S (ex P O (.ife c x y) σ h) N T B C := by
  rw [s_ife]
  refine e1 _ ?_
  rw [view_bl, truth_bl]
  cases b <;> exact k
theorem Deed.wrap {P : Prg} {O : Orc} {W0 p so : Int} {s0 : Slot} {N B C : Env → Hp → Prop} {T : LV → Hp → Prop} (k : Deed d v W0 p so s0 N) : Deed d v W0 p so s0 (fun σ1 h1 => S (exs P O .nil σ1 h1) N T B C) := by
  intro h' W' S' G a b c t s3 s4 s5 s6 s7 s12 s13 s16 s17 s18 s19 s20 s21 h1 h2 h3 h4 h5 h6 h7 h8
  rw [s_nil]
  exact k h' W' S' G a b c t s3 s4 s5 s6 s7 s12 s13 s16 s17 s18 s19 s20 s21 h1 h2 h3 h4 h5 h6 h7 h8
/-! ### rows of places that are seen -/
def heldL (p s f : Int) (k : Nat) : List Nat := (List.range k).filter fun i => decide (p ≤ f + (i : Int)) && decide (f + (i : Int) < p + s)
theorem heldL_len (p s f : Int) : ∀ k : Nat, ((heldL p s f k).length : Int) = max 0 (min (f + k) (p + s) - max f p)
  | 0 => by simp [heldL]; omega
  | k + 1 => by
    have ih := heldL_len p s f k
    unfold heldL at ih ⊢
    rw [List.range_succ, List.filter_append, List.length_append]
    by_cases q : p ≤ f + (k : Int) ∧ f + (k : Int) < p + s
    · rw [List.filter_cons_of_pos (by simpa using q)]
      simp only [List.filter_nil, List.length_cons, List.length_nil]
      omega
    · rw [List.filter_cons_of_neg (by simpa using q)]
      simp only [List.filter_nil, List.length_nil]
      omega
def gHeld (p s : Int) : LV → Option LV
  | .int y => if p ≤ y ∧ y < p + s then some (.int y) else none
  | _ => none
theorem held_map (p s f e : Int) : (rangeL f e).filterMap (gHeld p s) = ((heldL p s f (e - f).toNat).map fun (i : Nat) => f + (i : Int)).map .int := by
  unfold rangeL heldL
  induction List.range (e - f).toNat with
  | nil => rfl
  | cons i r ih =>
    rw [List.map_cons, List.filterMap_cons, ih]
    by_cases q : p ≤ f + (i : Int) ∧ f + (i : Int) < p + s
    · rw [List.filter_cons_of_pos (by simpa using q), show gHeld p s (.int (f + (i : Int))) = some (.int (f + (i : Int))) from if_pos q]
      rfl
    · rw [List.filter_cons_of_neg (by simpa using q), show gHeld p s (.int (f + (i : Int))) = none from if_neg q]
theorem neNilI {ns : List Int} : opv .ne [.lst (ns.map .int), .lst []] = some (.bl (!ns.isEmpty)) := by
  rw [show ∀ x y, opv .ne [x, y] = neV x y from fun _ _ => rfl]
  unfold neV
  have hp : ∀ ns : List Int, (ns.map LV.int).all (LV.pd 59) = true := by
    intro ns
    induction ns with
    | nil => rfl
    | cons x r ih => rw [List.map_cons, List.all_cons, ih]; rfl
  rw [if_pos (by rw [show LV.pd 60 (.lst (ns.map .int)) = (ns.map LV.int).all (LV.pd 59) from rfl, hp]; rfl)]
  cases ns <;> rfl
@[simp] theorem nin45 {i : Int} : opv .nin [.int i, .lst [.int 4, .int 5]] = some (.bl (!(i == 4 || (i == 5 || false)))) := rfl
theorem lenI {ns : List Int} : opv .len [.lst (ns.map .int)] = some (.int (ns.length : Int)) := by
  rw [o_len, List.length_map]
/-- what is seen of a stretch -/
theorem seen_law {p s f e : Int} (hs : 1 ≤ s) (hf : f < e) :
    (if p ≤ f ∧ e ≤ p + s then sAll else if f < p + s ∧ p < e then sSome else sNone) = if ((heldL p s f (e - f).toNat).length : Int) = e - f then sAll else if (heldL p s f (e - f).toNat).isEmpty = false then sSome else sNone := by
  have hl := heldL_len p s f (e - f).toNat
  have he : (heldL p s f (e - f).toNat).isEmpty = false ↔ (0 : Int) < ((heldL p s f (e - f).toNat).length : Int) := by
    cases heldL p s f (e - f).toNat <;> simp
  have hk : ((e - f).toNat : Int) = e - f := by omega
  rw [hk] at hl
  by_cases c1 : p ≤ f ∧ e ≤ p + s
  · have h1 : ((heldL p s f (e - f).toNat).length : Int) = e - f := by omega
    rw [if_pos c1, if_pos h1]
  · have h1 : ¬ ((heldL p s f (e - f).toNat).length : Int) = e - f := by omega
    by_cases c2 : f < p + s ∧ p < e
    · rw [if_neg c1, if_pos c2, if_neg h1, if_pos (he.mpr (by omega))]
    · have h2 : ¬ (heldL p s f (e - f).toNat).isEmpty = false := fun z => by have := he.mp z; omega
      rw [if_neg c1, if_neg c2, if_neg h1, if_neg h2]
def dropC : CSs → Nat → CSs
  | c, 0 => c
  | .cons _ r, k + 1 => dropC r k
  | .nil, _ => .nil
/-- what the law asks behind the turns -/
def B1t : CSs := dropC B1 3
theorem c_after {W0 S0 : Int} {s0 s3 s4 s5 s6 s7 s11 s12 s13 s14 s15 s16 s17 s18 s19 s20 s21 : Slot} {N B C : Env → Hp → Prop} {T : LV → Hp → Prop} {h1 : Hp} (hd : h1[d]? = some (DO a b c)) (hv : h1[v]? = some (VO W0 S0 p)) (w0 : 0 ≤ W0 ∧ W0 ≤ 300) (hS : 1 ≤ S0 ∧ S0 ≤ 30) (i6 : Pl W0 S0 p) (kEnd : ∀ σ' h', N σ' h') :
    S (exs prg (orc prg (n + 8)) B1t [s0, .val (.ref d), .val (.ref v), s3, s4, s5, s6, s7, .val (.int W0), .val (.int S0), .val (.int p), s11, s12, s13, s14, s15, s16, s17, s18, s19, s20, s21] h1) N T B C := by
  have hM0 := most_nn W0 S0
  have hM1 : most W0 S0 ≤ 300 := by unfold most; omega
  have hp : 0 ≤ p ∧ p ≤ most W0 S0 := i6
  refine s_nmV (.int (most W0 S0)) h1 (fun Q k => by simp [sel, look, start, putF, List.lookup, isEnd, bmOk, toLO, ofLO, setv, natOf, itemsOf, augv, getL]; exact k) ?_
  refine s_ifV false h1 (fun Q k => ?_) ?_
  · simp [sel, look, start, putF, List.lookup, isEnd, bmOk, toLO, ofLO, setv, natOf, itemsOf, augv, getL, hv]
    refine c_mostM hv ?_
    simp [sel, look, start, putF, List.lookup, isEnd, bmOk, toLO, ofLO, setv, natOf, itemsOf, augv, getL, hv]
    refine c_share hv (by omega) (by omega) ?_
    by_cases z : 0 < most W0 S0
    · rw [if_pos z]
      simp [sel, look, start, putF, List.lookup, isEnd, bmOk, toLO, ofLO, setv, natOf, itemsOf, augv, getL]
      refine ⟨fun _ => ⟨by omega, ?_⟩, fun q => by omega⟩
      rw [fdivI z]
      simpa using k
    · rw [if_neg z]
      simp [sel, look, start, putF, List.lookup, isEnd, bmOk, toLO, ofLO, setv, natOf, itemsOf, augv, getL]
      refine ⟨fun q => absurd q z, fun _ => k⟩
  rw [if_neg (by decide), s_nil]
  refine s_op fun N' kN => ?_
  simp [sel, look, start, putF, List.lookup, isEnd, bmOk, toLO, ofLO, setv, natOf, itemsOf, augv, getL]
  refine c_roll hd (by decide) (by decide) fun f a1 b1 c1 f1 f2 => ?_
  try simp [sel, look, start, putF, List.lookup, isEnd, bmOk, toLO, ofLO, setv, natOf, itemsOf, augv, getL]
  refine kN _ _ ?_
  have hd1 : (h1.set d (DO a1 b1 c1))[d]? = some (DO a1 b1 c1) := getL hd
  have hv1 : (h1.set d (DO a1 b1 c1))[v]? = some (VO W0 S0 p) := by rw [set_ne (dv hd hv)]; exact hv
  clear kN N'
  generalize h1.set d (DO a1 b1 c1) = h4 at *
  refine s_op fun N' kN => ?_
  simp [sel, look, start, putF, List.lookup, isEnd, bmOk, toLO, ofLO, setv, natOf, itemsOf, augv, getL]
  refine c_roll hd1 (by decide) (by decide) fun e' a2 b2 c2 e1 e2 => ?_
  try simp [sel, look, start, putF, List.lookup, isEnd, bmOk, toLO, ofLO, setv, natOf, itemsOf, augv, getL]
  refine kN _ _ ?_
  have hd2 : (h4.set d (DO a2 b2 c2))[d]? = some (DO a2 b2 c2) := getL hd1
  have hv2 : (h4.set d (DO a2 b2 c2))[v]? = some (VO W0 S0 p) := by rw [set_ne (dv hd1 hv1)]; exact hv1
  clear kN N'
  generalize h4.set d (DO a2 b2 c2) = h5 at *
  obtain ⟨e, he⟩ : ∃ e, e = f + 1 + e' := ⟨_, rfl⟩
  rw [← he]
  -- what is held
  refine s_nmV (.lst (((heldL p S0 f (e - f).toNat).map fun (i : Nat) => f + (i : Int)).map .int)) h5 (fun Q k => ?_) ?_
  · rw [w_comp, w_range]
    simp [sel, look, start, putF, List.lookup, isEnd, bmOk, toLO, ofLO, setv, natOf, itemsOf, augv, getL]
    rw [rng2 (by omega), ov_s]
    refine ⟨by rw [rangeL_len]; unfold SL; omega, ?_⟩
    refine w_mapP (g := gHeld p S0) (fun y hy Q k => ?_) ?_
    · obtain ⟨i, _, rfl⟩ := List.mem_map.mp hy
      generalize f + (i : Int) = g at *
      replace k : Q (if p ≤ g ∧ g < p + S0 then some (.int g) else none) h5 := k
      simp [sel, look, start, putF, List.lookup, isEnd, bmOk, toLO, ofLO, setv, natOf, itemsOf, augv, getL]
      by_cases z : p ≤ g
      · by_cases z2 : g < p + S0
        · rw [if_pos ⟨z, z2⟩] at k
          exact ⟨fun _ => ⟨fun _ => k, fun z => by omega⟩, fun z => by omega⟩
        · rw [if_neg (fun z => z2 z.2)] at k
          exact ⟨fun _ => ⟨fun z => absurd z z2, fun _ => k⟩, fun z => by omega⟩
      · rw [if_neg (fun y => z y.1)] at k
        exact ⟨fun z2 => absurd z2 z, fun _ => k⟩
    · rw [held_map]
      exact k
  have l1 := lenI (ns := (heldL p S0 f (e - f).toNat).map fun (i : Nat) => f + (i : Int))
  have l2 := neNilI (ns := (heldL p S0 f (e - f).toNat).map fun (i : Nat) => f + (i : Int))
  have l3 := seen_law (p := p) (f := f) (e := e) hS.1 (by omega)
  rw [List.length_map] at l1
  rw [show ((heldL p S0 f (e - f).toNat).map fun (i : Nat) => f + (i : Int)).isEmpty = (heldL p S0 f (e - f).toNat).isEmpty from by cases heldL p S0 f (e - f).toNat <;> rfl] at l2
  generalize ((heldL p S0 f (e - f).toNat).map fun (i : Nat) => f + (i : Int)).map LV.int = HH at *
  generalize ((heldL p S0 f (e - f).toNat).length : Int) = ln at *
  generalize (heldL p S0 f (e - f).toNat).isEmpty = em at *
  refine s_ifV false h5 (fun Q k => ?_) ?_
  · simp [sel, look, start, putF, List.lookup, isEnd, bmOk, toLO, ofLO, setv, natOf, itemsOf, augv, getL, hv2]
    refine c_seen hv2 ?_
    rw [l3]
    have d1 : ¬ sSome = sAll := by decide
    have d2 : ¬ sNone = sAll := by decide
    have d3 : ¬ sNone = sSome := by decide
    by_cases z : ln = e - f
    · subst z
      rw [if_pos rfl]
      simp [sel, look, start, putF, List.lookup, isEnd, bmOk, toLO, ofLO, setv, natOf, itemsOf, augv, getL, l1, l2]
      exact k
    · rw [if_neg z]
      cases em
      · simp [sel, look, start, putF, List.lookup, isEnd, bmOk, toLO, ofLO, setv, natOf, itemsOf, augv, getL, l1, l2, z]
        exact k
      · simp [sel, look, start, putF, List.lookup, isEnd, bmOk, toLO, ofLO, setv, natOf, itemsOf, augv, getL, l1, l2, z]
        exact k
  rw [if_neg (by decide), s_nil]
  -- swings and the rest
  refine s_op fun N' kN => ?_
  simp [sel, look, start, putF, List.lookup, isEnd, bmOk, toLO, ofLO, setv, natOf, itemsOf, augv, getL]
  refine c_swings hd2 hv2 i6 fun h6 a3 b3 c3 p3 pl3 hd3 hv3 sm3 => ?_
  simp [sel, look, start, putF, List.lookup, isEnd, bmOk, toLO, ofLO, setv, natOf, itemsOf, augv, getL]
  refine kN _ _ ?_
  clear kN N'
  refine s_op fun N' kN => ?_
  simp [sel, look, start, putF, List.lookup, isEnd, bmOk, toLO, ofLO, setv, natOf, itemsOf, augv, getL]
  refine c_rest hd3 hv3 pl3 (by omega) fun h7 => ?_
  simp [sel, look, start, putF, List.lookup, isEnd, bmOk, toLO, ofLO, setv, natOf, itemsOf, augv, getL]
  refine kN _ _ ?_
  rw [s_nil]
  exact kEnd _ _
end
end K11
end
section
set_option maxRecDepth 100000
set_option maxHeartbeats 1000000
namespace K11
open Ev Wp
section
variable {n : Nat} {h : Hp} {v d : Nat} {w s p a b c : Int} {Q : LV → Hp → Prop}
theorem c_roundsD {ns : List Int} (k : ∀ (a b c : Int) (d : Nat) (h' : Hp), h'[d]? = some (DO a b c) → Q (.lst [.ref d]) h') : W ((orc prg (n + 2)).call 21 [.rol (ns.map .int), .int 1] h) Q :=
  c_rounds fun a b c => k a b c _ _ get_new
theorem c_law {ns : List Int} {m : Nat} (hm : m = n + 8) (hpl : ∃ h0, (orc prg m).call 25 [] [] = .ok (.bl true) h0) (k : ∀ h', Q (.bl true) h') : W ((orc prg (n + 9)).call 28 [.rol (ns.map .int)] []) Q := by
  refine w_runS (F := d_law) (σ := [.val (.rol (ns.map .int)), .un, .un, .un, .un, .un, .un, .un, .un, .un, .un, .un, .un, .un, .un, .un, .un, .un, .un, .un, .un, .un]) rfl rfl rfl ?_
  refine s_op fun N0 kN0 => ?_
  rw [s_for]
  simp [sel, look, start, putF, List.lookup, isEnd, bmOk, toLO, ofLO, setv, natOf, itemsOf, augv, getL]
  refine c_roundsD fun a b c d h hd => ?_
  try simp [sel, look, start, putF, List.lookup, isEnd, bmOk, toLO, ofLO, setv, natOf, itemsOf, augv, getL]
  rw [s_for1]
  refine ovI rfl ?_
  -- whole, seen, place, the view
  refine s_op fun N' kN => ?_
  simp [sel, look, start, putF, List.lookup, isEnd, bmOk, toLO, ofLO, setv, natOf, itemsOf, augv, getL]
  refine c_roll hd (by decide) (by decide) fun w a1 b1 c1 r1 r2 => ?_
  refine c_roll (getL hd) (by decide) (by decide) fun s a2 b2 c2 q1 q2 => ?_
  try simp [sel, look, start, putF, List.lookup, isEnd, bmOk, toLO, ofLO, setv, natOf, itemsOf, augv, getL]
  refine kN _ _ ?_
  have hd1 : (h.set d (DO a2 b2 c2))[d]? = some (DO a2 b2 c2) := getL hd
  clear kN N'
  generalize h.set d (DO a2 b2 c2) = h1 at *
  refine s_op fun N' kN => ?_
  simp [sel, look, start, putF, List.lookup, isEnd, bmOk, toLO, ofLO, setv, natOf, itemsOf, augv, getL]
  refine c_init get_new (by omega) (by omega) ?_
  rw [set_new]
  try simp [sel, look, start, putF, List.lookup, isEnd, bmOk, toLO, ofLO, setv, natOf, itemsOf, augv, getL]
  refine kN _ _ ?_
  have hv2 : (h1 ++ [VO w (1 + s) 0])[h1.length]? = some (VO w (1 + s) 0) := get_new
  have hd2 : (h1 ++ [VO w (1 + s) 0])[d]? = some (DO a2 b2 c2) := get_app hd1
  clear kN N'
  generalize h1 ++ [VO w (1 + s) 0] = h2 at *
  generalize h1.length = v at *
  -- the turns
  refine s_op fun N' kN => ?_
  rw [s_for]
  simp [sel, look, start, putF, List.lookup, isEnd, bmOk, toLO, ofLO, setv, natOf, itemsOf, augv, getL]
  refine c_roll hd2 (by decide) (by decide) fun m a3 b3 c3 m1 m2 => ?_
  rw [rng1 (by omega), ov_s]
  have hd3 : (h2.set d (DO a3 b3 c3))[d]? = some (DO a3 b3 c3) := getL hd2
  have hv3 : (h2.set d (DO a3 b3 c3))[v]? = some (VO w (1 + s) 0) := by rw [set_ne (dv hd2 hv2)]; exact hv2
  generalize h2.set d (DO a3 b3 c3) = h3 at *
  have hlm : (rangeL 0 m).length ≤ 13 := by rw [rangeL_len]; omega
  generalize rangeL 0 m = xs at *
  refine s_forI (fun rest σ1 h1 => ∃ (W0 S0 p a b c : Int) (s0 s3 s4 s5 s6 s7 s11 s12 s13 s14 s15 s16 s17 s18 s19 s20 s21 : Slot), σ1 = [s0, .val (.ref d), .val (.ref v), s3, s4, s5, s6, s7, .val (.int W0), .val (.int S0), .val (.int p), s11, s12, s13, s14, s15, s16, s17, s18, s19, s20, s21] ∧
    rest.length ≤ 13 ∧ 0 ≤ W0 ∧ W0 + 10 * rest.length ≤ 300 ∧ 1 ≤ S0 ∧ S0 ≤ 30 ∧ Pl W0 S0 p ∧ h1[d]? = some (DO a b c) ∧ h1[v]? = some (VO W0 S0 p)) ?_ ?_ _ _ _ ⟨w, 1 + s, 0, a3, b3, c3, _, _, _, _, _, _, _, _, _, _, _, _, _, _, _, _, _, rfl, hlm, r1, by omega, by omega, by omega, by unfold Pl most; omega, hd3, hv3⟩
  · clear hd hd1 hd2 hd3 hv2 hv3 kN
    rintro y rest σ1 h1 ⟨W0, S0, p, a, b, c, s0, s3, s4, s5, s6, s7, s11, s12, s13, s14, s15, s16, s17, s18, s19, s20, s21, rfl, i1, i2, i3, i4, i5, i6, hd, hv⟩
    rw [List.length_cons] at i1 i3
    refine ovI rfl ?_
    refine s_op fun N2 kN2 => ?_
    simp [sel, look, start, putF, List.lookup, isEnd, bmOk, toLO, ofLO, setv, natOf, itemsOf, augv, getL]
    refine c_roll hd (by decide) (by decide) fun so a1 b1 c1 o1 o2 => ?_
    refine c_roll (getL hd) (by decide) (by decide) fun fr a2 b2 c2 f1 f2 => ?_
    try simp [sel, look, start, putF, List.lookup, isEnd, bmOk, toLO, ofLO, setv, natOf, itemsOf, augv, getL]
    refine kN2 _ _ ?_
    have hd1 : (h1.set d (DO a2 b2 c2))[d]? = some (DO a2 b2 c2) := getL hd
    have hv1 : (h1.set d (DO a2 b2 c2))[v]? = some (VO W0 S0 p) := by rw [set_ne (dv hd hv)]; exact hv
    clear kN2 N2
    generalize h1.set d (DO a2 b2 c2) = h4 at *
    generalize hfr : fr - 30 = far at *
    refine s_op fun N2 kN2 => ?_
    have kD : Deed d v W0 p so s0 N2 := by
      intro h' W' S' G a b c t s3 s4 s5 s6 s7 s12 s13 s16 s17 s18 s19 s20 s21 g1 g2 g3 g4 g5 g6 g7 g8
      refine kN2 _ _ ?_
      have hG : 0 ≤ G ∧ G ≤ most W' S' := g5
      have hmx : max 0 (W' - S') = most W' S' := rfl
      refine s_ifV false h' (fun Q k => ?_) ?_
      · simp [sel, look, start, putF, List.lookup, isEnd, bmOk, toLO, ofLO, setv, natOf, itemsOf, augv, getL, g8, hmx, hG.1, hG.2]
        rcases g6 with rfl | rfl | rfl
        · simpa using k
        · simpa using k
        · simp [sel, look, start, putF, List.lookup, isEnd, bmOk, toLO, ofLO, setv, natOf, itemsOf, augv, getL]
          by_cases z : so = 4
          · simpa [z] using k
          · by_cases z2 : so = 5
            · simpa [z2] using k
            · simpa [z, z2] using k
      rw [if_neg (by decide), s_nil]
      refine s_nmV (.int G) h' (fun Q k => by simp [sel, look, start, putF, List.lookup, isEnd, bmOk, toLO, ofLO, setv, natOf, itemsOf, augv, getL]; exact k) ?_
      rw [s_nil]
      exact ⟨W', S', G, a, b, c, _, _, _, _, _, _, _, _, _, _, _, _, _, _, _, _, _, rfl, by omega, g1, by omega, g3, g4, g5, g7, g8⟩
    clear kN2
    have hc : so = 0 ∨ so = 1 ∨ so = 2 ∨ so = 3 ∨ so = 4 ∨ so = 5 ∨ so = 6 := by omega
    have w0 : 0 ≤ W0 ∧ W0 ≤ 300 := by omega
    have w1 : -30 ≤ far ∧ far < 60 := by omega
    rcases hc with rfl | rfl | rfl | rfl | rfl | rfl | rfl
    · refine s_ifX true h4 (fun Q k => by simp [sel, look, start, putF, List.lookup, isEnd, bmOk, toLO, ofLO, setv, natOf, itemsOf, augv, getL]; exact k) ?_
      rw [if_pos rfl]
      exact deed0 hd1 hv1 w0 ⟨i4, i5⟩ i6 w1 kD
    · refine s_ifX false h4 (fun Q k => by simp [sel, look, start, putF, List.lookup, isEnd, bmOk, toLO, ofLO, setv, natOf, itemsOf, augv, getL]; exact k) ?_
      rw [if_neg (by decide)]
      refine s_ifV true h4 (fun Q k => by simp [sel, look, start, putF, List.lookup, isEnd, bmOk, toLO, ofLO, setv, natOf, itemsOf, augv, getL]; exact k) ?_
      rw [if_pos rfl]
      exact deed1 hd1 hv1 w0 ⟨i4, i5⟩ i6 w1 kD.wrap
    · refine s_ifX false h4 (fun Q k => by simp [sel, look, start, putF, List.lookup, isEnd, bmOk, toLO, ofLO, setv, natOf, itemsOf, augv, getL]; exact k) ?_
      rw [if_neg (by decide)]
      refine s_ifV false h4 (fun Q k => by simp [sel, look, start, putF, List.lookup, isEnd, bmOk, toLO, ofLO, setv, natOf, itemsOf, augv, getL]; exact k) ?_
      rw [if_neg (by decide)]
      refine s_ifV true h4 (fun Q k => by simp [sel, look, start, putF, List.lookup, isEnd, bmOk, toLO, ofLO, setv, natOf, itemsOf, augv, getL]; exact k) ?_
      rw [if_pos rfl]
      exact deed2 hd1 hv1 w0 ⟨i4, i5⟩ i6 w1 kD.wrap.wrap
    · refine s_ifX false h4 (fun Q k => by simp [sel, look, start, putF, List.lookup, isEnd, bmOk, toLO, ofLO, setv, natOf, itemsOf, augv, getL]; exact k) ?_
      rw [if_neg (by decide)]
      refine s_ifV false h4 (fun Q k => by simp [sel, look, start, putF, List.lookup, isEnd, bmOk, toLO, ofLO, setv, natOf, itemsOf, augv, getL]; exact k) ?_
      rw [if_neg (by decide)]
      refine s_ifV false h4 (fun Q k => by simp [sel, look, start, putF, List.lookup, isEnd, bmOk, toLO, ofLO, setv, natOf, itemsOf, augv, getL]; exact k) ?_
      rw [if_neg (by decide)]
      refine s_ifV true h4 (fun Q k => by simp [sel, look, start, putF, List.lookup, isEnd, bmOk, toLO, ofLO, setv, natOf, itemsOf, augv, getL]; exact k) ?_
      rw [if_pos rfl]
      exact deed3 hd1 hv1 w0 ⟨i4, i5⟩ i6 w1 kD.wrap.wrap.wrap
    · refine s_ifX false h4 (fun Q k => by simp [sel, look, start, putF, List.lookup, isEnd, bmOk, toLO, ofLO, setv, natOf, itemsOf, augv, getL]; exact k) ?_
      rw [if_neg (by decide)]
      refine s_ifV false h4 (fun Q k => by simp [sel, look, start, putF, List.lookup, isEnd, bmOk, toLO, ofLO, setv, natOf, itemsOf, augv, getL]; exact k) ?_
      rw [if_neg (by decide)]
      refine s_ifV false h4 (fun Q k => by simp [sel, look, start, putF, List.lookup, isEnd, bmOk, toLO, ofLO, setv, natOf, itemsOf, augv, getL]; exact k) ?_
      rw [if_neg (by decide)]
      refine s_ifV false h4 (fun Q k => by simp [sel, look, start, putF, List.lookup, isEnd, bmOk, toLO, ofLO, setv, natOf, itemsOf, augv, getL]; exact k) ?_
      rw [if_neg (by decide)]
      refine s_ifV true h4 (fun Q k => by simp [sel, look, start, putF, List.lookup, isEnd, bmOk, toLO, ofLO, setv, natOf, itemsOf, augv, getL]; exact k) ?_
      rw [if_pos rfl]
      exact deed4 hd1 hv1 w0 ⟨i4, i5⟩ i6 w1 kD.wrap.wrap.wrap.wrap
    · refine s_ifX false h4 (fun Q k => by simp [sel, look, start, putF, List.lookup, isEnd, bmOk, toLO, ofLO, setv, natOf, itemsOf, augv, getL]; exact k) ?_
      rw [if_neg (by decide)]
      refine s_ifV false h4 (fun Q k => by simp [sel, look, start, putF, List.lookup, isEnd, bmOk, toLO, ofLO, setv, natOf, itemsOf, augv, getL]; exact k) ?_
      rw [if_neg (by decide)]
      refine s_ifV false h4 (fun Q k => by simp [sel, look, start, putF, List.lookup, isEnd, bmOk, toLO, ofLO, setv, natOf, itemsOf, augv, getL]; exact k) ?_
      rw [if_neg (by decide)]
      refine s_ifV false h4 (fun Q k => by simp [sel, look, start, putF, List.lookup, isEnd, bmOk, toLO, ofLO, setv, natOf, itemsOf, augv, getL]; exact k) ?_
      rw [if_neg (by decide)]
      refine s_ifV false h4 (fun Q k => by simp [sel, look, start, putF, List.lookup, isEnd, bmOk, toLO, ofLO, setv, natOf, itemsOf, augv, getL]; exact k) ?_
      rw [if_neg (by decide)]
      refine s_ifV true h4 (fun Q k => by simp [sel, look, start, putF, List.lookup, isEnd, bmOk, toLO, ofLO, setv, natOf, itemsOf, augv, getL]; exact k) ?_
      rw [if_pos rfl]
      exact deed5 hd1 hv1 w0 ⟨i4, i5⟩ i6 w1 kD.wrap.wrap.wrap.wrap.wrap
    · refine s_ifX false h4 (fun Q k => by simp [sel, look, start, putF, List.lookup, isEnd, bmOk, toLO, ofLO, setv, natOf, itemsOf, augv, getL]; exact k) ?_
      rw [if_neg (by decide)]
      refine s_ifV false h4 (fun Q k => by simp [sel, look, start, putF, List.lookup, isEnd, bmOk, toLO, ofLO, setv, natOf, itemsOf, augv, getL]; exact k) ?_
      rw [if_neg (by decide)]
      refine s_ifV false h4 (fun Q k => by simp [sel, look, start, putF, List.lookup, isEnd, bmOk, toLO, ofLO, setv, natOf, itemsOf, augv, getL]; exact k) ?_
      rw [if_neg (by decide)]
      refine s_ifV false h4 (fun Q k => by simp [sel, look, start, putF, List.lookup, isEnd, bmOk, toLO, ofLO, setv, natOf, itemsOf, augv, getL]; exact k) ?_
      rw [if_neg (by decide)]
      refine s_ifV false h4 (fun Q k => by simp [sel, look, start, putF, List.lookup, isEnd, bmOk, toLO, ofLO, setv, natOf, itemsOf, augv, getL]; exact k) ?_
      rw [if_neg (by decide)]
      refine s_ifV false h4 (fun Q k => by simp [sel, look, start, putF, List.lookup, isEnd, bmOk, toLO, ofLO, setv, natOf, itemsOf, augv, getL]; exact k) ?_
      rw [if_neg (by decide)]
      exact deed6 hd1 hv1 w0 ⟨i4, i5⟩ i6 w1 kD.wrap.wrap.wrap.wrap.wrap
  · clear hd hd1 hd2 hd3 hv2 hv3
    rintro σ1 h1 ⟨W0, S0, p, a, b, c, s0, s3, s4, s5, s6, s7, s11, s12, s13, s14, s15, s16, s17, s18, s19, s20, s21, rfl, i1, i2, i3, i4, i5, i6, hd, hv⟩
    refine kN _ _ ?_
    rw [List.length_nil] at i3
    refine c_after hd hv ⟨i2, by omega⟩ ⟨i4, i5⟩ i6 fun σ' h' => ?_
    rw [s_for0]
    refine kN0 _ _ ?_
    rw [← hm]
    rw [s_cons, s_ret, w_call0]
    obtain ⟨h0, e0⟩ := hpl
    rw [e0, w_ok]
    exact ⟨rfl, k h'⟩
end
end K11
end
section
set_option maxRecDepth 1000000
set_option maxHeartbeats 0
namespace K11
open Ev Wp
def isT (r : Res LV) : Bool := match r with
  | .ok (.bl true) _ => true
  | _ => false
theorem of_T {r : Res LV} (e : isT r = true) : ∃ h, r = .ok (.bl true) h := by
  unfold isT at e
  split at e
  · exact ⟨_, rfl⟩
  · cases e
theorem w_ex {r : Res LV} (x : W r fun v _ => v = .bl true) : ∃ h, r = .ok (.bl true) h := by
  cases r with
  | ok v h =>
    have x : v = .bl true := x
    exact ⟨h, by rw [x]⟩
  | exc c h => exact x.elim
  | bad => exact x.elim
theorem plain_29 : isT ((orc prg 29).call 25 [] []) = true := by decide +kernel
theorem plain (ns : List Int) (hl : ns.length ≤ 63) : ∃ h, (Ev.orc prg 30).call f_law [.rol (ns.map .int)] [] = .ok (.bl true) h :=
  w_ex (c_law (n := 21) (m := 29) rfl (of_T plain_29) fun _ => rfl)
end K11
end
section
set_option maxRecDepth 100000
set_option maxHeartbeats 2000000
/-! the machine's values and heap, held against the abstract heap -/
namespace Sd
open PySem PySem.Spec PyProof.Rows L2
open Ev (LV LO CE CEs Src Tg Tgs CKs TG TGs CS CSs Prg Orc Slot)

def st (s : List Nat) : Str := ⟨s.toArray⟩
def okS (s : List Nat) : Prop := (∀ c ∈ s, c < 1114112) ∧ s.length ≤ Ev.SL
/-- a key, as the layer has it -/
def keyF : LV → Option Key
  | .int i => some (.inl i)
  | .str s => some (.inr (st s))
  | _ => none
def keysF : List LV → Option (List Key)
  | [] => some []
  | x :: xs => match keyF x, keysF xs with
    | some k, some ks => some (k :: ks)
    | _, _ => none
/-- what is fixed through a law: the written part, the classes' places, the attributes' names, the tables of code objects -/
structure FI where
  addr : Addr
  fd : FuncData
  ps : List Str
/-- a lambda's text -/
structure LmI where
  params : Arguments
  body : Expr
  scope : Scope
structure Cn where
  K : PySem.W.Frag
  P : Program
  w : World
  mg : Str → Option Value
  pr : Prg
  cl : Nat → Addr
  an : Nat → Str
  mn : Nat → Str
  fi : Nat → FI
  na : Nat
  ic : Nat → Bool
  tl : List (Addr × Str)
  tg : List Addr
  cs : List (Addr × Addr)
  kd : Nat → Nat
  tb : Bool
  cc : Value
  lk : Bool
  lq : Str
  lc : List (Str × Addr)
  lo : Nat → LmI → Prop
  lw : Nat → Nat → LmI → Prop
/-- the same within one def's frame: its code object, its lambdas -/
def Cn.fr (R : Cn) (tb lk : Bool) (cc : Value) (lq : Str) (lc : List (Str × Addr)) (lo : Nat → LmI → Prop) : Cn := { R with tb := tb, lk := lk, cc := cc, lq := lq, lc := lc, lo := lo }
/-- what a base heap must hold: the written part, the globals, the tables' owners -/
def BaseOk (R : Cn) (base : Heap) : Prop := R.K.In base ∧ base.Ns mainGlobals R.mg ∧ ∀ p ∈ R.cs, LamX.TabB base R.mg p.1 p.2
/-- a list of the written part -/
def WrL (K : PySem.W.Frag) (a : Addr) (xs : List V) : Prop :=
  ∃ (o : Obj) (its : Array Value) (n : Nat), K.lookup a = some o ∧ o.cls = .type "list" ∧ o.dict = none ∧ o.data = .seq its n ∧ its.size ≤ sizeLine ∧ Vals xs its.toList
section
variable (R : Cn) (Fz : Addr → Prop) (ρ : List Addr) (H : Hp)
mutual
/-- the machine's value v is x here; Fz: lists and dicts that nobody changes any more -/
def Rep : LV → V → Prop
  | .non, x => x = .non
  | .bl b, x => x = .bl b
  | .int i, x => x = .int i
  | .str s, x => x = .str (st s) ∧ okS s
  | .tup xs, x => ∃ a vs, x = .ref a ∧ SqT R.K H a vs ∧ Reps xs vs
  | .lst xs, x => ∃ a vs, x = .ref a ∧ Fz a ∧ H a = some (.lst vs) ∧ Reps xs vs
  | .dct kvs, x => ∃ a es, x = .ref a ∧ Fz a ∧ H a = some (.dK es) ∧ RepK kvs es
  | .ref n, x => ∃ a, x = .ref a ∧ ρ[n]? = some a
  | .clo _, _ => False
  | .rol xs, x => ∃ a vs, x = .ref a ∧ ((∃ o, H a = some (.frz o (.lst vs))) ∨ WrL R.K a vs ∨ (Fz a ∧ H a = some (.lst vs))) ∧ Reps xs vs
def Reps : List LV → List V → Prop
  | [], vs => vs = []
  | x :: xs, vs => ∃ v r, vs = v :: r ∧ Rep x v ∧ Reps xs r
/-- entries with keys that are numbers or texts -/
def RepK : List (LV × LV) → List (Key × V) → Prop
  | [], es => es = []
  | (k, v) :: r, es => ∃ q y t, es = (q, y) :: t ∧ keyF k = some q ∧ (∀ s, k = .str s → okS s) ∧ Rep v y ∧ RepK r t
end
end


section
variable (R : Cn) (Fz : Addr → Prop) (ρ : List Addr) (H : Hp)
def FRep : List (Nat × LV) → List (Str × V) → Prop
  | [], es => es = []
  | (a, v) :: r, es => ∃ y t, es = (R.an a, y) :: t ∧ a < R.na ∧ Rep R Fz ρ H v y ∧ FRep r t
/-- an object of the machine's heap stands at a -/
def ORep : LO → Addr → Prop
  | .lst xs, a => ∃ vs, H a = some (.lst vs) ∧ Reps R Fz ρ H xs vs
  | .dct kvs, a => ∃ es, H a = some (.dK es) ∧ RepK R Fz ρ H kvs es
  | .ins c fs, a => ∃ dx es, H a = some (.ins (R.cl c) dx es) ∧ R.ic c = true ∧ FRep R Fz ρ H fs es
/-- a list or dict that one name alone holds -/
def Cont : LV → Addr → Prop
  | .lst xs, a => ∃ vs, H a = some (.lst vs) ∧ Reps R Fz ρ H xs vs
  | .dct kvs, a => ∃ es, H a = some (.dK es) ∧ RepK R Fz ρ H kvs es
  | _, _ => False
/-- the tables of code objects -/
structure Tbs : Prop where
  lam : LamX.Tabs R.tl H
  gen : ∀ p ∈ R.tg, GxR.TabG H p
structure Core (h : Ev.Hp) : Prop where
  len : ρ.length = h.length
  nd : ρ.Nodup
  obj : ∀ (n : Nat) o a, h[n]? = some o → ρ[n]? = some a → ORep R Fz ρ H o a
  fz : ∀ a, Fz a → a ∉ ρ
  fzt : ∀ a, Fz a → H a ≠ none
  tab : Tbs R H
/-- a lambda's function object stands at f, its code object at c' -/
def LamO (m : LmI) (q : Str) (cl : List (Str × Addr)) (f c' : Addr) : HO := .ext fun h => ∃ pm ctv, h.get? f = some (PySem.W.kla_obj "<lambda>" q m.params m.body m.scope cl pm c' ctv)
def LamF (f : Addr) (k : Nat) : Prop := ∃ m c', R.lo k m ∧ H f = some (LamO m R.lq (cloFrom R.lc m.scope.names []) f c') ∧ H c' = some (LamX.CodeO c' R.lq)
def LamFs : List Addr → List Nat → Prop
  | [], ks => ks = []
  | f :: fs, ks => ∃ k r, ks = k :: r ∧ LamF R H f k ∧ LamFs fs r
/-- a list of lambdas -/
def LamL (a : Addr) (fs : List Addr) (ks : List Nat) : Prop := Fz a ∧ H a = some (.lst (fs.map V.ref)) ∧ LamFs R H fs ks
/-- the names' values -/
structure Slots (L : Ev.Env) (σ : L2.St) : Prop where
  len : L.length = σ.length
  val : ∀ (i : Nat) v, L[i]? = some (.val v) → ∃ x, σ[i]? = some (some x) ∧ Rep R Fz ρ H v x
  own : ∀ (i : Nat) v, L[i]? = some (.own v) → ∃ a, σ[i]? = some (some (.ref a)) ∧ Cont R Fz ρ H v a ∧ ¬ Fz a ∧ a ∉ ρ
  sep : ∀ (i j : Nat) v w a, i ≠ j → L[i]? = some (.own v) → L[j]? = some (.own w) → σ[i]? = some (some (.ref a)) → σ[j]? ≠ some (some (.ref a))
  lam : ∀ (i : Nat) ks, L[i]? = some (.lam ks) → R.lk = true ∧ ∃ a fs, σ[i]? = some (some (.ref a)) ∧ LamL R Fz H a fs ks
end
/-- what may have changed: the machine's objects, the tables; new things -/
structure Ext (Fz : Addr → Prop) (ρ : List Addr) (H : Hp) (Fz' : Addr → Prop) (ρ' : List Addr) (H' : Hp) : Prop where
  keep : ∀ a o, H a = some o → a ∉ ρ → (∀ ps, o ≠ .tbl ps) → H' a = some o
  some : ∀ a, H a ≠ none → H' a ≠ none
  fzs : ∀ a, Fz a → Fz' a
  fzn : ∀ a, Fz' a → Fz a ∨ H a = none
  rho : ∃ more, ρ' = ρ ++ more
  rhn : ∀ a, a ∈ ρ' → a ∈ ρ ∨ H a = none
section
variable {R : Cn} {Fz Fz' Fz2 : Addr → Prop} {ρ ρ' ρ2 : List Addr} {H H' H2 : Hp} {h h' : Ev.Hp} {L : Ev.Env} {σ : L2.St}
theorem Ext.refl : Ext Fz ρ H Fz ρ H := ⟨fun _ _ e _ _ => e, fun _ e => e, fun _ e => e, fun _ e => .inl e, ⟨[], by simp⟩, fun _ e => .inl e⟩
theorem Ext.trans (a : Ext Fz ρ H Fz' ρ' H') (b : Ext Fz' ρ' H' Fz2 ρ2 H2) : Ext Fz ρ H Fz2 ρ2 H2 where
  keep := fun x o e n t => b.keep x o (a.keep x o e n t) (fun m => (a.rhn x m).elim n fun z => by rw [e] at z; cases z) t
  some := fun x e => b.some x (a.some x e)
  fzs := fun x e => b.fzs x (a.fzs x e)
  fzn := fun x e => by
    rcases b.fzn x e with z | z
    · exact a.fzn x z
    · refine .inr ?_
      cases q : H x with
      | none => rfl
      | some o => exact absurd z (a.some x (by rw [q]; simp))
  rho := by
    obtain ⟨m1, e1⟩ := a.rho
    obtain ⟨m2, e2⟩ := b.rho
    exact ⟨m1 ++ m2, by rw [e2, e1, List.append_assoc]⟩
  rhn := fun x m => by
    rcases b.rhn x m with z | z
    · exact a.rhn x z
    · refine .inr ?_
      cases q : H x with
      | none => rfl
      | some o => exact absurd z (a.some x (by rw [q]; simp))
theorem Core.at (C : Core R Fz ρ H h) {a : Addr} (m : a ∈ ρ) : ∃ (n : Nat) (o : LO), ρ[n]? = some a ∧ h[n]? = some o ∧ ORep R Fz ρ H o a := by
  obtain ⟨n, hn, e⟩ := List.getElem_of_mem m
  have hl : n < h.length := by rw [← C.len]; exact hn
  have e1 : ρ[n]? = some a := by rw [List.getElem?_eq_getElem hn, e]
  exact ⟨n, h[n], e1, List.getElem?_eq_getElem hl, C.obj n _ a (List.getElem?_eq_getElem hl) e1⟩
theorem ORep.kind {o : LO} {a : Addr} (x : ORep R Fz ρ H o a) : (∃ vs, H a = some (.lst vs)) ∨ (∃ es, H a = some (.dK es)) ∨ ∃ C dx es, H a = some (.ins C dx es) := by
  cases o with
  | lst xs => obtain ⟨vs, e, _⟩ := x; exact .inl ⟨vs, e⟩
  | dct kvs => obtain ⟨es, e, _⟩ := x; exact .inr (.inl ⟨es, e⟩)
  | ins c fs => obtain ⟨dx, es, e, _, _⟩ := x; exact .inr (.inr ⟨_, dx, es, e⟩)
theorem Core.tup (C : Core R Fz ρ H h) {a : Addr} {vs : List V} (e : H a = some (.tup vs)) : a ∉ ρ := fun m => by
  obtain ⟨n, o, _, _, x⟩ := C.at m
  rcases x.kind with ⟨_, z⟩ | ⟨_, z⟩ | ⟨_, _, _, z⟩ <;> (rw [e] at z; cases z)
theorem Core.frz (C : Core R Fz ρ H h) {a : Addr} {o : Obj} {u : HO} (e : H a = some (.frz o u)) : a ∉ ρ := fun m => by
  obtain ⟨n, o, _, _, x⟩ := C.at m
  rcases x.kind with ⟨_, z⟩ | ⟨_, z⟩ | ⟨_, _, _, z⟩ <;> (rw [e] at z; cases z)
theorem Ext.sqT (C : Core R Fz ρ H h) (E : Ext Fz ρ H Fz' ρ' H') {a : Addr} {vs : List V} (x : SqT R.K H a vs) : SqT R.K H' a vs := by
  rcases x with (e | ⟨o, e⟩) | x
  · exact .inl (.inl (E.keep a _ e (C.tup e) (by intro ps z; cases z)))
  · exact .inl (.inr ⟨o, E.keep a _ e (C.frz e) (by intro ps z; cases z)⟩)
  · exact .inr x
theorem Ext.rd (E : Ext Fz ρ H Fz' ρ' H') {a : Addr} {u : HO} (n : a ∉ ρ) (ht : ∀ ps, u ≠ .tbl ps) (x : Rd H a u) : Rd H' a u := by
  rcases x with e | ⟨o, e⟩
  · exact .inl (E.keep a _ e n ht)
  · exact .inr ⟨o, E.keep a _ e n (by intro ps z; cases z)⟩
section
variable (C : Core R Fz ρ H h) (E : Ext Fz ρ H Fz' ρ' H')
include C E
mutual
theorem Rep.mono : ∀ (v : LV) {x : V}, Rep R Fz ρ H v x → Rep R Fz' ρ' H' v x
  | .non, _, e => e
  | .bl _, _, e => e
  | .int _, _, e => e
  | .str _, _, e => e
  | .tup xs, _, ⟨a, vs, e, q, r⟩ => ⟨a, vs, e, E.sqT C q, Reps.mono xs r⟩
  | .lst xs, _, ⟨a, vs, e, f, q, r⟩ => ⟨a, vs, e, E.fzs a f, E.keep a _ q (C.fz a f) (by intro ps z; cases z), Reps.mono xs r⟩
  | .dct kvs, _, ⟨a, es, e, f, z, r⟩ => ⟨a, es, e, E.fzs a f, E.keep a _ z (C.fz a f) (by intro ps z; cases z), RepK.mono kvs r⟩
  | .ref n, _, ⟨a, e, q⟩ => ⟨a, e, by
      obtain ⟨m, em⟩ := E.rho
      rw [em, List.getElem?_append_left (List.getElem?_eq_some_iff.mp q).1]
      exact q⟩
  | .clo _, _, e => e
  | .rol xs, _, ⟨a, vs, e, q, r⟩ => ⟨a, vs, e, q.elim (fun ⟨o, z⟩ => .inl ⟨o, E.keep a _ z (C.frz z) (by intro ps z; cases z)⟩) (fun z => .inr (z.imp_right fun ⟨f, y⟩ => ⟨E.fzs a f, E.keep a _ y (C.fz a f) (by intro ps z; cases z)⟩)), Reps.mono xs r⟩
theorem Reps.mono : ∀ (xs : List LV) {vs : List V}, Reps R Fz ρ H xs vs → Reps R Fz' ρ' H' xs vs
  | [], _, e => e
  | x :: xs, _, ⟨v, r, e, q, t⟩ => ⟨v, r, e, Rep.mono x q, Reps.mono xs t⟩
theorem RepK.mono : ∀ (kvs : List (LV × LV)) {es}, RepK R Fz ρ H kvs es → RepK R Fz' ρ' H' kvs es
  | [], _, e => e
  | (k, v) :: r, _, ⟨q, y, t, e, a, b, c, d⟩ => ⟨q, y, t, e, a, b, Rep.mono v c, RepK.mono r d⟩
end
end
theorem FRep.mono (C : Core R Fz ρ H h) (E : Ext Fz ρ H Fz' ρ' H') : ∀ {fs : List (Nat × LV)} {es}, FRep R Fz ρ H fs es → FRep R Fz' ρ' H' fs es
  | [], _, e => e
  | (a, v) :: r, _, ⟨y, t, e, l, c, d⟩ => ⟨y, t, e, l, Rep.mono C E v c, FRep.mono C E d⟩
theorem Cont.mono (C : Core R Fz ρ H h) (E : Ext Fz ρ H Fz' ρ' H') {v : LV} {a : Addr} (n : a ∉ ρ) (x : Cont R Fz ρ H v a) : Cont R Fz' ρ' H' v a := by
  cases v with
  | lst xs => obtain ⟨vs, e, r⟩ := x; exact ⟨vs, E.keep a _ e n (by intro ps z; cases z), Reps.mono C E xs r⟩
  | dct kvs => obtain ⟨es, e, r⟩ := x; exact ⟨es, E.keep a _ e n (by intro ps z; cases z), RepK.mono C E kvs r⟩
  | _ => exact x.elim
theorem Cont.some {v : LV} {a : Addr} (x : Cont R Fz ρ H v a) : H a ≠ none := by
  cases v with
  | lst xs => obtain ⟨vs, e, r⟩ := x; rw [e]; simp
  | dct kvs => obtain ⟨es, e, r⟩ := x; rw [e]; simp
  | _ => exact x.elim
theorem Core.xt (C : Core R Fz ρ H h) {a : Addr} {φ : Heap → Prop} (e : H a = some (.ext φ)) : a ∉ ρ := fun m => by
  obtain ⟨n, o, _, _, x⟩ := C.at m
  rcases x.kind with ⟨_, z⟩ | ⟨_, z⟩ | ⟨_, _, _, z⟩ <;> (rw [e] at z; cases z)
theorem ext_xt (C : Core R Fz ρ H h) (E : Ext Fz ρ H Fz' ρ' H') (a : Addr) (φ : Heap → Prop) (e : H a = some (.ext φ)) : H' a = some (.ext φ) := E.keep a _ e (C.xt e) (by intro ps z; cases z)
/-- what stands of lambdas, wherever such things stay -/
theorem LamF.keep {f : Addr} {k : Nat} (e0 : ∀ a φ, H a = some (.ext φ) → H' a = some (.ext φ)) (x : LamF R H f k) : LamF R H' f k := by
  obtain ⟨m, c', h0, h1, h2⟩ := x
  exact ⟨m, c', h0, e0 _ _ h1, e0 _ _ h2⟩
theorem LamFs.keep (e0 : ∀ a φ, H a = some (.ext φ) → H' a = some (.ext φ)) : ∀ {fs : List Addr} {ks : List Nat}, LamFs R H fs ks → LamFs R H' fs ks
  | [], _, e => e
  | _ :: _, _, ⟨k, r, e, a, b⟩ => ⟨k, r, e, a.keep e0, LamFs.keep e0 b⟩
theorem LamFs.append {fs gs : List Addr} {js : List Nat} : ∀ {ks : List Nat}, LamFs R H fs ks → LamFs R H gs js → LamFs R H (fs ++ gs) (ks ++ js) := by
  induction fs with
  | nil => intro ks a b; have a : ks = [] := a; subst a; exact b
  | cons f fs ih =>
    rintro ks ⟨k, r, rfl, a, b⟩ c
    exact ⟨k, r ++ js, rfl, a, ih b c⟩
theorem LamL.keep {a : Addr} {fs : List Addr} {ks : List Nat} (e0 : ∀ a φ, H a = some (.ext φ) → H' a = some (.ext φ)) (e1 : ∀ a o, Fz a → H a = some o → (∀ ps, o ≠ .tbl ps) → H' a = some o) (e2 : ∀ a, Fz a → Fz' a) (x : LamL R Fz H a fs ks) : LamL R Fz' H' a fs ks :=
  ⟨e2 _ x.1, e1 _ _ x.1 x.2.1 (by intro ps z; cases z), LamFs.keep e0 x.2.2⟩
theorem Slots.mono (C : Core R Fz ρ H h) (E : Ext Fz ρ H Fz' ρ' H') (S : Slots R Fz ρ H L σ) : Slots R Fz' ρ' H' L σ where
  len := S.len
  val := fun i v e => let ⟨x, e1, r⟩ := S.val i v e; ⟨x, e1, Rep.mono C E v r⟩
  own := fun i v e => by
    obtain ⟨a, e1, c, n1, n2⟩ := S.own i v e
    have hs := c.some
    refine ⟨a, e1, c.mono C E n2, fun z => ?_, fun z => ?_⟩
    · rcases E.fzn a z with y | y
      · exact n1 y
      · exact hs y
    · rcases E.rhn a z with y | y
      · exact n2 y
      · exact hs y
  sep := S.sep
  lam := fun i ks e => by
    obtain ⟨h1, a, fs, h2, h3⟩ := S.lam i ks e
    exact ⟨h1, a, fs, h2, h3.keep (fun a φ e => ext_xt C E a φ e) (fun a o f e n => E.keep a o e (C.fz a f) n) E.fzs⟩
theorem Slots.nil : Slots R Fz ρ H [] [] := ⟨rfl, fun _ _ e => by simp at e, fun _ _ e => by simp at e, fun _ _ _ _ _ _ e => by simp at e, fun _ _ e => by simp at e⟩
end
end Sd
end
section
set_option maxRecDepth 100000
set_option maxHeartbeats 2000000
/-! judgements: an expression's run is what the machine tells -/
namespace Sd
open PySem PySem.Spec PyProof.Rows L2
open Ev (LV LO CE CEs Src Tg Tgs CKs TG TGs CS CSs Prg Orc Slot)

section
variable (R : Cn) (Fz : Addr → Prop) (ρ : List Addr) (H : Hp)
/-- as it was read: kept, or a name's own list -/
def RepV (v : LV) (x : V) : Prop :=
  match v with
  | .lst xs => ∃ a vs, x = .ref a ∧ a ∉ ρ ∧ H a = some (.lst vs) ∧ Reps R Fz ρ H xs vs
  | .dct kvs => ∃ a es, x = .ref a ∧ a ∉ ρ ∧ H a = some (.dK es) ∧ RepK R Fz ρ H kvs es
  | v => Rep R Fz ρ H v x
def RepVs : List LV → List V → Prop
  | [], vs => vs = []
  | x :: xs, vs => ∃ v r, vs = v :: r ∧ RepV R Fz ρ H x v ∧ RepVs xs r
/-- seen for a moment -/
def RepW (v : LV) (x : V) : Prop :=
  match v with
  | .lst xs => ∃ a vs, x = .ref a ∧ H a = some (.lst vs) ∧ Reps R Fz ρ H xs vs
  | .dct kvs => ∃ a es, x = .ref a ∧ H a = some (.dK es) ∧ RepK R Fz ρ H kvs es
  | v => Rep R Fz ρ H v x
def RepWs : List LV → List V → Prop
  | [], vs => vs = []
  | x :: xs, vs => ∃ v r, vs = v :: r ∧ RepW R Fz ρ H x v ∧ RepWs xs r
end
section
variable {R : Cn} {Fz Fz' Fz2 : Addr → Prop} {ρ ρ' ρ2 : List Addr} {H H' H2 : Hp} {h h' : Ev.Hp} {L : Ev.Env} {σ : L2.St}
theorem Rep.toV (C : Core R Fz ρ H h) : ∀ {v : LV} {x : V}, Rep R Fz ρ H v x → RepV R Fz ρ H v x
  | .non, _, e => e
  | .bl _, _, e => e
  | .int _, _, e => e
  | .str _, _, e => e
  | .tup xs, _, e => e
  | .lst xs, _, ⟨a, vs, e, f, q, r⟩ => ⟨a, vs, e, C.fz a f, q, r⟩
  | .dct kvs, _, ⟨a, es, e, f, q⟩ => ⟨a, es, e, C.fz a f, q⟩
  | .ref n, _, e => e
  | .clo _, _, e => e
  | .rol xs, _, e => e
theorem Cont.toV {v : LV} {a : Addr} (n : a ∉ ρ) (x : Cont R Fz ρ H v a) : RepV R Fz ρ H v (.ref a) := by
  cases v with
  | lst xs => obtain ⟨vs, e, r⟩ := x; exact ⟨a, vs, rfl, n, e, r⟩
  | dct kvs => obtain ⟨es, e, r⟩ := x; exact ⟨a, es, rfl, n, e, r⟩
  | _ => exact x.elim
theorem view_ref (n : Nat) (h : Ev.Hp) : Ev.view (.ref n) h = (match h[n]? with | some (.lst xs) => .lst xs | some (.dct kvs) => .dct kvs | _ => .ref n) := rfl
/-- what is seen in a value -/
theorem RepV.view (C : Core R Fz ρ H h) {v : LV} {x : V} (r : RepV R Fz ρ H v x) : RepW R Fz ρ H (Ev.view v h) x := by
  cases v with
  | ref n =>
    obtain ⟨a, rfl, e⟩ := r
    rw [view_ref]
    cases q : h[n]? with
    | none => exact ⟨a, rfl, e⟩
    | some o =>
      have ob := C.obj n o a q e
      cases o with
      | lst xs => obtain ⟨vs, e2, r2⟩ := ob; exact ⟨a, vs, rfl, e2, r2⟩
      | dct kvs => obtain ⟨es, e2, r2⟩ := ob; exact ⟨a, es, rfl, e2, r2⟩
      | ins c fs => exact ⟨a, rfl, e⟩
  | lst xs => obtain ⟨a, vs, e, n, q, t⟩ := r; exact ⟨a, vs, e, q, t⟩
  | dct kvs => obtain ⟨a, es, e, n, q⟩ := r; exact ⟨a, es, e, q⟩
  | _ => exact r
theorem Rep.view (C : Core R Fz ρ H h) {v : LV} {x : V} (r : Rep R Fz ρ H v x) : RepW R Fz ρ H (Ev.view v h) x := (r.toV C).view C
theorem RepVs.view (C : Core R Fz ρ H h) : ∀ {vs : List LV} {xs : List V}, RepVs R Fz ρ H vs xs → RepWs R Fz ρ H (vs.map fun v => Ev.view v h) xs
  | [], _, e => e
  | _ :: _, _, ⟨x, r, e, a, b⟩ => ⟨x, r, e, a.view C, RepVs.view C b⟩
end

/-! ### the ends of a run -/
section
variable (R : Cn) (W : WX) (σ : L2.St) (Fz : Addr → Prop) (ρ : List Addr) (H : Hp)
def okP (h' : Ev.Hp) (v : LV) (Q : VK) : Prop := ∀ x H' Fz' ρ', Core R Fz' ρ' H' h' → Ext Fz ρ H Fz' ρ' H' → Rep R Fz' ρ' H' v x → Q x H'
def okV (h' : Ev.Hp) (v : LV) (Q : VK) : Prop := ∀ x H' Fz' ρ', Core R Fz' ρ' H' h' → Ext Fz ρ H Fz' ρ' H' → RepV R Fz' ρ' H' v x → Q x H'
def exP (h' : Ev.Hp) (c : Nat) : Prop := ∀ H' Fz' ρ', Core R Fz' ρ' H' h' → Ext Fz ρ H Fz' ρ' H' → W (.ref (R.cl c)) none σ H'
def RS (r : Ev.Res LV) (Q : VK) : Prop := match r with
  | .ok v h' => okP R Fz ρ H h' v Q
  | .exc c h' => exP R W σ Fz ρ H h' c
  | .bad => False
def RV (r : Ev.Res LV) (Q : VK) : Prop := match r with
  | .ok v h' => okV R Fz ρ H h' v Q
  | .exc c h' => exP R W σ Fz ρ H h' c
  | .bad => False
/-- several, each to be kept | each to be seen -/
def RSs (r : Ev.Res (List LV)) (Q : List V → Hp → Prop) : Prop := match r with
  | .ok vs h' => ∀ xs H' Fz' ρ', Core R Fz' ρ' H' h' → Ext Fz ρ H Fz' ρ' H' → Reps R Fz' ρ' H' vs xs → Q xs H'
  | .exc c h' => exP R W σ Fz ρ H h' c
  | .bad => False
def RVs (r : Ev.Res (List LV)) (Q : List V → Hp → Prop) : Prop := match r with
  | .ok vs h' => ∀ xs H' Fz' ρ', Core R Fz' ρ' H' h' → Ext Fz ρ H Fz' ρ' H' → RepVs R Fz' ρ' H' vs xs → Q xs H'
  | .exc c h' => exP R W σ Fz ρ H h' c
  | .bad => False
end
section
variable (R : Cn) (W : WX) (O : Orc)
/-- the machine stands so -/
def Stn (P : Ev.Env → Ev.Hp → (Addr → Prop) → List Addr → Prop) (σ : L2.St) (H : Hp) : Prop := ∃ L h Fz ρ, Core R Fz ρ H h ∧ Slots R Fz ρ H L σ ∧ P L h Fz ρ
def tE (c : CE) : TE := fun σ H Q => Stn R (fun L h Fz ρ => RS R W σ Fz ρ H (Ev.ev R.pr O c L h) Q) σ H
def tV (c : CE) : TE := fun σ H Q => Stn R (fun L h Fz ρ => RV R W σ Fz ρ H (Ev.sel c L h (Ev.ev R.pr O c L h)) Q) σ H
/-- an expression's run is the machine's -/
def SE (X : Cx) (e : Expr) (c : CE) : Prop := PE X e (tE R W O c)
def SV (X : Cx) (e : Expr) (c : CE) : Prop := PE X e (tV R W O c)
def tSs (cs : CEs) : TA := fun σ H Q => Stn R (fun L h Fz ρ => RSs R W σ Fz ρ H (Ev.evs R.pr O cs L h) Q) σ H
def tVs (cs : CEs) : TA := fun σ H Q => Stn R (fun L h Fz ρ => RVs R W σ Fz ρ H (Ev.evA R.pr O cs L h) Q) σ H
/-- one after another -/
def oneS : CEs → TA
  | .nil => tNil
  | .cons c cs => tCons (tE R W O c) (oneS cs)
def oneV : CEs → TA
  | .nil => tNil
  | .cons c cs => tCons (tV R W O c) (oneV cs)
end
theorem pe_imp {X : Cx} {e : Expr} {t t' : TE} (h : PE X e t) (i : ∀ σ H Q, t' σ H Q → t σ H Q) : PE X e t' := ⟨fun pins s σ H Q I q => h.run pins s σ H Q I (i σ H Q q)⟩
theorem pa_imp {X : Cx} {es : List Expr} {t t' : TA} (h : PA X es t) (i : ∀ σ H Q, t' σ H Q → t σ H Q) : PA X es t' := ⟨fun pos pins s σ H Q I q => h.run pos pins s σ H Q I (i σ H Q q)⟩
theorem pt_imp {X : Cx} {e : Expr} {t t' : TT} (h : PT X e t) (i : ∀ σ H Q, t' σ H Q → t σ H Q) : PT X e t' := ⟨fun pins s σ H Q I q => h.run pins s σ H Q I (i σ H Q q)⟩

section
variable {R : Cn} {W : WX} {O : Orc} {σ : L2.St} {Fz Fz' : Addr → Prop} {ρ ρ' : List Addr} {H H' : Hp} {h h' : Ev.Hp} {L : Ev.Env}
theorem okP.ext (E : Ext Fz ρ H Fz' ρ' H') {v : LV} {Q : VK} (k : okP R Fz ρ H h' v Q) : okP R Fz' ρ' H' h' v Q := fun x H2 F2 r2 C2 E2 R2 => k x H2 F2 r2 C2 (E.trans E2) R2
theorem okV.ext (E : Ext Fz ρ H Fz' ρ' H') {v : LV} {Q : VK} (k : okV R Fz ρ H h' v Q) : okV R Fz' ρ' H' h' v Q := fun x H2 F2 r2 C2 E2 R2 => k x H2 F2 r2 C2 (E.trans E2) R2
theorem exP.ext (E : Ext Fz ρ H Fz' ρ' H') {c : Nat} (k : exP R W σ Fz ρ H h' c) : exP R W σ Fz' ρ' H' h' c := fun H2 F2 r2 C2 E2 => k H2 F2 r2 C2 (E.trans E2)
theorem RS.ext (E : Ext Fz ρ H Fz' ρ' H') {r : Ev.Res LV} {Q : VK} (k : RS R W σ Fz ρ H r Q) : RS R W σ Fz' ρ' H' r Q := by
  cases r with
  | ok v h' => exact okP.ext E k
  | exc c h' => exact exP.ext E k
  | bad => exact k
theorem RV.ext (E : Ext Fz ρ H Fz' ρ' H') {r : Ev.Res LV} {Q : VK} (k : RV R W σ Fz ρ H r Q) : RV R W σ Fz' ρ' H' r Q := by
  cases r with
  | ok v h' => exact okV.ext E k
  | exc c h' => exact exP.ext E k
  | bad => exact k
theorem RSs.ext (E : Ext Fz ρ H Fz' ρ' H') {r : Ev.Res (List LV)} {Q : List V → Hp → Prop} (k : RSs R W σ Fz ρ H r Q) : RSs R W σ Fz' ρ' H' r Q := by
  cases r with
  | ok v h' => exact fun x H2 F2 r2 C2 E2 R2 => k x H2 F2 r2 C2 (E.trans E2) R2
  | exc c h' => exact exP.ext E k
  | bad => exact k
theorem RVs.ext (E : Ext Fz ρ H Fz' ρ' H') {r : Ev.Res (List LV)} {Q : List V → Hp → Prop} (k : RVs R W σ Fz ρ H r Q) : RVs R W σ Fz' ρ' H' r Q := by
  cases r with
  | ok v h' => exact fun x H2 F2 r2 C2 E2 R2 => k x H2 F2 r2 C2 (E.trans E2) R2
  | exc c h' => exact exP.ext E k
  | bad => exact k
theorem RepV.mono (C : Core R Fz ρ H h) (E : Ext Fz ρ H Fz' ρ' H') : ∀ {v : LV} {x : V}, RepV R Fz ρ H v x → RepV R Fz' ρ' H' v x
  | .non, _, e => e
  | .bl _, _, e => e
  | .int _, _, e => e
  | .str _, _, e => e
  | .tup xs, _, e => Rep.mono C E (.tup xs) e
  | .lst xs, _, ⟨a, vs, e, n, q, r⟩ => ⟨a, vs, e, (fun m => (E.rhn a m).elim n fun z => by rw [z] at q; cases q), E.keep a _ q n (by intro ps z; cases z), Reps.mono C E xs r⟩
  | .dct kvs, _, ⟨a, es, e, n, q, r⟩ => ⟨a, es, e, (fun m => (E.rhn a m).elim n fun z => by rw [z] at q; cases q), E.keep a _ q n (by intro ps z; cases z), RepK.mono C E kvs r⟩
  | .ref n, _, e => Rep.mono C E (.ref n) e
  | .clo _, _, e => e
  | .rol xs, _, e => Rep.mono C E (.rol xs) e
theorem RepVs.mono (C : Core R Fz ρ H h) (E : Ext Fz ρ H Fz' ρ' H') : ∀ {vs : List LV} {xs : List V}, RepVs R Fz ρ H vs xs → RepVs R Fz' ρ' H' vs xs
  | [], _, e => e
  | _ :: _, _, ⟨x, r, e, a, b⟩ => ⟨x, r, e, a.mono C E, RepVs.mono C E b⟩

/-! ### from the machine's reading to the layer's -/
/-- the arguments, one after another -/
theorem oneS_of : ∀ (cs : CEs) {Fz : Addr → Prop} {ρ : List Addr} {H : Hp} {h : Ev.Hp} {Q : List V → Hp → Prop}, Core R Fz ρ H h → Slots R Fz ρ H L σ → RSs R W σ Fz ρ H (Ev.evs R.pr O cs L h) Q → oneS R W O cs σ H Q
  | .nil, Fz, ρ, H, h, Q, C, S, r => by
    simp only [Ev.evs] at r
    exact r [] H Fz ρ C Ext.refl rfl
  | .cons c cs, Fz, ρ, H, h, Q, C, S, r => by
    refine ⟨L, h, Fz, ρ, C, S, ?_⟩
    simp only [Ev.evs] at r
    cases e : Ev.ev R.pr O c L h with
    | bad => rw [e] at r ⊢; exact r
    | exc d h1 => rw [e] at r ⊢; exact r
    | ok v h1 =>
      rw [e] at r ⊢
      intro x H1 F1 ρ1 C1 E1 R1
      refine oneS_of (Q := fun xs H2 => Q (x :: xs) H2) cs C1 (S.mono C E1) ?_
      cases e2 : Ev.evs R.pr O cs L h1 with
      | bad => simp only [e2] at r; exact r
      | exc d h2 => simp only [e2] at r; exact exP.ext E1 r
      | ok vs h2 =>
        simp only [e2] at r
        intro xs H2 F2 ρ2 C2 E2 R2
        exact r (x :: xs) H2 F2 ρ2 C2 (E1.trans E2) ⟨x, xs, rfl, Rep.mono C1 E2 v R1, R2⟩
theorem oneV_of : ∀ (cs : CEs) {Fz : Addr → Prop} {ρ : List Addr} {H : Hp} {h : Ev.Hp} {Q : List V → Hp → Prop}, Core R Fz ρ H h → Slots R Fz ρ H L σ → RVs R W σ Fz ρ H (Ev.evA R.pr O cs L h) Q → oneV R W O cs σ H Q
  | .nil, Fz, ρ, H, h, Q, C, S, r => by
    simp only [Ev.evA] at r
    exact r [] H Fz ρ C Ext.refl rfl
  | .cons c cs, Fz, ρ, H, h, Q, C, S, r => by
    refine ⟨L, h, Fz, ρ, C, S, ?_⟩
    simp only [Ev.evA] at r
    cases e : Ev.sel c L h (Ev.ev R.pr O c L h) with
    | bad => rw [e] at r ⊢; exact r
    | exc d h1 => rw [e] at r ⊢; exact r
    | ok v h1 =>
      rw [e] at r ⊢
      intro x H1 F1 ρ1 C1 E1 R1
      refine oneV_of (Q := fun xs H2 => Q (x :: xs) H2) cs C1 (S.mono C E1) ?_
      cases e2 : Ev.evA R.pr O cs L h1 with
      | bad => simp only [e2] at r; exact r
      | exc d h2 => simp only [e2] at r; exact exP.ext E1 r
      | ok vs h2 =>
        simp only [e2] at r
        intro xs H2 F2 ρ2 C2 E2 R2
        exact r (x :: xs) H2 F2 ρ2 C2 (E1.trans E2) ⟨x, xs, rfl, R1.mono C1 E2, R2⟩
/-- what is kept may be seen -/
theorem SE.sv {X : Cx} {e : Expr} {c : CE} (s : SE R W O X e c) (n : ∀ i, c ≠ .var i) : SV R W O X e c := by
  refine pe_imp s fun σ H Q ⟨L, h, Fz, ρ, C, S, r⟩ => ⟨L, h, Fz, ρ, C, S, ?_⟩
  have e : Ev.sel c L h (Ev.ev R.pr O c L h) = Ev.ev R.pr O c L h := by
    cases c <;> first | rfl | exact (n _ rfl).elim
  have r : RV R W σ Fz ρ H (Ev.sel c L h (Ev.ev R.pr O c L h)) Q := r
  show RS R W σ Fz ρ H (Ev.ev R.pr O c L h) Q
  rw [e] at r
  cases q : Ev.ev R.pr O c L h with
  | bad => rw [q] at r; exact r
  | exc d h1 => rw [q] at r; exact r
  | ok v h1 => rw [q] at r; exact fun x H1 F1 ρ1 C1 E1 R1 => r x H1 F1 ρ1 C1 E1 (R1.toV C1)
end
end Sd
end
section
set_option maxRecDepth 100000
set_option maxHeartbeats 2000000
/-! operations by values -/
namespace Sd
open PySem PySem.Spec PyProof.Rows L2
open Ev (LV LO CE CEs Src Tg Tgs CKs TG TGs CS CSs Prg Orc Slot)

theorem SL_eq : Ev.SL = sizeLine := by rw [sizeLine_eq]; rfl
section
variable {R : Cn} {W : WX} {O : Orc} {σ : L2.St} {Fz Fz' : Addr → Prop} {ρ ρ' : List Addr} {H H' : Hp} {h h' : Ev.Hp} {L : Ev.Env}
theorem Tbs.ext (T : Tbs R H) (e : ∀ b o, H b = some o → H' b = some o) : Tbs R H' :=
  ⟨T.lam.ext e, fun p hp => let ⟨ps, h1, h2⟩ := T.gen p hp; ⟨ps, e _ _ h1, h2⟩⟩
theorem ORep.mono (C : Core R Fz ρ H h) (E : Ext Fz ρ H Fz' ρ' H') {o : LO} {a : Addr} (e : H' a = H a) (x : ORep R Fz ρ H o a) : ORep R Fz' ρ' H' o a := by
  cases o with
  | lst xs => obtain ⟨vs, q, r⟩ := x; exact ⟨vs, e.trans q, Reps.mono C E xs r⟩
  | dct kvs => obtain ⟨es, q, r⟩ := x; exact ⟨es, e.trans q, RepK.mono C E kvs r⟩
  | ins c fs => obtain ⟨dx, es, q, l, r⟩ := x; exact ⟨dx, es, e.trans q, l, FRep.mono C E r⟩
theorem Core.live (C : Core R Fz ρ H h) {a : Addr} (m : a ∈ ρ) : H a ≠ none := by
  obtain ⟨n, o, _, _, x⟩ := C.at m
  rcases x.kind with ⟨_, z⟩ | ⟨_, z⟩ | ⟨_, _, _, z⟩ <;> (rw [z]; simp)
/-- a new thing beside -/
theorem Core.grow (C : Core R Fz ρ H h) {p : Addr} (hp : H p = none) (o : HO) (f1 : ∀ a, Fz a → Fz' a) (f2 : ∀ a, Fz' a → Fz a ∨ a = p) :
    Core R Fz' ρ (upd H p o) h ∧ Ext Fz ρ H Fz' ρ (upd H p o) := by
  have old : ∀ b u, H b = some u → upd H p o b = some u := fun b u e => by rw [upd_ne (ne_of_none e hp)]; exact e
  have E : Ext Fz ρ H Fz' ρ (upd H p o) := by
    refine ⟨fun a u e _ _ => old a u e, fun a e => ?_, f1, fun a z => ?_, ⟨[], by simp⟩, fun a m => .inl m⟩
    · cases q : H a with
      | none => exact absurd q e
      | some u => rw [old a u q]; simp
    · rcases f2 a z with y | y
      · exact .inl y
      · exact .inr (by rw [y]; exact hp)
  have np : p ∉ ρ := fun m => C.live m hp
  refine ⟨⟨C.len, C.nd, fun n o' a h1 h2 => ?_, fun a z m => ?_, fun a z => ?_, C.tab.ext old⟩, E⟩
  · have m : a ∈ ρ := List.mem_of_getElem? h2
    exact (C.obj n o' a h1 h2).mono C E (upd_ne (fun q => np (q ▸ m)))
  · rcases f2 a z with y | y
    · exact C.fz a y m
    · exact np (y ▸ m)
  · rcases f2 a z with y | y
    · exact E.some a (C.fzt a y)
    · rw [y, upd_same]; simp
theorem Reps.length : ∀ {xs : List LV} {vs : List V}, Reps R Fz ρ H xs vs → xs.length = vs.length
  | [], _, e => by rw [show _ = [] from e]; rfl
  | x :: xs, _, ⟨v, r, e, _, t⟩ => by rw [e, List.length_cons, List.length_cons, Reps.length t]
theorem Reps.append : ∀ {xs ys : List LV} {vs ws : List V}, Reps R Fz ρ H xs vs → Reps R Fz ρ H ys ws → Reps R Fz ρ H (xs ++ ys) (vs ++ ws)
  | [], _, _, _, e, q => by rw [show _ = [] from e]; exact q
  | x :: xs, _, _, _, ⟨v, r, e, a, t⟩, q => by rw [e]; exact ⟨v, _, rfl, a, Reps.append t q⟩
theorem Reps.get : ∀ {xs : List LV} {vs : List V} {n : Nat} {x : LV}, Reps R Fz ρ H xs vs → xs[n]? = some x → ∃ v, vs[n]? = some v ∧ Rep R Fz ρ H x v
  | [], _, _, _, _, e => by simp at e
  | y :: xs, _, 0, x, ⟨v, r, e, a, t⟩, q => by simp at q; subst q; exact ⟨v, by rw [e]; rfl, a⟩
  | y :: xs, _, n + 1, x, ⟨v, r, e, a, t⟩, q => by
    obtain ⟨w, e1, e2⟩ := Reps.get (n := n) (x := x) t (by simpa using q)
    exact ⟨w, by rw [e]; simpa using e1, e2⟩
theorem Reps.take : ∀ {xs : List LV} {vs : List V} (n : Nat), Reps R Fz ρ H xs vs → Reps R Fz ρ H (xs.take n) (vs.take n)
  | _, _, 0, _ => by simp [Reps]
  | [], _, n + 1, e => by rw [show _ = [] from e]; simp [Reps]
  | x :: xs, _, n + 1, ⟨v, r, e, a, t⟩ => by rw [e]; exact ⟨v, _, rfl, a, Reps.take n t⟩
theorem Reps.drop : ∀ {xs : List LV} {vs : List V} (n : Nat), Reps R Fz ρ H xs vs → Reps R Fz ρ H (xs.drop n) (vs.drop n)
  | _, _, 0, e => by simpa using e
  | [], _, n + 1, e => by rw [show _ = [] from e]; simp [Reps]
  | x :: xs, _, n + 1, ⟨v, r, e, a, t⟩ => by rw [e]; simpa using Reps.drop n t
theorem Reps.reverse : ∀ {xs : List LV} {vs : List V}, Reps R Fz ρ H xs vs → Reps R Fz ρ H xs.reverse vs.reverse
  | [], _, e => by rw [show _ = [] from e]; simp [Reps]
  | x :: xs, _, ⟨v, r, e, a, t⟩ => by rw [e, List.reverse_cons, List.reverse_cons]; exact Reps.append (Reps.reverse t) ⟨v, [], rfl, a, rfl⟩
theorem Reps.rep {xs : List LV} {vs : List V} (r : Reps R Fz ρ H xs vs) : ∀ n : Nat, Reps R Fz ρ H (List.replicate n xs).flatten (List.replicate n vs).flatten
  | 0 => rfl
  | n + 1 => by rw [List.replicate_succ, List.replicate_succ]; exact Reps.append r (Reps.rep r n)
theorem Reps.nil_iff {xs : List LV} {vs : List V} (r : Reps R Fz ρ H xs vs) : vs = [] ↔ xs = [] := by
  have e := r.length
  constructor <;> (intro z; subst z; first | exact List.length_eq_zero_iff.mp (by simpa using e) | exact List.length_eq_zero_iff.mp (by simpa using e.symm))

/-! ### lists and dicts of one's own -/
mutual
theorem Rep.fz (m : ∀ a, Fz a → Fz' a) (g : ∃ more, ρ' = ρ ++ more) : ∀ (v : LV) {x : V}, Rep R Fz ρ H v x → Rep R Fz' ρ' H v x
  | .non, _, e => e
  | .bl _, _, e => e
  | .int _, _, e => e
  | .str _, _, e => e
  | .tup xs, _, ⟨a, vs, e, q, r⟩ => ⟨a, vs, e, q, Reps.fz m g xs r⟩
  | .lst xs, _, ⟨a, vs, e, f, q, r⟩ => ⟨a, vs, e, m a f, q, Reps.fz m g xs r⟩
  | .dct kvs, _, ⟨a, es, e, f, z, r⟩ => ⟨a, es, e, m a f, z, RepK.fz m g kvs r⟩
  | .ref n, _, ⟨a, e, q⟩ => ⟨a, e, by obtain ⟨m, em⟩ := g; rw [em, List.getElem?_append_left (List.getElem?_eq_some_iff.mp q).1]; exact q⟩
  | .clo _, _, e => e
  | .rol xs, _, ⟨a, vs, e, q, r⟩ => ⟨a, vs, e, q.imp_right fun z => z.imp_right fun ⟨f, y⟩ => ⟨m a f, y⟩, Reps.fz m g xs r⟩
theorem Reps.fz (m : ∀ a, Fz a → Fz' a) (g : ∃ more, ρ' = ρ ++ more) : ∀ (xs : List LV) {vs : List V}, Reps R Fz ρ H xs vs → Reps R Fz' ρ' H xs vs
  | [], _, e => e
  | x :: xs, _, ⟨v, r, e, q, t⟩ => ⟨v, r, e, Rep.fz m g x q, Reps.fz m g xs t⟩
theorem RepK.fz (m : ∀ a, Fz a → Fz' a) (g : ∃ more, ρ' = ρ ++ more) : ∀ (kvs : List (LV × LV)) {es}, RepK R Fz ρ H kvs es → RepK R Fz' ρ' H kvs es
  | [], _, e => e
  | (k, v) :: r, _, ⟨q, y, t, e, a, b, c, d⟩ => ⟨q, y, t, e, a, b, Rep.fz m g v c, RepK.fz m g r d⟩
end
theorem FRep.fz (m : ∀ a, Fz a → Fz' a) (g : ∃ more, ρ' = ρ ++ more) : ∀ {fs : List (Nat × LV)} {es}, FRep R Fz ρ H fs es → FRep R Fz' ρ' H fs es
  | [], _, e => e
  | (a, v) :: r, _, ⟨y, t, e, l, c, d⟩ => ⟨y, t, e, l, Rep.fz m g v c, FRep.fz m g d⟩
theorem ORep.fz (m : ∀ a, Fz a → Fz' a) (g : ∃ more, ρ' = ρ ++ more) {o : LO} {a : Addr} (x : ORep R Fz ρ H o a) : ORep R Fz' ρ' H o a := by
  cases o with
  | lst xs => obtain ⟨vs, q, r⟩ := x; exact ⟨vs, q, Reps.fz m g xs r⟩
  | dct kvs => obtain ⟨es, q, r⟩ := x; exact ⟨es, q, RepK.fz m g kvs r⟩
  | ins c fs => obtain ⟨dx, es, q, l, r⟩ := x; exact ⟨dx, es, q, l, r.fz m g⟩
theorem Cont.fz (m : ∀ a, Fz a → Fz' a) (g : ∃ more, ρ' = ρ ++ more) {v : LV} {a : Addr} (x : Cont R Fz ρ H v a) : Cont R Fz' ρ' H v a := by
  cases v with
  | lst xs => obtain ⟨vs, q, r⟩ := x; exact ⟨vs, q, Reps.fz m g xs r⟩
  | dct kvs => obtain ⟨es, q, r⟩ := x; exact ⟨es, q, RepK.fz m g kvs r⟩
  | _ => exact x.elim
theorem Cont.rep {v : LV} {a : Addr} (f : Fz a) (x : Cont R Fz ρ H v a) : Rep R Fz ρ H v (.ref a) := by
  cases v with
  | lst xs => obtain ⟨vs, q, r⟩ := x; exact ⟨a, vs, rfl, f, q, r⟩
  | dct kvs => obtain ⟨es, q, r⟩ := x; exact ⟨a, es, rfl, f, q, r⟩
  | _ => exact x.elim
theorem Core.freeze (C : Core R Fz ρ H h) {a : Addr} (na : a ∉ ρ) (ha : H a ≠ none) : Core R (fun b => Fz b ∨ b = a) ρ H h :=
  ⟨C.len, C.nd, fun n o b h1 h2 => (C.obj n o b h1 h2).fz (fun _ z => .inl z) ⟨[], by simp⟩, fun b z m => z.elim (fun y => C.fz b y m) fun y => na (y ▸ m), fun b z => z.elim (C.fzt b) fun y => y ▸ ha, C.tab⟩
theorem Ext.freeze (E : Ext Fz ρ H Fz' ρ' H') {a : Addr} (n : H a = none) : Ext Fz ρ H (fun b => Fz' b ∨ b = a) ρ' H' :=
  ⟨E.keep, E.some, fun b z => .inl (E.fzs b z), fun b z => z.elim (E.fzn b) fun y => .inr (y ▸ n), E.rho, E.rhn⟩
end
section
variable (R : Cn) (W : WX) (σ : L2.St) (Fz : Addr → Prop) (ρ : List Addr) (H : Hp)
/-- come new: a list or dict that nobody has yet -/
def RepF (H0 : Hp) (v : LV) (x : V) : Prop :=
  match v with
  | .lst xs => ∃ a, x = .ref a ∧ Cont R Fz ρ H (.lst xs) a ∧ ¬ Fz a ∧ a ∉ ρ ∧ H0 a = none
  | .dct xs => ∃ a, x = .ref a ∧ Cont R Fz ρ H (.dct xs) a ∧ ¬ Fz a ∧ a ∉ ρ ∧ H0 a = none
  | v => Rep R Fz ρ H v x
def okF (h' : Ev.Hp) (v : LV) (Q : VK) : Prop := ∀ x H' Fz' ρ', Core R Fz' ρ' H' h' → Ext Fz ρ H Fz' ρ' H' → RepF R Fz' ρ' H' H v x → Q x H'
def RF (r : Ev.Res LV) (Q : VK) : Prop := match r with
  | .ok v h' => okF R Fz ρ H h' v Q
  | .exc c h' => exP R W σ Fz ρ H h' c
  | .bad => False
end
section
variable {R : Cn} {W : WX} {O : Orc} {σ : L2.St} {Fz Fz' : Addr → Prop} {ρ ρ' : List Addr} {H H' : Hp} {h h' : Ev.Hp} {L : Ev.Env}
theorem okP.toF {v : LV} {Q : VK} (k : okP R Fz ρ H h' v Q) : okF R Fz ρ H h' v Q := by
  intro x H1 F1 r1 C1 E1 r
  cases v with
  | lst xs =>
    obtain ⟨a, rfl, c, nf, nr, n0⟩ := r
    exact k _ H1 _ r1 (C1.freeze nr c.some) (E1.freeze n0) (Cont.rep (.inr rfl) (c.fz (fun _ z => .inl z) ⟨[], by simp⟩))
  | dct xs =>
    obtain ⟨a, rfl, c, nf, nr, n0⟩ := r
    exact k _ H1 _ r1 (C1.freeze nr c.some) (E1.freeze n0) (Cont.rep (.inr rfl) (c.fz (fun _ z => .inl z) ⟨[], by simp⟩))
  | _ => exact k x H1 F1 r1 C1 E1 r
theorem RS.toF {r : Ev.Res LV} {Q : VK} (k : RS R W σ Fz ρ H r Q) : RF R W σ Fz ρ H r Q := by
  cases r with
  | ok v h' => exact okP.toF k
  | exc c h' => exact k
  | bad => exact k
theorem RepF.back {H0 H1 : Hp} (b : ∀ a, H1 a = none → H0 a = none) {v : LV} {x : V} (r : RepF R Fz ρ H H1 v x) : RepF R Fz ρ H H0 v x := by
  cases v with
  | lst xs => obtain ⟨a, e, c, n1, n2, n3⟩ := r; exact ⟨a, e, c, n1, n2, b a n3⟩
  | dct xs => obtain ⟨a, e, c, n1, n2, n3⟩ := r; exact ⟨a, e, c, n1, n2, b a n3⟩
  | _ => exact r
theorem Ext.none (E : Ext Fz ρ H Fz' ρ' H') {a : Addr} (n : H' a = none) : H a = none := by
  cases q : H a with
  | none => rfl
  | some o => exact absurd n (E.some a (by rw [q]; simp))
theorem okF.ext (E : Ext Fz ρ H Fz' ρ' H') {v : LV} {Q : VK} (k : okF R Fz ρ H h' v Q) : okF R Fz' ρ' H' h' v Q := fun x H2 F2 r2 C2 E2 R2 => k x H2 F2 r2 C2 (E.trans E2) (R2.back fun _ => E.none)
theorem RF.ext (E : Ext Fz ρ H Fz' ρ' H') {r : Ev.Res LV} {Q : VK} (k : RF R W σ Fz ρ H r Q) : RF R W σ Fz' ρ' H' r Q := by
  cases r with
  | ok v h' => exact okF.ext E k
  | exc c h' => exact exP.ext E k
  | bad => exact k
theorem okF.lst {xs : List LV} {vs : List V} {Q : VK} (C : Core R Fz ρ H h) (k : okF R Fz ρ H h (.lst xs) Q) (r : Reps R Fz ρ H xs vs) : ∀ p, H p = none → Q (.ref p) (upd H p (.lst vs)) := fun p hp => by
  obtain ⟨C1, E1⟩ := C.grow hp (.lst vs) (Fz' := Fz) (fun _ z => z) fun _ z => .inl z
  exact k _ _ _ _ C1 E1 ⟨p, rfl, ⟨vs, upd_same, Reps.mono C E1 xs r⟩, fun z => C.fzt p z hp, fun m => C.live m hp, hp⟩
theorem okF.dct {xs : List (LV × LV)} {vs : List (Key × V)} {Q : VK} (C : Core R Fz ρ H h) (k : okF R Fz ρ H h (.dct xs) Q) (r : RepK R Fz ρ H xs vs) : ∀ p, H p = none → Q (.ref p) (upd H p (.dK vs)) := fun p hp => by
  obtain ⟨C1, E1⟩ := C.grow hp (.dK vs) (Fz' := Fz) (fun _ z => z) fun _ z => .inl z
  exact k _ _ _ _ C1 E1 ⟨p, rfl, ⟨vs, upd_same, RepK.mono C E1 xs r⟩, fun z => C.fzt p z hp, fun m => C.live m hp, hp⟩
/-- no list, no dict -/
def solid : LV → Bool
  | .lst _ => false
  | .dct _ => false
  | _ => true
theorem okF.toP {v : LV} {Q : VK} (s : solid v = true) (k : okF R Fz ρ H h' v Q) : okP R Fz ρ H h' v Q := by
  intro x H1 F1 r1 C1 E1 r
  cases v with
  | lst xs => cases s
  | dct xs => cases s
  | _ => exact k x H1 F1 r1 C1 E1 r

/-! ### what an end gives -/
theorem okP.now {v : LV} {Q : VK} (C : Core R Fz ρ H h) (k : okP R Fz ρ H h v Q) {x : V} (r : Rep R Fz ρ H v x) : Q x H := k x H Fz ρ C Ext.refl r
theorem okP.int {i : Int} {Q : VK} (C : Core R Fz ρ H h) (k : okP R Fz ρ H h (.int i) Q) : Q (.int i) H := k.now C rfl
theorem okP.bl {b : Bool} {Q : VK} (C : Core R Fz ρ H h) (k : okP R Fz ρ H h (.bl b) Q) : Q (.bl b) H := k.now C rfl
theorem okP.tup {xs : List LV} {vs : List V} {Q : VK} (C : Core R Fz ρ H h) (k : okP R Fz ρ H h (.tup xs) Q) (r : Reps R Fz ρ H xs vs) : ∀ p, H p = none → Q (.ref p) (upd H p (.tup vs)) := fun p hp => by
  obtain ⟨C1, E1⟩ := C.grow hp (.tup vs) (Fz' := Fz) (fun _ z => z) fun _ z => .inl z
  exact k _ _ _ _ C1 E1 ⟨p, vs, rfl, .inl (.inl upd_same), Reps.mono C E1 xs r⟩
theorem okP.lst {xs : List LV} {vs : List V} {Q : VK} (C : Core R Fz ρ H h) (k : okP R Fz ρ H h (.lst xs) Q) (r : Reps R Fz ρ H xs vs) : ∀ p, H p = none → Q (.ref p) (upd H p (.lst vs)) := fun p hp => by
  obtain ⟨C1, E1⟩ := C.grow hp (.lst vs) (Fz' := fun a => Fz a ∨ a = p) (fun _ z => .inl z) fun _ z => z
  exact k _ _ _ _ C1 E1 ⟨p, vs, rfl, .inr rfl, upd_same, Reps.mono C E1 xs r⟩

/-! ### two by two -/
/-- an operation of two values, as the layer's rule r asks it -/
def Op2 (R : Cn) (o : Ev.Op) (r : R2) : Prop := ∀ (Fz : Addr → Prop) (ρ : List Addr) (H : Hp) (h : Ev.Hp) (v1 v2 v : LV) (x y : V) (Q : VK), Core R Fz ρ H h → RepW R Fz ρ H v1 x → RepW R Fz ρ H v2 y →
  Ev.opv o [v1, v2] = some v → okP R Fz ρ H h v Q → r x y H Q
/-- .. with a list of its own -/
def Op2F (R : Cn) (o : Ev.Op) (r : R2) : Prop := ∀ (Fz : Addr → Prop) (ρ : List Addr) (H : Hp) (h : Ev.Hp) (v1 v2 v : LV) (x y : V) (Q : VK), Core R Fz ρ H h → RepW R Fz ρ H v1 x → RepW R Fz ρ H v2 y →
  Ev.opv o [v1, v2] = some v → okF R Fz ρ H h v Q → r x y H Q
theorem Op2F.op2 {o : Ev.Op} {r : R2} (f : Op2F R o r) : Op2 R o r := fun Fz ρ H h v1 v2 v x y Q C r1 r2 e k => f Fz ρ H h v1 v2 v x y Q C r1 r2 e k.toF
theorem st_app (a b : List Nat) : st (a ++ b) = st a ++ st b := by
  show (⟨(a ++ b).toArray⟩ : Str) = ⟨a.toArray ++ b.toArray⟩
  simp
theorem st_len (a : List Nat) : (st a).length = a.length := by
  show a.toArray.size = a.length
  simp
theorem okS.app {a b : List Nat} (h1 : okS a) (h2 : okS b) (l : a.length + b.length ≤ Ev.SL) : okS (a ++ b) :=
  ⟨fun c m => (List.mem_append.mp m).elim (h1.1 c) (h2.1 c), by rw [List.length_append]; exact l⟩
abbrev rStrAdd : R2 := fun x y H Q => ∃ i j, x = .str i ∧ y = .str j ∧ i.length + j.length ≤ sizeLine ∧ Q (.str (i ++ j)) H
abbrev rAdd4 (K : PySem.W.Frag) : R2 := fun x y H Q => rI0 (fun i j => .int (i + j)) x y H Q ∨ rStrAdd x y H Q ∨ rCatA K x y H Q ∨ rCat x y H Q
theorem op_add4 {X : Cx} : OpR X (binaryOp .Add) (rAdd4 X.K) := op_add.or (op_add_str.or (op_catA.or op_cat))
theorem semF_add : Op2F R .add (rAdd4 R.K) := by
  intro Fz ρ H h v1 v2 v x y Q C r1 r2 e k
  cases v1 <;> first | (cases e; done) | (cases v2 <;> first | (cases e; done) | skip)
  · cases e; cases r1; cases r2
    exact .inl ⟨_, _, rfl, rfl, (k.toP rfl).int C⟩
  all_goals (
    dsimp only [Ev.opv, Ev.bi, Ev.bi3, Ev.un, Ev.addV, Ev.mulV, Ev.fdivV, Ev.modV, Ev.powV] at e
    split at e
    rename_i hl
    cases e
    rw [SL_eq] at hl)
  · obtain ⟨rfl, o1⟩ := r1
    obtain ⟨rfl, o2⟩ := r2
    refine .inr (.inl ⟨_, _, rfl, rfl, by rw [st_len, st_len]; exact hl, ?_⟩)
    rw [← st_app]
    exact (k.toP rfl).now C ⟨rfl, o1.app o2 (by rw [SL_eq]; exact hl)⟩
  · cases e
  · obtain ⟨a, vs, rfl, q1, t1⟩ := r1
    obtain ⟨b, ws, rfl, q2, t2⟩ := r2
    refine .inr (.inr (.inl ⟨a, b, vs, ws, rfl, rfl, q1, q2, by rw [← t1.length, ← t2.length]; exact hl, fun z => ?_, fun _ z => ?_, fun _ _ => okP.tup C (k.toP rfl) (t1.append t2)⟩))
    · have z1 := t1.nil_iff.mp z
      subst z1
      exact (k.toP rfl).now C ⟨b, ws, rfl, q2, by simpa using t2⟩
    · have z1 := t2.nil_iff.mp z
      subst z1
      exact (k.toP rfl).now C ⟨a, vs, rfl, q1, by simpa using t1⟩
  · cases e
  · obtain ⟨a, vs, rfl, q1, t1⟩ := r1
    obtain ⟨b, ws, rfl, q2, t2⟩ := r2
    exact .inr (.inr (.inr ⟨a, b, vs, ws, rfl, rfl, q1, q2, by rw [← t1.length, ← t2.length]; exact hl, okF.lst C k (t1.append t2)⟩))
  · cases e
theorem sem_add : Op2 R .add (rAdd4 R.K) := semF_add.op2
theorem sem_sub : Op2 R .sub (rI0 fun i j => .int (i - j)) := by
  intro Fz ρ H h v1 v2 v x y Q C r1 r2 e k
  cases v1 <;> first | (cases e; done) | (cases v2 <;> first | (cases e; done) | skip)
  cases e; cases r1; cases r2
  exact ⟨_, _, rfl, rfl, k.int C⟩
abbrev rMul2 : R2 := fun x y H Q => rI CMul (fun i j => .int (i * j)) x y H Q ∨ rRep x y H Q
theorem op_mul2 {X : Cx} : OpR X (binaryOp .Mult) rMul2 := op_mul.or op_rep
theorem semF_mul : Op2F R .mul rMul2 := by
  intro Fz ρ H h v1 v2 v x y Q C r1 r2 e k
  cases v1 <;> first | (cases e; done) | (cases v2 <;> first | (cases e; done) | skip)
  all_goals (
    dsimp only [Ev.opv, Ev.bi, Ev.bi3, Ev.un, Ev.addV, Ev.mulV, Ev.fdivV, Ev.modV, Ev.powV] at e
    split at e
    rename_i hl
    cases e)
  · cases r1; cases r2
    refine .inl ⟨_, _, rfl, rfl, ?_, (k.toP rfl).int C⟩
    rcases hl with z | z
    · exact .inl (by omega)
    · exact .inr (by omega)
  all_goals first | (cases e; done) | skip
  · obtain ⟨a, vs, rfl, q1, t1⟩ := r1
    cases r2
    refine .inr ⟨a, _, vs, rfl, rfl, q1, by omega, by omega, by rw [← t1.length, ← SL_eq]; exact hl.1, okF.lst C k (t1.rep _)⟩
theorem sem_mul : Op2 R .mul rMul2 := semF_mul.op2
theorem sem_fdiv : Op2 R .fdiv (rI CDivN fun i j => .int (i.fdiv j)) := by
  intro Fz ρ H h v1 v2 v x y Q C r1 r2 e k
  cases v1 <;> first | (cases e; done) | (cases v2 <;> first | (cases e; done) | skip)
  dsimp only [Ev.opv, Ev.bi, Ev.bi3, Ev.un, Ev.addV, Ev.mulV, Ev.fdivV, Ev.modV, Ev.powV] at e
  split at e
  · rename_i hl
    cases e; cases r1; cases r2
    exact ⟨_, _, rfl, rfl, hl, k.int C⟩
  · cases e
theorem sem_mod : Op2 R .mod (rI (fun _ j => j ≠ 0) fun i j => .int (i.fmod j)) := by
  intro Fz ρ H h v1 v2 v x y Q C r1 r2 e k
  cases v1 <;> first | (cases e; done) | (cases v2 <;> first | (cases e; done) | skip)
  dsimp only [Ev.opv, Ev.bi, Ev.bi3, Ev.un, Ev.addV, Ev.mulV, Ev.fdivV, Ev.modV, Ev.powV] at e
  split at e
  · rename_i hl
    cases e; cases r1; cases r2
    exact ⟨_, _, rfl, rfl, hl, k.int C⟩
  · cases e
theorem sem_pow : Op2 R .pow (rI CPow fun i j => .int (i ^ j.toNat)) := by
  intro Fz ρ H h v1 v2 v x y Q C r1 r2 e k
  cases v1 <;> first | (cases e; done) | (cases v2 <;> first | (cases e; done) | skip)
  dsimp only [Ev.opv, Ev.bi, Ev.bi3, Ev.un, Ev.addV, Ev.mulV, Ev.fdivV, Ev.modV, Ev.powV] at e
  split at e
  · rename_i hl
    cases e; cases r1; cases r2
    exact ⟨_, _, rfl, rfl, ⟨hl.1, by omega, hl.2.2⟩, k.int C⟩
  · cases e
end
end Sd
end
section
set_option maxRecDepth 100000
set_option maxHeartbeats 2000000
/-! operations by values: ==, in, places, slices, sizes -/
namespace Sd
open PySem PySem.Spec PyProof.Rows L2
open Ev (LV LO CE CEs Src Tg Tgs CKs TG TGs CS CSs Prg Orc Slot)

theorem st_inj {a b : List Nat} (h : st a = st b) : a = b := by
  have e : a.toArray = b.toArray := congrArg Str.cps h
  simpa using e
theorem st_beq (a b : List Nat) : (st a == st b) = (a == b) := by
  rw [Bool.eq_iff_iff, beq_iff_eq, beq_iff_eq]
  exact ⟨st_inj, fun e => by rw [e]⟩
mutual
def toD : LV → PyData
  | .non => .none
  | .bl b => .bool b
  | .int i => .int i
  | .str s => .str (st s)
  | .tup xs => .tuple (toDs xs)
  | .lst xs => .list (toDs xs)
  | _ => .none
def toDs : List LV → List PyData
  | [] => []
  | x :: xs => toD x :: toDs xs
end
theorem b2i_eq (b : Bool) : Ev.b2i b = if b then 1 else 0 := rfl
mutual
theorem eqv_toD : ∀ (a b : LV) (n m : Nat), a.pd n = true → b.pd m = true → PyData.eqv (toD a) (toD b) = a.eqv b
  | .non, b, n, m, h1, h2 => by cases b <;> first | rfl | (cases m <;> cases h2)
  | .bl x, b, n, m, h1, h2 => by cases b <;> first | rfl | (cases m <;> cases h2)
  | .int x, b, n, m, h1, h2 => by cases b <;> first | rfl | (cases m <;> cases h2)
  | .str x, b, n, m, h1, h2 => by
    cases b <;> first | rfl | (cases m <;> cases h2; done) | skip
    exact st_beq _ _
  | .tup xs, b, n, m, h1, h2 => by
    cases n with
    | zero => cases h1
    | succ n =>
      cases b <;> first | rfl | (cases m <;> cases h2; done) | skip
      rename_i ys
      cases m with
      | zero => cases h2
      | succ m => exact eqv_toDs xs ys n m h1 h2
  | .lst xs, b, n, m, h1, h2 => by
    cases n with
    | zero => cases h1
    | succ n =>
      cases b <;> first | rfl | (cases m <;> cases h2; done) | skip
      rename_i ys
      cases m with
      | zero => cases h2
      | succ m => exact eqv_toDs xs ys n m h1 h2
  | .dct _, b, n, m, h1, h2 => by cases n <;> cases h1
  | .ref _, b, n, m, h1, h2 => by cases n <;> cases h1
  | .clo _, b, n, m, h1, h2 => by cases n <;> cases h1
  | .rol _, b, n, m, h1, h2 => by cases n <;> cases h1
theorem eqv_toDs : ∀ (xs ys : List LV) (n m : Nat), xs.all (LV.pd n) = true → ys.all (LV.pd m) = true → PyData.eqvAll (toDs xs) (toDs ys) = Ev.eqvs xs ys
  | [], [], _, _, _, _ => rfl
  | [], _ :: _, _, _, _, _ => rfl
  | _ :: _, [], _, _, _, _ => rfl
  | x :: xs, y :: ys, n, m, h1, h2 => by
    rw [List.all_cons, Bool.and_eq_true] at h1 h2
    show (PyData.eqv (toD x) (toD y) && PyData.eqvAll (toDs xs) (toDs ys)) = (x.eqv y && Ev.eqvs xs ys)
    rw [eqv_toD x y n m h1.1 h2.1, eqv_toDs xs ys n m h1.2 h2.2]
end
section
variable {R : Cn} {W : WX} {O : Orc} {σ : L2.St} {Fz Fz' : Addr → Prop} {ρ ρ' : List Addr} {H H' : Hp} {h h' : Ev.Hp} {L : Ev.Env}
theorem okS.strOk {s : List Nat} (o : okS s) : PyData.strOk (st s) = true := by
  unfold PyData.strOk st
  rw [Array.all_eq_true]
  intro i hi
  have hi' : i < s.length := by simpa using hi
  have e := o.1 s[i] (List.getElem_mem hi')
  simpa using e
mutual
theorem Rep.dp : ∀ (v : LV) (n : Nat) {x : V}, v.pd n = true → Rep R Fz ρ H v x → Dp R.K H x (toD v) ∧ (toD v).canLay0 = true ∧ (toD v).depth ≤ n
  | .non, n, _, p, e => by rw [show _ = _ from e]; exact ⟨.non, rfl, Nat.zero_le _⟩
  | .bl b, n, _, p, e => by rw [show _ = _ from e]; exact ⟨.bl b, rfl, Nat.zero_le _⟩
  | .int i, n, _, p, e => by rw [show _ = _ from e]; exact ⟨.int i, rfl, Nat.zero_le _⟩
  | .str s, n, _, p, ⟨e, o⟩ => by rw [e]; exact ⟨.str _, o.strOk, Nat.zero_le _⟩
  | .tup xs, n, _, p, ⟨a, vs, e, q, t⟩ => by
    cases n with
    | zero => cases p
    | succ n =>
      obtain ⟨d, l, z⟩ := Reps.dp xs n p t
      rw [e]
      exact ⟨.tup q d, l, by simp only [toD, PyData.depth]; omega⟩
  | .lst xs, n, _, p, ⟨a, vs, e, f, q, t⟩ => by
    cases n with
    | zero => cases p
    | succ n =>
      obtain ⟨d, l, z⟩ := Reps.dp xs n p t
      rw [e]
      exact ⟨.lst (.inl (.inl q)) d, l, by simp only [toD, PyData.depth]; omega⟩
  | .dct _, n, _, p, _ => by cases n <;> cases p
  | .ref _, n, _, p, _ => by cases n <;> cases p
  | .clo _, n, _, p, _ => by cases n <;> cases p
  | .rol _, n, _, p, _ => by cases n <;> cases p
theorem Reps.dp : ∀ (xs : List LV) (n : Nat) {vs : List V}, xs.all (LV.pd n) = true → Reps R Fz ρ H xs vs → DpAll R.K H vs (toDs xs) ∧ PyData.canLayAll0 (toDs xs) = true ∧ PyData.depthAll (toDs xs) ≤ n
  | [], n, _, p, e => by rw [show _ = [] from e]; exact ⟨.nil, rfl, Nat.zero_le _⟩
  | x :: xs, n, _, p, ⟨v, r, e, a, t⟩ => by
    rw [List.all_cons, Bool.and_eq_true] at p
    obtain ⟨d1, l1, z1⟩ := Rep.dp x n p.1 a
    obtain ⟨d2, l2, z2⟩ := Reps.dp xs n p.2 t
    rw [e]
    refine ⟨.cons d1 d2, ?_, ?_⟩
    · show (PyData.canLay0 _ && PyData.canLayAll0 _) = true
      rw [l1, l2]; rfl
    · show max _ _ ≤ n
      exact Nat.max_le.mpr ⟨z1, z2⟩
end
theorem RepW.dp {v : LV} {n : Nat} {x : V} (p : v.pd n = true) (r : RepW R Fz ρ H v x) : Dp R.K H x (toD v) ∧ (toD v).canLay0 = true ∧ (toD v).depth ≤ n := by
  cases v with
  | lst xs =>
    obtain ⟨a, vs, e, q, t⟩ := r
    cases n with
    | zero => cases p
    | succ n =>
      obtain ⟨d, l, z⟩ := Reps.dp xs n p t
      rw [e]
      exact ⟨.lst (.inl (.inl q)) d, l, by simp only [toD, PyData.depth]; omega⟩
  | dct kvs => cases n <;> cases p
  | _ => exact Rep.dp (Fz := Fz) (ρ := ρ) _ n p r
theorem shaped_of {d : PyData} (l : d.canLay0 = true) (z : d.depth ≤ 60) : SeqAt.shaped d = true := by
  unfold SeqAt.shaped
  rw [l, decide_eq_true (show d.depth ≤ 64 by omega)]
  rfl
theorem sem_eq : Op2 R .eq (rEqD R.K) := by
  intro Fz ρ H h v1 v2 v x y Q C r1 r2 e k
  dsimp only [Ev.opv, Ev.bi, Ev.bi3, Ev.un, Ev.eqV, Ev.neV] at e
  split at e
  · rename_i p
    rw [Bool.and_eq_true] at p
    cases e
    obtain ⟨d1, l1, z1⟩ := r1.dp p.1
    obtain ⟨d2, l2, z2⟩ := r2.dp p.2
    refine ⟨_, _, d1, d2, shaped_of l1 z1, shaped_of l2 z2, ?_⟩
    rw [eqv_toD _ _ _ _ p.1 p.2]
    exact k.bl C
  · cases e
theorem sem_ne : Op2 R .ne (rNeD R.K) := by
  intro Fz ρ H h v1 v2 v x y Q C r1 r2 e k
  dsimp only [Ev.opv, Ev.bi, Ev.bi3, Ev.un, Ev.eqV, Ev.neV] at e
  split at e
  · rename_i p
    rw [Bool.and_eq_true] at p
    cases e
    obtain ⟨d1, l1, z1⟩ := r1.dp p.1
    obtain ⟨d2, l2, z2⟩ := r2.dp p.2
    refine ⟨_, _, d1, d2, shaped_of l1 z1, shaped_of l2 z2, ?_⟩
    rw [eqv_toD _ _ _ _ p.1 p.2]
    exact k.bl C
  · cases e
theorem strLt_eq : ∀ a b : List Nat, Ev.strLt a b = decide (a < b)
  | [], [] => rfl
  | [], _ :: _ => by simp [Ev.strLt]
  | _ :: _, [] => by simp [Ev.strLt]
  | x :: xs, y :: ys => by
    unfold Ev.strLt
    rw [strLt_eq xs ys, Bool.eq_iff_iff, decide_eq_true_eq, List.cons_lt_cons_iff]
    by_cases h1 : x < y
    · simp [h1]
    · by_cases h2 : y < x
      · simp [h1, h2]; omega
      · have : x = y := by omega
        subst this
        simp
theorem st_toList (a : List Nat) : (st a).cps.toList = a := by simp [st]
theorem q_cong {Q : VK} {H : Hp} {a b : Bool} (e : a = b) (h : Q (.bl a) H) : Q (.bl b) H := e ▸ h
abbrev rLt2 : R2 := fun x y H Q => rI0 (fun i j => .bl (decide (i < j))) x y H Q ∨ ∃ i j, x = .str i ∧ y = .str j ∧ Q (.bl (decide (i.cps.toList < j.cps.toList))) H
abbrev rGt2 : R2 := fun x y H Q => rI0 (fun i j => .bl (decide (j < i))) x y H Q ∨ ∃ i j, x = .str i ∧ y = .str j ∧ Q (.bl (decide (j.cps.toList < i.cps.toList))) H
theorem op_lt2 {X : Cx} : OpR X (compareOp .Lt) rLt2 := op_lt.or op_lt_str
theorem op_gt2 {X : Cx} : OpR X (compareOp .Gt) rGt2 := op_gt.or op_gt_str
theorem sem_lt : Op2 R .lt rLt2 := by
  intro Fz ρ H h v1 v2 v x y Q C r1 r2 e k
  cases v1 <;> first | (cases e; done) | (cases v2 <;> first | (cases e; done) | skip)
  · cases e; cases r1; cases r2
    exact .inl ⟨_, _, rfl, rfl, k.bl C⟩
  · cases e; obtain ⟨rfl, _⟩ := r1; obtain ⟨rfl, _⟩ := r2
    refine .inr ⟨_, _, rfl, rfl, q_cong ?_ (k.bl C)⟩
    rw [strLt_eq, Bool.eq_iff_iff, decide_eq_true_eq, decide_eq_true_eq, st_toList, st_toList]
theorem sem_gt : Op2 R .gt rGt2 := by
  intro Fz ρ H h v1 v2 v x y Q C r1 r2 e k
  cases v1 <;> first | (cases e; done) | (cases v2 <;> first | (cases e; done) | skip)
  · cases e; cases r1; cases r2
    exact .inl ⟨_, _, rfl, rfl, k.bl C⟩
  · cases e; obtain ⟨rfl, _⟩ := r1; obtain ⟨rfl, _⟩ := r2
    refine .inr ⟨_, _, rfl, rfl, q_cong ?_ (k.bl C)⟩
    rw [strLt_eq, Bool.eq_iff_iff, decide_eq_true_eq, decide_eq_true_eq, st_toList, st_toList]
theorem sem_le : Op2 R .le (rI0 fun i j => .bl (decide (i ≤ j))) := by
  intro Fz ρ H h v1 v2 v x y Q C r1 r2 e k
  cases v1 <;> first | (cases e; done) | (cases v2 <;> first | (cases e; done) | skip)
  cases e; cases r1; cases r2
  exact ⟨_, _, rfl, rfl, k.bl C⟩
theorem sem_ge : Op2 R .ge (rI0 fun i j => .bl (decide (j ≤ i))) := by
  intro Fz ρ H h v1 v2 v x y Q C r1 r2 e k
  cases v1 <;> first | (cases e; done) | (cases v2 <;> first | (cases e; done) | skip)
  cases e; cases r1; cases r2
  exact ⟨_, _, rfl, rfl, k.bl C⟩
/-! ### in -/
theorem pd0_flat {v : LV} {x : V} (p : v.pd 0 = true) (r : Rep R Fz ρ H v x) : flatV x = true := by
  cases v <;> first | (cases p; done) | (cases r; rfl) | (obtain ⟨rfl, _⟩ := r; rfl)
theorem pd0_eqV {v w : LV} {x y : V} (p : v.pd 0 = true) (q : w.pd 0 = true) (r : Rep R Fz ρ H v x) (t : Rep R Fz ρ H w y) : eqV x y = v.eqv w := by
  cases v <;> first | (cases p; done) | (cases w <;> first | (cases q; done) | skip)
  all_goals first
    | (cases r; cases t; rfl)
    | (cases r; obtain ⟨rfl, _⟩ := t; rfl)
    | (obtain ⟨rfl, _⟩ := r; cases t; rfl)
    | (obtain ⟨rfl, _⟩ := r; obtain ⟨rfl, _⟩ := t; exact st_beq _ _)
theorem beq_comm_int (a b : Int) : (a == b) = (b == a) := by
  rw [Bool.eq_iff_iff, beq_iff_eq, beq_iff_eq]; exact eq_comm
theorem beq_comm_l (a b : List Nat) : (a == b) = (b == a) := by
  rw [Bool.eq_iff_iff, beq_iff_eq, beq_iff_eq]; exact eq_comm
mutual
theorem eqv_comm : ∀ a b : LV, a.eqv b = b.eqv a
  | .non, b => by cases b <;> rfl
  | .bl x, b => by cases b <;> first | rfl | (exact beq_comm_int _ _) | (rename_i y; cases x <;> cases y <;> rfl)
  | .int x, b => by cases b <;> first | rfl | (exact beq_comm_int _ _)
  | .str x, b => by cases b <;> first | rfl | (exact beq_comm_l _ _)
  | .tup xs, b => by cases b <;> first | rfl | (exact eqvs_comm _ _)
  | .lst xs, b => by cases b <;> first | rfl | (exact eqvs_comm _ _)
  | .dct _, b => by cases b <;> rfl
  | .ref x, b => by cases b <;> first | rfl | (rename_i y; show (x == y) = (y == x); rw [Bool.eq_iff_iff, beq_iff_eq, beq_iff_eq]; exact eq_comm)
  | .clo _, b => by cases b <;> rfl
  | .rol _, b => by cases b <;> rfl
theorem eqvs_comm : ∀ xs ys : List LV, Ev.eqvs xs ys = Ev.eqvs ys xs
  | [], [] => rfl
  | [], _ :: _ => rfl
  | _ :: _, [] => rfl
  | x :: xs, y :: ys => by
    show (x.eqv y && Ev.eqvs xs ys) = (y.eqv x && Ev.eqvs ys xs)
    rw [eqv_comm x y, eqvs_comm xs ys]
end
theorem inV_eq {v : LV} {x : V} (p : v.pd 0 = true) (r : Rep R Fz ρ H v x) : ∀ {ys : List LV} {vs : List V}, ys.all (LV.pd 0) = true → Reps R Fz ρ H ys vs → vs.all flatV = true ∧ inV x vs = Ev.inL v ys
  | [], _, _, e => by rw [show _ = [] from e]; exact ⟨rfl, rfl⟩
  | y :: ys, _, q, ⟨w, t, e, a, b⟩ => by
    rw [List.all_cons, Bool.and_eq_true] at q
    obtain ⟨f, g⟩ := inV_eq p r q.2 b
    rw [e]
    refine ⟨by rw [List.all_cons, pd0_flat q.1 a, f]; rfl, ?_⟩
    show (eqV w x || inV x t) = (v.eqv y || Ev.inL v ys)
    rw [g, pd0_eqV q.1 p a r, eqv_comm]
abbrev rIn4 (K : PySem.W.Frag) : R2 := fun x y H Q => rIn K false x y H Q ∨ rInD K x y H Q ∨ (∃ a o, y = .ref a ∧ DGet H a x o ∧ Q (.bl o.isSome) H) ∨ (∃ (c : Nat) (z : Str), x = .str ⟨#[c]⟩ ∧ y = .str z ∧ Q (.bl (decide (c ∈ z.cps.toList))) H)
abbrev rNin4 (K : PySem.W.Frag) : R2 := fun x y H Q => rIn K true x y H Q ∨ rNotInD K x y H Q ∨ (∃ a o, y = .ref a ∧ DGet H a x o ∧ Q (.bl (!o.isSome)) H) ∨ (∃ (c : Nat) (z : Str), x = .str ⟨#[c]⟩ ∧ y = .str z ∧ Q (.bl (!decide (c ∈ z.cps.toList))) H)
theorem op_dinV {X : Cx} (hu : X.A.units + 1 < cLine) : OpR X (compareOp .In) (fun x y H Q => ∃ a o, y = .ref a ∧ DGet H a x o ∧ Q (.bl o.isSome) H) := by
  intro pins s σ H x y v u Q I rx ry ⟨a, o, ey, g, q⟩
  subst ey
  obtain rfl : u = Value.ref a := ry
  exact d_in hu I g rx fun s3 I3 => ⟨.bl o.isSome, H, I3, rfl, q⟩
theorem op_dninV {X : Cx} (hu : X.A.units + 1 < cLine) : OpR X (compareOp .NotIn) (fun x y H Q => ∃ a o, y = .ref a ∧ DGet H a x o ∧ Q (.bl (!o.isSome)) H) := by
  intro pins s σ H x y v u Q I rx ry ⟨a, o, ey, g, q⟩
  subst ey
  obtain rfl : u = Value.ref a := ry
  exact d_notIn hu I g rx fun s3 I3 => ⟨.bl (!o.isSome), H, I3, rfl, q⟩
theorem op_in4 {X : Cx} (hu : X.A.units + 65 < cLine) : OpR X (compareOp .In) (rIn4 X.K) := op_in_seq.or ((op_inD hu).or ((op_dinV (by omega)).or op_in_sign))
theorem op_nin4 {X : Cx} (hu : X.A.units + 65 < cLine) : OpR X (compareOp .NotIn) (rNin4 X.K) := op_notIn_seq.or ((op_notInD hu).or ((op_dninV (by omega)).or op_notIn_sign))
theorem any_inL (x : LV) (n m : Nat) (p : x.pd n = true) : ∀ ys : List LV, ys.all (LV.pd m) = true → (toDs ys).any (fun z => PyData.eqv z (toD x)) = Ev.inL x ys
  | [], _ => rfl
  | y :: ys, q => by
    rw [List.all_cons, Bool.and_eq_true] at q
    show (PyData.eqv (toD y) (toD x) || (toDs ys).any _) = (x.eqv y || Ev.inL x ys)
    rw [any_inL x n m p ys q.2, eqv_toD _ _ _ _ q.1 p, eqv_comm]
/-- a dict's entry at a key -/
theorem keyF_kV {k : LV} {x : V} {q : Key} (r : Rep R Fz ρ H k x) (e : keyF k = some q) : x = kV q := by
  cases k <;> first | (cases e; done) | skip
  · cases e; exact r
  · cases e; exact r.1
theorem keysF_kV : ∀ {ks : List LV} {xs : List V} {q : List Key}, Reps R Fz ρ H ks xs → keysF ks = some q → xs = q.map kV
  | [], _, _, r, e => by cases e; exact r
  | k :: ks, _, q, ⟨v, t, e1, a, b⟩, e => by
    unfold keysF at e
    cases h1 : keyF k with
    | none => rw [h1] at e; cases e
    | some q1 =>
      cases h2 : keysF ks with
      | none => rw [h1, h2] at e; cases e
      | some q2 =>
        rw [h1, h2] at e
        cases e
        rw [e1, keyF_kV a h1, keysF_kV b h2]
        rfl
theorem keyF_eqv {a b : LV} {p q : Key} (h1 : keyF a = some p) (h2 : keyF b = some q) : a.eqv b = decide (p = q) := by
  cases a <;> first | (cases h1; done) | (cases b <;> first | (cases h2; done) | skip)
  all_goals (cases h1; cases h2)
  · rename_i i j
    show (i == j) = _
    rw [key_ll]
  · rw [key_lr]; rfl
  · rw [key_rl]; rfl
  · rename_i a b
    show (a == b) = _
    rw [key_rr, ← st_beq, Bool.eq_iff_iff, beq_iff_eq, decide_eq_true_eq]
theorem keysF_eqvs : ∀ {a b : List LV} {p q : List Key}, keysF a = some p → keysF b = some q → Ev.eqvs a b = decide (p = q)
  | [], [], _, _, h1, h2 => by cases h1; cases h2; rfl
  | [], y :: ys, _, q, h1, h2 => by
    cases h1
    cases q with
    | nil => unfold keysF at h2; split at h2 <;> cases h2
    | cons _ _ => rfl
  | x :: xs, [], p, _, h1, h2 => by
    cases h2
    cases p with
    | nil => unfold keysF at h1; split at h1 <;> cases h1
    | cons _ _ => rfl
  | x :: xs, y :: ys, p, q, h1, h2 => by
    unfold keysF at h1 h2
    cases a1 : keyF x with
    | none => rw [a1] at h1; cases h1
    | some k1 =>
      cases a2 : keysF xs with
      | none => rw [a1, a2] at h1; cases h1
      | some l1 =>
        cases b1 : keyF y with
        | none => rw [b1] at h2; cases h2
        | some k2 =>
          cases b2 : keysF ys with
          | none => rw [b1, b2] at h2; cases h2
          | some l2 =>
            rw [a1, a2] at h1; rw [b1, b2] at h2
            cases h1; cases h2
            show (x.eqv y && Ev.eqvs xs ys) = _
            rw [keyF_eqv a1 b1, keysF_eqvs a2 b2, Bool.eq_iff_iff]
            simp
theorem flat_keyF {k : LV} (h : k.flat = true) : ∃ q, keyF k = some q := by
  cases k <;> first | (cases h; done) | exact ⟨_, rfl⟩
theorem flats_keysF : ∀ {ks : List LV}, ks.all LV.flat = true → ∃ q, keysF ks = some q
  | [], _ => ⟨_, rfl⟩
  | k :: ks, h => by
    rw [List.all_cons, Bool.and_eq_true] at h
    obtain ⟨q1, e1⟩ := flat_keyF h.1
    obtain ⟨q2, e2⟩ := flats_keysF h.2
    exact ⟨q1 :: q2, by unfold keysF; rw [e1, e2]⟩
theorem RepK.get {k : LV} {q : Key} (hk : keyF k = some q) : ∀ {kvs : List (LV × LV)} {es : List (Key × V)}, RepK R Fz ρ H kvs es →
    (match Ev.dget k kvs with | some v => ∃ y, valV es q = some y ∧ Rep R Fz ρ H v y | none => valV es q = none)
  | [], _, e => by rw [show _ = [] from e]; exact valV_nil
  | (k2, v) :: r, _, ⟨q2, y, t, e, a, b, c, d⟩ => by
    rw [e]
    unfold Ev.dget
    rw [keyF_eqv hk a]
    by_cases z : q = q2
    · rw [decide_eq_true z, if_pos rfl]
      exact ⟨y, valV_pos z.symm, c⟩
    · rw [decide_eq_false z, if_neg Bool.false_ne_true]
      have ih := RepK.get hk d
      rw [valV_neg (fun e => z e.symm)]
      exact ih
/-- what a dict gives at a key that it takes -/
theorem dget_of {kvs : List (LV × LV)} {es : List (Key × V)} {k : LV} {a : Addr} {x : V} (ok : Ev.okKey k kvs = true) (d : H a = some (.dK es)) (t : RepK R Fz ρ H kvs es) (r : Rep R Fz ρ H k x) :
    ∃ o, DGet H a x o ∧ (match Ev.dget k kvs with | some v => ∃ y, o = some y ∧ Rep R Fz ρ H v y | none => o = none) := by
  obtain ⟨q, hq⟩ := flat_keyF ok
  refine ⟨valV es q, .inl ⟨es, q, .inl d, keyF_kV r hq, rfl⟩, ?_⟩
  have := RepK.get hq t
  exact this
theorem rep_flat {k : LV} {x : V} (f : k.flat = true) (r : RepW R Fz ρ H k x) : Rep R Fz ρ H k x := by
  cases k <;> first | (cases f; done) | exact r
theorem rep_pd0 {k : LV} {x : V} (f : k.pd 0 = true) (r : RepW R Fz ρ H k x) : Rep R Fz ρ H k x := by
  cases k <;> first | (cases f; done) | exact r
end
end Sd
end
section
set_option maxRecDepth 100000
set_option maxHeartbeats 2000000
/-! operations by values: in, places, slices, sizes, calls of built-ins -/
namespace Sd
open PySem PySem.Spec PyProof.Rows L2
open Ev (LV LO CE CEs Src Tg Tgs CKs TG TGs CS CSs Prg Orc Slot)
section
variable {R : Cn} {W : WX} {O : Orc} {σ : L2.St} {Fz Fz' : Addr → Prop} {ρ ρ' : List Addr} {H H' : Hp} {h h' : Ev.Hp} {L : Ev.Env}
theorem dget_some {k : LV} {kvs : List (LV × LV)} {o : Option V} (d : match Ev.dget k kvs with | some v => ∃ y, o = some y ∧ Rep R Fz ρ H v y | none => o = none) : o.isSome = (Ev.dget k kvs).isSome := by
  cases e : Ev.dget k kvs with
  | none => rw [e] at d; rw [show o = none from d] <;> rfl
  | some v => rw [e] at d; obtain ⟨y, e2, _⟩ := d; rw [e2] <;> rfl
theorem one_eq {v : LV} {c : Nat} (h : Ev.one? v = some c) : v = .str [c] := by
  unfold Ev.one? at h
  split at h
  · cases h; rfl
  · cases h
theorem sem_inn : Op2 R .inn (rIn4 R.K) := by
  intro Fz ρ H h v1 v2 v x y Q C r1 r2 e k
  obtain ⟨b, hb, rfl⟩ := Option.map_eq_some_iff.mp (show (Ev.innB v1 v2).map _ = some v from e)
  cases v2 with
  | tup ys =>
    dsimp only [Ev.innB] at hb
    split at hb
    · rename_i p
      rw [Bool.and_eq_true] at p
      cases hb
      obtain ⟨a, vs, rfl, q, t⟩ := r2
      obtain ⟨f, g⟩ := inV_eq p.1 (rep_pd0 p.1 r1) p.2 t
      exact .inl ⟨a, vs, rfl, .inr q, pd0_flat p.1 (rep_pd0 p.1 r1), f, q_cong g.symm (k.bl C)⟩
    · cases hb
  | lst ys =>
    dsimp only [Ev.innB] at hb
    split at hb
    · rename_i p
      rw [Bool.and_eq_true] at p
      cases hb
      obtain ⟨d1, l1, z1⟩ := r1.dp p.1
      obtain ⟨a, vs, rfl, q, t⟩ := r2
      have p2 : (LV.lst ys).pd 61 = true := p.2
      obtain ⟨d2, l2, z2⟩ := RepW.dp (Fz := Fz) (ρ := ρ) (H := H) (R := R) (v := .lst ys) (n := 61) (x := .ref a) p2 ⟨a, vs, rfl, q, t⟩
      refine .inr (.inl ⟨_, toDs ys, d1, d2, shaped_of l1 z1, ?_, q_cong (any_inL _ _ _ p.1 ys p.2).symm (k.bl C)⟩)
      have z3 : (PyData.list (toDs ys)).depth ≤ 61 := z2
      show SeqAt.shaped (.list (toDs ys)) = true
      unfold SeqAt.shaped
      have l3 : (PyData.list (toDs ys)).canLay0 = true := l2
      rw [l3, decide_eq_true (show (PyData.list (toDs ys)).depth ≤ 64 by omega)]
      rfl
    · cases hb
  | dct kvs =>
    dsimp only [Ev.innB] at hb
    split at hb
    · rename_i p
      cases hb
      obtain ⟨a, es, rfl, q, t⟩ := r2
      obtain ⟨o, g, d⟩ := dget_of p q t (rep_flat p r1)
      exact .inr (.inr (.inl ⟨a, o, rfl, g, q_cong (dget_some d).symm (k.bl C)⟩))
    · cases hb
  | str s =>
    obtain ⟨c, hc, rfl⟩ := Option.map_eq_some_iff.mp (show (Ev.one? v1).map _ = some b from hb)
    obtain rfl := one_eq hc
    obtain ⟨rfl, _⟩ := r1
    obtain ⟨rfl, _⟩ := r2
    refine .inr (.inr (.inr ⟨c, _, rfl, rfl, q_cong ?_ (k.bl C)⟩))
    simp only [st_toList]
  | _ => cases hb
theorem sem_nin : Op2 R .nin (rNin4 R.K) := by
  intro Fz ρ H h v1 v2 v x y Q C r1 r2 e k
  obtain ⟨b, hb, rfl⟩ := Option.map_eq_some_iff.mp (show (Ev.innB v1 v2).map _ = some v from e)
  cases v2 with
  | tup ys =>
    dsimp only [Ev.innB] at hb
    split at hb
    · rename_i p
      rw [Bool.and_eq_true] at p
      cases hb
      obtain ⟨a, vs, rfl, q, t⟩ := r2
      obtain ⟨f, g⟩ := inV_eq p.1 (rep_pd0 p.1 r1) p.2 t
      exact .inl ⟨a, vs, rfl, .inr q, pd0_flat p.1 (rep_pd0 p.1 r1), f, q_cong (by rw [g]; rfl) (k.bl C)⟩
    · cases hb
  | lst ys =>
    dsimp only [Ev.innB] at hb
    split at hb
    · rename_i p
      rw [Bool.and_eq_true] at p
      cases hb
      obtain ⟨d1, l1, z1⟩ := r1.dp p.1
      obtain ⟨a, vs, rfl, q, t⟩ := r2
      have p2 : (LV.lst ys).pd 61 = true := p.2
      obtain ⟨d2, l2, z2⟩ := RepW.dp (Fz := Fz) (ρ := ρ) (H := H) (R := R) (v := .lst ys) (n := 61) (x := .ref a) p2 ⟨a, vs, rfl, q, t⟩
      refine .inr (.inl ⟨_, toDs ys, d1, d2, shaped_of l1 z1, ?_, q_cong (by rw [any_inL _ _ _ p.1 ys p.2]) (k.bl C)⟩)
      have z3 : (PyData.list (toDs ys)).depth ≤ 61 := z2
      show SeqAt.shaped (.list (toDs ys)) = true
      unfold SeqAt.shaped
      have l3 : (PyData.list (toDs ys)).canLay0 = true := l2
      rw [l3, decide_eq_true (show (PyData.list (toDs ys)).depth ≤ 64 by omega)]
      rfl
    · cases hb
  | dct kvs =>
    dsimp only [Ev.innB] at hb
    split at hb
    · rename_i p
      cases hb
      obtain ⟨a, es, rfl, q, t⟩ := r2
      obtain ⟨o, g, d⟩ := dget_of p q t (rep_flat p r1)
      exact .inr (.inr (.inl ⟨a, o, rfl, g, q_cong (by rw [dget_some d]) (k.bl C)⟩))
    · cases hb
  | str s =>
    obtain ⟨c, hc, rfl⟩ := Option.map_eq_some_iff.mp (show (Ev.one? v1).map _ = some b from hb)
    obtain rfl := one_eq hc
    obtain ⟨rfl, _⟩ := r1
    obtain ⟨rfl, _⟩ := r2
    refine .inr (.inr (.inr ⟨c, _, rfl, rfl, q_cong ?_ (k.bl C)⟩))
    simp only [st_toList]
  | _ => cases hb
/-! ### places -/
theorem natOf_ixN (i : Int) (n : Nat) : Ev.natOf i n = ixN n i := by
  unfold Ev.natOf ixN
  by_cases h : 0 ≤ i
  · rw [if_pos h, if_pos h]
  · rw [if_neg h, if_neg h]
    by_cases h2 : 0 ≤ i + n
    · rw [if_pos h2, if_pos (by omega)]
    · rw [if_neg h2, if_neg (by omega)]
theorem ix_dict {X : Cx} (hu : X.A.units + 1 < cLine) : IxR X (fun x y H Q => ∃ a v, x = .ref a ∧ DGet H a y (some v) ∧ Q v H) := by
  intro value slice pins s σ H x y v u Q I rx ry ⟨a, z, ex, g, q⟩ hs
  subst ex
  obtain rfl : v = Value.ref a := rx
  exact tail_any (dict_typeIs I g) PySem.F.slot_dict_getitem.lookup (d_getItem hu I g ry fun w' s3 I3 rw' => ⟨z, H, I3, rw', q⟩) hs
abbrev rIx4 (K : PySem.W.Frag) : R2 := fun x y H Q => rIx K x y H Q ∨ ∃ a v, x = .ref a ∧ DGet H a y (some v) ∧ Q v H
theorem ix4 {X : Cx} (hu : X.A.units + 1 < cLine) : IxR X (rIx4 X.K) := ix_seq.or (ix_dict hu)
theorem okS.one {s : List Nat} (o : okS s) {c : Nat} (m : c ∈ s) : okS [c] := ⟨fun d hd => by rw [List.mem_singleton.mp hd]; exact o.1 c m, by show 1 ≤ 16777216; decide⟩
theorem intI_eq {v : LV} {i : Int} (h : Ev.intI v = some i) : v = .int i := by
  unfold Ev.intI at h
  split at h
  · cases h; rfl
  · cases h
theorem sem_idx : Op2 R .idx (rIx4 R.K) := by
  intro Fz ρ H h v1 v2 v x y Q C r1 r2 e k
  replace e : Ev.idxV v1 v2 = some v := e
  cases v1 with
  | tup xs =>
    obtain ⟨i, hi, e⟩ := Option.bind_eq_some_iff.mp (show (Ev.intI v2).bind (fun i => (Ev.natOf i xs.length).bind (fun n => xs[n]?)) = some v from e)
    obtain rfl := intI_eq hi
    obtain ⟨n, e1, e2⟩ := Option.bind_eq_some_iff.mp e
    obtain ⟨a, vs, rfl, q, t⟩ := r1
    obtain ⟨z, ez, rz⟩ := t.get e2
    cases r2
    refine .inl (.inr (.inl ⟨a, vs, i, z, rfl, rfl, q, ?_, k.now C rz⟩))
    unfold atI
    rw [← natOf_ixN, ← t.length, e1]
    exact ez
  | lst xs =>
    obtain ⟨i, hi, e⟩ := Option.bind_eq_some_iff.mp (show (Ev.intI v2).bind (fun i => (Ev.natOf i xs.length).bind (fun n => xs[n]?)) = some v from e)
    obtain rfl := intI_eq hi
    obtain ⟨n, e1, e2⟩ := Option.bind_eq_some_iff.mp e
    obtain ⟨a, vs, rfl, q, t⟩ := r1
    obtain ⟨z, ez, rz⟩ := t.get e2
    cases r2
    refine .inl (.inl ⟨a, vs, i, z, rfl, rfl, .inl (.inl q), ?_, k.now C rz⟩)
    unfold atI
    rw [← natOf_ixN, ← t.length, e1]
    exact ez
  | str s =>
    obtain ⟨i, hi, e⟩ := Option.bind_eq_some_iff.mp (show (Ev.intI v2).bind (fun i => (Ev.natOf i s.length).bind (fun n => s[n]?.map fun c => LV.str [c])) = some v from e)
    obtain rfl := intI_eq hi
    obtain ⟨n, e1, e2⟩ := Option.bind_eq_some_iff.mp e
    obtain ⟨c, e3, e4⟩ := Option.map_eq_some_iff.mp e2
    obtain ⟨rfl, o⟩ := r1
    cases r2
    subst e4
    refine .inl (.inr (.inr ⟨st s, i, c, rfl, rfl, by rw [st_len, ← SL_eq]; exact o.2, ?_, k.now C ⟨rfl, o.one (List.mem_of_getElem? e3)⟩⟩))
    unfold atI
    rw [st_toList, ← natOf_ixN, e1]
    exact e3
  | dct kvs =>
    dsimp only [Ev.idxV] at e
    split at e
    · rename_i p
      obtain ⟨a, es, rfl, q, t⟩ := r1
      obtain ⟨o, g, d⟩ := dget_of p q t (rep_flat p r2)
      rw [e] at d
      obtain ⟨z, eo, rz⟩ := d
      subst eo
      exact .inr ⟨a, z, rfl, g, k.now C rz⟩
    · cases e
  | _ => cases e
/-! ### one -/
def Op1 (R : Cn) (o : Ev.Op) (r : V → Hp → VK → Prop) : Prop := ∀ (Fz : Addr → Prop) (ρ : List Addr) (H : Hp) (h : Ev.Hp) (v1 v : LV) (x : V) (Q : VK), Core R Fz ρ H h → RepW R Fz ρ H v1 x →
  Ev.opv o [v1] = some v → okP R Fz ρ H h v Q → r x H Q
theorem sem_neg : Op1 R .neg (rU fun i => .int (-i)) := by
  intro Fz ρ H h v1 v x Q C r1 e k
  cases v1 <;> first | (cases e; done) | skip
  cases e; cases r1
  exact ⟨_, rfl, k.int C⟩
theorem rep_non {v : LV} {x : V} (r : RepW R Fz ρ H v x) : Ev.isNon v = decide (x = .non) := by
  cases v with
  | non => cases r; rfl
  | bl b => cases r; rfl
  | int b => cases r; rfl
  | str s => obtain ⟨rfl, _⟩ := r; rfl
  | tup xs => obtain ⟨a, vs, rfl, _⟩ := r; rfl
  | lst xs => obtain ⟨a, vs, rfl, _⟩ := r; rfl
  | dct xs => obtain ⟨a, vs, rfl, _⟩ := r; rfl
  | rol xs => obtain ⟨a, vs, rfl, _⟩ := r; rfl
  | ref n => obtain ⟨a, rfl, _⟩ := r; rfl
  | clo k => exact r.elim
theorem sem_isn : Op1 R .isn (fun x H Q => Q (.bl (decide (x = .non))) H) := by
  intro Fz ρ H h v1 v x Q C r1 e k
  cases e
  exact q_cong (rep_non r1) (k.bl C)
theorem sem_notn : Op1 R .notn (fun x H Q => Q (.bl (!decide (x = .non))) H) := by
  intro Fz ρ H h v1 v x Q C r1 e k
  cases e
  exact q_cong (by rw [rep_non r1]) (k.bl C)
/-- a built-in called with values -/
def OpN (R : Cn) (o : Ev.Op) (n : Nat) (r : List V → Hp → VK → Prop) : Prop := ∀ (Fz : Addr → Prop) (ρ : List Addr) (H : Hp) (h : Ev.Hp) (vs : List LV) (v : LV) (xs : List V) (Q : VK), Core R Fz ρ H h → RepWs R Fz ρ H vs xs → vs.length = n →
  Ev.opv o vs = some v → okP R Fz ρ H h v Q → r xs H Q
theorem call_lenD {X : Cx} : CallR X (.builtin "len") (fun xs H Q => ∃ a kvs, xs = [.ref a] ∧ Rd H a (.dK kvs) ∧ Q (.int kvs.length) H) := by
  intro pins s σ H xs us Q I r ⟨a, kvs, e, rd, q⟩
  subst e
  obtain rfl := r.ref1
  exact d_len I rd fun t s' I' => ⟨.int kvs.length, H, I', ⟨t, rfl⟩, q⟩
abbrev rLen2 (K : PySem.W.Frag) : List V → Hp → VK → Prop := fun xs H Q => (∃ x n, xs = [x] ∧ LenV K x H n ∧ Q (.int n) H) ∨ ∃ a kvs, xs = [.ref a] ∧ Rd H a (.dK kvs) ∧ Q (.int kvs.length) H
theorem call_len2 {X : Cx} : CallR X (.builtin "len") (rLen2 X.K) := call_len.or call_lenD
theorem repWs1 {v : LV} {xs : List V} (r : RepWs R Fz ρ H [v] xs) : ∃ x, xs = [x] ∧ RepW R Fz ρ H v x := by
  obtain ⟨x, t, e, a, b⟩ := r
  exact ⟨x, by rw [e, show t = [] from b], a⟩
theorem repWs2 {v w : LV} {xs : List V} (r : RepWs R Fz ρ H [v, w] xs) : ∃ x y, xs = [x, y] ∧ RepW R Fz ρ H v x ∧ RepW R Fz ρ H w y := by
  obtain ⟨x, t, e, a, b⟩ := r
  obtain ⟨y, e2, c⟩ := repWs1 b
  exact ⟨x, y, by rw [e, e2], a, c⟩
theorem RepK.length : ∀ {kvs : List (LV × LV)} {es : List (Key × V)}, RepK R Fz ρ H kvs es → kvs.length = es.length
  | [], _, e => by rw [show _ = [] from e]; rfl
  | (k, v) :: r, _, ⟨q, y, t, e, _, _, _, d⟩ => by rw [e, List.length_cons, List.length_cons, RepK.length d]
theorem sem_len : OpN R .len 1 (rLen2 R.K) := by
  intro Fz ρ H h vs v xs Q C r n e k
  match vs, n with
  | [w], _ =>
    obtain ⟨x, rfl, r1⟩ := repWs1 r
    cases w <;> first | (cases e; done) | skip
    · cases e; obtain ⟨rfl, o⟩ := r1
      exact .inl ⟨_, _, rfl, ⟨by rw [st_len, ← SL_eq]; exact o.2, rfl⟩, by rw [st_len]; exact k.int C⟩
    · cases e; obtain ⟨a, vs, rfl, q, t⟩ := r1
      exact .inl ⟨_, _, rfl, .inr ⟨vs, q, rfl⟩, by rw [← t.length]; exact k.int C⟩
    · cases e; obtain ⟨a, vs, rfl, q, t⟩ := r1
      exact .inl ⟨_, _, rfl, .inl ⟨vs, .inl (.inl q), rfl⟩, by rw [← t.length]; exact k.int C⟩
    · cases e; obtain ⟨a, es, rfl, q, t⟩ := r1
      exact .inr ⟨_, _, rfl, .inl q, by rw [← t.length]; exact k.int C⟩
theorem sem_abs : OpN R .abs 1 (fun xs H Q => ∃ i, xs = [.int i] ∧ Q (.int (if i < 0 then -i else i)) H) := by
  intro Fz ρ H h vs v xs Q C r n e k
  match vs, n with
  | [w], _ =>
    obtain ⟨x, rfl, r1⟩ := repWs1 r
    cases w <;> first | (cases e; done) | skip
    cases e; cases r1
    exact ⟨_, rfl, k.int C⟩
theorem sem_min : OpN R .min 2 (fun xs H Q => ∃ i j, xs = [.int i, .int j] ∧ Q (.int (if j < i then j else i)) H) := by
  intro Fz ρ H h vs v xs Q C r n e k
  match vs, n with
  | [w, w2], _ =>
    obtain ⟨x, y, rfl, r1, r2⟩ := repWs2 r
    cases w <;> first | (cases e; done) | (cases w2 <;> first | (cases e; done) | skip)
    cases e; cases r1; cases r2
    exact ⟨_, _, rfl, k.int C⟩
theorem sem_max : OpN R .max 2 (fun xs H Q => ∃ i j, xs = [.int i, .int j] ∧ Q (.int (if j > i then j else i)) H) := by
  intro Fz ρ H h vs v xs Q C r n e k
  match vs, n with
  | [w, w2], _ =>
    obtain ⟨x, y, rfl, r1, r2⟩ := repWs2 r
    cases w <;> first | (cases e; done) | (cases w2 <;> first | (cases e; done) | skip)
    cases e; cases r1; cases r2
    exact ⟨_, _, rfl, k.int C⟩
theorem ints_of : ∀ {xs : List LV} {ns : List Int} {vs : List V}, Ev.intsOf xs = some ns → Reps R Fz ρ H xs vs → vs = ns.map V.int
  | [], ns, vs, e, r => by
    cases e
    unfold Reps at r
    exact r
  | x :: xs, ns, vs, e, r => by
    cases x <;> first | (cases e; done) | skip
    rename_i i
    obtain ⟨ms, e1, rfl⟩ := Option.map_eq_some_iff.mp (show (Ev.intsOf xs).map (i :: ·) = some ns from e)
    unfold Reps at r
    obtain ⟨v, w, rfl, r1, r2⟩ := r
    unfold Rep at r1
    rw [r1, ints_of e1 r2] <;> rfl
theorem minI_ok : ∀ (m : Int) (r : List Int), Ev.minI m r ∈ m :: r ∧ ∀ y ∈ m :: r, Ev.minI m r ≤ y
  | m, [] => ⟨List.mem_cons_self, fun y hy => by
    rcases List.mem_cons.mp hy with rfl | hy
    · exact Int.le_refl _
    · cases hy⟩
  | m, n :: r => by
    obtain ⟨a, b⟩ := minI_ok (if n < m then n else m) r
    have e : Ev.minI m (n :: r) = Ev.minI (if n < m then n else m) r := rfl
    rw [e]
    have b0 := b _ List.mem_cons_self
    refine ⟨?_, fun y hy => ?_⟩
    · rcases List.mem_cons.mp a with a | a
      · rw [a]
        split <;> simp
      · exact List.mem_cons_of_mem _ (List.mem_cons_of_mem _ a)
    · rcases List.mem_cons.mp hy with rfl | hy
      · refine Int.le_trans b0 ?_
        split <;> omega
      · rcases List.mem_cons.mp hy with rfl | hy
        · refine Int.le_trans b0 ?_
          split <;> omega
        · exact b y (List.mem_cons_of_mem _ hy)
theorem maxI_ok : ∀ (m : Int) (r : List Int), Ev.maxI m r ∈ m :: r ∧ ∀ y ∈ m :: r, y ≤ Ev.maxI m r
  | m, [] => ⟨List.mem_cons_self, fun y hy => by
    rcases List.mem_cons.mp hy with rfl | hy
    · exact Int.le_refl _
    · cases hy⟩
  | m, n :: r => by
    obtain ⟨a, b⟩ := maxI_ok (if m < n then n else m) r
    have e : Ev.maxI m (n :: r) = Ev.maxI (if m < n then n else m) r := rfl
    rw [e]
    have b0 := b _ List.mem_cons_self
    refine ⟨?_, fun y hy => ?_⟩
    · rcases List.mem_cons.mp a with a | a
      · rw [a]
        split <;> simp
      · exact List.mem_cons_of_mem _ (List.mem_cons_of_mem _ a)
    · rcases List.mem_cons.mp hy with rfl | hy
      · refine Int.le_trans ?_ b0
        split <;> omega
      · rcases List.mem_cons.mp hy with rfl | hy
        · refine Int.le_trans ?_ b0
          split <;> omega
        · exact b y (List.mem_cons_of_mem _ hy)
theorem ofInts_of {f : List Int → Option Int} {w v : LV} {x : V} (e : Ev.ofInts f w = some v) (r : RepW R Fz ρ H w x) : ∃ a ns i, x = .ref a ∧ H a = some (.lst (ns.map V.int)) ∧ f ns = some i ∧ v = .int i := by
  cases w <;> first | (cases e; done) | skip
  rename_i xs
  have e : (match Ev.intsOf xs with
    | some ns => (f ns).map LV.int
    | none => none) = some v := e
  cases e1 : Ev.intsOf xs with
  | none => rw [e1] at e; cases e
  | some ns =>
    rw [e1] at e
    obtain ⟨i, e2, rfl⟩ := Option.map_eq_some_iff.mp e
    obtain ⟨a, vs, rfl, q, t⟩ := r
    rw [ints_of e1 t] at q
    exact ⟨a, ns, i, rfl, q, e2, rfl⟩
theorem sem_minR : OpN R .minR 1 (rMin R.K) := by
  intro Fz ρ H h vs v xs Q C r n e k
  match vs, n with
  | [w], _ =>
    obtain ⟨x, rfl, r1⟩ := repWs1 r
    obtain ⟨a, ns, i, rfl, q, e2, rfl⟩ := ofInts_of (show Ev.ofInts Ev.minNs w = some v from e) r1
    cases ns with
    | nil => cases e2
    | cons m ns =>
      cases e2
      refine ⟨a, m :: ns, rfl, SqL.of q, by simp, fun z hz hz2 => ?_⟩
      obtain ⟨b1, b2⟩ := minI_ok m ns
      rw [Int.le_antisymm (hz2 _ b1) (b2 _ hz)]
      exact k.int C
theorem sem_maxR : OpN R .maxR 1 (rMax R.K) := by
  intro Fz ρ H h vs v xs Q C r n e k
  match vs, n with
  | [w], _ =>
    obtain ⟨x, rfl, r1⟩ := repWs1 r
    obtain ⟨a, ns, i, rfl, q, e2, rfl⟩ := ofInts_of (show Ev.ofInts Ev.maxNs w = some v from e) r1
    cases ns with
    | nil => cases e2
    | cons m ns =>
      cases e2
      refine ⟨a, m :: ns, rfl, SqL.of q, by simp, fun z hz hz2 => ?_⟩
      obtain ⟨b1, b2⟩ := maxI_ok m ns
      rw [Int.le_antisymm (b2 _ hz) (hz2 _ b1)]
      exact k.int C
theorem sem_sumR : OpN R .sumR 1 (rSum R.K) := by
  intro Fz ρ H h vs v xs Q C r n e k
  match vs, n with
  | [w], _ =>
    obtain ⟨x, rfl, r1⟩ := repWs1 r
    obtain ⟨a, ns, i, rfl, q, e2, rfl⟩ := ofInts_of (show Ev.ofInts (fun ns => some ns.sum) w = some v from e) r1
    cases e2
    exact ⟨a, ns, rfl, SqL.of q, k.int C⟩
theorem sem_int : OpN R .int 1 (fun xs H Q => (∃ i, xs = [.int i] ∧ Q (.int i) H) ∨ ∃ k, xs = [.bl k] ∧ Q (.int (if k then 1 else 0)) H) := by
  intro Fz ρ H h vs v xs Q C r n e k
  match vs, n with
  | [w], _ =>
    obtain ⟨x, rfl, r1⟩ := repWs1 r
    cases w <;> first | (cases e; done) | skip
    · cases e; cases r1; exact .inr ⟨_, rfl, k.int C⟩
    · cases e; cases r1; exact .inl ⟨_, rfl, k.int C⟩
end
end Sd
end
section
set_option maxRecDepth 100000
set_option maxHeartbeats 2000000
/-! expressions, rule by rule -/
namespace Sd
open PySem PySem.Spec PyProof.Rows L2
open Ev (LV LO CE CEs Src Tg Tgs CKs TG TGs CS CSs Prg Orc Slot)

/-- what is known of the place where code runs -/
structure XOk (R : Cn) (X : Cx) (W : WX) (N : List Str) (sc : Scope) : Prop where
  P : X.prog = R.P
  w : X.w = R.w
  K : X.K = R.K
  mg : X.mg = R.mg
  base : BaseOk R X.base
  nm : X.N = N
  nd : N.Nodup
  sc : X.env.scope = sc
  calm : X.calm = true
  un : X.A.units + 65 < cLine
  tk : Takes X W
  cc : R.tb = true → X.env.code = R.cc ∧ ∃ c P, R.cc = .ref c ∧ (c, P) ∈ R.cs ∧ P ∈ R.tg

section
variable {R : Cn} {X : Cx} {W : WX} {O : Orc} {σ : L2.St} {Fz Fz' : Addr → Prop} {ρ ρ' : List Addr} {H H' : Hp} {h h' : Ev.Hp} {L : Ev.Env} {N : List Str} {sc : Scope}

def clen : CEs → Nat
  | .nil => 0
  | .cons _ cs => clen cs + 1
theorem evA_len {P : Prg} : ∀ {cs : CEs} {h h1 : Ev.Hp} {vs : List LV}, Ev.evA P O cs L h = .ok vs h1 → vs.length = clen cs
  | .nil, _, _, _, e => by simp only [Ev.evA] at e; cases e; rfl
  | .cons c cs, h, h1, vs, e => by
    simp only [Ev.evA] at e
    cases e1 : Ev.sel c L h (Ev.ev P O c L h) with
    | bad => rw [e1] at e; cases e
    | exc d h2 => rw [e1] at e; cases e
    | ok v h2 =>
      simp only [e1] at e
      cases e2 : Ev.evA P O cs L h2 with
      | bad => simp only [e2] at e; cases e
      | exc d h3 => simp only [e2] at e; cases e
      | ok ws h3 =>
        simp only [e2] at e
        cases e
        rw [List.length_cons, evA_len e2]
        rfl
/-! ### the ends again -/
def tF (R : Cn) (W : WX) (O : Orc) (c : CE) : TE := fun σ H Q => Stn R (fun L h Fz ρ => RF R W σ Fz ρ H (Ev.ev R.pr O c L h) Q) σ H
def SF (R : Cn) (W : WX) (O : Orc) (X : Cx) (e : Expr) (c : CE) : Prop := PE X e (tF R W O c)
theorem SF.se {e : Expr} {c : CE} (s : SF R W O X e c) : SE R W O X e c := pe_imp s fun σ H Q ⟨L, h, Fz, ρ, C, S, r⟩ => ⟨L, h, Fz, ρ, C, S, r.toF⟩

/-- ops: from the machine's reading to the layer's -/
theorem op_of {o : Ev.Op} {n : Nat} {r : List V → Hp → VK → Prop} (hs : OpN R o n r) {cs : CEs} (hn : clen cs = n) {Q : VK} (t : tE R W O (.op o cs) σ H Q) : oneV R W O cs σ H fun xs H2 => r xs H2 Q := by
  obtain ⟨L, h, Fz, ρ, C, S, q⟩ := t
  refine oneV_of cs C S ?_
  simp only [Ev.ev] at q
  cases e : Ev.evA R.pr O cs L h with
  | bad => rw [e] at q; exact q
  | exc d h1 => rw [e] at q; exact q
  | ok vs h1 =>
    simp only [e] at q
    intro xs H1 F1 ρ1 C1 E1 R1
    cases e2 : Ev.opv o (vs.map fun v => Ev.view v h1) with
    | none => rw [e2] at q; exact q.elim
    | some v =>
      rw [e2] at q
      exact hs F1 ρ1 H1 h1 _ v xs Q C1 (R1.view C1) (by rw [List.length_map, evA_len e, hn]) e2 (okP.ext E1 q)
def OpNF (R : Cn) (o : Ev.Op) (n : Nat) (r : List V → Hp → VK → Prop) : Prop := ∀ (Fz : Addr → Prop) (ρ : List Addr) (H : Hp) (h : Ev.Hp) (vs : List LV) (v : LV) (xs : List V) (Q : VK), Core R Fz ρ H h → RepWs R Fz ρ H vs xs → vs.length = n →
  Ev.opv o vs = some v → okF R Fz ρ H h v Q → r xs H Q
theorem op_ofF {o : Ev.Op} {n : Nat} {r : List V → Hp → VK → Prop} (hs : OpNF R o n r) {cs : CEs} (hn : clen cs = n) {Q : VK} (t : tF R W O (.op o cs) σ H Q) : oneV R W O cs σ H fun xs H2 => r xs H2 Q := by
  obtain ⟨L, h, Fz, ρ, C, S, q⟩ := t
  refine oneV_of cs C S ?_
  simp only [Ev.ev] at q
  cases e : Ev.evA R.pr O cs L h with
  | bad => rw [e] at q; exact q
  | exc d h1 => rw [e] at q; exact q
  | ok vs h1 =>
    simp only [e] at q
    intro xs H1 F1 ρ1 C1 E1 R1
    cases e2 : Ev.opv o (vs.map fun v => Ev.view v h1) with
    | none => rw [e2] at q; exact q.elim
    | some v =>
      rw [e2] at q
      exact hs F1 ρ1 H1 h1 _ v xs Q C1 (R1.view C1) (by rw [List.length_map, evA_len e, hn]) e2 (okF.ext E1 q)
def lift1 (r : V → Hp → VK → Prop) : List V → Hp → VK → Prop := fun xs => match xs with | [x] => r x | _ => fun _ _ => False
def lift2 (r : R2) : List V → Hp → VK → Prop := fun xs => match xs with | [x, y] => r x y | _ => fun _ _ => False
theorem Op1.n {o : Ev.Op} {r : V → Hp → VK → Prop} (s : Op1 R o r) : OpN R o 1 (lift1 r) := by
  intro Fz ρ H h vs v xs Q C rr n e k
  match vs, n with
  | [a], _ =>
    obtain ⟨x, rfl, r1⟩ := repWs1 rr
    exact s Fz ρ H h a v x Q C r1 e k
theorem Op2.n {o : Ev.Op} {r : R2} (s : Op2 R o r) : OpN R o 2 (lift2 r) := by
  intro Fz ρ H h vs v xs Q C rr n e k
  match vs, n with
  | [a, b], _ =>
    obtain ⟨x, y, rfl, r1, r2⟩ := repWs2 rr
    exact s Fz ρ H h a b v x y Q C r1 r2 e k
theorem Op2F.n {o : Ev.Op} {r : R2} (s : Op2F R o r) : OpNF R o 2 (lift2 r) := by
  intro Fz ρ H h vs v xs Q C rr n e k
  match vs, n with
  | [a, b], _ =>
    obtain ⟨x, y, rfl, r1, r2⟩ := repWs2 rr
    exact s Fz ρ H h a b v x y Q C r1 r2 e k
variable {a b e : Expr} {ca cb c : CE} {pos : Pos}
theorem se_bin {op : Operator} {o : Ev.Op} {r : R2} (ho : OpR X (binaryOp op) r) (hs : Op2 R o r) (ha : SV R W O X a ca) (hb : SV R W O X b cb) : SE R W O X (.BinOp a op b pos) (.op o (.cons ca (.cons cb .nil))) :=
  pe_imp (pe_op ho ha hb) fun σ H Q t => op_of hs.n rfl t
theorem sf_bin {op : Operator} {o : Ev.Op} {r : R2} (ho : OpR X (binaryOp op) r) (hs : Op2F R o r) (ha : SV R W O X a ca) (hb : SV R W O X b cb) : SF R W O X (.BinOp a op b pos) (.op o (.cons ca (.cons cb .nil))) :=
  pe_imp (pe_op ho ha hb) fun σ H Q t => op_ofF hs.n rfl t
theorem se_un {op : UnaryOp} {o : Ev.Op} {r : V → Hp → VK → Prop} (ho : UnR X (unaryOp op) r) (hs : Op1 R o r) (ha : SV R W O X a ca) : SE R W O X (.UnaryOp op a pos) (.op o (.cons ca .nil)) :=
  pe_imp (pe_un ho ha) fun σ H Q t => op_of hs.n rfl t
theorem se_cmp {op : CmpOp} {o : Ev.Op} {r : R2} (ho : OpR X (compareOp op) r) (hs : Op2 R o r) (ha : SV R W O X a ca) (hb : SV R W O X b cb) (hm : behindInMarks op b = false) : SE R W O X (.Compare a [op] [b] pos) (.op o (.cons ca (.cons cb .nil))) :=
  pe_imp (pe_cmpR ho ha hb hm) fun σ H Q t => op_of hs.n rfl t
theorem se_isn {j p} (ha : SV R W O X a ca) : SE R W O X (.Compare a [.Is] [.Constant .none j p] pos) (.op .isn (.cons ca .nil)) :=
  pe_imp (pe_cmp (pc_isN ha)) fun σ H Q t => op_of (Op1.n sem_isn) rfl t
theorem se_notn {j p} (ha : SV R W O X a ca) : SE R W O X (.Compare a [.IsNot] [.Constant .none j p] pos) (.op .notn (.cons ca .nil)) :=
  pe_imp (pe_cmp (pc_notN ha)) fun σ H Q t => op_of (Op1.n sem_notn) rfl t

/-! ### names, constants -/
theorem se_int {i j pos} : SE R W O X (.Constant (.int i) j pos) (.cst (.int i)) := pe_imp pe_int fun σ H Q ⟨L, h, Fz, ρ, C, S, r⟩ => by
  simp only [Ev.ev] at r
  exact okP.int C r
theorem se_bl {b j pos} : SE R W O X (.Constant (.bool b) j pos) (.cst (.bl b)) := pe_imp pe_bl fun σ H Q ⟨L, h, Fz, ρ, C, S, r⟩ => by
  simp only [Ev.ev] at r
  exact okP.bl C r
theorem se_non {j pos} : SE R W O X (.Constant .none j pos) (.cst .non) := pe_imp pe_non fun σ H Q ⟨L, h, Fz, ρ, C, S, r⟩ => by
  simp only [Ev.ev] at r
  exact okP.now C r rfl
theorem se_str {x : Str} {s : List Nat} {j pos} (e : x = st s) (o : okS s) : SE R W O X (.Constant (.str x) j pos) (.cst (.str s)) := by
  subst e
  refine pe_imp pe_str fun σ H Q ⟨L, h, Fz, ρ, C, S, r⟩ => ?_
  simp only [Ev.ev] at r
  exact okP.now C r ⟨rfl, o⟩
/-- a module's constant -/
def GlobV (R : Cn) (x : Str) (v : LV) : Prop := ∃ u y, R.mg x = some u ∧ RelV y u ∧ ∀ Fz ρ H, Rep R Fz ρ H v y
theorem se_glob {x : Str} {v : LV} {pos : Pos} (ok : XOk R X W N sc) (hg : sc.names.lookup x = some .globalImplicit) (g : GlobV R x v) (hd : (x == ("__debug__" : Str)) = false) : SE R W O X (.Name x pos) (.cst v) := by
  obtain ⟨u, y, hm, r, rp⟩ := g
  refine pe_imp (pe_glob (X := X) (v := y) (by show X.env.scope.names.lookup x = _; rw [ok.sc]; exact hg) (by rw [ok.mg]; exact hm) r hd) fun σ H Q ⟨L, h, Fz, ρ, C, S, q⟩ => ?_
  simp only [Ev.ev] at q
  exact okP.now C q (rp Fz ρ H)
theorem se_var {i : Nat} {x : Str} {pos : Pos} (ok : XOk R X W N sc) (hN : N[i]? = some x) (hv : Vis sc x) (hd : (x == ("__debug__" : Str)) = false) (hcd : (x == ("__classdict__" : Str)) = false) : SE R W O X (.Name x pos) (.var i) := by
  refine pe_imp (pe_var (X := X) (i := i) (by rw [ok.nm]; exact hN) (by rw [ok.sc]; exact hv) hd hcd) fun σ H Q ⟨L, h, Fz, ρ, C, S, q⟩ => ?_
  simp only [Ev.ev, Ev.look] at q
  cases e : L[i]? with
  | none => rw [e] at q; exact q.elim
  | some s =>
    rw [e] at q
    cases s with
    | un => exact q.elim
    | own v => exact q.elim
    | lam ks => exact q.elim
    | val v =>
      obtain ⟨y, e1, r⟩ := S.val i v e
      exact ⟨y, e1, okP.now C q r⟩
theorem sv_var {i : Nat} {x : Str} {pos : Pos} (ok : XOk R X W N sc) (hN : N[i]? = some x) (hv : Vis sc x) (hd : (x == ("__debug__" : Str)) = false) (hcd : (x == ("__classdict__" : Str)) = false) : SV R W O X (.Name x pos) (.var i) := by
  refine pe_imp (pe_var (X := X) (i := i) (by rw [ok.nm]; exact hN) (by rw [ok.sc]; exact hv) hd hcd) fun σ H Q ⟨L, h, Fz, ρ, C, S, q⟩ => ?_
  simp only [Ev.sel] at q
  cases e : L[i]? with
  | none => rw [e] at q; exact q.elim
  | some s =>
    rw [e] at q
    cases s with
    | un => exact q.elim
    | lam ks => exact q.elim
    | own v =>
      obtain ⟨y, e1, r, n1, n2⟩ := S.own i v e
      exact ⟨_, e1, q _ H Fz ρ C Ext.refl (r.toV n2)⟩
    | val v =>
      obtain ⟨y, e1, r⟩ := S.val i v e
      exact ⟨y, e1, q _ H Fz ρ C Ext.refl (r.toV C)⟩

/-! ### truth -/
def tT (R : Cn) (W : WX) (O : Orc) (c : CE) : TT := fun σ H Q => Stn R (fun L h Fz ρ => match Ev.ev R.pr O c L h with
  | .ok v h' => (match (Ev.view v h').truth with | some b => ∀ H' Fz' ρ', Core R Fz' ρ' H' h' → Ext Fz ρ H Fz' ρ' H' → Q b H' | none => False)
  | .exc d h' => exP R W σ Fz ρ H h' d
  | .bad => False) σ H
def ST (R : Cn) (W : WX) (O : Orc) (X : Cx) (e : Expr) (c : CE) : Prop := PT X e (tT R W O c)
theorem length_bne (s : List Nat) : (((st s).length : Int) != 0) = !s.isEmpty := by
  rw [st_len]
  cases s with
  | nil => rfl
  | cons a r =>
    rw [Bool.eq_iff_iff, bne_iff_ne]
    simp
    omega
theorem tru_of {v : LV} {x : V} {b : Bool} (r : RepW R Fz ρ H v x) (e : v.truth = some b) : TruV R.K x H b := by
  cases v with
  | non => cases r; cases e; rfl
  | bl c => cases r; cases e; rfl
  | int i => cases r; cases e; rfl
  | str s =>
    obtain ⟨rfl, o⟩ := r
    cases e
    exact ⟨by rw [st_len, ← SL_eq]; exact o.2, (length_bne s).symm⟩
  | tup xs =>
    obtain ⟨a, vs, rfl, q, t⟩ := r
    cases e
    refine .inr (.inl ⟨vs, q, ?_⟩)
    have := t.length
    cases xs <;> cases vs <;> first | rfl | (simp at this)
  | lst xs =>
    obtain ⟨a, vs, rfl, q, t⟩ := r
    cases e
    refine .inl ⟨vs, .inl (.inl q), ?_⟩
    have := t.length
    cases xs <;> cases vs <;> first | rfl | (simp at this)
  | dct xs =>
    obtain ⟨a, vs, rfl, q, t⟩ := r
    cases e
    refine .inr (.inr ⟨vs, q, ?_⟩)
    have := t.length
    cases xs <;> cases vs <;> first | rfl | (simp at this)
  | _ => cases e
theorem st_of (s : SE R W O X e c) (hK : X.K = R.K) (he : ∀ whole, isTrue e X.env whole = (do let v ← whole; standAt e.pos; holding [v] (truthy v))) : ST R W O X e c := by
  refine pt_imp (pt_truth s he) fun σ H Q ⟨L, h, Fz, ρ, C, S, r⟩ => ⟨L, h, Fz, ρ, C, S, ?_⟩
  dsimp only
  cases q : Ev.ev R.pr O c L h with
  | bad => simp only [q] at r
  | exc d h1 => simp only [q] at r; exact r
  | ok v h1 =>
    simp only [q] at r
    intro x H1 F1 ρ1 C1 E1 R1
    cases z : (Ev.view v h1).truth with
    | none => simp only [z] at r
    | some b =>
      simp only [z] at r
      exact ⟨b, by rw [hK]; exact tru_of (R1.view C1) z, r H1 F1 ρ1 C1 E1⟩
/-- whatever is tested -/
def SW (R : Cn) (W : WX) (O : Orc) (X : Cx) (e : Expr) (c : CE) : Prop := PW X e (tT R W O c)
theorem pw_imp {X : Cx} {e : Expr} {t t' : TT} (h : PW X e t) (i : ∀ σ H Q, t' σ H Q → t σ H Q) : PW X e t' := ⟨fun wh pins s σ H Q I q => h.run wh pins s σ H Q I (i σ H Q q)⟩
theorem tT.mono {Q Q' : Bool → Hp → Prop} (i : ∀ b H, Q b H → Q' b H) (t : tT R W O c σ H Q) : tT R W O c σ H Q' := by
  obtain ⟨L, h, Fz, ρ, C, S, r⟩ := t
  refine ⟨L, h, Fz, ρ, C, S, ?_⟩
  cases q : Ev.ev R.pr O c L h with
  | bad => simp only [q] at r
  | exc d h1 => simp only [q] at r ⊢; exact r
  | ok v h1 =>
    simp only [q] at r ⊢
    cases z : (Ev.view v h1).truth with
    | none => simp only [z] at r
    | some b => simp only [z] at r ⊢; exact fun H1 F1 ρ1 C1 E1 => i _ _ (r H1 F1 ρ1 C1 E1)
variable {rest : List Expr}
theorem sw_and1 (ha : ST R W O X a ca) : SW R W O X (.BoolOp .And [a] pos) ca := pw_and1 ha
theorem sw_or1 (ha : ST R W O X a ca) : SW R W O X (.BoolOp .Or [a] pos) ca := pw_or1 ha
theorem sw_and (ha : ST R W O X a ca) (hb : SW R W O X (.BoolOp .And (b :: rest) pos) cb) : SW R W O X (.BoolOp .And (a :: b :: rest) pos) (.and ca cb) := by
  refine pw_imp (pw_and ha hb) fun σ H Q ⟨L, h, Fz, ρ, C, S, r⟩ => ⟨L, h, Fz, ρ, C, S, ?_⟩
  simp only [Ev.ev] at r
  dsimp only
  cases q : Ev.ev R.pr O ca L h with
  | bad => simp only [q] at r
  | exc d h1 => simp only [q] at r ⊢; exact r
  | ok v h1 =>
    simp only [q] at r ⊢
    cases z : (Ev.view v h1).truth with
    | none => simp only [z] at r
    | some b =>
      simp only [z] at r ⊢
      intro H1 F1 ρ1 C1 E1
      cases b with
      | false =>
        simp only [z] at r
        rw [if_neg Bool.false_ne_true]
        exact r H1 F1 ρ1 C1 E1
      | true =>
        rw [if_pos rfl]
        refine ⟨L, h1, F1, ρ1, C1, S.mono C E1, ?_⟩
        simp only at r
        cases q2 : Ev.ev R.pr O cb L h1 with
        | bad => simp only [q2] at r
        | exc d h2 => simp only [q2] at r ⊢; exact exP.ext E1 r
        | ok w h2 =>
          simp only [q2] at r ⊢
          cases z2 : (Ev.view w h2).truth with
          | none => simp only [z2] at r
          | some b => simp only [z2] at r ⊢; exact fun H2 F2 ρ2 C2 E2 => r H2 F2 ρ2 C2 (E1.trans E2)
theorem sw_or (ha : ST R W O X a ca) (hb : SW R W O X (.BoolOp .Or (b :: rest) pos) cb) : SW R W O X (.BoolOp .Or (a :: b :: rest) pos) (.or ca cb) := by
  refine pw_imp (pw_or ha hb) fun σ H Q ⟨L, h, Fz, ρ, C, S, r⟩ => ⟨L, h, Fz, ρ, C, S, ?_⟩
  simp only [Ev.ev] at r
  dsimp only
  cases q : Ev.ev R.pr O ca L h with
  | bad => simp only [q] at r
  | exc d h1 => simp only [q] at r ⊢; exact r
  | ok v h1 =>
    simp only [q] at r ⊢
    cases z : (Ev.view v h1).truth with
    | none => simp only [z] at r
    | some b =>
      simp only [z] at r ⊢
      intro H1 F1 ρ1 C1 E1
      cases b with
      | true =>
        simp only [z] at r
        rw [if_pos rfl]
        exact r H1 F1 ρ1 C1 E1
      | false =>
        rw [if_neg Bool.false_ne_true]
        refine ⟨L, h1, F1, ρ1, C1, S.mono C E1, ?_⟩
        simp only at r
        cases q2 : Ev.ev R.pr O cb L h1 with
        | bad => simp only [q2] at r
        | exc d h2 => simp only [q2] at r ⊢; exact exP.ext E1 r
        | ok w h2 =>
          simp only [q2] at r ⊢
          cases z2 : (Ev.view w h2).truth with
          | none => simp only [z2] at r
          | some b => simp only [z2] at r ⊢; exact fun H2 F2 ρ2 C2 E2 => r H2 F2 ρ2 C2 (E1.trans E2)
theorem st_not (ha : ST R W O X a ca) : ST R W O X (.UnaryOp .Not a pos) (.not ca) := by
  refine pt_imp (pt_not ha) fun σ H Q ⟨L, h, Fz, ρ, C, S, r⟩ => ⟨L, h, Fz, ρ, C, S, ?_⟩
  simp only [Ev.ev] at r
  dsimp only
  cases q : Ev.ev R.pr O ca L h with
  | bad => simp only [q] at r
  | exc d h1 => simp only [q] at r ⊢; exact r
  | ok v h1 =>
    simp only [q] at r ⊢
    cases z : (Ev.view v h1).truth with
    | none => simp only [z] at r
    | some b => simp only [z] at r ⊢; exact r
theorem se_not (ha : SE R W O X a ca) (hK : X.K = R.K) : SE R W O X (.UnaryOp .Not a pos) (.not ca) := by
  refine pe_imp (pe_notT ha) fun σ H Q ⟨L, h, Fz, ρ, C, S, r⟩ => ⟨L, h, Fz, ρ, C, S, ?_⟩
  simp only [Ev.ev] at r
  dsimp only
  cases q : Ev.ev R.pr O ca L h with
  | bad => simp only [q] at r; exact False.elim r
  | exc d h1 => simp only [q] at r ⊢; exact r
  | ok v h1 =>
    simp only [q] at r ⊢
    cases z : (Ev.view v h1).truth with
    | none => simp only [z] at r; exact r.elim
    | some b =>
      simp only [z] at r
      intro x H1 F1 ρ1 C1 E1 R1
      exact ⟨b, by rw [hK]; exact tru_of (R1.view C1) z, r _ H1 F1 ρ1 C1 E1 rfl⟩
theorem se_one {op} (ha : SE R W O X a ca) : SE R W O X (.BoolOp op [a] pos) ca := pe_one ha
theorem se_and (ha : SE R W O X a ca) (hb : SE R W O X (.BoolOp .And (b :: rest) pos) cb) (hK : X.K = R.K) : SE R W O X (.BoolOp .And (a :: b :: rest) pos) (.and ca cb) := by
  refine pe_imp (pe_andT ha hb) fun σ H Q ⟨L, h, Fz, ρ, C, S, r⟩ => ⟨L, h, Fz, ρ, C, S, ?_⟩
  simp only [Ev.ev] at r
  dsimp only
  cases q : Ev.ev R.pr O ca L h with
  | bad => simp only [q] at r; exact False.elim r
  | exc d h1 => simp only [q] at r ⊢; exact r
  | ok v h1 =>
    simp only [q] at r ⊢
    cases z : (Ev.view v h1).truth with
    | none => simp only [z] at r; exact r.elim
    | some b =>
      intro x H1 F1 ρ1 C1 E1 R1
      refine ⟨b, by rw [hK]; exact tru_of (R1.view C1) z, ?_⟩
      cases b with
      | false => simp only [z] at r; rw [if_neg Bool.false_ne_true]; exact r x H1 F1 ρ1 C1 E1 R1
      | true => simp only [z] at r; rw [if_pos rfl]; exact ⟨L, h1, F1, ρ1, C1, S.mono C E1, r.ext E1⟩
theorem se_or (ha : SE R W O X a ca) (hb : SE R W O X (.BoolOp .Or (b :: rest) pos) cb) (hK : X.K = R.K) : SE R W O X (.BoolOp .Or (a :: b :: rest) pos) (.or ca cb) := by
  refine pe_imp (pe_orT ha hb) fun σ H Q ⟨L, h, Fz, ρ, C, S, r⟩ => ⟨L, h, Fz, ρ, C, S, ?_⟩
  simp only [Ev.ev] at r
  dsimp only
  cases q : Ev.ev R.pr O ca L h with
  | bad => simp only [q] at r; exact False.elim r
  | exc d h1 => simp only [q] at r ⊢; exact r
  | ok v h1 =>
    simp only [q] at r ⊢
    cases z : (Ev.view v h1).truth with
    | none => simp only [z] at r; exact r.elim
    | some b =>
      intro x H1 F1 ρ1 C1 E1 R1
      refine ⟨b, by rw [hK]; exact tru_of (R1.view C1) z, ?_⟩
      cases b with
      | true => simp only [z] at r; rw [if_pos rfl]; exact r x H1 F1 ρ1 C1 E1 R1
      | false => simp only [z] at r; rw [if_neg Bool.false_ne_true]; exact ⟨L, h1, F1, ρ1, C1, S.mono C E1, r.ext E1⟩
variable {cnd : Expr} {cc : CE}
theorem se_ite (hc : ST R W O X cnd cc) (ha : SE R W O X a ca) (hb : SE R W O X b cb) : SE R W O X (.IfExp cnd a b pos) (.ite cc ca cb) := by
  refine pe_imp (pe_ifExp hc ha hb) fun σ H Q ⟨L, h, Fz, ρ, C, S, r⟩ => ⟨L, h, Fz, ρ, C, S, ?_⟩
  simp only [Ev.ev] at r
  dsimp only
  cases q : Ev.ev R.pr O cc L h with
  | bad => simp only [q] at r; exact False.elim r
  | exc d h1 => simp only [q] at r ⊢; exact r
  | ok v h1 =>
    simp only [q] at r ⊢
    cases z : (Ev.view v h1).truth with
    | none => simp only [z] at r; exact r.elim
    | some b =>
      simp only [z] at r ⊢
      intro H1 F1 ρ1 C1 E1
      cases b with
      | true => rw [if_pos rfl]; exact ⟨L, h1, F1, ρ1, C1, S.mono C E1, RS.ext E1 r⟩
      | false => rw [if_neg Bool.false_ne_true]; exact ⟨L, h1, F1, ρ1, C1, S.mono C E1, RS.ext E1 r⟩
theorem sf_ite (hc : ST R W O X cnd cc) (ha : SF R W O X a ca) (hb : SF R W O X b cb) : SF R W O X (.IfExp cnd a b pos) (.ite cc ca cb) := by
  refine pe_imp (pe_ifExp hc ha hb) fun σ H Q ⟨L, h, Fz, ρ, C, S, r⟩ => ⟨L, h, Fz, ρ, C, S, ?_⟩
  simp only [Ev.ev] at r
  dsimp only
  cases q : Ev.ev R.pr O cc L h with
  | bad => simp only [q] at r; exact False.elim r
  | exc d h1 => simp only [q] at r ⊢; exact r
  | ok v h1 =>
    simp only [q] at r ⊢
    cases z : (Ev.view v h1).truth with
    | none => simp only [z] at r; exact r.elim
    | some b =>
      simp only [z] at r ⊢
      intro H1 F1 ρ1 C1 E1
      cases b with
      | true => rw [if_pos rfl]; exact ⟨L, h1, F1, ρ1, C1, S.mono C E1, RF.ext E1 r⟩
      | false => rw [if_neg Bool.false_ne_true]; exact ⟨L, h1, F1, ρ1, C1, S.mono C E1, RF.ext E1 r⟩
end
end Sd
end
section
set_option maxRecDepth 100000
set_option maxHeartbeats 2000000
/-! expressions: displays, attributes, calls -/
namespace Sd
open PySem PySem.Spec PyProof.Rows L2
open Ev (LV LO CE CEs Src Tg Tgs CKs TG TGs CS CSs Prg Orc Slot)

/-- what is known of the program's classes and defs -/
structure ROk (R : Cn) : Prop where
  inj : ∀ a b, a < R.na → b < R.na → R.an a = R.an b → a = b
  cls : ∀ c, R.ic c = true → Cls R.K (R.cl c)
  noa : ∀ c a, R.ic c = true → a < R.na → NoAttr R.K (R.cl c) (R.an a)
  mna : ∀ a m, a < R.na → R.an a ≠ R.mn m
  meth : ∀ c m, R.ic c = true → R.pr.meth c m < R.pr.nf → L2.Meth R.K (R.cl c) (R.mn m) (R.fi (R.pr.meth c m)).addr
  binds : ∀ f, f < R.pr.nf → Binds R.K (R.fi f).fd (R.fi f).ps []
  keep : ∀ f, f < R.pr.nf → PySem.W.keepIn R.K (.ref (R.fi f).addr) = true
/-- what a def promises by the machine -/
def spO (R : Cn) (O : Orc) (f : Nat) : Sp := fun vs H Q E => vs.length = (R.fi f).ps.length ∧ ∃ (h : Ev.Hp) (Fz : Addr → Prop) (ρ : List Addr) (lvs : List LV), Core R Fz ρ H h ∧ Reps R Fz ρ H lvs vs ∧
  match O.call f lvs h with
  | .ok v h' => okP R Fz ρ H h' v Q
  | .exc c h' => ∀ H' Fz' ρ', Core R Fz' ρ' H' h' → Ext Fz ρ H Fz' ρ' H' → E (.ref (R.cl c)) none H'
  | .bad => False
structure OOk (R : Cn) (O : Orc) (k : Nat) : Prop where
  fn : ∀ base : Heap, BaseOk R base → ∀ f, f < R.pr.nf → FnOk R.P R.w R.K R.mg base (L2.CX R.P R.w) k (R.fi f).addr (R.fi f).fd (R.fi f).ps (spO R O f)
  np : ∀ f vs h, f < R.pr.nf → O.call f vs h ≠ .bad → vs.length = (R.fi f).ps.length

/-- how lambdas are read: one depth further in -/
def OL (R : Cn) (O : Orc) (k : Nat) : Prop := (∀ i L h, O.lam i L h = .bad) ∨ ∃ O' k', k' + 2 ≤ k ∧ OOk R O' k' ∧ ∀ i L h, O.lam i L h = Ev.ev R.pr O' (R.pr.lam i) L h
/-! ### the same in a frame's own dress -/
section
variable {R R' : Cn} {Fz : Addr → Prop} {ρ : List Addr} {H : Hp} (e : R.K = R'.K)
include e
mutual
theorem Rep.k : ∀ (v : LV) {x : V}, Rep R Fz ρ H v x → Rep R' Fz ρ H v x
  | .non, _, r => r
  | .bl _, _, r => r
  | .int _, _, r => r
  | .str _, _, r => r
  | .tup xs, _, ⟨a, vs, e1, q, r⟩ => ⟨a, vs, e1, e ▸ q, Reps.k xs r⟩
  | .lst xs, _, ⟨a, vs, e1, f, q, r⟩ => ⟨a, vs, e1, f, q, Reps.k xs r⟩
  | .dct kvs, _, ⟨a, es, e1, f, q, r⟩ => ⟨a, es, e1, f, q, RepK.k kvs r⟩
  | .ref n, _, r => r
  | .clo _, _, r => r
  | .rol xs, _, ⟨a, vs, e1, q, r⟩ => ⟨a, vs, e1, e ▸ q, Reps.k xs r⟩
theorem Reps.k : ∀ (xs : List LV) {vs : List V}, Reps R Fz ρ H xs vs → Reps R' Fz ρ H xs vs
  | [], _, r => r
  | x :: xs, _, ⟨v, w, e1, q, t⟩ => ⟨v, w, e1, Rep.k x q, Reps.k xs t⟩
theorem RepK.k : ∀ (kvs : List (LV × LV)) {es : List (Key × V)}, RepK R Fz ρ H kvs es → RepK R' Fz ρ H kvs es
  | [], _, r => r
  | (k, v) :: r, _, ⟨q, y, t, e1, a, b, c, d⟩ => ⟨q, y, t, e1, a, b, Rep.k v c, RepK.k r d⟩
end
theorem FRep.k (ea : R.an = R'.an) (en : R.na = R'.na) : ∀ {fs : List (Nat × LV)} {es}, FRep R Fz ρ H fs es → FRep R' Fz ρ H fs es
  | [], _, r => r
  | (a, v) :: r, _, ⟨y, t, e1, l, c, d⟩ => ⟨y, t, ea ▸ e1, en ▸ l, Rep.k e v c, FRep.k ea en d⟩
theorem ORep.k (ea : R.an = R'.an) (en : R.na = R'.na) (ec : R.cl = R'.cl) (ei : R.ic = R'.ic) : ∀ {o : LO} {a : Addr}, ORep R Fz ρ H o a → ORep R' Fz ρ H o a
  | .lst xs, _, ⟨vs, q, r⟩ => ⟨vs, q, Reps.k e xs r⟩
  | .dct kvs, _, ⟨es, q, r⟩ => ⟨es, q, RepK.k e kvs r⟩
  | .ins c fs, _, ⟨dx, es, q, i, r⟩ => ⟨dx, es, ec ▸ q, ei ▸ i, FRep.k e ea en r⟩
end
section
variable {R : Cn} {tb lk : Bool} {cc : Value} {lq : Str} {lc : List (Str × Addr)} {lo : Nat → LmI → Prop} {Fz : Addr → Prop} {ρ : List Addr} {H : Hp} {h : Ev.Hp}
theorem rep_fr {v : LV} {x : V} : Rep (R.fr tb lk cc lq lc lo) Fz ρ H v x ↔ Rep R Fz ρ H v x := ⟨Rep.k (R := R.fr tb lk cc lq lc lo) (R' := R) rfl v, Rep.k (R := R) (R' := R.fr tb lk cc lq lc lo) rfl v⟩
theorem reps_fr {v : List LV} {x : List V} : Reps (R.fr tb lk cc lq lc lo) Fz ρ H v x ↔ Reps R Fz ρ H v x := ⟨Reps.k (R := R.fr tb lk cc lq lc lo) (R' := R) rfl v, Reps.k (R := R) (R' := R.fr tb lk cc lq lc lo) rfl v⟩
theorem core_fr : Core (R.fr tb lk cc lq lc lo) Fz ρ H h ↔ Core R Fz ρ H h :=
  ⟨fun C => ⟨C.len, C.nd, fun n o a e1 e2 => ORep.k (R := R.fr tb lk cc lq lc lo) (R' := R) rfl rfl rfl rfl rfl (C.obj n o a e1 e2), C.fz, C.fzt, ⟨C.tab.lam, C.tab.gen⟩⟩, fun C => ⟨C.len, C.nd, fun n o a e1 e2 => ORep.k (R := R) (R' := R.fr tb lk cc lq lc lo) rfl rfl rfl rfl rfl (C.obj n o a e1 e2), C.fz, C.fzt, ⟨C.tab.lam, C.tab.gen⟩⟩⟩
theorem okP_fr {v : LV} {Q : VK} : okP (R.fr tb lk cc lq lc lo) Fz ρ H h v Q ↔ okP R Fz ρ H h v Q :=
  ⟨fun k x H' Fz' ρ' C E r => k x H' Fz' ρ' (core_fr.mpr C) E (rep_fr.mpr r), fun k x H' Fz' ρ' C E r => k x H' Fz' ρ' (core_fr.mp C) E (rep_fr.mp r)⟩
theorem spO_fr {O : Orc} {f : Nat} : spO (R.fr tb lk cc lq lc lo) O f = spO R O f := by
  funext vs H Q E
  apply propext
  constructor
  · rintro ⟨hl, h, Fz, ρ, lvs, C, r, q⟩
    refine ⟨hl, h, Fz, ρ, lvs, core_fr.mp C, reps_fr.mp r, ?_⟩
    cases z : O.call f lvs h with
    | bad => rw [z] at q; exact q
    | ok v h' => rw [z] at q; exact okP_fr.mp q
    | exc c h' => rw [z] at q; exact fun H' F' ρ' C' E' => q H' F' ρ' (core_fr.mpr C') E'
  · rintro ⟨hl, h, Fz, ρ, lvs, C, r, q⟩
    refine ⟨hl, h, Fz, ρ, lvs, core_fr.mpr C, reps_fr.mpr r, ?_⟩
    cases z : O.call f lvs h with
    | bad => rw [z] at q; exact q
    | ok v h' => rw [z] at q; exact okP_fr.mpr q
    | exc c h' => rw [z] at q; exact fun H' F' ρ' C' E' => q H' F' ρ' (core_fr.mp C') E'
theorem ook_fr {O : Orc} {k : Nat} (OK : OOk R O k) : OOk (R.fr tb lk cc lq lc lo) O k := by
  refine ⟨fun base hB f hf => ?_, OK.np⟩
  have z := OK.fn base hB f hf
  rw [← spO_fr (tb := tb) (lk := lk) (cc := cc) (lq := lq) (lc := lc) (lo := lo)] at z
  exact z
theorem ol_fr {O : Orc} {k : Nat} (l : OL R O k) : OL (R.fr tb lk cc lq lc lo) O k := l.imp (fun z => z) fun ⟨O', k', h1, h2, h3⟩ => ⟨O', k', h1, ook_fr h2, h3⟩
theorem rok_fr (RO : ROk R) : ROk (R.fr tb lk cc lq lc lo) := ⟨RO.inj, RO.cls, RO.noa, RO.mna, RO.meth, RO.binds, RO.keep⟩
end
section
variable {R : Cn} {X : Cx} {W : WX} {O : Orc} {σ : L2.St} {Fz Fz' : Addr → Prop} {ρ ρ' : List Addr} {H H' : Hp} {h h' : Ev.Hp} {L : Ev.Env} {N : List Str} {sc : Scope}
variable {a b e : Expr} {ca cb c : CE} {pos : Pos} {es : List Expr} {cs : CEs}

/-! ### lists of expressions -/
/-- each kept | each seen -/
def SEs (R : Cn) (W : WX) (O : Orc) (X : Cx) (es : List Expr) (cs : CEs) : Prop := PA X es (oneS R W O cs)
def SVs (R : Cn) (W : WX) (O : Orc) (X : Cx) (es : List Expr) (cs : CEs) : Prop := PA X es (oneV R W O cs)
theorem ses_nil : SEs R W O X [] .nil := pa_nil
theorem ses_cons (ha : SE R W O X a ca) (hr : SEs R W O X es cs) (hs : starEach (a :: es) X.env = (false, eval a X.env) :: starEach es X.env) : SEs R W O X (a :: es) (.cons ca cs) := pa_cons ha hr hs
theorem svs_nil : SVs R W O X [] .nil := pa_nil
theorem svs_cons (ha : SV R W O X a ca) (hr : SVs R W O X es cs) (hs : starEach (a :: es) X.env = (false, eval a X.env) :: starEach es X.env) : SVs R W O X (a :: es) (.cons ca cs) := pa_cons ha hr hs
theorem reps_le {vs : List LV} {xs : List V} (r : Reps R Fz ρ H vs xs) (l : vs.length ≤ Ev.SL) : xs.length ≤ sizeLine := by rw [← r.length, ← SL_eq]; exact l
theorem evs_len {P : Prg} : ∀ {cs : CEs} {h h1 : Ev.Hp} {vs : List LV}, Ev.evs P O cs L h = .ok vs h1 → vs.length = clen cs
  | .nil, _, _, _, e => by simp only [Ev.evs] at e; cases e; rfl
  | .cons c cs, h, h1, vs, e => by
    simp only [Ev.evs] at e
    cases e1 : Ev.ev P O c L h with
    | bad => rw [e1] at e; cases e
    | exc d h2 => rw [e1] at e; cases e
    | ok v h2 =>
      simp only [e1] at e
      cases e2 : Ev.evs P O cs L h2 with
      | bad => simp only [e2] at e; cases e
      | exc d h3 => simp only [e2] at e; cases e
      | ok ws h3 =>
        simp only [e2] at e
        cases e
        rw [List.length_cons, evs_len e2]
        rfl
theorem se_tup {k} (ha : SEs R W O X es cs) (hl : clen cs ≤ Ev.SL) : SE R W O X (.Tuple es k pos) (.tup cs) := by
  refine pe_imp (pe_tup ha) fun σ H Q ⟨L, h, Fz, ρ, C, S, r⟩ => ?_
  simp only [Ev.ev] at r
  refine oneS_of cs C S ?_
  cases q : Ev.evs R.pr O cs L h with
  | bad => simp only [q] at r; exact False.elim r
  | exc d h1 => simp only [q] at r; exact r
  | ok vs h1 =>
    simp only [q] at r
    intro xs H1 F1 ρ1 C1 E1 R1
    exact ⟨reps_le R1 (by rw [evs_len q]; exact hl), okP.tup C1 (okP.ext E1 r) R1⟩
theorem sf_lst (ha : SEs R W O X es cs) (hl : clen cs ≤ Ev.SL) : SF R W O X (.List es pos) (.lst cs) := by
  refine pe_imp (pe_lst ha) fun σ H Q ⟨L, h, Fz, ρ, C, S, r⟩ => ?_
  simp only [Ev.ev] at r
  refine oneS_of cs C S ?_
  cases q : Ev.evs R.pr O cs L h with
  | bad => simp only [q] at r; exact False.elim r
  | exc d h1 => simp only [q] at r; exact r
  | ok vs h1 =>
    simp only [q] at r
    intro xs H1 F1 ρ1 C1 E1 R1
    exact ⟨reps_le R1 (by rw [evs_len q]; exact hl), okF.lst C1 (okF.ext E1 r) R1⟩
/-- a new object of the machine's heap -/
theorem se_hnew (ha : SF R W O X e c) : SE R W O X e (.hnew c) := by
  refine pe_imp ha fun σ H Q ⟨L, h, Fz, ρ, C, S, r⟩ => ⟨L, h, Fz, ρ, C, S, ?_⟩
  simp only [Ev.ev] at r
  dsimp only
  cases q : Ev.ev R.pr O c L h with
  | bad => simp only [q] at r; exact False.elim r
  | exc d h1 => simp only [q] at r; exact r
  | ok v h1 =>
    simp only [q] at r
    intro x H1 F1 ρ1 C1 E1 R1
    have fin : ∀ {a : Addr} {o : LO}, ORep R F1 ρ1 H1 o a → H1 a ≠ none → ¬ F1 a → a ∉ ρ1 → H a = none → okP R Fz ρ H (h1 ++ [o]) (.ref h1.length) Q → Q (.ref a) H1 := by
      intro a o ob ha nf nr n0 k
      have g : ∃ more, ρ1 ++ [a] = ρ1 ++ more := ⟨[a], rfl⟩
      refine k (.ref a) H1 F1 (ρ1 ++ [a]) ?_ ?_ ⟨a, rfl, ?_⟩
      · refine ⟨by rw [List.length_append, List.length_append, C1.len]; rfl, ?_, fun n o' b e1 e2 => ?_, fun b z m => ?_, C1.fzt, C1.tab⟩
        · rw [List.nodup_append]
          refine ⟨C1.nd, by simp, fun x hx y hy => ?_⟩
          have : y = a := by simpa using hy
          subst this
          exact fun e => nr (e ▸ hx)
        · by_cases hn : n < h1.length
          · rw [List.getElem?_append_left hn] at e1
            rw [List.getElem?_append_left (by rw [C1.len]; exact hn)] at e2
            exact (C1.obj n o' b e1 e2).fz (fun _ z => z) g
          · have hn' : n = h1.length := by
              have := (List.getElem?_eq_some_iff.mp e1).1
              rw [List.length_append] at this
              simp at this
              omega
            subst hn'
            rw [List.getElem?_append_right (Nat.le_refl _)] at e1
            rw [List.getElem?_append_right (by rw [C1.len]; exact Nat.le_refl _)] at e2
            simp at e1
            rw [C1.len] at e2
            simp at e2
            subst e1
            subst e2
            exact ob.fz (fun _ z => z) g
        · rcases List.mem_append.mp m with z' | z'
          · exact C1.fz b z z'
          · have : b = a := by simpa using z'
            exact nf (this ▸ z)
      · refine ⟨E1.keep, E1.some, E1.fzs, E1.fzn, ?_, fun b m => ?_⟩
        · obtain ⟨m1, e1⟩ := E1.rho
          exact ⟨m1 ++ [a], by rw [e1, List.append_assoc]⟩
        · rcases List.mem_append.mp m with z' | z'
          · exact E1.rhn b z'
          · have : b = a := by simpa using z'
            exact .inr (this ▸ n0)
      · rw [← C1.len]; simp
    cases v with
    | lst xs =>
      obtain ⟨a, rfl, ct, nf, nr, n0⟩ := R1
      exact fin (o := .lst xs) ct ct.some nf nr n0 r
    | dct xs =>
      obtain ⟨a, rfl, ct, nf, nr, n0⟩ := R1
      exact fin (o := .dct xs) ct ct.some nf nr n0 r
    | _ => exact False.elim r
/-! ### attributes -/
theorem frep_get (RO : ROk R) {i : Nat} (hi : i < R.na) : ∀ {fs : List (Nat × LV)} {es : List (Str × V)} {v : LV}, FRep R Fz ρ H fs es → fs.lookup i = some v → ∃ y, es.lookup (R.an i) = some y ∧ Rep R Fz ρ H v y
  | [], _, _, _, e => by cases e
  | (j, w) :: r, _, v, ⟨y, t, e, l, q, d⟩, h => by
    rw [e]
    rw [List.lookup_cons] at h ⊢
    by_cases z : i = j
    · subst z
      simp only [beq_self_eq_true] at h ⊢
      cases h
      exact ⟨y, rfl, q⟩
    · have z2 : (i == j) = false := by simpa using z
      have z3 : (R.an i == R.an j) = false := by
        rw [beq_eq_false_iff_ne]
        exact fun q => z (RO.inj i j hi l q)
      rw [z2] at h
      rw [z3]
      exact frep_get RO hi d h
theorem frep_no (RO : ROk R) (m : Nat) : ∀ {fs : List (Nat × LV)} {es : List (Str × V)}, FRep R Fz ρ H fs es → es.lookup (R.mn m) = none
  | [], _, e => by rw [show _ = [] from e]; rfl
  | (j, w) :: r, _, ⟨y, t, e, l, q, d⟩ => by
    rw [e, List.lookup_cons]
    have z3 : (R.mn m == R.an j) = false := by
      rw [beq_eq_false_iff_ne]
      exact fun q => RO.mna j m l q.symm
    rw [z3]
    exact frep_no RO m d
theorem se_attr {i : Nat} {x : Str} (RO : ROk R) (ok : XOk R X W N sc) (ha : SE R W O X e c) (hi : i < R.na) (hx : x = R.an i) (hb : attributeBase e x X.env (eval e X.env) = eval e X.env) : SE R W O X (.Attribute e x pos) (.attr c i) := by
  subst hx
  refine pe_imp (pe_fld ha hb) fun σ H Q ⟨L, h, Fz, ρ, C, S, r⟩ => ⟨L, h, Fz, ρ, C, S, ?_⟩
  simp only [Ev.ev] at r
  dsimp only
  cases q : Ev.ev R.pr O c L h with
  | bad => simp only [q] at r; exact False.elim r
  | exc d h1 => simp only [q] at r; exact r
  | ok v h1 =>
    simp only [q] at r
    intro x H1 F1 ρ1 C1 E1 R1
    cases v with
    | ref n =>
      obtain ⟨a, rfl, hn⟩ := R1
      simp only [Ev.fld] at r
      cases z : h1[n]? with
      | none => rw [z] at r; exact False.elim r
      | some o =>
        rw [z] at r
        cases o with
        | lst _ => exact False.elim r
        | dct _ => exact False.elim r
        | ins cl fs =>
          obtain ⟨dx, es, e1, lc, fr⟩ := C1.obj n _ a z hn
          simp only at r
          cases z2 : fs.lookup i with
          | none => rw [z2] at r; exact False.elim r
          | some w =>
            rw [z2] at r
            obtain ⟨y, e2, rw'⟩ := frep_get RO hi fr z2
            exact ⟨a, R.cl cl, dx, es, y, rfl, e1, by rw [ok.K]; exact RO.cls cl lc, by rw [ok.K]; exact RO.noa cl i lc hi, e2, r y H1 F1 ρ1 C1 E1 rw'⟩
    | _ => exact False.elim r
/-! ### calls -/
theorem spO_of {f : Nat} {k : Nat} (OK : OOk R O k) (hf : f < R.pr.nf) {vs : List LV} {xs : List V} {H0 : Hp} {F0 : Addr → Prop} {ρ0 : List Addr} (E0 : Ext F0 ρ0 H0 Fz ρ H) (C : Core R Fz ρ H h) (r : Reps R Fz ρ H vs xs) {Q : VK} (q : RS R W σ F0 ρ0 H0 (O.call f vs h) Q) :
    spO R O f xs H Q (WE W σ) := by
  refine ⟨?_, h, Fz, ρ, vs, C, r, ?_⟩
  · rw [← r.length]
    refine OK.np f vs h hf fun z => ?_
    rw [z] at q
    exact q
  · cases z : O.call f vs h with
    | bad => rw [z] at q; exact q
    | exc c h1 => rw [z] at q; exact fun H' F' ρ' C' E' => q H' F' ρ' C' (E0.trans E')
    | ok v h1 => rw [z] at q; exact okP.ext E0 q
theorem se_call {f k : Nat} {x : Str} {p : Pos} (RO : ROk R) (ok : XOk R X W N sc) (OK : OOk R O k) (hr : Room k X.A) (hf : f < R.pr.nf) (hg : sc.names.lookup x = some .globalImplicit) (hm : R.mg x = some (.ref (R.fi f).addr)) (ha : SEs R W O X (e :: es) cs)
    (hdb : (x == ("__debug__" : Str)) = false) (he : starEach (e :: es) X.env = (false, eval e X.env) :: starEach es X.env) (hpl : (backTo pos (starEach es X.env)).any (·.1) = false) :
    SE R W O X (.Call (.Name x p) (e :: es) [] pos) (.call f cs) := by
  have F := OK.fn X.base ok.base f hf
  rw [← ok.P, ← ok.w, ← ok.K, ← ok.mg] at F
  refine pe_imp (pe_callS F hr (by show X.env.scope.names.lookup x = _; rw [ok.sc]; exact hg) (by rw [ok.mg]; exact hm) (by rw [ok.K]; exact RO.keep f hf) (by rw [ok.K]; exact RO.binds f hf) (passAt ok.tk) ha hdb he hpl) fun σ H Q ⟨L, h, Fz, ρ, C, S, r⟩ => ?_
  simp only [Ev.ev] at r
  refine oneS_of cs C S ?_
  cases q : Ev.evs R.pr O cs L h with
  | bad => simp only [q] at r; exact False.elim r
  | exc d h1 => simp only [q] at r; exact r
  | ok vs h1 =>
    simp only [q] at r
    intro xs H1 F1 ρ1 C1 E1 R1
    exact spO_of OK hf E1 C1 R1 r
theorem se_call0 {f k : Nat} {x : Str} {p : Pos} (RO : ROk R) (ok : XOk R X W N sc) (OK : OOk R O k) (hr : Room k X.A) (hf : f < R.pr.nf) (hg : sc.names.lookup x = some .globalImplicit) (hm : R.mg x = some (.ref (R.fi f).addr))
    (hdb : (x == ("__debug__" : Str)) = false) : SE R W O X (.Call (.Name x p) [] [] pos) (.call f .nil) := by
  have F := OK.fn X.base ok.base f hf
  rw [← ok.P, ← ok.w, ← ok.K, ← ok.mg] at F
  refine ⟨fun pins s σ H Q I ⟨L, h, Fz, ρ, C, S, r⟩ => ?_⟩
  simp only [Ev.ev, Ev.evs] at r
  refine wpAny_Call_Name_kw (ld_glob I (by show X.env.scope.names.lookup x = _; rw [ok.sc]; exact hg) (by rw [ok.mg]; exact hm) ?_ hdb)
  refine PySem.W.callWith_K0 I.kIn (by rw [ok.K]; exact RO.keep f hf) (run_fnS (us := []) F hr (by rw [ok.K]; exact RO.binds f hf) (passAt ok.tk σ) I .nil ?_)
  exact spO_of (vs := []) OK hf Ext.refl C rfl r
/-- o.m(..), the class as it is -/
theorem pe_methX {k : Nat} {o : Expr} {m : Str} {apos : Pos} {E : L2.St → XK} {CX : CXT} {ta : TE} {t : TA} {pl : Sem Bool} (he : PE X o ta) (hx : ∀ σ, PassesAt CX X σ (E σ)) (hr : Room k X.A) (ha : PA X (e :: es) t)
    (hst : starEach (e :: es) X.env = (false, eval e X.env) :: starEach es X.env) (hpl : (backTo pos (starEach es X.env)).any (·.1) = false)
    (ht : eval (.Call (.Attribute o m apos) (e :: es) [] pos) X.env = (do
      let ov ← eval o X.env
      standAt apos.atName
      let (f, first) ← holding [ov] (getMethod ov m pl)
      callWith pos f first (backTo pos (starEach (e :: es) X.env)) (backToKw pos (keywordEach [] X.env)))) :
    PE X (.Call (.Attribute o m apos) (e :: es) [] pos) (fun σ H Q => ta σ H fun x H1 => ∃ a Ca dx fs f fd ps sp, x = .ref a ∧ H1 a = some (.ins Ca dx fs) ∧ fs.lookup m = none ∧ Cls X.K Ca ∧ L2.Meth X.K Ca m f ∧ FnOk X.prog X.w X.K X.mg X.base CX k f fd ps sp ∧ Binds X.K fd ps [] ∧
      t σ H1 fun vs H2 => sp (x :: vs) H2 Q (E σ)) := by
  refine ⟨fun pins s σ H Q I h => ?_⟩
  refine PySem.W.methodCall_KW (pl := pl) (thn (he.run pins s σ H _ I h) fun u s1 ⟨x, H1, I1, rx, a, Ca, dx, fs, f, fd, ps, sp, ex, ea, l, c, hm, F, hb, q⟩ => ?_) ht
  subst ex
  obtain rfl : u = Value.ref a := rx
  refine getmeth_ok I1 ea c hm l ?_
  refine PySem.W.callWith_K (first := [.ref a]) (h₀ := X.base) I.ok.mod.kin hm.kp (thn (ha.run pos pins s1 σ H1 _ I1 q) fun us s2 ⟨vs, H2, I2, r, q2⟩ => ⟨I2.kIn, ?_⟩) hst hpl
  exact run_fnS (us := .ref a :: us) (vs := .ref a :: vs) F hr hb (hx σ) I2 (.cons rfl r) q2
theorem pe_methX0 {k : Nat} {o : Expr} {m : Str} {apos : Pos} {E : L2.St → XK} {CX : CXT} {ta : TE} {pl : Sem Bool} (he : PE X o ta) (hx : ∀ σ, PassesAt CX X σ (E σ)) (hr : Room k X.A)
    (ht : eval (.Call (.Attribute o m apos) [] [] pos) X.env = (do
      let ov ← eval o X.env
      standAt apos.atName
      let (f, first) ← holding [ov] (getMethod ov m pl)
      callWith pos f first (backTo pos (starEach [] X.env)) (backToKw pos (keywordEach [] X.env)))) :
    PE X (.Call (.Attribute o m apos) [] [] pos) (fun σ H Q => ta σ H fun x H1 => ∃ a Ca dx fs f fd ps sp, x = .ref a ∧ H1 a = some (.ins Ca dx fs) ∧ fs.lookup m = none ∧ Cls X.K Ca ∧ L2.Meth X.K Ca m f ∧ FnOk X.prog X.w X.K X.mg X.base CX k f fd ps sp ∧ Binds X.K fd ps [] ∧
      sp [x] H1 Q (E σ)) := by
  refine ⟨fun pins s σ H Q I h => ?_⟩
  refine PySem.W.methodCall_KW (pl := pl) (thn (he.run pins s σ H _ I h) fun u s1 ⟨x, H1, I1, rx, a, Ca, dx, fs, f, fd, ps, sp, ex, ea, l, c, hm, F, hb, q⟩ => ?_) ht
  subst ex
  obtain rfl : u = Value.ref a := rx
  refine getmeth_ok I1 ea c hm l ?_
  exact PySem.W.callWith_K0 (first := [.ref a]) I1.kIn hm.kp (run_fnS (us := [.ref a]) (vs := [.ref a]) F hr hb (hx σ) I1 (.cons rfl .nil) q)
theorem meth_of {k i : Nat} (RO : ROk R) (ok : XOk R X W N sc) (OK : OOk R O k) {n : Nat} {a : Addr} (C : Core R Fz ρ H h) (hn : ρ[n]? = some a) {cl : Nat} {fs : List (Nat × LV)} (z : h[n]? = some (.ins cl fs)) (hf : R.pr.meth cl i < R.pr.nf) :
    ∃ Ca dx es f fd ps sp, V.ref a = .ref a ∧ H a = some (.ins Ca dx es) ∧ es.lookup (R.mn i) = none ∧ Cls X.K Ca ∧ L2.Meth X.K Ca (R.mn i) f ∧ FnOk X.prog X.w X.K X.mg X.base (L2.CX X.prog X.w) k f fd ps sp ∧ Binds X.K fd ps [] ∧ sp = spO R O (R.pr.meth cl i) := by
  obtain ⟨dx, es, e1, lc, fr⟩ := C.obj n _ a z hn
  have F := OK.fn X.base ok.base _ hf
  rw [← ok.P, ← ok.w, ← ok.K, ← ok.mg] at F
  exact ⟨R.cl cl, dx, es, _, _, _, _, rfl, e1, frep_no RO i fr, by rw [ok.K]; exact RO.cls cl lc, by rw [ok.K]; exact RO.meth cl i lc hf, F, by rw [ok.K]; exact RO.binds _ hf, rfl⟩
theorem se_meth {k i : Nat} {o : Expr} {co : CE} {m : Str} {apos : Pos} {pl : Sem Bool} (RO : ROk R) (ok : XOk R X W N sc) (OK : OOk R O k) (hr : Room k X.A) (ho : SE R W O X o co) (hm : m = R.mn i) (ha : SEs R W O X (e :: es) cs)
    (hst : starEach (e :: es) X.env = (false, eval e X.env) :: starEach es X.env) (hpl : (backTo pos (starEach es X.env)).any (·.1) = false)
    (ht : eval (.Call (.Attribute o m apos) (e :: es) [] pos) X.env = (do
      let ov ← eval o X.env
      standAt apos.atName
      let (f, first) ← holding [ov] (getMethod ov m pl)
      callWith pos f first (backTo pos (starEach (e :: es) X.env)) (backToKw pos (keywordEach [] X.env)))) :
    SE R W O X (.Call (.Attribute o m apos) (e :: es) [] pos) (.meth i co cs) := by
  subst hm
  refine pe_imp (pe_methX ho (passAt ok.tk) hr ha hst hpl ht) fun σ H Q ⟨L, h, Fz, ρ, C, S, r⟩ => ⟨L, h, Fz, ρ, C, S, ?_⟩
  simp only [Ev.ev] at r
  dsimp only
  cases q : Ev.ev R.pr O co L h with
  | bad => simp only [q] at r; exact False.elim r
  | exc d h1 => simp only [q] at r; exact r
  | ok v h1 =>
    simp only [q] at r
    intro x H1 F1 ρ1 C1 E1 R1
    cases v with
    | ref n =>
      obtain ⟨a, rfl, hn⟩ := R1
      simp only at r
      cases z : h1[n]? with
      | none => simp only [z] at r; exact False.elim r
      | some ob =>
        cases ob with
        | lst _ => simp only [z] at r; exact False.elim r
        | dct _ => simp only [z] at r; exact False.elim r
        | ins cl fs =>
          simp only [z] at r
          by_cases hf : R.pr.meth cl i < R.pr.nf
          · rw [if_pos hf] at r
            obtain ⟨Ca, dx, es', f, fd, ps, sp, e0, e1, e2, e3, e4, F, hb, esp⟩ := meth_of RO ok OK C1 hn z hf
            refine ⟨a, Ca, dx, es', f, fd, ps, sp, e0, e1, e2, e3, e4, F, hb, ?_⟩
            subst esp
            refine oneS_of cs C1 (S.mono C E1) ?_
            cases q2 : Ev.evs R.pr O cs L h1 with
            | bad => simp only [q2] at r; exact False.elim r
            | exc d h2 => simp only [q2] at r; exact exP.ext E1 r
            | ok vs h2 =>
              simp only [q2] at r
              intro xs H2 F2 ρ2 C2 E2 R2
              exact spO_of (vs := .ref n :: vs) OK hf (E1.trans E2) C2 ⟨_, xs, rfl, Rep.mono C1 E2 (.ref n) ⟨a, rfl, hn⟩, R2⟩ r
          · rw [if_neg hf] at r
            exact False.elim r
    | _ => exact False.elim r
theorem se_meth0 {k i : Nat} {o : Expr} {co : CE} {m : Str} {apos : Pos} {pl : Sem Bool} (RO : ROk R) (ok : XOk R X W N sc) (OK : OOk R O k) (hr : Room k X.A) (ho : SE R W O X o co) (hm : m = R.mn i)
    (ht : eval (.Call (.Attribute o m apos) [] [] pos) X.env = (do
      let ov ← eval o X.env
      standAt apos.atName
      let (f, first) ← holding [ov] (getMethod ov m pl)
      callWith pos f first (backTo pos (starEach [] X.env)) (backToKw pos (keywordEach [] X.env)))) :
    SE R W O X (.Call (.Attribute o m apos) [] [] pos) (.meth i co .nil) := by
  subst hm
  refine pe_imp (pe_methX0 ho (passAt ok.tk) hr ht) fun σ H Q ⟨L, h, Fz, ρ, C, S, r⟩ => ⟨L, h, Fz, ρ, C, S, ?_⟩
  simp only [Ev.ev, Ev.evs] at r
  dsimp only
  cases q : Ev.ev R.pr O co L h with
  | bad => simp only [q] at r; exact False.elim r
  | exc d h1 => simp only [q] at r; exact r
  | ok v h1 =>
    simp only [q] at r
    intro x H1 F1 ρ1 C1 E1 R1
    cases v with
    | ref n =>
      obtain ⟨a, rfl, hn⟩ := R1
      simp only at r
      cases z : h1[n]? with
      | none => simp only [z] at r; exact False.elim r
      | some ob =>
        cases ob with
        | lst _ => simp only [z] at r; exact False.elim r
        | dct _ => simp only [z] at r; exact False.elim r
        | ins cl fs =>
          simp only [z] at r
          by_cases hf : R.pr.meth cl i < R.pr.nf
          · rw [if_pos hf] at r
            obtain ⟨Ca, dx, es', f, fd, ps, sp, e0, e1, e2, e3, e4, F, hb, esp⟩ := meth_of RO ok OK C1 hn z hf
            refine ⟨a, Ca, dx, es', f, fd, ps, sp, e0, e1, e2, e3, e4, F, hb, ?_⟩
            subst esp
            exact spO_of (vs := [.ref n]) OK hf E1 C1 ⟨_, [], rfl, ⟨a, rfl, hn⟩, rfl⟩ r
          · rw [if_neg hf] at r
            exact False.elim r
    | _ => exact False.elim r
/-! ### instances -/
theorem run_makeX {k : Nat} {C f : Addr} {fd : FuncData} {ps : List Str} {sp : Sp} {CX : CXT} {E : L2.St → XK} {pins : List (Addr × Obj)} {s : Shared} {Q : VK} {us : List Value} {vs : List V} (M : Mk X.K C f) (F : FnOk X.prog X.w X.K X.mg X.base CX k f fd ps sp) (hr : Room (k + 1) X.A) (hb : Binds X.K fd ps [])
    (hx : PassesAt CX X σ (E σ)) (I : Inv X pins σ H s) (r : Vals vs us)
    (h : ∀ x dx, H x = none → H dx = none → dx ≠ x → sp (.ref x :: vs) (upd (upd H dx (.own x)) x (.ins C dx [])) (fun v H2 => v = .non ∧ Q (.ref x) H2) (E σ)) :
    wpAny (model X.prog X.w) X.A (call (.ref C) us) (EP X pins σ Q) X.xe s := by
  have hq := h (s.heap.objs.size + 1) s.heap.objs.size (I.hok.fresh (Nat.le_succ _)) (I.hok.fresh (Nat.le_refl _)) (Nat.ne_of_lt (Nat.lt_succ_self _))
  have I2 := Inv.made (C := C) I
  have r2 : Vals (V.ref (s.heap.objs.size + 1) :: vs) (Value.ref (s.heap.objs.size + 1) :: us) := .cons rfl r
  have hl : (Value.ref (s.heap.objs.size + 1) :: us).length = ps.length := by
    have e := r2.length
    rw [F.len _ _ _ _ hq] at e
    exact e.symm
  have b := hb _ (Value.ref (s.heap.objs.size + 1) :: us) I2.kIn (by rw [List.append_nil]; exact hl)
  rw [List.append_nil] at b
  refine wpAny_call (make_map (f := f) I.kIn M.makes M.init (beq_iff_eq.mp M.fn) (codeAny_mono (F.run _ X.stack _ _ ⟨Value.ref (s.heap.objs.size + 1) :: us, []⟩ (Value.ref (s.heap.objs.size + 1) :: us) _ _ (E σ) (hr.make C us [])
    (I2.env0.make C us []) b r2 hq) fun r s' hq' => ?_))
  cases r with
  | error e => exact hx pins _ _ e s' I2 hq'
  | ok fl =>
    cases fl with
    | ret u =>
      obtain ⟨v, H', I3, rv, ev, q3⟩ := I2.after hq'
      subst ev
      exact ⟨rv, ⟨V.ref (s.heap.objs.size + 1), H', I3, rfl, q3⟩⟩
    | next => exact False.elim hq'
    | brk => exact False.elim hq'
    | cont => exact False.elim hq'
theorem Core.make (C : Core R Fz ρ H h) {c : Nat} (hc : R.ic c = true) {x dx : Addr} (hx : H x = none) (hd : H dx = none) (ne : dx ≠ x) :
    Core R Fz (ρ ++ [x]) (upd (upd H dx (.own x)) x (.ins (R.cl c) dx [])) (h ++ [.ins c []]) ∧ Ext Fz ρ H Fz (ρ ++ [x]) (upd (upd H dx (.own x)) x (.ins (R.cl c) dx [])) := by
  have old : ∀ b u, H b = some u → upd (upd H dx (.own x)) x (.ins (R.cl c) dx []) b = some u := fun b u e => by
    rw [upd_ne (ne_of_none e hx), upd_ne (ne_of_none e hd)]; exact e
  have E : Ext Fz ρ H Fz (ρ ++ [x]) (upd (upd H dx (.own x)) x (.ins (R.cl c) dx [])) := by
    refine ⟨fun a u e _ _ => old a u e, fun a e => ?_, fun _ z => z, fun a z => .inl z, ⟨[x], rfl⟩, fun a m => ?_⟩
    · cases q : H a with
      | none => exact absurd q e
      | some u => rw [old a u q]; simp
    · rcases List.mem_append.mp m with z | z
      · exact .inl z
      · exact .inr (by rw [show a = x by simpa using z]; exact hx)
  have nx : x ∉ ρ := fun m => C.live m hx
  refine ⟨⟨by rw [List.length_append, List.length_append, C.len]; rfl, ?_, fun n o' b e1 e2 => ?_, fun a z m => ?_, fun a z => E.some a (C.fzt a z), C.tab.ext old⟩, E⟩
  · rw [List.nodup_append]
    refine ⟨C.nd, by simp, fun y hy z hz => ?_⟩
    have : z = x := by simpa using hz
    subst this
    exact fun e => nx (e ▸ hy)
  · by_cases hn : n < h.length
    · rw [List.getElem?_append_left hn] at e1
      rw [List.getElem?_append_left (by rw [C.len]; exact hn)] at e2
      have m : b ∈ ρ := List.mem_of_getElem? e2
      refine (C.obj n o' b e1 e2).mono C E ?_
      cases q : H b with
      | none => exact absurd q (C.live m)
      | some u => exact old b u q
    · have hn' : n = h.length := by
        have := (List.getElem?_eq_some_iff.mp e1).1
        rw [List.length_append] at this
        simp at this
        omega
      subst hn'
      rw [List.getElem?_append_right (Nat.le_refl _)] at e1
      rw [List.getElem?_append_right (by rw [C.len]; exact Nat.le_refl _)] at e2
      simp at e1
      rw [C.len] at e2
      simp at e2
      subst e1
      subst e2
      exact ⟨dx, [], upd_same, hc, rfl⟩
  · rcases List.mem_append.mp m with z' | z'
    · exact C.fz a z z'
    · rw [show a = x by simpa using z'] at z
      exact C.fzt x z hx
theorem make_of {k c : Nat} (OK : OOk R O k) (hc : R.ic c = true) (hf : R.pr.meth c 0 < R.pr.nf) {vs : List LV} {xs : List V} {H0 : Hp} {F0 : Addr → Prop} {ρ0 : List Addr} (E0 : Ext F0 ρ0 H0 Fz ρ H) (C : Core R Fz ρ H h) (r : Reps R Fz ρ H vs xs) {Q : VK}
    (q : RS R W σ F0 ρ0 H0 (match O.call (R.pr.meth c 0) (.ref h.length :: vs) (h ++ [.ins c []]) with
      | .ok v h2 => if v matches .non then .ok (.ref h.length) h2 else .bad
      | .exc c h2 => .exc c h2
      | .bad => .bad) Q) :
    ∀ x dx, H x = none → H dx = none → dx ≠ x → spO R O (R.pr.meth c 0) (.ref x :: xs) (upd (upd H dx (.own x)) x (.ins (R.cl c) dx [])) (fun v H2 => v = .non ∧ Q (.ref x) H2) (WE W σ) := by
  intro x dx hx hd ne
  obtain ⟨C1, E1⟩ := C.make hc hx hd ne
  have r0 : Rep R Fz (ρ ++ [x]) (upd (upd H dx (.own x)) x (.ins (R.cl c) dx [])) (.ref h.length) (.ref x) := ⟨x, rfl, by rw [← C.len]; simp⟩
  refine ⟨?_, _, Fz, ρ ++ [x], .ref h.length :: vs, C1, ⟨_, xs, rfl, r0, Reps.mono C E1 vs r⟩, ?_⟩
  · have e := OK.np (R.pr.meth c 0) (.ref h.length :: vs) (h ++ [.ins c []]) hf fun z => by
      rw [z] at q
      exact q
    rw [List.length_cons, r.length] at e
    rw [List.length_cons]
    exact e
  · cases z : O.call (R.pr.meth c 0) (.ref h.length :: vs) (h ++ [.ins c []]) with
    | bad => rw [z] at q; exact q
    | exc d h1 => rw [z] at q; exact fun H' F' ρ' C' E' => q H' F' ρ' C' (E0.trans (E1.trans E'))
    | ok v h1 =>
      simp only [z] at q
      intro y H2 F2 ρ2 C2 E2 R2
      cases v with
      | non => exact ⟨R2, q (.ref x) H2 F2 ρ2 C2 (E0.trans (E1.trans E2)) (Rep.mono C1 E2 (.ref h.length) r0)⟩
      | _ => exact False.elim q
theorem se_make {c k : Nat} {x : Str} {p : Pos} (RO : ROk R) (ok : XOk R X W N sc) (OK : OOk R O k) (hr : Room (k + 1) X.A) (hc : R.ic c = true) (hf : R.pr.meth c 0 < R.pr.nf) (M : Mk R.K (R.cl c) (R.fi (R.pr.meth c 0)).addr) (hg : sc.names.lookup x = some .globalImplicit) (hm : R.mg x = some (.ref (R.cl c))) (ha : SEs R W O X (e :: es) cs)
    (hdb : (x == ("__debug__" : Str)) = false) (he : starEach (e :: es) X.env = (false, eval e X.env) :: starEach es X.env) (hpl : (backTo pos (starEach es X.env)).any (·.1) = false) :
    SE R W O X (.Call (.Name x p) (e :: es) [] pos) (.make c cs) := by
  have F := OK.fn X.base ok.base _ hf
  rw [← ok.P, ← ok.w, ← ok.K, ← ok.mg] at F
  refine ⟨fun pins s σ H Q I ⟨L, h, Fz, ρ, C, S, r⟩ => ?_⟩
  simp only [Ev.ev] at r
  refine wpAny_Call_Name_kw (ld_glob I (by show X.env.scope.names.lookup x = _; rw [ok.sc]; exact hg) (by rw [ok.mg]; exact hm) ?_ hdb)
  have ha' := ha.run pos pins s σ H (fun xs H1 => ∀ x dx, H1 x = none → H1 dx = none → dx ≠ x → spO R O (R.pr.meth c 0) (.ref x :: xs) (upd (upd H1 dx (.own x)) x (.ins (R.cl c) dx [])) (fun v H2 => v = .non ∧ Q (.ref x) H2) (WE W σ)) I ?_
  · refine PySem.W.callWith_K (h₀ := X.base) I.ok.mod.kin (by rw [ok.K]; exact M.kp) (thn ha' fun us s1 ⟨vs, H1, I1, r1, q1⟩ => ⟨I1.kIn, ?_⟩) he hpl
    exact run_makeX (by rw [ok.K]; exact M) F hr (by rw [ok.K]; exact RO.binds _ hf) (passAt ok.tk σ) I1 r1 q1
  · refine oneS_of cs C S ?_
    cases q : Ev.evs R.pr O cs L h with
    | bad => simp only [q] at r; exact False.elim r
    | exc d h1 => simp only [q] at r; exact r
    | ok vs h1 =>
      simp only [q] at r
      intro xs H1 F1 ρ1 C1 E1 R1
      exact make_of OK hc hf E1 C1 R1 r
theorem se_make0 {c k : Nat} {x : Str} {p : Pos} (RO : ROk R) (ok : XOk R X W N sc) (OK : OOk R O k) (hr : Room (k + 1) X.A) (hc : R.ic c = true) (hf : R.pr.meth c 0 < R.pr.nf) (M : Mk R.K (R.cl c) (R.fi (R.pr.meth c 0)).addr) (hg : sc.names.lookup x = some .globalImplicit) (hm : R.mg x = some (.ref (R.cl c)))
    (hdb : (x == ("__debug__" : Str)) = false) : SE R W O X (.Call (.Name x p) [] [] pos) (.make c .nil) := by
  have F := OK.fn X.base ok.base _ hf
  rw [← ok.P, ← ok.w, ← ok.K, ← ok.mg] at F
  refine ⟨fun pins s σ H Q I ⟨L, h, Fz, ρ, C, S, r⟩ => ?_⟩
  simp only [Ev.ev, Ev.evs] at r
  refine wpAny_Call_Name_kw (ld_glob I (by show X.env.scope.names.lookup x = _; rw [ok.sc]; exact hg) (by rw [ok.mg]; exact hm) ?_ hdb)
  refine PySem.W.callWith_K0 I.kIn (by rw [ok.K]; exact M.kp) (run_makeX (us := []) (by rw [ok.K]; exact M) F hr (by rw [ok.K]; exact RO.binds _ hf) (passAt ok.tk σ) I .nil ?_)
  exact make_of (vs := []) OK hc hf Ext.refl C rfl r
end
end Sd
end
section
set_option maxRecDepth 100000
set_option maxHeartbeats 2000000
/-! expressions: places, slices, built-ins, chains, dicts -/
namespace Sd
open PySem PySem.Spec PyProof.Rows L2
open Ev (LV LO CE CEs Src Tg Tgs CKs TG TGs CS CSs Prg Orc Slot)
section
variable {R : Cn} {X : Cx} {W : WX} {O : Orc} {σ : L2.St} {Fz Fz' : Addr → Prop} {ρ ρ' : List Addr} {H H' : Hp} {h h' : Ev.Hp} {L : Ev.Env} {N : List Str} {sc : Scope}
variable {a b e : Expr} {ca cb c : CE} {pos : Pos} {es : List Expr} {cs : CEs}

theorem se_idx (ok : XOk R X W N sc) (ha : SV R W O X a ca) (hb : SV R W O X b cb) (hs : PlainIx b) : SE R W O X (.Subscript a b pos) (.op .idx (.cons ca (.cons cb .nil))) := by
  have hx : IxR X (rIx4 R.K) := by rw [← ok.K]; exact ix4 (by have := ok.un; omega)
  exact pe_imp (pe_ix hx ha hb hs) fun σ H Q t => op_of (Op2.n sem_idx) rfl t
/-! ### slices -/
def optI : LV → Option (Option Int)
  | .non => some none
  | .int i => some (some i)
  | _ => none
theorem clip_sIx {o : LV} {oi : Option Int} (e : optI o = some oi) (d n : Nat) : Ev.clip o d n = some (HT.sIx n d oi) := by
  cases o <;> first | (cases e; done) | skip
  · cases e; rfl
  · cases e; rfl
theorem clip_opt {o : LV} {d n k : Nat} (e : Ev.clip o d n = some k) : ∃ oi, optI o = some oi := by
  cases o <;> first | (cases e; done) | exact ⟨_, rfl⟩
theorem cut_eq {α : Type} (xs : List α) (lo hi : Nat) : Ev.cut lo hi xs = (xs.drop lo).take (hi - lo) := by
  unfold Ev.cut
  rw [List.take_drop] <;> try rfl
  by_cases h : lo ≤ hi
  · rw [show lo + (hi - lo) = hi by omega]
  · rw [List.drop_eq_nil_of_le, List.drop_eq_nil_of_le]
    · rw [List.length_take]; omega
    · rw [List.length_take]; omega
theorem slcL_eq {α : Type} {xs ys : List α} {a b : LV} (e : Ev.slcL xs a b = some ys) : ∃ lo hi, optI a = some lo ∧ optI b = some hi ∧ ys = (xs.drop (HT.sIx xs.length 0 lo)).take (HT.sIx xs.length xs.length hi - HT.sIx xs.length 0 lo) := by
  obtain ⟨l, e1, e2⟩ := Option.bind_eq_some_iff.mp (show (Ev.clip a 0 xs.length).bind _ = some ys from e)
  obtain ⟨u, e3, e4⟩ := Option.map_eq_some_iff.mp e2
  obtain ⟨lo, h1⟩ := clip_opt e1
  obtain ⟨hi, h2⟩ := clip_opt e3
  rw [clip_sIx h1] at e1
  rw [clip_sIx h2] at e3
  cases e1; cases e3
  exact ⟨lo, hi, h1, h2, by rw [← e4, cut_eq]⟩
abbrev rSl3 (K : PySem.W.Frag) : V → Option Int → Option Int → Hp → VK → Prop := fun x lo hi H Q => rSlL K x lo hi H Q ∨ rSlA K x lo hi H Q ∨ rSlS x lo hi H Q
theorem sl3 : SlR X (rSl3 X.K) := sl_list.or (sl_tupA.or sl_str)
theorem rep_opt {o : LV} {oi : Option Int} {x : V} (e : optI o = some oi) (r : RepW R Fz ρ H o x) : (oi = none ∧ x = .non) ∨ ∃ i, oi = some i ∧ x = .int i := by
  cases o <;> first | (cases e; done) | skip
  · cases e; cases r; exact .inl ⟨rfl, rfl⟩
  · cases e; cases r; exact .inr ⟨_, rfl, rfl⟩
def EndV (o : Option Int) (x : V) : Prop := (o = none ∧ x = .non) ∨ ∃ i, o = some i ∧ x = .int i
theorem repWs3 {v w z : LV} {xs : List V} (r : RepWs R Fz ρ H [v, w, z] xs) : ∃ x y t, xs = [x, y, t] ∧ RepW R Fz ρ H v x ∧ RepW R Fz ρ H w y ∧ RepW R Fz ρ H z t := by
  obtain ⟨x, t, e, a, b⟩ := r
  obtain ⟨y, z, e2, c, d⟩ := repWs2 b
  exact ⟨x, y, z, by rw [e, e2], a, c, d⟩
theorem repsL {K : PySem.W.Frag} {vs : List V} {xs : List LV} (t : Reps R Fz ρ H xs vs) (lo hi : Option Int) : Reps R Fz ρ H ((xs.drop (HT.sIx xs.length 0 lo)).take (HT.sIx xs.length xs.length hi - HT.sIx xs.length 0 lo)) (cutV vs lo hi) := by
  unfold cutV
  rw [← t.length]
  exact (t.drop _).take _
theorem sem_slc {lo hi : Option Int} {o l u v : LV} {x : V} {Q : VK} (C : Core R Fz ρ H h) (r1 : RepW R Fz ρ H o x) (hl : optI l = some lo) (hu : optI u = some hi) (e : Ev.slcV o l u = some v) (k : okF R Fz ρ H h v Q) : rSl3 R.K x lo hi H Q := by
  cases o with
  | tup ys =>
    obtain ⟨zs, e1, rfl⟩ := Option.map_eq_some_iff.mp (show (Ev.slcL ys l u).map .tup = some v from e)
    obtain ⟨lo', hi', h1, h2, rfl⟩ := slcL_eq e1
    rw [hl] at h1; rw [hu] at h2; cases h1; cases h2
    obtain ⟨a, ws, rfl, q, t⟩ := r1
    refine .inr (.inl ⟨a, ws, rfl, q, fun ⟨w1, w2⟩ => ?_, fun _ => okP.tup C (k.toP rfl) (repsL (K := R.K) t lo hi)⟩)
    refine (k.toP rfl).now C ⟨a, ws, rfl, q, ?_⟩
    have := repsL (K := R.K) t lo hi
    unfold cutV at this
    rw [w1, w2] at this
    simpa using this
  | lst ys =>
    obtain ⟨zs, e1, rfl⟩ := Option.map_eq_some_iff.mp (show (Ev.slcL ys l u).map .lst = some v from e)
    obtain ⟨lo', hi', h1, h2, rfl⟩ := slcL_eq e1
    rw [hl] at h1; rw [hu] at h2; cases h1; cases h2
    obtain ⟨a, ws, rfl, q, t⟩ := r1
    exact .inl ⟨a, ws, rfl, .inl (.inl q), okF.lst C k (repsL (K := R.K) t lo hi)⟩
  | rol ys =>
    obtain ⟨zs, e1, rfl⟩ := Option.map_eq_some_iff.mp (show (Ev.slcL ys l u).map .lst = some v from e)
    obtain ⟨lo', hi', h1, h2, rfl⟩ := slcL_eq e1
    rw [hl] at h1; rw [hu] at h2; cases h1; cases h2
    obtain ⟨a, ws, rfl, q, t⟩ := r1
    refine .inl ⟨a, ws, rfl, ?_, okF.lst C k (repsL (K := R.K) t lo hi)⟩
    rcases q with ⟨o, q⟩ | ⟨o, its, n, q⟩ | ⟨_, q⟩
    · exact .inl (.inr ⟨o, q⟩)
    · exact .inr ⟨o, its, n, q⟩
    · exact .inl (.inl q)
  | str ys =>
    obtain ⟨zs, e1, rfl⟩ := Option.map_eq_some_iff.mp (show (Ev.slcL ys l u).map .str = some v from e)
    obtain ⟨lo', hi', h1, h2, rfl⟩ := slcL_eq e1
    rw [hl] at h1; rw [hu] at h2; cases h1; cases h2
    obtain ⟨rfl, q⟩ := r1
    refine .inr (.inr ⟨st ys, rfl, by rw [st_len, ← SL_eq]; exact q.2, ?_⟩)
    have e5 : cutS (st ys) lo hi = st ((ys.drop (HT.sIx ys.length 0 lo)).take (HT.sIx ys.length ys.length hi - HT.sIx ys.length 0 lo)) := by
      show (⟨_⟩ : Str) = ⟨_⟩
      rw [st_toList, st_len]
    rw [e5]
    refine (k.toP rfl).now C ⟨rfl, fun c hc => q.1 c (List.mem_of_mem_drop (List.mem_of_mem_take hc)), ?_⟩
    rw [List.length_take, List.length_drop]
    have := q.2
    omega
  | _ => cases e
/-- a slice's end -/
def SPO (R : Cn) (W : WX) (O : Orc) (X : Cx) (e : Option Expr) (c : CE) : Prop := PO X e (fun σ H Q => tV R W O c σ H fun x H1 => ∃ oi, EndV oi x ∧ Q oi H1)
theorem PO.imp {o : Option Expr} {t t' : TO} (p : PO X o t) (i : ∀ σ H Q, t' σ H Q → t σ H Q) : PO X o t' := ⟨fun pins s σ H Q I h => p.run pins s σ H Q I (i σ H Q h)⟩
theorem spo_no : SPO R W O X none (.cst .non) := by
  refine PO.imp po_none fun σ H Q ⟨L, h, Fz, ρ, C, S, r⟩ => ?_
  have r : okV R Fz ρ H h .non _ := r
  obtain ⟨oi, e, q⟩ := r .non H Fz ρ C Ext.refl rfl
  rcases e with ⟨rfl, _⟩ | ⟨i, _, z⟩
  · exact q
  · cases z
theorem spo_some (s : SV R W O X e c) : SPO R W O X (some e) c := by
  refine ⟨fun pins s' σ H Q I hw => ?_⟩
  rw [evalPart_some]
  refine thn (s.run pins s' σ H _ I hw) fun u s1 ⟨x, H1, I1, r1, q1⟩ => ?_
  obtain ⟨oi, e, q⟩ := q1
  rcases e with ⟨rfl, rfl⟩ | ⟨i, rfl, rfl⟩
  · cases r1
    exact ⟨none, H1, I1, .none, q⟩
  · obtain ⟨t, rfl⟩ := r1
    exact ⟨some i, H1, I1, .int i t, q⟩
theorem isEnd_opt {l : LV} (e : Ev.isEnd l = true) : ∃ oi, optI l = some oi := by
  cases l <;> first | (cases e; done) | exact ⟨_, rfl⟩
theorem repV_end {l : LV} {x : V} {oi : Option Int} (e : optI l = some oi) (r : RepV R Fz ρ H l x) : EndV oi x := by
  cases l <;> first | (cases e; done) | skip
  · cases e; cases r; exact .inl ⟨rfl, rfl⟩
  · cases e; cases r; exact .inr ⟨_, rfl, rfl⟩
theorem sf_slc {lo hi : Option Expr} {cl cu : CE} {p2 : Pos} (ok : XOk R X W N sc) (ha : SV R W O X a ca) (hl : SPO R W O X lo cl) (hu : SPO R W O X hi cu) :
    SF R W O X (.Subscript a (.Slice lo hi none p2) pos) (.slice ca cl cu) := by
  have hx : SlR X (rSl3 R.K) := by rw [← ok.K]; exact sl3
  refine pe_imp (pe_slice hx ha hl hu) fun σ H Q ⟨L, h, Fz, ρ, C, S, r⟩ => ⟨L, h, Fz, ρ, C, S, ?_⟩
  simp only [Ev.ev] at r
  dsimp only
  cases q : Ev.sel ca L h (Ev.ev R.pr O ca L h) with
  | bad => simp only [q] at r; exact False.elim r
  | exc d h1 => simp only [q] at r; exact r
  | ok v h1 =>
    simp only [q] at r
    intro x H1 F1 ρ1 C1 E1 R1
    refine ⟨L, h1, F1, ρ1, C1, S.mono C E1, ?_⟩
    dsimp only
    cases q2 : Ev.sel cl L h1 (Ev.ev R.pr O cl L h1) with
    | bad => simp only [q2] at r; exact False.elim r
    | exc d h2 => simp only [q2] at r; exact exP.ext E1 r
    | ok l h2 =>
      simp only [q2] at r
      cases z : Ev.isEnd l with
      | false => simp only [z] at r; exact False.elim r
      | true =>
        simp only [z, if_true] at r
        obtain ⟨lo', hlo⟩ := isEnd_opt z
        intro y H2 F2 ρ2 C2 E2 R2
        refine ⟨lo', repV_end hlo R2, L, h2, F2, ρ2, C2, (S.mono C E1).mono C1 E2, ?_⟩
        dsimp only
        cases q3 : Ev.sel cu L h2 (Ev.ev R.pr O cu L h2) with
        | bad => simp only [q3] at r; exact False.elim r
        | exc d h3 => simp only [q3] at r; exact exP.ext (E1.trans E2) r
        | ok u h3 =>
          simp only [q3] at r
          cases z2 : Ev.isEnd u with
          | false => simp only [z2] at r; exact False.elim r
          | true =>
            simp only [z2, if_true] at r
            obtain ⟨hi', hhi⟩ := isEnd_opt z2
            intro y2 H3 F3 ρ3 C3 E3 R3
            refine ⟨hi', repV_end hhi R3, ?_⟩
            cases q4 : Ev.slcV (Ev.view v h3) l u with
            | none => rw [q4] at r; exact False.elim r
            | some w =>
              rw [q4] at r
              exact sem_slc C3 (((R1.mono C1 E2).mono C2 E3).view C3) hlo hhi q4 (okF.ext (E1.trans (E2.trans E3)) r)
/-! ### chains -/
theorem chain_imp {o o' : Ev.Op} {r r' : R2} {cd : CE} (hs : Op2 R o r) (hs' : Op2 R o' r') {Q : VK} (t : tE R W O (.cmp ca [o, o'] (.cons cb (.cons cd .nil))) σ H Q) : tChain r r' (tV R W O ca) (tV R W O cb) (tV R W O cd) σ H Q := by
  obtain ⟨L, h, Fz, ρ, C, S, r⟩ := t
  refine ⟨L, h, Fz, ρ, C, S, ?_⟩
  simp only [Ev.ev] at r
  dsimp only
  cases q : Ev.sel ca L h (Ev.ev R.pr O ca L h) with
  | bad => simp only [q] at r; exact False.elim r
  | exc d h1 => simp only [q] at r; exact r
  | ok v h1 =>
    simp only [q, Ev.evC] at r
    intro x H1 F1 ρ1 C1 E1 R1
    refine ⟨L, h1, F1, ρ1, C1, S.mono C E1, ?_⟩
    dsimp only
    cases q2 : Ev.sel cb L h1 (Ev.ev R.pr O cb L h1) with
    | bad => simp only [q2] at r; exact False.elim r
    | exc d h2 => simp only [q2] at r; exact exP.ext E1 r
    | ok w h2 =>
      simp only [q2] at r
      intro y H2 F2 ρ2 C2 E2 R2
      cases z : Ev.opv o [Ev.view v h2, Ev.view w h2] with
      | none => rw [z] at r; exact False.elim r
      | some t =>
        rw [z] at r
        refine hs F2 ρ2 H2 h2 _ _ t x y _ C2 ((R1.mono C1 E2).view C2) (R2.view C2) z ?_
        cases t <;> first | exact False.elim r | skip
        rename_i bb
        intro x3 H3 F3 ρ3 C3 E3 R3
        cases R3
        refine ⟨bb, rfl, ?_⟩
        cases bb with
        | false => rw [if_neg Bool.false_ne_true]; exact r _ H3 F3 ρ3 C3 (E1.trans (E2.trans E3)) rfl
        | true =>
          rw [if_pos rfl]
          refine ⟨L, h2, F3, ρ3, C3, ((S.mono C E1).mono C1 E2).mono C2 E3, ?_⟩
          dsimp only
          simp only at r
          cases q3 : Ev.sel cd L h2 (Ev.ev R.pr O cd L h2) with
          | bad => simp only [q3] at r; exact False.elim r
          | exc d h4 => simp only [q3] at r; exact exP.ext (E1.trans (E2.trans E3)) r
          | ok u h4 =>
            simp only [q3] at r
            intro y4 H4 F4 ρ4 C4 E4 R4
            cases z2 : Ev.opv o' [Ev.view w h4, Ev.view u h4] with
            | none => rw [z2] at r; exact False.elim r
            | some t2 =>
              rw [z2] at r
              refine hs' F4 ρ4 H4 h4 _ _ t2 y y4 _ C4 (((R2.mono C2 E3).mono C3 E4).view C4) (R4.view C4) z2 ?_
              cases t2 <;> first | exact False.elim r | skip
              rename_i bb2
              cases bb2 <;> exact okP.ext (E1.trans (E2.trans (E3.trans E4))) r
theorem chain_end {o o' : Ev.Op} {r r' : R2} {d : Expr} {cd : CE} {op op' : CmpOp} (ho : OpR X (compareOp op) r) (ho' : OpR X (compareOp op') r') (hs : Op2 R o r) (hs' : Op2 R o' r') (ha : SV R W O X a ca) (hb : SV R W O X b cb) (hd : SV R W O X d cd)
    (hm : lastMarks [op, op'] [b, d] = false) : SE R W O X (.Compare a [op, op'] [b, d] pos) (.cmp ca [o, o'] (.cons cb (.cons cd .nil))) := by
  exact pe_imp (pe_chain ho ho' ha hb hd hm) fun σ H Q t => chain_imp hs hs' t
/-! ### built-ins -/
theorem se_callB {o : Ev.Op} {id : String} {x : Str} {n : Nat} {r : List V → Hp → VK → Prop} {p : Pos} (ok : XOk R X W N sc) (hc : CallR X (.builtin id) r) (hs : OpN R o n r) (hg : sc.names.lookup x = some .globalImplicit) (hm : R.mg x = none) (hv : bootBuiltins x = some (.builtin id)) (ha : SVs R W O X (e :: es) cs)
    (hn : clen cs = n) (hx : x ≠ "__name__") (hdb : (x == ("__debug__" : Str)) = false) (he : starEach (e :: es) X.env = (false, eval e X.env) :: starEach es X.env) (hpl : (backTo pos (starEach es X.env)).any (·.1) = false) :
    SE R W O X (.Call (.Name x p) (e :: es) [] pos) (.op o cs) :=
  pe_imp (pe_callB hc (by show X.env.scope.names.lookup x = _; rw [ok.sc]; exact hg) (by rw [ok.mg]; exact hm) hv ha hx hdb he hpl) fun σ H Q t => op_of hs hn t
theorem se_callTy {o : Ev.Op} {T : String} {x : Str} {n : Nat} {r : List V → Hp → VK → Prop} {p : Pos} (ok : XOk R X W N sc) (hc : CallR X (.type T) r) (hs : OpN R o n r) (hg : sc.names.lookup x = some .globalImplicit) (hm : R.mg x = none) (hv : bootBuiltins x = some (.type T)) (ha : SVs R W O X (e :: es) cs)
    (hn : clen cs = n) (hx : x ≠ "__name__") (hdb : (x == ("__debug__" : Str)) = false) (he : starEach (e :: es) X.env = (false, eval e X.env) :: starEach es X.env) (hpl : (backTo pos (starEach es X.env)).any (·.1) = false) :
    SE R W O X (.Call (.Name x p) (e :: es) [] pos) (.op o cs) :=
  pe_imp (pe_callTy hc (by show X.env.scope.names.lookup x = _; rw [ok.sc]; exact hg) (by rw [ok.mg]; exact hm) hv ha hx hdb he hpl) fun σ H Q t => op_of hs hn t
theorem insI_perm (n : Int) : ∀ r, (Ev.insI n r).Perm (n :: r)
  | [] => List.Perm.refl _
  | m :: r => by
    unfold Ev.insI
    split
    · exact List.Perm.refl _
    · exact ((insI_perm n r).cons m).trans (List.Perm.swap _ _ _)
theorem insI_srt (n : Int) : ∀ r : List Int, r.Pairwise (· ≤ ·) → (Ev.insI n r).Pairwise (· ≤ ·)
  | [], _ => List.pairwise_singleton _ _
  | m :: r, h => by
    obtain ⟨h1, h2⟩ := List.pairwise_cons.mp h
    unfold Ev.insI
    split
    · refine List.pairwise_cons.mpr ⟨fun y hy => ?_, h⟩
      rcases List.mem_cons.mp hy with rfl | hy
      · assumption
      · have := h1 y hy
        omega
    · refine List.pairwise_cons.mpr ⟨fun y hy => ?_, insI_srt n r h2⟩
      rcases List.mem_cons.mp ((insI_perm n r).mem_iff.mp hy) with rfl | hy
      · omega
      · exact h1 y hy
theorem srtNs_ok : ∀ ns : List Int, (Ev.srtNs ns).Perm ns ∧ (Ev.srtNs ns).Pairwise (· ≤ ·)
  | [] => ⟨List.Perm.refl _, List.Pairwise.nil⟩
  | n :: r => by
    obtain ⟨a, b⟩ := srtNs_ok r
    exact ⟨(insI_perm n _).trans (a.cons n), insI_srt n _ b⟩
theorem reps_mapI {Fz : Addr → Prop} {ρ : List Addr} {H : Hp} : ∀ ns : List Int, Reps R Fz ρ H (ns.map .int) (ns.map V.int)
  | [] => by unfold Reps; rfl
  | n :: ns => by
    show Reps R Fz ρ H (.int n :: ns.map .int) _
    unfold Reps
    exact ⟨.int n, ns.map V.int, rfl, by unfold Rep; rfl, reps_mapI ns⟩
theorem srtIV_of : ∀ {w v : LV}, Ev.srtIV w = some v → ∃ ys ns, w = .lst ys ∧ Ev.intsOf ys = some ns ∧ v = .lst ((Ev.srtNs ns).map .int) := by
  intro w v e
  unfold Ev.srtIV at e
  split at e
  · rename_i ys
    obtain ⟨ns, e1, e2⟩ := Option.map_eq_some_iff.mp e
    exact ⟨ys, ns, rfl, e1, e2.symm⟩
  · cases e
theorem sem_srtI : OpNF R .srtI 1 (rSortedI R.K) := by
  intro Fz ρ H h vs v xs Q C r n e k
  match vs, n with
  | [w], _ =>
    obtain ⟨x, rfl, r1⟩ := repWs1 r
    obtain ⟨ys, ns, rfl, e1, rfl⟩ := srtIV_of e
    obtain ⟨a, ws, rfl, q, t⟩ := r1
    rw [ints_of e1 t] at q
    refine ⟨a, ns, rfl, SqL.of q, fun ns' p h1 h2 hp => ?_⟩
    obtain ⟨b1, b2⟩ := srtNs_ok ns
    have e3 : ns' = Ev.srtNs ns := List.Perm.eq_of_pairwise (le := (· ≤ ·)) (fun a b _ _ l1 l2 => Int.le_antisymm l1 l2) h2 b2 (h1.trans b1.symm)
    subst e3
    exact okF.lst C k (reps_mapI _) p hp
theorem sf_callB {o : Ev.Op} {id : String} {x : Str} {n : Nat} {r : List V → Hp → VK → Prop} {p : Pos} (ok : XOk R X W N sc) (hc : CallR X (.builtin id) r) (hs : OpNF R o n r) (hg : sc.names.lookup x = some .globalImplicit) (hm : R.mg x = none) (hv : bootBuiltins x = some (.builtin id)) (ha : SVs R W O X (e :: es) cs)
    (hn : clen cs = n) (hx : x ≠ "__name__") (hdb : (x == ("__debug__" : Str)) = false) (he : starEach (e :: es) X.env = (false, eval e X.env) :: starEach es X.env) (hpl : (backTo pos (starEach es X.env)).any (·.1) = false) :
    SF R W O X (.Call (.Name x p) (e :: es) [] pos) (.op o cs) :=
  pe_imp (pe_callB hc (by show X.env.scope.names.lookup x = _; rw [ok.sc]; exact hg) (by rw [ok.mg]; exact hm) hv ha hx hdb he hpl) fun σ H Q t => op_ofF hs hn t
end
end Sd
end
section
set_option maxRecDepth 100000
set_option maxHeartbeats 2000000
/-! sorted of a list of pairs of ints -/
namespace Sd
open PySem PySem.Spec PyProof.Rows L2
open Ev (LV LO)
theorem perm_lift {α β : Type} {f : α → β} {ys l : List β} (h : ys.Perm l) : ∀ zs : List α, zs.map f = l → ∃ ws : List α, ws.Perm zs ∧ ws.map f = ys := by
  induction h with
  | nil => exact fun zs e => ⟨zs, List.Perm.refl _, e⟩
  | cons x _ ih =>
    intro zs e
    cases zs with
    | nil => cases e
    | cons z zs =>
      rw [List.map_cons] at e
      injection e with e1 e2
      obtain ⟨ws, p, q⟩ := ih zs e2
      exact ⟨z :: ws, p.cons z, by rw [List.map_cons, q, e1]⟩
  | swap x y r =>
    intro zs e
    match zs, e with
    | a :: b :: zs, e =>
      simp only [List.map_cons] at e
      injection e with e1 e2
      injection e2 with e2 e3
      exact ⟨b :: a :: zs, List.Perm.swap _ _ _, by simp only [List.map_cons, e1, e2, e3]⟩
  | trans _ _ ih1 ih2 =>
    intro zs e
    obtain ⟨w2, p2, q2⟩ := ih2 zs e
    obtain ⟨w1, p1, q1⟩ := ih1 w2 q2
    exact ⟨w1, p1.trans p2, q1⟩
theorem insP_perm (n : Int × Int) : ∀ r, (Ev.insP n r).Perm (n :: r)
  | [] => List.Perm.refl _
  | m :: r => by
    unfold Ev.insP
    split
    · exact List.Perm.refl _
    · exact ((insP_perm n r).cons m).trans (List.Perm.swap _ _ _)
theorem insP_srt (n : Int × Int) : ∀ r : List (Int × Int), r.Pairwise (fun a b => Ev.keyP a ≤ Ev.keyP b) → (Ev.insP n r).Pairwise (fun a b => Ev.keyP a ≤ Ev.keyP b)
  | [], _ => List.pairwise_singleton _ _
  | m :: r, h => by
    obtain ⟨h1, h2⟩ := List.pairwise_cons.mp h
    unfold Ev.insP
    split
    · refine List.pairwise_cons.mpr ⟨fun y hy => ?_, h⟩
      rcases List.mem_cons.mp hy with rfl | hy
      · assumption
      · have := h1 y hy
        omega
    · refine List.pairwise_cons.mpr ⟨fun y hy => ?_, insP_srt n r h2⟩
      rcases List.mem_cons.mp ((insP_perm n r).mem_iff.mp hy) with rfl | hy
      · omega
      · exact h1 y hy
theorem srtPs_ok : ∀ ns : List (Int × Int), (Ev.srtPs ns).Perm ns ∧ (Ev.srtPs ns).Pairwise (fun a b => Ev.keyP a ≤ Ev.keyP b)
  | [] => ⟨List.Perm.refl _, List.Pairwise.nil⟩
  | n :: r => by
    obtain ⟨a, b⟩ := srtPs_ok r
    exact ⟨(insP_perm n _).trans (a.cons n), insP_srt n _ b⟩
theorem keyP_inj {p q : Int × Int} (hp : Ev.inP p = true) (hq : Ev.inP q = true) (e : Ev.keyP p = Ev.keyP q) : p = q := by
  obtain ⟨a, b⟩ := p
  obtain ⟨c, d⟩ := q
  simp only [Ev.inP, Bool.and_eq_true] at hp hq
  obtain ⟨⟨⟨p1, p2⟩, p3⟩, p4⟩ := hp
  obtain ⟨⟨⟨q1, q2⟩, q3⟩, q4⟩ := hq
  have p3 : 0 ≤ b := of_decide_eq_true p3
  have q3 : 0 ≤ d := of_decide_eq_true q3
  have p4 : b < 1073741824 := of_decide_eq_true p4
  have q4 : d < 1073741824 := of_decide_eq_true q4
  simp only [Ev.keyP, Ev.PB] at e
  have h1 : a = c := by
    clear p1 p2 q1 q2
    omega
  have h2 : b = d := by omega
  rw [h1, h2]
theorem code_P (p : Int × Int) : TS.code Ev.PB [p.1, p.2] = Ev.keyP p := by
  show p.1 * Ev.PB ^ 1 + (p.2 * Ev.PB ^ 0 + 0) = p.1 * Ev.PB + p.2
  rw [show Ev.PB ^ 1 = Ev.PB from by decide, show Ev.PB ^ 0 = 1 from by decide, Int.mul_one, Int.add_zero]
variable {R : Cn} {Fz : Addr → Prop} {ρ : List Addr} {H : Hp} {h : Ev.Hp}
/-- the pairs beside the values -/
theorem pairsV_of : ∀ {xs : List LV} {ps : List (Int × Int)} {vs : List V}, Ev.pairsOf xs = some ps → Reps R Fz ρ H xs vs → ∃ zs : List (V × (Int × Int)), zs.map (·.1) = vs ∧ zs.map (·.2) = ps ∧ ∀ z ∈ zs, TupI R.K H z.1 [z.2.1, z.2.2]
  | [], ps, vs, e, r => by
    cases e
    unfold Reps at r
    subst r
    exact ⟨[], rfl, rfl, fun z hz => by cases hz⟩
  | x :: xs, ps, vs, e, r => by
    unfold Ev.pairsOf at e
    split at e
    · cases ‹x :: xs = []›
    · rename_i a b r' e0
      injection e0 with e1 e2
      subst e1; subst e2
      obtain ⟨qs, e3, rfl⟩ := Option.map_eq_some_iff.mp e
      unfold Reps at r
      obtain ⟨v, w, rfl, r1, r2⟩ := r
      obtain ⟨zs, z1, z2, z3⟩ := pairsV_of e3 r2
      unfold Rep at r1
      obtain ⟨t, us, rfl, q, ru⟩ := r1
      have hu : us = [V.int a, V.int b] := ints_of (ns := [a, b]) rfl ru
      subst hu
      refine ⟨(.ref t, (a, b)) :: zs, by rw [List.map_cons, z1], by rw [List.map_cons, z2], fun z hz => ?_⟩
      rcases List.mem_cons.mp hz with rfl | hz
      · exact ⟨t, rfl, q⟩
      · exact z3 z hz
    · cases e
theorem reps_pairs : ∀ {zs : List (V × (Int × Int))}, (∀ z ∈ zs, TupI R.K H z.1 [z.2.1, z.2.2]) → Reps R Fz ρ H ((zs.map (·.2)).map Ev.pairL) (zs.map (·.1))
  | [], _ => by
    show Reps R Fz ρ H [] []
    unfold Reps
    rfl
  | z :: zs, k => by
    obtain ⟨t, e, q⟩ := k z List.mem_cons_self
    show Reps R Fz ρ H (Ev.pairL z.2 :: (zs.map (·.2)).map Ev.pairL) (z.1 :: zs.map (·.1))
    unfold Reps
    refine ⟨z.1, zs.map (·.1), rfl, ?_, reps_pairs fun y hy => k y (List.mem_cons_of_mem _ hy)⟩
    unfold Ev.pairL Rep
    exact ⟨t, _, e, q, reps_mapI [z.2.1, z.2.2]⟩
theorem srt_pairs {zs : List (V × (Int × Int))} (k : ∀ z ∈ zs, TupI R.K H z.1 [z.2.1, z.2.2]) (b : ∀ z ∈ zs, Ev.inP z.2 = true) {ys : List V} (p : ys.Perm (zs.map (·.1)))
    (s : ys.Pairwise fun x y => ∀ n m, TupI R.K H x n → TupI R.K H y m → TS.code Ev.PB n ≤ TS.code Ev.PB m) : Reps R Fz ρ H ((Ev.srtPs (zs.map (·.2))).map Ev.pairL) ys := by
  obtain ⟨ws, p1, rfl⟩ := perm_lift p zs rfl
  have k1 : ∀ z ∈ ws, TupI R.K H z.1 [z.2.1, z.2.2] := fun z hz => k z (p1.mem_iff.mp hz)
  have s1 : (ws.map (·.2)).Pairwise fun a b => Ev.keyP a ≤ Ev.keyP b := by
    rw [List.pairwise_map] at s ⊢
    refine s.imp_of_mem fun {x y} hx hy z => ?_
    have := z _ _ (k1 x hx) (k1 y hy)
    rw [code_P, code_P] at this
    exact this
  obtain ⟨b1, b2⟩ := srtPs_ok (zs.map (·.2))
  have e : Ev.srtPs (zs.map (·.2)) = ws.map (·.2) := by
    refine List.Perm.eq_of_pairwise (le := fun a b => Ev.keyP a ≤ Ev.keyP b) (fun x y hx hy l1 l2 => ?_) b2 s1 (b1.trans (p1.map _).symm)
    obtain ⟨u, hu, rfl⟩ := List.mem_map.mp (b1.mem_iff.mp hx)
    obtain ⟨w, hw, rfl⟩ := List.mem_map.mp hy
    exact keyP_inj (b u hu) (b w (p1.mem_iff.mp hw)) (Int.le_antisymm l1 l2)
  rw [e]
  exact reps_pairs k1
theorem srtPV_of : ∀ {w v : LV}, Ev.srtPV w = some v → ∃ ys ps, w = .lst ys ∧ Ev.pairsOf ys = some ps ∧ ps.length < 64 ∧ ps.all Ev.inP = true ∧ v = .lst ((Ev.srtPs ps).map Ev.pairL) := by
  intro w v e
  unfold Ev.srtPV at e
  split at e
  · rename_i ys
    split at e
    · rename_i ps e1
      split at e
      · rename_i c
        cases e
        rw [Bool.and_eq_true, decide_eq_true_eq] at c
        exact ⟨ys, ps, rfl, e1, c.1, c.2, rfl⟩
      · cases e
    · cases e
  · cases e
theorem sem_srtP : OpNF R .srtP 1 (rSortU R.K 2 Ev.PB) := by
  intro Fz ρ H h vs v xs Q C r n e k
  match vs, n with
  | [w], _ =>
    obtain ⟨x, rfl, r1⟩ := repWs1 r
    replace e : Ev.srtPV w = some v := e
    obtain ⟨ys, ps, rfl, e1, e2, e3, rfl⟩ := srtPV_of e
    obtain ⟨a, ws, rfl, q, t⟩ := r1
    obtain ⟨zs, z1, z2, z3⟩ := pairsV_of e1 t
    subst z1; subst z2
    have hb : ∀ z ∈ zs, Ev.inP z.2 = true := fun z hz => List.all_eq_true.mp e3 _ (List.mem_map.mpr ⟨z, hz, rfl⟩)
    refine ⟨a, zs.map (·.1), rfl, SqL.of q, by rw [List.length_map] at e2 ⊢; exact e2, fun x hx => ?_, fun ys' p h1 h2 hp => okF.lst C k (srt_pairs z3 hb h1 h2) p hp⟩
    obtain ⟨z, hz, rfl⟩ := List.mem_map.mp hx
    refine ⟨_, z3 z hz, rfl, ?_⟩
    have c := hb z hz
    simp only [Ev.inP, Bool.and_eq_true] at c
    obtain ⟨⟨⟨p1, p2⟩, p3⟩, p4⟩ := c
    intro m hm
    rcases List.mem_cons.mp hm with rfl | hm
    · exact ⟨of_decide_eq_true p1, of_decide_eq_true p2⟩
    · rcases List.mem_cons.mp hm with rfl | hm
      · exact ⟨of_decide_eq_true p3, of_decide_eq_true p4⟩
      · cases hm
end Sd
end
section
set_option maxRecDepth 100000
set_option maxHeartbeats 2000000
/-! dict displays; methods of built-ins -/
namespace Sd
open PySem PySem.Spec PyProof.Rows L2
open Ev (LV LO CE CEs Src Tg Tgs CKs TG TGs CS CSs Prg Orc Slot)
section
variable {R : Cn} {X : Cx} {W : WX} {O : Orc} {σ : L2.St} {Fz Fz' : Addr → Prop} {ρ ρ' : List Addr} {H H' : Hp} {h h' : Ev.Hp} {L : Ev.Env} {N : List Str} {sc : Scope}
variable {a b e : Expr} {ca cb c : CE} {pos : Pos} {es : List Expr} {cs : CEs}
/-! ### what a value leans on -/
structure Keeps (Fz : Addr → Prop) (H H' : Hp) : Prop where
  fz : ∀ a o, Fz a → H a = some o → (∀ ps, o ≠ .tbl ps) → H' a = some o
  tup : ∀ a xs, H a = some (.tup xs) → H' a = some (.tup xs)
  frz : ∀ a o u, H a = some (.frz o u) → H' a = some (.frz o u)
theorem Keeps.sqT {K : PySem.W.Frag} (k : Keeps Fz H H') {a : Addr} {vs : List V} (x : SqT K H a vs) : SqT K H' a vs := by
  rcases x with (e | ⟨o, e⟩) | x
  · exact .inl (.inl (k.tup a _ e))
  · exact .inl (.inr ⟨o, k.frz a _ _ e⟩)
  · exact .inr x
section
variable (k : Keeps Fz H H')
include k
mutual
theorem Rep.gen : ∀ (v : LV) {x : V}, Rep R Fz ρ H v x → Rep R Fz ρ H' v x
  | .non, _, e => e
  | .bl _, _, e => e
  | .int _, _, e => e
  | .str _, _, e => e
  | .tup xs, _, ⟨a, vs, e, q, r⟩ => ⟨a, vs, e, k.sqT q, Reps.gen xs r⟩
  | .lst xs, _, ⟨a, vs, e, f, q, r⟩ => ⟨a, vs, e, f, k.fz a _ f q (by intro ps z; cases z), Reps.gen xs r⟩
  | .dct kvs, _, ⟨a, es, e, f, z, r⟩ => ⟨a, es, e, f, k.fz a _ f z (by intro ps z; cases z), RepK.gen kvs r⟩
  | .ref n, _, e => e
  | .clo _, _, e => e
  | .rol xs, _, ⟨a, vs, e, q, r⟩ => ⟨a, vs, e, q.elim (fun ⟨o, z⟩ => .inl ⟨o, k.frz a _ _ z⟩) (fun z => .inr (z.imp_right fun ⟨f, y⟩ => ⟨f, k.fz a _ f y (by intro ps z; cases z)⟩)), Reps.gen xs r⟩
theorem Reps.gen : ∀ (xs : List LV) {vs : List V}, Reps R Fz ρ H xs vs → Reps R Fz ρ H' xs vs
  | [], _, e => e
  | x :: xs, _, ⟨v, r, e, q, t⟩ => ⟨v, r, e, Rep.gen x q, Reps.gen xs t⟩
theorem RepK.gen : ∀ (kvs : List (LV × LV)) {es}, RepK R Fz ρ H kvs es → RepK R Fz ρ H' kvs es
  | [], _, e => e
  | (k, v) :: r, _, ⟨q, y, t, e, a, b, c, d⟩ => ⟨q, y, t, e, a, b, Rep.gen v c, RepK.gen r d⟩
end
end
theorem FRep.gen (k : Keeps Fz H H') : ∀ {fs : List (Nat × LV)} {es}, FRep R Fz ρ H fs es → FRep R Fz ρ H' fs es
  | [], _, e => e
  | (a, v) :: r, _, ⟨y, t, e, l, c, d⟩ => ⟨y, t, e, l, Rep.gen k v c, FRep.gen k d⟩
theorem ORep.gen (k : Keeps Fz H H') {o : LO} {a : Addr} (e : H' a = H a) (x : ORep R Fz ρ H o a) : ORep R Fz ρ H' o a := by
  cases o with
  | lst xs => obtain ⟨vs, q, r⟩ := x; exact ⟨vs, e.trans q, Reps.gen k xs r⟩
  | dct kvs => obtain ⟨es, q, r⟩ := x; exact ⟨es, e.trans q, RepK.gen k kvs r⟩
  | ins c fs => obtain ⟨dx, es, q, l, r⟩ := x; exact ⟨dx, es, e.trans q, l, r.gen k⟩
theorem Cont.gen (k : Keeps Fz H H') {v : LV} {a : Addr} (e : H' a = H a) (x : Cont R Fz ρ H v a) : Cont R Fz ρ H' v a := by
  cases v with
  | lst xs => obtain ⟨vs, q, r⟩ := x; exact ⟨vs, e.trans q, Reps.gen k xs r⟩
  | dct kvs => obtain ⟨es, q, r⟩ := x; exact ⟨es, e.trans q, RepK.gen k kvs r⟩
  | _ => exact x.elim
/-- what is a list, a dict, an object -/
def plainO : HO → Bool
  | .lst _ => true
  | .dK _ => true
  | .ins _ _ _ => true
  | _ => false
theorem keeps_upd {p : Addr} {o o' : HO} (e : H p = some o) (pl : plainO o = true) (nf : ¬ Fz p) : Keeps Fz H (upd H p o') := by
  refine ⟨fun a u f q _ => ?_, fun a xs q => ?_, fun a u w q => ?_⟩
  · rw [upd_ne (show a ≠ p from fun z => nf (z ▸ f))]; exact q
  · rw [upd_ne (fun z => ?_)]
    · exact q
    · rw [z, e] at q; cases q; cases pl
  · rw [upd_ne (fun z => ?_)]
    · exact q
    · rw [z, e] at q; cases q; cases pl
theorem Tbs.upd (T : Tbs R H) {p : Addr} {o o' : HO} (e : H p = some o) (pl : plainO o = true) : Tbs R (upd H p o') := by
  have ne : ∀ a u, H a = some u → plainO u = false → L2.upd H p o' a = some u := fun a u q z => by
    rw [upd_ne (fun y => ?_)]
    · exact q
    · rw [y, e] at q; cases q; rw [pl] at z; cases z
  refine ⟨fun q hq => ?_, fun q hq => ?_⟩
  · obtain ⟨ps, h1, h2, h3⟩ := T.lam q hq
    refine ⟨ps, ne _ _ h1 rfl, h2, fun pos cv hc => ?_⟩
    obtain ⟨c, e1, e2⟩ := h3 pos cv hc
    exact ⟨c, e1, ne _ _ e2 rfl⟩
  · obtain ⟨ps, h1, h2⟩ := T.gen q hq
    exact ⟨ps, ne _ _ h1 rfl, h2⟩
/-- a list or dict that is no object of the machine's heap, changed -/
theorem Core.own (C : Core R Fz ρ H h) {p : Addr} {o o' : HO} (e : H p = some o) (pl : plainO o = true) (nf : ¬ Fz p) (nr : p ∉ ρ) : Core R Fz ρ (upd H p o') h := by
  have k := keeps_upd (o' := o') e pl nf
  refine ⟨C.len, C.nd, fun n u a h1 h2 => (C.obj n u a h1 h2).gen k (upd_ne fun z => nr (z ▸ List.mem_of_getElem? h2)), C.fz, fun a f => ?_, C.tab.upd e pl⟩
  rw [upd_ne (show a ≠ p from fun z => nf (z ▸ f))]
  exact C.fzt a f
theorem Ext.own (E : Ext Fz ρ H Fz' ρ' H') {p : Addr} {o' : HO} (n : H p = Option.none) : Ext Fz ρ H Fz' ρ' (upd H' p o') := by
  refine ⟨fun a o q m t => ?_, fun a q => ?_, E.fzs, E.fzn, E.rho, E.rhn⟩
  · rw [upd_ne (fun z => by rw [z, n] at q; cases q)]
    exact E.keep a o q m t
  · rw [upd_ne (show a ≠ p from fun z => q (z ▸ n))]
    exact E.some a q

/-! ### dicts -/
theorem repK_any {k : LV} {q : Key} (hk : keyF k = some q) : ∀ {kvs : List (LV × LV)} {es : List (Key × V)}, RepK R Fz ρ H kvs es → (kvs.any fun p => k.eqv p.1) = es.any fun kv => decide (kv.1 = q)
  | [], _, e => by rw [show _ = [] from e]; rfl
  | (k2, v) :: r, _, ⟨q2, y, t, e, a, b, c, d⟩ => by
    rw [e, List.any_cons, List.any_cons, repK_any hk d]
    rw [show k.eqv (k2, v).1 = decide (q = q2) from keyF_eqv hk a]
    congr 1
    rw [Bool.eq_iff_iff, decide_eq_true_eq, decide_eq_true_eq]
    exact eq_comm
theorem repK_map {k v : LV} {x : V} {q : Key} (hk : keyF k = some q) (rv : Rep R Fz ρ H v x) : ∀ {kvs : List (LV × LV)} {es : List (Key × V)}, RepK R Fz ρ H kvs es →
    RepK R Fz ρ H (kvs.map fun p => if k.eqv p.1 = true then (p.1, v) else p) (es.map fun kv => if kv.1 = q then (kv.1, x) else kv)
  | [], _, e => by rw [show _ = [] from e]; rfl
  | (k2, w) :: r, _, ⟨q2, y, t, e, a, b, c, d⟩ => by
    rw [e, List.map_cons, List.map_cons]
    dsimp only
    rw [keyF_eqv hk a]
    by_cases z : q = q2
    · rw [decide_eq_true z, if_pos rfl, if_pos z.symm]
      exact ⟨q2, x, _, rfl, a, b, rv, repK_map hk rv d⟩
    · rw [decide_eq_false z, if_neg Bool.false_ne_true, if_neg (fun y => z y.symm)]
      exact ⟨q2, y, _, rfl, a, b, c, repK_map hk rv d⟩
theorem repK_snoc {k v : LV} {x : V} {q : Key} (hk : keyF k = some q) (ho : ∀ s, k = .str s → okS s) (rv : Rep R Fz ρ H v x) : ∀ {kvs : List (LV × LV)} {es : List (Key × V)}, RepK R Fz ρ H kvs es → RepK R Fz ρ H (kvs ++ [(k, v)]) (es ++ [(q, x)])
  | [], _, e => by rw [show _ = [] from e]; exact ⟨q, x, [], rfl, hk, ho, rv, rfl⟩
  | (k2, w) :: r, _, ⟨q2, y, t, e, a, b, c, d⟩ => by
    rw [e]
    exact ⟨q2, y, _, rfl, a, b, c, repK_snoc hk ho rv d⟩
theorem repK_put {k v : LV} {x : V} {q : Key} (hk : keyF k = some q) (ho : ∀ s, k = .str s → okS s) (rv : Rep R Fz ρ H v x) {kvs : List (LV × LV)} {es : List (Key × V)} (r : RepK R Fz ρ H kvs es) : RepK R Fz ρ H (Ev.dput k v kvs) (putK es q x) := by
  unfold Ev.dput putK
  rw [repK_any hk r]
  split
  · exact repK_map hk rv r
  · exact repK_snoc hk ho rv r
theorem rep_okS {k : LV} {x : V} (r : Rep R Fz ρ H k x) : ∀ s, k = .str s → okS s := fun s e => by subst e; exact r.2
/-- the pairs of a display -/
def ptrs (R : Cn) (W : WX) (O : Orc) : CKs → List (TE × TE)
  | .nil => []
  | .cons k v r => (tE R W O k, tE R W O v) :: ptrs R W O r
def klen : CKs → Nat
  | .nil => 0
  | .cons _ _ r => klen r + 1
def SPP (R : Cn) (W : WX) (O : Orc) (X : Cx) (pos : Pos) (ks : List (Option Expr)) (vs : List Expr) (c : CKs) : Prop := PPs X pos ks vs (ptrs R W O c)
theorem spp_nil : SPP R W O X pos [] [] .nil := pps_nil
theorem spp_cons {k v : Expr} {ks : List (Option Expr)} {vs : List Expr} {ck cv : CE} {r : CKs} (hk : SE R W O X k ck) (hv : SE R W O X v cv) (hr : SPP R W O X pos ks vs r) : SPP R W O X pos (some k :: ks) (v :: vs) (.cons ck cv r) := pps_cons hk hv hr
theorem pairs_of : ∀ (ks : CKs) {Fz : Addr → Prop} {ρ : List Addr} {H H0 : Hp} {h : Ev.Hp} {acc : List (LV × LV)} {es0 : List (Key × V)} {p : Addr} {Q : VK} {σ : L2.St} {F0 : Addr → Prop} {ρ0 : List Addr}, Core R Fz ρ H h → Slots R Fz ρ H L σ → Ext F0 ρ0 H0 Fz ρ H → RepK R Fz ρ H acc es0 →
    H0 p = none → H p = some (.dK []) → ¬ Fz p → p ∉ ρ →
    RF R W σ F0 ρ0 H0 (Ev.evD R.pr O ks acc L h) Q → tPairs (ptrs R W O ks) σ H (fun ps H2 => H2 p = some (.dK []) ∧ ∃ kvs : List (Key × V), ps = kvs.map (fun kv => (kV kv.1, kv.2)) ∧ kvs.length ≤ klen ks ∧ Q (.ref p) (upd H2 p (.dK (mergeK es0 kvs))))
  | .nil, Fz, ρ, H, H0, h, acc, es0, p, Q, σ, F0, ρ0, C, S, E, ra, hp0, hp, nf, nr, r => by
    simp only [Ev.evD] at r
    refine ⟨hp, [], rfl, Nat.le_refl _, ?_⟩
    exact r (.ref p) _ Fz ρ (C.own hp rfl nf nr) (E.own hp0) ⟨p, rfl, ⟨es0, upd_same, RepK.gen (keeps_upd hp rfl nf) acc ra⟩, nf, nr, hp0⟩
  | .cons k v ks, Fz, ρ, H, H0, h, acc, es0, p, Q, σ, F0, ρ0, C, S, E, ra, hp0, hp, nf, nr, r => by
    refine ⟨L, h, Fz, ρ, C, S, ?_⟩
    simp only [Ev.evD] at r
    dsimp only
    have live : ∀ {F' : Addr → Prop} {ρ' : List Addr} {H' : Hp}, Ext Fz ρ H F' ρ' H' → H' p = some (.dK []) ∧ ¬ F' p ∧ p ∉ ρ' := fun {F' ρ' H'} E' =>
      ⟨E'.keep p _ hp nr (by intro ps z; cases z), (fun z => (E'.fzn p z).elim nf fun y => nomatch (y.symm.trans hp)), (fun z => (E'.rhn p z).elim nr fun y => nomatch (y.symm.trans hp))⟩
    cases q : Ev.ev R.pr O k L h with
    | bad => simp only [q] at r; exact False.elim r
    | exc d h1 => simp only [q] at r; exact exP.ext E r
    | ok kv h1 =>
      simp only [q] at r
      intro x H1 F1 ρ1 C1 E1 R1
      refine ⟨L, h1, F1, ρ1, C1, S.mono C E1, ?_⟩
      dsimp only
      cases q2 : Ev.ev R.pr O v L h1 with
      | bad => simp only [q2] at r; exact False.elim r
      | exc d h2 => simp only [q2] at r; exact exP.ext (E.trans E1) r
      | ok vv h2 =>
        simp only [q2] at r
        intro y H2 F2 ρ2 C2 E2 R2
        cases z : Ev.okKey kv acc with
        | false => simp only [z] at r; exact False.elim r
        | true =>
          simp only [z, if_true] at r
          obtain ⟨qk, hq⟩ := flat_keyF z
          have R1' := Rep.mono C1 E2 kv R1
          obtain ⟨l1, l2, l3⟩ := live (E1.trans E2)
          have ra' := RepK.mono C1 E2 acc (RepK.mono C E1 acc ra)
          have ih := pairs_of ks (p := p) C2 ((S.mono C E1).mono C1 E2) (E.trans (E1.trans E2)) (repK_put hq (rep_okS R1') R2 ra') hp0 l1 l2 l3 r
          refine tPairs_mono (fun ps H3 ⟨h1, kvs, e1, e2, e3⟩ => ⟨h1, (qk, y) :: kvs, ?_, ?_, e3⟩) ih
          · rw [e1, List.map_cons, keyF_kV R1' hq]
          · rw [List.length_cons]; exact Nat.succ_le_succ e2
where
  tPairs_mono : ∀ {ks : CKs} {σ : L2.St} {H : Hp} {Q Q' : List (V × V) → Hp → Prop}, (∀ ps H, Q ps H → Q' ps H) → tPairs (ptrs R W O ks) σ H Q → tPairs (ptrs R W O ks) σ H Q'
    | .nil, _, _, _, _, i, t => i _ _ t
    | .cons k v ks, _, _, _, _, i, t => tE_mono (fun x H1 t1 => tE_mono (fun y H2 t2 => tPairs_mono (fun ps H3 => i _ H3) t2) t1) t
  tE_mono : ∀ {c : CE} {σ : L2.St} {H : Hp} {Q Q' : VK}, (∀ x H, Q x H → Q' x H) → tE R W O c σ H Q → tE R W O c σ H Q' := fun {c σ H Q Q'} i ⟨L, h, Fz, ρ, C, S, r⟩ => by
    refine ⟨L, h, Fz, ρ, C, S, ?_⟩
    dsimp only
    cases q : Ev.ev R.pr O c L h with
    | bad => simp only [q] at r; exact False.elim r
    | exc d h1 => simp only [q] at r; exact r
    | ok v h1 => simp only [q] at r; exact fun x H1 F1 ρ1 C1 E1 R1 => i _ _ (r x H1 F1 ρ1 C1 E1 R1)
theorem sf_dsp {ks : List (Option Expr)} {vs : List Expr} {c : CKs} (hp : SPP R W O X pos ks vs c) (hall : ks.all (·.isSome) = true) (hl : ks.length = vs.length) (h0 : ks ≠ []) (h15 : ks.length ≤ 15) (hk : klen c ≤ 15) : SF R W O X (.Dict ks vs pos) (.dsp c) := by
  refine pe_imp (pe_disp hp hall hl h0 h15) fun σ H Q ⟨L, h, Fz, ρ, C, S, r⟩ p hpn => ?_
  simp only [Ev.ev] at r
  obtain ⟨C1, E1⟩ := C.grow hpn (.dK []) (Fz' := Fz) (fun _ z => z) fun _ z => .inl z
  have t := pairs_of c (p := p) (acc := []) (es0 := []) C1 (S.mono C E1) E1 rfl hpn upd_same (fun z => C.fzt p z hpn) (fun m => C.live m hpn) r
  exact pairs_of.tPairs_mono (fun ps H3 ⟨h1, kvs, e1, e2, e3⟩ => ⟨h1, kvs, e1, Nat.le_trans e2 hk, e3⟩) t
theorem sf_dnew : SF R W O X (.Dict [] [] pos) (.dsp .nil) := by
  refine pe_imp pe_dnewK fun σ H Q ⟨L, h, Fz, ρ, C, S, r⟩ => ?_
  simp only [Ev.ev, Ev.evD] at r
  exact okF.dct C r rfl

/-! ### l.index(x) -/
theorem indexL_spec {x : LV} : ∀ {ys : List LV} {i n : Nat}, Ev.indexL x ys i = some n → ∃ j y, n = i + j ∧ ys[j]? = some y ∧ y.eqv x = true ∧ ∀ m y', m < j → ys[m]? = some y' → y'.eqv x = false
  | [], _, _, e => by cases e
  | y :: ys, i, n, e => by
    unfold Ev.indexL at e
    cases z : y.eqv x with
    | true =>
      rw [z] at e
      cases e
      exact ⟨0, y, rfl, rfl, z, fun m y' hm => absurd hm (Nat.not_lt_zero m)⟩
    | false =>
      rw [z, if_neg Bool.false_ne_true] at e
      obtain ⟨j, w, e1, e2, e3, e4⟩ := indexL_spec e
      refine ⟨j + 1, w, by omega, e2, e3, fun m y' hm q => ?_⟩
      cases m with
      | zero => cases q; exact z
      | succ m => exact e4 m y' (Nat.lt_of_succ_lt_succ hm) q
theorem toDs_get : ∀ {ys : List LV} {j : Nat} {y : LV}, ys[j]? = some y → (toDs ys)[j]? = some (toD y)
  | [], j, y, e => by simp at e
  | x :: ys, 0, y, e => by cases e; rfl
  | x :: ys, j + 1, y, e => toDs_get (ys := ys) (j := j) e
theorem toDs_of : ∀ {ys : List LV} {j : Nat} {d : PyData}, (toDs ys)[j]? = some d → ∃ y, ys[j]? = some y ∧ d = toD y
  | [], j, y, e => by simp [toDs] at e
  | x :: ys, 0, y, e => by cases e; exact ⟨x, rfl, rfl⟩
  | x :: ys, j + 1, y, e => toDs_of (ys := ys) (j := j) e
theorem all_get {p : LV → Bool} {ys : List LV} {j : Nat} {y : LV} (h : ys.all p = true) (e : ys[j]? = some y) : p y = true := List.all_eq_true.mp h y (List.mem_of_getElem? e)
theorem sem_index {ys : List LV} {x v : LV} {a y : V} {Q : VK} (C : Core R Fz ρ H h) (r1 : RepW R Fz ρ H (.lst ys) a) (r2 : RepW R Fz ρ H x y) (e : Ev.opv .index [.lst ys, x] = some v) (k : okP R Fz ρ H h v Q) : rIndexD R.K a [y] H Q := by
  replace e : (if (x.pd 60 && ys.all (LV.pd 60)) = true then (Ev.indexL x ys 0).map fun (n : Nat) => LV.int (n : Int) else none) = some v := e
  split at e
  · rename_i p
    rw [Bool.and_eq_true] at p
    obtain ⟨n, e1, rfl⟩ := Option.map_eq_some_iff.mp e
    obtain ⟨j, w, e2, e3, e4, e5⟩ := indexL_spec e1
    obtain ⟨d1, l1, z1⟩ := RepW.dp (n := 61) (v := .lst ys) p.2 r1
    obtain ⟨d2, l2, z2⟩ := r2.dp p.1
    obtain ⟨ad, vs, rfl, q, t⟩ := r1
    have z3 : (PyData.list (toDs ys)).depth ≤ 61 := z1
    have sh : SeqAt.shaped (.list (toDs ys)) = true := by
      unfold SeqAt.shaped
      have l3 : (PyData.list (toDs ys)).canLay0 = true := l1
      rw [l3, decide_eq_true (show (PyData.list (toDs ys)).depth ≤ 64 by omega)]
      rfl
    refine ⟨ad, y, toD x, toDs ys, j, toD w, rfl, rfl, d1, d2, sh, shaped_of l2 z2, toDs_get e3, ?_, fun m z' hm hz => ?_, ?_⟩
    · rw [eqv_toD _ _ _ _ (all_get p.2 e3) p.1]; exact e4
    · obtain ⟨w', h1, rfl⟩ := toDs_of hz
      rw [eqv_toD _ _ _ _ (all_get p.2 h1) p.1]; exact e5 m w' hm h1
    · have : n = j := by omega
      subst this
      exact k.int C
  · cases e
theorem se_index {p apos : Pos} {x : Expr} {cx : CE} (ok : XOk R X W N sc) (ha : SV R W O X a ca) (hx : SVs R W O X [x] (.cons cx .nil)) (hb : attributeBase a "index" X.env (eval a X.env) = eval a X.env)
    (hfew : ((backTo pos (starEach [x] X.env)).all (fun x => !x.1) && (backToKw pos (keywordEach [] X.env)).all (fun x => x.1.isSome) && decide (([x] : List Expr).length + ([] : List Keyword).length + (if ([] : List Keyword).isEmpty then 0 else 1) < 30)) = true)
    (hline : (apos.endLine == pos.line) = true) (hs : starEach [x] X.env = (false, eval x X.env) :: starEach [] X.env) (hpl : (backTo pos (starEach [] X.env)).any (·.1) = false) :
    SE R W O X (.Call (.Attribute a "index" apos) [x] [] pos) (.bm .index ca (.cons cx .nil)) := by
  refine pe_imp (pe_bm PySem.F.plainAttrs_list PySem.F.slot_list_index PySem.F.type_list_index (mt_indexD ok.un) ha hx hb hfew hline hs hpl) fun σ H Q ⟨L, h, Fz, ρ, C, S, r⟩ => ⟨L, h, Fz, ρ, C, S, ?_⟩
  simp only [Ev.ev] at r
  dsimp only
  cases q : Ev.sel ca L h (Ev.ev R.pr O ca L h) with
  | bad => simp only [q] at r; exact False.elim r
  | exc d h1 => simp only [q] at r; exact r
  | ok v h1 =>
    simp only [q] at r
    intro xv H1 F1 ρ1 C1 E1 R1
    have W1 := R1.view C1
    cases z : Ev.view v h1 with
    | lst ys1 =>
      rw [z] at r W1
      rw [if_pos (show Ev.bmOk .index (.lst ys1) = true from rfl)] at r
      obtain ⟨ad, vs, rfl, q1, t1⟩ := W1
      refine ⟨.inl ⟨rfl, vs, .inl (.inl q1)⟩, ?_⟩
      refine oneV_of (.cons cx .nil) C1 (S.mono C E1) ?_
      cases q2 : Ev.evA R.pr O (.cons cx .nil) L h1 with
      | bad => simp only [q2] at r; exact False.elim r
      | exc d h2 => simp only [q2] at r; exact exP.ext E1 r
      | ok ws h2 =>
        simp only [q2] at r
        intro xs H2 F2 ρ2 C2 E2 R2
        have hl := evA_len q2
        match ws, hl with
        | [w], _ =>
          obtain ⟨y, rfl, rw1⟩ := repWs1 (R2.view C2)
          have W2 := (R1.mono C1 E2).view C2
          cases z3 : Ev.view v h2 with
          | lst ys =>
            rw [z3] at W2 r
            rw [if_pos (show Ev.bmOk .index (.lst ys) = true from rfl)] at r
            cases z2 : Ev.opv .index (.lst ys :: [w].map fun v => Ev.view v h2) with
            | none => rw [z2] at r; exact False.elim r
            | some u => rw [z2] at r; rw [ok.K]; exact sem_index C2 W2 rw1 z2 (okP.ext (E1.trans E2) r)
          | _ => rw [z3] at r; exact False.elim r
    | _ => rw [z] at r; exact False.elim r
end
end Sd
end
section
set_option maxRecDepth 100000
set_option maxHeartbeats 2000000
/-! targets; what is walked; list comprehensions -/
namespace Sd
open PySem PySem.Spec PyProof.Rows L2
open Ev (LV LO CE CEs Src Tg Tgs CKs TG TGs CS CSs Prg Orc Slot)
section
variable {R : Cn} {X : Cx} {W : WX} {O : Orc} {σ : L2.St} {Fz Fz' : Addr → Prop} {ρ ρ' : List Addr} {H H' : Hp} {h h' : Ev.Hp} {L : Ev.Env} {N : List Str} {sc : Scope}
variable {a b e : Expr} {ca cb c : CE} {pos : Pos} {es : List Expr} {cs : CEs}
/-! ### places of names -/
mutual
def ixs : Tg → List Nat
  | .nm i => [i]
  | .tup ts => ixss ts
def ixss : Tgs → List Nat
  | .nil => []
  | .cons t ts => ixs t ++ ixss ts
end
/-- alike outside S -/
def Alike (S : Nat → Prop) (A B : Ev.Env) : Prop := A.length = B.length ∧ ∀ j, ¬ S j → A[j]? = B[j]?
theorem Alike.set {S : Nat → Prop} {A B : Ev.Env} (k : Alike S A B) (i : Nat) (s : Slot) : Alike (fun j => S j ∧ j ≠ i) (A.set i s) (B.set i s) := by
  refine ⟨by rw [List.length_set, List.length_set]; exact k.1, fun j hj => ?_⟩
  by_cases e : i = j
  · subst e
    rw [List.getElem?_set, List.getElem?_set, if_pos rfl, if_pos rfl, k.1]
  · rw [List.getElem?_set_ne e, List.getElem?_set_ne e]
    exact k.2 j fun z => hj ⟨z, fun q => e q.symm⟩
mutual
theorem bindT_alike : ∀ (t : Tg) {x : LV} {S : Nat → Prop} {A B A' : Ev.Env}, Alike S A B → Ev.bindT t x A = some A' → ∃ B', Ev.bindT t x B = some B' ∧ Alike (fun j => S j ∧ j ∉ ixs t) A' B'
  | .nm i, x, S, A, B, A', k, e => by
    simp only [Ev.bindT] at e
    cases e
    refine ⟨B.set i (.val x), by simp only [Ev.bindT], ?_⟩
    have := k.set i (.val x)
    exact ⟨this.1, fun j hj => this.2 j fun z => hj ⟨z.1, by simpa [ixs] using z.2⟩⟩
  | .tup ts, .tup vs, S, A, B, A', k, e => by
    simp only [Ev.bindT] at e ⊢
    exact bindTs_alike ts k e
  | .tup ts, .lst vs, S, A, B, A', k, e => by
    simp only [Ev.bindT] at e ⊢
    exact bindTs_alike ts k e
  | .tup ts, .non, _, _, _, _, _, e => by simp only [Ev.bindT] at e; cases e
  | .tup ts, .bl _, _, _, _, _, _, e => by simp only [Ev.bindT] at e; cases e
  | .tup ts, .int _, _, _, _, _, _, e => by simp only [Ev.bindT] at e; cases e
  | .tup ts, .str _, _, _, _, _, _, e => by simp only [Ev.bindT] at e; cases e
  | .tup ts, .dct _, _, _, _, _, _, e => by simp only [Ev.bindT] at e; cases e
  | .tup ts, .ref _, _, _, _, _, _, e => by simp only [Ev.bindT] at e; cases e
  | .tup ts, .clo _, _, _, _, _, _, e => by simp only [Ev.bindT] at e; cases e
  | .tup ts, .rol _, _, _, _, _, _, e => by simp only [Ev.bindT] at e; cases e
theorem bindTs_alike : ∀ (ts : Tgs) {xs : List LV} {S : Nat → Prop} {A B A' : Ev.Env}, Alike S A B → Ev.bindTs ts xs A = some A' → ∃ B', Ev.bindTs ts xs B = some B' ∧ Alike (fun j => S j ∧ j ∉ ixss ts) A' B'
  | .nil, [], S, A, B, A', k, e => by
    simp only [Ev.bindTs] at e
    cases e
    exact ⟨B, by simp only [Ev.bindTs], k.1, fun j hj => k.2 j fun z => hj ⟨z, by simp [ixss]⟩⟩
  | .nil, _ :: _, _, _, _, _, _, e => by simp only [Ev.bindTs] at e; cases e
  | .cons t ts, [], _, _, _, _, _, e => by simp only [Ev.bindTs] at e; cases e
  | .cons t ts, x :: xs, S, A, B, A', k, e => by
    simp only [Ev.bindTs] at e ⊢
    cases q : Ev.bindT t x A with
    | none => rw [q] at e; cases e
    | some A1 =>
      rw [q] at e
      obtain ⟨B1, e1, k1⟩ := bindT_alike t k q
      rw [e1]
      obtain ⟨B', e2, k2⟩ := bindTs_alike ts k1 e
      refine ⟨B', e2, k2.1, fun j hj => k2.2 j fun z => hj ⟨z.1.1, ?_⟩⟩
      rw [ixss, List.mem_append]
      exact fun y => y.elim z.1.2 z.2
end
def wipeL (L : Ev.Env) : List Nat → Ev.Env
  | [] => L
  | v :: vs => (wipeL L vs).set v .un
theorem wipeL_length (L : Ev.Env) : ∀ vs, (wipeL L vs).length = L.length
  | [] => rfl
  | v :: vs => by unfold wipeL; rw [List.length_set, wipeL_length L vs]
theorem wipeL_get {L : Ev.Env} : ∀ {vs : List Nat} {i : Nat} {s : Slot}, (wipeL L vs)[i]? = some s → s ≠ .un → L[i]? = some s ∧ i ∉ vs
  | [], i, s, e, n => ⟨e, by simp⟩
  | v :: vs, i, s, e, n => by
    unfold wipeL at e
    by_cases z : v = i
    · subst z
      rw [List.getElem?_set, if_pos rfl] at e
      split at e
      · cases e; exact absurd rfl n
      · cases e
    · rw [List.getElem?_set_ne z] at e
      obtain ⟨h1, h2⟩ := wipeL_get e n
      exact ⟨h1, by rw [List.mem_cons, not_or]; exact ⟨fun q => z q.symm, h2⟩⟩
theorem wipeL_alike (L : Ev.Env) : ∀ vs, Alike (fun j => j ∈ vs) (wipeL L vs) L
  | [] => ⟨rfl, fun _ _ => rfl⟩
  | v :: vs => by
    have ih := wipeL_alike L vs
    refine ⟨by rw [wipeL_length], fun j hj => ?_⟩
    unfold wipeL
    have hj : j ∉ v :: vs := hj
    rw [List.mem_cons, not_or] at hj
    rw [List.getElem?_set_ne (fun q => hj.1 q.symm)]
    exact ih.2 j hj.2
theorem wipe_get {σ : L2.St} : ∀ {vs : List Nat} {i : Nat}, i ∉ vs → (wipe σ vs)[i]? = σ[i]? := wipe_out
theorem Slots.wipe (S : Slots R Fz ρ H L σ) (vs : List Nat) : Slots R Fz ρ H (wipeL L vs) (wipe σ vs) where
  len := by rw [wipeL_length, wipe_length]; exact S.len
  val := fun i v e => by
    obtain ⟨e1, n⟩ := wipeL_get e (by intro z; cases z)
    obtain ⟨x, e2, r⟩ := S.val i v e1
    exact ⟨x, by rw [wipe_get n]; exact e2, r⟩
  own := fun i v e => by
    obtain ⟨e1, n⟩ := wipeL_get e (by intro z; cases z)
    obtain ⟨a, e2, r⟩ := S.own i v e1
    exact ⟨a, by rw [wipe_get n]; exact e2, r⟩
  sep := fun i j v w a ne e1 e2 e3 => by
    obtain ⟨f1, n1⟩ := wipeL_get e1 (by intro z; cases z)
    obtain ⟨f2, n2⟩ := wipeL_get e2 (by intro z; cases z)
    rw [wipe_get n1] at e3
    rw [wipe_get n2]
    exact S.sep i j v w a ne f1 f2 e3
  lam := fun i ks e => by
    obtain ⟨e1, n⟩ := wipeL_get e (by intro z; cases z)
    obtain ⟨h1, a, fs, h2, h3⟩ := S.lam i ks e1
    exact ⟨h1, a, fs, by rw [wipe_get n]; exact h2, h3⟩
theorem Slots.set (S : Slots R Fz ρ H L σ) (i : Nat) {v : LV} {x : V} (r : Rep R Fz ρ H v x) : Slots R Fz ρ H (L.set i (.val v)) (σ.set i (some x)) where
  len := by rw [List.length_set, List.length_set]; exact S.len
  val := fun j w e => by
    by_cases z : i = j
    · subst z
      rw [List.getElem?_set, if_pos rfl] at e
      split at e
      · rename_i hl
        cases e
        exact ⟨x, by rw [List.getElem?_set, if_pos rfl, if_pos (by rw [← S.len]; exact hl)], r⟩
      · cases e
    · rw [List.getElem?_set_ne z] at e
      obtain ⟨y, e1, r1⟩ := S.val j w e
      exact ⟨y, by rw [List.getElem?_set_ne z]; exact e1, r1⟩
  own := fun j w e => by
    by_cases z : i = j
    · subst z
      rw [List.getElem?_set, if_pos rfl] at e
      split at e <;> cases e
    · rw [List.getElem?_set_ne z] at e
      obtain ⟨y, e1, r1⟩ := S.own j w e
      exact ⟨y, by rw [List.getElem?_set_ne z]; exact e1, r1⟩
  sep := fun j k v w a ne e1 e2 e3 => by
    have hj : i ≠ j := fun z => by subst z; rw [List.getElem?_set, if_pos rfl] at e1; split at e1 <;> cases e1
    have hk : i ≠ k := fun z => by subst z; rw [List.getElem?_set, if_pos rfl] at e2; split at e2 <;> cases e2
    rw [List.getElem?_set_ne hj] at e1 e3
    rw [List.getElem?_set_ne hk] at e2 ⊢
    exact S.sep j k v w a ne e1 e2 e3
  lam := fun j ks e => by
    by_cases z : i = j
    · subst z
      rw [List.getElem?_set, if_pos rfl] at e
      split at e <;> cases e
    · rw [List.getElem?_set_ne z] at e
      obtain ⟨h1, a, fs, h2, h3⟩ := S.lam j ks e
      exact ⟨h1, a, fs, by rw [List.getElem?_set_ne z]; exact h2, h3⟩

/-! ### targets -/
/-- what has changed lies at the target's names -/
def Same (is : List Nat) (σ σ' : L2.St) : Prop := σ'.length = σ.length ∧ ∀ j, j ∉ is → σ'[j]? = σ[j]?
theorem wipe_same {σ σ' : L2.St} : ∀ {vs : List Nat}, Same vs σ σ' → wipe σ' vs = wipe σ vs := fun {vs} s => by
  apply List.ext_getElem?
  intro j
  by_cases m : j ∈ vs
  · have key : ∀ (τ : L2.St) (us : List Nat), j ∈ us → (wipe τ us)[j]? = if j < τ.length then some none else none := by
      intro τ us
      induction us with
      | nil => intro h; cases h
      | cons u us ih =>
        intro h
        unfold wipe
        by_cases z : u = j
        · subst z
          rw [List.getElem?_set, if_pos rfl, wipe_length]
        · rw [List.getElem?_set_ne z]
          exact ih ((List.mem_cons.mp h).resolve_left fun q => z q.symm)
    rw [key _ _ m, key _ _ m, s.1]
  · rw [wipe_out m, wipe_out m]
    exact s.2 j m
def tG (R : Cn) (t : Tg) : L2.TG := fun v σ H Q => ∃ (x : LV) (Fz : Addr → Prop) (ρ : List Addr) (L L' : Ev.Env), Rep R Fz ρ H x v ∧ Slots R Fz ρ H L σ ∧ Ev.bindT t x L = some L' ∧ ∀ σ', Slots R Fz ρ H L' σ' → Same (ixs t) σ σ' → Q σ' H
def tGs (R : Cn) (ts : Tgs) : L2.TGs := fun vs σ H Q => ∃ (xs : List LV) (Fz : Addr → Prop) (ρ : List Addr) (L L' : Ev.Env), Reps R Fz ρ H xs vs ∧ Slots R Fz ρ H L σ ∧ Ev.bindTs ts xs L = some L' ∧ ∀ σ', Slots R Fz ρ H L' σ' → Same (ixss ts) σ σ' → Q σ' H
def SG (R : Cn) (X : Cx) (e : Expr) (t : Tg) : Prop := PG X e (tG R t)
def SGs (R : Cn) (X : Cx) (es : List Expr) (ts : Tgs) : Prop := PGs X es (tGs R ts)
theorem pg_imp {e : Expr} {t t' : L2.TG} (p : PG X e t) (i : ∀ v σ H Q, t' v σ H Q → t v σ H Q) : PG X e t' := ⟨fun pins s σ H v u Q I r h => p.run pins s σ H v u Q I r (i v σ H Q h)⟩
theorem pgs_imp {es : List Expr} {t t' : L2.TGs} (p : PGs X es t) (i : ∀ v σ H Q, t' v σ H Q → t v σ H Q) : PGs X es t' := ⟨fun pins s σ H v u Q I r h => p.run pins s σ H v u Q I r (i v σ H Q h)⟩
theorem pg_or {e : Expr} {t t' : L2.TG} (p : PG X e t) (q : PG X e t') : PG X e (fun v σ H Q => t v σ H Q ∨ t' v σ H Q) := ⟨fun pins s σ H v u Q I r h => h.elim (p.run pins s σ H v u Q I r) (q.run pins s σ H v u Q I r)⟩
theorem sg_nm {i : Nat} {x : Str} (hN : X.N.Nodup) (hi : X.N[i]? = some x) (hx : Loc X.env.scope x) (hf : X.fn x = true ∨ X.env.scope.names.lookup x = some .local) : SG R X (.Name x pos) (.nm i) := by
  refine pg_imp (pg_name hN hi hx hf) fun v σ H Q ⟨x, Fz, ρ, L, L', r, S, e, k⟩ => ?_
  simp only [Ev.bindT] at e
  cases e
  exact k _ (S.set i r) ⟨by rw [List.length_set], fun j hj => List.getElem?_set_ne (fun q => hj (by rw [← q]; simp [ixs]))⟩
theorem sgs_nil : SGs R X [] .nil := by
  refine pgs_imp pgs_nil fun vs σ H Q ⟨xs, Fz, ρ, L, L', r, S, e, k⟩ => ?_
  cases xs with
  | nil =>
    simp only [Ev.bindTs] at e
    cases e
    exact ⟨r, k σ S ⟨rfl, fun _ _ => rfl⟩⟩
  | cons _ _ => simp only [Ev.bindTs] at e; cases e
theorem sgs_cons {t : Tg} {ts : Tgs} (h1 : SG R X e t) (h2 : SGs R X es ts) (hs : (assignEach (e :: es) X.env).map (·.2) = assign e X.env :: (assignEach es X.env).map (·.2)) : SGs R X (e :: es) (.cons t ts) := by
  refine pgs_imp (pgs_cons h1 h2 hs) fun vs σ H Q ⟨xs, Fz, ρ, L, L', r, S, e, k⟩ => ?_
  cases xs with
  | nil => simp only [Ev.bindTs] at e; cases e
  | cons x xs =>
    obtain ⟨v, vr, e1, rx, rr⟩ := r
    simp only [Ev.bindTs] at e
    cases q : Ev.bindT t x L with
    | none => rw [q] at e; cases e
    | some L1 =>
      rw [q] at e
      refine ⟨v, vr, e1, x, Fz, ρ, L, L1, rx, S, q, fun σ1 S1 m1 => ⟨xs, Fz, ρ, L1, L', rr, S1, e, fun σ2 S2 m2 => k σ2 S2 ⟨m2.1.trans m1.1, fun j hj => ?_⟩⟩⟩
      rw [ixss, List.mem_append, not_or] at hj
      exact (m2.2 j hj.2).trans (m1.2 j hj.1)
def tlen : Tgs → Nat
  | .nil => 0
  | .cons _ ts => tlen ts + 1
theorem bindTs_len : ∀ {ts : Tgs} {xs : List LV} {L L' : Ev.Env}, Ev.bindTs ts xs L = some L' → xs.length = tlen ts
  | .nil, [], _, _, _ => rfl
  | .nil, _ :: _, _, _, e => by simp only [Ev.bindTs] at e; cases e
  | .cons t ts, [], _, _, e => by simp only [Ev.bindTs] at e; cases e
  | .cons t ts, x :: xs, L, L', e => by
    simp only [Ev.bindTs] at e
    cases q : Ev.bindT t x L with
    | none => rw [q] at e; cases e
    | some L1 => rw [q] at e; rw [List.length_cons, bindTs_len e]; rfl
theorem sg_tup {k : Nat} {ts : Tgs} {n : Nat} (hK : X.K = R.K) (hc : X.calm = true) (h : SGs R X es ts) (hl : tlen ts = n) (hn : (assignEach es X.env).length = n) (hst : (assignEach es X.env).findIdx? (·.1) = none) : SG R X (.Tuple es k pos) (.tup ts) := by
  refine pg_imp (pg_or (pg_tup hc h hn hst) (pg_lst hc h hn hst)) fun v σ H Q ⟨x, Fz, ρ, L, L', r, S, e, k⟩ => ?_
  cases x with
  | tup xs =>
    obtain ⟨a, vs, rfl, q, t⟩ := r
    simp only [Ev.bindT] at e
    exact .inl ⟨a, vs, rfl, by rw [hK]; exact q, by rw [← t.length, bindTs_len e, hl], xs, Fz, ρ, L, L', t, S, e, fun σ' S' m => k σ' S' m⟩
  | lst xs =>
    obtain ⟨a, vs, rfl, f, q, t⟩ := r
    simp only [Ev.bindT] at e
    exact .inr ⟨a, vs, rfl, .inl (.inl q), by rw [← t.length, bindTs_len e, hl], xs, Fz, ρ, L, L', t, S, e, fun σ' S' m => k σ' S' m⟩
  | _ => simp only [Ev.bindT] at e; cases e

/-! ### what is walked -/
/-- what stands through a function's run -/
structure ExtW (Fz : Addr → Prop) (ρ : List Addr) (H : Hp) (Fz' : Addr → Prop) (ρ' : List Addr) (H' : Hp) : Prop where
  ks : Keeps Fz H H'
  fzs : ∀ a, Fz a → Fz' a
  rho : ∃ more, ρ' = ρ ++ more
theorem ExtW.refl : ExtW Fz ρ H Fz ρ H := ⟨⟨fun _ _ _ e _ => e, fun _ _ e => e, fun _ _ _ e => e⟩, fun _ z => z, ⟨[], by simp⟩⟩
theorem ExtW.trans {Fz2 : Addr → Prop} {ρ2 : List Addr} {H2 : Hp} (a : ExtW Fz ρ H Fz' ρ' H') (b : ExtW Fz' ρ' H' Fz2 ρ2 H2) : ExtW Fz ρ H Fz2 ρ2 H2 :=
  ⟨⟨fun x o f e n => b.ks.fz x o (a.fzs x f) (a.ks.fz x o f e n) n, fun x o e => b.ks.tup x o (a.ks.tup x o e), fun x o u e => b.ks.frz x o u (a.ks.frz x o u e)⟩, fun x z => b.fzs x (a.fzs x z), by
    obtain ⟨m1, e1⟩ := a.rho
    obtain ⟨m2, e2⟩ := b.rho
    exact ⟨m1 ++ m2, by rw [e2, e1, List.append_assoc]⟩⟩
theorem Ext.w (C : Core R Fz ρ H h) (E : Ext Fz ρ H Fz' ρ' H') : ExtW Fz ρ H Fz' ρ' H' :=
  ⟨⟨fun a o f e n => E.keep a o e (C.fz a f) n, fun a xs e => E.keep a _ e (C.tup e) (by intro ps z; cases z), fun a o u e => E.keep a _ e (C.frz e) (by intro ps z; cases z)⟩, E.fzs, E.rho⟩
end
end Sd
end
section
set_option maxRecDepth 100000
set_option maxHeartbeats 2000000
/-! what is walked; list comprehensions -/
namespace Sd
open PySem PySem.Spec PyProof.Rows L2
open Ev (LV LO CE CEs Src Tg Tgs CKs TG TGs CS CSs Prg Orc Slot)
section
variable {R : Cn} {X : Cx} {W : WX} {O : Orc} {σ : L2.St} {Fz Fz' : Addr → Prop} {ρ ρ' : List Addr} {H H' : Hp} {h h' : Ev.Hp} {L : Ev.Env} {N : List Str} {sc : Scope}
variable {a b e tg : Expr} {ca cb c : CE} {pos : Pos} {es : List Expr} {cs : CEs}
theorem Rep.w (E : ExtW Fz ρ H Fz' ρ' H') {v : LV} {x : V} (r : Rep R Fz ρ H v x) : Rep R Fz' ρ' H' v x := Rep.fz E.fzs E.rho v (Rep.gen E.ks v r)
theorem Reps.w (E : ExtW Fz ρ H Fz' ρ' H') {v : List LV} {x : List V} (r : Reps R Fz ρ H v x) : Reps R Fz' ρ' H' v x := Reps.fz E.fzs E.rho v (Reps.gen E.ks v r)
/-- J walks xs, whatever happens to what may change -/
def Wk (R : Cn) (J : It) (xs : List LV) (F0 : Addr → Prop) (ρ0 : List Addr) (H0 : Hp) : Prop := ∀ Fz ρ H h, Core R Fz ρ H h → ExtW F0 ρ0 H0 Fz ρ H → ∀ i,
  (∀ x, xs[i]? = some x → J.go i H ∧ ∀ v H', J.yld i H v H' → Core R Fz ρ H' h ∧ Ext Fz ρ H Fz ρ H' ∧ Rep R Fz ρ H' x v) ∧ (xs.length = i → J.stop i H)
def tI (R : Cn) (W : WX) (O : Orc) (s : Src) : TI := fun σ H Rr => Stn R (fun L h Fz ρ => match Ev.evS R.pr O s L h with
  | .ok xs h' => ∀ J H' Fz' ρ', Core R Fz' ρ' H' h' → Ext Fz ρ H Fz' ρ' H' → Wk R J xs Fz' ρ' H' → Rr J H'
  | .exc d h' => exP R W σ Fz ρ H h' d
  | .bad => False) σ H
def SI (R : Cn) (W : WX) (O : Orc) (X : Cx) (tg e : Expr) (s : Src) : Prop := PI X tg e (tI R W O s)
theorem pi_imp {w w' : TI} (p : PI X tg e w) (i : ∀ σ H Q, w' σ H Q → w σ H Q) : PI X tg e w' := ⟨fun pins s σ H Q I q => p.run pins s σ H Q I (i σ H Q q)⟩
theorem pi_or {w w' : TI} (p : PI X tg e w) (q : PI X tg e w') : PI X tg e (fun σ H Q => w σ H Q ∨ w' σ H Q) := ⟨fun pins s σ H Q I z => z.elim (p.run pins s σ H Q I) (q.run pins s σ H Q I)⟩
theorem wk_lst {K : PySem.W.Frag} {a : Addr} {xs : List LV} {vs : List V} (f : Fz a) (q : H a = some (.lst vs)) (t : Reps R Fz ρ H xs vs) : Wk R (Itl K a) xs Fz ρ H := by
  intro F1 ρ1 H1 h1 C1 E1 i
  have q1 : H1 a = some (.lst vs) := E1.ks.fz a _ f q (by intro ps z; cases z)
  have t1 : Reps R F1 ρ1 H1 xs vs := t.w E1
  refine ⟨fun x hx => ?_, fun hl => ⟨vs, .inl (.inl q1), by rw [← t1.length]; exact Nat.le_of_eq hl⟩⟩
  obtain ⟨v, hv, rv⟩ := t1.get hx
  refine ⟨⟨vs, v, .inl (.inl q1), hv⟩, fun w H2 ⟨e, y⟩ => ?_⟩
  subst e
  have := y vs (.inl (.inl q1))
  rw [hv] at this
  cases this
  exact ⟨C1, Ext.refl, rv⟩
theorem wk_tup {a : Addr} {xs : List LV} {vs : List V} (q : SqT R.K H a vs) (t : Reps R Fz ρ H xs vs) : Wk R (Itt R.K a) xs Fz ρ H := by
  intro F1 ρ1 H1 h1 C1 E1 i
  have q1 : SqT R.K H1 a vs := E1.ks.sqT q
  have t1 : Reps R F1 ρ1 H1 xs vs := t.w E1
  refine ⟨fun x hx => ?_, fun hl => ⟨vs, q1, by rw [← t1.length]; exact Nat.le_of_eq hl⟩⟩
  obtain ⟨v, hv, rv⟩ := t1.get hx
  refine ⟨⟨vs, v, q1, hv⟩, fun w H2 ⟨e, y⟩ => ?_⟩
  subst e
  have := y vs q1
  rw [hv] at this
  cases this
  exact ⟨C1, Ext.refl, rv⟩
theorem rangeL_get {lo hi : Int} {i : Nat} {x : LV} (e : (Ev.rangeL lo hi)[i]? = some x) : i < (hi - lo).toNat ∧ x = .int (lo + (i : Int)) := by
  unfold Ev.rangeL at e
  rw [List.getElem?_map] at e
  obtain ⟨k, e1, rfl⟩ := Option.map_eq_some_iff.mp e
  obtain ⟨h1, h2⟩ := List.getElem?_eq_some_iff.mp e1
  rw [List.length_range] at h1
  rw [List.getElem_range] at h2
  exact ⟨h1, by rw [h2]⟩
theorem wk_rng {lo hi : Int} : Wk R (Itr lo (hi - lo).toNat) (Ev.rangeL lo hi) Fz ρ H := by
  intro F1 ρ1 H1 h1 C1 E1 i
  refine ⟨fun x hx => ?_, fun hl => ?_⟩
  · obtain ⟨h1, rfl⟩ := rangeL_get hx
    refine ⟨h1, fun w H2 ⟨e, y⟩ => ?_⟩
    subst e; subst y
    exact ⟨C1, Ext.refl, rfl⟩
  · unfold Ev.rangeL at hl
    rw [List.length_map, List.length_range] at hl
    exact Nat.le_of_eq hl
theorem si_of (hK : X.K = R.K) (s : SE R W O X e c) : SI R W O X tg e (.of c) := by
  refine pi_imp (pi_or (pi_list s) (pi_tup s)) fun σ H Q ⟨L, h, Fz, ρ, C, S, r⟩ => ?_
  simp only [Ev.evS] at r
  cases q : Ev.ev R.pr O c L h with
  | bad => simp only [q] at r
  | exc d h1 =>
    simp only [q] at r
    refine .inl ⟨L, h, Fz, ρ, C, S, ?_⟩
    dsimp only
    rw [q]
    exact r
  | ok v h1 =>
    simp only [q] at r
    cases v with
    | lst xs =>
      simp only [Ev.itemsOf, Ev.ofO] at r
      refine .inl ⟨L, h, Fz, ρ, C, S, ?_⟩
      dsimp only
      rw [q]
      intro x H1 F1 ρ1 C1 E1 R1
      obtain ⟨a, vs, rfl, f, q1, t⟩ := R1
      exact ⟨a, rfl, ⟨vs, .inl (.inl q1)⟩, r _ H1 F1 ρ1 C1 E1 (wk_lst f q1 t)⟩
    | tup xs =>
      simp only [Ev.itemsOf, Ev.ofO] at r
      refine .inr ⟨L, h, Fz, ρ, C, S, ?_⟩
      dsimp only
      rw [q]
      intro x H1 F1 ρ1 C1 E1 R1
      obtain ⟨a, vs, rfl, q1, t⟩ := R1
      exact ⟨a, rfl, ⟨vs, by rw [hK]; exact q1⟩, r _ H1 F1 ρ1 C1 E1 (by rw [hK]; exact wk_tup q1 t)⟩
    | _ => simp only [Ev.itemsOf, Ev.ofO] at r
theorem repVs1 {v : LV} {xs : List V} (r : RepVs R Fz ρ H [v] xs) : ∃ x, xs = [x] ∧ RepV R Fz ρ H v x := by
  obtain ⟨x, t, e, a, b⟩ := r
  exact ⟨x, by rw [e, show t = [] from b], a⟩
theorem repVs2 {v w : LV} {xs : List V} (r : RepVs R Fz ρ H [v, w] xs) : ∃ x y, xs = [x, y] ∧ RepV R Fz ρ H v x ∧ RepV R Fz ρ H w y := by
  obtain ⟨x, t, e, a, b⟩ := r
  obtain ⟨y, e2, c⟩ := repVs1 b
  exact ⟨x, y, by rw [e, e2], a, c⟩
theorem si_range1 {p : Pos} (ok : XOk R X W N sc) (hg : sc.names.lookup ("range" : Str) = some .globalImplicit) (hm : R.mg "range" = none) (ha : SVs R W O X [a] (.cons ca .nil)) (hs : starEach [a] X.env = [(false, eval a X.env)]) : SI R W O X tg (.Call (.Name "range" p) [a] [] pos) (.range (.cons ca .nil)) := by
  refine pi_imp (pi_range1 (by show X.env.scope.names.lookup _ = _; rw [ok.sc]; exact hg) (by rw [ok.mg]; exact hm) ha hs) fun σ H Q ⟨L, h, Fz, ρ, C, S, r⟩ => ?_
  simp only [Ev.evS] at r
  refine oneV_of (.cons ca .nil) C S ?_
  cases q : Ev.evA R.pr O (.cons ca .nil) L h with
  | bad => simp only [q] at r
  | exc d h1 => simp only [q] at r; exact r
  | ok vs h1 =>
    simp only [q] at r
    intro xs H1 F1 ρ1 C1 E1 R1
    have hl := evA_len q
    match vs, hl with
    | [v], _ =>
      obtain ⟨x, rfl, rx⟩ := repVs1 R1
      cases v with
      | int j =>
        cases rx
        simp only [Ev.rangeOf] at r
        by_cases z : j ≤ (Ev.SL : Int) ∧ -(2 ^ 60) < j
        · rw [if_pos z] at r
          have z1 : (Ev.SL : Int) = 16777216 := rfl
          refine ⟨j, rfl, by omega, by omega, ?_⟩
          have := r (Itr 0 (j - 0).toNat) H1 F1 ρ1 C1 E1 wk_rng
          rwa [Int.sub_zero] at this
        · rw [if_neg z] at r
          exact r.elim
      | _ => exact False.elim r
theorem si_range2 {p : Pos} (ok : XOk R X W N sc) (hg : sc.names.lookup ("range" : Str) = some .globalImplicit) (hm : R.mg "range" = none) (ha : SVs R W O X [a, b] (.cons ca (.cons cb .nil))) (hs : starEach [a, b] X.env = [(false, eval a X.env), (false, eval b X.env)]) (hs2 : starEach [b] X.env = [(false, eval b X.env)]) : SI R W O X tg (.Call (.Name "range" p) [a, b] [] pos) (.range (.cons ca (.cons cb .nil))) := by
  refine pi_imp (pi_range2 (by show X.env.scope.names.lookup _ = _; rw [ok.sc]; exact hg) (by rw [ok.mg]; exact hm) ha hs hs2) fun σ H Q ⟨L, h, Fz, ρ, C, S, r⟩ => ?_
  simp only [Ev.evS] at r
  refine oneV_of (.cons ca (.cons cb .nil)) C S ?_
  cases q : Ev.evA R.pr O (.cons ca (.cons cb .nil)) L h with
  | bad => simp only [q] at r
  | exc d h1 => simp only [q] at r; exact r
  | ok vs h1 =>
    simp only [q] at r
    intro xs H1 F1 ρ1 C1 E1 R1
    have hl := evA_len q
    match vs, hl with
    | [v, w], _ =>
      obtain ⟨x, y, rfl, rx, ry⟩ := repVs2 R1
      cases v with
      | int i =>
        cases w with
        | int j =>
          cases rx; cases ry
          simp only [Ev.rangeOf] at r
          by_cases z : j - i ≤ (Ev.SL : Int) ∧ -(2 ^ 60) < i ∧ i < 2 ^ 60 ∧ -(2 ^ 60) < j ∧ j < 2 ^ 60
          · rw [if_pos z] at r
            exact ⟨i, j, rfl, ⟨by omega, by omega, by omega, by omega⟩, r (Itr i (j - i).toNat) H1 F1 ρ1 C1 E1 wk_rng⟩
          · rw [if_neg z] at r
            exact r.elim
        | _ => exact False.elim r
      | _ => exact False.elim r
/-! ### tests of a clause -/
def tTs (R : Cn) (W : WX) (O : Orc) (ts : CEs) : TT := fun σ H Q => Stn R (fun L h Fz ρ => match Ev.evT R.pr O ts L h with
  | .ok b h' => ∀ H' Fz' ρ', Core R Fz' ρ' H' h' → Ext Fz ρ H Fz' ρ' H' → Q b H'
  | .exc d h' => exP R W σ Fz ρ H h' d
  | .bad => False) σ H
def STs (R : Cn) (W : WX) (O : Orc) (X : Cx) (ifs : List Expr) (ts : CEs) : Prop := PTs X ifs (tTs R W O ts)
theorem pts_imp {ifs : List Expr} {t t' : TT} (p : PTs X ifs t) (i : ∀ σ H Q, t' σ H Q → t σ H Q) : PTs X ifs t' := ⟨fun pins s σ H Q I q => p.run pins s σ H Q I (i σ H Q q)⟩
theorem sts_nil : STs R W O X [] .nil := pts_imp pts_nil fun σ H Q ⟨L, h, Fz, ρ, C, S, r⟩ => by
  simp only [Ev.evT] at r
  exact r H Fz ρ C Ext.refl
theorem sts_one (s : ST R W O X e c) : STs R W O X [e] (.cons c .nil) := pts_imp (pts_one s) fun σ H Q ⟨L, h, Fz, ρ, C, S, r⟩ => ⟨L, h, Fz, ρ, C, S, by
  simp only [Ev.evT] at r
  dsimp only
  cases q : Ev.ev R.pr O c L h with
  | bad => simp only [q] at r
  | exc d h1 => simp only [q] at r ⊢; exact r
  | ok v h1 =>
    simp only [q] at r ⊢
    cases z : (Ev.view v h1).truth with
    | none => simp only [z] at r
    | some b =>
      simp only [z] at r ⊢
      cases b <;> exact r⟩
/-! ### list comprehensions -/
abbrev W0 : WX := fun _ _ _ _ => False
theorem wipe_idem (σ : L2.St) (vs : List Nat) : wipe (wipe σ vs) vs = wipe σ vs := by
  refine wipe_same (σ := σ) ⟨wipe_length σ vs, fun j hj => wipe_out hj⟩
theorem alike_eq {A B : Ev.Env} {S : Nat → Prop} (k : Alike S A B) (n : ∀ j, ¬ S j) : A = B := List.ext_getElem? fun j => k.2 j (n j)
def turnF (P : Prg) (O : Orc) (elt : CE) (t : Tg) (ts : CEs) (L : Ev.Env) : LV → Ev.Hp → Ev.Res (Option LV) := fun x h2 => match Ev.bindT t x L with
  | some σ2 => (match Ev.evT P O ts σ2 h2 with
    | .ok true h3 => (match Ev.ev P O elt σ2 h3 with
      | .ok v h4 => .ok (some v) h4
      | _ => .bad)
    | .ok false h3 => .ok none h3
    | _ => .bad)
  | none => .bad
theorem lc_imp {own : List (Str × Nat)} {s : Src} {t : Tg} {ts : CEs} {ce : CE} (o1 : ∀ j ∈ own.map (·.2), j ∈ ixs t) (o2 : ∀ j ∈ ixs t, j ∈ own.map (·.2)) {Q : VK} (t0 : tF R W O (.comp ce t ts s) σ H Q) : tLc (tI R W O s) (tG R t) (tTs R W0 O ts) (tE R W0 O ce) (own.map (·.2)) σ H Q := by
  obtain ⟨L, h, Fz, ρ, C, S, r⟩ := t0
  refine ⟨L, h, Fz, ρ, C, S, ?_⟩
  simp only [Ev.ev] at r
  dsimp only
  cases q : Ev.evS R.pr O s L h with
  | bad => simp only [q] at r; exact False.elim r
  | exc d h1 => simp only [q] at r; exact r
  | ok xs h1 =>
    simp only [q] at r
    intro J H1 F1 ρ1 C1 E1 wk D hD
    by_cases hl : xs.length ≤ Ev.SL
    · rw [if_pos hl] at r
      change RF R W σ Fz ρ H (match Ev.mapR (turnF R.pr O ce t ts L) xs h1 with | .ok vs h2 => .ok (.lst vs) h2 | _ => .bad) Q at r
      cases qm : Ev.mapR (turnF R.pr O ce t ts L) xs h1 with
      | bad => rw [qm] at r; exact False.elim r
      | exc d h2 => rw [qm] at r; exact False.elim r
      | ok vs h2 =>
        rw [qm] at r
        have r : okF R Fz ρ H h2 (.lst vs) Q := r
        obtain ⟨C2, E2⟩ := C1.grow hD (.lst []) (Fz' := F1) (fun _ z => z) fun _ z => .inl z
        have iv0 : ∃ (F : Addr → Prop) (ρc : List Addr) (hc : Ev.Hp) (acc : List LV) (accV : List V) (rest : List LV), Core R F ρc (upd H1 D (.lst [])) hc ∧ Ext F1 ρ1 H1 F ρc (upd H1 D (.lst [])) ∧ upd H1 D (.lst []) D = some (.lst accV) ∧ Reps R F ρc (upd H1 D (.lst [])) acc accV ∧ D ∉ ρc ∧ ¬ F D ∧ acc.length ≤ 0 ∧
            Ev.mapR (turnF R.pr O ce t ts L) (xs.drop 0) hc = .ok rest h2 ∧ vs = acc ++ rest :=
          ⟨F1, ρ1, h1, [], [], vs, C2, E2, upd_same, rfl, fun m => C1.live m hD, fun z => C1.fzt D z hD, Nat.le_refl _, by simpa using qm, rfl⟩
        refine ⟨fun i m Hc => m = xs.length - i ∧ i ≤ xs.length ∧ ∃ (F : Addr → Prop) (ρc : List Addr) (hc : Ev.Hp) (acc : List LV) (accV : List V) (rest : List LV), Core R F ρc Hc hc ∧ Ext F1 ρ1 H1 F ρc Hc ∧ Hc D = some (.lst accV) ∧ Reps R F ρc Hc acc accV ∧ D ∉ ρc ∧ ¬ F D ∧ acc.length ≤ i ∧
            Ev.mapR (turnF R.pr O ce t ts L) (xs.drop i) hc = .ok rest h2 ∧ vs = acc ++ rest, ⟨xs.length, by simp, Nat.zero_le _, iv0⟩, ?_⟩
        rintro i m Hc ⟨rfl, hi, F, ρc, hc, acc, accV, rest, Cc, Ec, dD, ra, nr, nf, al, em, ev⟩
        obtain ⟨wgo, wstop⟩ := wk F ρc Hc hc Cc (Ec.w C1) i
        by_cases hlt : i < xs.length
        · have hx : xs[i]? = some xs[i] := List.getElem?_eq_getElem hlt
          obtain ⟨go, yl⟩ := wgo _ hx
          refine .inr ⟨go, fun H' => (i + 1) ≤ xs.length ∧ ∃ (F : Addr → Prop) (ρc : List Addr) (hc : Ev.Hp) (acc : List LV) (accV : List V) (rest : List LV), Core R F ρc H' hc ∧ Ext F1 ρ1 H1 F ρc H' ∧ H' D = some (.lst accV) ∧ Reps R F ρc H' acc accV ∧ D ∉ ρc ∧ ¬ F D ∧ acc.length ≤ i + 1 ∧
            Ev.mapR (turnF R.pr O ce t ts L) (xs.drop (i + 1)) hc = .ok rest h2 ∧ vs = acc ++ rest, fun H' n => ⟨xs.length - (i + 1), by omega, rfl, n⟩, fun v H' y => ?_⟩
          obtain ⟨Cy, Ey, Ry⟩ := yl v H' y
          rw [List.drop_eq_getElem_cons hlt] at em
          generalize hxx : xs[i] = x at em Ry
          unfold Ev.mapR at em
          cases qb : Ev.bindT t x L with
          | none =>
            have z : turnF R.pr O ce t ts L x hc = .bad := by unfold turnF; rw [qb]
            rw [z] at em
            cases em
          | some L2 =>
            obtain ⟨B, eB, kB⟩ := bindT_alike t (A := L) (B := wipeL L (own.map (·.2))) (S := fun j => j ∈ own.map (·.2)) ⟨(wipeL_length L _).symm, fun j hj => ((wipeL_alike L _).2 j hj).symm⟩ qb
            have eL : L2 = B := alike_eq kB fun j z => z.2 (o1 j z.1)
            subst eL
            have SS := (((((S.mono C E1).mono C1 Ec).mono Cc Ey).wipe (own.map (·.2))))
            refine ⟨x, F, ρc, wipeL L (own.map (·.2)), L2, Ry, SS, eB, fun σ2 S2 sm => ⟨?_, L2, hc, F, ρc, Cy, S2, ?_⟩⟩
            · have := wipe_same (σ := wipe σ (own.map (·.2))) (σ' := σ2) (vs := own.map (·.2)) ⟨sm.1, fun j hj => sm.2 j fun z => hj (o2 j z)⟩
              rw [this, wipe_idem]
            · dsimp only
              have dH' : H' D = some (.lst accV) := Ey.keep D _ dD nr (by intro ps z; cases z)
              have ra' := Reps.mono Cc Ey acc ra
              cases qt : Ev.evT R.pr O ts L2 hc with
              | bad =>
                have z : turnF R.pr O ce t ts L x hc = .bad := by unfold turnF; simp only [qb, qt]
                rw [z] at em; cases em
              | exc d h3 =>
                have z : turnF R.pr O ce t ts L x hc = .bad := by unfold turnF; simp only [qb, qt]
                rw [z] at em; cases em
              | ok bb h3 =>
                intro H3 F3 ρ3 C3 E3
                have nf3 : ¬ F3 D := fun z => (E3.fzn D z).elim nf fun y => nomatch (y.symm.trans dH')
                have nr3 : D ∉ ρ3 := fun z => (E3.rhn D z).elim nr fun y => nomatch (y.symm.trans dH')
                have d3 : H3 D = some (.lst accV) := E3.keep D _ dH' nr (by intro ps z; cases z)
                have ra3 := Reps.mono Cy E3 acc ra'
                cases bb with
                | false =>
                  have z : turnF R.pr O ce t ts L x hc = .ok none h3 := by unfold turnF; simp only [qb, qt]
                  rw [z] at em
                  rw [if_neg Bool.false_ne_true]
                  exact ⟨hlt, F3, ρ3, h3, acc, accV, rest, C3, Ec.trans (Ey.trans E3), d3, ra3, nr3, nf3, by omega, em, ev⟩
                | true =>
                  rw [if_pos rfl]
                  refine ⟨L2, h3, F3, ρ3, C3, S2.mono Cy E3, ?_⟩
                  dsimp only
                  cases qe : Ev.ev R.pr O ce L2 h3 with
                  | bad =>
                    have z : turnF R.pr O ce t ts L x hc = .bad := by unfold turnF; simp only [qb, qt, qe]
                    rw [z] at em; cases em
                  | exc d h4 =>
                    have z : turnF R.pr O ce t ts L x hc = .bad := by unfold turnF; simp only [qb, qt, qe]
                    rw [z] at em; cases em
                  | ok w h4 =>
                    have z : turnF R.pr O ce t ts L x hc = .ok (some w) h4 := by unfold turnF; simp only [qb, qt, qe]
                    rw [z] at em
                    intro y4 H4 F4 ρ4 C4 E4 R4
                    have nf4 : ¬ F4 D := fun z => (E4.fzn D z).elim nf3 fun y => nomatch (y.symm.trans d3)
                    have nr4 : D ∉ ρ4 := fun z => (E4.rhn D z).elim nr3 fun y => nomatch (y.symm.trans d3)
                    have d4 : H4 D = some (.lst accV) := E4.keep D _ d3 nr3 (by intro ps z; cases z)
                    have ra4 := Reps.mono C3 E4 acc ra3
                    have len : accV.length < sizeLine := by rw [← ra4.length, ← SL_eq]; omega
                    simp only at em
                    cases qr : Ev.mapR (turnF R.pr O ce t ts L) (xs.drop (i + 1)) h4 with
                    | bad => rw [qr] at em; cases em
                    | exc d h5 => rw [qr] at em; cases em
                    | ok rest2 h5 =>
                      rw [qr] at em
                      cases em
                      refine ⟨accV, d4, len, hlt, F4, ρ4, h4, acc ++ [w], accV ++ [y4], rest2, C4.own d4 rfl nf4 nr4, (Ec.trans (Ey.trans (E3.trans E4))).own hD, upd_same, ?_, nr4, nf4, by rw [List.length_append]; simp; omega, qr, by rw [ev, List.append_assoc]; rfl⟩
                      exact Reps.gen (keeps_upd d4 rfl nf4) _ (ra4.append ⟨y4, [], rfl, R4, rfl⟩)
        · have hiq : i = xs.length := by omega
          subst hiq
          refine .inl ⟨wstop rfl, ?_⟩
          rw [List.drop_length] at em
          unfold Ev.mapR at em
          cases em
          rw [List.append_nil] at ev
          subst ev
          exact r (.ref D) Hc F ρc Cc (E1.trans Ec) ⟨D, rfl, ⟨accV, dD, ra⟩, nf, nr, E1.none hD⟩
    · rw [if_neg hl] at r
      exact False.elim r
theorem sf_lc {iter elt : Expr} {ifs : List Expr} {scope : Scope} {own : List (Str × Nat)} {s : Src} {t : Tg} {ts : CEs} {ce : CE} (ok : XOk R X W N sc) (hi : SI R W O X tg iter s) (bo : BlkOk X.N X.env.scope scope own)
    (hg : ∀ (s : Shared) (H : Hp) (C : Addr) (cl : List (Str × Addr)) (fp : List Addr), SG R (X.blk s H scope (compEnvC scope cl C X.env) fp) tg t) (ht : ∀ (s : Shared) (H : Hp) (C : Addr) (cl : List (Str × Addr)) (fp : List Addr), STs R W0 O (X.blk s H scope (compEnvC scope cl C X.env) fp) ifs ts)
    (he : ∀ (s : Shared) (H : Hp) (C : Addr) (cl : List (Str × Addr)) (fp : List Addr), SE R W0 O (X.blk s H scope (compEnvC scope cl C X.env) fp) elt ce)
    (o1 : ∀ j ∈ own.map (·.2), j ∈ ixs t) (o2 : ∀ j ∈ ixs t, j ∈ own.map (·.2)) (hs : ∀ x, foldedSetIterable iter X.env x = pure x) : SF R W O X (.ListComp elt [⟨tg, iter, ifs, 0⟩] scope pos) (.comp ce t ts s) := by
  have hN : X.N.Nodup := by rw [ok.nm]; exact ok.nd
  exact pe_imp (pe_lc ok.calm hN hi bo hg ht he hs) fun σ H Q t0 => lc_imp o1 o2 t0
end
end Sd
end
section
set_option maxRecDepth 100000
set_option maxHeartbeats 2000000
/-! statements: what stands, targets, stores -/
namespace Sd
open PySem PySem.Spec PyProof.Rows L2
open Ev (LV LO CE CEs Src Tg Tgs CKs TG TGs CS CSs Prg Orc Slot SR)
/-- a function's entry -/
structure Bs where
  F : Addr → Prop
  ρ : List Addr
  H : Hp
section
variable (R : Cn) (W : WX) (B : Bs)
structure Now (L : Ev.Env) (h : Ev.Hp) (Fz : Addr → Prop) (ρ : List Addr) (σ : L2.St) (H : Hp) : Prop where
  C : Core R Fz ρ H h
  S : Slots R Fz ρ H L σ
  E : Ext B.F B.ρ B.H Fz ρ H
  own : ∀ (i : Nat) v a, L[i]? = some (.own v) → σ[i]? = some (some (.ref a)) → B.H a = none
/-- what a run's end gives -/
def SRk (Fz : Addr → Prop) (ρ : List Addr) (H : Hp) (r : SR) (D : Ends) : Prop := match r with
  | .nx L' h' => ∀ σ' H' F' ρ', Now R B L' h' F' ρ' σ' H' → ExtW Fz ρ H F' ρ' H' → D.nx σ' H'
  | .bk L' h' => ∀ σ' H' F' ρ', Now R B L' h' F' ρ' σ' H' → ExtW Fz ρ H F' ρ' H' → D.bk σ' H'
  | .ct L' h' => ∀ σ' H' F' ρ', Now R B L' h' F' ρ' σ' H' → ExtW Fz ρ H F' ρ' H' → D.ct σ' H'
  | .rt v h' => ∀ x H' F' ρ', Core R F' ρ' H' h' → Ext B.F B.ρ B.H F' ρ' H' → Rep R F' ρ' H' v x → D.rt x H'
  | .ex c L' h' => ∀ σ' H' F' ρ', Now R B L' h' F' ρ' σ' H' → ExtW Fz ρ H F' ρ' H' → W (.ref (R.cl c)) none σ' H'
  | .bad => False
end
section
variable (R : Cn) (W : WX) (O : Orc)
def tS (c : CS) : TS := fun D σ H => ∃ B L h Fz ρ, Now R B L h Fz ρ σ H ∧ SRk R W B Fz ρ H (Ev.ex R.pr O c L h) D
def tSs' (c : CSs) : TS := fun D σ H => ∃ B L h Fz ρ, Now R B L h Fz ρ σ H ∧ SRk R W B Fz ρ H (Ev.exs R.pr O c L h) D
def SS (X : Cx) (st : Stmt) (c : CS) : Prop := PS X st (tS R W O c)
def SSs (X : Cx) (st : List Stmt) (c : CSs) : Prop := PSs X st (tSs' R W O c)
def tGT (t : Ev.TG) : L2.TG := fun v σ H Q => ∃ (x : LV) (B : Bs) (L : Ev.Env) (h : Ev.Hp) (Fz : Addr → Prop) (ρ : List Addr), Now R B L h Fz ρ σ H ∧ Rep R Fz ρ H x v ∧ (match Ev.asgT R.pr O t x L h with
  | .nx L' h' => ∀ σ' H' F' ρ', Now R B L' h' F' ρ' σ' H' → ExtW Fz ρ H F' ρ' H' → Q σ' H'
  | .ex c L' h' => ∀ σ' H' F' ρ', Now R B L' h' F' ρ' σ' H' → ExtW Fz ρ H F' ρ' H' → W (.ref (R.cl c)) none σ' H'
  | _ => False)
def tGTs (ts : Ev.TGs) : L2.TGs := fun vs σ H Q => ∃ (xs : List LV) (B : Bs) (L : Ev.Env) (h : Ev.Hp) (Fz : Addr → Prop) (ρ : List Addr), Now R B L h Fz ρ σ H ∧ Reps R Fz ρ H xs vs ∧ (match Ev.asgTs R.pr O ts xs L h with
  | .nx L' h' => ∀ σ' H' F' ρ', Now R B L' h' F' ρ' σ' H' → ExtW Fz ρ H F' ρ' H' → Q σ' H'
  | .ex c L' h' => ∀ σ' H' F' ρ', Now R B L' h' F' ρ' σ' H' → ExtW Fz ρ H F' ρ' H' → W (.ref (R.cl c)) none σ' H'
  | _ => False)
def SGT (X : Cx) (e : Expr) (t : Ev.TG) : Prop := PG X e (tGT R W O t)
def SGTs (X : Cx) (es : List Expr) (ts : Ev.TGs) : Prop := PGs X es (tGTs R W O ts)
end
section
variable {R : Cn} {X : Cx} {W : WX} {O : Orc} {B : Bs} {σ : L2.St} {Fz Fz' : Addr → Prop} {ρ ρ' : List Addr} {H H' : Hp} {h h' : Ev.Hp} {L L' : Ev.Env} {N : List Str} {sc : Scope}
variable {a b e tg : Expr} {ca cb c : CE} {pos : Pos} {es : List Expr} {cs : CEs}
theorem ps_imp {st : Stmt} {t t' : TS} (p : PS X st t) (i : ∀ D σ H, t' D σ H → t D σ H) : PS X st t' := ⟨fun pins s σ H D I q => p.run pins s σ H D I (i D σ H q)⟩
theorem pss_imp {st : List Stmt} {t t' : TS} (p : PSs X st t) (i : ∀ D σ H, t' D σ H → t D σ H) : PSs X st t' := ⟨fun pins s σ H D I q => p.run pins s σ H D I (i D σ H q)⟩
theorem Now.ext (n : Now R B L h Fz ρ σ H) (C' : Core R Fz' ρ' H' h') (E : Ext Fz ρ H Fz' ρ' H') : Now R B L h' Fz' ρ' σ H' := ⟨C', n.S.mono n.C E, n.E.trans E, n.own⟩
theorem SRk.step (E : ExtW Fz ρ H Fz' ρ' H') {r : SR} {D : Ends} (k : SRk R W B Fz ρ H r D) : SRk R W B Fz' ρ' H' r D := by
  cases r with
  | nx L' h' => exact fun σ2 H2 F2 ρ2 n e => k σ2 H2 F2 ρ2 n (E.trans e)
  | bk L' h' => exact fun σ2 H2 F2 ρ2 n e => k σ2 H2 F2 ρ2 n (E.trans e)
  | ct L' h' => exact fun σ2 H2 F2 ρ2 n e => k σ2 H2 F2 ρ2 n (E.trans e)
  | rt v h' => exact k
  | ex c L' h' => exact fun σ2 H2 F2 ρ2 n e => k σ2 H2 F2 ρ2 n (E.trans e)
  | bad => exact k
theorem Now.exP (n : Now R B L h Fz ρ σ H) {d : Nat} {D : Ends} (k : SRk R W B Fz ρ H (.ex d L h') D) : exP R W σ Fz ρ H h' d := fun H1 F1 ρ1 C1 E1 => k σ H1 F1 ρ1 (n.ext C1 E1) (E1.w n.C)
/-! ### small ones -/
theorem s_pass : SS R W O X (.Pass pos) .pass := ps_imp ps_pass fun D σ H ⟨B, L, h, Fz, ρ, n, r⟩ => by simp only [Ev.ex] at r; exact r σ H Fz ρ n ExtW.refl
theorem s_break : SS R W O X (.Break pos) .brk := ps_imp ps_break fun D σ H ⟨B, L, h, Fz, ρ, n, r⟩ => by simp only [Ev.ex] at r; exact r σ H Fz ρ n ExtW.refl
theorem s_continue : SS R W O X (.Continue pos) .cnt := ps_imp ps_continue fun D σ H ⟨B, L, h, Fz, ρ, n, r⟩ => by simp only [Ev.ex] at r; exact r σ H Fz ρ n ExtW.refl
theorem s_retn : SS R W O X (.Return none pos) .retn := ps_imp ps_retN fun D σ H ⟨B, L, h, Fz, ρ, n, r⟩ => by simp only [Ev.ex] at r; exact r _ H Fz ρ n.C n.E rfl
theorem s_expr (he : SE R W O X e c) (hs : swapsWith e none pos.line X.env = pure false) : SS R W O X (.Expr e pos) (.expr c) := by
  refine ps_imp (ps_expr he hs) fun D σ H ⟨B, L, h, Fz, ρ, n, r⟩ => ⟨L, h, Fz, ρ, n.C, n.S, ?_⟩
  simp only [Ev.ex] at r
  dsimp only
  cases q : Ev.ev R.pr O c L h with
  | bad => simp only [q] at r; exact False.elim r
  | exc d h1 => simp only [q] at r; exact n.exP r
  | ok v h1 => simp only [q] at r; exact fun x H1 F1 ρ1 C1 E1 R1 => r σ H1 F1 ρ1 (n.ext C1 E1) (E1.w n.C)
theorem s_ret (he : SE R W O X e c) : SS R W O X (.Return (some e) pos) (.ret c) := by
  refine ps_imp (ps_ret he) fun D σ H ⟨B, L, h, Fz, ρ, n, r⟩ => ⟨L, h, Fz, ρ, n.C, n.S, ?_⟩
  simp only [Ev.ex] at r
  dsimp only
  cases q : Ev.ev R.pr O c L h with
  | bad => simp only [q] at r; exact False.elim r
  | exc d h1 => simp only [q] at r; exact n.exP r
  | ok v h1 => simp only [q] at r; exact fun x H1 F1 ρ1 C1 E1 R1 => r x H1 F1 ρ1 C1 (n.E.trans E1) R1
theorem s_if {p q : List Stmt} {cp cq : CSs} (hc : ST R W O X e c) (hp : SSs R W O X p cp) (hq : SSs R W O X q cq) : SS R W O X (.If e p q pos) (.ife c cp cq) := by
  refine ps_imp (ps_if hc hp hq) fun D σ H ⟨B, L, h, Fz, ρ, n, r⟩ => ⟨L, h, Fz, ρ, n.C, n.S, ?_⟩
  simp only [Ev.ex] at r
  dsimp only
  cases q : Ev.ev R.pr O c L h with
  | bad => simp only [q] at r; exact False.elim r
  | exc d h1 => simp only [q] at r ⊢; exact n.exP r
  | ok v h1 =>
    simp only [q] at r ⊢
    cases z : (Ev.view v h1).truth with
    | none => simp only [z] at r; exact False.elim r
    | some b =>
      simp only [z] at r ⊢
      intro H1 F1 ρ1 C1 E1
      cases b with
      | true => rw [if_pos rfl]; exact ⟨B, L, h1, F1, ρ1, n.ext C1 E1, SRk.step (E1.w n.C) r⟩
      | false => rw [if_neg Bool.false_ne_true]; exact ⟨B, L, h1, F1, ρ1, n.ext C1 E1, SRk.step (E1.w n.C) r⟩
theorem ss_nil : SSs R W O X [] .nil := pss_imp pss_nil fun D σ H ⟨B, L, h, Fz, ρ, n, r⟩ => by simp only [Ev.exs] at r; exact r σ H Fz ρ n ExtW.refl
theorem ss_cons {st : Stmt} {sts : List Stmt} {s : CS} {ss : CSs} (h1 : SS R W O X st s) (h2 : SSs R W O X sts ss) : SSs R W O X (st :: sts) (.cons s ss) := by
  refine pss_imp (pss_cons h1 h2) fun D σ H ⟨B, L, h, Fz, ρ, n, r⟩ => ⟨B, L, h, Fz, ρ, n, ?_⟩
  simp only [Ev.exs] at r
  cases q : Ev.ex R.pr O s L h with
  | nx L1 h1 => simp only [q] at r; exact fun σ' H' F' ρ' n' e' => ⟨B, L1, h1, F', ρ', n', SRk.step e' r⟩
  | bk L1 h1 => simp only [q] at r; exact r
  | ct L1 h1 => simp only [q] at r; exact r
  | rt v h1 => simp only [q] at r; exact r
  | ex d L1 h1 => simp only [q] at r; exact r
  | bad => simp only [q] at r; exact r
/-! ### targets -/
theorem Now.set (n : Now R B L h Fz ρ σ H) (i : Nat) {v : LV} {x : V} (r : Rep R Fz ρ H v x) : Now R B (L.set i (.val v)) h Fz ρ (σ.set i (some x)) H := by
  refine ⟨n.C, n.S.set i r, n.E, fun j w a e1 e2 => ?_⟩
  have hj : i ≠ j := fun z => by subst z; rw [List.getElem?_set, if_pos rfl] at e1; split at e1 <;> cases e1
  rw [List.getElem?_set_ne hj] at e1 e2
  exact n.own j w a e1 e2
theorem sgt_nm {i : Nat} {x : Str} (hN : X.N.Nodup) (hi : X.N[i]? = some x) (hx : Loc X.env.scope x) (hf : X.fn x = true ∨ X.env.scope.names.lookup x = some .local) : SGT R W O X (.Name x pos) (.nm i) := by
  refine pg_imp (pg_name hN hi hx hf) fun v σ H Q ⟨x, B, L, h, Fz, ρ, n, r, k⟩ => ?_
  simp only [Ev.asgT] at k
  exact k _ H Fz ρ (n.set i r) ExtW.refl
mutual
theorem bindT_own : ∀ (t : Tg) {x : LV} {A A' : Ev.Env} {j : Nat} {v : LV}, Ev.bindT t x A = some A' → A'[j]? = some (.own v) → A[j]? = some (.own v) ∧ j ∉ ixs t
  | .nm i, x, A, A', j, v, e, q => by
    simp only [Ev.bindT] at e
    cases e
    by_cases z : i = j
    · subst z; rw [List.getElem?_set, if_pos rfl] at q; split at q <;> cases q
    · rw [List.getElem?_set_ne z] at q
      exact ⟨q, by rw [ixs, List.mem_singleton]; exact fun y => z y.symm⟩
  | .tup ts, .tup vs, A, A', j, v, e, q => by
    simp only [Ev.bindT] at e
    exact bindTs_own ts e q
  | .tup ts, .lst vs, A, A', j, v, e, q => by
    simp only [Ev.bindT] at e
    exact bindTs_own ts e q
  | .tup ts, .non, _, _, _, _, e, _ => by simp only [Ev.bindT] at e; cases e
  | .tup ts, .bl _, _, _, _, _, e, _ => by simp only [Ev.bindT] at e; cases e
  | .tup ts, .int _, _, _, _, _, e, _ => by simp only [Ev.bindT] at e; cases e
  | .tup ts, .str _, _, _, _, _, e, _ => by simp only [Ev.bindT] at e; cases e
  | .tup ts, .dct _, _, _, _, _, e, _ => by simp only [Ev.bindT] at e; cases e
  | .tup ts, .ref _, _, _, _, _, e, _ => by simp only [Ev.bindT] at e; cases e
  | .tup ts, .clo _, _, _, _, _, e, _ => by simp only [Ev.bindT] at e; cases e
  | .tup ts, .rol _, _, _, _, _, e, _ => by simp only [Ev.bindT] at e; cases e
theorem bindTs_own : ∀ (ts : Tgs) {xs : List LV} {A A' : Ev.Env} {j : Nat} {v : LV}, Ev.bindTs ts xs A = some A' → A'[j]? = some (.own v) → A[j]? = some (.own v) ∧ j ∉ ixss ts
  | .nil, [], A, A', j, v, e, q => by
    simp only [Ev.bindTs] at e
    cases e
    exact ⟨q, by simp [ixss]⟩
  | .nil, _ :: _, _, _, _, _, e, _ => by simp only [Ev.bindTs] at e; cases e
  | .cons t ts, [], _, _, _, _, e, _ => by simp only [Ev.bindTs] at e; cases e
  | .cons t ts, x :: xs, A, A', j, v, e, q => by
    simp only [Ev.bindTs] at e
    cases q1 : Ev.bindT t x A with
    | none => rw [q1] at e; cases e
    | some A1 =>
      rw [q1] at e
      obtain ⟨h1, n1⟩ := bindTs_own ts e q
      obtain ⟨h2, n2⟩ := bindT_own t q1 h1
      exact ⟨h2, by rw [ixss, List.mem_append, not_or]; exact ⟨n2, n1⟩⟩
end
theorem sgt_tup {t : Tg} (s : SG R X e t) : SGT R W O X e (.tup t) := by
  refine pg_imp s fun v σ H Q ⟨x, B, L, h, Fz, ρ, n, r, k⟩ => ?_
  simp only [Ev.asgT] at k
  cases q : Ev.bindT t x L with
  | none => rw [q] at k; exact k.elim
  | some L' =>
    rw [q] at k
    refine ⟨x, Fz, ρ, L, L', r, n.S, q, fun σ' S' sm => k σ' H Fz ρ ⟨n.C, S', n.E, fun j w a e1 e2 => ?_⟩ ExtW.refl⟩
    obtain ⟨f1, f2⟩ := bindT_own t q e1
    rw [sm.2 j f2] at e2
    exact n.own j w a f1 e2
/-- an object of the machine's heap is changed -/
theorem Core.mut (C : Core R Fz ρ H h) {n : Nat} {a : Addr} {o : HO} (hn : ρ[n]? = some a) (e : H a = some o) (pl : plainO o = true) {o' : HO} {ob : LO} (k : Keeps Fz H (upd H a o') → ORep R Fz ρ (upd H a o') ob a) :
    Core R Fz ρ (upd H a o') (h.set n ob) ∧ Ext Fz ρ H Fz ρ (upd H a o') := by
  have m : a ∈ ρ := List.mem_of_getElem? hn
  have nf : ¬ Fz a := fun z => C.fz a z m
  have ks := keeps_upd (o' := o') e pl nf
  have hl : n < h.length := by rw [← C.len]; exact (List.getElem?_eq_some_iff.mp hn).1
  refine ⟨⟨by rw [List.length_set]; exact C.len, C.nd, fun j u b h1 h2 => ?_, C.fz, fun b f => ?_, C.tab.upd e pl⟩, ⟨fun b u q nb _ => ?_, fun b q => ?_, fun _ z => z, fun b z => .inl z, ⟨[], by simp⟩, fun b z => .inl z⟩⟩
  · by_cases z : n = j
    · subst z
      rw [hn] at h2
      cases h2
      rw [List.getElem?_set, if_pos rfl, if_pos hl] at h1
      cases h1
      exact k ks
    · rw [List.getElem?_set_ne z] at h1
      have ne : b ≠ a := fun y => by
        subst y
        obtain ⟨g1, g2⟩ := List.getElem?_eq_some_iff.mp hn
        obtain ⟨g3, g4⟩ := List.getElem?_eq_some_iff.mp h2
        exact z ((List.getElem_inj C.nd).mp (g2.trans g4.symm))
      exact (C.obj j u b h1 h2).gen ks (upd_ne ne)
  · rw [upd_ne (show b ≠ a from fun z => nf (z ▸ f))]
    exact C.fzt b f
  · rw [upd_ne (show b ≠ a from fun z => nb (z ▸ m))]; exact q
  · by_cases z : b = a
    · subst z; rw [upd_same]; simp
    · rw [upd_ne z]; exact q
theorem frep_put (RO : ROk R) {i : Nat} (hi : i < R.na) {v : LV} {y : V} (rv : Rep R Fz ρ H v y) : ∀ {fs : List (Nat × LV)} {es : List (Str × V)}, FRep R Fz ρ H fs es → FRep R Fz ρ H (Ev.putF i v fs) (L2.putF (R.an i) y es)
  | [], _, e => by
    rw [show _ = [] from e]
    exact ⟨y, [], rfl, hi, rv, rfl⟩
  | (j, w) :: r, _, ⟨y2, t, e, l, q, d⟩ => by
    rw [e]
    unfold Ev.putF L2.putF
    by_cases z : i = j
    · subst z
      rw [if_pos rfl, if_pos rfl]
      exact ⟨y, t, rfl, hi, rv, d⟩
    · rw [if_neg z, if_neg (fun q => z (RO.inj j i l hi q).symm)]
      exact ⟨y2, _, rfl, l, q, frep_put RO hi rv d⟩
theorem frep_len : ∀ {fs : List (Nat × LV)} {es : List (Str × V)}, FRep R Fz ρ H fs es → fs.length = es.length
  | [], _, e => by rw [show _ = [] from e]; rfl
  | (j, w) :: r, _, ⟨y2, t, e, l, q, d⟩ => by rw [e, List.length_cons, List.length_cons, frep_len d]
theorem put_attr (RO : ROk R) (C : Core R Fz ρ H h) {n i : Nat} {a : Addr} (hn : ρ[n]? = some a) (hi : i < R.na) {cl : Nat} {fs : List (Nat × LV)} (z : h[n]? = some (.ins cl fs)) (hl : fs.length < 900) {v : LV} {y : V} (rv : Rep R Fz ρ H v y) :
    ∃ dx es, H a = some (.ins (R.cl cl) dx es) ∧ R.ic cl = true ∧ es.length < 1000 ∧ Core R Fz ρ (upd H a (.ins (R.cl cl) dx (L2.putF (R.an i) y es))) (h.set n (.ins cl (Ev.putF i v fs))) ∧ Ext Fz ρ H Fz ρ (upd H a (.ins (R.cl cl) dx (L2.putF (R.an i) y es))) := by
  obtain ⟨dx, es, e1, lc, fr⟩ := C.obj n _ a z hn
  have := frep_len fr
  obtain ⟨C', E'⟩ := C.mut (o' := .ins (R.cl cl) dx (L2.putF (R.an i) y es)) (ob := .ins cl (Ev.putF i v fs)) hn e1 rfl fun ks => ⟨dx, _, upd_same, lc, frep_put RO hi (Rep.gen ks v rv) (fr.gen ks)⟩
  exact ⟨dx, es, e1, lc, by omega, C', E'⟩
theorem sgt_attr {i : Nat} {x : Str} (RO : ROk R) (ok : XOk R X W N sc) (he : SE R W O X e c) (hi : i < R.na) (hx : x = R.an i) : SGT R W O X (.Attribute e x pos) (.attr c i) := by
  subst hx
  refine ⟨fun pins s σ H v u Q I r ⟨x, B, L, h, Fz, ρ, n, rx, k⟩ => ?_⟩
  show wpAny _ _ (do
    let ov ← holding [u] (eval e X.env)
    standAt pos.atName
    holding [u, ov] (setAttr ov (R.an i) u)
    release [u, ov] []) _ _ s
  simp only [Ev.asgT] at k
  have t : tE R W O c σ H (fun y H1 => ∃ a Ca dx es, y = .ref a ∧ H1 a = some (.ins Ca dx es) ∧ Cls X.K Ca ∧ NoAttr X.K Ca (R.an i) ∧ es.length < 1000 ∧ Q σ (upd H1 a (.ins Ca dx (L2.putF (R.an i) v es)))) := by
    refine ⟨L, h, Fz, ρ, n.C, n.S, ?_⟩
    dsimp only
    cases q : Ev.ev R.pr O c L h with
    | bad => simp only [q] at k
    | exc d h1 => simp only [q] at k; exact fun H1 F1 ρ1 C1 E1 => k σ H1 F1 ρ1 (n.ext C1 E1) (E1.w n.C)
    | ok w h1 =>
      simp only [q] at k
      intro y H1 F1 ρ1 C1 E1 R1
      cases w with
      | ref m =>
        simp only at k
        obtain ⟨a, rfl, hn⟩ := R1
        cases z : h1[m]? with
        | none => simp only [z] at k
        | some ob =>
          cases ob with
          | lst _ => simp only [z] at k
          | dct _ => simp only [z] at k
          | ins cl fs =>
            simp only [z] at k
            by_cases hl : fs.length < 900
            · rw [if_pos hl] at k
              obtain ⟨dx, es, e1, lc, le, C', E'⟩ := put_attr RO C1 hn hi z hl (Rep.mono n.C E1 x rx)
              exact ⟨a, R.cl cl, dx, es, rfl, e1, by rw [ok.K]; exact RO.cls cl lc, by rw [ok.K]; exact RO.noa cl i lc hi, le, k σ _ F1 ρ1 (n.ext C' (E1.trans E')) ((E1.trans E').w n.C)⟩
            · rw [if_neg hl] at k
              exact k.elim
      | _ => exact False.elim k
  refine wpAny_bind (wpAny_holding (thn (he.run pins s σ H _ I t) fun ov s2 ⟨y, H2, I2, r2, a, Ca, dx, es, ey, ea, cl, na, le, q2⟩ => ?_))
  subst ey
  obtain rfl : ov = Value.ref a := r2
  refine wpAny_bind (wpAny_standAt (wpAny_bind (wpAny_holding (setattr_ok I2 ea cl na le r fun s3 I3 => ?_))))
  exact wpAny_release ⟨σ, _, I3, q2⟩
end
end Sd
end
section
set_option maxRecDepth 100000
set_option maxHeartbeats 2000000
/-! statements: stores, loops, raise -/
namespace Sd
open PySem PySem.Spec PyProof.Rows L2
open Ev (LV LO CE CEs Src Tg Tgs CKs CS CSs Prg Orc Slot SR)
section
variable {R : Cn} {X : Cx} {W : WX} {O : Orc} {B : Bs} {σ : L2.St} {Fz Fz' : Addr → Prop} {ρ ρ' : List Addr} {H H' : Hp} {h h' : Ev.Hp} {L L' : Ev.Env} {N : List Str} {sc : Scope}
variable {a b e tg : Expr} {ca cb c : CE} {pos : Pos} {es : List Expr} {cs : CEs}
theorem asgT_shape (P : Prg) (O : Orc) (t : Ev.TG) (v : LV) (L : Ev.Env) (h : Ev.Hp) : (∃ L' h', Ev.asgT P O t v L h = .nx L' h') ∨ (∃ c L' h', Ev.asgT P O t v L h = .ex c L' h') ∨ Ev.asgT P O t v L h = .bad := by
  unfold Ev.asgT
  repeat' split
  all_goals first
    | exact .inl ⟨_, _, rfl⟩
    | exact .inr (.inl ⟨_, _, _, rfl⟩)
    | exact .inr (.inr rfl)
theorem tGT_of {t : Ev.TG} {v : LV} {x : V} {D : Ends} (n : Now R B L h Fz ρ σ H) (r : Rep R Fz ρ H v x) (k : SRk R W B Fz ρ H (Ev.asgT R.pr O t v L h) D) : tGT R W O t x σ H D.nx := by
  refine ⟨v, B, L, h, Fz, ρ, n, r, ?_⟩
  rcases asgT_shape R.pr O t v L h with ⟨L', h', e⟩ | ⟨c, L', h', e⟩ | e
  · rw [e] at k ⊢; exact k
  · rw [e] at k ⊢; exact k
  · rw [e] at k; exact False.elim k
/-! ### o[i] = .. -/
theorem Reps.set : ∀ {xs : List LV} {vs : List V} (i : Nat) {v : LV} {x : V}, Reps R Fz ρ H xs vs → Rep R Fz ρ H v x → Reps R Fz ρ H (xs.set i v) (vs.set i x)
  | [], _, i, v, x, e, _ => by rw [show _ = [] from e]; rfl
  | y :: ys, _, 0, v, x, ⟨w, r, e, a, t⟩, q => by rw [e]; exact ⟨x, r, rfl, q, t⟩
  | y :: ys, _, i + 1, v, x, ⟨w, r, e, a, t⟩, q => by rw [e]; exact ⟨w, _, rfl, a, Reps.set i t q⟩
abbrev rSet2 : TSet := fun o i v H Q => rSetL o i v H Q ∨ ∃ a H', o = .ref a ∧ DPut H a i v H' ∧ Q H'
theorem set2 (hu : X.A.units + 1 < cLine) : PSet X rSet2 := by
  intro pins s σ H o i v ov iv u Q I ro ri rv h
  rcases h with h | ⟨a, H2, rfl, g, q⟩
  · exact set_list pins s σ H o i v ov iv u Q I ro ri rv h
  · cases ro
    exact d_setItem hu I g ri rv fun s2 I2 => ⟨H2, I2, q⟩
theorem sgt_idx {i : Expr} {co ci : CE} (ok : XOk R X W N sc) (ho : SE R W O X e co) (hi : SE R W O X i ci)
    (ha : ∀ v, assign (.Subscript e i pos) X.env v = (do
      let ov ← holding [v] (eval e X.env)
      let iv ← holding [v, ov] (eval i X.env)
      standAt pos
      holding [v, ov, iv] (setItem ov iv v)
      release [v, ov, iv] [])) : SGT R W O X (.Subscript e i pos) (.idx co ci) := by
  refine pg_imp (pg_sub ho hi (set2 (by have := ok.un; omega)) ha) fun v σ H Q ⟨x, B, L, h, Fz, ρ, n, rx, k⟩ => ⟨L, h, Fz, ρ, n.C, n.S, ?_⟩
  simp only [Ev.asgT] at k
  dsimp only
  cases q : Ev.ev R.pr O co L h with
  | bad => simp only [q] at k
  | exc d h1 => simp only [q] at k; exact fun H1 F1 ρ1 C1 E1 => k σ H1 F1 ρ1 (n.ext C1 E1) (E1.w n.C)
  | ok w h1 =>
    simp only [q] at k
    intro y H1 F1 ρ1 C1 E1 R1
    cases w with
    | ref m =>
      simp only at k
      obtain ⟨a, rfl, hn⟩ := R1
      refine ⟨L, h1, F1, ρ1, C1, n.S.mono n.C E1, ?_⟩
      dsimp only
      cases q2 : Ev.ev R.pr O ci L h1 with
      | bad => simp only [q2] at k
      | exc d h2 => simp only [q2] at k; exact fun H2 F2 ρ2 C2 E2 => k σ H2 F2 ρ2 (n.ext C2 (E1.trans E2)) ((E1.trans E2).w n.C)
      | ok kv h2 =>
        simp only [q2] at k
        intro z H2 F2 ρ2 C2 E2 R2
        obtain ⟨_, e0, hn2⟩ := Rep.mono C1 E2 (.ref m) (x := .ref a) ⟨a, rfl, hn⟩
        cases e0
        have E := E1.trans E2
        have rx2 := Rep.mono n.C E x rx
        cases z2 : h2[m]? with
        | none => simp only [z2] at k
        | some ob =>
          simp only [z2] at k
          have obj := C2.obj m ob a z2 hn2
          cases ob with
          | ins cl fs => simp only [Ev.ofLO, Ev.setv] at k
          | lst xs =>
            obtain ⟨vs, e1, t⟩ := obj
            cases kv <;> first | (simp only [Ev.ofLO, Ev.setv] at k; done) | skip
            rename_i j
            cases R2
            simp only [Ev.ofLO, Ev.setv] at k
            cases z3 : Ev.natOf j xs.length with
            | none => rw [z3] at k; simp only [Option.map_none] at k
            | some p =>
              rw [z3] at k
              simp only [Option.map_some, Ev.toLO] at k
              obtain ⟨C', E'⟩ := C2.mut (o' := .lst (vs.set p v)) (ob := .lst (xs.set p x)) hn2 e1 rfl fun ks => ⟨_, upd_same, (Reps.gen ks xs t).set p (Rep.gen ks x rx2)⟩
              refine .inl ⟨a, vs, j, p, rfl, rfl, e1, by rw [← natOf_ixN, ← t.length]; exact z3, k σ _ F2 ρ2 (n.ext C' (E.trans E')) ((E.trans E').w n.C)⟩
          | dct kvs =>
            obtain ⟨es, e1, t⟩ := obj
            simp only [Ev.ofLO, Ev.setv] at k
            by_cases z3 : (Ev.okKey kv kvs && decide (kvs.length < Ev.SL)) = true
            · rw [if_pos z3] at k
              rw [Bool.and_eq_true, decide_eq_true_eq] at z3
              simp only [Ev.toLO] at k
              obtain ⟨qk, hq⟩ := flat_keyF z3.1
              obtain ⟨C', E'⟩ := C2.mut (o' := .dK (putK es qk v)) (ob := .dct (Ev.dput kv x kvs)) hn2 e1 rfl fun ks => ⟨_, upd_same, repK_put hq (rep_okS R2) (Rep.gen ks x rx2) (RepK.gen ks kvs t)⟩
              exact .inr ⟨a, _, rfl, .inl ⟨es, qk, e1, keyF_kV R2 hq, by rw [← t.length, ← SL_eq]; exact z3.2, rfl⟩, k σ _ F2 ρ2 (n.ext C' (E.trans E')) ((E.trans E').w n.C)⟩
            · rw [if_neg z3] at k
              exact k.elim
    | _ => exact False.elim k
/-! ### = -/
theorem s_asg {t : Ev.TG} (he : SE R W O X e c) (hg : SGT R W O X tg t) (hs : swapsWithSole [tg] e pos.line X.env = pure false) (hw : swappedStores [tg] e X.env = pure none) (h1 : (assignEach [tg] X.env).map (·.2) = [assign tg X.env]) : SS R W O X (.Assign [tg] e pos) (.asg t c) := by
  refine ps_imp (ps_asg he hg hs hw h1) fun D σ H ⟨B, L, h, Fz, ρ, n, r⟩ => ⟨L, h, Fz, ρ, n.C, n.S, ?_⟩
  simp only [Ev.ex] at r
  dsimp only
  cases q : Ev.ev R.pr O c L h with
  | bad => simp only [q] at r; exact False.elim r
  | exc d h1 => simp only [q] at r; exact n.exP r
  | ok v h1 => simp only [q] at r; exact fun x H1 F1 ρ1 C1 E1 R1 => tGT_of (n.ext C1 E1) R1 (SRk.step (E1.w n.C) r)
theorem asgn_imp {i : Nat} {D : Ends} (t : tS R W O (.asg (.nm i) c) D σ H) : tAsg (tE R W O c) (gName i) D σ H := by
  obtain ⟨B, L, h, Fz, ρ, n, r⟩ := t
  refine ⟨L, h, Fz, ρ, n.C, n.S, ?_⟩
  simp only [Ev.ex] at r
  dsimp only
  cases q : Ev.ev R.pr O c L h with
  | bad => simp only [q] at r; exact False.elim r
  | exc d h1 => simp only [q] at r; exact n.exP r
  | ok v h1 =>
    simp only [q, Ev.asgT] at r
    exact fun x H1 F1 ρ1 C1 E1 R1 => r _ H1 F1 ρ1 ((n.ext C1 E1).set i R1) (E1.w n.C)
theorem Now.setOwn (n : Now R B L h Fz ρ σ H) (C' : Core R Fz' ρ' H' h') (E : Ext Fz ρ H Fz' ρ' H') (i : Nat) {v : LV} {a : Addr} (ct : Cont R Fz' ρ' H' v a) (nf : ¬ Fz' a) (nr : a ∉ ρ') (n0 : H a = none) : Now R B (L.set i (.own v)) h' Fz' ρ' (σ.set i (some (.ref a))) H' := by
  have S' := n.S.mono n.C E
  refine ⟨C', ⟨by rw [List.length_set, List.length_set]; exact S'.len, fun j w e => ?_, fun j w e => ?_, fun j k v1 v2 b ne e1 e2 e3 => ?_, fun j ks e => ?_⟩, n.E.trans E, fun j w b e1 e2 => ?_⟩
  · have hj : i ≠ j := fun z => by subst z; rw [List.getElem?_set, if_pos rfl] at e; split at e <;> cases e
    rw [List.getElem?_set_ne hj] at e
    obtain ⟨y, e1, r1⟩ := S'.val j w e
    exact ⟨y, by rw [List.getElem?_set_ne hj]; exact e1, r1⟩
  · by_cases z : i = j
    · subst z
      rw [List.getElem?_set, if_pos rfl] at e
      split at e
      · rename_i hl
        cases e
        exact ⟨a, by rw [List.getElem?_set, if_pos rfl, if_pos (by rw [← S'.len]; exact hl)], ct, nf, nr⟩
      · cases e
    · rw [List.getElem?_set_ne z] at e
      obtain ⟨y, e1, r1⟩ := S'.own j w e
      exact ⟨y, by rw [List.getElem?_set_ne z]; exact e1, r1⟩
  · have alive : ∀ (k : Nat) (v : LV) (b : Addr), L[k]? = some (Slot.own v) → σ[k]? = some (some (V.ref b)) → b ≠ a := fun k v b f1 f2 z => by
      obtain ⟨y, g1, g2, _⟩ := n.S.own k v f1
      rw [f2] at g1
      cases g1
      exact g2.some (z ▸ n0)
    by_cases z : i = j
    · subst z
      rw [List.getElem?_set, if_pos rfl] at e3
      split at e3
      · cases e3
        rw [List.getElem?_set_ne ne] at e2 ⊢
        exact fun g => alive k v2 a e2 g rfl
      · cases e3
    · rw [List.getElem?_set_ne z] at e1 e3
      by_cases z2 : i = k
      · subst z2
        rw [List.getElem?_set, if_pos rfl]
        split
        · intro g
          cases g
          exact alive j v1 a e1 e3 rfl
        · simp
      · rw [List.getElem?_set_ne z2] at e2 ⊢
        exact S'.sep j k v1 v2 b ne e1 e2 e3
  · have hj : i ≠ j := fun z => by subst z; rw [List.getElem?_set, if_pos rfl] at e; split at e <;> cases e
    rw [List.getElem?_set_ne hj] at e
    obtain ⟨h1, a', fs, h2, h3⟩ := S'.lam j ks e
    exact ⟨h1, a', fs, by rw [List.getElem?_set_ne hj]; exact h2, h3⟩
  · by_cases z : i = j
    · subst z
      rw [List.getElem?_set, if_pos rfl] at e2
      split at e2
      · cases e2
        exact n.E.none n0
      · cases e2
    · rw [List.getElem?_set_ne z] at e1 e2
      exact n.own j w b e1 e2
theorem asgo_imp {i : Nat} {D : Ends} (t : tS R W O (.asgo i c) D σ H) : tAsg (tF R W O c) (gName i) D σ H := by
  obtain ⟨B, L, h, Fz, ρ, n, r⟩ := t
  refine ⟨L, h, Fz, ρ, n.C, n.S, ?_⟩
  simp only [Ev.ex] at r
  dsimp only
  cases q : Ev.ev R.pr O c L h with
  | bad => simp only [q] at r; exact False.elim r
  | exc d h1 => simp only [q] at r; exact n.exP r
  | ok v h1 =>
    simp only [q] at r
    intro x H1 F1 ρ1 C1 E1 R1
    cases v with
    | lst xs =>
      obtain ⟨a, rfl, ct, nf, nr, n0⟩ := R1
      exact r _ H1 F1 ρ1 (n.setOwn C1 E1 i ct nf nr n0) (E1.w n.C)
    | dct xs =>
      obtain ⟨a, rfl, ct, nf, nr, n0⟩ := R1
      exact r _ H1 F1 ρ1 (n.setOwn C1 E1 i ct nf nr n0) (E1.w n.C)
    | _ => exact False.elim r
/-- a lambda's text -/
structure LamT (sc : Scope) (m : LmI) : Prop where
  nodef : ∀ env, defaultsOf m.params env = ([], [])
  shape : LamX.LamS sc m.scope
  bind : ∀ (q : Str) (cl : List (Str × Addr)) (pm cv ctv : Value), bindArgs (PySem.W.kla_fn "<lambda>" q m.params m.body m.scope cl pm cv ctv) ⟨[], []⟩ = pure []
/-- where lambdas are made -/
structure XL0 (R : Cn) (X : Cx) : Prop where
  lk : R.lk = true
  lq : R.lq = X.env.qual ++ "<lambda>"
  lc : R.lc = X.env.cells
  own : ∃ c P, X.env.code = .ref c ∧ (c, P) ∈ R.cs ∧ (P, R.lq) ∈ R.tl ∧ ∀ p ∈ R.tl, p.1 = P → p.2 = R.lq
  lt : ∀ i m, R.lo i m → LamT X.env.scope m
structure XS (R : Cn) (X : Cx) (W : WX) (N : List Str) (sc : Scope) : Prop extends XOk R X W N sc where
  pass : PassesOwn (model X.prog X.w) X.A X.env X.xe
  fn : X.fn = fun _ => true
  xl : R.lk = true → XL0 R X
theorem s_asgn {i : Nat} {x : Str} {p : Pos} (ok : XS R X W N sc) (hi : N[i]? = some x) (hx : Loc sc x) (he : SE R W O X e c) (hs : swapsWith e (some (.Name x p)) pos.line X.env = pure false) : SS R W O X (.Assign [.Name x p] e pos) (.asg (.nm i) c) :=
  ps_imp (ps_set (by rw [ok.nm]; exact ok.nd) (by rw [ok.nm]; exact hi) (by rw [ok.sc]; exact hx) he hs (.inl (by rw [ok.fn]))) fun D σ H t => asgn_imp t
theorem s_asgo {i : Nat} {x : Str} {p : Pos} (ok : XS R X W N sc) (hi : N[i]? = some x) (hx : Loc sc x) (he : SF R W O X e c) (hs : swapsWith e (some (.Name x p)) pos.line X.env = pure false) : SS R W O X (.Assign [.Name x p] e pos) (.asgo i c) :=
  ps_imp (ps_set (by rw [ok.nm]; exact ok.nd) (by rw [ok.nm]; exact hi) (by rw [ok.sc]; exact hx) he hs (.inl (by rw [ok.fn]))) fun D σ H t => asgo_imp t
/-! ### a, b = x, y -/
theorem evs2 {P : Prg} {c1 c2 : CE} {vs : List LV} (q : Ev.evs P O (.cons c1 (.cons c2 .nil)) L h = .ok vs h') : ∃ v w, vs = [v, w] := by
  have := evs_len q
  match vs, this with
  | [v, w], _ => exact ⟨v, w, rfl⟩
theorem evs3 {P : Prg} {c1 c2 c3 : CE} {vs : List LV} (q : Ev.evs P O (.cons c1 (.cons c2 (.cons c3 .nil))) L h = .ok vs h') : ∃ v w u, vs = [v, w, u] := by
  have := evs_len q
  match vs, this with
  | [v, w, u], _ => exact ⟨v, w, u, rfl⟩
theorem s_par2 {i j : Nat} {x y : Str} {px py pt : Pos} {kt k2 pt2} (ok : XS R X W N sc) (hi : N[i]? = some x) (hj : N[j]? = some y) (hij : i ≠ j) (hx : sc.names.lookup x = some .local) (hy : sc.names.lookup y = some .local) (ha : SEs R W O X [a, b] (.cons ca (.cons cb .nil)))
    (hw : swappedStores [.Tuple [.Name x px, .Name y py] kt pt] (.Tuple [a, b] k2 pt2) X.env = pure (some [x, y])) (hs : swapsWithSole [.Tuple [.Name x px, .Name y py] kt pt] (.Tuple [a, b] k2 pt2) pos.line X.env = pure false) :
    SS R W O X (.Assign [.Tuple [.Name x px, .Name y py] kt pt] (.Tuple [a, b] k2 pt2) pos) (.par (.cons (.nm i) (.cons (.nm j) .nil)) (.cons ca (.cons cb .nil))) := by
  refine ps_imp (ps_par ok.calm (by rw [ok.nm]; exact ok.nd) (by rw [ok.nm]; exact hi) (by rw [ok.nm]; exact hj) hij (by rw [ok.sc]; exact hx) (by rw [ok.sc]; exact hy) ha hw hs) fun D σ H ⟨B, L, h, Fz, ρ, n, r⟩ => ?_
  simp only [Ev.ex] at r
  refine oneS_of _ n.C n.S ?_
  cases q : Ev.evs R.pr O (.cons ca (.cons cb .nil)) L h with
  | bad => simp only [q] at r; exact False.elim r
  | exc d h1 => simp only [q] at r; exact n.exP r
  | ok vs h1 =>
    obtain ⟨v, w, rfl⟩ := evs2 q
    simp only [q, Ev.asgTs, Ev.asgT] at r
    intro xs H1 F1 ρ1 C1 E1 ⟨x1, t1, e1, r1, x2, t2, e2, r2, e3⟩
    subst e1 e2
    rw [show t2 = [] from e3]
    exact ⟨x1, x2, rfl, r _ H1 F1 ρ1 (((n.ext C1 E1).set i r1).set j r2) (E1.w n.C)⟩
theorem s_par3 {c3 : CE} {d : Expr} {i j l : Nat} {x y z : Str} {px py pz pt : Pos} {kt k2 pt2} (ok : XS R X W N sc) (hi : N[i]? = some x) (hj : N[j]? = some y) (hl : N[l]? = some z) (hij : i ≠ j) (hil : i ≠ l) (hjl : j ≠ l) (hx : sc.names.lookup x = some .local) (hy : sc.names.lookup y = some .local) (hz : sc.names.lookup z = some .local) (ha : SEs R W O X [a, b, d] (.cons ca (.cons cb (.cons c3 .nil))))
    (hw : swappedStores [.Tuple [.Name x px, .Name y py, .Name z pz] kt pt] (.Tuple [a, b, d] k2 pt2) X.env = pure (some [x, y, z])) (hs : swapsWithSole [.Tuple [.Name x px, .Name y py, .Name z pz] kt pt] (.Tuple [a, b, d] k2 pt2) pos.line X.env = pure false) :
    SS R W O X (.Assign [.Tuple [.Name x px, .Name y py, .Name z pz] kt pt] (.Tuple [a, b, d] k2 pt2) pos) (.par (.cons (.nm i) (.cons (.nm j) (.cons (.nm l) .nil))) (.cons ca (.cons cb (.cons c3 .nil)))) := by
  refine ps_imp (ps_par3 ok.calm (by rw [ok.nm]; exact ok.nd) (by rw [ok.nm]; exact hi) (by rw [ok.nm]; exact hj) (by rw [ok.nm]; exact hl) hij hil hjl (by rw [ok.sc]; exact hx) (by rw [ok.sc]; exact hy) (by rw [ok.sc]; exact hz) ha hw hs) fun D σ H ⟨B, L, h, Fz, ρ, n, r⟩ => ?_
  simp only [Ev.ex] at r
  refine oneS_of _ n.C n.S ?_
  cases q : Ev.evs R.pr O (.cons ca (.cons cb (.cons c3 .nil))) L h with
  | bad => simp only [q] at r; exact False.elim r
  | exc d h1 => simp only [q] at r; exact n.exP r
  | ok vs h1 =>
    obtain ⟨v, w, u, rfl⟩ := evs3 q
    simp only [q, Ev.asgTs, Ev.asgT] at r
    intro xs H1 F1 ρ1 C1 E1 ⟨x1, t1, e1, r1, x2, t2, e2, r2, x3, t3, e3, r3, e4⟩
    subst e1 e2 e3
    rw [show t3 = [] from e4]
    exact ⟨x1, x2, x3, rfl, r _ H1 F1 ρ1 ((((n.ext C1 E1).set i r1).set j r2).set l r3) (E1.w n.C)⟩
end
end Sd
end
section
set_option maxRecDepth 100000
set_option maxHeartbeats 2000000
/-! statements: comprehensions stored, tuples of targets, op=, loops, raise -/
namespace Sd
open PySem PySem.Spec PyProof.Rows L2
open Ev (LV LO CE CEs Src Tg Tgs CKs CS CSs Prg Orc Slot SR)
section
variable {R : Cn} {X : Cx} {W : WX} {O : Orc} {B : Bs} {σ : L2.St} {Fz Fz' : Addr → Prop} {ρ ρ' : List Addr} {H H' : Hp} {h h' : Ev.Hp} {L L' : Ev.Env} {N : List Str} {sc : Scope}
variable {a b e tg : Expr} {ca cb c : CE} {pos : Pos} {es : List Expr} {cs : CEs}
theorem tE_tF {Q : VK} (t : tE R W O c σ H Q) : tF R W O c σ H Q := by
  obtain ⟨L, h, Fz, ρ, C, S, r⟩ := t
  exact ⟨L, h, Fz, ρ, C, S, RS.toF r⟩
section
variable {iter elt : Expr} {ifs : List Expr} {scope : Scope} {own : List (Str × Nat)} {s : Src} {t : Tg} {ts : CEs} {ce : CE} {i : Nat} {x : Str} {p lp : Pos}
/-- what a comprehension's block must be -/
structure LcOk (R : Cn) (W : WX) (O : Orc) (X : Cx) (tg iter elt : Expr) (ifs : List Expr) (scope : Scope) (own : List (Str × Nat)) (s : Src) (t : Tg) (ts : CEs) (ce : CE) : Prop where
  hi : SI R W O X tg iter s
  bo : BlkOk X.N X.env.scope scope own
  hg : ∀ (s : Shared) (H : Hp) (C : Addr) (cl : List (Str × Addr)) (fp : List Addr), SG R (X.blk s H scope (compEnvC scope cl C X.env) fp) tg t
  ht : ∀ (s : Shared) (H : Hp) (C : Addr) (cl : List (Str × Addr)) (fp : List Addr), STs R W0 O (X.blk s H scope (compEnvC scope cl C X.env) fp) ifs ts
  he : ∀ (s : Shared) (H : Hp) (C : Addr) (cl : List (Str × Addr)) (fp : List Addr), SE R W0 O (X.blk s H scope (compEnvC scope cl C X.env) fp) elt ce
  o1 : ∀ j ∈ own.map (·.2), j ∈ ixs t
  o2 : ∀ j ∈ ixs t, j ∈ own.map (·.2)
  hs : ∀ x, foldedSetIterable iter X.env x = pure x
theorem LcOk.sf (k : LcOk R W O X tg iter elt ifs scope own s t ts ce) (ok : XOk R X W N sc) : SF R W O X (.ListComp elt [⟨tg, iter, ifs, 0⟩] scope lp) (.comp ce t ts s) := sf_lc ok k.hi k.bo k.hg k.ht k.he k.o1 k.o2 k.hs
theorem s_asgLc (k : LcOk R W O X tg iter elt ifs scope own s t ts ce) (ok : XS R X W N sc) (hi : N[i]? = some x) (hx : sc.names.lookup x = some .local) (hsw : swapsWith (.ListComp elt [⟨tg, iter, ifs, 0⟩] scope lp) (some (.Name x p)) pos.line X.env = pure true) :
    SS R W O X (.Assign [.Name x p] (.ListComp elt [⟨tg, iter, ifs, 0⟩] scope lp) pos) (.asg (.nm i) (.comp ce t ts s)) := by
  have hN : X.N.Nodup := by rw [ok.nm]; exact ok.nd
  refine ps_imp (ps_setLc ok.calm hN (by rw [ok.nm]; exact hi) (by rw [ok.sc]; exact hx) hsw k.hi k.bo k.hg k.ht k.he k.hs) fun D σ H t0 => ?_
  exact lc_imp k.o1 k.o2 (tE_tF (asgn_imp t0))
theorem s_asgoLc (k : LcOk R W O X tg iter elt ifs scope own s t ts ce) (ok : XS R X W N sc) (hi : N[i]? = some x) (hx : sc.names.lookup x = some .local) (hsw : swapsWith (.ListComp elt [⟨tg, iter, ifs, 0⟩] scope lp) (some (.Name x p)) pos.line X.env = pure true) :
    SS R W O X (.Assign [.Name x p] (.ListComp elt [⟨tg, iter, ifs, 0⟩] scope lp) pos) (.asgo i (.comp ce t ts s)) := by
  have hN : X.N.Nodup := by rw [ok.nm]; exact ok.nd
  refine ps_imp (ps_setLc ok.calm hN (by rw [ok.nm]; exact hi) (by rw [ok.sc]; exact hx) hsw k.hi k.bo k.hg k.ht k.he k.hs) fun D σ H t0 => ?_
  exact lc_imp k.o1 k.o2 (asgo_imp t0)
end
/-! ### (a, o.b, ..) = x, y, .. made as a tuple -/
theorem asgTs_shape (P : Prg) (O : Orc) : ∀ (ts : Ev.TGs) (vs : List LV) (L : Ev.Env) (h : Ev.Hp), (∃ L' h', Ev.asgTs P O ts vs L h = .nx L' h') ∨ (∃ c L' h', Ev.asgTs P O ts vs L h = .ex c L' h') ∨ Ev.asgTs P O ts vs L h = .bad
  | .nil, [], L, h => .inl ⟨L, h, by simp only [Ev.asgTs]⟩
  | .nil, _ :: _, L, h => .inr (.inr (by simp only [Ev.asgTs]))
  | .cons t ts, [], L, h => .inr (.inr (by simp only [Ev.asgTs]))
  | .cons t ts, v :: vs, L, h => by
    simp only [Ev.asgTs]
    rcases asgT_shape P O t v L h with ⟨L', h', e⟩ | ⟨c, L', h', e⟩ | e
    · rw [e]; exact asgTs_shape P O ts vs L' h'
    · rw [e]; exact .inr (.inl ⟨c, L', h', rfl⟩)
    · rw [e]; exact .inr (.inr rfl)
theorem tGTs_of {t : Ev.TGs} {v : List LV} {x : List V} {D : Ends} (n : Now R B L h Fz ρ σ H) (r : Reps R Fz ρ H v x) (k : SRk R W B Fz ρ H (Ev.asgTs R.pr O t v L h) D) : tGTs R W O t x σ H D.nx := by
  refine ⟨v, B, L, h, Fz, ρ, n, r, ?_⟩
  rcases asgTs_shape R.pr O t v L h with ⟨L', h', e⟩ | ⟨c, L', h', e⟩ | e
  · rw [e] at k ⊢; exact k
  · rw [e] at k ⊢; exact k
  · rw [e] at k; exact False.elim k
theorem sgts_nil : SGTs R W O X [] .nil := by
  refine pgs_imp pgs_nil fun vs σ H Q ⟨xs, B, L, h, Fz, ρ, n, r, k⟩ => ?_
  cases xs with
  | nil => simp only [Ev.asgTs] at k; exact ⟨r, k σ H Fz ρ n ExtW.refl⟩
  | cons _ _ => simp only [Ev.asgTs] at k
theorem sgts_cons {t : Ev.TG} {ts : Ev.TGs} (h1 : SGT R W O X e t) (h2 : SGTs R W O X es ts) (hs : (assignEach (e :: es) X.env).map (·.2) = assign e X.env :: (assignEach es X.env).map (·.2)) : SGTs R W O X (e :: es) (.cons t ts) := by
  refine pgs_imp (pgs_cons h1 h2 hs) fun vs σ H Q ⟨xs, B, L, h, Fz, ρ, n, r, k⟩ => ?_
  cases xs with
  | nil => simp only [Ev.asgTs] at k
  | cons x xs =>
    obtain ⟨v, vr, e1, rx, rr⟩ := r
    simp only [Ev.asgTs] at k
    refine ⟨v, vr, e1, x, B, L, h, Fz, ρ, n, rx, ?_⟩
    rcases asgT_shape R.pr O t x L h with ⟨L', h', e⟩ | ⟨c, L', h', e⟩ | e
    · rw [e] at k ⊢
      intro σ1 H1 F1 ρ1 n1 e1
      refine ⟨xs, B, L', h', F1, ρ1, n1, rr.w e1, ?_⟩
      rcases asgTs_shape R.pr O ts xs L' h' with ⟨L2, h2, q⟩ | ⟨c, L2, h2, q⟩ | q
      · simp only [q] at k ⊢; exact fun σ2 H2 F2 ρ2 n2 e2 => k σ2 H2 F2 ρ2 n2 (e1.trans e2)
      · simp only [q] at k ⊢; exact fun σ2 H2 F2 ρ2 n2 e2 => k σ2 H2 F2 ρ2 n2 (e1.trans e2)
      · simp only [q] at k
    · rw [e] at k ⊢; exact k
    · rw [e] at k; exact k.elim
theorem s_parT {es ts' : List Expr} {kt k2 : Nat} {pt pt2 : Pos} {ts : Ev.TGs} {n : Nat} (ok : XS R X W N sc) (ha : SEs R W O X es cs) (hg : SGTs R W O X ts' ts) (hl : clen cs = n) (hz : n ≤ Ev.SL) (hn : (assignEach ts' X.env).length = n) (hst : (assignEach ts' X.env).findIdx? (·.1) = none)
    (hs : swapsWithSole [.Tuple ts' kt pt] (.Tuple es k2 pt2) pos.line X.env = pure false) (hw : swappedStores [.Tuple ts' kt pt] (.Tuple es k2 pt2) X.env = pure none) (h1 : (assignEach [.Tuple ts' kt pt] X.env).map (·.2) = [assign (.Tuple ts' kt pt) X.env]) :
    SS R W O X (.Assign [.Tuple ts' kt pt] (.Tuple es k2 pt2) pos) (.par ts cs) := by
  refine ps_imp (ps_asg (pe_tup ha) (pg_tup ok.calm hg hn hst) hs hw h1) fun D σ H ⟨B, L, h, Fz, ρ, nw, r⟩ => ?_
  simp only [Ev.ex] at r
  refine oneS_of cs nw.C nw.S ?_
  cases q : Ev.evs R.pr O cs L h with
  | bad => simp only [q] at r; exact False.elim r
  | exc d h1 => simp only [q] at r; exact nw.exP r
  | ok vs h1 =>
    simp only [q] at r
    intro xs H1 F1 ρ1 C1 E1 R1
    have hlen : xs.length = n := by rw [← R1.length, evs_len q, hl]
    refine ⟨reps_le R1 (by rw [evs_len q, hl]; exact hz), fun p hp => ?_⟩
    obtain ⟨C2, E2⟩ := C1.grow hp (.tup xs) (Fz' := F1) (fun _ z => z) fun _ z => .inl z
    refine ⟨p, xs, rfl, .inl (.inl upd_same), hlen, ?_⟩
    exact tGTs_of (nw.ext C2 (E1.trans E2)) (Reps.mono C1 E2 vs R1) (SRk.step ((E1.trans E2).w nw.C) r)
/-! ### op= -/
/-- in place, numbers -/
def IpOk (X : Cx) (R : Cn) (op : Operator) (o : Ev.Op) : Prop := ∃ r : R2, OpR X (inplaceOp op) r ∧ ∀ (Fz : Addr → Prop) (ρ : List Addr) (H : Hp) (h : Ev.Hp) (v1 v2 v : LV) (x y : V) (Q : VK), Core R Fz ρ H h → Rep R Fz ρ H v1 x → RepW R Fz ρ H v2 y → Ev.augv o v1 v2 = some v → okP R Fz ρ H h v Q → r x y H Q
theorem ip_ok_add : IpOk X R .Add .add := by
  refine ⟨ipI fun i j => i + j, ip_add, fun Fz ρ H h v1 v2 v x y Q C r1 r2 e k => ?_⟩
  cases v1 <;> cases v2 <;> first | (cases e; done) | skip
  cases e; cases r1; cases r2
  exact ⟨_, _, rfl, rfl, k.int C⟩
theorem ip_ok_sub : IpOk X R .Sub .sub := by
  refine ⟨ipI fun i j => i - j, ip_sub, fun Fz ρ H h v1 v2 v x y Q C r1 r2 e k => ?_⟩
  cases v1 <;> cases v2 <;> first | (cases e; done) | skip
  cases e; cases r1; cases r2
  exact ⟨_, _, rfl, rfl, k.int C⟩
theorem s_augn {op : Operator} {o : Ev.Op} {i : Nat} {x : Str} {p : Pos} (ok : XS R X W N sc) (hi : N[i]? = some x) (hx : Loc sc x) (he : SV R W O X e c) (ho : IpOk X R op o) : SS R W O X (.AugAssign (.Name x p) op e pos) (.augn i o c) := by
  obtain ⟨r0, hop, hsem⟩ := ho
  refine ps_imp (ps_aug (ti := r0) (by rw [ok.nm]; exact ok.nd) (by rw [ok.nm]; exact hi) (by rw [ok.sc]; exact hx) he hop (.inl (by rw [ok.fn]))) fun D σ H ⟨B, L, h, Fz, ρ, n, r⟩ => ?_
  simp only [Ev.ex, Ev.look] at r
  cases z : L[i]? with
  | none => rw [z] at r; exact False.elim r
  | some s =>
    rw [z] at r
    cases s with
    | un => exact False.elim r
    | own v => exact False.elim r
    | lam ks => exact False.elim r
    | val v =>
      obtain ⟨xv, e1, rv⟩ := n.S.val i v z
      refine ⟨xv, e1, L, h, Fz, ρ, n.C, n.S, ?_⟩
      dsimp only at r ⊢
      cases q : Ev.sel c L h (Ev.ev R.pr O c L h) with
      | bad => simp only [q] at r; exact False.elim r
      | exc d h1 => simp only [q] at r; exact n.exP r
      | ok w h1 =>
        simp only [q] at r
        intro y H1 F1 ρ1 C1 E1 R1
        cases z2 : Ev.augv o v (Ev.view w h1) with
        | none => rw [z2] at r; exact False.elim r
        | some u =>
          rw [z2] at r
          refine hsem F1 ρ1 H1 h1 v _ u xv y _ C1 (Rep.mono n.C E1 v rv) (R1.view C1) z2 fun y2 H2 F2 ρ2 C2 E2 R2 => ?_
          exact r _ H2 F2 ρ2 ((n.ext C2 (E1.trans E2)).set i R2) ((E1.trans E2).w n.C)
theorem s_auga {op : Operator} {o : Ev.Op} {i : Nat} {x : Str} {p : Pos} {v : Expr} {cv : CE} (RO : ROk R) (ok : XS R X W N sc) (he : SE R W O X e c) (hv : SV R W O X v cv) (hi : i < R.na) (hx : x = R.an i) (ho : IpOk X R op o) : SS R W O X (.AugAssign (.Attribute e x p) op v pos) (.auga c i o cv) := by
  subst hx
  obtain ⟨r0, hop, hsem⟩ := ho
  refine ps_imp (ps_fldaug (rd := r0) he hv hop) fun D σ H ⟨B, L, h, Fz, ρ, n, r⟩ => ⟨L, h, Fz, ρ, n.C, n.S, ?_⟩
  simp only [Ev.ex] at r
  dsimp only
  cases q : Ev.ev R.pr O c L h with
  | bad => simp only [q] at r; exact False.elim r
  | exc d h1 => simp only [q] at r; exact n.exP r
  | ok w h1 =>
    simp only [q] at r
    intro y H1 F1 ρ1 C1 E1 R1
    cases w with
    | ref m =>
      obtain ⟨a, rfl, hn⟩ := R1
      simp only at r
      cases z : h1[m]? with
      | none => simp only [z] at r; exact False.elim r
      | some ob =>
        cases ob with
        | lst _ => simp only [z] at r; exact False.elim r
        | dct _ => simp only [z] at r; exact False.elim r
        | ins cl fs =>
          simp only [z] at r
          obtain ⟨dx, es, e1, lc, fr⟩ := C1.obj m _ a z hn
          cases z2 : fs.lookup i with
          | none => simp only [z2] at r; exact False.elim r
          | some u =>
            simp only [z2] at r
            obtain ⟨yu, e2, ru⟩ := frep_get RO hi fr z2
            refine ⟨a, R.cl cl, dx, es, yu, rfl, e1, by rw [ok.K]; exact RO.cls cl lc, by rw [ok.K]; exact RO.noa cl i lc hi, e2, L, h1, F1, ρ1, C1, n.S.mono n.C E1, ?_⟩
            dsimp only
            cases q2 : Ev.sel cv L h1 (Ev.ev R.pr O cv L h1) with
            | bad => simp only [q2] at r; exact False.elim r
            | exc d h2 => simp only [q2] at r; exact exP.ext E1 (n.exP r)
            | ok w2 h2 =>
              simp only [q2] at r
              intro y2 H2 F2 ρ2 C2 E2 R2
              cases z3 : Ev.augv o u (Ev.view w2 h2) with
              | none => simp only [z3] at r; exact False.elim r
              | some t =>
                simp only [z3] at r
                refine hsem F2 ρ2 H2 h2 u _ t yu y2 _ C2 (Rep.mono C1 E2 u ru) (R2.view C2) z3 fun y3 H3 F3 ρ3 C3 E3 R3 => ?_
                obtain ⟨_, e0, hn3⟩ := Rep.mono C2 E3 (.ref m) (x := .ref a) (Rep.mono C1 E2 (.ref m) ⟨a, rfl, hn⟩)
                cases e0
                have E := E1.trans (E2.trans E3)
                cases z4 : h2[m]? with
                | none => simp only [z4] at r; exact False.elim r
                | some ob2 =>
                  cases ob2 with
                  | lst _ => simp only [z4] at r; exact False.elim r
                  | dct _ => simp only [z4] at r; exact False.elim r
                  | ins cl2 fs2 =>
                    simp only [z4] at r
                    by_cases hl : cl2 = cl ∧ fs2.length < 900
                    · rw [if_pos hl] at r
                      obtain ⟨e3, hl⟩ := hl
                      subst e3
                      obtain ⟨dx2, es2, g1, g2, g3, C', E'⟩ := put_attr RO C3 hn3 hi z4 hl R3
                      have EE := E.trans E'
                      exact ⟨dx2, es2, g1, g3, r σ _ F3 ρ3 (n.ext C' EE) (EE.w n.C)⟩
                    · rw [if_neg hl] at r
                      exact False.elim r
    | _ => exact False.elim r
/-! ### loops -/
theorem s_for {iter : Expr} {body : List Stmt} {s : Src} {t : Tg} {cb : CSs} (ok : XS R X W N sc) (hi : SI R W O X tg iter s) (hg : SG R X tg t) (hb : SSs R W O X body cb) (hs : ∀ x, foldedSetIterable iter X.env x = pure x) : SS R W O X (.For tg iter body [] pos) (.for t s cb) := by
  refine ps_imp (ps_for ok.pass ok.calm hi hg hb hs) fun D σ H ⟨B, L, h, Fz, ρ, n, r⟩ => ⟨L, h, Fz, ρ, n.C, n.S, ?_⟩
  simp only [Ev.ex] at r
  dsimp only
  cases q : Ev.evS R.pr O s L h with
  | bad => simp only [q] at r; exact False.elim r
  | exc d h1 => simp only [q] at r; exact n.exP r
  | ok xs h1 =>
    simp only [q] at r
    intro J H1 F1 ρ1 C1 E1 wk
    refine ⟨fun i m σc Hc => m = xs.length - i ∧ i ≤ xs.length ∧ ∃ (Lc : Ev.Env) (hc : Ev.Hp) (F : Addr → Prop) (ρc : List Addr), Now R B Lc hc F ρc σc Hc ∧ ExtW F1 ρ1 H1 F ρc Hc ∧ SRk R W B F ρc Hc (Ev.forR t (fun σ h => Ev.exs R.pr O cb σ h) (xs.drop i) Lc hc) D,
      ⟨xs.length, by simp, Nat.zero_le _, L, h1, F1, ρ1, n.ext C1 E1, ExtW.refl, by simpa using SRk.step (E1.w n.C) r⟩, ?_⟩
    rintro i m σc Hc ⟨rfl, hi, Lc, hc, F, ρc, nc, ec, k⟩
    obtain ⟨wgo, wstop⟩ := wk F ρc Hc hc nc.C ec i
    by_cases hlt : i < xs.length
    · have hx : xs[i]? = some xs[i] := List.getElem?_eq_getElem hlt
      obtain ⟨go, yl⟩ := wgo _ hx
      rw [List.drop_eq_getElem_cons hlt] at k
      generalize hxx : xs[i] = x at k yl
      unfold Ev.forR at k
      refine .inr ⟨go, fun σ' H' => (i + 1) ≤ xs.length ∧ ∃ (Lc : Ev.Env) (hc : Ev.Hp) (F : Addr → Prop) (ρc : List Addr), Now R B Lc hc F ρc σ' H' ∧ ExtW F1 ρ1 H1 F ρc H' ∧ SRk R W B F ρc H' (Ev.forR t (fun σ h => Ev.exs R.pr O cb σ h) (xs.drop (i + 1)) Lc hc) D,
        fun σ' H' nn => ⟨xs.length - (i + 1), by omega, rfl, nn⟩, fun v H' y => ?_⟩
      obtain ⟨Cy, Ey, Ry⟩ := yl v H' y
      have ny := nc.ext Cy Ey
      cases qb : Ev.bindT t x Lc with
      | none => rw [qb] at k; exact False.elim k
      | some L2 =>
        rw [qb] at k
        refine ⟨x, F, ρc, Lc, L2, Ry, ny.S, qb, fun σ2 S2 sm => ?_⟩
        have n2 : Now R B L2 hc F ρc σ2 H' := ⟨ny.C, S2, ny.E, fun j w a e1 e2 => by
          obtain ⟨f1, f2⟩ := bindT_own t qb e1
          rw [sm.2 j f2] at e2
          exact ny.own j w a f1 e2⟩
        refine ⟨B, L2, hc, F, ρc, n2, ?_⟩
        have ey := Ey.w nc.C
        simp only at k
        cases qe : Ev.exs R.pr O cb L2 hc with
        | nx L3 h3 => simp only [qe] at k; exact fun σ3 H3 F3 ρ3 n3 e3 => ⟨hlt, L3, h3, F3, ρ3, n3, ec.trans (ey.trans e3), SRk.step (ey.trans e3) k⟩
        | ct L3 h3 => simp only [qe] at k; exact fun σ3 H3 F3 ρ3 n3 e3 => ⟨hlt, L3, h3, F3, ρ3, n3, ec.trans (ey.trans e3), SRk.step (ey.trans e3) k⟩
        | bk L3 h3 => simp only [qe] at k; exact fun σ3 H3 F3 ρ3 n3 e3 => k σ3 H3 F3 ρ3 n3 (ey.trans e3)
        | rt v h3 => simp only [qe] at k; exact k
        | ex d L3 h3 => simp only [qe] at k; exact fun σ3 H3 F3 ρ3 n3 e3 => k σ3 H3 F3 ρ3 n3 (ey.trans e3)
        | bad => simp only [qe] at k; exact k
    · have hiq : i = xs.length := by omega
      subst hiq
      rw [List.drop_length] at k
      unfold Ev.forR at k
      exact .inl ⟨wstop rfl, k σc Hc F ρc nc ExtW.refl⟩
theorem s_while {body : List Stmt} {cb : CSs} (ok : XS R X W N sc) (hc : ST R W O X e c) (hb : SSs R W O X body cb) : SS R W O X (.While e body [] pos) (.whl c cb) := by
  refine ps_imp (ps_while ok.pass hc hb) fun D σ H ⟨B, L, h, Fz, ρ, n, r⟩ => ?_
  simp only [Ev.ex] at r
  refine ⟨fun m σc Hc => ∃ (Lc : Ev.Env) (hc : Ev.Hp) (F : Addr → Prop) (ρc : List Addr), Now R B Lc hc F ρc σc Hc ∧ SRk R W B F ρc Hc (Ev.whlR (fun σ h => Ev.ev R.pr O c σ h) (fun σ h => Ev.exs R.pr O cb σ h) m Lc hc) D, ⟨Ev.WF, L, h, Fz, ρ, n, r⟩, ?_⟩
  rintro m σc Hc ⟨Lc, hc, F, ρc, nc, k⟩
  cases m with
  | zero => exact False.elim k
  | succ m =>
    unfold Ev.whlR at k
    refine ⟨Lc, hc, F, ρc, nc.C, nc.S, ?_⟩
    dsimp only at k ⊢
    cases q : Ev.ev R.pr O c Lc hc with
    | bad => simp only [q] at k; exact False.elim k
    | exc d h1 => simp only [q] at k ⊢; exact nc.exP k
    | ok v h1 =>
      simp only [q] at k ⊢
      cases z : (Ev.view v h1).truth with
      | none => simp only [z] at k; exact False.elim k
      | some b =>
        simp only [z] at k ⊢
        intro H1 F1 ρ1 C1 E1
        have n1 := nc.ext C1 E1
        have e1 := E1.w nc.C
        cases b with
        | false =>
          rw [if_neg Bool.false_ne_true]
          exact k σc H1 F1 ρ1 n1 e1
        | true =>
          rw [if_pos rfl]
          simp only at k
          refine ⟨fun σ' H' => ∃ (Lc : Ev.Env) (hc : Ev.Hp) (F : Addr → Prop) (ρc : List Addr), Now R B Lc hc F ρc σ' H' ∧ SRk R W B F ρc H' (Ev.whlR (fun σ h => Ev.ev R.pr O c σ h) (fun σ h => Ev.exs R.pr O cb σ h) m Lc hc) D, fun σ' H' nn => ⟨m, Nat.lt_succ_self m, nn⟩, B, Lc, h1, F1, ρ1, n1, ?_⟩
          cases qe : Ev.exs R.pr O cb Lc h1 with
          | nx L3 h3 => simp only [qe] at k; exact fun σ3 H3 F3 ρ3 n3 e3 => ⟨L3, h3, F3, ρ3, n3, SRk.step (e1.trans e3) k⟩
          | ct L3 h3 => simp only [qe] at k; exact fun σ3 H3 F3 ρ3 n3 e3 => ⟨L3, h3, F3, ρ3, n3, SRk.step (e1.trans e3) k⟩
          | bk L3 h3 => simp only [qe] at k; exact fun σ3 H3 F3 ρ3 n3 e3 => k σ3 H3 F3 ρ3 n3 (e1.trans e3)
          | rt v h3 => simp only [qe] at k; exact k
          | ex d L3 h3 => simp only [qe] at k; exact fun σ3 H3 F3 ρ3 n3 e3 => k σ3 H3 F3 ρ3 n3 (e1.trans e3)
          | bad => simp only [qe] at k; exact k
/-! ### raise -/
theorem s_raise {d : Nat} (ok : XOk R X W N sc) (hp : PMk X e (fun _ H Q => Q (.ref (R.cl d)) none H)) : SS R W O X (.Raise (some e) none pos) (.raise d) := by
  refine ps_imp (ps_raise ok.calm ok.tk hp) fun D σ H ⟨B, L, h, Fz, ρ, n, r⟩ => ?_
  simp only [Ev.ex] at r
  exact r σ H Fz ρ n ExtW.refl
end
end Sd
end
section
set_option maxRecDepth 100000
set_option maxHeartbeats 2000000
/-! defs -/
namespace Sd
open PySem PySem.Spec PyProof.Rows L2
open Ev (LV LO CE CEs Src Tg Tgs CKs CS CSs Prg Orc Slot SR)
section
variable {R : Cn}
/-- what a def's text must be -/
structure FnT (R : Cn) (f : Nat) (N : List Str) (name qual : Str) (params : Arguments) (body : List Stmt) (scope : Scope) : Prop where
  lk : ∃ (dV kV doc pm cdv ct oc : Value) (an od : Option Addr) (osl : Array (Option Value)), R.K.lookup (R.fi f).addr = some ⟨oc, od, .func (PySem.W.fnOf name qual params body scope dV kV doc pm an cdv ct), osl⟩ ∧ (R.fi f).fd = PySem.W.fnOf name qual params body scope dV kV doc pm an cdv ct ∧ PySem.W.codeIn R.K cdv qual = true ∧ (R.kd f = 1 → ∃ c P, cdv = .ref c ∧ (c, P) ∈ R.cs ∧ P ∈ R.tg) ∧ (R.kd f = 2 → ∃ c P, cdv = .ref c ∧ (c, P) ∈ R.cs ∧ (P, (qual ++ ".<locals>.") ++ "<lambda>") ∈ R.tl ∧ ∀ p ∈ R.tl, p.1 = P → p.2 = (qual ++ ".<locals>.") ++ "<lambda>")
  sc : FnScope N (R.fi f).ps scope
  np : (R.pr.fn f).np = (R.fi f).ps.length
  ns : (R.pr.fn f).ns = N.length
  lt : R.kd f = 2 → ∀ i m, R.lw f i m → LamT scope m
/-- what a def's body is -/
def BodyOk (R : Cn) (f : Nat) (N : List Str) (body : List Stmt) (scope : Scope) : Prop := ∀ (X : Cx) (W : WX) (O : Orc) (k : Nat) (lq : Str) (lc : List (Str × Addr)), XS (R.fr (decide (R.kd f = 1)) (decide (R.kd f = 2)) X.env.code lq lc (R.lw f)) X W N scope → OOk (R.fr (decide (R.kd f = 1)) (decide (R.kd f = 2)) X.env.code lq lc (R.lw f)) O k → OL (R.fr (decide (R.kd f = 1)) (decide (R.kd f = 2)) X.env.code lq lc (R.lw f)) O k → Room (k + 1) X.A → (∃ qual L fo co, X.env = envOfC qual scope L fo co) → lq = X.env.qual ++ "<lambda>" → lc = X.env.cells →
  SSs (R.fr (decide (R.kd f = 1)) (decide (R.kd f = 2)) X.env.code lq lc (R.lw f)) W O X body (R.pr.fn f).body
theorem slots_start {Fz : Addr → Prop} {ρ : List Addr} {H : Hp} {lvs : List LV} {vs : List V} {m : Nat} {N : List Str} (r : Reps R Fz ρ H lvs vs) (hm : m = N.length) : Slots R Fz ρ H (lvs.map Slot.val ++ List.replicate (m - lvs.length) Slot.un) (L2.start N vs) := by
  have hl := r.length
  have key : ∀ (i : Nat) (s : Slot), (lvs.map Slot.val ++ List.replicate (m - lvs.length) Slot.un)[i]? = some s → (∃ v, s = .val v ∧ lvs[i]? = some v) ∨ s = .un := by
    intro i s e
    by_cases h : i < lvs.length
    · rw [List.getElem?_append_left (by simpa using h), List.getElem?_map] at e
      obtain ⟨v, e1, e2⟩ := Option.map_eq_some_iff.mp e
      exact .inl ⟨v, e2.symm, e1⟩
    · rw [List.getElem?_append_right (by simpa using Nat.le_of_not_lt h), List.getElem?_replicate] at e
      split at e
      · cases e; exact .inr rfl
      · cases e
  refine ⟨?_, fun i v e => ?_, fun i v e => ?_, fun i j v w a _ e => ?_, fun i ks e => ?_⟩
  · unfold L2.start
    simp
    rw [hm, hl]
  · rcases key i _ e with ⟨w, e1, e2⟩ | e1
    · cases e1
      obtain ⟨x, h1, h2⟩ := r.get e2
      refine ⟨x, ?_, h2⟩
      unfold L2.start
      rw [List.getElem?_append_left (by simpa using (List.getElem?_eq_some_iff.mp h1).1), List.getElem?_map, h1]
      rfl
    · cases e1
  · rcases key i _ e with ⟨w, e1, e2⟩ | e1 <;> cases e1
  · rcases key i _ e with ⟨w, e1, e2⟩ | e1 <;> cases e1
  · rcases key i _ e with ⟨w, e1, e2⟩ | e1 <;> cases e1
theorem fn_sound {f k : Nat} {N : List Str} {name qual : Str} {params : Arguments} {body : List Stmt} {scope : Scope} {O : Orc} (T : FnT R f N name qual params body scope) (hb : BodyOk R f N body scope) (OK : OOk R O k) (ol : OL R O k) (O' : Orc) (hO : ∀ vs h, O'.call f vs h = Ev.runF R.pr O f vs h) (base : Heap) (hB : BaseOk R base) :
    FnOk R.P R.w R.K R.mg base (L2.CX R.P R.w) (k + 2) (R.fi f).addr (R.fi f).fd (R.fi f).ps (spO R O' f) := by
  obtain ⟨dV, kV, doc, pm, cdv, ct, oc, an, od, osl, lk, hfd, hcd, htb, hlb⟩ := T.lk
  rw [hfd]
  refine fn_of (k := k + 1) lk hcd T.sc (fun vs H Q E s => s.1) fun A outer s H vs Q E hr hsp => ?_
  obtain ⟨hl, h, Fz, ρ, lvs, C, r, q⟩ := hsp
  have tk : Takes (cxOf (L2.CX R.P R.w) R.P R.w R.K R.mg base N qual scope (R.fi f).addr cdv A outer s H E) (fun cls d _ H => E cls d H) := takes_of rfl rfl rfl rfl
  refine ⟨tSs' (R.fr (decide (R.kd f = 1)) (decide (R.kd f = 2)) cdv _ _ (R.lw f)) (fun cls d _ H => E cls d H) O (R.pr.fn f).body, hb _ _ O k _ _ ?_ (ook_fr OK) (ol_fr ol) hr ⟨_, _, _, _, rfl⟩ rfl rfl, ?_⟩
  · exact { P := rfl, w := rfl, K := rfl, mg := rfl, base := hB, nm := rfl, nd := T.sc.nd, sc := rfl, calm := rfl, un := by have := hr.un; show (A.deeper _).units + 65 < cLine; omega, tk := tk, pass := passes_of rfl, fn := rfl, cc := fun z => ⟨rfl, htb (of_decide_eq_true z)⟩, xl := fun z => ⟨z, rfl, rfl, hlb (of_decide_eq_true z), T.lt (of_decide_eq_true z)⟩ }
  · have S0 := slots_start (R := R.fr (decide (R.kd f = 1)) (decide (R.kd f = 2)) cdv ((envOfC qual scope s.heap.objs.size (R.fi f).addr cdv).qual ++ "<lambda>") (envOfC qual scope s.heap.objs.size (R.fi f).addr cdv).cells (R.lw f)) (Fz := Fz) (ρ := ρ) (H := H) (N := N) (reps_fr.mpr r) T.ns
    refine ⟨⟨Fz, ρ, H⟩, Ev.start (R.pr.fn f) lvs, h, Fz, ρ, ⟨core_fr.mpr C, S0, Ext.refl, fun i v a e => ?_⟩, ?_⟩
    · obtain ⟨b, _, ct, _⟩ := S0.own i v e
      unfold Ev.start at e
      by_cases hh : i < lvs.length
      · rw [List.getElem?_append_left (by simpa using hh), List.getElem?_map] at e
        obtain ⟨v, e1, e2⟩ := Option.map_eq_some_iff.mp e
        cases e2
      · rw [List.getElem?_append_right (by simpa using Nat.le_of_not_lt hh), List.getElem?_replicate] at e
        split at e <;> cases e
    · rw [hO] at q
      unfold Ev.runF at q
      by_cases hn : lvs.length = (R.pr.fn f).np
      · rw [if_pos hn] at q
        change SRk _ _ _ _ _ _ (Ev.exs R.pr O (R.pr.fn f).body (Ev.start (R.pr.fn f) lvs) h) _
        cases z : Ev.exs R.pr O (R.pr.fn f).body (Ev.start (R.pr.fn f) lvs) h with
        | nx L1 h1 => rw [z] at q; exact fun σ' H' F' ρ' n e => q .non H' F' ρ' (core_fr.mp n.C) n.E rfl
        | bk L1 h1 => rw [z] at q; exact False.elim q
        | ct L1 h1 => rw [z] at q; exact False.elim q
        | rt v h1 => rw [z] at q; exact fun x H' F' ρ' C' E' R' => q x H' F' ρ' (core_fr.mp C') E' (rep_fr.mp R')
        | ex c L1 h1 => rw [z] at q; exact fun σ' H' F' ρ' n e => q H' F' ρ' (core_fr.mp n.C) n.E
        | bad => rw [z] at q; exact False.elim q
      · rw [if_neg hn] at q
        exact False.elim q
/-- a def that the machine never answers for -/
def DeadF (R : Cn) (f : Nat) : Prop := ∀ O vs h, Ev.runF R.pr O f vs h = .bad
theorem dead_fn {f k : Nat} {O : Orc} (h0 : ∀ vs h, O.call f vs h = .bad) (base : Heap) : FnOk R.P R.w R.K R.mg base (L2.CX R.P R.w) k (R.fi f).addr (R.fi f).fd (R.fi f).ps (spO R O f) := by
  refine ⟨fun vs H Q E s => s.1, fun A outer s H args us vs Q E _ _ _ _ hs => ?_⟩
  obtain ⟨_, _, _, _, _, _, _, q⟩ := hs
  rw [h0] at q
  exact False.elim q
/-- all defs, at every depth -/
theorem orc_ok (ht : ∀ f, f < R.pr.nf → DeadF R f ∨ ∃ N name qual params body scope, FnT R f N name qual params body scope ∧ BodyOk R f N body scope) : ∀ n, OOk R (Ev.orc R.pr n) (2 * n) ∧ OL R (Ev.orc R.pr n) (2 * n)
  | 0 => ⟨⟨fun base hB f hf => dead_fn (fun _ _ => rfl) base, fun f vs h hf hn => absurd rfl hn⟩, .inl fun _ _ _ => rfl⟩
  | n + 1 => by
    have ih := orc_ok ht n
    refine ⟨⟨fun base hB f hf => ?_, fun f vs h hf hn => ?_⟩, .inr ⟨Ev.orc R.pr n, 2 * n, by omega, ih.1, fun _ _ _ => rfl⟩⟩
    · rcases ht f hf with d | ⟨N, name, qual, params, body, scope, T, hb⟩
      · exact dead_fn (fun vs h => d _ vs h) base
      · exact fn_sound T hb ih.1 ih.2 (Ev.orc R.pr (n + 1)) (fun vs h => rfl) base hB
    · rcases ht f hf with d | ⟨N, name, qual, params, body, scope, T, hb⟩
      · exact absurd (d _ vs h) hn
      by_cases z : vs.length = (R.pr.fn f).np
      · rw [z, T.np]
      · exfalso
        apply hn
        show Ev.runF R.pr (Ev.orc R.pr n) f vs h = .bad
        unfold Ev.runF
        rw [if_neg z]
end
end Sd
end
section
set_option maxRecDepth 100000
set_option maxHeartbeats 2000000
/-! enumerate of a tuple -/
namespace PySem
open Sem (wp)
open AutoSeq1 (wpAny_loadPart')
theorem enm_tuple (l : Addr) (items : Array Value) : Meets (Builtin.«enumerate.__new__» ⟨[.type "enumerate", .ref l], []⟩) (fun _ Rz s => s.heap.IsTuple l items ∧
      Rz (.ok (.ret (.ref (s.heap.push { cls := .type "tuple_iterator", data := .fields #[.ref l, .int 0 0] }).objs.size)))
        { s with heap := (s.heap.push { cls := .type "tuple_iterator", data := .fields #[.ref l, .int 0 0] }).push { cls := .type "enumerate", data := .fields #[.none, .bool false, .ref s.heap.objs.size, rawInt 0, .none, .none] } }) :=
  .of_wp fun prog w A Rz s h => by
    obtain ⟨hp, gg, dd, tt, oo⟩ := s
    obtain ⟨hl, h⟩ := h
    have sube := sub_enumerate
    have hT : Heap.IsTuple (Shared.heap ⟨hp, gg, dd, tt, oo⟩) l items := hl
    have walkT : ∀ {A' : Around} {Ez : Value → Shared → Prop} {Qz : Value → Shared → Prop}, Qz (.ref hp.objs.size) ⟨hp.push { cls := .type "tuple_iterator", data := .fields #[.ref l, .int 0 0] }, gg, dd, tt, oo⟩ → wpAny (model prog w) A' (pyIter (.ref l)) Qz Ez ⟨hp, gg, dd, tt, oo⟩ := fun q => wpAny_pyIter_tuple hT q
    wp_walk using walkT
    refine wpAny_stack_any fun st => wpAny_pure ?_
    split
    · rename_i c _ _ _ _ _
      cases (c == Value.type "enumerate") <;> (wp_walk using walkT; exact ⟨_, rfl, h⟩)
    · wp_walk using walkT
      exact ⟨_, rfl, h⟩
end PySem
namespace Sd
open PySem PySem.Spec PyProof.Rows L2
open Ev (LV LO CE CEs Src Tg Tgs CKs TG TGs CS CSs Prg Orc Slot)
theorem call_enmT {prog : Program} {w : World} {A : Around} {E : Value → Shared → Prop} {s : Shared} {l : Addr} {items : Array Value} {Q : Value → Shared → Prop} (hL : s.heap.IsTuple l items)
    (h : ∀ h', IsEnum h' (s.heap.objs.size + 1) s.heap.objs.size 0 .none → h'.IsTupleIter s.heap.objs.size l 0 → (∀ b o, s.heap.get? b = some o → h'.get? b = some o) → Q (.ref (s.heap.objs.size + 1)) { s with heap := h' }) :
    wpAny (model prog w) A (call (.type "enumerate") [.ref l]) Q E s := by
  refine callType_new F.called_enumerate (by decide) (F.typeCall_enumerate_1 _) (F.newCall_enumerate_1 _) (fun obj => F.args_object_init_2 obj _) F.entry_enumerate_new (enm_tuple l items) ⟨hL, ?_⟩
  have sz : (s.heap.push { cls := .type "tuple_iterator", data := .fields #[.ref l, .int 0 0] }).objs.size = s.heap.objs.size + 1 := Heap.size_push ..
  show _ ∧ _
  rw [sz]
  have he : IsEnum ((s.heap.push { cls := .type "tuple_iterator", data := .fields #[.ref l, .int 0 0] }).push { cls := .type "enumerate", data := .fields #[.none, .bool false, .ref s.heap.objs.size, rawInt 0, .none, .none] }) (s.heap.objs.size + 1) s.heap.objs.size 0 .none := by
    have gt := Heap.get?_push_size (s.heap.push { cls := .type "tuple_iterator", data := .fields #[.ref l, .int 0 0] }) (o := { cls := .type "enumerate", data := .fields #[.none, .bool false, .ref s.heap.objs.size, rawInt 0, .none, .none] }) rfl
    rwa [sz] at gt
  exact ⟨⟨_, he, rfl⟩, h _ he ⟨_, Heap.get?_push_of_some _ (Heap.get?_push_size _ rfl), rfl, rfl⟩ fun b o x => Heap.get?_push_of_some _ (Heap.get?_push_of_some _ x)⟩
/-- the tuple at a, each item in a new pair -/
def IteT (K : PySem.W.Frag) (a : Addr) : It :=
  ⟨fun i H => ∃ (xs : List V) (x : V), SqT K H a xs ∧ xs[i]? = some x, fun i H v H' => ∃ T x, v = .ref T ∧ H T = none ∧ H' = upd H T (.tup [.int (i : Nat), x]) ∧ ∀ xs, SqT K H a xs → xs[i]? = some x, fun i H => ∃ xs : List V, SqT K H a xs ∧ xs.length = i⟩
theorem turn_enmT {P : Program} {w : World} {K : PySem.W.Frag} {elts : List Expr} {kk : Nat} {tpos : Pos} (a e it : Addr) : Turn P w K (.Tuple elts kk tpos) (IteT K a) [e, it] e (fun i h => (∃ old, IsEnum h e it ((i : Nat) : Int) old) ∧ h.IsTupleIter it a i ∧ e ≠ it) where
  mem := List.mem_cons_self
  obj := fun i h st b hb => by
    obtain ⟨⟨old, he⟩, ⟨o, ho, hc, hd⟩, _⟩ := st
    rcases List.mem_cons.mp hb with z | z
    · subst z; exact ⟨_, he, fun v q => nomatch q⟩
    · rw [List.mem_singleton.mp z]; exact ⟨o, ho, fun v q => by rw [hd] at q; cases q⟩
  keep := fun i h h' st k => by
    obtain ⟨⟨old, he⟩, hi, hne⟩ := st
    exact ⟨⟨old, k e List.mem_cons_self _ he⟩, hi.at fun o q => k it (by simp) o q, hne⟩
  item := by
    intro X hP hw hK hc i pins s σ H E I hf st hg
    subst hP hw hK
    obtain ⟨⟨old, he⟩, hit, hne⟩ := st
    obtain ⟨xs, x, hq, hx⟩ := hg
    obtain ⟨its, rv, p, hz⟩ := I.tuple hq
    obtain ⟨u, hu, ru⟩ := rv.get hx
    have lt1 : e < s.heap.objs.size := Heap.lt_size he
    have lt2 : it < s.heap.objs.size := by
      obtain ⟨_, q, _⟩ := hit
      exact Heap.lt_size q
    have pT : s.heap.IsTuple a its.toArray := p
    have tne : a ≠ it := fun z => by
      obtain ⟨o1, g1, c1, _⟩ := hit
      obtain ⟨o2, g2, c2, _⟩ := pT
      rw [z, g1] at g2
      cases g2
      rw [c1] at c2
      exact absurd c2 (by simp)
    have ene : e ∉ [it, a] := fun z => by
      rcases List.mem_cons.mp z with z | z
      · exact hne z
      · obtain ⟨o2, g2, c2, _⟩ := pT
        rw [← List.mem_singleton.mp z, he] at g2
        cases g2
        exact absurd c2 (by simp)
    have D := Draws.tuple (prog := X.prog) (w := X.w) (A := X.A.in1) (I.ok.hd hc) it a tne its.toArray
    have hlt : i < its.toArray.size := by
      have := (List.getElem?_eq_some_iff.mp hu).1
      simpa using this
    refine wpAny_pyNext_enum_itemD (i := i) D he ⟨hit, pT⟩ hlt hne ene fun y h' tk hy ho hst hT hsz hk => ?_
    have ey : y = u := by
      have hy' : its[i]? = some y := by simpa using hy
      rw [hu] at hy'
      exact (Option.some.inj hy').symm
    subst ey
    refine ⟨_, rfl, wpAny_letOwnedTupleGo_enum (s := { s with heap := h', toks := tk + 1 }) ho fun h'' he' sb => ?_⟩
    have hT2 : h''.get? s.heap.objs.size = some { cls := .type "tuple", data := .seq #[.int i tk, y] } := (sb.2 _ (Nat.ne_of_gt lt1)).trans hT
    have new : ObjOk X.prog X.w (upd H s.heap.objs.size (.tup [.int (i : Nat), x])) h'' s.heap.objs.size (.tup [.int (i : Nat), x]) :=
      ⟨by show 2 ≤ sizeLine; decide, [.int i tk, y], .cons ⟨_, rfl⟩ (.cons ru .nil), ⟨_, hT2, rfl, _, rfl⟩⟩
    have I1 : Inv X pins σ (upd H s.heap.objs.size (.tup [.int (i : Nat), x])) { s with heap := h'', toks := tk + 1 } :=
      I.turnedNew (ch := [e, it]) (fun b ob hb q => by
        have n1 : b ≠ e := fun z => hb (by rw [z]; exact List.mem_cons_self)
        have n2 : b ≠ it := fun z => hb (by rw [z]; simp)
        exact (sb.2 b n1).trans (hk b ob n1 n2 q)) hf (Nat.le_refl _) new
    refine ⟨.ref s.heap.objs.size, _, I1, rfl, ⟨_, x, rfl, I.hok.fresh (Nat.le_refl _), rfl, fun ys hy => by rw [I.tuple_inj hy hq]; exact hx⟩, ⟨⟨y, ?_⟩, hst.1.at fun o q => (sb.2 it (Ne.symm hne)).trans q, hne⟩, fun b hb => ?_⟩
    · rw [show ((i + 1 : Nat) : Int) = (i : Int) + 1 by omega]
      exact he'
    · have lb : b < s.heap.objs.size := by
        rcases List.mem_cons.mp hb with z | z
        · rw [z]; exact lt1
        · rw [List.mem_singleton.mp z]; exact lt2
      rw [upd_ne (Nat.ne_of_lt lb)]
      exact (hf b hb).1
  done := by
    intro X hP hw hK hc i pins s σ H E I hf st hg
    subst hP hw hK
    obtain ⟨⟨old, he⟩, hit, hne⟩ := st
    obtain ⟨xs, hq, hx⟩ := hg
    obtain ⟨its, rv, p, hz⟩ := I.tuple hq
    obtain ⟨f0, f1, f2, f3, f4, f5⟩ := hf it (by simp)
    have pT : s.heap.IsTuple a its.toArray := p
    have tne : a ≠ it := fun z => by
      obtain ⟨o1, g1, c1, _⟩ := hit
      obtain ⟨o2, g2, c2, _⟩ := pT
      rw [z, g1] at g2
      cases g2
      rw [c1] at c2
      exact absurd c2 (by simp)
    have D := Draws.tuple (prog := X.prog) (w := X.w) (A := X.A.in1) (I.ok.hd hc) it a tne its.toArray
    have en : i = its.toArray.size := by
      have := rv.length
      simp
      omega
    rw [en] at he hit
    exact wpAny_pyNext_enum_endD D he ⟨hit, pT⟩ fun h' eb => ⟨rfl, I.turned (t' := s.toks) (fun b o hb q => eb b o hb q) f0 f1 f3 f4 f5⟩
  self := fun A i s Q E st h => let ⟨⟨_, he⟩, _⟩ := st; wpAny_pyIter_enum he h
section
variable {R : Cn} {X : Cx} {W : WX} {O : Orc} {σ : L2.St} {Fz Fz' : Addr → Prop} {ρ ρ' : List Addr} {H H' : Hp} {h h' : Ev.Hp} {L : Ev.Env} {N : List Str} {sc : Scope}
def iEnmT (K : PySem.W.Frag) (ta : TA) : TI := fun σ H Rr => ta σ H fun vs H1 => ∃ a xs, vs = [.ref a] ∧ SqT K H1 a xs ∧ Rr (IteT K a) H1
theorem pi_enmT {e : Expr} {ta : TA} {p pos tpos : Pos} {elts : List Expr} {kk : Nat} (hg : Gl X "enumerate") (hm : X.mg "enumerate" = none) (ha : PA X [e] ta) (hs : starEach [e] X.env = [(false, eval e X.env)]) :
    PI X (.Tuple elts kk tpos) (.Call (.Name "enumerate" p) [e] [] pos) (iEnmT X.K ta) := by
  refine ⟨fun pins s σ H Rr I h => ?_⟩
  refine Call_ (ld_blt I hg hm boot_enumerate (PyProof.Rows.callWith_type1 (thn (ha.run pos pins s σ H _ I h) fun us s1 ⟨vs, H1, I1, r1, a, xs, ex, hq, q⟩ => ?_) hs rfl))
  subst ex
  cases r1 with
  | cons r rr =>
    cases rr
    cases r
    obtain ⟨its, rv, p', hz⟩ := I1.tuple hq
    refine call_enmT (show s1.heap.IsTuple a its.toArray from p') fun h' he hit hk => wpAny_pyIter_enum he ?_
    refine ⟨s1.heap.objs.size + 1, [s1.heap.objs.size + 1, s1.heap.objs.size], _, _, H1, rfl, I1.kept (t' := s1.toks) hk, turn_enmT a (s1.heap.objs.size + 1) s1.heap.objs.size, ⟨⟨.none, he⟩, hit, Nat.succ_ne_self _⟩, fun b hb => ?_, q⟩
    have hle : s1.heap.objs.size ≤ b := by
      rcases List.mem_cons.mp hb with z | z
      · rw [z]; exact Nat.le_succ _
      · rw [List.mem_singleton.mp z]; exact Nat.le_refl _
    exact I1.fpOk hle (I1.hok.fresh hle)
theorem enumL_get : ∀ {xs : List LV} {k i : Nat} {x : LV}, (Ev.enumL k xs)[i]? = some x → ∃ y, xs[i]? = some y ∧ x = .tup [.int ((k + i : Nat) : Int), y]
  | [], _, i, _, e => by simp [Ev.enumL] at e
  | y :: ys, k, 0, x, e => by
    simp [Ev.enumL] at e
    exact ⟨y, rfl, by rw [← e]; simp⟩
  | y :: ys, k, i + 1, x, e => by
    obtain ⟨z, h1, h2⟩ := enumL_get (xs := ys) (k := k + 1) (i := i) (x := x) (by simpa [Ev.enumL] using e)
    exact ⟨z, by simpa using h1, by rw [h2]; congr 3; omega⟩
theorem enumL_len : ∀ {xs : List LV} {k : Nat}, (Ev.enumL k xs).length = xs.length
  | [], _ => rfl
  | _ :: ys, k => by unfold Ev.enumL; rw [List.length_cons, enumL_len, List.length_cons]
theorem wk_pair {i : Nat} {x : LV} {v : V} {T : Addr} (C : Core R Fz ρ H h) (hT : H T = none) (r : Rep R Fz ρ H x v) : Core R Fz ρ (upd H T (.tup [.int (i : Nat), v])) h ∧ Ext Fz ρ H Fz ρ (upd H T (.tup [.int (i : Nat), v])) ∧ Rep R Fz ρ (upd H T (.tup [.int (i : Nat), v])) (.tup [.int ((0 + i : Nat) : Int), x]) (.ref T) := by
  obtain ⟨C1, E1⟩ := C.grow hT (.tup [.int (i : Nat), v]) (Fz' := Fz) (fun _ z => z) fun _ z => .inl z
  refine ⟨C1, E1, T, [.int (i : Nat), v], rfl, .inl (.inl upd_same), .int (i : Nat), [v], rfl, ?_, v, [], rfl, Rep.mono C E1 x r, rfl⟩
  show V.int (i : Nat) = .int ((0 + i : Nat) : Int)
  rw [Nat.zero_add]
theorem wk_enl {a : Addr} {xs : List LV} {vs : List V} (f : Fz a) (q : H a = some (.lst vs)) (t : Reps R Fz ρ H xs vs) : Wk R (Ite R.K a) (Ev.enumL 0 xs) Fz ρ H := by
  intro F1 ρ1 H1 h1 C1 E1 i
  have q1 : H1 a = some (.lst vs) := E1.ks.fz a _ f q (by intro ps z; cases z)
  have t1 : Reps R F1 ρ1 H1 xs vs := t.w E1
  refine ⟨fun x hx => ?_, fun hl => ⟨vs, .inl (.inl q1), by rw [enumL_len] at hl; rw [← t1.length]; exact Nat.le_of_eq hl⟩⟩
  obtain ⟨y, hy, rfl⟩ := enumL_get hx
  obtain ⟨v, hv, rv⟩ := t1.get hy
  refine ⟨⟨vs, v, .inl (.inl q1), hv⟩, fun w H2 ⟨T, z, e1, hT, e2, e3⟩ => ?_⟩
  have := e3 vs (.inl (.inl q1))
  rw [hv] at this
  cases this
  subst e1 e2
  exact wk_pair C1 hT rv
theorem wk_ent {a : Addr} {xs : List LV} {vs : List V} (q : SqT R.K H a vs) (t : Reps R Fz ρ H xs vs) : Wk R (IteT R.K a) (Ev.enumL 0 xs) Fz ρ H := by
  intro F1 ρ1 H1 h1 C1 E1 i
  have q1 : SqT R.K H1 a vs := E1.ks.sqT q
  have t1 : Reps R F1 ρ1 H1 xs vs := t.w E1
  refine ⟨fun x hx => ?_, fun hl => ⟨vs, q1, by rw [enumL_len] at hl; rw [← t1.length]; exact hl⟩⟩
  obtain ⟨y, hy, rfl⟩ := enumL_get hx
  obtain ⟨v, hv, rv⟩ := t1.get hy
  refine ⟨⟨vs, v, q1, hv⟩, fun w H2 ⟨T, z, e1, hT, e2, e3⟩ => ?_⟩
  have := e3 vs q1
  rw [hv] at this
  cases this
  subst e1 e2
  exact wk_pair C1 hT rv
theorem si_enum {e : Expr} {c : CE} {p pos tpos : Pos} {elts : List Expr} {kk : Nat} (ok : XOk R X W N sc) (hg : sc.names.lookup ("enumerate" : Str) = some .globalImplicit) (hm : R.mg "enumerate" = none) (s : SE R W O X e c) (hs : starEach [e] X.env = [(false, eval e X.env)]) :
    SI R W O X (.Tuple elts kk tpos) (.Call (.Name "enumerate" p) [e] [] pos) (.enum (.of c)) := by
  have gl : Gl X "enumerate" := by show X.env.scope.names.lookup _ = _; rw [ok.sc]; exact hg
  have nm : X.mg "enumerate" = none := by rw [ok.mg]; exact hm
  have pa : PA X [e] (tCons (tE R W O c) tNil) := pa_cons s pa_nil hs
  refine pi_imp (pi_or (pi_enum gl nm pa hs) (pi_enmT gl nm pa hs)) fun σ H Q ⟨L, h, Fz, ρ, C, S, r⟩ => ?_
  simp only [Ev.evS] at r
  cases q : Ev.ev R.pr O c L h with
  | bad => simp only [q] at r
  | exc d h1 =>
    simp only [q] at r
    refine .inl ⟨L, h, Fz, ρ, C, S, ?_⟩
    dsimp only
    rw [q]
    exact r
  | ok v h1 =>
    simp only [q] at r
    cases v with
    | lst xs =>
      simp only [Ev.itemsOf, Ev.ofO] at r
      refine .inl ⟨L, h, Fz, ρ, C, S, ?_⟩
      dsimp only
      rw [q]
      intro x H1 F1 ρ1 C1 E1 R1
      obtain ⟨a, vs, rfl, f, q1, t⟩ := R1
      exact ⟨a, vs, rfl, .inl (.inl q1), r _ H1 F1 ρ1 C1 E1 (by rw [ok.K]; exact wk_enl f q1 t)⟩
    | tup xs =>
      simp only [Ev.itemsOf, Ev.ofO] at r
      refine .inr ⟨L, h, Fz, ρ, C, S, ?_⟩
      dsimp only
      rw [q]
      intro x H1 F1 ρ1 C1 E1 R1
      obtain ⟨a, vs, rfl, q1, t⟩ := R1
      exact ⟨a, vs, rfl, by rw [ok.K]; exact q1, r _ H1 F1 ρ1 C1 E1 (by rw [ok.K]; exact wk_ent q1 t)⟩
    | _ => simp only [Ev.itemsOf, Ev.ofO] at r
end
end Sd
end
section
set_option maxRecDepth 100000
set_option maxHeartbeats 2000000
/-! what is seen of the text alone -/
namespace Sd
open PySem PySem.Spec PyProof.Rows L2
open Ev (LV LO CE CEs Src Tg Tgs CKs CS CSs Prg Orc Slot SR)
/-! ### the text's shapes -/
def noStar : Expr → Bool
  | .Starred _ _ => false
  | _ => true
theorem star_of {e : Expr} {es : List Expr} {env : Env} (h : noStar e = true) : starEach (e :: es) env = (false, eval e env) :: starEach es env := by
  cases e <;> first | rfl | cases h
theorem pl_of {env : Env} {pos : Pos} : ∀ {es : List Expr}, es.all noStar = true → (backTo pos (starEach es env)).any (·.1) = false
  | [], _ => rfl
  | e :: es, h => by
    rw [List.all_cons, Bool.and_eq_true] at h
    rw [star_of h.1]
    show (false || (backTo pos (starEach es env)).any (·.1)) = false
    rw [pl_of h.2]
    rfl
theorem few_of {env : Env} {pos : Pos} : ∀ {es : List Expr}, es.all noStar = true → (backTo pos (starEach es env)).all (fun x => !x.1) = true
  | [], _ => rfl
  | e :: es, h => by
    rw [List.all_cons, Bool.and_eq_true] at h
    rw [star_of h.1]
    show (true && (backTo pos (starEach es env)).all _) = true
    rw [few_of h.2]
    rfl
/-- no super() -/
def noSup : Expr → Bool
  | .Call (.Name _ _) [] [] _ => false
  | _ => true
theorem base_of {o : Expr} {f : Str} {env : Env} {w : Sem Value} (h : noSup o = true) : attributeBase o f env w = w := by
  unfold attributeBase
  split
  · cases h
  · rfl
def plainIx : Expr → Bool
  | .Slice _ _ _ _ => false
  | _ => true
theorem ix_of {b : Expr} (h : plainIx b = true) : PlainIx b := by
  intro o i
  cases b <;> first | rfl | cases h
theorem sub_of {o i : Expr} {pos : Pos} {env : Env} (h : plainIx i = true) (v : Value) : assign (.Subscript o i pos) env v = (do
      let ov ← holding [v] (eval o env)
      let iv ← holding [v, ov] (eval i env)
      standAt pos
      holding [v, ov, iv] (setItem ov iv v)
      release [v, ov, iv] []) := by
  cases i <;> first | rfl | cases h
def noSet : Expr → Bool
  | .Set _ _ _ => false
  | _ => true
theorem set_of {e : Expr} {env : Env} (h : noSet e = true) (x : Value) : foldedSetIterable e env x = pure x := by
  cases e <;> first | rfl | cases h
/-- its test is its value's truth -/
def plainT : Expr → Bool
  | .UnaryOp .Not _ _ => false
  | .BoolOp _ _ _ => false
  | .IfExp _ _ _ _ => false
  | .Compare _ _ _ _ => false
  | _ => true
theorem true_of {e : Expr} {env : Env} (h : plainT e = true) (w : Sem Value) : isTrue e env w = (do let v ← w; standAt e.pos; holding [v] (truthy v)) := by
  cases e with
  | UnaryOp op _ _ => cases op <;> first | rfl | cases h
  | _ => first | rfl | cases h
def noComp : Expr → Bool
  | .ListComp _ _ _ _ => false
  | .SetComp _ _ _ _ => false
  | .DictComp _ _ _ _ _ => false
  | _ => true
theorem swap_of {e : Expr} {t : Option Expr} {l : Nat} {env : Env} (h : noComp e = true) : swapsWith e t l env = pure false := by
  cases e <;> first | rfl | cases h
theorem sole_of {e t : Expr} {l : Nat} {env : Env} (h : noComp e = true) : swapsWithSole [t] e l env = pure false := swap_of h
theorem mcall_of {o : Expr} {m : Str} {apos pos : Pos} {es : List Expr} {env : Env} (h : noSup o = true) (hs : es.all noStar = true) (hl : decide (es.length < 30) = true) (hp : (apos.endLine == pos.line) = true) :
    eval (.Call (.Attribute o m apos) es [] pos) env = (do
      let ov ← eval o env
      standAt apos.atName
      let (f, first) ← holding [ov] (getMethod ov m (do return (← importBound o env).getD true))
      callWith pos f first (backTo pos (starEach es env)) (backToKw pos (keywordEach [] env))) := by
  have e1 : methodCallForm (es.length + ([] : List Keyword).length) (backTo pos (starEach es env)) (backToKw pos (keywordEach [] env)) = true := by
    show ((backTo pos (starEach es env)).all (fun x => !x.1) && true && decide (es.length + 0 + 0 < 30)) = true
    rw [few_of hs]
    simpa using hl
  have e0 : eval (.Call (.Attribute o m apos) es [] pos) env = (do
      let ov ← attributeBase o m env (eval o env)
      standAt apos.atName
      methodCall o m apos pos env ov (es.length + ([] : List Keyword).length) (backTo pos (starEach es env)) (backToKw pos (keywordEach [] env))) := by
    rw [eval]
  rw [e0, base_of h]
  unfold methodCall
  rw [e1]
  have e2 : methodCallPos true o env apos pos = pure pos := by
    unfold methodCallPos
    rw [hp]
    rfl
  rw [e2]
  rfl
/-- texts that are written -/
def okSb (s : List Nat) : Bool := s.all (fun c => decide (c < 1114112)) && decide (s.length ≤ Ev.SL)
theorem okS_of {s : List Nat} (h : okSb s = true) : okS s := by
  unfold okSb at h
  rw [Bool.and_eq_true, decide_eq_true_eq] at h
  exact ⟨fun c m => by simpa using List.all_eq_true.mp h.1 c m, h.2⟩
mutual
def sameV : LV → LV → Bool
  | .non, .non => true
  | .bl a, .bl b => a == b
  | .int a, .int b => a == b
  | .str a, .str b => a == b
  | .tup a, .tup b => sameVs a b
  | .lst a, .lst b => sameVs a b
  | _, _ => false
def sameVs : List LV → List LV → Bool
  | [], [] => true
  | a :: x, b :: y => sameV a b && sameVs x y
  | _, _ => false
end
mutual
theorem same_eq : ∀ (a b : LV), sameV a b = true → a = b
  | .non, b, h => by cases b <;> first | rfl | cases h
  | .bl x, b, h => by cases b <;> first | (cases h; done) | (simp only [sameV, beq_iff_eq] at h; rw [h])
  | .int x, b, h => by cases b <;> first | (cases h; done) | (simp only [sameV, beq_iff_eq] at h; rw [h])
  | .str x, b, h => by cases b <;> first | (cases h; done) | (simp only [sameV, beq_iff_eq] at h; rw [h])
  | .tup x, b, h => by cases b <;> first | (cases h; done) | (simp only [sameV] at h; rw [same_eqs x _ h])
  | .lst x, b, h => by cases b <;> first | (cases h; done) | (simp only [sameV] at h; rw [same_eqs x _ h])
  | .dct _, b, h => by cases b <;> cases h
  | .ref _, b, h => by cases b <;> cases h
  | .clo _, b, h => by cases b <;> cases h
  | .rol _, b, h => by cases b <;> cases h
theorem same_eqs : ∀ (a b : List LV), sameVs a b = true → a = b
  | [], [], _ => rfl
  | [], _ :: _, h => by cases h
  | _ :: _, [], h => by cases h
  | a :: x, b :: y, h => by
    simp only [sameVs, Bool.and_eq_true] at h
    rw [same_eq a b h.1, same_eqs x y h.2]
end
/-! ### names -/
def kind? (sc : Scope) (x : Str) : Option NameKind := sc.names.lookup x
def isVis (sc : Scope) (x : Str) : Bool := match kind? sc x with | some .local => true | some .cell => true | some .free => true | _ => false
def isLoc (sc : Scope) (x : Str) : Bool := match kind? sc x with | some .local => true | some .cell => true | _ => false
def isLocal (sc : Scope) (x : Str) : Bool := match kind? sc x with | some .local => true | _ => false
def isGl (sc : Scope) (x : Str) : Bool := match kind? sc x with | some .globalImplicit => true | _ => false
theorem vis_of {sc : Scope} {x : Str} (h : isVis sc x = true) : Vis sc x := by
  unfold isVis at h
  split at h
  · rename_i e; exact .inl e
  · rename_i e; exact .inr (.inl e)
  · rename_i e; exact .inr (.inr e)
  · cases h
theorem loc_of {sc : Scope} {x : Str} (h : isLoc sc x = true) : Loc sc x := by
  unfold isLoc at h
  split at h
  · rename_i e; exact .inl e
  · rename_i e; exact .inr e
  · cases h
theorem local_of {sc : Scope} {x : Str} (h : isLocal sc x = true) : sc.names.lookup x = some .local := by
  unfold isLocal at h
  split at h
  · rename_i e; exact e
  · cases h
theorem gl_of {sc : Scope} {x : Str} (h : isGl sc x = true) : sc.names.lookup x = some .globalImplicit := by
  unfold isGl at h
  split at h
  · rename_i e; exact e
  · cases h
def nodbg (x : Str) : Bool := !(x == ("__debug__" : Str)) && !(x == ("__classdict__" : Str)) && !(x == ("__name__" : Str))
theorem dbg_of {x : Str} (h : nodbg x = true) : (x == ("__debug__" : Str)) = false ∧ (x == ("__classdict__" : Str)) = false ∧ x ≠ "__name__" := by
  unfold nodbg at h
  simp only [Bool.and_eq_true, Bool.not_eq_true'] at h
  exact ⟨h.1.1, h.1.2, by simpa using h.2⟩
end Sd
end
section
set_option maxRecDepth 100000
set_option maxHeartbeats 2000000
/-! lambdas: how they are made -/
namespace Sd
open PySem PySem.Spec PyProof.Rows L2
open Ev (LV LO CE CEs Src Tg Tgs CKs CS CSs Prg Orc Slot SR)
/-- what the making of a lambda does to the abstract heap: the table at P may have grown, the code object may be new, the lambda is -/
structure Lammed (T : List (Addr × Str)) (P f c' : Addr) (m : LmI) (q : Str) (cl : List (Str × Addr)) (H H' : Hp) : Prop where
  was : ∃ ps, H P = some (.tbl ps)
  keep : ∀ b, b ≠ P → H b ≠ none → H' b = H b
  tab : ∃ ps, H' P = some (.tbl ps) ∧ TriplesOk ps.toList
  tabs : LamX.Tabs T H'
  fn : H f = none
  at_ : H' f = some (LamO m q cl f c')
  code : H' c' = some (LamX.CodeO c' q)
theorem lamO_ok {P : Program} {w : World} {m : LmI} {q : Str} {cl : List (Str × Addr)} {f c' : Addr} {H : Hp} {g : Heap} {pm ctv : Value} (e : g.get? f = some (PySem.W.kla_obj "<lambda>" q m.params m.body m.scope cl pm c' ctv)) : ObjOk P w H g f (LamO m q cl f c') :=
  ⟨⟨pm, ctv, e⟩, ⟨_, e⟩, fun _ _ ⟨a, b, z⟩ keeps => ⟨a, b, keeps _ z⟩⟩
section
variable {X : Cx} {pins : List (Addr × Obj)} {σ : L2.St} {H : Hp} {s : Shared}
theorem lam_mk {T : List (Addr × Str)} {c P : Addr} {m : LmI} {q : Str} {pos : Pos} {E Q : Value → Shared → Prop} (iv : Inv X pins σ H s) (own : LamX.TabB X.base X.mg c P) (co : X.env.code = .ref c) (mem : (P, q) ∈ T) (eq : q = X.env.qual ++ "<lambda>")
    (uniq : ∀ p ∈ T, p.1 = P → p.2 = q) (tabs : LamX.Tabs T H) (nodef : defaultsOf m.params X.env = ([], [])) (caught : ∀ y ∈ m.scope.names, y.2 = .free → ∃ c, X.env.cells.lookup y.1 = some c)
    (go : ∀ f c' H1 s', Inv X pins σ H1 s' → Lammed T P f c' m q (cloFrom X.env.cells m.scope.names []) H H1 → Q (.ref f) s') : wpAny (model X.prog X.w) X.A (eval (.Lambda m.params m.body m.scope pos) X.env) Q E s := by
  subst eq
  obtain ⟨tb, atP, trip, found⟩ := tabs _ mem
  have objP := iv.hok P _ atP
  have bip := own.bm.keeps iv.bk
  have hd := own.code.keeps iv.bk
  have mains := iv.mod.glob.keeps iv.bk
  refine PySem.W.kla_eval nodef ?_
  rcases Option.eq_none_or_eq_some (codeAmong pos tb.toList) with hit | ⟨cv, hit⟩
  · refine PySem.W.kla_makeFunction (c := c) (P := P) (ps := tb) (mg := X.mg) (closure_ok caught) iv.ok.glob mains co hd objP trip hit own.gP bip ?_
    intro c' ctv g tk kept ge lt ⟨c2, oc, vs, t, e2, hoc, hdat, hv⟩ newP
    cases e2
    have free' : H c' = none := iv.hok.fresh ge
    have nePc : P ≠ c' := ne_of_none atP free'
    have i1 := LamX.inv_table (t' := tk) (more := #[rawInt pos.line, rawInt pos.col, .ref c']) (q := X.env.qual ++ "<lambda>") (h' := g) iv atP kept newP ge ⟨oc, vs, t, hoc, hdat, hv⟩
    have i2 := i1.laid (t' := tk) (a := g.objs.size) (o := LamO m (X.env.qual ++ "<lambda>") (cloFrom X.env.cells m.scope.names []) g.objs.size c') (h' := g.push (PySem.W.kla_obj "<lambda>" (X.env.qual ++ "<lambda>") m.params m.body m.scope (cloFrom X.env.cells m.scope.names []) ((X.mg "__name__").getD .none) c' ctv))
      (fun b u e => Heap.get?_push_of_some _ e) (Nat.le_refl _) (lamO_ok (Heap.get?_push_size _ rfl))
    have fr : H g.objs.size = none := iv.hok.fresh (Nat.le_trans ge (Nat.le_of_lt lt))
    have nf1 : c' ≠ g.objs.size := Nat.ne_of_lt lt
    have nf2 : P ≠ g.objs.size := ne_of_none atP fr
    have look : ∀ b, b ≠ P → H b ≠ none → upd (upd (upd H P (.tbl (tb ++ #[rawInt pos.line, rawInt pos.col, .ref c']))) c' (LamX.CodeO c' (X.env.qual ++ "<lambda>"))) g.objs.size (LamO m (X.env.qual ++ "<lambda>") (cloFrom X.env.cells m.scope.names []) g.objs.size c') b = H b := fun b h1 h2 => by
      rw [upd_ne (fun z => h2 (by rw [z]; exact fr)), upd_ne (fun z => h2 (by rw [z]; exact free')), upd_ne h1]
    have list' : (tb ++ #[rawInt pos.line, rawInt pos.col, .ref c']).toList = tb.toList ++ [rawInt pos.line, rawInt pos.col, .ref c'] := by simp
    have trip' : TriplesOk (tb ++ #[rawInt pos.line, rawInt pos.col, .ref c']).toList := by rw [list']; exact PySem.TriplesOk_snoc _ _ _ _ trip
    refine go _ c' _ _ i2 ⟨⟨_, atP⟩, look, ⟨_, by rw [upd_ne nf2, upd_ne nePc, upd_same], trip'⟩, ?_, fr, upd_same, by rw [upd_ne nf1, upd_same]⟩
    intro p hp
    by_cases at_ : p.1 = P
    · rw [at_, uniq p hp at_]
      refine ⟨_, by rw [upd_ne nf2, upd_ne nePc, upd_same], trip', ?_⟩
      intro p' cv hcv
      rw [list'] at hcv
      rcases LamX.among_app _ trip hcv with z | rfl
      · obtain ⟨c0, rfl, e2⟩ := found p' cv z
        exact ⟨c0, rfl, (look _ (fun y => by rw [y, atP] at e2; exact LamX.codeO_ne tb (Option.some.inj e2).symm) (by rw [e2]; simp)).trans e2⟩
      · exact ⟨c', rfl, by rw [upd_ne nf1, upd_same]⟩
    · obtain ⟨tb2, a1, a2, a3⟩ := tabs p hp
      refine ⟨tb2, (look _ at_ (by rw [a1]; simp)).trans a1, a2, ?_⟩
      intro p' cv hcv
      obtain ⟨c0, rfl, e2⟩ := a3 p' cv hcv
      exact ⟨c0, rfl, (look _ (fun y => by rw [y, atP] at e2; exact LamX.codeO_ne tb (Option.some.inj e2).symm) (by rw [e2]; simp)).trans e2⟩
  · obtain ⟨c', rfl, isC⟩ := found pos cv hit
    refine PySem.W.kla_makeFunctionHit (c := c) (P := P) (ps := tb) (mg := X.mg) (closure_ok caught) iv.ok.glob mains co hd objP trip hit bip ?_
    intro ctv g tk kept ge
    have fr : H g.objs.size = none := iv.hok.fresh ge
    have i2 := iv.laid (t' := tk) (a := g.objs.size) (o := LamO m (X.env.qual ++ "<lambda>") (cloFrom X.env.cells m.scope.names []) g.objs.size c') (h' := g.push (PySem.W.kla_obj "<lambda>" (X.env.qual ++ "<lambda>") m.params m.body m.scope (cloFrom X.env.cells m.scope.names []) ((X.mg "__name__").getD .none) c' ctv))
      (fun b u e => Heap.get?_push_of_some _ (kept b u e)) ge (lamO_ok (Heap.get?_push_size _ rfl))
    have look : ∀ b, H b ≠ none → upd H g.objs.size (LamO m (X.env.qual ++ "<lambda>") (cloFrom X.env.cells m.scope.names []) g.objs.size c') b = H b := fun b h2 => by rw [upd_ne (fun z => h2 (by rw [z]; exact fr))]
    refine go _ c' _ _ i2 ⟨⟨_, atP⟩, fun b _ h2 => look b h2, ⟨tb, (look _ (by rw [atP]; simp)).trans atP, trip⟩, ?_, fr, upd_same, (look _ (by rw [isC]; simp)).trans isC⟩
    exact LamX.Tabs.ext tabs fun b o e => (look b (by rw [e]; simp)).trans e
end
section
variable {R : Cn} {X : Cx} {W : WX} {O : Orc} {σ : L2.St} {Fz Fz' : Addr → Prop} {ρ ρ' : List Addr} {H H' : Hp} {h h' : Ev.Hp} {L : Ev.Env} {N : List Str} {sc : Scope} {pos : Pos}
/-- the machine's heap when a lambda has been made -/
theorem Core.lammed (C : Core R Fz ρ H h) {P f c' : Addr} {m : LmI} {q : Str} {cl : List (Str × Addr)} (t : Lammed R.tl P f c' m q cl H H') : Core R Fz ρ H' h ∧ Ext Fz ρ H Fz ρ H' := by
  obtain ⟨tb, atP⟩ := t.was
  have keep : ∀ {a : Addr} {o : HO}, H a = some o → (∀ ps, o ≠ .tbl ps) → H' a = some o := fun {a o} e nt =>
    (t.keep a (fun z => by rw [z, atP] at e; exact nt tb (Option.some.inj e).symm) (by rw [e]; simp)).trans e
  have E : Ext Fz ρ H Fz ρ H' := ⟨fun a o e _ nt => keep e nt, fun a e => by
    by_cases z : a = P
    · obtain ⟨_, e1, _⟩ := t.tab
      rw [z, e1]; simp
    · rw [t.keep a z e]; exact e, fun _ y => y, fun _ y => .inl y, ⟨[], by simp⟩, fun _ y => .inl y⟩
  refine ⟨⟨C.len, C.nd, fun n o a e1 e2 => ?_, C.fz, fun a y => E.some a (C.fzt a y), ⟨t.tabs, fun p hp => ?_⟩⟩, E⟩
  · have x := C.obj n o a e1 e2
    cases o with
    | lst xs => obtain ⟨vs, u, r⟩ := x; exact ⟨vs, keep u (by intro _ z; cases z), Reps.mono C E xs r⟩
    | dct kvs => obtain ⟨es, u, r⟩ := x; exact ⟨es, keep u (by intro _ z; cases z), RepK.mono C E kvs r⟩
    | ins c fs => obtain ⟨dx, es, u, k, r⟩ := x; exact ⟨dx, es, keep u (by intro _ z; cases z), k, FRep.mono C E r⟩
  · by_cases z : p = P
    · rw [z]; exact t.tab
    · obtain ⟨ps, a1, a2⟩ := C.tab.gen p hp
      exact ⟨ps, (t.keep p z (by rw [a1]; simp)).trans a1, a2⟩
/-- lambdas, one after another -/
def tLs (R : Cn) (ks : List Nat) : TA := fun σ H Q => Stn R (fun _ h Fz ρ => ∀ fs H', Core R Fz ρ H' h → Ext Fz ρ H Fz ρ H' → LamFs R H' fs ks → Q (fs.map V.ref) H') σ H
/-- their texts -/
def LamEs (R : Cn) : List Expr → List Nat → Prop
  | [], ks => ks = []
  | e :: es, ks => ∃ k r m p, ks = k :: r ∧ e = .Lambda m.params m.body m.scope p ∧ R.lo k m ∧ LamEs R es r
theorem pa_lams (ok : XOk R X W N sc) (xl : XL0 R X) : ∀ {es : List Expr} {ks : List Nat}, LamEs R es ks → PA X es (tLs R ks)
  | [], ks, e => by
    have e : ks = [] := e
    subst e
    exact pa_imp pa_nil fun σ H Q ⟨L, h, Fz, ρ, C, S, r⟩ => r [] H C Ext.refl rfl
  | _ :: es, _, ⟨k, ks, m, p, e1, e2, hm, rest⟩ => by
    subst e1 e2
    obtain ⟨_, e1, e2, ⟨c, P, co, mem1, mem2, uni⟩, lt⟩ := id xl
    have T := lt k m hm
    have one : PE X (.Lambda m.params m.body m.scope p) (fun σ H Q => Stn R (fun _ h Fz ρ => ∀ f H', Core R Fz ρ H' h → Ext Fz ρ H Fz ρ H' → LamF R H' f k → Q (.ref f) H') σ H) := by
      refine ⟨fun pins s σ H Q I ⟨L, h, Fz, ρ, C, S, r⟩ => ?_⟩
      have own : LamX.TabB X.base X.mg c P := by rw [ok.mg]; exact ok.base.2.2 _ mem1
      have shp : LamX.LamS X.env.scope m.scope := T.shape
      refine lam_mk (m := m) I own co mem2 e1 uni C.tab.lam (T.nodef _) (shp.has I.ok) fun f c' H1 s' I1 t => ?_
      obtain ⟨C1, E1⟩ := C.lammed t
      exact ⟨.ref f, H1, I1, rfl, r f H1 C1 E1 ⟨m, c', hm, by rw [e2]; exact t.at_, t.code⟩⟩
    refine pa_imp (pa_cons one (pa_lams ok xl rest) rfl) fun σ H Q ⟨L, h, Fz, ρ, C, S, r⟩ => ?_
    refine ⟨L, h, Fz, ρ, C, S, fun f H1 C1 E1 l1 => ?_⟩
    refine ⟨L, h, Fz, ρ, C1, S.mono C E1, fun fs H2 C2 E2 l2 => ?_⟩
    exact r (f :: fs) H2 C2 (E1.trans E2) ⟨k, _, rfl, l1.keep (fun a φ e => ext_xt C1 E2 a φ e), l2⟩
/-! ### lists of lambdas -/
theorem LamFs.length {H : Hp} : ∀ {fs : List Addr} {ks : List Nat}, LamFs R H fs ks → fs.length = ks.length
  | [], ks, e => by
    have e : ks = [] := e
    rw [e]
  | _ :: _, _, ⟨k, r, e, _, b⟩ => by rw [e, List.length_cons, List.length_cons, b.length]
def tLL (R : Cn) (ks : List Nat) : TE := fun σ H Q => Stn R (fun _ h Fz ρ => ∀ a fs H' Fz', Core R Fz' ρ H' h → Ext Fz ρ H Fz' ρ H' → LamL R Fz' H' a fs ks → Q (.ref a) H') σ H
theorem lam_list {Fz : Addr → Prop} {fs : List Addr} {ks : List Nat} {Q : VK} {h : Ev.Hp} {p : Addr} (C : Core R Fz ρ H h) (l : LamFs R H fs ks) (hp : H p = none) :
    Core R (fun a => Fz a ∨ a = p) ρ (upd H p (.lst (fs.map V.ref))) h ∧ Ext Fz ρ H (fun a => Fz a ∨ a = p) ρ (upd H p (.lst (fs.map V.ref))) ∧ LamL R (fun a => Fz a ∨ a = p) (upd H p (.lst (fs.map V.ref))) p fs ks := by
  obtain ⟨C1, E1⟩ := C.grow hp (.lst (fs.map V.ref)) (Fz' := fun a => Fz a ∨ a = p) (fun _ z => .inl z) fun _ z => z
  exact ⟨C1, E1, .inr rfl, upd_same, l.keep (fun a φ e => ext_xt C E1 a φ e)⟩
theorem pe_lams (ok : XOk R X W N sc) (xl : XL0 R X) {es : List Expr} {ks : List Nat} (he : LamEs R es ks) (hl : ks.length ≤ Ev.SL) : PE X (.List es pos) (tLL R ks) := by
  refine pe_imp (pe_lst (pa_lams ok xl he)) fun σ H Q ⟨L, h, Fz, ρ, C, S, r⟩ => ⟨L, h, Fz, ρ, C, S, fun fs H1 C1 E1 l1 => ⟨?_, fun p hp => ?_⟩⟩
  · rw [List.length_map, l1.length, ← SL_eq]; exact hl
  · obtain ⟨C2, E2, l2⟩ := lam_list (Q := Q) C1 l1 hp
    exact r p fs _ _ C2 (E1.trans E2) l2
/-- a name's list, or one that is longer -/
def tLB (R : Cn) (i : Nat) (ks : List Nat) : TE := fun σ H Q => Stn R (fun L h Fz ρ => ∃ js, L[i]? = some (.lam js) ∧ (js ++ ks).length ≤ Ev.SL ∧ ∀ a fs H' Fz', Core R Fz' ρ H' h → Ext Fz ρ H Fz' ρ H' → LamL R Fz' H' a fs (js ++ ks) → Q (.ref a) H') σ H
theorem pe_lamN {i : Nat} {x : Str} (ok : XOk R X W N sc) (hi : N[i]? = some x) (hv : Vis sc x) (d1 : (x == ("__debug__" : Str)) = false) (d2 : (x == ("__classdict__" : Str)) = false) : PE X (.Name x pos) (tLB R i []) := by
  refine pe_imp (pe_var (i := i) (by rw [ok.nm]; exact hi) (by rw [ok.sc]; exact hv) d1 d2) fun σ H Q ⟨L, h, Fz, ρ, C, S, js, e1, e2, r⟩ => ?_
  obtain ⟨_, a, fs, e3, l⟩ := S.lam i js e1
  rw [List.append_nil] at r
  exact ⟨.ref a, e3, r a fs H Fz C Ext.refl l⟩
theorem pe_lamB {i : Nat} {x : Str} {p1 p2 : Pos} {es : List Expr} {ks : List Nat} (ok : XOk R X W N sc) (xl : XL0 R X) (hi : N[i]? = some x) (hv : Vis sc x) (d1 : (x == ("__debug__" : Str)) = false) (d2 : (x == ("__classdict__" : Str)) = false) (he : LamEs R es ks) :
    PE X (.BinOp (.Name x p1) .Add (.List es p2) pos) (tLB R i ks) := by
  refine pe_imp (pe_op op_cat (pe_lamN ok hi hv d1 d2) (pe_lst (pa_lams ok xl he))) fun σ H Q ⟨L, h, Fz, ρ, C, S, js, e1, e2, r⟩ => ?_
  have hj : (js ++ ([] : List Nat)).length ≤ Ev.SL := by rw [List.append_nil]; rw [List.length_append] at e2; omega
  refine ⟨L, h, Fz, ρ, C, S, js, e1, hj, fun a fs H1 F1 C1 E1 l1 => ?_⟩
  rw [List.append_nil] at l1
  refine ⟨L, h, F1, ρ, C1, S.mono C E1, fun gs H2 C2 E2 l2 => ⟨?_, fun p hp => ?_⟩⟩
  · rw [List.length_map, l2.length, ← SL_eq]; rw [List.length_append] at e2; omega
  · have l1' : LamL R F1 H2 a fs js := l1.keep (fun a φ e => ext_xt C1 E2 a φ e) (fun a o f e n => E2.keep a o e (C1.fz a f) n) (fun _ z => z)
    obtain ⟨C3, E3⟩ := C2.grow hp (.lst (gs.map V.ref)) (Fz' := F1) (fun _ z => z) fun _ z => .inl z
    have l1'' : LamL R F1 (upd H2 p (.lst (gs.map V.ref))) a fs js := l1'.keep (fun a φ e => ext_xt C2 E3 a φ e) (fun a o f e n => E3.keep a o e (C2.fz a f) n) (fun _ z => z)
    have l2' : LamFs R (upd H2 p (.lst (gs.map V.ref))) gs ks := l2.keep (fun a φ e => ext_xt C2 E3 a φ e)
    refine ⟨a, p, fs.map V.ref, gs.map V.ref, rfl, rfl, l1''.2.1, upd_same, ?_, fun q hq => ?_⟩
    · rw [List.length_map, List.length_map, l1.2.2.length, l2.length, ← SL_eq]; rw [List.length_append] at e2; exact e2
    · obtain ⟨C4, E4, l4⟩ := lam_list (Q := Q) C3 (l1''.2.2.append l2') hq
      rw [List.map_append] at C4 E4 l4
      have l5 : LamL R (fun a => F1 a ∨ a = q) (upd (upd H2 p (.lst (gs.map V.ref))) q (.lst (fs.map V.ref ++ gs.map V.ref))) q (fs ++ gs) (js ++ ks) := l4
      exact r q (fs ++ gs) _ _ C4 (E1.trans (E2.trans (E3.trans E4))) l5
/-! ### statements -/
theorem Slots.setLam (S : Slots R Fz ρ H L σ) (i : Nat) {a : Addr} {fs : List Addr} {ks : List Nat} (hk : R.lk = true) (l : LamL R Fz H a fs ks) : Slots R Fz ρ H (L.set i (.lam ks)) (σ.set i (some (.ref a))) := by
  have no : ∀ (j : Nat) (s : Slot), (L.set i (.lam ks))[j]? = some s → (∀ ks, s ≠ .lam ks) → i ≠ j ∧ L[j]? = some s := fun j s e n => by
    by_cases z : i = j
    · subst z
      rw [List.getElem?_set, if_pos rfl] at e
      split at e
      · cases e; exact absurd rfl (n _)
      · cases e
    · rw [List.getElem?_set_ne z] at e
      exact ⟨z, e⟩
  refine ⟨by rw [List.length_set, List.length_set]; exact S.len, fun j v e => ?_, fun j v e => ?_, fun j k v w b ne e1 e2 e3 => ?_, fun j js e => ?_⟩
  · obtain ⟨z, e⟩ := no j _ e (by intro _ y; cases y)
    rw [List.getElem?_set_ne z]
    exact S.val j v e
  · obtain ⟨z, e⟩ := no j _ e (by intro _ y; cases y)
    rw [List.getElem?_set_ne z]
    exact S.own j v e
  · obtain ⟨z1, e1⟩ := no j _ e1 (by intro _ y; cases y)
    obtain ⟨z2, e2⟩ := no k _ e2 (by intro _ y; cases y)
    rw [List.getElem?_set_ne z1] at e3
    rw [List.getElem?_set_ne z2]
    exact S.sep j k v w b ne e1 e2 e3
  · by_cases z : i = j
    · subst z
      rw [List.getElem?_set, if_pos rfl] at e
      split at e
      · rename_i hl
        cases e
        exact ⟨hk, a, fs, by rw [List.getElem?_set, if_pos rfl, if_pos (by rw [← S.len]; exact hl)], l⟩
      · cases e
    · rw [List.getElem?_set_ne z] at e
      rw [List.getElem?_set_ne z]
      exact S.lam j js e
theorem Now.setLam {B : Bs} (n : Now R B L h Fz ρ σ H) (C' : Core R Fz' ρ H' h) (E : Ext Fz ρ H Fz' ρ H') (i : Nat) {a : Addr} {fs : List Addr} {ks : List Nat} (hk : R.lk = true) (l : LamL R Fz' H' a fs ks) : Now R B (L.set i (.lam ks)) h Fz' ρ (σ.set i (some (.ref a))) H' := by
  refine ⟨C', (n.S.mono n.C E).setLam i hk l, n.E.trans E, fun j v b e1 e2 => ?_⟩
  by_cases z : i = j
  · subst z
    rw [List.getElem?_set, if_pos rfl] at e1
    split at e1 <;> cases e1
  · rw [List.getElem?_set_ne z] at e1 e2
    exact n.own j v b e1 e2
theorem s_lams {i : Nat} {x : Str} {p p2 : Pos} {es : List Expr} {ks : List Nat} (ok : XS R X W N sc) (hk : R.lk = true) (hi : N[i]? = some x) (hx : Loc sc x) (he : LamEs R es ks) (hl : ks.length ≤ Ev.SL) : SS R W O X (.Assign [.Name x p] (.List es p2) pos) (.lams i ks) :=
  ps_imp (ps_set (by rw [ok.nm]; exact ok.nd) (by rw [ok.nm]; exact hi) (by rw [ok.sc]; exact hx) (pe_lams ok.toXOk (ok.xl hk) he hl) rfl (.inl (by rw [ok.fn]))) fun D σ H ⟨B, L, h, Fz, ρ, n, r⟩ => by
    simp only [Ev.ex] at r
    exact ⟨L, h, Fz, ρ, n.C, n.S, fun a fs H' F' C' E' l => r _ H' F' ρ (n.setLam C' E' i hk l) (E'.w n.C)⟩
theorem s_lamx {i : Nat} {x : Str} {p p1 p2 p3 : Pos} {es : List Expr} {ks : List Nat} (ok : XS R X W N sc) (hk : R.lk = true) (hi : N[i]? = some x) (hx : Loc sc x) (hv : Vis sc x) (d1 : (x == ("__debug__" : Str)) = false) (d2 : (x == ("__classdict__" : Str)) = false) (he : LamEs R es ks) :
    SS R W O X (.Assign [.Name x p] (.BinOp (.Name x p1) .Add (.List es p2) p3) pos) (.lamx i ks) :=
  ps_imp (ps_set (by rw [ok.nm]; exact ok.nd) (by rw [ok.nm]; exact hi) (by rw [ok.sc]; exact hx) (pe_lamB ok.toXOk (ok.xl hk) hi hv d1 d2 he) rfl (.inl (by rw [ok.fn]))) fun D σ H ⟨B, L, h, Fz, ρ, n, r⟩ => by
    simp only [Ev.ex] at r
    cases e : L[i]? with
    | none => simp only [e] at r; exact False.elim r
    | some s =>
      cases s with
      | lam js =>
        simp only [e] at r
        by_cases hl : (js ++ ks).length ≤ Ev.SL
        · simp only [hl, if_true] at r
          exact ⟨L, h, Fz, ρ, n.C, n.S, js, e, hl, fun a fs H' F' C' E' l => r _ H' F' ρ (n.setLam C' E' i hk l) (E'.w n.C)⟩
        · simp only [hl, if_false] at r
          exact False.elim r
      | _ => simp only [e] at r; exact False.elim r
end
end Sd
end
section
set_option maxRecDepth 100000
set_option maxHeartbeats 2000000
/-! a list comprehension whose test leans on the frame around it -/
namespace Sd
open PySem PySem.Spec PyProof.Rows L2
open Ev (LV LO CE CEs Src Tg Tgs CKs CS CSs Prg Orc Slot SR)
section
variable {X : Cx}
theorem lc_own {pins : List (Addr × Obj)} {s : Shared} {σ : L2.St} {H : Hp} {Q : VK} {elt tg iter : Expr} {ifs : List Expr} {scope : Scope} {own : List (Str × Nat)} {pos : Pos} {wi : TI} {g : TG} {tt : TT} {te : TE}
    (calm : X.calm = true) (nd : X.N.Nodup) (iv : Inv X pins σ H s) (walk : PI X tg iter wi) (blk : BlkOk X.N X.env.scope scope own)
    (hg : ∀ (s : Shared) (H : Hp) (C : Addr) (cl : List (Str × Addr)) (fp : List Addr), PG (X.blk s H scope (compEnvC scope cl C X.env) fp) tg g)
    (ht : ∀ (s : Shared) (H : Hp) (C : Addr) (cl : List (Str × Addr)) (fp : List Addr), Inv X pins σ H s → (∀ b ∈ fp, FpOk X pins H b) → PTs (X.blk s H scope (compEnvC scope cl C X.env) fp) ifs tt)
    (he : ∀ (s : Shared) (H : Hp) (C : Addr) (cl : List (Str × Addr)) (fp : List Addr), PE (X.blk s H scope (compEnvC scope cl C X.env) fp) elt te)
    (hs : ∀ x, foldedSetIterable iter X.env x = pure x) (start : tLc wi g tt te (own.map (·.2)) σ H Q) :
    wpAny (model X.prog X.w) X.A (eval (.ListComp elt [⟨tg, iter, ifs, 0⟩] scope pos) X.env) (fun v s' => ∃ x H', Inv X pins σ H' s' ∧ RelV x v ∧ Q x H') X.xe s := by
  rw [eval_ListComp]
  have caught : ∀ y ∈ scope.names, y.2 = .free → ∃ c, X.env.cells.lookup y.1 = some c := fun y hy e => (blk.free y hy e).elim (fun k => iv.ok.has _ (.inl k)) fun k => iv.ok.has _ (.inr k)
  refine wpAny_comprehension_free (use := none) rfl hs (closure_ok caught) blk.kind (fun y hy e => by rw [blk.uniq y hy, e]) (thn (walk.run pins s σ H _ iv start) fun _ _ a => thn a fun _ sA b => ?_)
  obtain ⟨it, fp, tn, J, HA, rfl, ivA, turns, atA, okA, more⟩ := b
  refine wpAny_newObj_type (newEnv_comp ?_) (by show 0 ≤ sizeLine; decide)
  -- the new list
  have freeD : HA sA.heap.objs.size = none := ivA.hok.fresh (Nat.le_refl _)
  obtain ⟨W, ⟨m0, w0⟩, turn⟩ := more _ freeD
  have pushK : ∀ b o, sA.heap.get? b = some o → (sA.heap.push { cls := .type "list", data := .seq ([] : List Value).toArray }).get? b = some o := fun b o e => Heap.get?_push_of_some _ e
  have ivB : Inv X pins σ (upd HA sA.heap.objs.size (.lst [])) ({ sA with heap := sA.heap.push { cls := .type "list", data := .seq ([] : List Value).toArray } } : Shared) :=
    ivA.laid (t' := sA.toks) pushK (Nat.le_refl _) ⟨Nat.zero_le _, [], 0, .nil, Heap.get?_push_size _ rfl⟩
  have small : ∀ b ∈ fp, b < sA.heap.objs.size := fun b hb => by
    obtain ⟨o, e, _⟩ := turns.obj _ _ atA b hb
    exact Heap.lt_size e
  have atB : tn 0 (sA.heap.push { cls := .type "list", data := .seq ([] : List Value).toArray }) := turns.keep _ _ _ atA fun b _ o e => pushK b o e
  have okB : ∀ b ∈ fp, FpOk X pins (upd HA sA.heap.objs.size (.lst [])) b := fun b hb => ⟨by rw [upd_ne (Nat.ne_of_lt (small b hb))]; exact (okA b hb).1, (okA b hb).2⟩
  have szB : ∀ b ∈ fp, b < (sA.heap.push { cls := .type "list", data := .seq ([] : List Value).toArray }).objs.size := fun b hb => by rw [Heap.size_push]; exact Nat.lt_succ_of_lt (small b hb)
  generalize hB : ({ sA with heap := sA.heap.push { cls := .type "list", data := .seq ([] : List Value).toArray } } : Shared) = sB at ivB
  generalize sA.heap.objs.size = D at ivB okB w0 turn freeD
  have atC : tn 0 sB.heap := by rw [← hB]; exact atB
  have szC : ∀ b ∈ fp, b < sB.heap.objs.size := by rw [← hB]; exact szB
  generalize hHB : upd HA D (.lst []) = HB at ivB okB w0
  have into := block_start ivB blk nd fun b hb => ⟨okB b hb, szC b hb⟩
  generalize hcl : cellsFrom (sB.heap.objs.size + 1) scope.names (cloFrom X.env.cells scope.names []) = cl at into
  have pg := hg sB HB sB.heap.objs.size cl fp
  have pt := ht sB HB sB.heap.objs.size cl fp ivB okB
  have pe := he sB HB sB.heap.objs.size cl fp
  generalize hce : compEnvC scope cl sB.heap.objs.size X.env = ce at into pg pt pe
  have locC : ce.locals = sB.heap.objs.size := by rw [← hce]; rfl
  generalize hsC : ({ sB with heap := pushCells (sB.heap.push { cls := .type "dict", data := .dict #[] }) scope.names } : Shared) = sC at into
  have atD : tn 0 sC.heap := turns.keep _ _ _ atC fun b _ o e => by rw [← hsC]; exact pushCells_keeps _ _ _ _ (Heap.get?_push_of_some _ e)
  have none0 : ∀ b ∈ fp, HB b = none := fun b hb => (okB b hb).1
  have okN : ∀ {σ' : L2.St} {H' : Hp} {s' : Shared}, Inv (X.blk sB HB scope ce fp) [] σ' H' s' → (∀ b ∈ fp, H' b = none) → ∀ b ∈ fp, FpOk (X.blk sB HB scope ce fp) [] H' b := by
    intro σ' H' s' J' nn b hb
    exact ⟨nn b hb, (J'.ok.exf b hb).1, J'.ok.exfs b hb, .inl hb, (J'.ok.exf b hb).2, fun q hq => absurd (show q ∈ ([] : List (Addr × Obj)) ++ [] from hq) (by simp)⟩
  have loop : codeAny (model X.prog X.w) X.A (.compLoop (.ListComp elt [⟨tg, iter, ifs, 0⟩] scope pos) 0 (.ref it) (.ref D) ce) (compPost (model X.prog X.w) X.A X.xe none (fun v s' => ∃ x H', Inv X pins σ H' s' ∧ RelV x v ∧ Q x H') (.ref D) sB.heap.objs.size) sC := by
    refine compLoop_any (fun k z => ∃ i H', Inv (X.blk sB HB scope ce fp) [] (wipe σ (own.map (·.2))) H' z ∧ tn i z.heap ∧ (∀ b ∈ fp, H' b = none) ∧ W i k H') ?_ m0 ⟨0, HB, into, atD, none0, w0⟩
    rintro k z ⟨i, Hz, Iz, tz, nz, wz⟩
    rcases turn i k Hz wz with ⟨halt, fin⟩ | ⟨go, Nx, less, step⟩
    · refine thnF (turns.done (X.blk sB HB scope ce fp) rfl rfl rfl calm i [] z _ Hz (fun _ _ => False) Iz (okN Iz nz) tz halt) fun r y ⟨hr, Iy⟩ => ?_
      subst hr
      have back : Inv X pins σ Hz y := ivB.call' (ch := fp) Iy.os Iy.base Iy.hok Iy.bare fun b hb => ⟨(okB b hb).2.2.2.1, (okB b hb).2.1, (okB b hb).2.2.2.2.1, (okB b hb).2.2.2.2.2⟩
      have noC : Hz sB.heap.objs.size = none := locC ▸ (show Hz ce.locals = none from Iy.free)
      obtain ⟨m, mh, _⟩ := Iy.loc
      have mh : y.heap.Ns ce.locals m := mh
      rw [locC] at mh
      obtain ⟨f0, f1, f2, f3, f4, f5⟩ := ivB.fpOk (Nat.le_refl _) noC
      exact ⟨m, mh, fun g' sb => ⟨.ref D, Hz, back.turned (t' := y.toks) (fun b o hb e => (sb.2 b hb).trans e) f0 f1 f3 f4 f5, rfl, fin⟩⟩
    · refine thnF (turns.item (X.blk sB HB scope ce fp) rfl rfl rfl calm i [] z _ Hz (fun _ _ => False) Iz (okN Iz nz) tz go) fun r y ⟨u, hr, hy⟩ => ?_
      subst hr
      refine thnF hy fun _ s7 ⟨x, H7, I7, r7, y7, t7, n7⟩ => ?_
      refine thnF (pg.run _ s7 _ H7 x u _ (I7.pinned (okN I7 n7) (turns.obj _ _ t7)) r7 (step x H7 y7)) fun _ s8 ⟨σ8, H8, I8, same8, q8⟩ => ?_
      refine thnF (pt.run _ s8 σ8 H8 _ I8 q8) fun b s9 ⟨H9, I9, q9⟩ => ?_
      have close : ∀ {s' : Shared} {H' : Hp}, Inv (X.blk sB HB scope ce fp) ([] ++ pinsAt fp s7.heap) σ8 H' s' → Nx H' → ∃ m, m < k ∧ ∃ i H', Inv (X.blk sB HB scope ce fp) [] (wipe σ (own.map (·.2))) H' s' ∧ tn i s'.heap ∧ (∀ b ∈ fp, H' b = none) ∧ W i m H' := by
        intro s' H' I' nx
        obtain ⟨m', lt, w'⟩ := less H' nx
        have kept : ∀ b ∈ fp, ∀ o, s7.heap.get? b = some o → s'.heap.get? b = some o ∧ H' b = none := by
          intro b hb o e
          have z := I'.pin (b, o) (List.mem_append_right _ (List.mem_append_right _ (mem_pinsAt hb e)))
          exact ⟨z.1, z.2.1⟩
        refine ⟨m', lt, i + 1, H', (I'.unpinned (pins := [])).weak (by rw [← same8, wipe_length]) (fun j v e => by rw [← same8] at e; exact (wipe_some e).1), turns.keep _ _ _ t7 fun b hb o e => (kept b hb o e).1, fun b hb => ?_, w'⟩
        obtain ⟨o, e, _⟩ := turns.obj _ _ t7 b hb
        exact (kept b hb o e).2
      cases b with
      | false =>
        simp only [Bool.false_eq_true, if_false] at q9 ⊢
        exact close I9 q9
      | true =>
        simp only [if_true] at q9 ⊢
        refine thnF (pe.run _ s9 σ8 H9 _ I9 q9) fun v s10 ⟨yv, H10, I10, r10, acc, hD, hz, nx⟩ => ?_
        exact app_ok (X := X.blk sB HB scope ce fp) I10 hD hz r10 fun s11 I11 => close I11 nx
  subst hsC
  subst hce
  subst hcl
  subst hB
  exact codeAny_compStart_list loop (turns.self X.A 0 _ _ _ atD loop)
end
end Sd
end
section
set_option maxRecDepth 100000
set_option maxHeartbeats 2000000
/-! a lambda from a list is called by a def that got it -/
namespace Sd
open PySem PySem.Spec PyProof.Rows L2
open Ev (LV LO CE CEs Src Tg Tgs CKs CS CSs Prg Orc Slot SR)
section
variable {X : Cx} {pins : List (Addr × Obj)} {σ : L2.St} {H : Hp} {s : Shared}
/-- the call x() within the def g that was entered at s, x the lambda m that X made -/
theorem pe_actO {CXg : CXT} {Eg E : XK} {Ng : List Str} {qg a : Str} {sg : Scope} {g f c' : Addr} {cdg : Value} {m : LmI} {k i : Nat} {pn : List (Addr × Obj)} {xe : Value → Shared → Prop} {W : WX} {tb : TE} {p1 p2 : Pos}
    (iv : Inv X pins σ H s) (ls : LamX.LamS X.env.scope m.scope)
    (bind : ∀ (q : Str) (cl : List (Str × Addr)) (pm cv ctv : Value), bindArgs (PySem.W.kla_fn "<lambda>" q m.params m.body m.scope cl pm cv ctv) ⟨[], []⟩ = pure [])
    (tk : Takes ((cxOf CXg X.prog X.w X.K X.mg X.base Ng qg sg g cdg X.A X.stack s H Eg).tr pn xe) W) (hW : ∀ cls d σ' H', E cls d H' → W cls d σ' H') (room : Room (k + 1) (X.A.deeper (envOfC qg sg s.heap.objs.size g cdg)))
    (body : ∀ (A : Around) (outer : List PySem.Env) (s : Shared) (H : Hp), Room k (A.deeper (LamX.lamEnv X m.scope s.heap.objs.size f c')) → PE (LamX.lamCx X A outer s H E m.scope f c') m.body tb)
    (hN : Ng[i]? = some a) (hv : Vis sg a) (d1 : (a == ("__debug__" : Str)) = false) (d2 : (a == ("__classdict__" : Str)) = false) :
    PE ((cxOf CXg X.prog X.w X.K X.mg X.base Ng qg sg g cdg X.A X.stack s H Eg).tr pn xe) (.Call (.Name a p1) [] [] p2)
      (fun σZ HZ Q => σZ[i]? = some (some (.ref f)) ∧ HZ c' = some (LamX.CodeO c' (X.env.qual ++ "<lambda>")) ∧ HZ f = some (LamO m (X.env.qual ++ "<lambda>") (cloFrom X.env.cells m.scope.names []) f c') ∧ tb σ HZ Q) := by
  refine ⟨fun pz sz σz Hz Q Iz ⟨e1, e2, e3, e4⟩ => ?_⟩
  refine wpAny_Call_Name_kw (thn ((pe_var (pos := p1) (i := i) hN hv d1 d2).run pz sz σz Hz (fun v H1 => v = .ref f ∧ H1 = Hz) Iz ⟨.ref f, e1, rfl, rfl⟩) fun u s1 ⟨v, H1, I1, r1, ⟨q1, q2⟩⟩ => ?_)
  subst q1
  subst q2
  obtain rfl : u = Value.ref f := r1
  obtain ⟨⟨pm, ctv, ob⟩, _, _⟩ := I1.hok f _ e3
  obtain ⟨⟨oc, vs, t, hoc, hdc, hvc⟩, _, _⟩ := I1.hok c' _ e2
  refine PySem.W.callWith_F0 ⟨_, _, _, _, ob⟩ ?_
  have unl : Un (frs X.stack) [] H H1 s.heap s1.heap := I1.base
  have pass : Passes (L2.CX X.prog X.w) ((cxOf CXg X.prog X.w X.K X.mg X.base Ng qg sg g cdg X.A X.stack s H Eg).tr pn xe) E := passes_call tk hW
  have run : codeAny (model X.prog X.w) (X.A.deeper (envOfC qg sg s.heap.objs.size g cdg)) (.call (.ref f) ⟨[], []⟩) (CR (L2.CX X.prog X.w) (envOfC qg sg s.heap.objs.size g cdg :: X.stack) X.prog X.w H1 s1 Q E) s1 := by
    refine PySem.W.kla_callFunE room.depth ob rfl ls.co ls.gen rfl ⟨c', oc, vs, t, rfl, hoc, hdc, hvc⟩ ?_
    rw [bind]
    refine wpAny_pure (wpAny_newFunctionEnv (fun y hy => (ls.own y hy).2) (fun y hy => absurd hy (by simp)) (fun hp hns hsb => ⟨I1.nolimit.fresh _ hsb, ?_⟩) ls.kind)
    have stays : ∀ b o, s1.heap.get? b = some o → hp.get? b = some o := fun b o e => hsb.extBut b o (Nat.ne_of_lt (Heap.lt_size e)) (Heap.get?_push_of_some _ e)
    have begin_ : Inv (LamX.lamCx X (X.A.deeper (envOfC qg sg s.heap.objs.size g cdg)) (envOfC qg sg s.heap.objs.size g cdg :: X.stack) s1 H1 E m.scope f c') [] σ H1 { s1 with heap := hp, toks := s1.toks + ([] : List (Str × Value)).length } :=
      LamX.lam_start2 iv ls I1.env0 room.hd unl hns stays
    refine PySem.W.kla_codeExpr (wpAny_mono ((body _ _ s1 H1 (room.deeper _)).run [] _ _ H1 Q begin_ e4) (fun v s' hq => ?_) fun e s' hq => hq)
    obtain ⟨x, H', J, rv, q⟩ := hq
    exact ⟨x, H', J.os, J.bare, J.base, J.hok, rv, q⟩
  refine wpAny_call (codeAny_mono run fun r s' hq => ?_)
  cases r with
  | error e => exact pass pz σz H1 s1 e s' I1 hq
  | ok fl =>
    cases fl with
    | ret u => exact I1.after hq
    | next => exact hq.elim
    | brk => exact hq.elim
    | cont => exact hq.elim
end
/-- the def that calls what it got and tells ret of an exception -/
structure ToldD (R : Cn) (x : Str) (CS : Addr) (ret : Str) : Prop where
  ex : ∃ (g : Addr) (Ng : List Str) (a e : Str) (j : Nat) (pg : Arguments) (sg : Scope) (dV kV doc pm cdv ct oc : Value) (an od : Option Addr) (osl : Array (Option Value)) (p1 p2 p3 p4 p5 p6 p7 p8 : Pos),
    R.mg x = some (.ref g) ∧ PySem.W.keepIn R.K (.ref g) = true ∧
    R.K.lookup g = some ⟨oc, od, .func (PySem.W.fnOf x x pg [.Try [.Return (some (.Call (.Name a p1) [] [] p2)) p3] [.ExceptHandler (some (.Name e p4)) none [.Return (some (.Constant (.str ret) j p5)) p6] p7] [] [] p8] sg dV kV doc pm an cdv ct), osl⟩ ∧
    PySem.W.codeIn R.K cdv x = true ∧
    L2.Binds R.K (PySem.W.fnOf x x pg [.Try [.Return (some (.Call (.Name a p1) [] [] p2)) p3] [.ExceptHandler (some (.Name e p4)) none [.Return (some (.Constant (.str ret) j p5)) p6] p7] [] [] p8] sg dV kV doc pm an cdv ct) [a] [] ∧
    FnScope Ng [a] sg ∧ Ng[0]? = some a ∧ Vis sg a ∧ (a == ("__debug__" : Str)) = false ∧ (a == ("__classdict__" : Str)) = false ∧
    sg.names.lookup e = some .globalImplicit ∧ R.mg e = some (.ref CS) ∧ (e == ("__debug__" : Str)) = false
section
variable {R : Cn} {X : Cx} {W : WX} {N : List Str} {sc : Scope} {pins : List (Addr × Obj)} {σ : L2.St} {HB : Hp} {sB : Shared}
/-- the lambda m stands at f -/
def LamA (X : Cx) (m : LmI) (f c' : Addr) (H : Hp) : Prop := H f = some (LamO m (X.env.qual ++ "<lambda>") (cloFrom X.env.cells m.scope.names []) f c')
def tToldN (R : Cn) (X : Cx) (σ : L2.St) (CS : Addr) (ret : Str) (t : Nat → XK → TE) (j : Nat) : TE := fun σZ HZ Q => ∃ f c' i m, R.lo i m ∧ σZ[j]? = some (some (.ref f)) ∧ LamA X m f c' HZ ∧ HZ c' = some (LamX.CodeO c' (X.env.qual ++ "<lambda>")) ∧
  LamX.TTold X.K CS ret (fun E H' Q' => LamA X m f c' H' ∧ t i E σ H' Q') HZ Q
/-- what the lambdas' bodies do -/
def LamBd (R : Cn) (X : Cx) (t : Nat → XK → TE) (k : Nat) : Prop := ∀ i m, R.lo i m → ∀ (A : Around) (outer : List PySem.Env) (s : Shared) (H : Hp) (E : XK) (f c' : Addr), Room k (A.deeper (LamX.lamEnv X m.scope s.heap.objs.size f c')) → PE (LamX.lamCx X A outer s H E m.scope f c') m.body (t i E)
/-- the def that gets a lambda, called with it -/
theorem told_run {x : Str} {CS : Addr} {ret : Str} (TD : ToldD R x CS ret) : ∃ g, R.mg x = some (.ref g) ∧ PySem.W.keepIn R.K (.ref g) = true ∧
    ∀ {X : Cx} {W : WX} {N : List Str} {sc : Scope} {pins : List (Addr × Obj)} {σ : L2.St} {H1 : Hp} {s1 : Shared} {k i : Nat} {m : LmI} {t : Nat → XK → TE} {f c' : Addr} {Q : VK}, XOk R X W N sc → Inv X pins σ H1 s1 → Room (k + 2) X.A → LamT X.env.scope m → LamBd R X t k → R.lo i m →
      LamA X m f c' H1 → H1 c' = some (LamX.CodeO c' (X.env.qual ++ "<lambda>")) → LamX.TTold X.K CS ret (fun E H' Q' => LamA X m f c' H' ∧ t i E σ H' Q') H1 Q →
      codeAny (model X.prog X.w) X.A (.call (.ref g) ⟨[.ref f], []⟩) (CR C8.CX0 X.stack X.prog X.w H1 s1 Q C8.E0) s1 := by
  obtain ⟨g, Ng, a, e, jj, pg, sg, dV, kV, doc, pm, cdv, ct, oc, an, od, osl, q1, q2, q3, q4, q5, q6, q7, q8, hm, hk, lk, hcg, hb, Sg, hNg, hva, da, dc, hge, hme, hde⟩ := TD.ex
  refine ⟨g, hm, hk, ?_⟩
  intro X W N sc pins σ H1 s1 k i m t f c' Q ok back room lt bodies mi e2 e3 e4
  refine LamX.run_ofS (N := Ng) (ps := [a]) (us := [.ref f]) (vs := [.ref f]) (k := k + 1) (K := X.K) (mg := X.mg) (base := X.base) (by rw [ok.K]; exact lk) (by rw [ok.K]; exact hcg) Sg room back.env0 (by rw [ok.K] at *; exact hb s1 [.ref f] (by have := back.kIn; rwa [ok.K] at this) rfl) (.cons rfl .nil) rfl fun hr' => ?_
  have G := LamX.told_gives (X := X) (Ng := Ng) (x := x) (a := a) (e := e) (q := X.env.qual ++ "<lambda>") (ret := ret) (sg := sg) (g := g) (CS := CS) (cdg := cdv) (j := jj) (p1 := q1) (p2 := q2) (p3 := q3) (p4 := q4) (p5 := q5) (p6 := q6) (p7 := q7) (p8 := q8) hge (by rw [ok.mg]; exact hme) hde (fun f => by
    match Ng, hNg with
    | _ :: _, _ => rfl)
  obtain ⟨t', ht', hq'⟩ := G f c' s1 H1 Q (fun E H' Q' => LamA X m f c' H' ∧ t i E σ H' Q') (fun W' pn xe E p1 p2 tk hW => pe_imp (pe_actO (m := m) (k := k) (tb := t i E) (i := 0) back lt.shape lt.bind tk hW hr' (fun A outer s H hr2 => bodies i m mi A outer s H E f c' hr2) hNg hva da dc) fun σ' H' Q' ⟨y1, y2, y3, y4⟩ => ⟨y1, y2, y3, y4⟩) e3 e4
  exact ⟨t', ht'.nox, hq'⟩
theorem pe_toldN {scope : Scope} {ce : PySem.Env} {fp : List Addr} {x fn : Str} {CS : Addr} {ret : Str} {k j : Nat} {p1 p2 p3 : Pos} {t : Nat → XK → TE}
    (TD : ToldD R x CS ret) (ok : XOk R X W N sc) (ivB : Inv X pins σ HB sB) (okB : ∀ b ∈ fp, FpOk X pins HB b)
    (gl : Gl (X.blk sB HB scope ce fp) x) (db : (x == ("__debug__" : Str)) = false) (hN : X.N[j]? = some fn) (hv : Vis ce.scope fn) (d1 : (fn == ("__debug__" : Str)) = false) (d2 : (fn == ("__classdict__" : Str)) = false)
    (room : Room (k + 2) X.A) (lt : ∀ i m, R.lo i m → LamT X.env.scope m) (bodies : LamBd R X t k) :
    PE (X.blk sB HB scope ce fp) (.Call (.Name x p1) [.Name fn p2] [] p3) (tToldN R X σ CS ret t j) := by
  obtain ⟨g, hm, hk, run⟩ := told_run TD
  refine ⟨fun pz sz σz Hz Q Iz ⟨f, c', i, m, mi, e1, e2, e3, e4⟩ => ?_⟩
  refine wpAny_Call_Name_kw (ld_glob Iz gl (show X.mg x = some (.ref g) by rw [ok.mg]; exact hm) ?_ db)
  refine PySem.W.callWith_K (h₀ := X.base) ivB.ok.mod.kin (by rw [ok.K]; exact hk) ?_ (by rfl) (by rfl)
  show wpAny _ _ (spliced ((false, eval (.Name fn p2) ce) :: backTo p3 (starEach [] ce))) _ _ sz
  have hN' : (X.blk sB HB scope ce fp).N[j]? = some fn := hN
  have hv' : Vis (X.blk sB HB scope ce fp).env.scope fn := hv
  refine Calls.spliced_cons (thn ((pe_var (pos := p2) (i := j) hN' hv' d1 d2).run pz sz σz Hz (fun v H1 => v = .ref f ∧ H1 = Hz) Iz ⟨.ref f, e1, rfl, rfl⟩) fun u s1 ⟨v, H1, I1, r1, ⟨z1, z2⟩⟩ => ?_)
  subst z1
  subst z2
  obtain rfl : u = Value.ref f := r1
  refine Calls.spliced_nil ⟨I1.kIn, ?_⟩
  have back : Inv X pins σ H1 s1 := ivB.call' (ch := fp) I1.os I1.base I1.hok I1.bare fun b hb => ⟨(okB b hb).2.2.2.1, (okB b hb).2.1, (okB b hb).2.2.2.2.1, (okB b hb).2.2.2.2.2⟩
  have go : codeAny (model X.prog X.w) X.A (.call (.ref g) ⟨[.ref f], []⟩) (CR C8.CX0 X.stack X.prog X.w H1 s1 Q C8.E0) s1 := run (X := X) ok back room (lt i m mi) bodies mi e2 e3 e4
  refine wpAny_call (codeAny_mono go fun r s2 hq => ?_)
  cases r with
  | error e => exact (show False from hq).elim
  | ok fl =>
    cases fl with
    | ret u => exact I1.after hq
    | next => exact hq.elim
    | brk => exact hq.elim
    | cont => exact hq.elim
/-- a lambda made and called at once -/
theorem pe_told1 {x : Str} {CS : Addr} {ret : Str} {k i : Nat} {m : LmI} {lp p1 p3 : Pos} {t : Nat → XK → TE} (TD : ToldD R x CS ret) (ok : XOk R X W N sc) (hq : R.lq = X.env.qual ++ "<lambda>")
    (hc : ∃ c P, X.env.code = .ref c ∧ (c, P) ∈ R.cs ∧ (P, R.lq) ∈ R.tl ∧ ∀ p ∈ R.tl, p.1 = P → p.2 = R.lq) (gl : sc.names.lookup x = some .globalImplicit) (db : (x == ("__debug__" : Str)) = false)
    (room : Room (k + 2) X.A) (lt : LamT X.env.scope m) (mi : R.lo i m) (bodies : LamBd R X t k) :
    PE X (.Call (.Name x p1) [.Lambda m.params m.body m.scope lp] [] p3) (fun σ H Q => Stn R (fun _ h Fz ρ => ∀ H', Core R Fz ρ H' h → Ext Fz ρ H Fz ρ H' → LamX.TTold X.K CS ret (fun E H2 Q' => t i E σ H2 Q' ∧ True) H' Q) σ H) := by
  obtain ⟨g, hm, hk, run⟩ := told_run TD
  obtain ⟨c, P, co, mem1, mem2, uni⟩ := hc
  refine ⟨fun pz sz σz Hz Q Iz ⟨L, h, Fz, ρ, C, S, r⟩ => ?_⟩
  refine wpAny_Call_Name_kw (ld_glob Iz (show X.env.scope.names.lookup x = _ by rw [ok.sc]; exact gl) (show X.mg x = some (.ref g) by rw [ok.mg]; exact hm) ?_ db)
  refine PySem.W.callWith_K (h₀ := X.base) Iz.ok.mod.kin (by rw [ok.K]; exact hk) ?_ (by rfl) (by rfl)
  show wpAny _ _ (spliced ((false, eval (.Lambda m.params m.body m.scope lp) X.env) :: backTo p3 (starEach [] X.env))) _ _ sz
  have own : LamX.TabB X.base X.mg c P := by rw [ok.mg]; exact ok.base.2.2 _ mem1
  refine Calls.spliced_cons (lam_mk (m := m) Iz own co mem2 hq uni C.tab.lam (lt.nodef _) (lt.shape.has Iz.ok) fun f c' H1 s1 I1 td => ?_)
  refine Calls.spliced_nil ⟨I1.kIn, ?_⟩
  obtain ⟨C1, E1⟩ := C.lammed td
  have a1 : LamA X m f c' H1 := by unfold LamA; rw [← hq]; exact td.at_
  have go : codeAny (model X.prog X.w) X.A (.call (.ref g) ⟨[.ref f], []⟩) (CR C8.CX0 X.stack X.prog X.w H1 s1 Q C8.E0) s1 := run (X := X) ok I1 room lt bodies mi a1 (by rw [← hq]; exact td.code) ⟨a1, (r H1 C1 E1).1⟩
  refine wpAny_call (codeAny_mono go fun r s2 hq => ?_)
  cases r with
  | error e => exact (show False from hq).elim
  | ok fl =>
    cases fl with
    | ret u => exact I1.after hq
    | next => exact hq.elim
    | brk => exact hq.elim
    | cont => exact hq.elim
end
end Sd
end
section
set_option maxRecDepth 100000
set_option maxHeartbeats 4000000
/-! which lambdas of a list do not tell a word; a lambda called at once -/
namespace Sd
open PySem PySem.Spec PyProof.Rows L2
open Ev (LV LO CE CEs Src Tg Tgs CKs CS CSs Prg Orc Slot SR)
/-- what a lambda's body does, as the machine has it -/
def tBody (R : Cn) (O : Orc) (i : Nat) (E : XK) : TE := fun σ H Q => Stn R (fun L h Fz ρ => RS R (fun cls d _ H => E cls d H) σ Fz ρ H (O.lam i L h) Q) σ H
/-- where lambdas are made -/
structure XLf (R : Cn) (O : Orc) (k : Nat) (X : Cx) : Prop extends XL0 R X where
  bd : (∀ i L h, O.lam i L h = .bad) ∨ ∃ j, j + 1 ≤ k ∧ LamBd R X (tBody R O) j
def tellF (P : Prg) (O : Orc) (c : Nat) (s : List Nat) (L : Ev.Env) : Nat → Ev.Hp → Ev.Res LV := fun k h1 => match O.lam k L h1 with
  | .ok v h2 => .ok v h2
  | .exc d h2 => if P.sub d c then .ok (.str s) h2 else .bad
  | .bad => .bad
section
variable {R : Cn} {X : Cx} {W : WX} {O : Orc} {σ : L2.St} {Fz Fz' : Addr → Prop} {ρ ρ' : List Addr} {H H' : Hp} {h h' : Ev.Hp} {L : Ev.Env} {N : List Str} {sc : Scope} {pos : Pos}
/-- one of them told: what comes back -/
theorem tell_ok {c i : Nat} {s : List Nat} {v : LV} {Q : VK} {K : PySem.W.Frag} (xm : ∀ d, R.pr.sub d c = true → PySem.W.exmOne K (.ref (R.cl d)) (.ref (R.cl c)) = some true) (hs : okS s) (C : Core R Fz ρ H h) (S : Slots R Fz ρ H L σ) (e : tellF R.pr O c s L i h = .ok v h')
    (q : ∀ x H1 F1 ρ1, Core R F1 ρ1 H1 h' → Ext Fz ρ H F1 ρ1 H1 → Rep R F1 ρ1 H1 v x → Q x H1) :
    LamX.TTold K (R.cl c) (st s) (fun E H' Q' => tBody R O i E σ H' Q') H Q := by
  refine ⟨L, h, Fz, ρ, C, S, ?_⟩
  unfold tellF at e
  cases z : O.lam i L h with
  | bad => rw [z] at e; cases e
  | ok w h2 =>
    rw [z] at e
    cases e
    dsimp only
    rw [z]
    exact q
  | exc d h2 =>
    rw [z] at e
    simp only at e
    by_cases hd : R.pr.sub d c = true
    · rw [if_pos hd] at e
      cases e
      dsimp only
      rw [z]
      intro H1 F1 ρ1 C1 E1
      exact ⟨true, xm d hd, fun _ => q _ H1 F1 ρ1 C1 E1 ⟨rfl, hs⟩, fun y => by cases y⟩
    · rw [if_neg hd] at e
      cases e
theorem toldR_cons {f : Nat → Ev.Hp → Ev.Res LV} {s : List Nat} {n k : Nat} {r : List Nat} {vs : List LV} (e : Ev.toldR f s n (k :: r) h = .ok vs h') :
    ∃ v h1 b rest, f k h = .ok v h1 ∧ Ev.neV (Ev.view v h1) (.str s) = some (.bl b) ∧ Ev.toldR f s (n + 1) r h1 = .ok rest h' ∧ vs = (if b = true then [.int n] else []) ++ rest := by
  unfold Ev.toldR at e
  cases z : f k h with
  | bad => rw [z] at e; cases e
  | exc d h1 => rw [z] at e; cases e
  | ok v h1 =>
    rw [z] at e
    simp only at e
    split at e
    · rename_i q
      cases z2 : Ev.toldR f s (n + 1) r h1 with
      | bad => rw [z2] at e; cases e
      | exc d h2 => rw [z2] at e; cases e
      | ok ws h2 => rw [z2] at e; cases e; exact ⟨v, h1, true, ws, rfl, q, z2, rfl⟩
    · rename_i q
      exact ⟨v, h1, false, vs, rfl, q, e, rfl⟩
    · cases e
/-- the walk's start -/
theorem tolds_imp {r : R2} {a b i c : Nat} {ks vsl : List Nat} {s : List Nat} {Q : VK} (hr : Op2 R .ne r) (hK : X.K = R.K) (xm : ∀ d, R.pr.sub d c = true → PySem.W.exmOne X.K (.ref (R.cl d)) (.ref (R.cl c)) = some true) (hs : okS s) (xl : XLf R O k X) (ha : a ∈ vsl) (hb : b ∈ vsl) (hab : a ≠ b) (la : a < σ.length) (lb : b < σ.length)
    (t0 : tF R W O (.tolds i ks c s) σ H Q) :
    tLc (iEnum X.K (tCons (tLB R i ks) tNil)) (gTup X.K 2 (gCons (gName a) (gCons (gName b) gNil))) (tTest (tOp r (tToldN R X σ (R.cl c) (st s) (tBody R O) b) (tC (.str (st s))))) (tVar a) vsl σ H Q := by
  obtain ⟨L, h, Fz, ρ, C, S, q⟩ := t0
  simp only [Ev.ev] at q
  cases e : L[i]? with
  | none => simp only [e] at q; exact False.elim q
  | some sl =>
    cases sl with
    | lam js =>
      simp only [e] at q
      by_cases hl : (js ++ ks).length ≤ Ev.SL
      · simp only [hl, if_true] at q
        change RF R W σ Fz ρ H (match Ev.toldR (tellF R.pr O c s L) s 0 (js ++ ks) h with | .ok vs h1 => .ok (.lst vs) h1 | _ => .bad) Q at q
        cases z : Ev.toldR (tellF R.pr O c s L) s 0 (js ++ ks) h with
        | bad => rw [z] at q; exact False.elim q
        | exc d h2 => rw [z] at q; exact False.elim q
        | ok vs h2 =>
          rw [z] at q
          have q : okF R Fz ρ H h2 (.lst vs) Q := q
          refine ⟨L, h, Fz, ρ, C, S, js, e, hl, fun l fs H1 F1 C1 E1 l1 => ⟨l, fs.map V.ref, rfl, .inl (.inl l1.2.1), fun D hD => ?_⟩⟩
          generalize js ++ ks = kl at hl z l1
          obtain ⟨C2, E2⟩ := C1.grow hD (.lst []) (Fz' := F1) (fun _ z => z) fun _ z => .inl z
          have lD : l ≠ D := fun y => by
            have := l1.2.1
            rw [y, hD] at this
            cases this
          refine ⟨fun n m Hc => m = kl.length - n ∧ n ≤ kl.length ∧ ∃ (F : Addr → Prop) (ρc : List Addr) (hc : Ev.Hp) (acc : List LV) (accV : List V) (rest : List LV), Core R F ρc Hc hc ∧ Ext F1 ρ H1 F ρc Hc ∧ Hc D = some (.lst accV) ∧ Reps R F ρc Hc acc accV ∧ D ∉ ρc ∧ ¬ F D ∧ acc.length ≤ n ∧
            Ev.toldR (tellF R.pr O c s L) s n (kl.drop n) hc = .ok rest h2 ∧ vs = acc ++ rest, ⟨kl.length, by simp, Nat.zero_le _, F1, ρ, h, [], [], vs, C2, E2, upd_same, rfl, fun m => C1.live m hD, fun z => C1.fzt D z hD, Nat.le_refl _, by simpa using z, rfl⟩, ?_⟩
          rintro n m Hc ⟨rfl, hn, F, ρc, hc, acc, accV, rest, Cc, Ec, dD, ra, nr, nf, al, em, ev⟩
          have lc : LamL R F Hc l fs kl := l1.keep (fun a φ e => ext_xt C1 Ec a φ e) (fun a o f e n => Ec.keep a o e (C1.fz a f) n) Ec.fzs
          have flen : (fs.map V.ref).length = kl.length := by rw [List.length_map, lc.2.2.length]
          by_cases hlt : n < kl.length
          · have getf : ∀ {fs : List Addr} {kl : List Nat} {n : Nat}, LamFs R Hc fs kl → (hk : n < kl.length) → ∃ f, fs[n]? = some f ∧ LamF R Hc f kl[n] := by
              intro fs
              induction fs with
              | nil => intro kl n e hk; have e : kl = [] := e; subst e; exact absurd hk (by simp)
              | cons f fs ih =>
                rintro kl n ⟨k, r, rfl, p, t⟩ hk
                cases n with
                | zero => exact ⟨f, rfl, p⟩
                | succ n => obtain ⟨g, g1, g2⟩ := ih t (by simpa using hk); exact ⟨g, by simpa using g1, by simpa using g2⟩
            obtain ⟨f, hf, ⟨mm, c', lo, o1, o2⟩⟩ := getf lc.2.2 hlt
            refine .inr ⟨⟨fs.map V.ref, .ref f, .inl (.inl lc.2.1), by rw [List.getElem?_map, hf]; rfl⟩, fun H' => (n + 1) ≤ kl.length ∧ ∃ (F : Addr → Prop) (ρc : List Addr) (hc : Ev.Hp) (acc : List LV) (accV : List V) (rest : List LV), Core R F ρc H' hc ∧ Ext F1 ρ H1 F ρc H' ∧ H' D = some (.lst accV) ∧ Reps R F ρc H' acc accV ∧ D ∉ ρc ∧ ¬ F D ∧ acc.length ≤ n + 1 ∧
                Ev.toldR (tellF R.pr O c s L) s (n + 1) (kl.drop (n + 1)) hc = .ok rest h2 ∧ vs = acc ++ rest, fun H' y => ⟨kl.length - (n + 1), by omega, rfl, y⟩, fun v H' ⟨T, w, e1, hT, e2, e3⟩ => ?_⟩
            have e3 := e3 _ (.inl (.inl lc.2.1))
            rw [List.getElem?_map, hf] at e3
            cases e3
            subst e1
            subst e2
            obtain ⟨Cy, Ey⟩ := Cc.grow hT (.tup [.int (n : Nat), .ref f]) (Fz' := F) (fun _ z => z) fun _ z => .inl z
            refine ⟨T, _, rfl, .inl (.inl upd_same), rfl, .int (n : Nat), _, rfl, .ref f, _, rfl, rfl, ?_⟩
            generalize hHy : upd Hc T (.tup [.int (n : Nat), .ref f]) = Hy at Cy Ey
            have la' : a < (wipe σ vsl).length := by rw [wipe_length]; exact la
            have lb' : b < ((wipe σ vsl).set a (some (.int (n : Nat)))).length := by rw [List.length_set, wipe_length]; exact lb
            refine ⟨?_, ?_⟩
            · have := wipe_same (σ := wipe σ vsl) (σ' := (((wipe σ vsl).set a (some (.int (n : Nat)))).set b (some (.ref f)))) (vs := vsl) ⟨by simp, fun j hj => by
                rw [List.getElem?_set_ne (fun z => hj (by rw [← z]; exact hb)), List.getElem?_set_ne (fun z => hj (by rw [← z]; exact ha))]⟩
              rw [this, wipe_idem]
            · rw [List.drop_eq_getElem_cons hlt] at em
              obtain ⟨w, h3, bb, rest2, g1, g2, g3, g4⟩ := toldR_cons em
              have dHy : Hy D = some (.lst accV) := Ey.keep D _ dD nr (by intro ps z; cases z)
              refine ⟨f, c', kl[n], mm, lo, by rw [List.getElem?_set_self lb'], ?_, ?_, ?_⟩
              · unfold LamA
                rw [← xl.lq, ← xl.lc]
                exact ext_xt Cc Ey _ _ o1
              · rw [← xl.lq]
                exact ext_xt Cc Ey _ _ o2
              · have SS : Slots R F ρc Hy L σ := ((S.mono C E1).mono C1 Ec).mono Cc Ey
                have la2 : LamA X mm f c' Hy := by
                  unfold LamA
                  rw [← xl.lq, ← xl.lc]
                  exact ext_xt Cc Ey _ _ o1
                refine ⟨la2, tell_ok xm hs Cy SS g1 fun x H3 F3 ρ3 C3 E3 R3 => ?_⟩
                show r x (.str (st s)) H3 _
                have nf3 : ¬ F3 D := fun z => (E3.fzn D z).elim nf fun y => nomatch (y.symm.trans dHy)
                have nr3 : D ∉ ρ3 := fun z => (E3.rhn D z).elim nr fun y => nomatch (y.symm.trans dHy)
                have d3 : H3 D = some (.lst accV) := E3.keep D _ dHy nr (by intro ps z; cases z)
                have ra3 := Reps.mono Cy E3 acc (Reps.mono Cc Ey acc ra)
                refine hr F3 ρ3 H3 h3 (Ev.view w h3) (.str s) (.bl bb) x _ _ C3 (R3.view C3) ⟨rfl, hs⟩ g2 fun y H4 F4 ρ4 C4 E4 R4 => ?_
                have nf4 : ¬ F4 D := fun z => (E4.fzn D z).elim nf3 fun y => nomatch (y.symm.trans d3)
                have nr4 : D ∉ ρ4 := fun z => (E4.rhn D z).elim nr3 fun y => nomatch (y.symm.trans d3)
                have d4 : H4 D = some (.lst accV) := E4.keep D _ d3 nr3 (by intro ps z; cases z)
                have ra4 := Reps.mono C3 E4 acc ra3
                refine ⟨bb, R4, ?_⟩
                cases bb with
                | false =>
                  rw [if_neg Bool.false_ne_true] at g4 ⊢
                  exact ⟨hlt, F4, ρ4, h3, acc, accV, rest2, C4, Ec.trans (Ey.trans (E3.trans E4)), d4, ra4, nr4, nf4, by omega, g3, by rw [ev, g4]; rfl⟩
                | true =>
                  rw [if_pos rfl] at g4 ⊢
                  refine ⟨.int (n : Nat), by rw [List.getElem?_set_ne (Ne.symm hab), List.getElem?_set_self la'], accV, d4, by rw [← ra4.length, ← SL_eq]; omega, ?_⟩
                  refine ⟨hlt, F4, ρ4, h3, acc ++ [.int (n : Nat)], accV ++ [.int (n : Nat)], rest2, C4.own d4 rfl nf4 nr4, (Ec.trans (Ey.trans (E3.trans E4))).own hD, upd_same, ?_, nr4, nf4, by rw [List.length_append]; simp; omega, g3, by rw [ev, g4, List.append_assoc]⟩
                  exact Reps.gen (keeps_upd d4 rfl nf4) _ (ra4.append ⟨.int (n : Nat), [], rfl, rfl, rfl⟩)
          · have hiq : n = kl.length := by omega
            subst hiq
            refine .inl ⟨⟨fs.map V.ref, .inl (.inl lc.2.1), Nat.le_of_eq flen⟩, ?_⟩
            rw [List.drop_length] at em
            unfold Ev.toldR at em
            cases em
            rw [List.append_nil] at ev
            subst ev
            exact q (.ref D) Hc F ρc Cc (E1.trans Ec) ⟨D, rfl, ⟨accV, dD, ra⟩, nf, nr, E1.none hD⟩
      · simp only [hl, if_false] at q
        exact False.elim q
    | _ => simp only [e] at q; exact False.elim q
theorem room_le {j k : Nat} {A : Around} (h : j + 1 ≤ k) (r : Room (k + 1) A) : Room (j + 2) A := r.mono (by omega)
theorem sf_tolds {own : List (Str × Nat)} {scope : Scope} {le : Expr} {x kn fn : Str} {a b i c j k0 : Nat} {ks : List Nat} {s : List Nat} {q1 q2 q3 q4 q5 q6 q7 q8 q9 q10 q11 : Pos} (ok : XOk R X W N sc) (hr : Room (k + 1) X.A) (xl : XLf R O k X) (TD : ToldD R x (R.cl c) (st s)) (hs : okS s)
    (xm : ∀ d, R.pr.sub d c = true → PySem.W.exmOne R.K (.ref (R.cl d)) (.ref (R.cl c)) = some true) (bo : BlkOk X.N X.env.scope scope own) (ple : PE X le (tLB R i ks)) (hst : starEach [le] X.env = [(false, eval le X.env)])
    (hge : sc.names.lookup ("enumerate" : Str) = some .globalImplicit) (hme : R.mg "enumerate" = none) (ia : N[a]? = some kn) (ib : N[b]? = some fn) (hab : a ≠ b)
    (lk : (relS scope sc).names.lookup kn = some .local) (lf : (relS scope sc).names.lookup fn = some .local) (gx : (relS scope sc).names.lookup x = some .globalImplicit) (db : (x == ("__debug__" : Str)) = false)
    (d1 : (fn == ("__debug__" : Str)) = false) (d2 : (fn == ("__classdict__" : Str)) = false) (d3 : (kn == ("__debug__" : Str)) = false) (d4 : (kn == ("__classdict__" : Str)) = false) (ha : a ∈ own.map (·.2)) (hb : b ∈ own.map (·.2)) (hm : behindInMarks .NotEq (.Constant (.str (st s)) j q10) = false) :
    SF R W O X (.ListComp (.Name kn q1) [⟨.Tuple [.Name kn q2, .Name fn q3] k0 q4, .Call (.Name "enumerate" q5) [le] [] q6, [.Compare (.Call (.Name x q7) [.Name fn q8] [] q9) [.NotEq] [.Constant (.str (st s)) j q10] q11], 0⟩] scope pos) (.tolds i ks c s) := by
  have nd : X.N.Nodup := by rw [ok.nm]; exact ok.nd
  have ia' : X.N[a]? = some kn := by rw [ok.nm]; exact ia
  have ib' : X.N[b]? = some fn := by rw [ok.nm]; exact ib
  have hu := ok.un
  have ne : ∀ {Y : Cx}, Y.K = X.K → Y.A = X.A → OpR Y (compareOp .NotEq) (rNeD R.K) := fun {Y} e1 e2 => by
    rw [← ok.K, ← e1]
    exact op_neD (by rw [e2]; omega)
  refine ⟨fun pins s' σ H Q I t0 => ?_⟩
  have len : σ.length = X.N.length := I.len
  refine lc_own (Q := Q) (own := own) (g := gTup X.K 2 (gCons (gName a) (gCons (gName b) gNil))) (tt := tTest (tOp (rNeD R.K) (tToldN R X σ (R.cl c) (st s) (tBody R O) b) (tC (.str (st s))))) (te := tVar a) ok.calm nd I (pi_enum (by show X.env.scope.names.lookup _ = _; rw [ok.sc]; exact hge) (by rw [ok.mg]; exact hme) (pa_cons ple pa_nil hst) hst) bo (fun sB HB C cl fp => ?_) (fun sB HB C cl fp ivB okB => ?_) (fun sB HB C cl fp => ?_) (set_of rfl) (tolds_imp sem_ne ok.K (by rw [ok.K]; exact xm) hs xl ha hb hab (by rw [len]; exact (List.getElem?_eq_some_iff.mp ia').1) (by rw [len]; exact (List.getElem?_eq_some_iff.mp ib').1) t0)
  · refine pg_tup ok.calm (pgs_cons (pg_name nd ia' ?_ (.inr ?_)) (pgs_cons (pg_name nd ib' ?_ (.inr ?_)) pgs_nil))
    · exact .inl (by show (relS scope X.env.scope).names.lookup _ = _; rw [ok.sc]; exact lk)
    · show (relS scope X.env.scope).names.lookup _ = _; rw [ok.sc]; exact lk
    · exact .inl (by show (relS scope X.env.scope).names.lookup _ = _; rw [ok.sc]; exact lf)
    · show (relS scope X.env.scope).names.lookup _ = _; rw [ok.sc]; exact lf
  · refine pts_one (pt_cmpR (ne rfl rfl) ?_ pe_str hm)
    rcases xl.bd with z | ⟨jj, hj, bd⟩
    · refine ⟨fun pz sz σz Hz Q _ ⟨f, c', i', m, mi, e1, e2, e3, e4⟩ => ?_⟩
      obtain ⟨_, L, h, Fz, ρ, C, S, e⟩ := e4
      rw [z] at e
      exact False.elim e
    · exact pe_toldN TD ok ivB okB (by show (relS scope X.env.scope).names.lookup _ = _; rw [ok.sc]; exact gx) db ib' (.inl (by show (relS scope X.env.scope).names.lookup _ = _; rw [ok.sc]; exact lf)) d1 d2 (room_le hj hr) xl.lt bd
  · exact pe_var (X := X.blk sB HB scope (compEnvC scope cl C X.env) fp) ia' (.inl (by show (relS scope X.env.scope).names.lookup _ = _; rw [ok.sc]; exact lk)) d3 d4
theorem se_told1 {x : Str} {c i : Nat} {m : LmI} {s : List Nat} {lp p1 p3 : Pos} (ok : XOk R X W N sc) (hr : Room (k + 1) X.A) (xl : XLf R O k X) (TD : ToldD R x (R.cl c) (st s)) (hs : okS s)
    (xm : ∀ d, R.pr.sub d c = true → PySem.W.exmOne R.K (.ref (R.cl d)) (.ref (R.cl c)) = some true) (gl : sc.names.lookup x = some .globalImplicit) (db : (x == ("__debug__" : Str)) = false) (mi : R.lo i m) :
    SE R W O X (.Call (.Name x p1) [.Lambda m.params m.body m.scope lp] [] p3) (.told c s (.lam i)) := by
  rcases xl.bd with z | ⟨jj, hj, bd⟩
  · refine ⟨fun pins s' σ H Q I ⟨L, h, Fz, ρ, C, S, r⟩ => ?_⟩
    simp only [Ev.ev, z] at r
    exact False.elim r
  · refine pe_imp (pe_told1 TD ok xl.lq xl.own gl db (room_le hj hr) (xl.lt i m mi) mi bd) fun σ H Q ⟨L, h, Fz, ρ, C, S, r⟩ => ⟨L, h, Fz, ρ, C, S, fun H1 C1 E1 => ?_⟩
    simp only [Ev.ev] at r
    refine ⟨?_, trivial⟩
    have key : ∀ {v h'}, tellF R.pr O c s L i h = .ok v h' → okP R Fz ρ H h' v Q → LamX.TTold X.K (R.cl c) (st s) (fun E H' Q' => tBody R O i E σ H' Q') H1 Q := fun e q =>
      tell_ok (by rw [ok.K]; exact xm) hs C1 (S.mono C E1) e fun x H2 F2 ρ2 C2 E2 R2 => q x H2 F2 ρ2 C2 (E1.trans E2) R2
    cases e : O.lam i L h with
    | bad => simp only [e] at r; exact False.elim r
    | ok v h2 =>
      simp only [e] at r
      exact key (v := v) (h' := h2) (by unfold tellF; rw [e]) r
    | exc d h2 =>
      simp only [e] at r
      by_cases hd : R.pr.sub d c = true
      · simp only [hd, if_true] at r
        exact key (v := .str s) (h' := h2) (by unfold tellF; rw [e]; simp only [hd, if_true]) r
      · simp only [hd] at r
        exact False.elim r
end
end Sd
end
section
set_option maxRecDepth 100000
set_option maxHeartbeats 4000000
/-! the check: compact code against the text -/
namespace Sd
open PySem PySem.Spec PyProof.Rows L2
open Ev (LV LO CE CEs Src Tg Tgs CKs CS CSs Prg Orc Slot SR)
structure Gs where
  gc : Str → Option LV
  gf : Str → Option Nat
  gk : Str → Option Nat
  gx : Str → Option Nat
  nb : Str → Bool
  an : Nat → Str
  mn : Nat → Str
  na : Nat
  tb : Bool
  lk : Bool
  lo : Nat → LmI → Bool
  told : Str → Option (Nat × List Nat)
structure GOk (R : Cn) (G : Gs) : Prop where
  gc : ∀ x v, G.gc x = some v → GlobV R x v
  gf : ∀ x f, G.gf x = some f → f < R.pr.nf ∧ R.mg x = some (.ref (R.fi f).addr)
  gk : ∀ x c, G.gk x = some c → R.ic c = true ∧ R.mg x = some (.ref (R.cl c)) ∧ R.pr.meth c 0 < R.pr.nf ∧ Mk R.K (R.cl c) (R.fi (R.pr.meth c 0)).addr
  gx : ∀ x c, G.gx x = some c → ∀ (X : Cx) (W : WX) (N : List Str) (sc : Scope), XOk R X W N sc → sc.names.lookup x = some .globalImplicit → ∀ (m : Str) (j : Nat) (p p2 pos : Pos), PMk X (.Call (.Name x p) [.Constant (.str m) j p2] [] pos) (fun _ H Q => Q (.ref (R.cl c)) none H)
  nb : ∀ x, G.nb x = true → R.mg x = none
  an : R.an = G.an
  mn : R.mn = G.mn
  na : R.na = G.na
  tb : G.tb = true → R.tb = true
  td : ∀ p ∈ R.tl, ∀ q ∈ R.tg, p.1 ≠ q
  lk : G.lk = true → R.lk = true
  lo : ∀ i m, G.lo i m = true → R.lo i m
  told : ∀ x c s, G.told x = some (c, s) → ToldD R x (R.cl c) (st s) ∧ okS s
  xm : ∀ d c, R.pr.sub d c = true → PySem.W.exmOne R.K (.ref (R.cl d)) (.ref (R.cl c)) = some true
inductive Md where
  | keep | see | fresh | test
  deriving DecidableEq
def isBO : Expr → Bool
  | .BoolOp _ _ _ => true
  | _ => false
def J (m : Md) (R : Cn) (W : WX) (O : Orc) (X : Cx) (e : Expr) (c : CE) : Prop := match m with
  | .keep => SE R W O X e c
  | .see => SV R W O X e c
  | .fresh => SF R W O X e c
  | .test => ST R W O X e c ∧ (isBO e = true → SW R W O X e c)
/-- a form that is read as a value -/
def okM (m : Md) (e : Expr) : Bool := match m with
  | .fresh => false
  | .test => plainT e
  | _ => true
def okF' (m : Md) (e : Expr) : Bool := match m with
  | .test => plainT e
  | _ => true
def unB : Expr → Expr
  | .BoolOp op [] p => .BoolOp op [] p
  | .BoolOp _ [y] _ => y
  | e => e
def binT (op : Operator) (o : Ev.Op) : Bool := match op, o with
  | .Add, .add => true | .Sub, .sub => true | .Mult, .mul => true | .FloorDiv, .fdiv => true | .Mod, .mod => true | .Pow, .pow => true
  | _, _ => false
def binF (op : Operator) (o : Ev.Op) : Bool := match op, o with
  | .Add, .add => true | .Mult, .mul => true
  | _, _ => false
def cmpT (op : CmpOp) (o : Ev.Op) : Bool := match op, o with
  | .Eq, .eq => true | .NotEq, .ne => true | .Lt, .lt => true | .LtE, .le => true | .Gt, .gt => true | .GtE, .ge => true | .In, .inn => true | .NotIn, .nin => true
  | _, _ => false
def isN : Expr → Bool
  | .Constant .none _ _ => true
  | _ => false
def bltT (x : Str) (o : Ev.Op) (n : Nat) : Bool := match o with
  | .len => decide (x = "len") && decide (n = 1)
  | .abs => decide (x = "abs") && decide (n = 1)
  | .int => decide (x = "int") && decide (n = 1)
  | .max => decide (x = "max") && decide (n = 2)
  | .min => decide (x = "min") && decide (n = 2)
  | .minR => decide (x = "min") && decide (n = 1)
  | .minT => decide (x = "min") && decide (n = 1)
  | .maxR => decide (x = "max") && decide (n = 1)
  | .sumR => decide (x = "sum") && decide (n = 1)
  | _ => false
def bltF (x : Str) (o : Ev.Op) (n : Nat) : Bool := match o with
  | .srtI => decide (x = "sorted") && decide (n = 1)
  | .srtP => decide (x = "sorted") && decide (n = 1)
  | _ => false
def ownOf (N : List Str) (scope : Scope) : List (Str × Nat) := scope.names.filterMap fun p => match p.2 with
  | .local => (N.findIdx? (fun y => y == p.1)).map fun i => (p.1, i)
  | .cell => (N.findIdx? (fun y => y == p.1)).map fun i => (p.1, i)
  | _ => none
def fnB (scope : Scope) (x : Str) : Bool := scope.names.lookup x == some .cell
def cstT (G : Gs) (sc : Scope) (v : LV) (e : Expr) : Bool := match e with
  | .Constant (.int i) _ _ => (match v with | .int j => decide (i = j) | _ => false)
  | .Constant (.bool i) _ _ => (match v with | .bl j => decide (i = j) | _ => false)
  | .Constant .none _ _ => (match v with | .non => true | _ => false)
  | .Constant (.str x) _ _ => (match v with | .str s => decide (x = st s) && okSb s | _ => false)
  | .Name x _ => isGl sc x && nodbg x && (match G.gc x with | some w => sameV w v | none => false)
  | _ => false
mutual
def chkG (f : Str → Bool) (N : List Str) (sc : Scope) : Tg → Expr → Bool
  | .nm i, e => (match e with | .Name x _ => decide (N[i]? = some x) && (isLocal sc x || (isLoc sc x && f x)) | _ => false)
  | .tup ts, e => (match e with | .Tuple es _ _ => chkGs f N sc ts es | _ => false)
def chkGs (f : Str → Bool) (N : List Str) (sc : Scope) : Tgs → List Expr → Bool
  | .nil, es => es.isEmpty
  | .cons t ts, es => (match es with | e :: es => noStar e && chkG f N sc t e && chkGs f N sc ts es | [] => false)
end
/-- the scope of a generator expression with two names -/
def genB (sp : Scope) (xa xb : Str) : Bool := decide (sp.kind = .function) && !sp.isCoroutine && (sp.names.all fun y => !decide (y.2 = .cell) && !decide (y.2 = .free)) && decide (sp.names.lookup (".0" : Str) = some NameKind.local) && decide (sp.names.lookup xa = some .local) && decide (sp.names.lookup xb = some .local) && decide (xa ≠ xb)
def eltAB (elt : CE) (i j : Nat) : Bool := match elt with
  | .op .gt (.cons (.var a) (.cons (.var b) .nil)) => decide (a = i) && decide (b = j)
  | _ => false
def eltBB (elt : CE) (i j : Nat) : Bool := match elt with
  | .op .gt (.cons (.op .idx (.cons (.var a) (.cons (.cst (.int u)) .nil))) (.cons (.op .idx (.cons (.var b) (.cons (.cst (.int w)) .nil))) .nil)) => decide (a = i) && decide (b = j) && decide (u = 1) && decide (w = 0)
  | _ => false
/-- what any's generator walks -/
def anyIt : Expr → List Expr
  | .Call _ [.GeneratorExp _ [⟨_, .Call _ es _ _, _, _⟩] _ _] _ _ => es
  | .Call _ [.GeneratorExp _ [⟨_, it, _, _⟩] _ _] _ _ => [it]
  | _ => []
def anyS (G : Gs) (sc : Scope) (elt : CE) (t : Tg) (ts : CEs) (s : Src) (e : Expr) : Bool := match e with
  | .Call (.Name x _) [.GeneratorExp ge [⟨.Tuple [.Name xa _, .Name xb _] _ _, it, [], 0⟩] sp _] [] _ => decide (x = "any") && isGl sc x && G.nb x && genB sp xa xb && nodbg xa && nodbg xb && (match t, ts with
    | .tup (.cons (.nm i) (.cons (.nm j) .nil)), .nil => decide (i ≠ j) && (match ge, it with
      | .Compare (.Name a _) [.Gt] [.Name b _] _, .Name _ _ => decide (a = xa) && decide (b = xb) && eltAB elt i j && (match s with | .of _ => true | _ => false)
      | .Compare (.Subscript (.Name a _) (.Constant (.int u) _ _) _) [.Gt] [.Subscript (.Name b _) (.Constant (.int w) _ _) _] _, .Call (.Name z _) [e1, e2] [] _ => decide (a = xa) && decide (b = xb) && decide (u = 1) && decide (w = 0) && decide (z = "zip") && isGl sc z && G.nb z && noStar e1 && noStar e2 && eltBB elt i j && (match s with | .zip2 (.of (.var k)) (.of (.slice (.var l) _ _)) => decide (k = l) | _ => false)
      | _, _ => false)
    | _, _ => false)
  | _ => false
/-- the word that is told of an exception of c -/
def toldB (G : Gs) (c : Nat) (s : List Nat) (x : Str) : Bool := match G.told x with
  | some (d, t) => decide (d = c) && decide (t = s)
  | none => false
/-- a list of lambdas -/
def lamsB (G : Gs) : List Nat → List Expr → Bool
  | [], es => es.isEmpty
  | k :: ks, es => (match es with | .Lambda ps b sp _ :: es => G.lo k ⟨ps, b, sp⟩ && lamsB G ks es | _ => false)
def lamLB (G : Gs) (N : List Str) (sc : Scope) (i : Nat) (ks : List Nat) (e : Expr) : Bool := match e with
  | .Name x _ => ks.isEmpty && decide (N[i]? = some x) && isVis sc x && nodbg x
  | .BinOp (.Name x _) .Add (.List es _) _ => decide (N[i]? = some x) && isVis sc x && nodbg x && lamsB G ks es
  | _ => false
/-- the two names of a walk over numbered lambdas -/
def nmB (N : List Str) (sc scope : Scope) (kn fn x : Str) : Bool := match N.findIdx? (fun y => y == kn), N.findIdx? (fun y => y == fn) with
  | some a, some b => decide (N[a]? = some kn) && decide (N[b]? = some fn) && decide (a ≠ b) && isLocal (relS scope sc) kn && isLocal (relS scope sc) fn && isGl (relS scope sc) x && nodbg kn && nodbg fn && nodbg x && decide (a ∈ (ownOf N scope).map (·.2)) && decide (b ∈ (ownOf N scope).map (·.2)) && blkC N sc scope (ownOf N scope)
  | _, _ => false
def toldsB (G : Gs) (N : List Str) (sc : Scope) (i : Nat) (ks : List Nat) (c : Nat) (s : List Nat) (e : Expr) : Bool := match e with
  | .ListComp (.Name kn _) [⟨.Tuple [.Name k2 _, .Name fn _] _ _, .Call (.Name en _) [le] [] _, [.Compare (.Call (.Name x _) [.Name f2 _] [] _) [.NotEq] [.Constant (.str t) _ _] _], 0⟩] scope _ =>
    decide (k2 = kn) && decide (f2 = fn) && decide (t = st s) && decide (en = "enumerate") && isGl sc en && G.nb en && toldB G c s x && noStar le && lamLB G N sc i ks le && nmB N sc scope kn fn x
  | _ => false
mutual
def chk (G : Gs) (lk : Bool) : CE → Md → List Str → Scope → Expr → Bool
  | .cst v, m, N, sc, e => okM m e && cstT G sc v e
  | .var i, m, N, sc, e => okM m e && (match e with | .Name x _ => decide (N[i]? = some x) && isVis sc x && nodbg x | _ => false)
  | .op o as, m, N, sc, e => (match e with
    | .UnaryOp op a _ => okM m e && (match op with | .USub => true | _ => false) && decide (o = .neg) && chks G lk as .see N sc [a]
    | .BinOp a op b _ => (if m = .fresh then binF op o else okM m e && binT op o) && chks G lk as .see N sc [a, b]
    | .Compare a ops bs _ => decide (m ≠ .fresh) && (match ops, bs with
      | [op], [b] => (match op with
        | .Is => isN b && decide (o = .isn) && chks G lk as .see N sc [a]
        | .IsNot => isN b && decide (o = .notn) && chks G lk as .see N sc [a]
        | op => cmpT op o && !behindInMarks op b && chks G lk as .see N sc [a, b])
      | _, _ => false)
    | .Subscript a b _ => okM m e && decide (o = .idx) && plainIx b && chks G lk as .see N sc [a, b]
    | .Call f es kws _ => (match f, kws with | .Name x _, [] => (okM m e && bltT x o es.length || okF' m e && bltF x o es.length) && isGl sc x && nodbg x && G.nb x && chks G lk as .see N sc es | _, _ => false)
    | _ => false)
  | .bm o r as, m, N, sc, e => okM m e && (match e with
    | .Call (.Attribute a x apos) [y] [] pos => decide (o = .index) && decide (x = "index") && noSup a && (apos.endLine == pos.line) && chk G lk r .see N sc a && chks G lk as .see N sc [y]
    | _ => false)
  | .slice a lo hi, m, N, sc, e => okF' m e && (match e with
    | .Subscript x (.Slice l u none _) _ => chk G lk a .see N sc x && (match l with | none => sameV .non (match lo with | .cst v => v | _ => .int 0) | some l' => chk G lk lo .see N sc l') && (match u with | none => sameV .non (match hi with | .cst v => v | _ => .int 0) | some u' => chk G lk hi .see N sc u')
    | _ => false)
  | .cmp a ops bs, m, N, sc, e => decide (m ≠ .fresh) && (match e with
    | .Compare x [o1, o2] [y, z] _ => chk G lk a .see N sc x && (match ops with | [p1, p2] => cmpT o1 p1 && cmpT o2 p2 | _ => false) && !lastMarks [o1, o2] [y, z] && chks G lk bs .see N sc [y, z]
    | _ => false)
  | .and a b, m, N, sc, e => (match e with
    | .BoolOp .And (x :: y :: r) p => (match m with
      | .fresh => false
      | .test => chk G lk a .test N sc x && chk G lk b .test N sc (unB (.BoolOp .And (y :: r) p))
      | _ => chk G lk a .keep N sc x && chk G lk b .keep N sc (unB (.BoolOp .And (y :: r) p)))
    | _ => false)
  | .or a b, m, N, sc, e => (match e with
    | .BoolOp .Or (x :: y :: r) p => (match m with
      | .fresh => false
      | .test => chk G lk a .test N sc x && chk G lk b .test N sc (unB (.BoolOp .Or (y :: r) p))
      | _ => chk G lk a .keep N sc x && chk G lk b .keep N sc (unB (.BoolOp .Or (y :: r) p)))
    | _ => false)
  | .not a, m, N, sc, e => (match e with
    | .UnaryOp .Not x _ => (match m with
      | .fresh => false
      | .test => chk G lk a .test N sc x
      | _ => chk G lk a .keep N sc x)
    | _ => false)
  | .ite c a b, m, N, sc, e => (match e with
    | .IfExp t x y _ => (match m with
      | .test => false
      | .fresh => chk G lk c .test N sc t && chk G lk a .fresh N sc x && chk G lk b .fresh N sc y
      | _ => chk G lk c .test N sc t && chk G lk a .keep N sc x && chk G lk b .keep N sc y)
    | _ => false)
  | .tup as, m, N, sc, e => okM m e && (match e with | .Tuple es _ _ => decide (clen as ≤ Ev.SL) && chks G lk as .keep N sc es | _ => false)
  | .lst as, m, N, sc, e => okF' m e && (match e with | .List es _ => decide (clen as ≤ Ev.SL) && chks G lk as .keep N sc es | _ => false)
  | .dsp ks, m, N, sc, e => okF' m e && (match e with | .Dict k v _ => (k.isEmpty && v.isEmpty && decide (klen ks = 0)) || (!k.isEmpty && k.all (·.isSome) && decide (k.length = v.length) && decide (k.length ≤ 15) && decide (klen ks ≤ 15) && chkD G lk ks N sc k v) | _ => false)
  | .hnew c, m, N, sc, e => okM m e && chk G lk c .fresh N sc e
  | .call f as, m, N, sc, e => okM m e && (match e with | .Call (.Name x _) es [] _ => decide (G.gf x = some f) && isGl sc x && nodbg x && chks G lk as .keep N sc es | _ => false)
  | .meth i o as, m, N, sc, e => okM m e && (match e with | .Call (.Attribute a x apos) es [] pos => decide (x = G.mn i) && noSup a && (apos.endLine == pos.line) && decide (es.length < 30) && chk G lk o .keep N sc a && chks G lk as .keep N sc es | _ => false)
  | .make k as, m, N, sc, e => okM m e && (match e with | .Call (.Name x _) es [] _ => decide (G.gk x = some k) && isGl sc x && nodbg x && chks G lk as .keep N sc es | _ => false)
  | .attr o i, m, N, sc, e => okM m e && (match e with | .Attribute a x _ => decide (i < G.na) && decide (x = G.an i) && noSup a && chk G lk o .keep N sc a | _ => false)
  | .comp elt t ts s, m, N, sc, e => okF' m e && (match e with
    | .ListComp x [⟨tg, iter, ifs, 0⟩] scope _ => blkC N sc scope (ownOf N scope) && chkG (fnB scope) N (relS scope sc) t tg && ((ownOf N scope).map (·.2)).all (fun j => decide (j ∈ ixs t)) && (ixs t).all (fun j => decide (j ∈ (ownOf N scope).map (·.2))) && noSet iter &&
        chkS G lk s N sc tg iter && chkTs G false ts N (relS scope sc) ifs && chk G false elt .keep N (relS scope sc) x
    | _ => false)
  | .call0 f, m, N, sc, e => okM m e && (match e with | .Call (.Name x _) [] [] _ => decide (G.gf x = some f) && isGl sc x && nodbg x | _ => false)
  | .anyg elt t ts s, m, N, sc, e => okM m e && G.tb && anyS G sc elt t ts s e && chkQ G lk s N sc (anyIt e)
  | .told c s e', m, N, sc, e => okM m e && lk && (match e' with
    | .lam i => (match e with
      | .Call (.Name x _) [.Lambda ps b sp _] [] _ => toldB G c s x && isGl sc x && nodbg x && G.lo i ⟨ps, b, sp⟩
      | _ => false)
    | _ => false)
  | .tolds i ks c s, m, N, sc, e => okF' m e && lk && toldsB G N sc i ks c s e
  | _, _, _, _, _ => false
def chks (G : Gs) (lk : Bool) : CEs → Md → List Str → Scope → List Expr → Bool
  | .nil, _, _, _, es => es.isEmpty
  | .cons c cs, m, N, sc, es => (match es with | e :: es => noStar e && chk G lk c m N sc e && chks G lk cs m N sc es | [] => false)
def chkTs (G : Gs) (lk : Bool) : CEs → List Str → Scope → List Expr → Bool
  | .nil, _, _, es => es.isEmpty
  | .cons c cs, N, sc, es => (match es with | [e] => chk G lk c .test N sc e && decide (clen cs = 0) | _ => false)
def chkD (G : Gs) (lk : Bool) : CKs → List Str → Scope → List (Option Expr) → List Expr → Bool
  | .nil, _, _, ks, vs => ks.isEmpty && vs.isEmpty
  | .cons k v r, N, sc, ks, vs => (match ks, vs with | some k' :: ks, v' :: vs => chk G lk k .keep N sc k' && chk G lk v .keep N sc v' && chkD G lk r N sc ks vs | _, _ => false)
def chkQ (G : Gs) (lk : Bool) : Src → List Str → Scope → List Expr → Bool
  | .of c, N, sc, es => (match es with | [e] => chk G lk c .keep N sc e | _ => false)
  | .zip2 a b, N, sc, es => (match es with | [e1, e2] => chkQ G lk a N sc [e1] && chkQ G lk b N sc [e2] | _ => false)
  | _, _, _, _ => false
def chkS (G : Gs) (lk : Bool) : Src → List Str → Scope → Expr → Expr → Bool
  | .of c, N, sc, _, e => chk G lk c .keep N sc e
  | .range as, N, sc, _, e => (match e with | .Call (.Name x _) es [] _ => decide (x = "range") && isGl sc x && G.nb x && decide (es.length = 1 ∨ es.length = 2) && chks G lk as .see N sc es | _ => false)
  | .enum (.of c), N, sc, tg, e => (match tg, e with
    | .Tuple _ _ _, .Call (.Name x _) [a] [] _ => decide (x = "enumerate") && isGl sc x && G.nb x && noStar a && chk G lk c .keep N sc a
    | _, _ => false)
  | _, _, _, _, _ => false
end
end Sd
end
section
set_option maxRecDepth 100000
set_option maxHeartbeats 2000000
/-! min of a list of triples of ints -/
namespace Sd
open PySem PySem.Spec PyProof.Rows L2
open Ev (LV LO)
def datT (p : Int × Int × Int) : PyData := .tuple [.int p.1, .int p.2.1, .int p.2.2]
theorem datT_toks (p : Int × Int × Int) : PySem.W.keyToks (datT p) = [.inl 1, .inl p.1, .inl 1, .inl p.2.1, .inl 1, .inl p.2.2, .inl 0] := by
  simp only [datT, PySem.W.keyToks, PySem.W.keyToksAll, List.cons_append, List.nil_append]
theorem lexI (a b : Int) (r t : List (Int ⊕ List Nat)) : PyProof.Rows.lexLt itemOrd (.inl a :: r) (.inl b :: t) = (decide (a < b) || (decide (a = b) && PyProof.Rows.lexLt itemOrd r t)) := by
  by_cases e : a = b
  · subst e
    rw [PyProof.Rows.lex_self (O := itemOrd)]
    simp
  · rw [PyProof.Rows.lex_diff (O := itemOrd) (fun z => e (Sum.inl.inj z))]
    show decide (a < b) = _
    simp [e]
theorem datT_lt (p q : Int × Int × Int) : PySem.W.dataLt (datT p) (datT q) = Ev.ltT p q := by
  unfold PySem.W.dataLt
  rw [datT_toks, datT_toks]
  rw [lexI, lexI, lexI, lexI, lexI, lexI, lexI]
  have e : PyProof.Rows.lexLt itemOrd [] [] = false := rfl
  rw [e]
  unfold Ev.ltT
  simp
theorem minD_T (m : Int × Int × Int) : ∀ r : List (Int × Int × Int), PySem.W.minD (datT m) (r.map datT) = datT (Ev.minTs m r) := by
  intro r
  unfold PySem.W.minD
  induction r generalizing m with
  | nil => rfl
  | cons n r ih =>
    rw [List.map_cons, List.foldl_cons, datT_lt, Ev.minTs, ← ih]
    cases Ev.ltT n m <;> rfl
theorem datT_inj {p q : Int × Int × Int} (e : datT p = datT q) : p = q := by
  obtain ⟨a, b, c⟩ := p
  obtain ⟨a', b', c'⟩ := q
  simp only [datT, PyData.tuple.injEq, List.cons.injEq, PyData.int.injEq, and_true] at e
  rw [e.1, e.2.1, e.2.2]
theorem alikeT (zs : List (Int × Int × Int)) : PySem.W.AlikeAll (zs.map datT) := by
  refine ⟨fun x hx y hy => ?_, fun x hx => ?_⟩
  · obtain ⟨p, _, rfl⟩ := List.mem_map.mp hx
    obtain ⟨q, _, rfl⟩ := List.mem_map.mp hy
    simp [datT, PySem.W.alike, PySem.W.alikeAll]
  · obtain ⟨p, _, rfl⟩ := List.mem_map.mp hx
    simp [datT]
theorem depthT : ∀ zs : List (Int × Int × Int), PyData.depthAll (zs.map datT) ≤ 8
  | [] => by simp [PyData.depthAll]
  | z :: zs => by
    have h := depthT zs
    rw [List.map_cons]
    have e : (datT z).depth ≤ 8 := by simp [datT, PyData.depth, PyData.depthAll]
    have e2 : PyData.depthAll (datT z :: zs.map datT) = max (datT z).depth (PyData.depthAll (zs.map datT)) := by rw [PyData.depthAll]
    rw [e2]
    exact Nat.max_le.mpr ⟨e, h⟩
variable {X : Cx} {pins : List (Addr × Obj)} {σ : L2.St} {H : Hp} {s : Shared}
def rMinT (K : PySem.W.Frag) : List V → Hp → VK → Prop := fun vs H Q => ∃ (a : Addr) (zs : List (V × (Int × Int × Int))), vs = [V.ref a] ∧ SqL K H a (zs.map (·.1)) ∧ (∀ z ∈ zs, TupI K H z.1 [z.2.1, z.2.2.1, z.2.2.2]) ∧
  ∃ m r, zs.map (·.2) = m :: r ∧ ∀ z ∈ zs, z.2 = Ev.minTs m r → Q z.1 H
theorem dp_T {K : PySem.W.Frag} : ∀ {zs : List (V × (Int × Int × Int))}, (∀ z ∈ zs, TupI K H z.1 [z.2.1, z.2.2.1, z.2.2.2]) → DpAll K H (zs.map (·.1)) ((zs.map (·.2)).map datT)
  | [], _ => .nil
  | z :: zs, k => by
    obtain ⟨t, e, q⟩ := k z List.mem_cons_self
    rw [List.map_cons, List.map_cons, List.map_cons, e]
    exact .cons (.tup q (.cons (.int _) (.cons (.int _) (.cons (.int _) .nil)))) (dp_T fun y hy => k y (List.mem_cons_of_mem _ hy))
theorem cr_minT (hu : X.A.units + 64 < cLine) (hc : X.calm = true) : CallR X (.builtin "min") (rMinT X.K) := by
  intro pins s σ H vs us Q I r h
  obtain ⟨a, zs, rfl, hs, ht, m, rs, em, q⟩ := h
  obtain ⟨its, rv, hl, _⟩ := I.list hs
  rw [Vals.ref1 r]
  obtain ⟨as, hr⟩ := Dp.readsAll I _ _ _ (dp_T ht) rv
  have hn : its.length = zs.length := by rw [← rv.length, List.length_map]
  have hz : zs.length = rs.length + 1 := by
    have := congrArg List.length em
    rw [List.length_map] at this
    exact this
  have hd : (zs.map (·.2)).map datT = datT m :: rs.map datT := by rw [em]; rfl
  rw [hd] at hr
  have al : PySem.W.AlikeAll (datT m :: rs.map datT) := by rw [← hd]; exact alikeT _
  have hdep : PyData.depthAll (datT m :: rs.map datT) ≤ 8 := by rw [← hd]; exact depthT _
  refine PySem.call_min_walkH (PySem.W.iter_listW (A := X.A.in1) (I.ok.hd hc) hl.isList fun s₂ e W st hfp hw hk => ?_)
  refine ⟨_, _, _, _, _, _, _, s.heap, _, rfl, W, st, hfp, ?_, hw, hk, PySem.W.cmpIn_lt (A := X.A.in1) (vs := its.toArray) (by simpa using hr) al (by show X.A.units + 1 + _ < _; omega), fun v s' hP mv => ?_⟩
  · simp
    omega
  · obtain ⟨h', tk, rfl, hk'⟩ := PySem.W.moved_old e rfl mv
    have e2 := (PySem.W.argBest_fold PySem.W.dataLt PyData.none (datT m) (rs.map datT) (rs.map datT).length (Nat.le_refl _))
    obtain ⟨e3, e4⟩ := e2
    rw [List.take_length] at e4
    have e1 : its.toArray.size - 1 = (rs.map datT).length := by simp; omega
    rw [e1] at hP
    generalize PySem.argBest (fun i j => PySem.W.dataLt ((datT m :: rs.map datT).getD i PyData.none) ((datT m :: rs.map datT).getD j PyData.none)) (rs.map datT).length = i at *
    have e5 : (datT m :: rs.map datT).getD i PyData.none = datT (Ev.minTs m rs) := by rw [← minD_T]; exact e4
    have hi : i < zs.length := by
      rw [List.length_map] at e3
      omega
    have ez : zs[i]? = some zs[i] := List.getElem?_eq_getElem hi
    have e6 : (zs[i]).2 = Ev.minTs m rs := by
      refine datT_inj ?_
      rw [← e5, ← hd, List.getD_eq_getElem?_getD, List.getElem?_map, List.getElem?_map, ez]
      rfl
    have hP' : its[i]? = some v := by simpa using hP
    have ev : RelV (zs[i]).1 v := by
      obtain ⟨u, hu1, hu2⟩ := rv.get (i := i) (x := (zs[i]).1) (by rw [List.getElem?_map, ez]; rfl)
      rw [hP'] at hu1
      cases hu1
      exact hu2
    exact ⟨(zs[i]).1, H, I.kept hk', ev, q _ (List.getElem_mem hi) e6⟩
variable {R : Cn} {Fz : Addr → Prop} {ρ : List Addr} {h : Ev.Hp}
theorem tripsV_of : ∀ {xs : List LV} {ps : List (Int × Int × Int)} {vs : List V}, Ev.tripOf xs = some ps → Reps R Fz ρ H xs vs → ∃ zs : List (V × (Int × Int × Int)), zs.map (·.1) = vs ∧ zs.map (·.2) = ps ∧ ∀ z ∈ zs, TupI R.K H z.1 [z.2.1, z.2.2.1, z.2.2.2]
  | [], ps, vs, e, r => by
    cases e
    unfold Reps at r
    subst r
    exact ⟨[], rfl, rfl, fun z hz => by cases hz⟩
  | x :: xs, ps, vs, e, r => by
    unfold Ev.tripOf at e
    split at e
    · cases ‹x :: xs = []›
    · rename_i a b c r' e0
      injection e0 with e1 e2
      subst e1; subst e2
      obtain ⟨qs, e3, rfl⟩ := Option.map_eq_some_iff.mp e
      unfold Reps at r
      obtain ⟨v, w, rfl, r1, r2⟩ := r
      obtain ⟨zs, z1, z2, z3⟩ := tripsV_of e3 r2
      unfold Rep at r1
      obtain ⟨t, us, rfl, q, ru⟩ := r1
      have hu : us = [V.int a, V.int b, V.int c] := ints_of (ns := [a, b, c]) rfl ru
      subst hu
      refine ⟨(.ref t, (a, b, c)) :: zs, by rw [List.map_cons, z1], by rw [List.map_cons, z2], fun z hz => ?_⟩
      rcases List.mem_cons.mp hz with rfl | hz
      · exact ⟨t, rfl, q⟩
      · exact z3 z hz
    · cases e
theorem sem_minT : OpN R .minT 1 (rMinT R.K) := by
  intro Fz ρ H h vs v xs Q C r n e k
  match vs, n with
  | [w], _ =>
    obtain ⟨x, rfl, r1⟩ := repWs1 r
    replace e : Ev.minTV w = some v := e
    unfold Ev.minTV at e
    split at e
    · rename_i ys
      split at e
      · rename_i m rs e1
        cases e
        obtain ⟨a, ws, rfl, q, t⟩ := r1
        obtain ⟨zs, z1, z2, z3⟩ := tripsV_of e1 t
        subst z1
        refine ⟨a, zs, rfl, SqL.of q, z3, m, rs, z2, fun z hz hm => ?_⟩
        rw [← hm] at k
        refine k z.1 H Fz ρ C Ext.refl ?_
        obtain ⟨t2, e2, q2⟩ := z3 z hz
        unfold Ev.tripL Rep
        exact ⟨t2, _, e2, q2, reps_mapI [z.2.1, z.2.2.1, z.2.2.2]⟩
      · cases e
    · cases e
end Sd
end
section
set_option maxRecDepth 100000
set_option maxHeartbeats 8000000
/-! the check is sound: helpers -/
namespace Sd
open PySem PySem.Spec PyProof.Rows L2
open Ev (LV LO CE CEs Src Tg Tgs CKs CS CSs Prg Orc Slot SR)
section
variable {R : Cn} {X : Cx} {W : WX} {O : Orc} {σ : L2.St} {H : Hp} {N : List Str} {sc : Scope} {G : Gs} {k : Nat} {m : Md} {e : Expr} {c : CE} {es : List Expr} {cs : CEs} {pos : Pos}
def JL (m : Md) (R : Cn) (W : WX) (O : Orc) (X : Cx) : List Expr → CEs → Prop
  | [], .nil => True
  | e :: es, .cons c cs => noStar e = true ∧ J m R W O X e c ∧ JL m R W O X es cs
  | _, _ => False
theorem JL.ses : ∀ {es : List Expr} {cs : CEs}, JL .keep R W O X es cs → SEs R W O X es cs
  | [], .nil, _ => ses_nil
  | e :: es, .cons c cs, ⟨n, j, r⟩ => ses_cons j (JL.ses r) (star_of n)
  | [], .cons _ _, h => h.elim
  | _ :: _, .nil, h => h.elim
theorem JL.svs : ∀ {es : List Expr} {cs : CEs}, JL .see R W O X es cs → SVs R W O X es cs
  | [], .nil, _ => svs_nil
  | e :: es, .cons c cs, ⟨n, j, r⟩ => svs_cons j (JL.svs r) (star_of n)
  | [], .cons _ _, h => h.elim
  | _ :: _, .nil, h => h.elim
theorem JL.stars : ∀ {es : List Expr} {cs : CEs}, JL m R W O X es cs → es.all noStar = true
  | [], .nil, _ => rfl
  | e :: es, .cons c cs, ⟨n, j, r⟩ => by rw [List.all_cons, n, JL.stars r]; rfl
  | [], .cons _ _, h => h.elim
  | _ :: _, .nil, h => h.elim
theorem JL.len : ∀ {es : List Expr} {cs : CEs}, JL m R W O X es cs → clen cs = es.length
  | [], .nil, _ => rfl
  | e :: es, .cons c cs, ⟨n, j, r⟩ => by rw [clen, JL.len r]; rfl
  | [], .cons _ _, h => h.elim
  | _ :: _, .nil, h => h.elim
theorem plain_bo (h : plainT e = true) : isBO e = true → SW R W O X e c := fun b => by
  cases e <;> first | (cases b; done) | (cases h; done)
theorem of_se (hK : X.K = R.K) (h : okM m e = true) (hv : ∀ i, c ≠ .var i) (s : SE R W O X e c) : J m R W O X e c := by
  cases m with
  | keep => exact s
  | see => exact s.sv hv
  | fresh => cases h
  | test => exact ⟨st_of s hK (true_of h), plain_bo h⟩
theorem of_sf (hK : X.K = R.K) (h : okF' m e = true) (hv : ∀ i, c ≠ .var i) (s : SF R W O X e c) : J m R W O X e c := by
  cases m with
  | keep => exact s.se
  | see => exact s.se.sv hv
  | fresh => exact s
  | test => exact ⟨st_of s.se hK (true_of h), plain_bo h⟩
/-! ### comparisons tested -/
theorem tT_bl {c : CE} (hb : ∀ L h v h', Ev.ev R.pr O c L h = .ok v h' → ∃ b, v = .bl b) {Q : Bool → Hp → Prop} (t : tT R W O c σ H Q) : tE R W O c σ H (fun x H' => ∃ k, x = .bl k ∧ Q k H') := by
  obtain ⟨L, h, Fz, ρ, C, S, r⟩ := t
  refine ⟨L, h, Fz, ρ, C, S, ?_⟩
  dsimp only
  cases q : Ev.ev R.pr O c L h with
  | bad => simp only [q] at r
  | exc d h1 => simp only [q] at r; exact r
  | ok v h1 =>
    obtain ⟨b, rfl⟩ := hb L h v h1 q
    simp only [q, Ev.view, Ev.LV.truth] at r
    intro x H1 F1 ρ1 C1 E1 R1
    cases R1
    exact ⟨b, rfl, r H1 F1 ρ1 C1 E1⟩
def blOp (o : Ev.Op) : Bool := match o with
  | .eq | .ne | .lt | .le | .gt | .ge | .inn | .nin | .isn | .notn => true
  | _ => false
theorem bi_bl {f : LV → LV → Option LV} (hf : ∀ a b v, f a b = some v → ∃ k, v = .bl k) {vs : List LV} {v : LV} (e : Ev.bi f vs = some v) : ∃ k, v = .bl k := by
  unfold Ev.bi at e
  split at e
  · exact hf _ _ _ e
  · cases e
theorem opv_bl {o : Ev.Op} (h : blOp o = true) {vs : List LV} {v : LV} (e : Ev.opv o vs = some v) : ∃ k, v = .bl k := by
  cases o <;> first | (cases h; done) | skip
  case eq => exact bi_bl (fun a b v q => by unfold Ev.eqV at q; split at q <;> cases q; exact ⟨_, rfl⟩) e
  case ne => exact bi_bl (fun a b v q => by unfold Ev.neV at q; split at q <;> cases q; exact ⟨_, rfl⟩) e
  case lt => exact bi_bl (fun a b v q => by unfold Ev.ltV at q; split at q <;> cases q <;> exact ⟨_, rfl⟩) e
  case le => exact bi_bl (fun a b v q => by unfold Ev.leV at q; split at q <;> cases q; exact ⟨_, rfl⟩) e
  case gt => exact bi_bl (fun a b v q => by unfold Ev.gtV at q; split at q <;> cases q <;> exact ⟨_, rfl⟩) e
  case ge => exact bi_bl (fun a b v q => by unfold Ev.geV at q; split at q <;> cases q; exact ⟨_, rfl⟩) e
  case inn => exact bi_bl (fun a b v q => by obtain ⟨w, _, rfl⟩ := Option.map_eq_some_iff.mp (show (Ev.innB a b).map _ = some v from q); exact ⟨_, rfl⟩) e
  case nin => exact bi_bl (fun a b v q => by obtain ⟨w, _, rfl⟩ := Option.map_eq_some_iff.mp (show (Ev.innB a b).map _ = some v from q); exact ⟨_, rfl⟩) e
  case isn =>
    replace e : Ev.un (fun a => some (.bl (Ev.isNon a))) vs = some v := e
    unfold Ev.un at e
    split at e <;> cases e
    exact ⟨_, rfl⟩
  case notn =>
    replace e : Ev.un (fun a => some (.bl (!Ev.isNon a))) vs = some v := e
    unfold Ev.un at e
    split at e <;> cases e
    exact ⟨_, rfl⟩
theorem ev_op_bl {o : Ev.Op} (h : blOp o = true) {L : Ev.Env} {hh h' : Ev.Hp} {v : LV} (e : Ev.ev R.pr O (.op o cs) L hh = .ok v h') : ∃ k, v = .bl k := by
  simp only [Ev.ev] at e
  cases q : Ev.evA R.pr O cs L hh with
  | bad => simp only [q] at e; cases e
  | exc d h1 => simp only [q] at e; cases e
  | ok vs h1 =>
    simp only [q] at e
    cases z : Ev.opv o (vs.map fun v => Ev.view v h1) with
    | none => rw [z] at e; cases e
    | some w =>
      rw [z] at e
      cases e
      exact opv_bl h z
theorem evC_bl : ∀ {bs : CEs} {v : LV} {os : List Ev.Op} {L : Ev.Env} {h h' : Ev.Hp} {w : LV}, Ev.evC R.pr O v os bs L h = .ok w h' → ∃ k, w = .bl k
  | .nil, v, os, L, h, h', w, e => by
    simp only [Ev.evC] at e
    split at e <;> cases e
    exact ⟨_, rfl⟩
  | .cons b bs, v, os, L, h, h', w, e => by
    simp only [Ev.evC] at e
    split at e
    · rename_i o os'
      cases q : Ev.sel b L h (Ev.ev R.pr O b L h) with
      | bad => simp only [q] at e; cases e
      | exc d h1 => simp only [q] at e; cases e
      | ok u h1 =>
        simp only [q] at e
        split at e
        · exact evC_bl e
        · cases e; exact ⟨_, rfl⟩
        · cases e
    · cases e
theorem ev_cmp_bl {a : CE} {os : List Ev.Op} {bs : CEs} {L : Ev.Env} {h h' : Ev.Hp} {v : LV} (e : Ev.ev R.pr O (.cmp a os bs) L h = .ok v h') : ∃ k, v = .bl k := by
  simp only [Ev.ev] at e
  cases q : Ev.sel a L h (Ev.ev R.pr O a L h) with
  | bad => simp only [q] at e; cases e
  | exc d h1 => simp only [q] at e; cases e
  | ok u h1 => simp only [q] at e; exact evC_bl e
/-- a comparison, whatever is wanted of it -/
theorem of_cmp {o : Ev.Op} (hb : blOp o = true) (hm : m ≠ .fresh) (hbo : isBO e = false) (s : SE R W O X e (.op o cs)) (t : PT X e (fun σ H Q => tE R W O (.op o cs) σ H fun x H' => ∃ k, x = .bl k ∧ Q k H')) : J m R W O X e (.op o cs) := by
  cases m with
  | keep => exact s
  | see => exact s.sv (fun i z => by cases z)
  | fresh => exact absurd rfl hm
  | test => exact ⟨pt_imp t fun σ H Q r => tT_bl (fun L h v h' e => ev_op_bl hb e) r, fun z => by rw [hbo] at z; cases z⟩
/-- the tables -/
theorem bin_ok (ok : XOk R X W N sc) {op : Operator} {o : Ev.Op} (h : binT op o = true) : ∃ r, OpR X (binaryOp op) r ∧ Op2 R o r := by
  unfold binT at h
  split at h <;> first | (cases h; done) | skip
  · exact ⟨_, by rw [← ok.K]; exact op_add4, sem_add⟩
  · exact ⟨_, op_sub, sem_sub⟩
  · exact ⟨_, op_mul2, sem_mul⟩
  · exact ⟨_, op_fdivN, sem_fdiv⟩
  · exact ⟨_, op_modN, sem_mod⟩
  · exact ⟨_, op_pow, sem_pow⟩
theorem binF_ok (ok : XOk R X W N sc) {op : Operator} {o : Ev.Op} (h : binF op o = true) : ∃ r, OpR X (binaryOp op) r ∧ Op2F R o r := by
  unfold binF at h
  split at h <;> first | (cases h; done) | skip
  · exact ⟨_, by rw [← ok.K]; exact op_add4, semF_add⟩
  · exact ⟨_, op_mul2, semF_mul⟩
theorem cmp_ok (ok : XOk R X W N sc) {op : CmpOp} {o : Ev.Op} (h : cmpT op o = true) : blOp o = true ∧ ∃ r, OpR X (compareOp op) r ∧ Op2 R o r := by
  have hu := ok.un
  unfold cmpT at h
  split at h <;> first | (cases h; done) | skip
  · exact ⟨rfl, _, by rw [← ok.K]; exact op_eqD (by omega), sem_eq⟩
  · exact ⟨rfl, _, by rw [← ok.K]; exact op_neD (by omega), sem_ne⟩
  · exact ⟨rfl, _, op_lt2, sem_lt⟩
  · exact ⟨rfl, _, op_le, sem_le⟩
  · exact ⟨rfl, _, op_gt2, sem_gt⟩
  · exact ⟨rfl, _, op_ge, sem_ge⟩
  · exact ⟨rfl, _, by rw [← ok.K]; exact op_in4 hu, sem_inn⟩
  · exact ⟨rfl, _, by rw [← ok.K]; exact op_nin4 hu, sem_nin⟩
theorem jl1 {a : Expr} (h : JL m R W O X [a] cs) : ∃ ca, cs = .cons ca .nil ∧ noStar a = true ∧ J m R W O X a ca := by
  cases cs with
  | nil => exact h.elim
  | cons c cs =>
    cases cs with
    | nil => exact ⟨c, rfl, h.1, h.2.1⟩
    | cons _ _ => exact h.2.2.elim
theorem jl2 {a b : Expr} (h : JL m R W O X [a, b] cs) : ∃ ca cb, cs = .cons ca (.cons cb .nil) ∧ J m R W O X a ca ∧ J m R W O X b cb := by
  cases cs with
  | nil => exact h.elim
  | cons c cs =>
    obtain ⟨cb, e, _, jb⟩ := jl1 h.2.2
    exact ⟨c, cb, by rw [e], h.2.1, jb⟩
theorem boot_max : bootBuiltins "max" = some (.builtin "max") := by decide +kernel
theorem boot_min : bootBuiltins "min" = some (.builtin "min") := by decide +kernel
theorem boot_lenx : bootBuiltins "len" = some (.builtin "len") := by decide +kernel
theorem boot_absx : bootBuiltins "abs" = some (.builtin "abs") := by decide +kernel
theorem boot_sumx : bootBuiltins "sum" = some (.builtin "sum") := by decide +kernel
theorem boot_intx : bootBuiltins "int" = some (.type "int") := by decide +kernel
theorem blt_ok (ok : XOk R X W N sc) {x : Str} {o : Ev.Op} {es : List Expr} {p : Pos} (h : bltT x o es.length = true) (hg : sc.names.lookup x = some .globalImplicit) (hm : R.mg x = none) (hd : nodbg x = true) (jl : JL .see R W O X es cs) : SE R W O X (.Call (.Name x p) es [] pos) (.op o cs) := by
  obtain ⟨d1, d2, d3⟩ := dbg_of hd
  have hs := jl.stars
  have hl := jl.len
  unfold bltT at h
  split at h <;> first | (cases h; done) | (
    rw [Bool.and_eq_true, decide_eq_true_eq, decide_eq_true_eq] at h
    obtain ⟨rfl, hn⟩ := h
    cases es with
    | nil => cases hn
    | cons a es =>
      have hp : (backTo pos (starEach es X.env)).any (·.1) = false := by
        rw [List.all_cons, Bool.and_eq_true] at hs
        exact pl_of hs.2
      have he := star_of (es := es) (env := X.env) (by rw [List.all_cons, Bool.and_eq_true] at hs; exact hs.1 : noStar a = true)
      first
        | exact se_callB ok (by rw [← ok.K]; exact call_len2) sem_len hg hm boot_lenx jl.svs (by rw [hl]; exact hn) d3 d1 he hp
        | exact se_callB ok call_abs sem_abs hg hm boot_absx jl.svs (by rw [hl]; exact hn) d3 d1 he hp
        | exact se_callTy ok call_int1 sem_int hg hm boot_intx jl.svs (by rw [hl]; exact hn) d3 d1 he hp
        | exact se_callB ok (call_max2 ok.calm) sem_max hg hm boot_max jl.svs (by rw [hl]; exact hn) d3 d1 he hp
        | exact se_callB ok (call_min2 ok.calm) sem_min hg hm boot_min jl.svs (by rw [hl]; exact hn) d3 d1 he hp
        | exact se_callB ok (by rw [← ok.K]; exact cr_minT (by have := ok.un; omega) ok.calm) sem_minT hg hm boot_min jl.svs (by rw [hl]; exact hn) d3 d1 he hp
        | exact se_callB ok (by rw [← ok.K]; exact cr_min ok.calm) sem_minR hg hm boot_min jl.svs (by rw [hl]; exact hn) d3 d1 he hp
        | exact se_callB ok (by rw [← ok.K]; exact cr_max ok.calm) sem_maxR hg hm boot_max jl.svs (by rw [hl]; exact hn) d3 d1 he hp
        | exact se_callB ok (by rw [← ok.K]; exact cr_sum ok.calm) sem_sumR hg hm boot_sumx jl.svs (by rw [hl]; exact hn) d3 d1 he hp)
theorem boot_sortedx : bootBuiltins "sorted" = some (.builtin "sorted") := by decide +kernel
theorem blf_ok (ok : XOk R X W N sc) {x : Str} {o : Ev.Op} {es : List Expr} {p : Pos} (h : bltF x o es.length = true) (hg : sc.names.lookup x = some .globalImplicit) (hm : R.mg x = none) (hd : nodbg x = true) (jl : JL .see R W O X es cs) : SF R W O X (.Call (.Name x p) es [] pos) (.op o cs) := by
  obtain ⟨d1, d2, d3⟩ := dbg_of hd
  have hs := jl.stars
  have hl := jl.len
  unfold bltF at h
  split at h <;> first | (cases h; done) | (
    rw [Bool.and_eq_true, decide_eq_true_eq, decide_eq_true_eq] at h
    obtain ⟨rfl, hn⟩ := h
    cases es with
    | nil => cases hn
    | cons a es =>
      have hp : (backTo pos (starEach es X.env)).any (·.1) = false := by
        rw [List.all_cons, Bool.and_eq_true] at hs
        exact pl_of hs.2
      have he := star_of (es := es) (env := X.env) (by rw [List.all_cons, Bool.and_eq_true] at hs; exact hs.1 : noStar a = true)
      first
        | exact sf_callB ok (by rw [← ok.K]; exact cr_sortedI) sem_srtI hg hm boot_sortedx jl.svs (by rw [hl]; exact hn) d3 d1 he hp
        | exact sf_callB ok (by rw [← ok.K]; exact cr_sortT (by decide)) sem_srtP hg hm boot_sortedx jl.svs (by rw [hl]; exact hn) d3 d1 he hp)
end
end Sd
end
section
set_option maxRecDepth 100000
set_option maxHeartbeats 2000000
/-! any of a generator expression whose target is a pair of names -/
namespace Sd
open PySem PySem.Spec PyProof.Rows L2 GxR
open Ev (LV LO CE CEs Src Tg Tgs CKs TG TGs CS CSs Prg Orc Slot)
/-- the own scope of a generator expression with two names -/
structure GenS2 (en : PySem.Env) (sp : Scope) (xa xb : Str) : Prop where
  kind : sp.kind = .function
  co : sp.isCoroutine = false
  cell : ∀ y ∈ sp.names, y.2 ≠ .cell
  dot : sp.names.lookup (".0" : Str) = some NameKind.local
  la : sp.names.lookup xa = some .local
  lb : sp.names.lookup xb = some .local
  ne : xa ≠ xb
  free : ∀ y ∈ sp.names, y.2 = .free → ∃ c, en.cells.lookup y.1 = some c
/-- the iterator at g, made at s2 from what stood at s1: it yields n pairs -/
def ItR (X : Cx) (P : Addr) (s1 s2 : Shared) (g : Addr) (n : Nat) (Pt : Nat → Array Value → Prop) : Prop :=
  ∃ (fp wr : List Addr) (St : Nat → Heap → Prop) (Mid : Nat → Addr → Heap → Prop), (∀ A' : Around, A'.handled = none → WalksU X.prog X.w A' g fp wr n Pt St Mid) ∧ St 0 s2.heap ∧ (∀ b ∈ fp, b < s2.heap.objs.size) ∧ P ∉ fp ∧ (∀ b u, s1.heap.get? b = some u → b ∉ wr) ∧
    ∃ h2 tk, s2 = { s1 with heap := h2, toks := tk } ∧ ∀ b o, s1.heap.get? b = some o → h2.get? b = some o
/-- the element's test at the i-th pair -/
def EltT (X : Cx) (P : Addr) (sp : Scope) (xa xb : Str) (elt : Expr) (s1 : Shared) (Pt : Nat → Array Value → Prop) (tr : Nat → Bool) : Prop :=
  ∀ (i : Nat) (va vb : Value) (ce : PySem.Env) (A' : Around) (E' : Value → Shared → Prop) (s3 : Shared) (m : Str → Option Value), Pt i #[va, vb] → ce.scope = sp → s3.heap.Ns ce.locals m → m xa = some va → m xb = some vb → (∀ b o, b ≠ P → s1.heap.get? b = some o → s3.heap.get? b = some o) →
    wpAny (model X.prog X.w) A' (eval elt ce) (fun y s4 => y = .bool (tr i) ∧ PySem.Keeps s3 s4) E' s3
/-- the generator g, ready to be asked by any -/
def Ready2 (X : Cx) (pins : List (Addr × Obj)) (σ : L2.St) (H1 : Hp) (P : Addr) (n : Nat) (tr : Nat → Bool) (g : Addr) (s5 : Shared) : Prop :=
  ∃ (fp wr : List Addr) (G : Array GenState → Array GenState → Prop) (F : Nat → Value → Prop) (St : Nat → Shared → Prop), WalksS X.prog X.w X.A.in1 g fp wr G n F St ∧ St 0 s5 ∧ TruthOf X.prog X.w X.A.in1 F tr ∧ ∀ s', Moved wr G s5 s' → ∃ H2, Tabbed P H1 H2 ∧ Inv X pins σ H2 s'
section
variable {X : Cx} {pins : List (Addr × Obj)} {σ : L2.St} {H : Hp} {s : Shared}
theorem gen_two {c P : Addr} {elt iter : Expr} {xa xb : Str} {pa pb pt gp : Pos} {kt k : Nat} {sp : Scope} {Q' : Value → Shared → Prop} {Rr : Nat → (Nat → Bool) → Hp → Prop}
    (hr : Room k X.A) (TB : LamX.TabB X.base X.mg c P) (hcode : X.env.code = .ref c) (S : GenS2 X.env sp xa xb) (hs : ∀ v, genFold iter X.env v = pure v)
    (hi : wpAny (model X.prog X.w) X.A (eval iter X.env) (fun v s0 => wpAny (model X.prog X.w) X.A (pyIter v) (fun it s2 => ∃ H1 s1 g n Pt tr, it = .ref g ∧ Inv X pins σ H1 s1 ∧ TabG H1 P ∧ (∀ i vals, Pt i vals → ∃ va vb, vals = #[va, vb]) ∧ ItR X P s1 s2 g n Pt ∧ EltT X P sp xa xb elt s1 Pt tr ∧ Rr n tr H1) X.xe s0) X.xe s)
    (hQ : ∀ n tr H1 g s5, Rr n tr H1 → Ready2 X pins σ H1 P n tr g s5 → Q' (.ref g) s5) :
    wpAny (model X.prog X.w) X.A (eval (.GeneratorExp elt [⟨.Tuple [.Name xa pa, .Name xb pb] kt pt, iter, [], 0⟩] sp gp) X.env) Q' X.xe s := by
  refine wpAny_GeneratorExp_walksQT hr.hd S.co (closure_ok S.free) S.cell S.dot S.la S.lb S.ne S.kind (by have := hr.dp; omega) ?_ hs
  refine wpAny_mono hi (fun v s0 hv => wpAny_mono hv (fun it s2 z => ?_) fun _ _ e => e) fun _ _ e => e
  obtain ⟨H1, s1, g, n, Pt, tr, rfl, I1, ⟨ps, hP, ht⟩, hp2, ⟨fp, wr, St, Mid, W, hst, hfp, hPf, hwr, h2, tk2, rfl, hk2⟩, hel, hR⟩ := z
  have hPs : s1.heap.get? P = some { cls := .none, data := .fields ps } := I1.hok P _ hP
  have hPlt : P < s1.heap.objs.size := Heap.lt_size hPs
  have hP2 : h2.get? P = some { cls := .none, data := .fields ps } := hk2 _ _ hPs
  have cd : PySem.W.CodeHd h2 c P := TB.code.keeps fun b u e => hk2 _ _ (I1.bk b u e)
  have I2 : Inv X pins σ H1 { s1 with heap := h2, toks := tk2 } := I1.kept hk2
  have lim2 : h2.NoLimit := I2.nolimit
  have go : ∀ (code : Value) (h3 : Heap) (tk : Nat) (ps' : Array Value), Heap.ExtBut P h2 h3 → h2.objs.size ≤ h3.objs.size → h3.get? P = some { cls := .none, data := .fields ps' } → (∃ more, ps' = ps ++ more) → TriplesOk ps'.toList →
      wpAny (model X.prog X.w) X.A (builtinsFor X.env.globals X.env.builtins) (fun bi s₄ =>
        ∃ Ia fp wr n₀ Pq St₀ Md pz F, Value.ref g = .ref Ia ∧ (∀ A' : Around, A'.handled = none → WalksU X.prog X.w A' Ia fp wr n₀ Pq St₀ Md) ∧ (∀ i vals, Pq i vals → ∃ va vb, vals = #[va, vb]) ∧ St₀ 0 s₄.heap ∧ (∀ b ∈ fp, b < s₄.heap.objs.size) ∧ s₄.heap.NoLimit ∧ cStatics ∉ wr ∧
          (∀ href : Heap, (∀ b o, s₄.heap.get? b = some o → href.get? b = some o) →
            QuietGenT X.prog X.w (genEnv sp (cloFrom X.env.cells sp.names []) s₄.heap.objs.size code bi X.env) xa xb [] elt (List.range s₄.heap.objs.size) wr Pq pz F href) ∧
          (∀ a h₅ tk gs, gs.bare = true → s₄.heap.objs.size < a → h₅.objs.size = a + 1 → (∀ b o, s₄.heap.get? b = some o → h₅.get? b = some o) →
            WalksS X.prog X.w X.A.in4 a (a :: s₄.heap.objs.size :: List.range s₄.heap.objs.size) (s₄.heap.objs.size :: wr) (GenOnlyQ s₄.gens.size) (passing pz n₀ 0).length
              (fun j y => ∃ i, (passing pz n₀ 0)[j]? = some i ∧ F i y) (GenAt X.prog X.w X.A.in4 a s₄.gens.size s₄.heap.objs.size (List.range s₄.heap.objs.size) wr pz n₀ F) →
            GenAt X.prog X.w X.A.in4 a s₄.gens.size s₄.heap.objs.size (List.range s₄.heap.objs.size) wr pz n₀ F 0 { s₄ with gens := s₄.gens.push gs, toks := tk, heap := h₅ } →
            Q' (.ref a) { s₄ with gens := s₄.gens.push gs, toks := tk, heap := h₅ })) X.xe { s1 with heap := h3, toks := tk } := by
    intro code h3 tk ps' hx hsz hP3 hmore ht3
    obtain ⟨bm, ob, e1, e2, e3, e4, e5, e6, e7, e8⟩ := TB.bm
    have hcP : cStatics ≠ P := fun e => by
      obtain ⟨_, hns, _⟩ := I1.nolimit
      obtain ⟨o', es, ep, ho, hd, _⟩ := hns
      rw [e, hPs] at ho
      cases ho
      cases hd
    have keep3 : ∀ b u, b ≠ P → s1.heap.get? b = some u → h3.get? b = some u := fun b u hb e => hx b u hb (hk2 _ _ e)
    refine wpAny_builtinsFor (m := X.mg) (by rw [I1.ok.glob]; exact (I1.mod.glob.keeps fun b u e => hk2 _ _ (I1.bk b u e)).extBut hx TB.gP) e1 e2 (keep3 _ _ e4 (I1.bk _ _ e5)) e6 e7 e8 ?_
    refine ⟨g, fp, wr, n, Pt, St, Mid, (fun _ => true), (fun i y => y = .bool (tr i)), rfl, W, hp2, ?_, ?_, lim2.extBut hx hcP, ?_, ?_, ?_⟩
    · exact (W X.A hr.hd).frame _ _ _ hst fun b hb u e => hx b u (fun q => hPf (q ▸ hb)) e
    · exact fun b hb => Nat.lt_of_lt_of_le (hfp b hb) hsz
    · intro q
      obtain ⟨_, hns, _⟩ := I1.nolimit
      obtain ⟨o', es, ep, ho, hd, _⟩ := hns
      exact hwr _ _ ho q
    · intro href hh
      refine ⟨fun A' E' i va vb s₂ m₂ hA hPv hn ha hb hk => ?_, fun A' E' i va vb s₂ m₂ hA hPv hp hn ha hb hk => ?_⟩
      · simp only [List.forIn_nil]
        exact wpAny_pure ⟨rfl, keeps_refl _⟩
      · refine hel i va vb _ A' E' s₂ m₂ hPv rfl hn ha hb fun b o nb e => ?_
        have e3 : h3.get? b = some o := keep3 b o nb e
        exact hk b (List.mem_range.mpr (Heap.lt_size e3)) (hwr b o e) o (hh b o e3)
    · intro a h5 tk5 gs hgb hag hsz5 hk5 W5 hat
      simp only [GxR.passing_true, List.length_range] at W5
      refine hQ n tr H1 a _ hR ⟨_, _, _, _, _, W5.in4_1, hat, ?_, fun s' hm => ?_⟩
      · intro j y sj Qj Ej hy hQj
        obtain ⟨i, hij, rfl⟩ := hy
        obtain ⟨hj, ej⟩ := List.getElem?_eq_some_iff.mp hij
        rw [List.getElem_range] at ej
        subst ej
        exact wpAny_truthy_bool hQj
      · obtain ⟨more, em⟩ := hmore
        have nw : ∀ b u, s1.heap.get? b = some u → b ∉ h3.objs.size :: wr := fun b u e hb => by
          rcases List.mem_cons.mp hb with z | z
          · have hl := Heap.lt_size (hk2 b u e)
            rw [z] at hl
            exact Nat.lt_irrefl _ (Nat.lt_of_lt_of_le hl hsz)
          · exact hwr b u e z
        have J := inv_tab (more := more) (h' := s'.heap) (g' := s'.gens) (d' := s'.drawn) (t' := s'.toks) I1 hP (fun b u hb e => hm.heap b u (nw b u e) (hk5 b u (keep3 b u hb e)))
          (by rw [← em]; exact hm.heap P _ (nw P _ hPs) (hk5 P _ hP3)) (AllBare.movedS (I1.bare.push hgb) hm)
        rw [sh_eta s1 s' hm.os] at J
        exact ⟨upd H1 P (.tbl (ps ++ more)), ⟨⟨ps ++ more, upd_same, by rw [← em]; exact ht3⟩, fun b hb => upd_ne hb⟩, J⟩
  refine ⟨lim2, ?_⟩
  cases hf : codeAmong gp ps.toList with
  | none =>
    refine wpAny_genexprCodeX hcode (cd.code hP2 ht) (cd.tab hP2) hf fun c' h' tk hx hge hlt hco' _ htab' _ => ?_
    obtain ⟨o1, vs, f1, tf, fl, tg, inF, tx, tt, op, _, _, _, _, _, _, _, _, _, htr, _⟩ := hco'
    exact go _ h' tk _ hx (Nat.le_trans hge (Nat.le_of_lt hlt)) htab'.2 ⟨_, rfl⟩ htr
  | some cv =>
    refine wpAny_genexprCode_hit hcode (cd.code hP2 ht) hf ?_
    exact go cv h2 tk2 ps (Heap.ExtBut.refl _ _) (Nat.le_refl _) hP2 ⟨#[], by simp⟩ ht
end
end Sd
end
section
set_option maxRecDepth 100000
set_option maxHeartbeats 2000000
/-! what any of a generator expression walks: rows of pairs, zip of two rows -/
namespace Sd
open PySem PySem.Spec PyProof.Rows L2 GxR
theorem walks_weak {prog : Program} {w : World} {A : Around} {g : Addr} {fp wr : List Addr} {n : Nat} {Pt Pq : Nat → Array Value → Prop} {St : Nat → Heap → Prop} {Mid : Nat → Addr → Heap → Prop} (W : WalksU prog w A g fp wr n Pt St Mid) (k : ∀ i v, Pt i v → Pq i v) : WalksU prog w A g fp wr n Pq St Mid where
  sub := W.sub
  frame := W.frame
  item := fun i s Q E hi st hQ => W.item i s Q E hi st fun T vals h' tk hP hT hm hk => hQ T vals h' tk (k _ _ hP) hT hm hk
  go := W.go
  apart := W.apart
  done := W.done
  self := W.self
section
variable {prog : Program} {w : World} {A : Around} {E : Value → Shared → Prop} {s : Shared}
theorem own_tupiter {elts : List Expr} {x1} {pos : Pos} {g l T : Addr} {i : Nat} {Q : Unit → Shared → Prop} (hit : s.heap.IsTupleIter g l i) (hQ : Q () s) :
    wpAny (model prog w) A (letOwnedTupleGo (.Tuple elts x1 pos) (.ref g) (.ref T)) Q E s := by
  obtain ⟨o, ho, hc, hd⟩ := hit
  exact go_of ho hc hd (by decide) hQ
end
theorem walks_tt {prog : Program} {w : World} {A : Around} (hh : A.handled = none) (g ax : Addr) (hne : ax ≠ g) (items : Array Value) (Ts : Nat → Addr) (vals : Nat → Array Value)
    (hit : ∀ j, j < items.size → items[j]? = some (.ref (Ts j))) (hTI : ∀ j, j < items.size → Ts j ≠ g) :
    WalksU prog w A g (g :: ax :: (List.range items.size).map Ts) [g] items.size (fun j v => v = vals j)
      (fun j h => h.IsTupleIter g ax j ∧ h.IsTuple ax items ∧ ∀ k, k < items.size → h.IsTuple (Ts k) (vals k))
      (fun j T h => (j < items.size ∧ T = Ts j) ∧ h.IsTupleIter g ax (j + 1) ∧ h.IsTuple ax items ∧ ∀ k, k < items.size → h.IsTuple (Ts k) (vals k)) where
  sub := fun b hb => by simp at hb; simp [hb]
  frame := fun _ _ _ st hk => ⟨st.1.at fun o e => hk g (by simp) o e, st.2.1.at fun o e => hk ax (by simp) o e,
    fun k q => (st.2.2 k q).at fun o e => hk (Ts k) (List.mem_cons_of_mem _ (List.mem_cons_of_mem _ (List.mem_map.mpr ⟨k, List.mem_range.mpr q, rfl⟩))) o e⟩
  item := fun i s Q E hi st hQ => by
    refine wpAny_pyNext_tuple_item st.1 st.2.1 (x := .ref (Ts i)) (hit i hi) fun h1 y1 y2 => ?_
    have tup : ∀ k, k < items.size → h1.IsTuple (Ts k) (vals k) := fun k q => (st.2.2 k q).extBut y2.extBut (hTI k q)
    exact hQ (Ts i) (vals i) h1 s.toks rfl (tup i hi) ⟨⟨hi, rfl⟩, y1, st.2.1.extBut y2.extBut hne, tup⟩ fun b o hb e => y2.extBut b o (fun q => hb (by simp [q])) e
  go := fun _ _ _ _ _ s Q _ hm hQ => own_tupiter hm.2.1 (hQ s.heap hm.2 fun _ _ _ e => e)
  apart := fun j T _ hm hmem => by
    rcases List.mem_cons.mp hmem with e | e
    · exact hTI j hm.1.1 (hm.1.2 ▸ e)
    · cases e
  done := fun s Q E st hQ => wpAny_pyNext_tuple_end hh st.1 st.2.1 (by simp) fun h1 y => hQ h1 s.toks fun b o hb e => y b o (fun q => hb (by simp [q])) e
  self := fun _ _ _ _ st hQ => wpAny_pyIter_tupleiter st.1 hQ
/-- the i-th pair -/
def PtV (ps : List (V × V)) : Nat → Array Value → Prop := fun i vals => ∃ p u1 u2, ps[i]? = some p ∧ vals = #[u1, u2] ∧ RelV p.1 u1 ∧ RelV p.2 u2
theorem ptv_two {ps : List (V × V)} : ∀ i vals, PtV ps i vals → ∃ va vb, vals = #[va, vb] := fun i vals ⟨p, u1, u2, _, e, _⟩ => ⟨u1, u2, e⟩
section
variable {X : Cx} {pins : List (Addr × Obj)} {σ : L2.St} {H : Hp} {s : Shared} {E : Value → Shared → Prop} {Q : Value → Shared → Prop}
/-- the pairs' values, as they lie -/
theorem raw_pairs (I : Inv X pins σ H s) : ∀ {zs : List (Addr × V × V)} {us : List Value}, (∀ z ∈ zs, SqT X.K H z.1 [z.2.1, z.2.2]) → Vals (zs.map fun z => V.ref z.1) us →
    ∃ f : Nat → Addr × Array Value, ∀ j, j < us.length → us[j]? = some (.ref (f j).1) ∧ s.heap.IsTuple (f j).1 (f j).2 ∧ PtV (zs.map (·.2)) j (f j).2 := by
  intro zs us hz rv
  have key : ∀ j, ∃ p : Addr × Array Value, j < us.length → us[j]? = some (.ref p.1) ∧ s.heap.IsTuple p.1 p.2 ∧ PtV (zs.map (·.2)) j p.2 := by
    intro j
    by_cases hj : j < us.length
    · have hl : zs.length = us.length := by rw [← rv.length, List.length_map]
      have hjz : j < zs.length := by omega
      obtain ⟨u, e1, e2⟩ := rv.get (i := j) (x := V.ref (zs[j]).1) (by rw [List.getElem?_map, List.getElem?_eq_getElem hjz]; rfl)
      obtain rfl : u = Value.ref (zs[j]).1 := e2
      obtain ⟨its, r2, ht, _⟩ := I.tuple (hz _ (List.getElem_mem hjz))
      obtain ⟨u1, u2, rfl, h1, h2⟩ := Vals.two r2
      exact ⟨((zs[j]).1, #[u1, u2]), fun _ => ⟨e1, ht, (zs[j]).2, u1, u2, by rw [List.getElem?_map, List.getElem?_eq_getElem hjz]; rfl, rfl, h1, h2⟩⟩
    · exact ⟨(0, #[]), fun q => absurd q hj⟩
  exact ⟨fun j => Classical.choose (key j), fun j hj => Classical.choose_spec (key j) hj⟩
theorem tbl_ne {P b : Addr} {ps : Array Value} (I : Inv X pins σ H s) (hP : H P = some (.tbl ps)) {o : Obj} (e : s.heap.get? b = some o) (hc : o.cls ≠ .none) : b ≠ P := fun z => by
  have hPs : s.heap.get? P = some { cls := .none, data := .fields ps } := I.hok P _ hP
  rw [z, hPs] at e
  cases e
  exact hc rfl
theorem it_list {P a : Addr} {ps : Array Value} {zs : List (Addr × V × V)} (I : Inv X pins σ H s) (hP : H P = some (.tbl ps)) (hs : SqL X.K H a (zs.map fun z => V.ref z.1)) (hz : ∀ z ∈ zs, SqT X.K H z.1 [z.2.1, z.2.2])
    (k : ∀ g s2, ItR X P s s2 g zs.length (PtV (zs.map (·.2))) → Q (.ref g) s2) : wpAny (model X.prog X.w) X.A (pyIter (.ref a)) Q E s := by
  obtain ⟨its, rv, hl, _⟩ := I.list hs
  obtain ⟨f, hf⟩ := raw_pairs I hz rv
  have hn : its.length = zs.length := by rw [← rv.length, List.length_map]
  have hL : s.heap.IsList a its.toArray := hl.isList
  have hal : a < s.heap.objs.size := by obtain ⟨_, e, _⟩ := hL; exact Heap.lt_size e
  have hfl : ∀ j, j < its.length → (f j).1 < s.heap.objs.size := fun j hj => by
    obtain ⟨_, ⟨_, e, _⟩, _⟩ := hf j hj
    exact Heap.lt_size e
  refine wpAny_pyIter_list hL (k _ _ ?_)
  have kp : ∀ b o, s.heap.get? b = some o → (s.heap.push { cls := .type "list_iterator", data := .fields #[.ref a, .int 0 0] }).get? b = some o := fun b o e => Heap.get?_push_of_some _ e
  have W := fun (A' : Around) (hA : A'.handled = none) => (WalksU.listOfTuples (prog := X.prog) (w := X.w) (A := A') hA s.heap.objs.size a (Nat.ne_of_lt hal) its.toArray (fun j => (f j).1) (fun j => (f j).2) (fun j hj => by
      have := (hf j (by simpa using hj)).1
      simpa using this) fun j hj => Nat.ne_of_lt (hfl j (by simpa using hj)))
  have hsz : its.toArray.size = zs.length := by simp [hn]
  have hPl : P < s.heap.objs.size := Heap.lt_size (I.hok P _ hP)
  simp only [hsz] at W
  refine ⟨_, _, _, _, fun A' hA => walks_weak (Pq := PtV (zs.map (·.2))) (W A' hA).bound fun i v q => ?ga, ⟨⟨_, Heap.get?_push_size _ rfl, rfl, rfl⟩, hL.push _, fun j hj => ?gb⟩, fun b hb => ?gc, fun hb => ?gd, fun b u e hb => ?ge, _, s.toks, rfl, kp⟩
  case ga =>
    rw [q.2]
    exact (hf i (by rw [hn]; exact q.1)).2.2
  case gb =>
    exact (hf j (by rw [hn]; exact hj)).2.1.push _
  case gc =>
    show b < (s.heap.push _).objs.size
    rw [Heap.size_push]
    rcases List.mem_cons.mp hb with rfl | hb
    · exact Nat.lt_succ_self _
    · rcases List.mem_cons.mp hb with rfl | hb
      · exact Nat.lt_succ_of_lt hal
      · obtain ⟨j, hj, rfl⟩ := List.mem_map.mp hb
        exact Nat.lt_succ_of_lt (hfl j (by rw [hn]; exact List.mem_range.mp hj))
  case gd =>
    rcases List.mem_cons.mp hb with z | hb
    · exact Nat.ne_of_lt hPl z
    · rcases List.mem_cons.mp hb with z | hb
      · obtain ⟨o, e, hc, _⟩ := hL
        exact tbl_ne I hP e (by rw [hc]; intro q; cases q) z.symm
      · obtain ⟨j, hj, z⟩ := List.mem_map.mp hb
        obtain ⟨_, ⟨o, e, hc, _⟩, _⟩ := hf j (by rw [hn]; exact List.mem_range.mp hj)
        exact tbl_ne I hP e (by rw [hc]; intro q; cases q) z
  case ge =>
    rw [List.mem_singleton.mp hb] at e
    exact Nat.lt_irrefl _ (Heap.lt_size e)
theorem it_tuple {P a : Addr} {ps : Array Value} {zs : List (Addr × V × V)} (I : Inv X pins σ H s) (hP : H P = some (.tbl ps)) (hs : SqT X.K H a (zs.map fun z => V.ref z.1)) (hz : ∀ z ∈ zs, SqT X.K H z.1 [z.2.1, z.2.2])
    (k : ∀ g s2, ItR X P s s2 g zs.length (PtV (zs.map (·.2))) → Q (.ref g) s2) : wpAny (model X.prog X.w) X.A (pyIter (.ref a)) Q E s := by
  obtain ⟨its, rv, hL, _⟩ := I.tuple hs
  replace hL : s.heap.IsTuple a its.toArray := hL
  obtain ⟨f, hf⟩ := raw_pairs I hz rv
  have hn : its.length = zs.length := by rw [← rv.length, List.length_map]
  have hal : a < s.heap.objs.size := by obtain ⟨_, e, _⟩ := hL; exact Heap.lt_size e
  have hfl : ∀ j, j < its.length → (f j).1 < s.heap.objs.size := fun j hj => by
    obtain ⟨_, ⟨_, e, _⟩, _⟩ := hf j hj
    exact Heap.lt_size e
  refine wpAny_pyIter_tuple hL (k _ _ ?_)
  have kp : ∀ b o, s.heap.get? b = some o → (s.heap.push { cls := .type "tuple_iterator", data := .fields #[.ref a, .int 0 0] }).get? b = some o := fun b o e => Heap.get?_push_of_some _ e
  have W := fun (A' : Around) (hA : A'.handled = none) => (walks_tt (prog := X.prog) (w := X.w) (A := A') hA s.heap.objs.size a (Nat.ne_of_lt hal) its.toArray (fun j => (f j).1) (fun j => (f j).2) (fun j hj => by
      have := (hf j (by simpa using hj)).1
      simpa using this) fun j hj => Nat.ne_of_lt (hfl j (by simpa using hj)))
  have hsz : its.toArray.size = zs.length := by simp [hn]
  have hPl : P < s.heap.objs.size := Heap.lt_size (I.hok P _ hP)
  simp only [hsz] at W
  refine ⟨_, _, _, _, fun A' hA => walks_weak (Pq := PtV (zs.map (·.2))) (W A' hA).bound fun i v q => ?ga, ⟨⟨_, Heap.get?_push_size _ rfl, rfl, rfl⟩, hL.push _, fun j hj => ?gb⟩, fun b hb => ?gc, fun hb => ?gd, fun b u e hb => ?ge, _, s.toks, rfl, kp⟩
  case ga =>
    rw [q.2]
    exact (hf i (by rw [hn]; exact q.1)).2.2
  case gb =>
    exact (hf j (by rw [hn]; exact hj)).2.1.push _
  case gc =>
    show b < (s.heap.push _).objs.size
    rw [Heap.size_push]
    rcases List.mem_cons.mp hb with rfl | hb
    · exact Nat.lt_succ_self _
    · rcases List.mem_cons.mp hb with rfl | hb
      · exact Nat.lt_succ_of_lt hal
      · obtain ⟨j, hj, rfl⟩ := List.mem_map.mp hb
        exact Nat.lt_succ_of_lt (hfl j (by rw [hn]; exact List.mem_range.mp hj))
  case gd =>
    rcases List.mem_cons.mp hb with z | hb
    · exact Nat.ne_of_lt hPl z
    · rcases List.mem_cons.mp hb with z | hb
      · obtain ⟨o, e, hc, _⟩ := hL
        exact tbl_ne I hP e (by rw [hc]; intro q; cases q) z.symm
      · obtain ⟨j, hj, z⟩ := List.mem_map.mp hb
        obtain ⟨_, ⟨o, e, hc, _⟩, _⟩ := hf j (by rw [hn]; exact List.mem_range.mp hj)
        exact tbl_ne I hP e (by rw [hc]; intro q; cases q) z
  case ge =>
    rw [List.mem_singleton.mp hb] at e
    exact Nat.lt_irrefl _ (Heap.lt_size e)
end
end Sd
end
section
set_option maxRecDepth 100000
set_option maxHeartbeats 2000000
/-! any over zip of two rows -/
namespace Sd
open PySem PySem.Spec PyProof.Rows L2 GxR
section
variable {X : Cx} {pins : List (Addr × Obj)} {σ : L2.St} {H : Hp} {s : Shared} {E : Value → Shared → Prop} {Q : Value → Shared → Prop}
theorem zip_get {xs ys : List V} {i : Nat} {x y : V} (h1 : xs[i]? = some x) (h2 : ys[i]? = some y) : (xs.zip ys)[i]? = some (x, y) := by
  rw [List.getElem?_zip_eq_some]
  exact ⟨h1, h2⟩
theorem vals_at : ∀ {xs : List V} {us : List Value} {i : Nat} {u : Value}, Vals xs us → us.toArray[i]? = some u → ∃ x, xs[i]? = some x ∧ RelV x u := fun {xs us i u} rv q => by
  have q : us[i]? = some u := by simpa using q
  have hi : i < xs.length := by rw [rv.length]; exact (List.getElem?_eq_some_iff.mp q).1
  have e := List.getElem?_eq_getElem hi
  obtain ⟨u2, e2, r⟩ := rv.get e
  rw [q] at e2
  cases e2
  exact ⟨_, e, r⟩
theorem zip_core {P a b : Addr} {n : Nat} {ps : Array Value} {xs ys : List V} {h1 : Heap} {n1 n2 : Nat} {P1 P2 : Nat → Value → Prop} {St1 St2 : Nat → Heap → Prop} (I : Inv X pins σ H s) (hP : H P = some (.tbl ps)) (hn : n = s.heap.objs.size)
    (hz : IsZip h1 (n + 4) (n + 2) (n + 3) .none) (hTI : PySem.IsTupOf2 h1 (n + 2) (.ref n) (.ref (n + 1))) (hTO : PySem.IsTupOf2 h1 (n + 3) .none .none) (hsz : h1.objs.size = n + 5) (hk : ∀ c o, s.heap.get? c = some o → h1.get? c = some o)
    (D1 : ∀ A' : Around, A'.handled = none → Draws X.prog X.w A' n [n, a] n1 P1 St1) (D2 : ∀ A' : Around, A'.handled = none → Draws X.prog X.w A' (n + 1) [n + 1, b] n2 P2 St2) (st1 : St1 0 h1) (st2 : St2 0 h1)
    (ha : a < n) (hb : b < n) (haP : a ≠ P) (hbP : b ≠ P) (hp1 : ∀ i u, P1 i u → ∃ x, xs[i]? = some x ∧ RelV x u) (hp2 : ∀ i u, P2 i u → ∃ y, ys[i]? = some y ∧ RelV y u) :
    ItR X P s { s with heap := h1 } (n + 4) (min n1 n2) (PtV (xs.zip ys)) := by
  have hPl : P < n := by rw [hn]; exact Heap.lt_size (I.hok P _ hP)
  have fa : ∀ k : Nat, (n + k : Nat) ≠ (a : Nat) := fun k z => Nat.lt_irrefl n (Nat.lt_of_le_of_lt (Nat.le_add_right n k) (by rw [z]; exact ha))
  have fb : ∀ k : Nat, (n + k : Nat) ≠ (b : Nat) := fun k z => Nat.lt_irrefl n (Nat.lt_of_le_of_lt (Nat.le_add_right n k) (by rw [z]; exact hb))
  have fP : ∀ k : Nat, (P : Nat) ≠ n + k := fun k z => Nat.lt_irrefl n (Nat.lt_of_le_of_lt (Nat.le_add_right n k) (by rw [← z]; exact hPl))
  have nn : ∀ j k : Nat, j ≠ k → (n + j : Nat) ≠ n + k := fun j k h z => h (Nat.add_left_cancel z)
  have S : PySem.ZipSep2 (n + 4) (n + 2) (n + 3) n (n + 1) [n, a] [n + 1, b] := by
    have two : ∀ {x y z : Nat}, x ≠ y → x ≠ z → (x : Addr) ∉ [(y : Addr), (z : Addr)] := fun {x y z} q1 q2 m => by
      rcases List.mem_cons.mp m with m | m
      · exact q1 m
      · exact q2 (List.mem_singleton.mp m)
    exact ⟨nn 2 4 (by decide), nn 3 4 (by decide), nn 2 3 (by decide), nn 2 0 (by decide), List.mem_cons_self, two (nn 4 0 (by decide)) (fa 4), two (nn 3 0 (by decide)) (fa 3), nn 2 1 (by decide), List.mem_cons_self, two (nn 4 1 (by decide)) (fb 4), two (nn 3 1 (by decide)) (fb 3), two (nn 0 1 (by decide)) (fb 0), two (nn 1 0 (by decide)) (fa 1)⟩
  refine ⟨_, _, _, _, fun A' hA => walks_weak (Pq := PtV (xs.zip ys)) ((WalksT.zipD2 S (D1 A'.in1 hA) (D2 A'.in1 hA)).toU) fun i v q => ?ga, ⟨hz, hTI, ⟨_, _, hTO⟩, st1, st2⟩, fun b hb => ?gc, fun hb => ?gd, fun b u e hb => ?ge, h1, s.toks, rfl, hk⟩
  case ga =>
    obtain ⟨x1, x2, q1, q2, rfl⟩ := q
    obtain ⟨x, e1, r1⟩ := hp1 i x1 q1
    obtain ⟨y, e2, r2⟩ := hp2 i x2 q2
    exact ⟨(x, y), x1, x2, zip_get e1 e2, rfl, r1, r2⟩
  case gc =>
    show (b : Nat) < h1.objs.size
    rw [hsz]
    simp only [List.mem_cons, List.mem_append, List.not_mem_nil, or_false] at hb
    have up : ∀ k : Nat, k < 5 → (n + k : Nat) < n + 5 := fun k h => Nat.add_lt_add_left h n
    rcases hb with z | z | z | (z | z) | z | z
    · rw [z]; exact up 4 (by decide)
    · rw [z]; exact up 2 (by decide)
    · rw [z]; exact up 3 (by decide)
    · rw [z]; exact up 0 (by decide)
    · rw [z]; exact Nat.lt_of_lt_of_le ha (Nat.le_add_right _ _)
    · rw [z]; exact up 1 (by decide)
    · rw [z]; exact Nat.lt_of_lt_of_le (by assumption) (Nat.le_add_right _ _)
  case gd =>
    simp only [List.mem_cons, List.mem_append, List.not_mem_nil, or_false] at hb
    rcases hb with z | z | z | (z | z) | z | z
    · exact fP 4 z
    · exact fP 2 z
    · exact fP 3 z
    · exact fP 0 z
    · exact haP z.symm
    · exact fP 1 z
    · exact hbP z.symm
  case ge =>
    have hl : (b : Nat) < n := by rw [hn]; exact Heap.lt_size e
    have lo : ∀ k : Nat, (b : Nat) ≠ n + k := fun k z => Nat.lt_irrefl n (Nat.lt_of_le_of_lt (Nat.le_add_right n k) (by rw [← z]; exact hl))
    simp only [List.mem_cons, List.not_mem_nil, or_false] at hb
    rcases hb with z | z | z | z
    · exact lo 4 z
    · exact lo 3 z
    · exact lo 0 z
    · exact lo 1 z
theorem it_zipL {P a b : Addr} {ps : Array Value} {xs ys : List V} (I : Inv X pins σ H s) (hP : H P = some (.tbl ps)) (h1 : SqL X.K H a xs) (h2 : SqL X.K H b ys)
    (k : ∀ g s2, ItR X P s s2 g (min xs.length ys.length) (PtV (xs.zip ys)) → Q (.ref g) s2) : wpAny (model X.prog X.w) X.A (call (.type "zip") [.ref a, .ref b]) (fun v s0 => wpAny (model X.prog X.w) X.A (pyIter v) Q E s0) E s := by
  obtain ⟨its, rv, hl, _⟩ := I.list h1
  obtain ⟨its2, rv2, hl2, _⟩ := I.list h2
  have hL : s.heap.IsList a its.toArray := hl.isList
  have hL2 : s.heap.IsList b its2.toArray := hl2.isList
  have ea : a < s.heap.objs.size ∧ a ≠ P := by obtain ⟨_, e, hc, _⟩ := hL; exact ⟨Heap.lt_size e, tbl_ne I hP e (by rw [hc]; intro q; cases q)⟩
  have eb : b < s.heap.objs.size ∧ b ≠ P := by obtain ⟨_, e, hc, _⟩ := hL2; exact ⟨Heap.lt_size e, tbl_ne I hP e (by rw [hc]; intro q; cases q)⟩
  refine call_zip_2 hL hL2 fun h' hz hTI hTO i1 i2 hsz hk => wpAny_pyIter_zip hz (k _ _ ?_)
  have z := zip_core (n := s.heap.objs.size) (xs := xs) (ys := ys) I hP rfl hz hTI hTO hsz hk (fun A' hA => Draws.list hA _ a (Nat.ne_of_lt ea.1) its.toArray) (fun A' hA => Draws.list hA _ b (Nat.ne_of_lt (Nat.lt_succ_of_lt eb.1)) its2.toArray)
    ⟨i1, by obtain ⟨o, e, r⟩ := hL; exact ⟨o, hk _ _ e, r⟩⟩ ⟨i2, by obtain ⟨o, e, r⟩ := hL2; exact ⟨o, hk _ _ e, r⟩⟩ ea.1 eb.1 ea.2 eb.2 (fun i u q => ?_) fun i u q => ?_
  · rw [show min xs.length ys.length = min its.toArray.size its2.toArray.size from by simp [rv.length, rv2.length]]
    exact z
  · exact vals_at rv q
  · exact vals_at rv2 q
theorem it_zipT {P a b : Addr} {ps : Array Value} {xs ys : List V} (I : Inv X pins σ H s) (hP : H P = some (.tbl ps)) (h1 : SqT X.K H a xs) (h2 : SqT X.K H b ys)
    (k : ∀ g s2, ItR X P s s2 g (min xs.length ys.length) (PtV (xs.zip ys)) → Q (.ref g) s2) : wpAny (model X.prog X.w) X.A (call (.type "zip") [.ref a, .ref b]) (fun v s0 => wpAny (model X.prog X.w) X.A (pyIter v) Q E s0) E s := by
  obtain ⟨its, rv, hL, _⟩ := I.tuple h1
  obtain ⟨its2, rv2, hL2, _⟩ := I.tuple h2
  replace hL : s.heap.IsTuple a its.toArray := hL
  replace hL2 : s.heap.IsTuple b its2.toArray := hL2
  have ea : a < s.heap.objs.size ∧ a ≠ P := by obtain ⟨_, e, hc, _⟩ := hL; exact ⟨Heap.lt_size e, tbl_ne I hP e (by rw [hc]; intro q; cases q)⟩
  have eb : b < s.heap.objs.size ∧ b ≠ P := by obtain ⟨_, e, hc, _⟩ := hL2; exact ⟨Heap.lt_size e, tbl_ne I hP e (by rw [hc]; intro q; cases q)⟩
  refine RZ.call_zipT hL hL2 fun h' hz hTI hTO i1 i2 hsz hk => wpAny_pyIter_zip hz (k _ _ ?_)
  have z := zip_core (n := s.heap.objs.size) (xs := xs) (ys := ys) I hP rfl hz hTI hTO hsz hk (fun A' hA => Draws.tuple hA _ a (Nat.ne_of_lt ea.1) its.toArray) (fun A' hA => Draws.tuple hA _ b (Nat.ne_of_lt (Nat.lt_succ_of_lt eb.1)) its2.toArray)
    ⟨i1, by obtain ⟨o, e, r⟩ := hL; exact ⟨o, hk _ _ e, r⟩⟩ ⟨i2, by obtain ⟨o, e, r⟩ := hL2; exact ⟨o, hk _ _ e, r⟩⟩ ea.1 eb.1 ea.2 eb.2 (fun i u q => ?_) fun i u q => ?_
  · rw [show min xs.length ys.length = min its.toArray.size its2.toArray.size from by simp [rv.length, rv2.length]]
    exact z
  · exact vals_at rv q
  · exact vals_at rv2 q
end
end Sd
end
section
set_option maxRecDepth 100000
set_option maxHeartbeats 2000000
/-! the element's tests -/
namespace Sd
open PySem PySem.Spec PyProof.Rows L2 GxR
/-- x > y, of two ints or two texts -/
def GtV (x y : V) (b : Bool) : Prop := (∃ i j, x = .int i ∧ y = .int j ∧ b = decide (j < i)) ∨ ∃ s t, x = .str s ∧ y = .str t ∧ b = decide (t.cps.toList < s.cps.toList)
theorem gt_raw {prog : Program} {w : World} {A : Around} {E : Value → Shared → Prop} {s s0 : Shared} {x y : V} {u v : Value} {b : Bool} (g : GtV x y b) (rx : RelV x u) (ry : RelV y v) (k : PySem.Keeps s0 s) : wpAny (model prog w) A (compareOp .Gt u v) (fun z s4 => z = .bool b ∧ PySem.Keeps s0 s4) E s := by
  rcases g with ⟨i, j, rfl, rfl, rfl⟩ | ⟨p, q, rfl, rfl, rfl⟩
  · obtain ⟨t, rfl⟩ := rx
    obtain ⟨t', rfl⟩ := ry
    exact gt_int ⟨rfl, k⟩
  · obtain ⟨t, rfl⟩ := rx
    obtain ⟨t', rfl⟩ := ry
    exact PySem.P.gt_str ⟨rfl, k⟩
section
variable {X : Cx} {P : Addr} {sp : Scope} {xa xb : Str} {s1 : Shared} {ps : List (V × V)} {tr : Nat → Bool} {p1 p2 p3 q1 q2 q3 q4 : Pos}
/-- a > b -/
theorem elt_gt (hk : sp.kind = .function) (la : sp.names.lookup xa = some .local) (lb : sp.names.lookup xb = some .local) (da : (xa == ("__debug__" : Str)) = false) (db : (xb == ("__debug__" : Str)) = false)
    (hp : ∀ i p, ps[i]? = some p → GtV p.1 p.2 (tr i)) : EltT X P sp xa xb (.Compare (.Name xa p1) [.Gt] [.Name xb p2] p3) s1 (PtV ps) tr := by
  intro i va vb ce A' E' s3 m ⟨p, u1, u2, e, ev, r1, r2⟩ hs hn ha hb hkp
  obtain ⟨rfl, rfl⟩ : va = u1 ∧ vb = u2 := by simpa using ev
  refine wpAny_Compare1 ?_
  refine wpAny_Name (wpAny_loadName_local (by rw [hs]; exact hk) (show ce.scope.names.lookup xa = some .local by rw [hs]; exact la) hn ha ?_) da
  refine wpAny_Name (wpAny_loadName_local (by rw [hs]; exact hk) (show ce.scope.names.lookup xb = some .local by rw [hs]; exact lb) hn hb ?_) db
  exact gt_raw (hp i p e) r1 r2 (keeps_refl _)
/-- a[1] > b[0] -/
theorem elt_gt10 {pins : List (Addr × Obj)} {σ : L2.St} {H : Hp} {tps : Array Value} {k1 k2 : Nat} (I : Inv X pins σ H s1) (hP : H P = some (.tbl tps)) (hk : sp.kind = .function) (la : sp.names.lookup xa = some .local) (lb : sp.names.lookup xb = some .local) (da : (xa == ("__debug__" : Str)) = false) (db : (xb == ("__debug__" : Str)) = false)
    (hp : ∀ i p, ps[i]? = some p → ∃ t1 t2 xs ys a b, p = (V.ref t1, V.ref t2) ∧ SqT X.K H t1 xs ∧ SqT X.K H t2 ys ∧ xs[1]? = some a ∧ ys[0]? = some b ∧ GtV a b (tr i)) :
    EltT X P sp xa xb (.Compare (.Subscript (.Name xa p1) (.Constant (.int 1) k1 q1) q2) [.Gt] [.Subscript (.Name xb p2) (.Constant (.int 0) k2 q3) q4] p3) s1 (PtV ps) tr := by
  intro i va vb ce A' E' s3 m ⟨p, u1, u2, e, ev, r1, r2⟩ hs hn ha hb hkp
  obtain ⟨rfl, rfl⟩ : va = u1 ∧ vb = u2 := by simpa using ev
  obtain ⟨t1, t2, xs, ys, a, b, rfl, hT1, hT2, e1, e2, g⟩ := hp i p e
  obtain rfl : va = Value.ref t1 := r1
  obtain rfl : vb = Value.ref t2 := r2
  obtain ⟨its1, rv1, ht1, _⟩ := I.tuple hT1
  obtain ⟨its2, rv2, ht2, _⟩ := I.tuple hT2
  obtain ⟨w1, g1, ra⟩ := rv1.get e1
  obtain ⟨w2, g2, rb⟩ := rv2.get e2
  have l1 : 1 < its1.length := (List.getElem?_eq_some_iff.mp g1).1
  have l2 : 0 < its2.length := (List.getElem?_eq_some_iff.mp g2).1
  have at_ : ∀ {b : Addr} {its : Array Value} (s4 : Shared), (∀ c o, s3.heap.get? c = some o → s4.heap.get? c = some o) → s1.heap.IsTuple b its → IsTup s4.heap b its := fun {b its} s4 hk4 ⟨o, e, hc, r⟩ =>
    ⟨o, hk4 _ _ (hkp _ _ (tbl_ne I hP e (by rw [hc]; intro q; cases q)) e), hc, r⟩
  have sx1 : seqIndex? 1 its1.toArray.size = some 1 := by
    have h1 : its1.toArray.size = its1.length := by simp
    unfold seqIndex?
    rw [h1]
    simp
    exact Int.ofNat_lt.mpr l1
  have sx2 : seqIndex? 0 its2.toArray.size = some 0 := by
    have h1 : its2.toArray.size = its2.length := by simp
    unfold seqIndex?
    rw [h1]
    simp
    first | exact Int.ofNat_lt.mpr l2 | (intro z; rw [z] at l2; cases l2) | (intro z; subst z; cases l2)
  refine wpAny_Compare1 ?_
  refine PySem.Subscript_Constant ?_
  refine wpAny_Name (wpAny_loadName_local (by rw [hs]; exact hk) (show ce.scope.names.lookup xa = some .local by rw [hs]; exact la) hn ha ?_) da
  refine wpAny_Constant_int ⟨"tuple", "tuple.__getitem__", F.slot_tuple_getitem.lookup, (at_ { s3 with toks := s3.toks + 1 } (fun _ _ e => e) ht1).typeIs, PyProof.Rows.getItem_tuple (j := 1) (x := w1) (at_ { s3 with toks := s3.toks + 1 } (fun _ _ e => e) ht1) (by decide) (by decide) sx1 (by simpa using g1) ?_⟩
  refine PySem.Subscript_Constant ?_
  refine wpAny_Name (wpAny_loadName_local (by rw [hs]; exact hk) (show ce.scope.names.lookup xb = some .local by rw [hs]; exact lb) hn hb ?_) db
  refine wpAny_Constant_int ⟨"tuple", "tuple.__getitem__", F.slot_tuple_getitem.lookup, (at_ { s3 with toks := s3.toks + 1 + 1 } (fun _ _ e => e) ht2).typeIs, PyProof.Rows.getItem_tuple (j := 0) (x := w2) (at_ { s3 with toks := s3.toks + 1 + 1 } (fun _ _ e => e) ht2) (by decide) (by decide) sx2 (by simpa using g2) ?_⟩
  exact gt_raw g ra rb (keeps_tok _ _)
end
end Sd
end
section
set_option maxRecDepth 100000
set_option maxHeartbeats 4000000
/-! a call without arguments that answers plain data: the machine runs it with an empty heap -/
namespace Sd
open PySem PySem.Spec PyProof.Rows L2
open Ev (LV LO CE CEs Src Tg Tgs CKs CS CSs Prg Orc Slot SR)
section
variable {R : Cn} {X : Cx} {W : WX} {O : Orc} {σ : L2.St} {Fz Fz' : Addr → Prop} {ρ ρ' : List Addr} {H H' : Hp} {h h' : Ev.Hp} {L : Ev.Env} {N : List Str} {sc : Scope} {pos : Pos}
theorem reps_pd {n : Nat} (ih : ∀ (v : LV) (x : V), v.pd n = true → Rep R Fz ρ H v x → Rep R Fz ρ' H v x) : ∀ {xs : List LV} {vs : List V}, xs.all (LV.pd n) = true → Reps R Fz ρ H xs vs → Reps R Fz ρ' H xs vs
  | [], vs, _, r => by
    unfold Reps at r ⊢
    exact r
  | x :: xs, vs, a, r => by
    rw [List.all_cons, Bool.and_eq_true] at a
    unfold Reps at r ⊢
    obtain ⟨v, w, e, r1, r2⟩ := r
    exact ⟨v, w, e, ih x v a.1 r1, reps_pd ih a.2 r2⟩
theorem rep_pd : ∀ (n : Nat) (v : LV) (x : V), v.pd n = true → Rep R Fz ρ H v x → Rep R Fz ρ' H v x
  | 0, v, x, a, r => by
    cases v <;> first | (cases a; done) | skip
    all_goals (unfold Rep at r ⊢; exact r)
  | n + 1, v, x, a, r => by
    cases v with
    | tup xs =>
      unfold Rep at r ⊢
      obtain ⟨t, vs, e, q, k⟩ := r
      exact ⟨t, vs, e, q, reps_pd (rep_pd n) a k⟩
    | lst xs =>
      unfold Rep at r ⊢
      obtain ⟨t, vs, e, f, q, k⟩ := r
      exact ⟨t, vs, e, f, q, reps_pd (rep_pd n) a k⟩
    | non => unfold Rep at r ⊢; exact r
    | bl b => unfold Rep at r ⊢; exact r
    | int i => unfold Rep at r ⊢; exact r
    | str t => unfold Rep at r ⊢; exact r
    | dct _ => cases a
    | ref _ => cases a
    | clo _ => cases a
    | rol _ => cases a
theorem Core.nil0 (C : Core R Fz ρ H h) : Core R Fz [] H [] where
  len := rfl
  nd := List.nodup_nil
  obj := fun n o a e _ => by simp at e
  fz := fun a _ => by simp
  fzt := C.fzt
  tab := C.tab
theorem Core.back (C : Core R Fz ρ H h) (C1 : Core R Fz' ρ' H' h') (E1 : Ext Fz [] H Fz' ρ' H') : Ext Fz ρ H Fz' ρ H' ∧ Core R Fz' ρ H' h := by
  have hm : ∀ a, a ∈ ρ → H a ≠ Option.none := fun a m z => by
    obtain ⟨n, o, _, _, x⟩ := C.at m
    rcases x.kind with ⟨_, q⟩ | ⟨_, q⟩ | ⟨_, _, _, q⟩ <;> (rw [q] at z; cases z)
  have E : Ext Fz ρ H Fz' ρ H' := ⟨fun a o e _ t => E1.keep a o e (by simp) t, E1.some, E1.fzs, E1.fzn, ⟨[], by simp⟩, fun a m => .inl m⟩
  refine ⟨E, ⟨C.len, C.nd, fun n o a e1 e2 => ?_, fun a f m => ?_, C1.fzt, C1.tab⟩⟩
  · have x := C.obj n o a e1 e2
    cases o with
    | lst xs => obtain ⟨vs, q, r⟩ := x; exact ⟨vs, E1.keep a _ q (by simp) (by intro ps z; cases z), Reps.mono C E xs r⟩
    | dct kvs => obtain ⟨es, q, r⟩ := x; exact ⟨es, E1.keep a _ q (by simp) (by intro ps z; cases z), RepK.mono C E kvs r⟩
    | ins c fs => obtain ⟨dx, es, q, k, r⟩ := x; exact ⟨dx, es, E1.keep a _ q (by simp) (by intro ps z; cases z), k, FRep.mono C E r⟩
  · rcases E1.fzn a f with q | q
    · exact C.fz a q m
    · exact hm a m q
theorem se_callE {f k : Nat} {x : Str} {p : Pos} (RO : ROk R) (ok : XOk R X W N sc) (OK : OOk R O k) (hr : Room k X.A) (hf : f < R.pr.nf) (hg : sc.names.lookup x = some .globalImplicit) (hm : R.mg x = some (.ref (R.fi f).addr))
    (hdb : (x == ("__debug__" : Str)) = false) : SE R W O X (.Call (.Name x p) [] [] pos) (.call0 f) := by
  have F := OK.fn X.base ok.base f hf
  rw [← ok.P, ← ok.w, ← ok.K, ← ok.mg] at F
  refine ⟨fun pins s σ H Q I ⟨L, h, Fz, ρ, C, S, r⟩ => ?_⟩
  simp only [Ev.ev] at r
  refine wpAny_Call_Name_kw (ld_glob I (by show X.env.scope.names.lookup x = _; rw [ok.sc]; exact hg) (by rw [ok.mg]; exact hm) ?_ hdb)
  refine PySem.W.callWith_K0 I.kIn (by rw [ok.K]; exact RO.keep f hf) (run_fnS (us := []) F hr (by rw [ok.K]; exact RO.binds f hf) (passAt ok.tk σ) I .nil ?_)
  have hb : O.call f [] [] ≠ .bad := fun z => by simp only [z] at r; exact False.elim r
  refine ⟨OK.np f [] [] hf hb, [], Fz, [], [], C.nil0, rfl, ?_⟩
  cases z : O.call f [] [] with
  | bad => exact hb z
  | exc c h1 => simp only [z] at r; exact False.elim r
  | ok v h1 =>
    simp only [z] at r
    by_cases hp : v.pd 60 = true
    · simp only [hp, if_true] at r
      intro x H' F' ρ' C' E' rp
      obtain ⟨E, C2⟩ := C.back C' E'
      exact r x H' F' ρ C2 E (rep_pd 60 v x hp rp)
    · simp only [hp] at r
      exact False.elim r
end
end Sd
end
section
set_option maxRecDepth 100000
set_option maxHeartbeats 4000000
/-! any of a generator expression over pairs, by the machine -/
namespace Sd
open PySem PySem.Spec PyProof.Rows L2 GxR
open Ev (LV LO CE CEs Src Tg Tgs CKs CS CSs Prg Orc Slot SR)
section
variable {R : Cn} {X : Cx} {W : WX} {O : Orc} {σ : L2.St} {Fz Fz' : Addr → Prop} {ρ ρ' : List Addr} {H H' : Hp} {h h' : Ev.Hp} {L : Ev.Env} {N : List Str} {sc : Scope} {pos : Pos}
/-- the machine's heap when one table has grown -/
theorem Core.tabd (C : Core R Fz ρ H h) {P : Addr} (hP : ∃ ps, H P = some (.tbl ps)) (t : Tabbed P H H') (hd : ∀ p ∈ R.tl, p.1 ≠ P) : Core R Fz ρ H' h ∧ Ext Fz ρ H Fz ρ H' := by
  obtain ⟨ps, hP⟩ := hP
  obtain ⟨tg, hk⟩ := t
  have E : Ext Fz ρ H Fz ρ H' := ⟨fun a o e _ nt => by
    have : a ≠ P := fun z => by rw [z, hP] at e; exact nt ps (Option.some.inj e).symm
    rw [hk a this]; exact e, fun a e => by
    by_cases z : a = P
    · obtain ⟨q, e1, _⟩ := tg
      rw [z, e1]; simp
    · rw [hk a z]; exact e, fun a f => f, fun a f => .inl f, ⟨[], by simp⟩, fun a m => .inl m⟩
  have neP : ∀ {a : Addr} {o : HO}, H a = some o → (∀ ps, o ≠ .tbl ps) → H' a = some o := fun {a o} e nt => by
    have : a ≠ P := fun z => by rw [z, hP] at e; exact nt ps (Option.some.inj e).symm
    rw [hk a this]; exact e
  refine ⟨⟨C.len, C.nd, fun n o a e1 e2 => ?_, C.fz, fun a f => E.some a (C.fzt a f), ⟨fun p hp => ?_, fun p hp => ?_⟩⟩, E⟩
  · have x := C.obj n o a e1 e2
    cases o with
    | lst xs => obtain ⟨vs, q, r⟩ := x; exact ⟨vs, neP q (by intro ps z; cases z), Reps.mono C E xs r⟩
    | dct kvs => obtain ⟨es, q, r⟩ := x; exact ⟨es, neP q (by intro ps z; cases z), RepK.mono C E kvs r⟩
    | ins c fs => obtain ⟨dx, es, q, k, r⟩ := x; exact ⟨dx, es, neP q (by intro ps z; cases z), k, FRep.mono C E r⟩
  · obtain ⟨ps', a1, a2, a3⟩ := C.tab.lam p hp
    refine ⟨ps', by rw [hk _ (hd p hp)]; exact a1, a2, fun pos cv hc => ?_⟩
    obtain ⟨c, e1, e2⟩ := a3 pos cv hc
    exact ⟨c, e1, neP e2 LamX.codeO_ne⟩
  · by_cases z : p = P
    · rw [z]; exact tg
    · obtain ⟨ps', a1, a2⟩ := C.tab.gen p hp
      exact ⟨ps', by rw [hk _ z]; exact a1, a2⟩
/-- what any tells, from the machine's own any -/
theorem anyR_all {f : LV → Ev.Hp → Ev.Res Bool} {h : Ev.Hp} : ∀ {xs : List LV}, (∀ x ∈ xs, f x h = .bad ∨ ∃ b, f x h = .ok b h) → Ev.anyR f xs h = .bad ∨ ∃ g : Nat → Bool, (∀ i x, xs[i]? = some x → f x h = .ok (g i) h) ∧ Ev.anyR f xs h = .ok ((List.range xs.length).any g) h
  | [], _ => .inr ⟨fun _ => false, fun i x q => by simp at q, rfl⟩
  | x :: xs, k => by
    unfold Ev.anyR
    rcases k x List.mem_cons_self with q | ⟨b, q⟩
    · rw [q]; exact .inl rfl
    · rw [q]
      dsimp only
      rcases anyR_all (xs := xs) fun y hy => k y (List.mem_cons_of_mem _ hy) with q2 | ⟨g, hg, q2⟩
      · rw [q2]; exact .inl rfl
      · rw [q2]
        refine .inr ⟨fun i => match i with | 0 => b | i + 1 => g i, fun i y hy => ?_, ?_⟩
        · cases i with
          | zero =>
            simp only [List.getElem?_cons_zero, Option.some.injEq] at hy
            rw [← hy]; exact q
          | succ i => exact hg i y (by simpa using hy)
        · rw [List.length_cons, List.range_succ_eq_map, List.any_cons, List.any_map]
          rfl
/-- the machine's turn of any -/
def elB (P : Prg) (O : Orc) (elt : CE) (t : Tg) (ts : CEs) (L : Ev.Env) : LV → Ev.Hp → Ev.Res Bool := fun x h2 => match Ev.bindT t x L with
  | some σ2 => (match Ev.evT P O ts σ2 h2 with
    | .ok true h3 => (match Ev.ev P O elt σ2 h3 with
      | .ok v h4 => Ev.ofO (Ev.view v h4).truth h4
      | .exc c h4 => .exc c h4
      | .bad => .bad)
    | .ok false h3 => .ok false h3
    | .exc c h3 => .exc c h3
    | .bad => .bad)
  | none => .bad
/-- the two names' slots -/
theorem two_slots {i j : Nat} (ij : i ≠ j) {x : LV} {L2 : Ev.Env} (ht : Ev.prB x = true) (e : Ev.bindT (.tup (.cons (.nm i) (.cons (.nm j) .nil))) x L = some L2) : ∃ v1 v2, x = .tup [v1, v2] ∧ L2 = (L.set i (.val v1)).set j (.val v2) := by
  unfold Ev.prB at ht
  split at ht
  · cases e; exact ⟨_, _, rfl, rfl⟩
  · cases e; exact ⟨_, _, rfl, rfl⟩
  · cases ht
theorem slot_i {i j : Nat} (ij : i ≠ j) {v1 v2 w : LV} {c : LV} (e : Ev.look ((L.set i (.val v1)).set j (.val v2)) i = some w) : w = v1 := by
  unfold Ev.look at e
  rw [List.getElem?_set_ne (Ne.symm ij), List.getElem?_set, if_pos rfl] at e
  split at e
  · rename_i hh
    split at hh
    · cases hh; cases e; rfl
    · cases hh
  · cases e
theorem slot_j {i j : Nat} {v1 v2 w : LV} (e : Ev.look ((L.set i (.val v1)).set j (.val v2)) j = some w) : w = v2 := by
  unfold Ev.look at e
  rw [List.getElem?_set, if_pos rfl] at e
  split at e
  · rename_i hh
    split at hh
    · cases hh; cases e; rfl
    · cases hh
  · cases e
/-- what > tells of two values -/
theorem gtV_of {v1 v2 w : LV} {x y : V} (e : Ev.gtV v1 v2 = some w) (r1 : Rep R Fz ρ H v1 x) (r2 : Rep R Fz ρ H v2 y) : ∃ b, w = .bl b ∧ GtV x y b := by
  unfold Ev.gtV at e
  split at e
  · cases e
    unfold Rep at r1 r2
    exact ⟨_, rfl, .inl ⟨_, _, r1, r2, rfl⟩⟩
  · rename_i a b
    cases e
    unfold Rep at r1 r2
    refine ⟨_, rfl, .inr ⟨_, _, r1.1, r2.1, ?_⟩⟩
    rw [strLt_eq, Bool.eq_iff_iff, decide_eq_true_eq, decide_eq_true_eq, st_toList, st_toList]
  · cases e
theorem view_intI : ∀ (v : LV) (i : Int), Ev.view v h = .int i → v = .int i := by
  intro v i e
  cases v with
  | ref n =>
    rw [view_ref] at e
    cases q : h[n]? with
    | none => rw [q] at e; cases e
    | some o => rw [q] at e; cases o <;> cases e
  | _ => exact e
theorem view_strI : ∀ (v : LV) (i : List Nat), Ev.view v h = .str i → v = .str i := by
  intro v i e
  cases v with
  | ref n =>
    rw [view_ref] at e
    cases q : h[n]? with
    | none => rw [q] at e; cases e
    | some o => rw [q] at e; cases o <;> cases e
  | _ => exact e
theorem gtV_view {v1 v2 w : LV} (e : Ev.gtV (Ev.view v1 h) (Ev.view v2 h) = some w) : Ev.gtV v1 v2 = some w := by
  unfold Ev.gtV at e
  split at e
  · rename_i a b h1 h2
    rw [view_intI _ _ h1, view_intI _ _ h2]
    exact e
  · rename_i a b h1 h2
    rw [view_strI _ _ h1, view_strI _ _ h2]
    exact e
  · cases e
theorem gtV_bl {v1 v2 w : LV} (e : Ev.gtV v1 v2 = some w) : ∃ b, w = .bl b := by
  unfold Ev.gtV at e
  split at e <;> cases e <;> exact ⟨_, rfl⟩
theorem sel_var {i : Nat} {v : LV} {L : Ev.Env} {h : Ev.Hp} {r : Ev.Res LV} (e : L[i]? = some (.val v)) : Ev.sel (.var i) L h r = .ok v h := by
  simp only [Ev.sel, e]
/-- a > b -/
theorem elA {P : Prg} {i j : Nat} (ij : i ≠ j) {x : LV} (hx : Ev.prB x = true) : elB P O (.op .gt (.cons (.var i) (.cons (.var j) .nil))) (.tup (.cons (.nm i) (.cons (.nm j) .nil))) .nil L x h = .bad ∨
    ∃ v1 v2 b, x = .tup [v1, v2] ∧ elB P O (.op .gt (.cons (.var i) (.cons (.var j) .nil))) (.tup (.cons (.nm i) (.cons (.nm j) .nil))) .nil L x h = .ok b h ∧ Ev.gtV v1 v2 = some (.bl b) := by
  unfold elB
  cases eb : Ev.bindT (.tup (.cons (.nm i) (.cons (.nm j) .nil))) x L with
  | none => exact .inl rfl
  | some L2 =>
    obtain ⟨v1, v2, rfl, rfl⟩ := two_slots ij hx eb
    dsimp only
    by_cases hi : i < L.length ∧ j < L.length
    · have e1 : ((L.set i (.val v1)).set j (.val v2))[i]? = some (.val v1) := by
        rw [List.getElem?_set_ne (Ne.symm ij), List.getElem?_set, if_pos rfl, if_pos hi.1]
      have e2 : ((L.set i (.val v1)).set j (.val v2))[j]? = some (.val v2) := by
        rw [List.getElem?_set, if_pos rfl, if_pos (by rw [List.length_set]; exact hi.2)]
      simp only [Ev.evT, Ev.ev, Ev.evA, sel_var e1, sel_var e2]
      cases eg : Ev.opv .gt ([v1, v2].map fun v => Ev.view v h) with
      | none => exact .inl rfl
      | some w =>
        have eg' : Ev.gtV (Ev.view v1 h) (Ev.view v2 h) = some w := eg
        have e3 := gtV_view eg'
        obtain ⟨b, rfl⟩ := gtV_bl e3
        exact .inr ⟨v1, v2, b, rfl, rfl, e3⟩
    · left
      simp only [Ev.evT, Ev.ev, Ev.evA]
      have : Ev.sel (.var i) ((L.set i (.val v1)).set j (.val v2)) h (Ev.ofO (Ev.look ((L.set i (.val v1)).set j (.val v2)) i) h) = .bad ∨ Ev.sel (.var j) ((L.set i (.val v1)).set j (.val v2)) h (Ev.ofO (Ev.look ((L.set i (.val v1)).set j (.val v2)) j) h) = .bad := by
        by_cases h1 : i < L.length
        · right
          have h2 : ¬ j < L.length := fun z => hi ⟨h1, z⟩
          simp only [Ev.sel, List.getElem?_set, List.length_set, if_neg h2, ite_true]
        · left
          simp only [Ev.sel, List.getElem?_set_ne (Ne.symm ij), List.getElem?_set, if_neg h1, ite_true]
      rcases this with q | q
      · rw [q]
      · cases q1 : Ev.sel (.var i) ((L.set i (.val v1)).set j (.val v2)) h (Ev.ofO (Ev.look ((L.set i (.val v1)).set j (.val v2)) i) h) with
        | bad => rfl
        | ok v h1 =>
          have : h1 = h := by
            simp only [Ev.sel] at q1
            split at q1 <;> cases q1 <;> rfl
          subst this
          dsimp only
          rw [q]
        | exc c h1 =>
          simp only [Ev.sel] at q1
          split at q1 <;> cases q1
/-- the pairs that a row of pairs stands for -/
theorem rows_two : ∀ {xs : List LV} {vs : List V}, (∀ x ∈ xs, ∃ v1 v2, x = .tup [v1, v2]) → Reps R Fz ρ H xs vs → ∃ zs : List (Addr × V × V), vs = zs.map (fun z => V.ref z.1) ∧ (∀ z ∈ zs, SqT R.K H z.1 [z.2.1, z.2.2]) ∧ zs.length = xs.length ∧ ∀ (i : Nat) (v1 v2 : LV), xs[i]? = some (LV.tup [v1, v2]) → ∃ z, zs[i]? = some z ∧ Rep R Fz ρ H v1 z.2.1 ∧ Rep R Fz ρ H v2 z.2.2
  | [], vs, _, r => by
    unfold Reps at r
    subst r
    exact ⟨[], rfl, fun z hz => (by cases hz), rfl, fun i v1 v2 q => by simp at q⟩
  | x :: xs, vs, k, r => by
    unfold Reps at r
    obtain ⟨v, w, rfl, r1, r2⟩ := r
    obtain ⟨zs, rfl, z2, z3, z4⟩ := rows_two (fun y hy => k y (List.mem_cons_of_mem _ hy)) r2
    obtain ⟨v1, v2, rfl⟩ := k x List.mem_cons_self
    unfold Rep at r1
    obtain ⟨t, us, rfl, q, ru⟩ := r1
    unfold Reps at ru
    obtain ⟨y1, u2, rfl, ra, ru⟩ := ru
    unfold Reps at ru
    obtain ⟨y2, u3, rfl, rb, ru⟩ := ru
    unfold Reps at ru
    subst ru
    refine ⟨(t, y1, y2) :: zs, rfl, fun z hz => ?_, by simp [z3], fun i w1 w2 e => ?_⟩
    · rcases List.mem_cons.mp hz with rfl | hz
      · exact q
      · exact z2 z hz
    · cases i with
      | zero =>
        simp only [List.getElem?_cons_zero, Option.some.injEq, LV.tup.injEq, List.cons.injEq, and_true] at e
        obtain ⟨rfl, rfl⟩ := e
        exact ⟨_, rfl, ra, rb⟩
      | succ i =>
        obtain ⟨z, e1, e2⟩ := z4 i w1 w2 (by simpa using e)
        exact ⟨z, by simpa using e1, e2⟩
end
end Sd
end
section
set_option maxRecDepth 100000
set_option maxHeartbeats 4000000
/-! any of a generator expression over pairs: the two forms -/
namespace Sd
open PySem PySem.Spec PyProof.Rows L2 GxR
open Ev (LV LO CE CEs Src Tg Tgs CKs CS CSs Prg Orc Slot SR)
section
variable {R : Cn} {X : Cx} {W : WX} {O : Orc} {σ : L2.St} {Fz Fz' : Addr → Prop} {ρ ρ' : List Addr} {H H' : Hp} {h h' : Ev.Hp} {L : Ev.Env} {N : List Str} {sc : Scope} {pos : Pos}
abbrev tg2 (i j : Nat) : Tg := .tup (.cons (.nm i) (.cons (.nm j) .nil))
abbrev gtA (i j : Nat) : CE := .op .gt (.cons (.var i) (.cons (.var j) .nil))
/-- the machine's any, once its row is there -/
def anyM (P : Prg) (O : Orc) (elt : CE) (t : Tg) (L : Ev.Env) (xs : List LV) (h1 : Ev.Hp) : Ev.Res LV := if xs.all Ev.prB then (match Ev.anyR (elB P O elt t .nil L) xs h1 with
      | .ok b h2 => .ok (.bl b) h2
      | .exc c h2 => .exc c h2
      | .bad => .bad) else .bad
theorem ev_anyg {P : Prg} {elt : CE} {t : Tg} {s : Src} : Ev.ev P O (.anyg elt t .nil s) L h = match Ev.evS P O s L h with
    | .ok xs h1 => anyM P O elt t L xs h1
    | .exc c h1 => .exc c h1
    | .bad => .bad := by
  simp only [Ev.ev]
  rfl
/-- the call of any, its generator made by gen_two -/
theorem any_run {pins : List (Addr × Obj)} {s : Shared} {elt iter : Expr} {xa xb : Str} {pa pb pt gp p : Pos} {kt k : Nat} {sp : Scope} {Q : VK} (ok : XOk R X W N sc) (hr : Room k X.A) (htb : R.tb = true) (hg : sc.names.lookup ("any" : Str) = some .globalImplicit) (hm : R.mg "any" = none) (S : GenS2 X.env sp xa xb) (hs : ∀ v, genFold iter X.env v = pure v) (I : Inv X pins σ H s)
    (hi : ∀ P : Addr, P ∈ R.tg → wpAny (model X.prog X.w) X.A (eval iter X.env) (fun v s0 => wpAny (model X.prog X.w) X.A (pyIter v) (fun it s2 => ∃ H1 s1 g n Pt tr, it = .ref g ∧ Inv X pins σ H1 s1 ∧ TabG H1 P ∧ (∀ i vals, Pt i vals → ∃ va vb, vals = #[va, vb]) ∧ ItR X P s1 s2 g n Pt ∧ EltT X P sp xa xb elt s1 Pt tr ∧ ∀ H2, Tabbed P H1 H2 → Q (.bl ((List.range n).any tr)) H2) X.xe s0) X.xe s) :
    wpAny (model X.prog X.w) X.A (eval (.Call (.Name "any" p) [.GeneratorExp elt [⟨.Tuple [.Name xa pa, .Name xb pb] kt pt, iter, [], 0⟩] sp gp] [] pos) X.env) (EP X pins σ Q) X.xe s := by
  obtain ⟨ecc, c, P, ec, hcs, htg⟩ := ok.cc htb
  have hcode : X.env.code = .ref c := by rw [ecc, ec]
  have TB : LamX.TabB X.base X.mg c P := by rw [ok.mg]; exact ok.base.2.2 _ hcs
  refine wpAny_Call_Name_kw (ld_blt I (by show X.env.scope.names.lookup _ = _; rw [ok.sc]; exact hg) (by rw [ok.mg]; exact hm) PyProof.Rows.boot_any ?_)
  refine PyProof.Rows.callWith_builtin1 ?_ (by rfl) (by rfl)
  show wpAny _ _ (spliced ((false, eval (.GeneratorExp elt [⟨.Tuple [.Name xa pa, .Name xb pb] kt pt, iter, [], 0⟩] sp gp) X.env) :: backTo pos (starEach [] X.env))) _ _ s
  refine Calls.spliced_cons (gen_two (Rr := fun n tr H1 => ∀ H2, Tabbed P H1 H2 → Q (.bl ((List.range n).any tr)) H2) hr TB hcode S hs (hi P htg) fun n tr H1 g s5 hR hG => ?_)
  obtain ⟨fp, wr, G, F, St, Wk, hst, htr, hI⟩ := hG
  refine Calls.spliced_nil ?_
  refine call_any_walkS (Wk.self 0 _ _ _ hst ⟨g, fp, wr, G, _, F, St, _, rfl, Wk, hst, htr, fun s' hmv => ?_⟩)
  obtain ⟨H2, hT, J⟩ := hI s' hmv
  exact ⟨.bl _, H2, J, rfl, hR H2 hT⟩
theorem se_anyA {iter : Expr} {c : CE} {xa xb : Str} {pa pb pt gp p p1 p2 p3 : Pos} {kt k i j : Nat} {sp : Scope} (ok : XOk R X W N sc) (hr : Room k X.A) (htb : R.tb = true) (td : ∀ p ∈ R.tl, ∀ q ∈ R.tg, p.1 ≠ q) (hg : sc.names.lookup ("any" : Str) = some .globalImplicit) (hm : R.mg "any" = none) (S : GenS2 X.env sp xa xb) (hs : ∀ v, genFold iter X.env v = pure v) (hi : SE R W O X iter c) (ij : i ≠ j) (da : (xa == ("__debug__" : Str)) = false) (db : (xb == ("__debug__" : Str)) = false) :
    SE R W O X (.Call (.Name "any" p) [.GeneratorExp (.Compare (.Name xa p1) [.Gt] [.Name xb p2] p3) [⟨.Tuple [.Name xa pa, .Name xb pb] kt pt, iter, [], 0⟩] sp gp] [] pos) (.anyg (gtA i j) (tg2 i j) .nil (.of c)) := by
  refine ⟨fun pins s σ H Q I ⟨L, h, Fz, ρ, C, Sl, r⟩ => any_run ok hr htb hg hm S hs I fun P htg => ?_⟩
  dsimp only at r
  rw [ev_anyg] at r
  refine wpAny_mono (hi.run pins s σ H (fun v H1 => ∃ Fz1 ρ1 h1 xv, Core R Fz1 ρ1 H1 h1 ∧ Ext Fz ρ H Fz1 ρ1 H1 ∧ Rep R Fz1 ρ1 H1 xv v ∧ ∃ xs, Ev.itemsOf xv = some xs ∧ RS R W σ Fz ρ H (anyM R.pr O (gtA i j) (tg2 i j) L xs h1) Q) I ⟨L, h, Fz, ρ, C, Sl, ?_⟩) (fun v s0 q => ?_) fun _ _ e => e
  · simp only [Ev.evS] at r
    show RS R W σ Fz ρ H (Ev.ev R.pr O c L h) _
    cases q : Ev.ev R.pr O c L h with
    | bad => rw [q] at r; exact r
    | exc d h1 => rw [q] at r; exact r
    | ok xv h1 =>
      rw [q] at r
      intro x H1 F1 ρ1 C1 E1 R1
      refine ⟨F1, ρ1, h1, xv, C1, E1, R1, ?_⟩
      cases qi : Ev.itemsOf xv with
      | none => simp only [qi, Ev.ofO] at r; exact False.elim r
      | some xs => simp only [qi, Ev.ofO] at r; exact ⟨xs, rfl, r⟩
  · obtain ⟨x, H1, I1, rv, F1, ρ1, h1, xv, C1, E1, R1, xs, ei, r1⟩ := q
    have tgP : TabG H1 P := C1.tab.gen P htg
    obtain ⟨tps, hP, htr⟩ := id tgP
    unfold anyM at r1
    by_cases hp : xs.all Ev.prB = true
    · rw [if_pos hp] at r1
      have hp' := List.all_eq_true.mp hp
      rcases anyR_all (f := elB R.pr O (gtA i j) (tg2 i j) .nil L) (h := h1) (xs := xs) (fun y hy => by
        rcases elA (P := R.pr) (O := O) (L := L) (h := h1) ij (hp' y hy) with z | ⟨v1, v2, b, _, z, _⟩
        · exact .inl z
        · exact .inr ⟨b, z⟩) with z | ⟨g, hg2, z⟩
      · rw [z] at r1; exact False.elim r1
      · rw [z] at r1
        replace r1 : okP R Fz ρ H h1 (.bl ((List.range xs.length).any g)) Q := r1
        have two : ∀ y ∈ xs, ∃ v1 v2, y = .tup [v1, v2] := fun y hy => by
          have := hp' y hy
          unfold Ev.prB at this
          split at this
          · exact ⟨_, _, rfl⟩
          · exact ⟨_, _, rfl⟩
          · cases this
        have fin : ∀ H2, Tabbed P H1 H2 → Q (.bl ((List.range xs.length).any g)) H2 := fun H2 t => by
          obtain ⟨C2, E2⟩ := C1.tabd ⟨tps, hP⟩ t fun p hp => td p hp P htg
          exact r1 _ H2 F1 ρ1 C2 (E1.trans E2) (by unfold Rep; rfl)
        have elt : ∀ (zs : List (Addr × V × V)), (∀ (i : Nat) (v1 v2 : LV), xs[i]? = some (LV.tup [v1, v2]) → ∃ z, zs[i]? = some z ∧ Rep R F1 ρ1 H1 v1 z.2.1 ∧ Rep R F1 ρ1 H1 v2 z.2.2) → zs.length = xs.length →
            EltT X P sp xa xb (.Compare (.Name xa p1) [.Gt] [.Name xb p2] p3) s0 (PtV (zs.map (·.2))) g := fun zs hz hl => elt_gt S.kind S.la S.lb da db fun n q e => by
          rw [List.getElem?_map] at e
          obtain ⟨zz, e1, rfl⟩ := Option.map_eq_some_iff.mp e
          have hn : n < xs.length := by rw [← hl]; exact (List.getElem?_eq_some_iff.mp e1).1
          have ex := List.getElem?_eq_getElem hn
          obtain ⟨v1, v2, ey⟩ := two _ (List.getElem_mem hn)
          rcases elA (P := R.pr) (O := O) (L := L) (h := h1) ij (hp' _ (List.getElem_mem hn)) with q1 | ⟨w1, w2, b, ew, q1, gb⟩
          · have := hg2 n _ ex
            rw [q1] at this
            cases this
          · have := hg2 n _ ex
            rw [q1] at this
            cases this
            rw [ew] at ex
            obtain ⟨z2, e2, ra, rb⟩ := hz n w1 w2 ex
            rw [e1] at e2
            cases e2
            obtain ⟨b', eb, gv⟩ := gtV_of gb ra rb
            cases eb
            exact gv
        cases xv with
        | tup ys =>
          cases ei
          unfold Rep at R1
          obtain ⟨a, vs, rfl, sq, rs⟩ := R1
          obtain ⟨zs, rfl, hz, hl, hzz⟩ := rows_two two rs
          obtain rfl : v = Value.ref a := rv
          rw [← ok.K] at sq hz
          exact it_tuple I1 hP sq hz fun g2 s2 it => ⟨H1, s0, g2, zs.length, _, g, rfl, I1, tgP, ptv_two, it, elt zs hzz hl, by rw [hl]; exact fin⟩
        | lst ys =>
          cases ei
          unfold Rep at R1
          obtain ⟨a, vs, rfl, _, sq, rs⟩ := R1
          obtain ⟨zs, rfl, hz, hl, hzz⟩ := rows_two two rs
          obtain rfl : v = Value.ref a := rv
          rw [← ok.K] at hz
          exact it_list I1 hP (SqL.of sq) hz fun g2 s2 it => ⟨H1, s0, g2, zs.length, _, g, rfl, I1, tgP, ptv_two, it, elt zs hzz hl, by rw [hl]; exact fin⟩
        | _ => cases ei
    · rw [if_neg hp] at r1
      exact False.elim r1
end
end Sd
end
section
set_option maxRecDepth 100000
set_option maxHeartbeats 4000000
/-! any over zip of a row and the row's rest -/
namespace Sd
open PySem PySem.Spec PyProof.Rows L2 GxR
open Ev (LV LO CE CEs Src Tg Tgs CKs CS CSs Prg Orc Slot SR)
section
variable {R : Cn} {X : Cx} {W : WX} {O : Orc} {σ : L2.St} {Fz Fz' : Addr → Prop} {ρ ρ' : List Addr} {H H' : Hp} {h h' : Ev.Hp} {L : Ev.Env} {N : List Str} {sc : Scope} {pos : Pos}
abbrev gtB (i j : Nat) : CE := .op .gt (.cons (.op .idx (.cons (.var i) (.cons (.cst (.int 1)) .nil))) (.cons (.op .idx (.cons (.var j) (.cons (.cst (.int 0)) .nil))) .nil))
theorem idx_tup {l : List LV} {k : Nat} {w : LV} (e : Ev.idxV (.tup l) (.int (k : Int)) = some w) : l[k]? = some w := by
  simp only [Ev.idxV, Ev.intI, Option.bind_some] at e
  obtain ⟨n, e1, e2⟩ := Option.bind_eq_some_iff.mp e
  unfold Ev.natOf at e1
  rw [if_pos (Int.natCast_nonneg k)] at e1
  split at e1
  · cases e1
    simpa using e2
  · cases e1
theorem idx_int {i : Int} {k : LV} : Ev.idxV (.int i) k = none := rfl
/-- a[1] > b[0] -/
theorem elB10 {P : Prg} {i j : Nat} (ij : i ≠ j) {x : LV} (hx : Ev.prB x = true) : elB P O (gtB i j) (tg2 i j) .nil L x h = .bad ∨
    ∃ l1 l2 a b bb, x = .tup [.tup l1, .tup l2] ∧ l1[1]? = some a ∧ l2[0]? = some b ∧ elB P O (gtB i j) (tg2 i j) .nil L x h = .ok bb h ∧ Ev.gtV a b = some (.bl bb) := by
  unfold elB
  cases eb : Ev.bindT (tg2 i j) x L with
  | none => exact .inl rfl
  | some L2 =>
    obtain ⟨v1, v2, rfl, rfl⟩ := two_slots ij hx eb
    dsimp only
    have e1 : ∀ s, ((L.set i (.val v1)).set j (.val v2))[i]? = some s → s = .val v1 := fun s e => by
      rw [List.getElem?_set_ne (Ne.symm ij), List.getElem?_set, if_pos rfl] at e
      split at e <;> cases e <;> rfl
    have e2 : ∀ s, ((L.set i (.val v1)).set j (.val v2))[j]? = some s → s = .val v2 := fun s e => by
      rw [List.getElem?_set, if_pos rfl] at e
      split at e <;> cases e <;> rfl
    generalize (L.set i (.val v1)).set j (.val v2) = L2 at *
    simp only [Ev.evT, Ev.ev, Ev.evA, Ev.sel]
    cases q1 : L2[i]? with
    | none => exact .inl rfl
    | some s1 =>
      obtain rfl := e1 s1 q1
      dsimp only
      cases q2 : Ev.opv .idx ([v1, .int 1].map fun v => Ev.view v h) with
      | none => exact .inl rfl
      | some a =>
        dsimp only [Ev.ofO]
        cases q3 : L2[j]? with
        | none => exact .inl rfl
        | some s2 =>
          obtain rfl := e2 s2 q3
          dsimp only
          cases q4 : Ev.opv .idx ([v2, .int 0].map fun v => Ev.view v h) with
          | none => exact .inl rfl
          | some b =>
            dsimp only [Ev.ofO]
            cases q5 : Ev.opv .gt ([a, b].map fun v => Ev.view v h) with
            | none => exact .inl rfl
            | some w =>
              have q5' : Ev.gtV (Ev.view a h) (Ev.view b h) = some w := q5
              have e3 := gtV_view q5'
              obtain ⟨bb, rfl⟩ := gtV_bl e3
              have q2' : Ev.idxV (Ev.view v1 h) (.int 1) = some a := q2
              have q4' : Ev.idxV (Ev.view v2 h) (.int 0) = some b := q4
              unfold Ev.prB at hx
              split at hx
              · rename_i i1 i2 ee
                cases ee
                change none = some a at q2'
                cases q2'
              · rename_i l1 l2 ee
                cases ee
                exact .inr ⟨l1, l2, a, b, bb, rfl, idx_tup (k := 1) q2', idx_tup (k := 0) q4', rfl, e3⟩
              · cases hx
/-- the rest of a row is of its kind -/
theorem slice_kind {P : Prg} {k : Nat} {lo hi : CE} {v1 v2 : LV} {h2 : Ev.Hp} (e1 : Ev.look L k = some v1) (e2 : Ev.ev P O (.slice (.var k) lo hi) L h = .ok v2 h2) : (∀ xs, v1 = .tup xs → ∃ ys, v2 = .tup ys) ∧ (∀ xs, v1 = .lst xs → ∃ ys, v2 = .lst ys) := by
  have hs : ∀ r, Ev.sel (.var k) L h r = .ok v1 h := fun r => by
    unfold Ev.look at e1
    simp only [Ev.sel]
    split at e1
    · rename_i v q
      cases e1
      rw [q]
    · cases e1
  rw [Ev.ev, hs] at e2
  dsimp only at e2
  cases q1 : Ev.sel lo L h (Ev.ev P O lo L h) with
  | bad => rw [q1] at e2; cases e2
  | exc c h1 => rw [q1] at e2; cases e2
  | ok l h1 =>
    rw [q1] at e2
    dsimp only at e2
    split at e2
    · cases q2 : Ev.sel hi L h1 (Ev.ev P O hi L h1) with
      | bad => rw [q2] at e2; cases e2
      | exc c h3 => rw [q2] at e2; cases e2
      | ok u h3 =>
        rw [q2] at e2
        dsimp only at e2
        split at e2
        · refine ⟨fun xs z => ?_, fun xs z => ?_⟩
          · subst z
            change Ev.ofO ((Ev.slcL xs l u).map LV.tup) h3 = _ at e2
            cases q3 : Ev.slcL xs l u with
            | none => rw [q3] at e2; cases e2
            | some ys => rw [q3] at e2; cases e2; exact ⟨ys, rfl⟩
          · subst z
            change Ev.ofO ((Ev.slcL xs l u).map LV.lst) h3 = _ at e2
            cases q3 : Ev.slcL xs l u with
            | none => rw [q3] at e2; cases e2
            | some ys => rw [q3] at e2; cases e2; exact ⟨ys, rfl⟩
        · cases e2
    · cases e2
/-- the pairs of two rows -/
theorem zipL_get : ∀ {xs ys : List LV} {n : Nat} {x : LV}, (Ev.zipL xs ys)[n]? = some x → ∃ a b, xs[n]? = some a ∧ ys[n]? = some b ∧ x = .tup [a, b]
  | [], ys, n, x, e => by simp [Ev.zipL] at e
  | _ :: _, [], n, x, e => by simp [Ev.zipL] at e
  | a :: xs, b :: ys, 0, x, e => by
    simp only [Ev.zipL, List.getElem?_cons_zero, Option.some.injEq] at e
    exact ⟨a, b, rfl, rfl, e.symm⟩
  | a :: xs, b :: ys, n + 1, x, e => by
    simp only [Ev.zipL, List.getElem?_cons_succ] at e
    obtain ⟨c, d, e1, e2, e3⟩ := zipL_get e
    exact ⟨c, d, by simpa using e1, by simpa using e2, e3⟩
theorem zipL_len : ∀ (xs ys : List LV), (Ev.zipL xs ys).length = min xs.length ys.length
  | [], ys => by simp [Ev.zipL]
  | _ :: _, [] => by simp [Ev.zipL]
  | a :: xs, b :: ys => by
    simp only [Ev.zipL, List.length_cons, zipL_len xs ys]
    omega
theorem se_anyB {e1 e2 : Expr} {lo hi : CE} {xa xb : Str} {pa pb pt gp p p1 p2 p3 q1 q2 q3 q4 zp zq : Pos} {kt k k1 k2 i j v : Nat} {sp : Scope} (ok : XOk R X W N sc) (hr : Room k X.A) (htb : R.tb = true) (td : ∀ p ∈ R.tl, ∀ q ∈ R.tg, p.1 ≠ q) (hg : sc.names.lookup ("any" : Str) = some .globalImplicit) (hm : R.mg "any" = none) (hgz : sc.names.lookup ("zip" : Str) = some .globalImplicit) (hmz : R.mg "zip" = none) (S : GenS2 X.env sp xa xb)
    (h1 : SE R W O X e1 (.var v)) (h2 : SE R W O X e2 (.slice (.var v) lo hi)) (st1 : starEach [e1, e2] X.env = (false, eval e1 X.env) :: starEach [e2] X.env) (st2 : starEach [e2] X.env = (false, eval e2 X.env) :: starEach [] X.env) (hpl : (backTo zq (starEach [e2] X.env)).any (·.1) = false) (ij : i ≠ j) (da : (xa == ("__debug__" : Str)) = false) (db : (xb == ("__debug__" : Str)) = false) :
    SE R W O X (.Call (.Name "any" p) [.GeneratorExp (.Compare (.Subscript (.Name xa p1) (.Constant (.int 1) k1 q1) q2) [.Gt] [.Subscript (.Name xb p2) (.Constant (.int 0) k2 q3) q4] p3) [⟨.Tuple [.Name xa pa, .Name xb pb] kt pt, .Call (.Name "zip" zp) [e1, e2] [] zq, [], 0⟩] sp gp] [] pos) (.anyg (gtB i j) (tg2 i j) .nil (.zip2 (.of (.var v)) (.of (.slice (.var v) lo hi)))) := by
  refine ⟨fun pins s σ H Q I ⟨L, h, Fz, ρ, C, Sl, r⟩ => any_run ok hr htb hg hm S (fun _ => rfl) I fun P htg => ?_⟩
  dsimp only at r
  rw [ev_anyg] at r
  refine Call_ (ld_blt I (by show X.env.scope.names.lookup _ = _; rw [ok.sc]; exact hgz) (by rw [ok.mg]; exact hmz) PyProof.Rows.boot_zip (PyProof.Rows.callWith_type1 (thn ((pa_cons h1 (pa_cons h2 pa_nil st2) st1).run zq pins s σ H (fun vs H1 => ∃ Fz1 ρ1 hh x1 x2 u1 u2, vs = [u1, u2] ∧ Core R Fz1 ρ1 H1 hh ∧ Ext Fz ρ H Fz1 ρ1 H1 ∧ Rep R Fz1 ρ1 H1 x1 u1 ∧ Rep R Fz1 ρ1 H1 x2 u2 ∧ ((∃ xs ys, x1 = .tup xs ∧ x2 = .tup ys) ∨ ∃ xs ys, x1 = .lst xs ∧ x2 = .lst ys) ∧ ∃ xs ys, Ev.itemsOf x1 = some xs ∧ Ev.itemsOf x2 = some ys ∧ RS R W σ Fz ρ H (anyM R.pr O (gtB i j) (tg2 i j) L (Ev.zipL xs ys) hh) Q) I (oneS_of (.cons (.var v) (.cons (.slice (.var v) lo hi) .nil)) C Sl ?_)) fun us s0 q => ?_) st1 hpl))
  · simp only [Ev.evS] at r
    simp only [Ev.evs]
    have hv : Ev.ev R.pr O (.var v) L h = Ev.ofO (Ev.look L v) h := by rw [Ev.ev]
    rw [hv] at r ⊢
    cases y1 : Ev.look L v with
    | none => rw [y1] at r; exact r
    | some x1 =>
      rw [y1] at r
      dsimp only [Ev.ofO] at r ⊢
      cases y2 : Ev.itemsOf x1 with
      | none => rw [y2] at r; exact False.elim r
      | some xs =>
        rw [y2] at r
        dsimp only [Ev.ofO] at r
        cases y3 : Ev.ev R.pr O (.slice (.var v) lo hi) L h with
        | bad => rw [y3] at r; exact r
        | exc d h2 => rw [y3] at r; exact r
        | ok x2 h2 =>
          rw [y3] at r
          dsimp only at r ⊢
          cases y4 : Ev.itemsOf x2 with
          | none => rw [y4] at r; exact False.elim r
          | some ys =>
            rw [y4] at r
            intro us H1 F1 ρ1 C1 E1 R1
            unfold Reps at R1
            obtain ⟨u1, w1, rfl, ra, R1⟩ := R1
            unfold Reps at R1
            obtain ⟨u2, w2, rfl, rb, R1⟩ := R1
            unfold Reps at R1
            subst R1
            obtain ⟨kt, kl⟩ := slice_kind y1 y3
            refine ⟨F1, ρ1, h2, x1, x2, u1, u2, rfl, C1, E1, ra, rb, ?_, xs, ys, y2, y4, r⟩
            cases x1 with
            | tup zs => obtain ⟨ws, rfl⟩ := kt zs rfl; exact .inl ⟨zs, ws, rfl, rfl⟩
            | lst zs => obtain ⟨ws, rfl⟩ := kl zs rfl; exact .inr ⟨zs, ws, rfl, rfl⟩
            | _ => cases y2
  · obtain ⟨vs, H1, I1, rv, F1, ρ1, hh, x1, x2, u1, u2, rfl, C1, E1, R1, R2, kd, xs, ys, ei1, ei2, r1⟩ := q
    obtain ⟨w1, w2, rfl, rw1, rw2⟩ := Vals.two rv
    have tgP : TabG H1 P := C1.tab.gen P htg
    obtain ⟨tps, hP, htr⟩ := id tgP
    unfold anyM at r1
    by_cases hp : (Ev.zipL xs ys).all Ev.prB = true
    · rw [if_pos hp] at r1
      have hp' := List.all_eq_true.mp hp
      rcases anyR_all (f := elB R.pr O (gtB i j) (tg2 i j) .nil L) (h := hh) (xs := Ev.zipL xs ys) (fun y hy => by
        rcases elB10 (P := R.pr) (O := O) (L := L) (h := hh) ij (hp' y hy) with z | ⟨l1, l2, a, b, bb, _, _, _, z, _⟩
        · exact .inl z
        · exact .inr ⟨bb, z⟩) with z | ⟨g, hg2, z⟩
      · rw [z] at r1; exact False.elim r1
      · rw [z] at r1
        replace r1 : okP R Fz ρ H hh (.bl ((List.range (Ev.zipL xs ys).length).any g)) Q := r1
        have fin : ∀ H2, Tabbed P H1 H2 → Q (.bl ((List.range (Ev.zipL xs ys).length).any g)) H2 := fun H2 t => by
          obtain ⟨C2, E2⟩ := C1.tabd ⟨tps, hP⟩ t fun p hp => td p hp P htg
          exact r1 _ H2 F1 ρ1 C2 (E1.trans E2) (by unfold Rep; rfl)
        have elt : ∀ (va vb : List V), Reps R F1 ρ1 H1 xs va → Reps R F1 ρ1 H1 ys vb → EltT X P sp xa xb (.Compare (.Subscript (.Name xa p1) (.Constant (.int 1) k1 q1) q2) [.Gt] [.Subscript (.Name xb p2) (.Constant (.int 0) k2 q3) q4] p3) s0 (PtV (va.zip vb)) g := fun va vb sa sb => elt_gt10 I1 hP S.kind S.la S.lb da db fun n q e => by
          rw [List.getElem?_zip_eq_some] at e
          obtain ⟨e1, e2⟩ := e
          have n1 : n < xs.length := by rw [sa.length]; exact (List.getElem?_eq_some_iff.mp e1).1
          have n2 : n < ys.length := by rw [sb.length]; exact (List.getElem?_eq_some_iff.mp e2).1
          have hn : n < (Ev.zipL xs ys).length := by rw [zipL_len]; omega
          have ex := List.getElem?_eq_getElem hn
          obtain ⟨y1, y2, g1, g2, eq0⟩ := zipL_get ex
          rcases elB10 (P := R.pr) (O := O) (L := L) (h := hh) ij (hp' _ (List.getElem_mem hn)) with z1 | ⟨l1, l2, a, b, bb, ew, ea, eb, z1, gb⟩
          · have := hg2 n _ ex
            rw [z1] at this
            cases this
          · have := hg2 n _ ex
            rw [z1] at this
            cases this
            rw [eq0] at ew
            cases ew
            obtain ⟨va1, e3, r3⟩ := sa.get g1
            obtain ⟨vb1, e4, r4⟩ := sb.get g2
            rw [e1] at e3
            rw [e2] at e4
            cases e3; cases e4
            unfold Rep at r3 r4
            obtain ⟨t1, ws1, q5, sq1, rs1⟩ := r3
            obtain ⟨t2, ws2, q6, sq2, rs2⟩ := r4
            obtain ⟨xa1, e5, r5⟩ := rs1.get ea
            obtain ⟨xb1, e6, r6⟩ := rs2.get eb
            obtain ⟨b', ebb, gv⟩ := gtV_of gb r5 r6
            cases ebb
            refine ⟨t1, t2, ws1, ws2, xa1, xb1, ?_, by rw [ok.K]; exact sq1, by rw [ok.K]; exact sq2, e5, e6, gv⟩
            obtain ⟨qa, qb⟩ := q
            dsimp only at q5 q6
            rw [q5, q6]
        rcases kd with ⟨xs', ys', rfl, rfl⟩ | ⟨xs', ys', rfl, rfl⟩
        · cases ei1; cases ei2
          unfold Rep at R1 R2
          obtain ⟨a, va, rfl, sqa, sa⟩ := R1
          obtain ⟨b, vb, rfl, sqb, sb⟩ := R2
          obtain rfl : w1 = Value.ref a := rw1
          obtain rfl : w2 = Value.ref b := rw2
          rw [← ok.K] at sqa sqb
          exact it_zipT I1 hP sqa sqb fun g2 s2 it => ⟨H1, s0, g2, _, _, g, rfl, I1, tgP, ptv_two, it, elt va vb sa sb, by rw [← sa.length, ← sb.length, ← zipL_len]; exact fin⟩
        · cases ei1; cases ei2
          unfold Rep at R1 R2
          obtain ⟨a, va, rfl, _, sqa, sa⟩ := R1
          obtain ⟨b, vb, rfl, _, sqb, sb⟩ := R2
          obtain rfl : w1 = Value.ref a := rw1
          obtain rfl : w2 = Value.ref b := rw2
          exact it_zipL I1 hP (SqL.of sqa) (SqL.of sqb) fun g2 s2 it => ⟨H1, s0, g2, _, _, g, rfl, I1, tgP, ptv_two, it, elt va vb sa sb, by rw [← sa.length, ← sb.length, ← zipL_len]; exact fin⟩
    · rw [if_neg hp] at r1
      exact False.elim r1
end
end Sd
end
section
set_option maxRecDepth 100000
set_option maxHeartbeats 0
/-! the check is sound -/
namespace Sd
open PySem PySem.Spec PyProof.Rows L2
open Ev (LV LO CE CEs Src Tg Tgs CKs CS CSs Prg Orc Slot SR)
section
variable {R : Cn} {O : Orc} {G : Gs} {k : Nat}
theorem unB_sw {X : Cx} {W : WX} {op : BoolOp} {y : Expr} {r : List Expr} {p : Pos} {c : CE} (one : ∀ {a : Expr} {ca : CE}, ST R W O X a ca → SW R W O X (.BoolOp op [a] p) ca) (h : J .test R W O X (unB (.BoolOp op (y :: r) p)) c) : SW R W O X (.BoolOp op (y :: r) p) c := by
  cases r with
  | nil => exact one h.1
  | cons z r => exact h.2 rfl
theorem unB_se {X : Cx} {W : WX} {op : BoolOp} {y : Expr} {r : List Expr} {p : Pos} {c : CE} (h : J .keep R W O X (unB (.BoolOp op (y :: r) p)) c) : SE R W O X (.BoolOp op (y :: r) p) c := by
  cases r with
  | nil => exact se_one h
  | cons z r => exact h
theorem okM_ne {m : Md} {e : Expr} (h : okM m e = true) : m ≠ .fresh := fun z => by subst z; cases h
mutual
theorem chkG_ok {X : Cx} {N : List Str} {sc : Scope} {f : Str → Bool} (hK : X.K = R.K) (hN : X.N = N) (nd : N.Nodup) (hs : X.env.scope = sc) (hc : X.calm = true) (hf : ∀ x, f x = true → X.fn x = true) : ∀ (t : Tg) (e : Expr), chkG f N sc t e = true → SG R X e t
  | .nm i, e, h => by
    simp only [chkG] at h
    split at h
    · rename_i x p
      rw [Bool.and_eq_true, decide_eq_true_eq, Bool.or_eq_true] at h
      obtain ⟨h1, h2⟩ := h
      rcases h2 with h2 | h2
      · have hl := local_of h2
        exact sg_nm (by rw [hN]; exact nd) (by rw [hN]; exact h1) (by rw [hs]; exact .inl hl) (.inr (by rw [hs]; exact hl))
      · rw [Bool.and_eq_true] at h2
        exact sg_nm (by rw [hN]; exact nd) (by rw [hN]; exact h1) (by rw [hs]; exact loc_of h2.1) (.inl (hf x h2.2))
    · cases h
  | .tup ts, e, h => by
    simp only [chkG] at h
    split at h
    · rename_i es kk p
      obtain ⟨j, hl, hst, hlen⟩ := chkGs_ok hK hN nd hs hc hf ts es h
      exact sg_tup hK hc j rfl hlen hst
    · cases h
theorem chkGs_ok {X : Cx} {N : List Str} {sc : Scope} {f : Str → Bool} (hK : X.K = R.K) (hN : X.N = N) (nd : N.Nodup) (hs : X.env.scope = sc) (hc : X.calm = true) (hf : ∀ x, f x = true → X.fn x = true) : ∀ (ts : Tgs) (es : List Expr), chkGs f N sc ts es = true →
    SGs R X es ts ∧ True ∧ (assignEach es X.env).findIdx? (·.1) = none ∧ (assignEach es X.env).length = tlen ts
  | .nil, es, h => by
    simp only [chkGs] at h
    cases es with
    | nil => exact ⟨sgs_nil, trivial, rfl, rfl⟩
    | cons _ _ => cases h
  | .cons t ts, es, h => by
    simp only [chkGs] at h
    split at h
    · rename_i e es
      rw [Bool.and_eq_true, Bool.and_eq_true] at h
      obtain ⟨⟨h0, h1⟩, h2⟩ := h
      obtain ⟨j, _, st, ln⟩ := chkGs_ok hK hN nd hs hc hf ts es h2
      have ea : assignEach (e :: es) X.env = (false, assign e X.env) :: assignEach es X.env := by cases e <;> first | rfl | cases h0
      refine ⟨sgs_cons (chkG_ok hK hN nd hs hc hf t e h1) j (by rw [ea]; rfl), trivial, ?_, by rw [ea, List.length_cons, ln]; rfl⟩
      rw [ea, List.findIdx?_cons]
      simp only [st]
      rfl
    · cases h
end
theorem relabel_eq (scope : Scope) (env : Env) : relabel scope env = relS scope env.scope := rfl
theorem blk_ok {X : Cx} {W : WX} {N : List Str} {sc scope : Scope} (ok : XOk R X W N sc) (s : Shared) (H : Hp) (C : Addr) (cl : List (Str × Addr)) (fp : List Addr) : XOk R (X.blk s H scope (compEnvC scope cl C X.env) fp) W0 N (relS scope sc) where
  P := ok.P
  w := ok.w
  K := ok.K
  mg := ok.mg
  base := ok.base
  nm := ok.nm
  nd := ok.nd
  sc := by show relS scope X.env.scope = _; rw [ok.sc]
  calm := ok.calm
  un := ok.un
  tk := LamX.takes0
  cc := ok.cc
theorem own_at {N : List Str} {scope : Scope} : ∀ p ∈ ownOf N scope, N[p.2]? = some p.1 := by
  intro p hp
  unfold ownOf at hp
  obtain ⟨q, _, hq⟩ := List.mem_filterMap.mp hp
  have key : ∀ {y : Str} {i : Nat}, N.findIdx? (fun z => z == y) = some i → N[i]? = some y := by
    intro y i e
    obtain ⟨hl, h2⟩ := List.findIdx?_eq_some_iff_getElem.mp e
    rw [List.getElem?_eq_getElem hl]
    have := h2.1
    simp only [beq_iff_eq] at this
    rw [this]
  split at hq
  · obtain ⟨i, e1, rfl⟩ := Option.map_eq_some_iff.mp hq
    exact key e1
  · obtain ⟨i, e1, rfl⟩ := Option.map_eq_some_iff.mp hq
    exact key e1
  · cases hq
/-- what a generator expression walks, each kept -/
def JQ (R : Cn) (W : WX) (O : Orc) (X : Cx) : Src → List Expr → Prop
  | .of c, [e] => SE R W O X e c
  | .zip2 a b, [e1, e2] => JQ R W O X a [e1] ∧ JQ R W O X b [e2]
  | _, _ => False
theorem genS_of {sp : Scope} {xa xb : Str} {en : PySem.Env} (h : genB sp xa xb = true) : GenS2 en sp xa xb := by
  unfold genB at h
  simp only [Bool.and_eq_true, decide_eq_true_eq, Bool.not_eq_true', List.all_eq_true, decide_eq_false_iff_not] at h
  obtain ⟨⟨⟨⟨⟨⟨h1, h2⟩, h3⟩, h4⟩, h5⟩, h6⟩, h7⟩ := h
  exact ⟨h1, h2, fun y hy => (h3 y hy).1, h4, h5, h6, h7, fun y hy e => absurd e (h3 y hy).2⟩
theorem any_glue {X : Cx} {W : WX} {N : List Str} {sc : Scope} {elt : CE} {t : Tg} {ts : CEs} {s : Src} {e : Expr} {k : Nat} (GO : GOk R G) (ok : XOk R X W N sc) (hr : Room k X.A) (htb : G.tb = true) (h : anyS G sc elt t ts s e = true) (q : JQ R W O X s (anyIt e)) : SE R W O X e (.anyg elt t ts s) := by
  unfold anyS at h
  split at h
  · rename_i x p1 ge xa pa xb pb kt pt it sp gp p2
    simp only [Bool.and_eq_true, decide_eq_true_eq] at h
    obtain ⟨⟨⟨⟨⟨⟨rfl, g1⟩, g2⟩, g3⟩, g4⟩, g5⟩, h⟩ := h
    have S := genS_of (en := X.env) g3
    split at h
    · rename_i i j
      rw [Bool.and_eq_true, decide_eq_true_eq] at h
      obtain ⟨ij, h⟩ := h
      split at h
      · rename_i a q1 b q2 q3 y q4
        simp only [Bool.and_eq_true, decide_eq_true_eq] at h
        obtain ⟨⟨⟨rfl, rfl⟩, h4⟩, h5⟩ := h
        unfold eltAB at h4
        split at h4
        · rename_i u v
          rw [Bool.and_eq_true, decide_eq_true_eq, decide_eq_true_eq] at h4
          obtain ⟨rfl, rfl⟩ := h4
          split at h5
          · exact se_anyA ok hr (GO.tb htb) GO.td (gl_of g1) (GO.nb _ g2) S (fun _ => rfl) q ij (dbg_of g4).1 (dbg_of g5).1
          · cases h5
        · cases h4
      · rename_i a q1 u k1 q2 q3 b q4 w k2 q5 q6 q7 z q8 e1 e2 q9
        simp only [Bool.and_eq_true, decide_eq_true_eq] at h
        obtain ⟨⟨⟨⟨⟨⟨⟨⟨⟨⟨rfl, rfl⟩, rfl⟩, rfl⟩, rfl⟩, z1⟩, z2⟩, n1⟩, n2⟩, h4⟩, h5⟩ := h
        unfold eltBB at h4
        split at h4
        · rename_i a' u' b' w'
          simp only [Bool.and_eq_true, decide_eq_true_eq] at h4
          obtain ⟨⟨⟨rfl, rfl⟩, rfl⟩, rfl⟩ := h4
          split at h5
          · rename_i k' l' lo hi
            rw [decide_eq_true_eq] at h5
            subst h5
            obtain ⟨s1, s2⟩ : SE R W O X e1 (.var k') ∧ SE R W O X e2 (.slice (.var k') lo hi) := q
            exact se_anyB ok hr (GO.tb htb) GO.td (gl_of g1) (GO.nb _ g2) (gl_of z1) (GO.nb _ z2) S s1 s2 (star_of n1) (star_of n2) (pl_of (by rw [List.all_cons, n2]; rfl)) ij (dbg_of g4).1 (dbg_of g5).1
          · cases h5
        · cases h4
      · cases h
    · cases h
  · cases h
/-- where an expression stands; lk: lambdas may be made here -/
structure XQ (R : Cn) (O : Orc) (k : Nat) (lk : Bool) (X : Cx) (W : WX) (N : List Str) (sc : Scope) : Prop extends XOk R X W N sc where
  lf : lk = true → XLf R O k X
instance {lk : Bool} {X : Cx} {W : WX} {N : List Str} {sc : Scope} : CoeOut (XQ R O k lk X W N sc) (XOk R X W N sc) := ⟨XQ.toXOk⟩
theorem blk_q {lk : Bool} {X : Cx} {W : WX} {N : List Str} {sc scope : Scope} (ok : XQ R O k lk X W N sc) (s : Shared) (H : Hp) (C : Addr) (cl : List (Str × Addr)) (fp : List Addr) : XQ R O k false (X.blk s H scope (compEnvC scope cl C X.env) fp) W0 N (relS scope sc) :=
  ⟨blk_ok ok.toXOk s H C cl fp, fun z => by cases z⟩
theorem toldB_ok (GO : GOk R G) {c : Nat} {s : List Nat} {x : Str} (h : toldB G c s x = true) : ToldD R x (R.cl c) (st s) ∧ okS s := by
  unfold toldB at h
  split at h
  · rename_i d t e
    rw [Bool.and_eq_true, decide_eq_true_eq, decide_eq_true_eq] at h
    obtain ⟨rfl, rfl⟩ := h
    exact GO.told _ _ _ e
  · cases h
theorem lamsB_ok (GO : GOk R G) : ∀ {ks : List Nat} {es : List Expr}, lamsB G ks es = true → LamEs R es ks
  | [], es, h => by
    simp only [lamsB, List.isEmpty_iff] at h
    subst h
    rfl
  | k :: ks, es, h => by
    simp only [lamsB] at h
    split at h
    · rename_i ps b sp p es
      rw [Bool.and_eq_true] at h
      exact ⟨k, ks, ⟨ps, b, sp⟩, p, rfl, rfl, GO.lo _ _ h.1, lamsB_ok GO h.2⟩
    · cases h
theorem lamLB_ok {X : Cx} {W : WX} {N : List Str} {sc : Scope} {i : Nat} {ks : List Nat} {e : Expr} (GO : GOk R G) (ok : XOk R X W N sc) (xl : XLf R O k X) (h : lamLB G N sc i ks e = true) : PE X e (tLB R i ks) := by
  unfold lamLB at h
  split at h
  · simp only [Bool.and_eq_true, decide_eq_true_eq, List.isEmpty_iff] at h
    obtain ⟨⟨⟨rfl, h2⟩, h3⟩, h4⟩ := h
    exact pe_lamN ok h2 (vis_of h3) (dbg_of h4).1 (dbg_of h4).2.1
  · simp only [Bool.and_eq_true, decide_eq_true_eq] at h
    obtain ⟨⟨⟨h2, h3⟩, h4⟩, h5⟩ := h
    exact pe_lamB ok xl.toXL0 h2 (vis_of h3) (dbg_of h4).1 (dbg_of h4).2.1 (lamsB_ok GO h5)
  · cases h
theorem tolds_ok {X : Cx} {W : WX} {N : List Str} {sc : Scope} {i c : Nat} {ks s : List Nat} {e : Expr} (GO : GOk R G) (ok : XOk R X W N sc) (hr : Room (k + 1) X.A) (xl : XLf R O k X) (h : toldsB G N sc i ks c s e = true) : SF R W O X e (.tolds i ks c s) := by
  unfold toldsB at h
  split at h
  · simp only [Bool.and_eq_true, decide_eq_true_eq] at h
    obtain ⟨⟨⟨⟨⟨⟨⟨⟨⟨rfl, rfl⟩, rfl⟩, rfl⟩, g1⟩, g2⟩, g3⟩, g4⟩, g5⟩, g6⟩ := h
    obtain ⟨TD, hs⟩ := toldB_ok GO g3
    unfold nmB at g6
    split at g6
    · simp only [Bool.and_eq_true, decide_eq_true_eq] at g6
      obtain ⟨⟨⟨⟨⟨⟨⟨⟨⟨⟨⟨ia, ib⟩, hab⟩, lk⟩, lf⟩, gx⟩, dk⟩, df⟩, dx⟩, ha⟩, hb⟩, bk⟩ := g6
      exact sf_tolds ok hr xl TD hs (fun d => GO.xm d c) (by rw [ok.nm, ok.sc]; exact blkOk_by bk) (lamLB_ok GO ok xl g5) (star_of g4) (gl_of g1) (GO.nb _ g2) ia ib hab (local_of lk) (local_of lf) (gl_of gx) (dbg_of dx).1 (dbg_of df).1 (dbg_of df).2.1 (dbg_of dk).1 (dbg_of dk).2.1 ha hb rfl
    · cases g6
  · cases h
variable (GO : GOk R G) (RO : ROk R) (OK : OOk R O k)
include GO RO OK
mutual
theorem chk_ok : ∀ (c : CE) (m : Md) (X : Cx) (W : WX) (N : List Str) (sc : Scope) (e : Expr) {lk : Bool}, XQ R O k lk X W N sc → Room (k + 1) X.A → chk G lk c m N sc e = true → J m R W O X e c
  | .cst v, m, X, W, N, sc, e, lk, ok, hr, h => by
    simp only [chk, Bool.and_eq_true] at h
    refine of_se ok.K h.1 (fun i z => by cases z) ?_
    have h := h.2
    unfold cstT at h
    split at h
    · split at h
      · rw [decide_eq_true_eq] at h; subst h; exact se_int
      · cases h
    · split at h
      · rw [decide_eq_true_eq] at h; subst h; exact se_bl
      · cases h
    · split at h
      · exact se_non
      · cases h
    · split at h
      · rw [Bool.and_eq_true, decide_eq_true_eq] at h
        exact se_str h.1 (okS_of h.2)
      · cases h
    · rw [Bool.and_eq_true, Bool.and_eq_true] at h
      obtain ⟨⟨h1, h2⟩, h3⟩ := h
      split at h3
      · rename_i w hw
        obtain rfl := same_eq _ _ h3
        exact se_glob ok.toXOk (gl_of h1) (GO.gc _ _ hw) (dbg_of h2).1
      · cases h3
    · cases h
  | .var i, m, X, W, N, sc, e, lk, ok, hr, h => by
    simp only [chk, Bool.and_eq_true] at h
    obtain ⟨h0, h⟩ := h
    split at h
    · rename_i x p
      rw [Bool.and_eq_true, Bool.and_eq_true, decide_eq_true_eq] at h
      obtain ⟨⟨h1, h2⟩, h3⟩ := h
      obtain ⟨d1, d2, _⟩ := dbg_of h3
      have s : SE R W O X (.Name x p) (.var i) := se_var ok.toXOk h1 (vis_of h2) d1 d2
      cases m with
      | keep => exact s
      | see => exact sv_var ok.toXOk h1 (vis_of h2) d1 d2
      | fresh => cases h0
      | test => exact ⟨st_of s ok.K (true_of h0), plain_bo h0⟩
    · cases h
  | .op o as, m, X, W, N, sc, e, lk, ok, hr, h => by
    simp only [chk] at h
    split at h
    · -- unary
      rename_i op a p
      rw [Bool.and_eq_true, Bool.and_eq_true, Bool.and_eq_true, decide_eq_true_eq] at h
      obtain ⟨⟨⟨h1, h2⟩, h3⟩, h4⟩ := h
      obtain ⟨ca, rfl, _, j⟩ := jl1 (chks_ok as .see X W N sc [a] ok hr h4)
      subst h3
      cases op <;> first | (cases h2; done) | skip
      exact of_se ok.K h1 (fun i z => by cases z) (se_un un_neg sem_neg j)
    · rename_i a op b p
      rw [Bool.and_eq_true] at h
      obtain ⟨h1, h2⟩ := h
      obtain ⟨ca, cb, rfl, ja, jb⟩ := jl2 (chks_ok as .see X W N sc [a, b] ok hr h2)
      by_cases hm : m = .fresh
      · rw [if_pos hm] at h1
        subst hm
        obtain ⟨r, h3, h4⟩ := binF_ok ok.toXOk h1
        exact sf_bin h3 h4 ja jb
      · rw [if_neg hm, Bool.and_eq_true] at h1
        obtain ⟨r, h3, h4⟩ := bin_ok ok.toXOk h1.2
        exact of_se ok.K h1.1 (fun i z => by cases z) (se_bin h3 h4 ja jb)
    · rename_i a ops bs p
      rw [Bool.and_eq_true, decide_eq_true_eq] at h
      obtain ⟨hm, h⟩ := h
      split at h
      · rename_i op b
        split at h
        · rw [Bool.and_eq_true, Bool.and_eq_true, decide_eq_true_eq] at h
          obtain ⟨⟨h1, h2⟩, h3⟩ := h
          subst h2
          obtain ⟨ca, rfl, _, j⟩ := jl1 (chks_ok as .see X W N sc [a] ok hr h3)
          unfold isN at h1
          split at h1
          · exact of_cmp rfl hm rfl (se_isn j) (pt_imp (pt_cmp (pc_isN j)) fun σ H Q r => op_of (Op1.n sem_isn) rfl r)
          · cases h1
        · rw [Bool.and_eq_true, Bool.and_eq_true, decide_eq_true_eq] at h
          obtain ⟨⟨h1, h2⟩, h3⟩ := h
          subst h2
          obtain ⟨ca, rfl, _, j⟩ := jl1 (chks_ok as .see X W N sc [a] ok hr h3)
          unfold isN at h1
          split at h1
          · exact of_cmp rfl hm rfl (se_notn j) (pt_imp (pt_cmp (pc_notN j)) fun σ H Q r => op_of (Op1.n sem_notn) rfl r)
          · cases h1
        · rw [Bool.and_eq_true, Bool.and_eq_true, Bool.not_eq_true'] at h
          obtain ⟨⟨h1, h2⟩, h3⟩ := h
          obtain ⟨ca, cb, rfl, ja, jb⟩ := jl2 (chks_ok as .see X W N sc [a, b] ok hr h3)
          obtain ⟨hb, r, h4, h5⟩ := cmp_ok ok.toXOk h1
          exact of_cmp hb hm rfl (se_cmp h4 h5 ja jb h2) (pt_imp (pt_cmpR h4 ja jb h2) fun σ H Q r => op_of h5.n rfl r)
      · cases h
    · rename_i a b p
      rw [Bool.and_eq_true, Bool.and_eq_true, Bool.and_eq_true, decide_eq_true_eq] at h
      obtain ⟨⟨⟨h1, h2⟩, h3⟩, h4⟩ := h
      subst h2
      obtain ⟨ca, cb, rfl, ja, jb⟩ := jl2 (chks_ok as .see X W N sc [a, b] ok hr h4)
      exact of_se ok.K h1 (fun i z => by cases z) (se_idx ok.toXOk ja jb (ix_of h3))
    · rename_i f es kws p
      split at h
      · rename_i x p2
        simp only [Bool.and_eq_true, Bool.or_eq_true] at h
        obtain ⟨⟨⟨⟨h1, h2⟩, h3⟩, h4⟩, h5⟩ := h
        rcases h1 with ⟨h0, h1⟩ | ⟨h0, h1⟩
        · exact of_se ok.K h0 (fun i z => by cases z) (blt_ok ok.toXOk h1 (gl_of h2) (GO.nb _ h4) h3 (chks_ok as .see X W N sc es ok hr h5))
        · exact of_sf ok.K h0 (fun i z => by cases z) (blf_ok ok.toXOk h1 (gl_of h2) (GO.nb _ h4) h3 (chks_ok as .see X W N sc es ok hr h5))
      · cases h
    · cases h
  | .bm o r as, m, X, W, N, sc, e, lk, ok, hr, h => by
    simp only [chk, Bool.and_eq_true] at h
    obtain ⟨h0, h⟩ := h
    split at h
    · rename_i a x apos y p
      simp only [Bool.and_eq_true, decide_eq_true_eq] at h
      obtain ⟨⟨⟨⟨⟨h1, h2⟩, h3⟩, h4⟩, h5⟩, h6⟩ := h
      subst h1 h2
      have ja := chk_ok r .see X W N sc a ok hr h5
      have jl := chks_ok as .see X W N sc [y] ok hr h6
      obtain ⟨cy, rfl, sy, jy⟩ := jl1 jl
      have st := star_of (es := []) (env := X.env) sy
      refine of_se ok.K h0 (fun i z => by cases z) (se_index (p := p) ok.toXOk ja jl.svs (base_of h3) ?_ h4 st rfl)
      rw [few_of (by rw [List.all_cons, sy]; rfl)]
      rfl
    · cases h
  | .slice a lo hi, m, X, W, N, sc, e, lk, ok, hr, h => by
    simp only [chk, Bool.and_eq_true] at h
    obtain ⟨h0, h⟩ := h
    split at h
    · rename_i x l u p2 p
      simp only [Bool.and_eq_true] at h
      obtain ⟨⟨h1, h2⟩, h3⟩ := h
      have ja := chk_ok a .see X W N sc x ok hr h1
      have endOf : ∀ {cst : CE}, sameV .non (match cst with | .cst v => v | _ => .int 0) = true → cst = .cst .non := by
        intro cst hh
        have := same_eq _ _ hh
        split at this
        · rw [this]
        · cases this
      have jl : SPO R W O X l lo := by
        cases l with
        | none => rw [endOf h2]; exact spo_no
        | some l' => exact spo_some (chk_ok lo .see X W N sc l' ok hr h2)
      have ju : SPO R W O X u hi := by
        cases u with
        | none => rw [endOf h3]; exact spo_no
        | some u' => exact spo_some (chk_ok hi .see X W N sc u' ok hr h3)
      exact of_sf ok.K h0 (fun i z => by cases z) (sf_slc ok.toXOk ja jl ju)
    · cases h
  | .cmp a ops bs, m, X, W, N, sc, e, lk, ok, hr, h => by
    simp only [chk, Bool.and_eq_true, decide_eq_true_eq] at h
    obtain ⟨hm, h⟩ := h
    split at h
    · rename_i x o1 o2 y z p
      simp only [Bool.and_eq_true] at h
      obtain ⟨⟨⟨h1, h2⟩, h3⟩, h4⟩ := h
      have ja := chk_ok a .see X W N sc x ok hr h1
      obtain ⟨cy, cz, rfl, jy, jz⟩ := jl2 (chks_ok bs .see X W N sc [y, z] ok hr h4)
      split at h2
      · rename_i p1 p2
        rw [Bool.and_eq_true] at h2
        obtain ⟨_, r1, g1, g2⟩ := cmp_ok ok.toXOk h2.1
        obtain ⟨_, r2, g3, g4⟩ := cmp_ok ok.toXOk h2.2
        rw [Bool.not_eq_true'] at h3
        have s : SE R W O X (.Compare x [o1, o2] [y, z] p) (.cmp a [p1, p2] (.cons cy (.cons cz .nil))) := chain_end g1 g3 g2 g4 ja jy jz h3
        cases m with
        | keep => exact s
        | see => exact s.sv (fun i z => by cases z)
        | fresh => exact absurd rfl hm
        | test =>
          refine ⟨pt_imp (pt_chain g1 g3 ja jy jz h3) fun σ H Q t => ?_, fun z => by cases z⟩
          exact chain_imp g2 g4 (tT_bl (fun L h v h' e => ev_cmp_bl e) t)
      · cases h2
    · cases h
  | .and a b, m, X, W, N, sc, e, lk, ok, hr, h => by
    simp only [chk] at h
    split at h
    · rename_i x y r p
      cases m with
      | fresh => cases h
      | test =>
        simp only [Bool.and_eq_true] at h
        have w := sw_and (chk_ok a .test X W N sc x ok hr h.1).1 (unB_sw sw_and1 (chk_ok b .test X W N sc _ ok hr h.2))
        exact ⟨w.pt, fun _ => w⟩
      | keep =>
        simp only [Bool.and_eq_true] at h
        exact se_and (chk_ok a .keep X W N sc x ok hr h.1) (unB_se (chk_ok b .keep X W N sc _ ok hr h.2)) ok.K
      | see =>
        simp only [Bool.and_eq_true] at h
        exact SE.sv (se_and (chk_ok a .keep X W N sc x ok hr h.1) (unB_se (chk_ok b .keep X W N sc _ ok hr h.2)) ok.K) (fun i z => by cases z)
    · cases h
  | .or a b, m, X, W, N, sc, e, lk, ok, hr, h => by
    simp only [chk] at h
    split at h
    · rename_i x y r p
      cases m with
      | fresh => cases h
      | test =>
        simp only [Bool.and_eq_true] at h
        have w := sw_or (chk_ok a .test X W N sc x ok hr h.1).1 (unB_sw sw_or1 (chk_ok b .test X W N sc _ ok hr h.2))
        exact ⟨w.pt, fun _ => w⟩
      | keep =>
        simp only [Bool.and_eq_true] at h
        exact se_or (chk_ok a .keep X W N sc x ok hr h.1) (unB_se (chk_ok b .keep X W N sc _ ok hr h.2)) ok.K
      | see =>
        simp only [Bool.and_eq_true] at h
        exact SE.sv (se_or (chk_ok a .keep X W N sc x ok hr h.1) (unB_se (chk_ok b .keep X W N sc _ ok hr h.2)) ok.K) (fun i z => by cases z)
    · cases h
  | .not a, m, X, W, N, sc, e, lk, ok, hr, h => by
    simp only [chk] at h
    split at h
    · rename_i x p
      cases m with
      | fresh => cases h
      | test => exact ⟨st_not (chk_ok a .test X W N sc x ok hr h).1, fun z => by cases z⟩
      | keep => exact se_not (chk_ok a .keep X W N sc x ok hr h) ok.K
      | see => exact SE.sv (se_not (chk_ok a .keep X W N sc x ok hr h) ok.K) (fun i z => by cases z)
    · cases h
  | .ite c a b, m, X, W, N, sc, e, lk, ok, hr, h => by
    simp only [chk] at h
    split at h
    · rename_i t x y p
      cases m with
      | test => cases h
      | fresh =>
        simp only [Bool.and_eq_true] at h
        exact sf_ite (chk_ok c .test X W N sc t ok hr h.1.1).1 (chk_ok a .fresh X W N sc x ok hr h.1.2) (chk_ok b .fresh X W N sc y ok hr h.2)
      | keep =>
        simp only [Bool.and_eq_true] at h
        exact se_ite (chk_ok c .test X W N sc t ok hr h.1.1).1 (chk_ok a .keep X W N sc x ok hr h.1.2) (chk_ok b .keep X W N sc y ok hr h.2)
      | see =>
        simp only [Bool.and_eq_true] at h
        exact SE.sv (se_ite (chk_ok c .test X W N sc t ok hr h.1.1).1 (chk_ok a .keep X W N sc x ok hr h.1.2) (chk_ok b .keep X W N sc y ok hr h.2)) (fun i z => by cases z)
    · cases h
  | .tup as, m, X, W, N, sc, e, lk, ok, hr, h => by
    simp only [chk, Bool.and_eq_true] at h
    obtain ⟨h0, h⟩ := h
    split at h
    · rename_i es kk p
      rw [Bool.and_eq_true, decide_eq_true_eq] at h
      exact of_se ok.K h0 (fun i z => by cases z) (se_tup (chks_ok as .keep X W N sc es ok hr h.2).ses h.1)
    · cases h
  | .lst as, m, X, W, N, sc, e, lk, ok, hr, h => by
    simp only [chk, Bool.and_eq_true] at h
    obtain ⟨h0, h⟩ := h
    split at h
    · rename_i es p
      rw [Bool.and_eq_true, decide_eq_true_eq] at h
      exact of_sf ok.K h0 (fun i z => by cases z) (sf_lst (chks_ok as .keep X W N sc es ok hr h.2).ses h.1)
    · cases h
  | .dsp ks, m, X, W, N, sc, e, lk, ok, hr, h => by
    simp only [chk, Bool.and_eq_true] at h
    obtain ⟨h0, h⟩ := h
    split at h
    · rename_i kk vv p
      rw [Bool.or_eq_true] at h
      refine of_sf ok.K h0 (fun i z => by cases z) ?_
      rcases h with h | h
      · simp only [Bool.and_eq_true, decide_eq_true_eq, List.isEmpty_iff] at h
        obtain ⟨⟨rfl, rfl⟩, h⟩ := h
        cases ks with
        | nil => exact sf_dnew
        | cons _ _ _ => cases h
      · simp only [Bool.and_eq_true, decide_eq_true_eq, Bool.not_eq_true'] at h
        obtain ⟨⟨⟨⟨⟨h1, h2⟩, h3⟩, h4⟩, h5⟩, h6⟩ := h
        refine sf_dsp (chkD_ok ks X W N sc kk vv ok hr h6) h2 h3 (fun z => ?_) h4 h5
        subst z
        cases h1
    · cases h
  | .hnew c, m, X, W, N, sc, e, lk, ok, hr, h => by
    simp only [chk, Bool.and_eq_true] at h
    exact of_se ok.K h.1 (fun i z => by cases z) (se_hnew (chk_ok c .fresh X W N sc e ok hr h.2))
  | .call f as, m, X, W, N, sc, e, lk, ok, hr, h => by
    simp only [chk, Bool.and_eq_true] at h
    obtain ⟨h0, h⟩ := h
    split at h
    · rename_i x p2 es p
      simp only [Bool.and_eq_true, decide_eq_true_eq] at h
      obtain ⟨⟨⟨h1, h2⟩, h3⟩, h4⟩ := h
      obtain ⟨hf, hm⟩ := GO.gf _ _ h1
      have jl := chks_ok as .keep X W N sc es ok hr h4
      refine of_se ok.K h0 (fun i z => by cases z) ?_
      cases es with
      | nil =>
        cases as with
        | nil => exact se_call0 RO ok.toXOk OK (hr.mono (Nat.le_succ _)) hf (gl_of h2) hm (dbg_of h3).1
        | cons _ _ => exact jl.elim
      | cons a es =>
        have hs := jl.stars
        rw [List.all_cons, Bool.and_eq_true] at hs
        exact se_call RO ok.toXOk OK (hr.mono (Nat.le_succ _)) hf (gl_of h2) hm jl.ses (dbg_of h3).1 (star_of hs.1) (pl_of hs.2)
    · cases h
  | .meth i o as, m, X, W, N, sc, e, lk, ok, hr, h => by
    simp only [chk, Bool.and_eq_true] at h
    obtain ⟨h0, h⟩ := h
    split at h
    · rename_i a x apos es p
      simp only [Bool.and_eq_true, decide_eq_true_eq] at h
      obtain ⟨⟨⟨⟨⟨h1, h2⟩, h3⟩, h4⟩, h5⟩, h6⟩ := h
      have jo := chk_ok o .keep X W N sc a ok hr h5
      have jl := chks_ok as .keep X W N sc es ok hr h6
      have hs := jl.stars
      have ht := mcall_of (o := a) (m := x) (apos := apos) (pos := p) (es := es) (env := X.env) h2 hs (decide_eq_true h4) h3
      refine of_se ok.K h0 (fun i z => by cases z) ?_
      cases es with
      | nil =>
        cases as with
        | nil => exact se_meth0 RO ok.toXOk OK (hr.mono (Nat.le_succ _)) jo (by rw [GO.mn]; exact h1) ht
        | cons _ _ => exact jl.elim
      | cons y es =>
        rw [List.all_cons, Bool.and_eq_true] at hs
        exact se_meth RO ok.toXOk OK (hr.mono (Nat.le_succ _)) jo (by rw [GO.mn]; exact h1) jl.ses (star_of hs.1) (pl_of hs.2) ht
    · cases h
  | .make kk as, m, X, W, N, sc, e, lk, ok, hr, h => by
    simp only [chk, Bool.and_eq_true] at h
    obtain ⟨h0, h⟩ := h
    split at h
    · rename_i x p2 es p
      simp only [Bool.and_eq_true, decide_eq_true_eq] at h
      obtain ⟨⟨⟨h1, h2⟩, h3⟩, h4⟩ := h
      obtain ⟨hc, hm, hf, M⟩ := GO.gk _ _ h1
      have jl := chks_ok as .keep X W N sc es ok hr h4
      refine of_se ok.K h0 (fun i z => by cases z) ?_
      cases es with
      | nil =>
        cases as with
        | nil => exact se_make0 RO ok.toXOk OK hr hc hf M (gl_of h2) hm (dbg_of h3).1
        | cons _ _ => exact jl.elim
      | cons a es =>
        have hs := jl.stars
        rw [List.all_cons, Bool.and_eq_true] at hs
        exact se_make RO ok.toXOk OK hr hc hf M (gl_of h2) hm jl.ses (dbg_of h3).1 (star_of hs.1) (pl_of hs.2)
    · cases h
  | .attr o i, m, X, W, N, sc, e, lk, ok, hr, h => by
    simp only [chk, Bool.and_eq_true] at h
    obtain ⟨h0, h⟩ := h
    split at h
    · rename_i a x p
      simp only [Bool.and_eq_true, decide_eq_true_eq] at h
      obtain ⟨⟨⟨h1, h2⟩, h3⟩, h4⟩ := h
      exact of_se ok.K h0 (fun i z => by cases z) (se_attr RO ok.toXOk (chk_ok o .keep X W N sc a ok hr h4) (by rw [GO.na]; exact h1) (by rw [GO.an]; exact h2) (base_of h3))
    · cases h
  | .comp elt t ts s, m, X, W, N, sc, e, lk, ok, hr, h => by
    simp only [chk, Bool.and_eq_true] at h
    obtain ⟨h0, h⟩ := h
    split at h
    · rename_i x tg iter ifs scope p
      simp only [Bool.and_eq_true] at h
      obtain ⟨⟨⟨⟨⟨⟨⟨h1, h2⟩, h3⟩, h4⟩, h5⟩, h6⟩, h7⟩, h8⟩ := h
      have L : LcOk R W O X tg iter x ifs scope (ownOf N scope) s t ts elt := {
        hi := chkS_ok s X W N sc tg iter ok hr h6
        bo := by rw [ok.nm, ok.sc]; exact blkOk_by h1
        hg := fun s' H C cl fp => by
          have b := blk_ok (scope := scope) ok.toXOk s' H C cl fp
          exact chkG_ok b.K b.nm b.nd b.sc b.calm (fun x hx => hx) t tg h2
        ht := fun s' H C cl fp => chkTs_ok ts _ _ _ _ ifs (blk_q ok s' H C cl fp) hr h7
        he := fun s' H C cl fp => chk_ok elt .keep _ _ _ _ x (blk_q ok s' H C cl fp) hr h8
        o1 := fun j hj => of_decide_eq_true (List.all_eq_true.mp h3 j hj)
        o2 := fun j hj => of_decide_eq_true (List.all_eq_true.mp h4 j hj)
        hs := set_of h5 }
      exact of_sf ok.K h0 (fun i z => by cases z) (L.sf ok.toXOk)
    · cases h
  | .cons _ _, m, X, W, N, sc, e, lk, ok, hr, h => by simp only [chk] at h; cases h
  | .sum2 _ _, m, X, W, N, sc, e, lk, ok, hr, h => by simp only [chk] at h; cases h
  | .join _ _, m, X, W, N, sc, e, lk, ok, hr, h => by simp only [chk] at h; cases h
  | .dcomp _ _ _ _ _, m, X, W, N, sc, e, lk, ok, hr, h => by simp only [chk] at h; cases h
  | .anyg elt t ts s, m, X, W, N, sc, e, lk, ok, hr, h => by
    simp only [chk, Bool.and_eq_true] at h
    obtain ⟨⟨⟨h0, h1⟩, h2⟩, h3⟩ := h
    have q := chkQ_ok s X W N sc (anyIt e) ok hr h3
    refine of_se ok.K h0 (fun i z => by cases z) ?_
    exact any_glue GO ok.toXOk (hr.mono (Nat.le_succ _)) h1 h2 q
  | .allg _ _ _ _, m, X, W, N, sc, e, lk, ok, hr, h => by simp only [chk] at h; cases h
  | .lam _, m, X, W, N, sc, e, lk, ok, hr, h => by simp only [chk] at h; cases h
  | .call0 f, m, X, W, N, sc, e, lk, ok, hr, h => by
    simp only [chk, Bool.and_eq_true] at h
    obtain ⟨h0, h⟩ := h
    split at h
    · rename_i x p2 p
      simp only [Bool.and_eq_true, decide_eq_true_eq] at h
      obtain ⟨⟨h1, h2⟩, h3⟩ := h
      obtain ⟨hf, hm⟩ := GO.gf _ _ h1
      exact of_se ok.K h0 (fun i z => by cases z) (se_callE RO ok.toXOk OK (hr.mono (Nat.le_succ _)) hf (gl_of h2) hm (dbg_of h3).1)
    · cases h
  | .told c s e', m, X, W, N, sc, e, lk, ok, hr, h => by
    simp only [chk, Bool.and_eq_true] at h
    obtain ⟨⟨h0, h1⟩, h⟩ := h
    split at h
    · split at h
      · rename_i i x p1 ps b sp lp p3
        simp only [Bool.and_eq_true] at h
        obtain ⟨⟨⟨h2, h3⟩, h4⟩, h5⟩ := h
        obtain ⟨TD, hs⟩ := toldB_ok GO h2
        exact of_se ok.K h0 (fun i z => by cases z) (se_told1 (m := ⟨ps, b, sp⟩) ok.toXOk hr (ok.lf h1) TD hs (fun d => GO.xm d c) (gl_of h3) (dbg_of h4).1 (GO.lo _ _ h5))
      · cases h
    · cases h
  | .tolds i ks c s, m, X, W, N, sc, e, lk, ok, hr, h => by
    simp only [chk, Bool.and_eq_true] at h
    obtain ⟨⟨h0, h1⟩, h⟩ := h
    exact of_sf ok.K h0 (fun i z => by cases z) (tolds_ok GO ok.toXOk hr (ok.lf h1) h)
  | .mut _ _ _, m, X, W, N, sc, e, lk, ok, hr, h => by simp only [chk] at h; cases h
theorem chks_ok : ∀ (cs : CEs) (m : Md) (X : Cx) (W : WX) (N : List Str) (sc : Scope) (es : List Expr) {lk : Bool}, XQ R O k lk X W N sc → Room (k + 1) X.A → chks G lk cs m N sc es = true → JL m R W O X es cs
  | .nil, m, X, W, N, sc, es, lk, ok, hr, h => by
    simp only [chks, List.isEmpty_iff] at h
    subst h
    trivial
  | .cons c cs, m, X, W, N, sc, es, lk, ok, hr, h => by
    simp only [chks] at h
    split at h
    · rename_i e es
      simp only [Bool.and_eq_true] at h
      exact ⟨h.1.1, chk_ok c m X W N sc e ok hr h.1.2, chks_ok cs m X W N sc es ok hr h.2⟩
    · cases h
theorem chkTs_ok : ∀ (cs : CEs) (X : Cx) (W : WX) (N : List Str) (sc : Scope) (es : List Expr) {lk : Bool}, XQ R O k lk X W N sc → Room (k + 1) X.A → chkTs G lk cs N sc es = true → STs R W O X es cs
  | .nil, X, W, N, sc, es, lk, ok, hr, h => by
    simp only [chkTs, List.isEmpty_iff] at h
    subst h
    exact sts_nil
  | .cons c cs, X, W, N, sc, es, lk, ok, hr, h => by
    simp only [chkTs] at h
    split at h
    · rename_i e
      rw [Bool.and_eq_true, decide_eq_true_eq] at h
      cases cs with
      | nil => exact sts_one (chk_ok c .test X W N sc e ok hr h.1).1
      | cons _ _ => exact absurd h.2 (by simp [clen])
    · cases h
theorem chkD_ok : ∀ (ks : CKs) (X : Cx) (W : WX) (N : List Str) (sc : Scope) (kk : List (Option Expr)) (vv : List Expr) {p : Pos} {lk : Bool}, XQ R O k lk X W N sc → Room (k + 1) X.A → chkD G lk ks N sc kk vv = true → SPP R W O X p kk vv ks
  | .nil, X, W, N, sc, kk, vv, p, lk, ok, hr, h => by
    simp only [chkD, Bool.and_eq_true, List.isEmpty_iff] at h
    obtain ⟨rfl, rfl⟩ := h
    exact spp_nil
  | .cons ck cv r, X, W, N, sc, kk, vv, p, lk, ok, hr, h => by
    simp only [chkD] at h
    split at h
    · simp only [Bool.and_eq_true] at h
      exact spp_cons (chk_ok ck .keep X W N sc _ ok hr h.1.1) (chk_ok cv .keep X W N sc _ ok hr h.1.2) (chkD_ok r X W N sc _ _ ok hr h.2)
    · cases h
theorem chkQ_ok : ∀ (s : Src) (X : Cx) (W : WX) (N : List Str) (sc : Scope) (es : List Expr) {lk : Bool}, XQ R O k lk X W N sc → Room (k + 1) X.A → chkQ G lk s N sc es = true → JQ R W O X s es
  | .of c, X, W, N, sc, es, lk, ok, hr, h => by
    simp only [chkQ] at h
    split at h
    · exact chk_ok c .keep X W N sc _ ok hr h
    · cases h
  | .zip2 a b, X, W, N, sc, es, lk, ok, hr, h => by
    simp only [chkQ] at h
    split at h
    · rename_i e1 e2
      rw [Bool.and_eq_true] at h
      exact ⟨chkQ_ok a X W N sc [e1] ok hr h.1, chkQ_ok b X W N sc [e2] ok hr h.2⟩
    · cases h
  | .range _, X, W, N, sc, es, lk, ok, hr, h => by simp only [chkQ] at h; cases h
  | .enum _, X, W, N, sc, es, lk, ok, hr, h => by simp only [chkQ] at h; cases h
  | .zip3 _ _ _, X, W, N, sc, es, lk, ok, hr, h => by simp only [chkQ] at h; cases h
  | .items _, X, W, N, sc, es, lk, ok, hr, h => by simp only [chkQ] at h; cases h
  | .values _, X, W, N, sc, es, lk, ok, hr, h => by simp only [chkQ] at h; cases h
  | .gen _ _ _ _, X, W, N, sc, es, lk, ok, hr, h => by simp only [chkQ] at h; cases h
theorem chkS_ok : ∀ (s : Src) (X : Cx) (W : WX) (N : List Str) (sc : Scope) (tg e : Expr) {lk : Bool}, XQ R O k lk X W N sc → Room (k + 1) X.A → chkS G lk s N sc tg e = true → SI R W O X tg e s
  | .of c, X, W, N, sc, tg, e, lk, ok, hr, h => by
    simp only [chkS] at h
    exact si_of ok.K (chk_ok c .keep X W N sc e ok hr h)
  | .range as, X, W, N, sc, tg, e, lk, ok, hr, h => by
    simp only [chkS] at h
    split at h
    · rename_i x p2 es p
      simp only [Bool.and_eq_true, decide_eq_true_eq] at h
      obtain ⟨⟨⟨⟨h1, h2⟩, h3⟩, h4⟩, h5⟩ := h
      subst h1
      have jl := chks_ok as .see X W N sc es ok hr h5
      match es, h4, jl with
      | [a], _, jl =>
        have hs := jl.stars
        rw [List.all_cons, Bool.and_eq_true] at hs
        obtain ⟨ca, rfl, _, _⟩ := jl1 jl
        exact si_range1 ok.toXOk (gl_of h2) (GO.nb _ h3) jl.svs (star_of hs.1)
      | [a, b], _, jl =>
        have hs := jl.stars
        rw [List.all_cons, List.all_cons, Bool.and_eq_true, Bool.and_eq_true] at hs
        obtain ⟨ca, cb, rfl, _, _⟩ := jl2 jl
        exact si_range2 ok.toXOk (gl_of h2) (GO.nb _ h3) jl.svs (by rw [star_of hs.1, star_of hs.2.1]; rfl) (star_of hs.2.1)
    · cases h
  | .enum (.of c), X, W, N, sc, tg, e, lk, ok, hr, h => by
    simp only [chkS] at h
    split at h
    · rename_i x p2 a p
      simp only [Bool.and_eq_true, decide_eq_true_eq] at h
      obtain ⟨⟨⟨⟨h1, h2⟩, h3⟩, h4⟩, h5⟩ := h
      subst h1
      exact si_enum ok.toXOk (gl_of h2) (GO.nb _ h3) (chk_ok c .keep X W N sc a ok hr h5) (star_of h4)
    · cases h
  | .enum (.range _), X, W, N, sc, tg, e, lk, ok, hr, h => by simp only [chkS] at h; cases h
  | .enum (.enum _), X, W, N, sc, tg, e, lk, ok, hr, h => by simp only [chkS] at h; cases h
  | .enum (.zip2 _ _), X, W, N, sc, tg, e, lk, ok, hr, h => by simp only [chkS] at h; cases h
  | .enum (.zip3 _ _ _), X, W, N, sc, tg, e, lk, ok, hr, h => by simp only [chkS] at h; cases h
  | .enum (.items _), X, W, N, sc, tg, e, lk, ok, hr, h => by simp only [chkS] at h; cases h
  | .enum (.values _), X, W, N, sc, tg, e, lk, ok, hr, h => by simp only [chkS] at h; cases h
  | .enum (.gen _ _ _ _), X, W, N, sc, tg, e, lk, ok, hr, h => by simp only [chkS] at h; cases h
  | .zip2 _ _, X, W, N, sc, tg, e, lk, ok, hr, h => by simp only [chkS] at h; cases h
  | .zip3 _ _ _, X, W, N, sc, tg, e, lk, ok, hr, h => by simp only [chkS] at h; cases h
  | .items _, X, W, N, sc, tg, e, lk, ok, hr, h => by simp only [chkS] at h; cases h
  | .values _, X, W, N, sc, tg, e, lk, ok, hr, h => by simp only [chkS] at h; cases h
  | .gen _ _ _ _, X, W, N, sc, tg, e, lk, ok, hr, h => by simp only [chkS] at h; cases h
end
end
end Sd
end
section
set_option maxRecDepth 100000
set_option maxHeartbeats 8000000
/-! the check of statements -/
namespace Sd
open PySem PySem.Spec PyProof.Rows L2
open Ev (LV LO CE CEs Src Tg Tgs CKs CS CSs Prg Orc Slot SR)
def isName : Expr → Bool
  | .Name _ _ => true
  | _ => false
theorem swap_no {e t : Expr} {l : Nat} {env : Env} (h : isName t = false) : swapsWith e (some t) l env = pure false := by
  cases e <;> first | rfl | (cases t <;> first | rfl | cases h)
/-- are the stores swapped? none: a form that is not carried -/
def swB (sc : Scope) (ts vs : List Expr) : Option (Option (List Str)) :=
  if (!(ts.length == 2 || ts.length == 3) || vs.length != ts.length) = true then some none
  else if (vs.any fun | .Starred .. => true | _ => false) = true then some none
  else
    let names := ts.filterMap fun
      | .Name id pos => if (sc.names.lookup id == some .local && pos.line == (ts.head?.map (·.pos.line)).getD 0) = true then some id else none
      | _ => none
    if (names.length != ts.length || names.eraseDups.length != names.length) = true then some none
    else if (vs.all (foldedForSure 8)) = true then some none
    else if (vs.all (constantsAlone 8)) = true then none
    else some (some names)
theorem swapped_of {sc : Scope} {ts vs : List Expr} {r : Option (List Str)} {env : Env} {k1 k2 : Nat} {p1 p2 : Pos} (hs : env.scope = sc) (hb : env.blockKind = .function) (h : swB sc ts vs = some r) : swappedStores [.Tuple ts k1 p1] (.Tuple vs k2 p2) env = pure r := by
  subst hs
  unfold swB at h
  unfold swappedStores
  simp only [hb, bne_self_eq_false, Bool.or_false]
  have bf : ∀ {b : Bool}, ¬ b = true → b = false := fun {b} z => by cases b <;> first | rfl | exact absurd rfl z
  by_cases h1 : (!(ts.length == 2 || ts.length == 3) || vs.length != ts.length) = true
  · rw [if_pos h1] at h
    cases h
    simp only [h1, if_true]
  · rw [if_neg h1] at h
    simp only [bf h1, Bool.false_eq_true, if_false]
    by_cases h2 : (vs.any fun | .Starred .. => true | _ => false) = true
    · rw [if_pos h2] at h
      cases h
      exact if_pos h2
    · rw [if_neg h2] at h
      refine (if_neg h2).trans ?_
      dsimp only at h
      by_cases h3 : ((ts.filterMap fun
      | .Name id pos => if (env.scope.names.lookup id == some .local && pos.line == (ts.head?.map (·.pos.line)).getD 0) = true then some id else none
      | _ => none).length != ts.length || (ts.filterMap fun
      | .Name id pos => if (env.scope.names.lookup id == some .local && pos.line == (ts.head?.map (·.pos.line)).getD 0) = true then some id else none
      | _ => none).eraseDups.length != (ts.filterMap fun
      | .Name id pos => if (env.scope.names.lookup id == some .local && pos.line == (ts.head?.map (·.pos.line)).getD 0) = true then some id else none
      | _ => none).length) = true
      · rw [if_pos h3] at h
        cases h
        exact if_pos h3
      · rw [if_neg h3] at h
        refine (if_neg h3).trans ?_
        by_cases h4 : (vs.all (foldedForSure 8)) = true
        · rw [if_pos h4] at h
          cases h
          exact if_pos h4
        · rw [if_neg h4] at h
          refine (if_neg h4).trans ?_
          by_cases h5 : (vs.all (constantsAlone 8)) = true
          · rw [if_pos h5] at h; cases h
          · rw [if_neg h5] at h
            cases h
            exact if_neg h5
def sw0 (t v : Expr) : Bool := match t, v with
  | .Tuple _ _ _, .Tuple _ _ _ => false
  | .List _ _, .Tuple _ _ _ => false
  | _, _ => true
theorem sw0_of {t v : Expr} {env : Env} (h : sw0 t v = true) : swappedStores [t] v env = pure none := by
  cases t <;> first | rfl | (cases v <;> first | rfl | cases h)
/-- is a comprehension's list left under its name? -/
def swL (sc scope : Scope) (x : Str) (p lp : Pos) : Bool := (sc.names.lookup x == some .local) && (p.line == lp.line) && !(scope.names.any fun (n, k) => n == x && (k == .local || k == .cell))
theorem swL_of {elt : Expr} {gs : List Comprehension} {sc scope : Scope} {lp p : Pos} {x : Str} {l : Nat} {env : Env} (hs : env.scope = sc) (hb : env.blockKind = .function) : swapsWith (.ListComp elt gs scope lp) (some (.Name x p)) l env = pure (swL sc scope x p lp) := by
  subst hs
  unfold swapsWith swL
  simp only [hb, Expr.pos, Env.kindOf]
  rfl
end Sd
end
section
set_option maxRecDepth 100000
set_option maxHeartbeats 8000000
/-! the check of statements is sound -/
namespace Sd
open PySem PySem.Spec PyProof.Rows L2
open Ev (LV LO CE CEs Src Tg Tgs CKs CS CSs Prg Orc Slot SR)
def compC : CE → Bool
  | .comp _ _ _ _ => true
  | _ => false
def chkTG (G : Gs) (N : List Str) (sc : Scope) (t : Ev.TG) (e : Expr) : Bool := match t with
  | .nm i => (match e with | .Name x _ => decide (N[i]? = some x) && isLoc sc x | _ => false)
  | .tup t => chkG (fun _ => true) N sc t e
  | .idx o k => (match e with | .Subscript a b _ => plainIx b && chk G G.lk o .keep N sc a && chk G G.lk k .keep N sc b | _ => false)
  | .attr o i => (match e with | .Attribute a x _ => decide (i < G.na) && decide (x = G.an i) && chk G G.lk o .keep N sc a | _ => false)
  | _ => false
def chkTGs (G : Gs) (N : List Str) (sc : Scope) : Ev.TGs → List Expr → Bool
  | .nil, es => es.isEmpty
  | .cons t ts, es => (match es with | e :: es => noStar e && chkTG G N sc t e && chkTGs G N sc ts es | [] => false)
def augT (op : Operator) (o : Ev.Op) : Bool := match op, o with
  | .Add, .add => true
  | .Sub, .sub => true
  | _, _ => false
/-- a value for a name -/
def chkV (G : Gs) (N : List Str) (sc : Scope) (m : Md) (x : Str) (p : Pos) (e : CE) (v : Expr) : Bool := match v with
  | .ListComp _ _ scope lp => if swL sc scope x p lp = true then isLocal sc x && compC e && chk G G.lk e m N sc v else chk G G.lk e m N sc v
  | _ => noComp v && chk G G.lk e m N sc v
mutual
def chkC (G : Gs) (N : List Str) (sc : Scope) : CS → Stmt → Bool
  | .asg t e, s => (match s with
    | .Assign [tg] v _ => noStar tg && (match t with
      | .nm i => (match tg with | .Name x p => decide (N[i]? = some x) && isLoc sc x && chkV G N sc .keep x p e v | _ => false)
      | t => (!isName tg || noComp v) && sw0 tg v && chkTG G N sc t tg && chk G G.lk e .keep N sc v)
    | _ => false)
  | .asgo i e, s => (match s with
    | .Assign [.Name x p] v _ => decide (N[i]? = some x) && isLoc sc x && chkV G N sc .fresh x p e v
    | _ => false)
  | .par ts es, s => (match s with
    | .Assign [.Tuple tgs _ _] (.Tuple vs _ _) _ => chks G G.lk es .keep N sc vs && (match swB sc tgs vs with
      | none => false
      | some none => chkTGs G N sc ts tgs && decide (clen es = tgs.length) && decide (tgs.length ≤ Ev.SL)
      | some (some ns) => (match tgs, ts with
        | [.Name x _, .Name y _], .cons (.nm i) (.cons (.nm j) .nil) => decide (ns = [x, y]) && decide (N[i]? = some x) && decide (N[j]? = some y) && decide (i ≠ j) && isLocal sc x && isLocal sc y && decide (vs.length = 2)
        | [.Name x _, .Name y _, .Name z _], .cons (.nm i) (.cons (.nm j) (.cons (.nm l) .nil)) => decide (ns = [x, y, z]) && decide (N[i]? = some x) && decide (N[j]? = some y) && decide (N[l]? = some z) && decide (i ≠ j) && decide (i ≠ l) && decide (j ≠ l) && isLocal sc x && isLocal sc y && isLocal sc z && decide (vs.length = 3)
        | _, _ => false))
    | _ => false)
  | .augn i o e, s => (match s with
    | .AugAssign (.Name x _) op v _ => decide (N[i]? = some x) && isLoc sc x && augT op o && chk G G.lk e .see N sc v
    | _ => false)
  | .auga b a o e, s => (match s with
    | .AugAssign (.Attribute y x _) op v _ => decide (a < G.na) && decide (x = G.an a) && augT op o && chk G G.lk b .keep N sc y && chk G G.lk e .see N sc v
    | _ => false)
  | .expr e, s => (match s with | .Expr v _ => noComp v && chk G G.lk e .keep N sc v | _ => false)
  | .ret e, s => (match s with | .Return (some v) _ => chk G G.lk e .keep N sc v | _ => false)
  | .retn, s => (match s with | .Return none _ => true | _ => false)
  | .ife c a b, s => (match s with | .If t p q _ => chk G G.lk c .test N sc t && chkCs G N sc a p && chkCs G N sc b q | _ => false)
  | .for t src b, s => (match s with | .For tg iter body [] _ => chkG (fun _ => true) N sc t tg && noSet iter && chkS G G.lk src N sc tg iter && chkCs G N sc b body | _ => false)
  | .whl c b, s => (match s with | .While t body [] _ => chk G G.lk c .test N sc t && chkCs G N sc b body | _ => false)
  | .raise d, s => (match s with | .Raise (some (.Call (.Name x _) [.Constant (.str _) _ _] [] _)) none _ => decide (G.gx x = some d) && isGl sc x | _ => false)
  | .brk, s => (match s with | .Break _ => true | _ => false)
  | .lams i ks, s => (match s with | .Assign [.Name x _] (.List es _) _ => G.lk && decide (N[i]? = some x) && isLoc sc x && lamsB G ks es && decide (ks.length ≤ Ev.SL) | _ => false)
  | .lamx i ks, s => (match s with | .Assign [.Name x _] (.BinOp (.Name y _) .Add (.List es _) _) _ => G.lk && decide (y = x) && decide (N[i]? = some x) && isLoc sc x && isVis sc x && nodbg x && lamsB G ks es | _ => false)
  | .cnt, s => (match s with | .Continue _ => true | _ => false)
  | .pass, s => (match s with | .Pass _ => true | _ => false)
  | _, _ => false
def chkCs (G : Gs) (N : List Str) (sc : Scope) : CSs → List Stmt → Bool
  | .nil, ss => ss.isEmpty
  | .cons c cs, ss => (match ss with | s :: ss => chkC G N sc c s && chkCs G N sc cs ss | [] => false)
end
section
variable {R : Cn} {O : Orc} {G : Gs} {k : Nat}
variable (GO : GOk R G) (RO : ROk R) (OK : OOk R O k)
include GO RO OK
theorem comp_lc {X : Cx} {W : WX} {N : List Str} {sc scope : Scope} {elt : CE} {t : Tg} {ts : CEs} {s : Src} {m : Md} {x : Expr} {gs : List Comprehension} {p : Pos} {lk : Bool} (ok : XQ R O k lk X W N sc) (hr : Room (k + 1) X.A) (h : chk G lk (.comp elt t ts s) m N sc (.ListComp x gs scope p) = true) :
    ∃ tg iter ifs, gs = [⟨tg, iter, ifs, 0⟩] ∧ LcOk R W O X tg iter x ifs scope (ownOf N scope) s t ts elt := by
  simp only [chk, Bool.and_eq_true] at h
  obtain ⟨h0, h⟩ := h
  split at h
  · rename_i x' tg iter ifs scope' p' e
    cases e
    simp only [Bool.and_eq_true] at h
    obtain ⟨⟨⟨⟨⟨⟨⟨h1, h2⟩, h3⟩, h4⟩, h5⟩, h6⟩, h7⟩, h8⟩ := h
    exact ⟨tg, iter, ifs, rfl, {
      hi := chkS_ok GO RO OK s X W N sc tg iter ok hr h6
      bo := by rw [ok.nm, ok.sc]; exact blkOk_by h1
      hg := fun s' H C cl fp => by
        have b := blk_ok (scope := scope) ok.toXOk s' H C cl fp
        exact chkG_ok b.K b.nm b.nd b.sc b.calm (fun x hx => hx) t tg h2
      ht := fun s' H C cl fp => chkTs_ok GO RO OK ts _ _ _ _ ifs (blk_q ok s' H C cl fp) hr h7
      he := fun s' H C cl fp => chk_ok GO RO OK elt .keep _ _ _ _ x (blk_q ok s' H C cl fp) hr h8
      o1 := fun j hj => of_decide_eq_true (List.all_eq_true.mp h3 j hj)
      o2 := fun j hj => of_decide_eq_true (List.all_eq_true.mp h4 j hj)
      hs := set_of h5 }⟩
  · cases h
theorem chkTG_ok {X : Cx} {W : WX} {N : List Str} {sc : Scope} (ok : XS R X W N sc) (xf : G.lk = true → XLf R O k X) (hr : Room (k + 1) X.A) (t : Ev.TG) (e : Expr) (h : chkTG G N sc t e = true) : SGT R W O X e t := by
  unfold chkTG at h
  split at h
  · split at h
    · rename_i x p
      rw [Bool.and_eq_true, decide_eq_true_eq] at h
      exact sgt_nm (by rw [ok.nm]; exact ok.nd) (by rw [ok.nm]; exact h.1) (by rw [ok.sc]; exact loc_of h.2) (.inl (by rw [ok.fn]))
    · cases h
  · exact sgt_tup (chkG_ok ok.K ok.nm ok.nd ok.sc ok.calm (fun x _ => by rw [ok.fn]) _ _ h)
  · split at h
    · simp only [Bool.and_eq_true] at h
      exact sgt_idx ok.toXOk (chk_ok GO RO OK _ .keep X W N sc _ (XQ.mk ok.toXOk xf) hr h.1.2) (chk_ok GO RO OK _ .keep X W N sc _ (XQ.mk ok.toXOk xf) hr h.2) (sub_of h.1.1)
    · cases h
  · split at h
    · simp only [Bool.and_eq_true, decide_eq_true_eq] at h
      exact sgt_attr RO ok.toXOk (chk_ok GO RO OK _ .keep X W N sc _ (XQ.mk ok.toXOk xf) hr h.2) (by rw [GO.na]; exact h.1.1) (by rw [GO.an]; exact h.1.2)
    · cases h
  · cases h
theorem chkTGs_ok {X : Cx} {W : WX} {N : List Str} {sc : Scope} (ok : XS R X W N sc) (xf : G.lk = true → XLf R O k X) (hr : Room (k + 1) X.A) : ∀ (ts : Ev.TGs) (es : List Expr), chkTGs G N sc ts es = true → SGTs R W O X es ts ∧ (assignEach es X.env).findIdx? (·.1) = none ∧ (assignEach es X.env).length = es.length
  | .nil, es, h => by
    simp only [chkTGs, List.isEmpty_iff] at h
    subst h
    exact ⟨sgts_nil, rfl, rfl⟩
  | .cons t ts, es, h => by
    simp only [chkTGs] at h
    split at h
    · rename_i e es
      simp only [Bool.and_eq_true] at h
      obtain ⟨j, st, ln⟩ := chkTGs_ok ok xf hr ts es h.2
      have ea : assignEach (e :: es) X.env = (false, assign e X.env) :: assignEach es X.env := by
        have h0 := h.1.1
        cases e <;> first | rfl | cases h0
      refine ⟨sgts_cons (chkTG_ok GO RO OK ok xf hr t e h.1.2) j (by rw [ea]; rfl), ?_, by rw [ea, List.length_cons, ln]; rfl⟩
      rw [ea, List.findIdx?_cons]
      simp only [st]
      rfl
    · cases h
theorem aug_ok {X : Cx} {op : Operator} {o : Ev.Op} (h : augT op o = true) : IpOk X R op o := by
  unfold augT at h
  split at h
  · exact ip_ok_add
  · exact ip_ok_sub
  · cases h
theorem each_one {t : Expr} {env : Env} (h : noStar t = true) : (assignEach [t] env).map (·.2) = [assign t env] := by
  cases t <;> first | rfl | cases h
mutual
theorem chkC_ok {X : Cx} {W : WX} {N : List Str} {sc : Scope} (ok : XS R X W N sc) (xf : G.lk = true → XLf R O k X) (hr : Room (k + 1) X.A) (hb : X.env.blockKind = .function) : ∀ (c : CS) (s : Stmt), chkC G N sc c s = true → SS R W O X s c
  | .asg t e, s, h => by
    simp only [chkC] at h
    split at h
    · rename_i tg v pos
      rw [Bool.and_eq_true] at h
      obtain ⟨hst, h⟩ := h
      have general : ∀ {t : Ev.TG}, ((!isName tg || noComp v) && sw0 tg v && chkTG G N sc t tg && chk G G.lk e .keep N sc v) = true → SS R W O X (.Assign [tg] v pos) (.asg t e) := fun {t} h => by
        simp only [Bool.and_eq_true, Bool.or_eq_true, Bool.not_eq_true'] at h
        obtain ⟨⟨⟨h1, h2⟩, h3⟩, h4⟩ := h
        have sw : swapsWithSole [tg] v pos.line X.env = pure false := by
          rcases h1 with h1 | h1
          · exact swap_no h1
          · exact sole_of h1
        exact s_asg (chk_ok GO RO OK e .keep X W N sc v (XQ.mk ok.toXOk xf) hr h4) (chkTG_ok GO RO OK ok xf hr t tg h3) sw (sw0_of h2) (each_one GO RO OK hst)
      cases t with
      | nm i =>
        simp only at h
        split at h
        · rename_i x p
          simp only [Bool.and_eq_true, decide_eq_true_eq] at h
          obtain ⟨⟨h1, h2⟩, h3⟩ := h
          unfold chkV at h3
          split at h3
          · rename_i x' gs scope lp
            have sl := swL_of (elt := x') (gs := gs) (scope := scope) (lp := lp) (p := p) (x := x) (l := pos.line) ok.sc hb
            split at h3
            · rename_i hw
              simp only [Bool.and_eq_true] at h3
              obtain ⟨⟨g1, g2⟩, g3⟩ := h3
              cases e <;> first | (cases g2; done) | skip
              obtain ⟨tg, iter, ifs, rfl, LC⟩ := comp_lc GO RO OK (XQ.mk ok.toXOk xf) hr g3
              exact s_asgLc LC ok h1 (local_of g1) (by rw [sl, hw])
            · rename_i hw
              exact s_asgn ok h1 (loc_of h2) (chk_ok GO RO OK e .keep X W N sc _ (XQ.mk ok.toXOk xf) hr h3) (by rw [sl, show swL sc scope x p lp = false by simpa using hw])
          · rw [Bool.and_eq_true] at h3
            exact s_asgn ok h1 (loc_of h2) (chk_ok GO RO OK e .keep X W N sc _ (XQ.mk ok.toXOk xf) hr h3.2) (swap_of h3.1)
        · cases h
      | tup t => exact general h
      | idx o k => exact general h
      | attr o i => exact general h
      | oidx _ _ => exact general h
      | own _ => exact general h
    · cases h
  | .asgo i e, s, h => by
    simp only [chkC] at h
    split at h
    · rename_i x p v pos
      simp only [Bool.and_eq_true, decide_eq_true_eq] at h
      obtain ⟨⟨h1, h2⟩, h3⟩ := h
      unfold chkV at h3
      split at h3
      · rename_i x' gs scope lp
        have sl := swL_of (elt := x') (gs := gs) (scope := scope) (lp := lp) (p := p) (x := x) (l := pos.line) ok.sc hb
        split at h3
        · rename_i hw
          simp only [Bool.and_eq_true] at h3
          obtain ⟨⟨g1, g2⟩, g3⟩ := h3
          cases e <;> first | (cases g2; done) | skip
          obtain ⟨tg, iter, ifs, rfl, LC⟩ := comp_lc GO RO OK (XQ.mk ok.toXOk xf) hr g3
          exact s_asgoLc LC ok h1 (local_of g1) (by rw [sl, hw])
        · rename_i hw
          exact s_asgo ok h1 (loc_of h2) (chk_ok GO RO OK e .fresh X W N sc _ (XQ.mk ok.toXOk xf) hr h3) (by rw [sl, show swL sc scope x p lp = false by simpa using hw])
      · rw [Bool.and_eq_true] at h3
        exact s_asgo ok h1 (loc_of h2) (chk_ok GO RO OK e .fresh X W N sc _ (XQ.mk ok.toXOk xf) hr h3.2) (swap_of h3.1)
    · cases h
  | .par ts es, s, h => by
    simp only [chkC] at h
    split at h
    · rename_i tgs kt pt vs k2 pt2 pos
      rw [Bool.and_eq_true] at h
      obtain ⟨h1, h⟩ := h
      have jl := chks_ok GO RO OK es .keep X W N sc vs (XQ.mk ok.toXOk xf) hr h1
      split at h
      · cases h
      · rename_i hw
        simp only [Bool.and_eq_true, decide_eq_true_eq] at h
        obtain ⟨j, st, ln⟩ := chkTGs_ok GO RO OK ok xf hr ts tgs h.1.1
        exact s_parT ok jl.ses j h.1.2 h.2 ln st (sole_of rfl) (swapped_of ok.sc hb hw) rfl
      · rename_i ns hw
        split at h
        · rename_i x px y py i j
          simp only [Bool.and_eq_true, decide_eq_true_eq] at h
          obtain ⟨⟨⟨⟨⟨⟨h2, h3⟩, h4⟩, h5⟩, h6⟩, h7⟩, h8⟩ := h
          subst h2
          match vs, h8, jl, hw with
          | [a, b], _, jl, hw =>
            obtain ⟨ca, cb, rfl, _, _⟩ := jl2 jl
            exact s_par2 ok h3 h4 h5 (local_of h6) (local_of h7) jl.ses (swapped_of ok.sc hb hw) (sole_of rfl)
        · rename_i x px y py z pz i j l
          simp only [Bool.and_eq_true, decide_eq_true_eq] at h
          obtain ⟨⟨⟨⟨⟨⟨⟨⟨⟨⟨h2, h3⟩, h4⟩, h5⟩, h6⟩, h7⟩, h8⟩, h9⟩, h10⟩, h11⟩, h12⟩ := h
          subst h2
          match vs, h12, jl, hw with
          | [a, b, d], _, jl, hw =>
            cases es with
            | nil => exact jl.elim
            | cons c1 es =>
              obtain ⟨ca, cb, e2, _, _⟩ := jl2 jl.2.2
              subst e2
              exact s_par3 ok h3 h4 h5 h6 h7 h8 (local_of h9) (local_of h10) (local_of h11) jl.ses (swapped_of ok.sc hb hw) (sole_of rfl)
        · cases h
    · cases h
  | .augn i o e, s, h => by
    simp only [chkC] at h
    split at h
    · simp only [Bool.and_eq_true, decide_eq_true_eq] at h
      exact s_augn ok h.1.1.1 (loc_of h.1.1.2) (chk_ok GO RO OK e .see X W N sc _ (XQ.mk ok.toXOk xf) hr h.2) (aug_ok GO RO OK h.1.2)
    · cases h
  | .auga b a o e, s, h => by
    simp only [chkC] at h
    split at h
    · simp only [Bool.and_eq_true, decide_eq_true_eq] at h
      exact s_auga RO ok (chk_ok GO RO OK b .keep X W N sc _ (XQ.mk ok.toXOk xf) hr h.1.2) (chk_ok GO RO OK e .see X W N sc _ (XQ.mk ok.toXOk xf) hr h.2) (by rw [GO.na]; exact h.1.1.1.1) (by rw [GO.an]; exact h.1.1.1.2) (aug_ok GO RO OK h.1.1.2)
    · cases h
  | .expr e, s, h => by
    simp only [chkC] at h
    split at h
    · rw [Bool.and_eq_true] at h
      exact s_expr (chk_ok GO RO OK e .keep X W N sc _ (XQ.mk ok.toXOk xf) hr h.2) (swap_of h.1)
    · cases h
  | .ret e, s, h => by
    simp only [chkC] at h
    split at h
    · exact s_ret (chk_ok GO RO OK e .keep X W N sc _ (XQ.mk ok.toXOk xf) hr h)
    · cases h
  | .retn, s, h => by
    simp only [chkC] at h
    split at h
    · exact s_retn
    · cases h
  | .ife c a b, s, h => by
    simp only [chkC] at h
    split at h
    · simp only [Bool.and_eq_true] at h
      exact s_if (chk_ok GO RO OK c .test X W N sc _ (XQ.mk ok.toXOk xf) hr h.1.1).1 (chkCs_ok ok xf hr hb a _ h.1.2) (chkCs_ok ok xf hr hb b _ h.2)
    · cases h
  | .for t src b, s, h => by
    simp only [chkC] at h
    split at h
    · simp only [Bool.and_eq_true] at h
      exact s_for ok (chkS_ok GO RO OK src X W N sc _ _ (XQ.mk ok.toXOk xf) hr h.1.2) (chkG_ok ok.K ok.nm ok.nd ok.sc ok.calm (fun x _ => by rw [ok.fn]) t _ h.1.1.1) (chkCs_ok ok xf hr hb b _ h.2) (set_of h.1.1.2)
    · cases h
  | .whl c b, s, h => by
    simp only [chkC] at h
    split at h
    · simp only [Bool.and_eq_true] at h
      exact s_while ok (chk_ok GO RO OK c .test X W N sc _ (XQ.mk ok.toXOk xf) hr h.1).1 (chkCs_ok ok xf hr hb b _ h.2)
    · cases h
  | .raise d, s, h => by
    simp only [chkC] at h
    split at h
    · simp only [Bool.and_eq_true, decide_eq_true_eq] at h
      exact s_raise ok.toXOk (GO.gx _ _ h.1 X W N sc ok.toXOk (gl_of h.2) _ _ _ _ _)
    · cases h
  | .brk, s, h => by
    simp only [chkC] at h
    split at h
    · exact s_break
    · cases h
  | .cnt, s, h => by
    simp only [chkC] at h
    split at h
    · exact s_continue
    · cases h
  | .pass, s, h => by
    simp only [chkC] at h
    split at h
    · exact s_pass
    · cases h
  | .lams i ks, s, h => by
    simp only [chkC] at h
    split at h
    · simp only [Bool.and_eq_true, decide_eq_true_eq] at h
      obtain ⟨⟨⟨⟨h1, h2⟩, h3⟩, h4⟩, h5⟩ := h
      exact s_lams ok (GO.lk h1) h2 (loc_of h3) (lamsB_ok GO h4) h5
    · cases h
  | .lamx i ks, s, h => by
    simp only [chkC] at h
    split at h
    · simp only [Bool.and_eq_true, decide_eq_true_eq] at h
      obtain ⟨⟨⟨⟨⟨⟨h1, rfl⟩, h2⟩, h3⟩, h4⟩, h5⟩, h6⟩ := h
      exact s_lamx ok (GO.lk h1) h2 (loc_of h3) (vis_of h4) (dbg_of h5).1 (dbg_of h5).2.1 (lamsB_ok GO h6)
    · cases h
  | .augi _ _ _ _, s, h => by simp only [chkC] at h; cases h
  | .augoi _ _ _ _, s, h => by simp only [chkC] at h; cases h
  | .omut _ _ _, s, h => by simp only [chkC] at h; cases h
  | .popo _ _ _, s, h => by simp only [chkC] at h; cases h
  | .mv _ _, s, h => by simp only [chkC] at h; cases h
  | .reto _, s, h => by simp only [chkC] at h; cases h
  | .try _ _ _, s, h => by simp only [chkC] at h; cases h
  | .del _ _, s, h => by simp only [chkC] at h; cases h
  | .delo _ _, s, h => by simp only [chkC] at h; cases h
theorem chkCs_ok {X : Cx} {W : WX} {N : List Str} {sc : Scope} (ok : XS R X W N sc) (xf : G.lk = true → XLf R O k X) (hr : Room (k + 1) X.A) (hb : X.env.blockKind = .function) : ∀ (cs : CSs) (ss : List Stmt), chkCs G N sc cs ss = true → SSs R W O X ss cs
  | .nil, ss, h => by
    simp only [chkCs, List.isEmpty_iff] at h
    subst h
    exact ss_nil
  | .cons c cs, ss, h => by
    simp only [chkCs] at h
    split at h
    · rw [Bool.and_eq_true] at h
      exact ss_cons (chkC_ok ok xf hr hb c _ h.1) (chkCs_ok ok xf hr hb cs _ h.2)
    · cases h
end
end
end Sd
end
section
set_option maxRecDepth 100000
set_option maxHeartbeats 4000000
/-! a law's program as a table; what the head tells of it -/
namespace Sd
open PySem PySem.Spec PyProof.Rows L2
open Ev (LV LO CE CEs Src Tg Tgs CKs CS CSs Prg Orc Slot SR)
structure FR where
  at_ : Str × Option Str
  name : Str
  qual : Str
  st : Stmt
  N : List Str
  ps : List Str
structure Tb where
  fr : List FR
  cn : List Str
  ins : List Nat
  exn : List Nat
  an : List Str
  mn : List Str
  gi : List (Str × Int)
  gf : List (Str × Nat)
  gk : List (Str × Nat)
  gx : List (Str × Nat)
  nb : List Str
  ml : List (Nat × Nat × Nat)
  gn : List Nat := []
  ln : List Nat := []
  dd : List Nat := []
  tw : List (Str × Nat × Str × Nat × List Nat) := []
  sb : List (Nat × Nat) := []
def Tb.c (T : Tb) (i : Nat) : Str := T.cn.getD i ""
def Tb.a (T : Tb) (i : Nat) : Str := T.an.getD i ""
def Tb.m (T : Tb) (i : Nat) : Str := T.mn.getD i ""
def fr0 : FR := ⟨("", none), "", "", .Pass ⟨0, 0, 0, 0⟩, [], []⟩
def Tb.f (T : Tb) (i : Nat) : FR := T.fr.getD i fr0
def Tb.meth (T : Tb) (c m : Nat) : Nat := ((T.ml.find? fun r => r.1 == c && r.2.1 == m).map (·.2.2)).getD 9999
def Tb.fa (T : Tb) : List He.Fa := T.cn.map .glo ++ (T.gf.map fun p => .glo p.1) ++ T.nb.map .free ++ (T.gi.map fun p => .int p.1 p.2) ++ (T.ins.map fun c => .cls (T.c c)) ++ (T.ins.flatMap fun c => T.an.map fun a => .noat (T.c c) a) ++ (T.ml.map fun r => .meth (T.c r.1) (T.m r.2.1)) ++ (T.ins.map fun c => .mkr (T.c c)) ++ (T.exn.map fun c => .exc (T.c c)) ++ (T.sb.map fun p => .exm (T.c p.1) (T.c p.2) true)
def Tb.fn (T : Tb) : List He.DefD := T.fr.map fun d => ⟨d.at_, d.name, d.qual, defArgs d.st, defBody d.st, defScope d.st, [], []⟩
def fdOf (K : PySem.W.Frag) (a : Addr) : FuncData := match K.lookup a with
  | some ⟨_, _, .func fd, _⟩ => fd
  | _ => PySem.W.fnOf "" "" (defArgs (.Pass ⟨0, 0, 0, 0⟩)) [] (defScope (.Pass ⟨0, 0, 0, 0⟩)) .none .none .none .none none .none .none
/-- no parameters -/
def noArgs (a : Arguments) : Bool := match a with
  | ⟨[], [], none, [], [], none, []⟩ => true
  | _ => false
/-- a lambda's text against its code -/
def lmB (G : Gs) (N : List Str) (sc : Scope) (c : CE) (m : LmI) : Bool := noArgs m.params && LamX.lamSB sc m.scope && chk G false c .keep N m.scope m.body
theorem lmB_T {G : Gs} {N : List Str} {sc : Scope} {c : CE} {m : LmI} (h : lmB G N sc c m = true) : LamT sc m := by
  unfold lmB at h
  rw [Bool.and_eq_true, Bool.and_eq_true] at h
  obtain ⟨⟨h1, h2⟩, _⟩ := h
  obtain ⟨ps, b, sp⟩ := m
  simp only [noArgs] at h1
  split at h1
  · exact ⟨fun _ => rfl, LamX.lamS_by h2, fun _ _ _ _ _ => rfl⟩
  · cases h1
def deadB : CSs → Bool
  | .cons .brk .nil => true
  | _ => false
def Tb.G (T : Tb) : Gs where
  gc := fun x => (T.gi.lookup x).map .int
  gf := fun x => T.gf.lookup x
  gk := fun x => T.gk.lookup x
  gx := fun x => T.gx.lookup x
  nb := fun x => T.nb.contains x
  an := T.a
  mn := T.m
  na := T.an.length
  tb := false
  lk := false
  lo := fun _ _ => false
  told := fun x => (T.tw.lookup x).map fun p => (p.2.2.1, p.2.2.2)
/-- within the def f -/
def Tb.Gf (T : Tb) (pr : Prg) (f : Nat) : Gs := { T.G with tb := T.gn.contains f, lk := T.ln.contains f, lo := fun i m => T.ln.contains f && lmB T.G (T.f f).N (defScope (T.f f).st) (pr.lam i) m }
def Tb.ok (T : Tb) (pr : Prg) (f : Nat) (N : List Str) (sc : Scope) (c : CSs) (b : List Stmt) : Bool := if T.dd.contains f then deadB c else chkCs (T.Gf pr f) N sc c b
/-- the def that tells: its shape -/
def toldShape (b : List Stmt) (a e ret : Str) : Bool := match b with
  | [.Try [.Return (some (.Call (.Name a' _) [] [] _)) _] [.ExceptHandler (some (.Name e' _)) none [.Return (some (.Constant (.str r) _ _)) _] _] [] [] _] => decide (a' = a) && decide (e' = e) && decide (r = ret)
  | _ => false
def mkR (T : Tb) (pr : Prg) (P : Program) (w : World) (K : PySem.W.Frag) (mg : Str → Option Value) : Cn where
  K := K
  P := P
  w := w
  mg := mg
  pr := pr
  cl := fun c => He.ga K (T.c c)
  an := T.a
  mn := T.m
  fi := fun f => ⟨He.fAd K (T.f f).at_, fdOf K (He.fAd K (T.f f).at_), (T.f f).ps⟩
  na := T.an.length
  ic := fun c => T.ins.contains c
  tl := T.ln.map fun f => ((He.cT K (T.f f).at_).2, ((T.f f).qual ++ ".<locals>.") ++ "<lambda>")
  tg := T.gn.map fun f => (He.cT K (T.f f).at_).2
  cs := (T.gn ++ T.ln).map fun f => He.cT K (T.f f).at_
  kd := fun f => if T.gn.contains f then 1 else if T.ln.contains f then 2 else 0
  tb := false
  cc := .none
  lk := false
  lq := ""
  lc := []
  lo := fun _ _ => False
  lw := fun f i m => lmB T.G (T.f f).N (defScope (T.f f).st) (pr.lam i) m = true
def toldRow (T : Tb) (p : Str × Nat × Str × Nat × List Nat) : Bool := decide (p.2.1 < T.fr.length) && decide (T.gf.lookup p.1 = some p.2.1) && decide ((T.f p.2.1).at_ = (p.1, none)) && decide ((T.f p.2.1).name = p.1) && decide ((T.f p.2.1).qual = p.1) && decide ((T.f p.2.1).ps = [p.2.2.1]) &&
  toldShape (defBody (T.f p.2.1).st) p.2.2.1 (T.c p.2.2.2.1) (st p.2.2.2.2) && isVis (defScope (T.f p.2.1).st) p.2.2.1 && nodbg p.2.2.1 && isGl (defScope (T.f p.2.1).st) (T.c p.2.2.2.1) && decide (T.c p.2.2.2.1 ∈ T.cn) && nodbg (T.c p.2.2.2.1) && okSb p.2.2.2.2
def scB (N ps : List Str) (sc : Scope) : Bool := (match sc.kind with | .function => true | _ => false) && !sc.isCoroutine && !sc.isGenerator && decide N.Nodup && decide (N.take ps.length = ps) && ps.all (fun x => isLoc sc x) && sc.names.all fun y => decide (y.2 ≠ .free)
theorem sc_of {N ps : List Str} {sc : Scope} (h : scB N ps sc = true) : FnScope N ps sc := by
  unfold scB at h
  simp only [Bool.and_eq_true, Bool.not_eq_true', decide_eq_true_eq, List.all_eq_true] at h
  obtain ⟨⟨⟨⟨⟨⟨h1, h2⟩, h3⟩, h4⟩, h5⟩, h6⟩, h7⟩ := h
  refine ⟨?_, h2, h3, h4, h5, fun x hx => ?_, h7⟩
  · split at h1
    · assumption
    · cases h1
  · exact loc_of (h6 x hx)
def dropDoc : List Stmt → List Stmt
  | .Expr (.Constant (.str _) _ _) _ :: r => r
  | r => r
theorem doc_of {R : Cn} {W : WX} {O : Orc} {X : Cx} {b : List Stmt} {c : CSs} (h : SSs R W O X (dropDoc b) c) : SSs R W O X b c := by
  unfold dropDoc at h
  split at h
  · exact pss_imp (pss_cons ps_doc h) fun D σ H t => t
  · exact h
/-- what is checked of the table -/
structure TOk (T : Tb) (pr : Prg) : Prop where
  nf : pr.nf = T.fr.length
  meth : ∀ c m, pr.meth c m = T.meth c m
  big : T.fr.length ≤ 9999
  np : (List.range T.fr.length).all (fun f => decide ((pr.fn f).np = (T.f f).ps.length) && decide ((pr.fn f).ns = (T.f f).N.length)) = true
  sc : (List.range T.fr.length).all (fun f => scB (T.f f).N (T.f f).ps (defScope (T.f f).st)) = true
  body : ∀ f, f < T.fr.length → T.ok pr f (T.f f).N (defScope (T.f f).st) (pr.fn f).body (dropDoc (defBody (T.f f).st)) = true
  binds : ∀ f, f < T.fr.length → ∀ (kV doc pm : Value) (an : Option Addr) (cdv ct : Value) (us : List Value), us.length = (T.f f).ps.length →
    bindArgs (PySem.W.fnOf (T.f f).name (T.f f).qual (defArgs (T.f f).st) (defBody (T.f f).st) (defScope (T.f f).st) .none kV doc pm an cdv ct) ⟨us, []⟩ = pure ((T.f f).ps.zip us)
  an : T.an.Nodup
  amn : T.mn.all (fun m => !T.an.contains m) = true
  ae : T.an.contains ("" : Str) = false
  ml : T.ml.all (fun r => decide (r.2.2 < T.fr.length) && decide ((T.f r.2.2).at_ = (T.c r.1, some (T.m r.2.1)))) = true
  gf : T.gf.all (fun p => decide (p.2 < T.fr.length) && decide ((T.f p.2).at_ = (p.1, none))) = true
  gk : T.gk.all (fun p => T.ins.contains p.2 && decide (T.c p.2 = p.1) && decide (p.1 ∈ T.cn) && decide (T.meth p.2 0 < T.fr.length)) = true
  m0 : T.m 0 = "__init__"
  gx : T.gx.all (fun p => T.exn.contains p.2 && decide (T.c p.2 = p.1) && decide (p.1 ∈ T.cn) && nodbg p.1) = true
  sb : ∀ d c, pr.sub d c = true → (d, c) ∈ T.sb
  tw : T.tw.all (fun p => toldRow T p) = true
section
variable {T : Tb} {pr : Prg} {P : Program} {w : World} {K : PySem.W.Frag} {mg : Str → Option Value} {base : Heap}
theorem says_mem {fa : List He.Fa} {fn : List He.DefD} (c : He.SaysD fa fn K) {f : He.Fa} (h : f ∈ fa) : f.ok K = true := by
  obtain ⟨i, hi⟩ := List.getElem?_of_mem h
  exact c.fact i hi
theorem getD_mem {α : Type} {l : List α} {i : Nat} {d : α} (h : i < l.length) : l.getD i d ∈ l := by
  rw [List.getD_eq_getElem?_getD, List.getElem?_eq_getElem h]
  exact List.getElem_mem h
theorem lookup_mem {α : Type} {l : List (Str × α)} {x : Str} {v : α} (h : l.lookup x = some v) : (x, v) ∈ l := PySem.mem_of_lookup h
theorem meth_row {c m : Nat} (h : T.meth c m < 9999) : ∃ r ∈ T.ml, r.1 = c ∧ r.2.1 = m ∧ r.2.2 = T.meth c m := by
  unfold Tb.meth at h ⊢
  cases e : T.ml.find? fun r => r.1 == c && r.2.1 == m with
  | none => rw [e] at h; exact absurd h (by decide)
  | some r =>
    have h2 := List.find?_some e
    simp only [Bool.and_eq_true, beq_iff_eq] at h2
    exact ⟨r, List.mem_of_find?_eq_some e, h2.1, h2.2, rfl⟩
theorem nodup_inj {g : Nat → Addr} : ∀ {l : List Nat}, (l.map g).Nodup → ∀ a ∈ l, ∀ b ∈ l, g a = g b → a = b
  | [], _, a, ha, _, _, _ => absurd ha (by simp)
  | x :: l, h, a, ha, b, hb, e => by
    rw [List.map_cons, List.nodup_cons] at h
    rcases List.mem_cons.mp ha with rfl | ha'
    · rcases List.mem_cons.mp hb with rfl | hb'
      · rfl
      · exact absurd (List.mem_map.mpr ⟨b, hb', e.symm⟩) h.1
    · rcases List.mem_cons.mp hb with rfl | hb'
      · exact absurd (List.mem_map.mpr ⟨a, ha', e⟩) h.1
      · exact nodup_inj h.2 a ha' b hb' e
variable (TO : TOk T pr) (X : K.In base) (G : base.Ns mainGlobals mg) (c : He.SaysD T.fa T.fn K)
include TO X G c
theorem def_at {f : Nat} (hf : f < T.fr.length) : FunD K (T.f f).name (T.f f).qual (defArgs (T.f f).st) (defBody (T.f f).st) (defScope (T.f f).st) [] [] (He.fAd K (T.f f).at_) (fdOf K (He.fAd K (T.f f).at_)) := by
  have hi : T.fn[f]? = some ⟨(T.f f).at_, (T.f f).name, (T.f f).qual, defArgs (T.f f).st, defBody (T.f f).st, defScope (T.f f).st, [], []⟩ := by
    unfold Tb.fn
    rw [List.getElem?_map, List.getElem?_eq_getElem hf]
    unfold Tb.f
    rw [List.getD_eq_getElem?_getD, List.getElem?_eq_getElem hf]
    rfl
  obtain ⟨fd, F⟩ := c.def_ f hi
  have F' : FunD K (T.f f).name (T.f f).qual (defArgs (T.f f).st) (defBody (T.f f).st) (defScope (T.f f).st) [] [] (He.fAd K (T.f f).at_) fd := F
  obtain ⟨oc, od, dV, kV, doc, pm, an, cdv, ct, osl, e, lk, r⟩ := F'.ex
  have : fdOf K (He.fAd K (T.f f).at_) = fd := by
    unfold fdOf
    rw [lk]
  rw [this]
  exact F'
theorem rok : ROk (mkR T pr P w K mg) where
  inj := fun a b ha hb e => by
    have ha : a < T.an.length := ha
    have hb : b < T.an.length := hb
    have e : T.a a = T.a b := e
    unfold Tb.a at e
    rw [List.getD_eq_getElem?_getD, List.getD_eq_getElem?_getD, List.getElem?_eq_getElem ha, List.getElem?_eq_getElem hb] at e
    exact (List.getElem_inj TO.an).mp e
  cls := fun i hi => He.cls_ok (says_mem c (by
    have hi : i ∈ T.ins := by simpa [mkR] using hi
    unfold Tb.fa
    simp only [List.mem_append, List.mem_map]
    exact .inl (.inl (.inl (.inl (.inl (.inr ⟨i, hi, rfl⟩)))))))
  noa := fun i a hi ha => He.noat_ok (says_mem c (by
    have hi : i ∈ T.ins := by simpa [mkR] using hi
    unfold Tb.fa
    simp only [List.mem_append, List.mem_map, List.mem_flatMap]
    exact .inl (.inl (.inl (.inl (.inr ⟨i, hi, T.a a, getD_mem ha, rfl⟩))))))
  mna := fun a m ha e => by
    have e : T.a a = T.m m := e
    have h1 : T.a a ∈ T.an := getD_mem ha
    by_cases hm : m < T.mn.length
    · have h2 : T.m m ∈ T.mn := getD_mem hm
      have h3 := List.all_eq_true.mp TO.amn _ h2
      rw [← e] at h3
      simp at h3
      exact h3 h1
    · have : T.m m = "" := by
        unfold Tb.m
        rw [List.getD_eq_getElem?_getD, List.getElem?_eq_none (Nat.le_of_not_lt hm)]
        rfl
      rw [this] at e
      have h4 := TO.ae
      rw [← e] at h4
      simp at h4
      exact h4 h1
  meth := fun i m hi hm => by
    have hm : pr.meth i m < pr.nf := hm
    rw [TO.meth, TO.nf] at hm
    obtain ⟨r, hr, e1, e2, e3⟩ := meth_row (T := T) (c := i) (m := m) (Nat.lt_of_lt_of_le hm TO.big)
    have h1 := List.all_eq_true.mp TO.ml r hr
    rw [Bool.and_eq_true, decide_eq_true_eq, decide_eq_true_eq] at h1
    have mk := He.meth_ok (K := K) (says_mem c (f := .meth (T.c r.1) (T.m r.2.1)) (by
      unfold Tb.fa
      simp only [List.mem_append, List.mem_map]
      exact .inl (.inl (.inl (.inr ⟨r, hr, rfl⟩)))))
    show L2.Meth K (He.ga K (T.c i)) (T.m m) (He.fAd K (T.f (pr.meth i m)).at_)
    rw [TO.meth, ← e3, h1.2, ← e1, ← e2]
    exact mk
  binds := fun f hf => by
    have hf : f < T.fr.length := by rw [← TO.nf]; exact hf
    have F := def_at TO X G c hf
    intro s us k hl
    have b := FunD.bindsA (ps := (T.f f).ps) F (TO.binds f hf)
    have hl' : us.length = (T.f f).ps.length := by rw [List.append_nil] at hl; exact hl
    rw [List.append_nil]
    exact b s us hl'
  keep := fun f hf => by
    have hf : f < T.fr.length := by rw [← TO.nf]; exact hf
    exact (def_at TO X G c hf).kp
theorem told_def {x : Str} {c0 : Nat} {s : List Nat} (h : T.G.told x = some (c0, s)) (tb lk : Bool) (cc : Value) (lq : Str) (lc : List (Str × Addr)) (lo : Nat → LmI → Prop) : ToldD ((mkR T pr P w K mg).fr tb lk cc lq lc lo) x (He.ga K (T.c c0)) (st s) ∧ okS s := by
  obtain ⟨p, h1, h2⟩ := Option.map_eq_some_iff.mp (show (T.tw.lookup x).map (fun p => (p.2.2.1, p.2.2.2)) = some (c0, s) from h)
  obtain ⟨f, a, c1, s1⟩ := p
  cases h2
  have t := List.all_eq_true.mp TO.tw _ (lookup_mem h1)
  unfold toldRow at t
  simp only [Bool.and_eq_true, decide_eq_true_eq] at t
  obtain ⟨⟨⟨⟨⟨⟨⟨⟨⟨⟨⟨⟨t1, t2⟩, t3⟩, t4⟩, t5⟩, t6⟩, t7⟩, t8⟩, t9⟩, t10⟩, t11⟩, t12⟩, t13⟩ := t
  refine ⟨⟨?_⟩, okS_of t13⟩
  have F := def_at TO X G c t1
  have S := sc_of (List.all_eq_true.mp TO.sc f (List.mem_range.mpr t1))
  have b := FunD.bindsA (ps := (T.f f).ps) F (TO.binds f t1)
  have kp := F.kp
  obtain ⟨oc, od, dV, kV, doc, pm, an, cdv, ct, osl, e, lk', hcd, hD, _⟩ := F.ex
  have hg : mg x = some (.ref (He.fAd K (T.f f).at_)) := by
    rw [t3]
    exact He.glo_ok X G (says_mem c (by
      unfold Tb.fa
      simp only [List.mem_append, List.mem_map]
      exact .inl (.inl (.inl (.inl (.inl (.inl (.inl (.inl (.inr ⟨(x, f), lookup_mem t2, rfl⟩))))))))))
  have he : mg (T.c c1) = some (.ref (He.ga K (T.c c1))) := He.glo_ok X G (says_mem c (by
      unfold Tb.fa
      simp only [List.mem_append, List.mem_map]
      exact .inl (.inl (.inl (.inl (.inl (.inl (.inl (.inl (.inl ⟨T.c c1, t11, rfl⟩))))))))))
  rw [t4, t5] at e
  rw [t5] at hcd
  rw [e] at lk' b
  have hN : (T.f f).N[0]? = some a := by
    have p1 := S.pre
    rw [t6] at p1
    cases hn : (T.f f).N with
    | nil => rw [hn] at p1; cases p1
    | cons y ys => rw [hn] at p1; simp at p1; rw [p1]; rfl
  unfold toldShape at t7
  split at t7
  · rename_i a' q1 q2 q3 e' q4 r jj q5 q6 q7 q8 hbd
    simp only [Bool.and_eq_true, decide_eq_true_eq] at t7
    obtain ⟨⟨rfl, rfl⟩, rfl⟩ := t7
    rw [hbd] at lk' b
    rw [t6] at b S
    exact ⟨_, (T.f f).N, _, _, jj, defArgs (T.f f).st, defScope (T.f f).st, dV, kV, doc, pm, cdv, ct, oc, an, od, osl, q1, q2, q3, q4, q5, q6, q7, q8, hg, kp, lk', hcd, fun s us k hl => by
      rw [List.append_nil] at hl ⊢
      exact b s us hl, S, hN, vis_of t8, (dbg_of t9).1, (dbg_of t9).2.1, gl_of t10, he, (dbg_of t12).1⟩
  · cases t7
theorem gok {tb lk tb' lk' : Bool} {cc : Value} {lq : Str} {lc : List (Str × Addr)} {lo : Nat → LmI → Prop} {lo' : Nat → LmI → Bool} (g1 : tb' = true → tb = true) (g2 : lk' = true → lk = true) (g3 : ∀ i m, lo' i m = true → lo i m)
    (td : ∀ f ∈ T.ln, ∀ f' ∈ T.gn, (He.cT K (T.f f).at_).2 ≠ (He.cT K (T.f f').at_).2) : GOk ((mkR T pr P w K mg).fr tb lk cc lq lc lo) { T.G with tb := tb', lk := lk', lo := lo' } where
  gc := fun x v h => by
    obtain ⟨i, h1, rfl⟩ := Option.map_eq_some_iff.mp (show (T.gi.lookup x).map LV.int = some v from h)
    obtain ⟨t, h2⟩ := He.int_ok X G (says_mem c (f := .int x i) (by
      unfold Tb.fa
      simp only [List.mem_append, List.mem_map]
      exact .inl (.inl (.inl (.inl (.inl (.inl (.inr ⟨(x, i), lookup_mem h1, rfl⟩))))))))
    exact ⟨_, .int i, h2, ⟨t, rfl⟩, fun _ _ _ => rfl⟩
  gf := fun x f h => by
    have hm := lookup_mem (show T.gf.lookup x = some f from h)
    have h1 := List.all_eq_true.mp TO.gf _ hm
    rw [Bool.and_eq_true, decide_eq_true_eq, decide_eq_true_eq] at h1
    refine ⟨by show f < pr.nf; rw [TO.nf]; exact h1.1, ?_⟩
    show mg x = some (.ref (He.fAd K (T.f f).at_))
    rw [h1.2]
    exact He.glo_ok X G (says_mem c (by
      unfold Tb.fa
      simp only [List.mem_append, List.mem_map]
      exact .inl (.inl (.inl (.inl (.inl (.inl (.inl (.inl (.inr ⟨(x, f), hm, rfl⟩))))))))))
  gk := fun x i h => by
    have hm := lookup_mem (show T.gk.lookup x = some i from h)
    have h1 := List.all_eq_true.mp TO.gk _ hm
    simp only [Bool.and_eq_true, decide_eq_true_eq] at h1
    obtain ⟨⟨⟨h2, h3⟩, h4⟩, h5⟩ := h1
    have hi : i ∈ T.ins := by simpa using h2
    have hg : mg x = some (.ref (He.ga K x)) := He.glo_ok X G (says_mem c (by
      unfold Tb.fa
      simp only [List.mem_append, List.mem_map]
      exact .inl (.inl (.inl (.inl (.inl (.inl (.inl (.inl (.inl ⟨x, h4, rfl⟩))))))))))
    have mk := He.mkr_ok (K := K) (says_mem c (f := .mkr (T.c i)) (by
      unfold Tb.fa
      simp only [List.mem_append, List.mem_map]
      exact .inl (.inl (.inr ⟨i, hi, rfl⟩))))
    obtain ⟨r, hr, e1, e2, e3⟩ := meth_row (T := T) (c := i) (m := 0) (Nat.lt_of_lt_of_le h5 TO.big)
    have h6 := List.all_eq_true.mp TO.ml r hr
    rw [Bool.and_eq_true, decide_eq_true_eq, decide_eq_true_eq] at h6
    refine ⟨h2, by show mg x = some (.ref (He.ga K (T.c i))); rw [h3]; exact hg, by show pr.meth i 0 < pr.nf; rw [TO.meth, TO.nf]; exact h5, ?_⟩
    show Mk K (He.ga K (T.c i)) (He.fAd K (T.f (pr.meth i 0)).at_)
    rw [TO.meth, ← e3, h6.2, e1, e2, TO.m0]
    exact mk
  gx := fun x i h => by
    have hm := lookup_mem (show T.gx.lookup x = some i from h)
    have h1 := List.all_eq_true.mp TO.gx _ hm
    simp only [Bool.and_eq_true, decide_eq_true_eq] at h1
    obtain ⟨⟨⟨h2, h3⟩, h4⟩, h5⟩ := h1
    have hi : i ∈ T.exn := by simpa using h2
    have hg : mg x = some (.ref (He.ga K x)) := He.glo_ok X G (says_mem c (by
      unfold Tb.fa
      simp only [List.mem_append, List.mem_map]
      exact .inl (.inl (.inl (.inl (.inl (.inl (.inl (.inl (.inl ⟨x, h4, rfl⟩))))))))))
    have ex := He.exc_ok (K := K) (says_mem c (f := .exc (T.c i)) (by
      unfold Tb.fa
      simp only [List.mem_append, List.mem_map]
      exact .inl (.inr ⟨i, hi, rfl⟩)))
    rw [h3] at ex
    intro X' W N sc ok hgl m j p p2 pos
    show PMk X' _ (fun _ H Q => Q (.ref (He.ga K (T.c i))) none H)
    rw [h3]
    have hK : X'.K = K := ok.K
    refine pmk_own PySem.F.excBase_ValueError (by rw [hK]; exact ex.1) (by rw [show X'.mg = mg from ok.mg]; exact hg) (by rw [hK]; exact ex.2.1) (raises_own (by rw [hK]; exact ex.2.2.1) (by rw [hK]; exact ex.2.2.2)) (by show X'.env.scope.names.lookup x = _; rw [ok.sc]; exact hgl) (dbg_of h5).1
  nb := fun x h => by
    have hm : x ∈ T.nb := by simpa [Tb.G] using h
    exact He.free_ok X G (says_mem c (by
      unfold Tb.fa
      simp only [List.mem_append, List.mem_map]
      exact .inl (.inl (.inl (.inl (.inl (.inl (.inl (.inr ⟨x, hm, rfl⟩)))))))))
  an := rfl
  mn := rfl
  na := rfl
  tb := g1
  lk := g2
  lo := g3
  td := fun p hp q hq => by
    obtain ⟨f, hf, rfl⟩ := List.mem_map.mp (show p ∈ T.ln.map fun f => ((He.cT K (T.f f).at_).2, ((T.f f).qual ++ ".<locals>.") ++ "<lambda>") from hp)
    obtain ⟨f', hf', rfl⟩ := List.mem_map.mp (show q ∈ T.gn.map fun f => (He.cT K (T.f f).at_).2 from hq)
    exact td f hf f' hf'
  told := fun x c0 s h => told_def TO X G c h tb lk cc lq lc lo
  xm := fun d c0 h => He.exm_ok (says_mem c (f := .exm (T.c d) (T.c c0) true) (by
      unfold Tb.fa
      simp only [List.mem_append, List.mem_map]
      exact .inr ⟨(d, c0), TO.sb d c0 h, rfl⟩))
omit X G c in
theorem dead_of {f : Nat} (h : deadB (pr.fn f).body = true) : DeadF (mkR T pr P w K mg) f := by
  intro O vs hh
  show Ev.runF pr O f vs hh = .bad
  unfold Ev.runF
  split
  · unfold deadB at h
    split at h
    · rename_i e
      rw [e]
      rfl
    · cases h
  · rfl
/-- every def keeps its promise, at every depth -/
theorem all_ok (hn : ((T.gn ++ T.ln).map fun f => (He.cT K (T.f f).at_).2).Nodup) (n : Nat) : OOk (mkR T pr P w K mg) (Ev.orc pr n) (2 * n) := by
  have inj := nodup_inj hn
  have dis : ∀ f ∈ T.ln, ∀ f' ∈ T.gn, (He.cT K (T.f f).at_).2 ≠ (He.cT K (T.f f').at_).2 := fun f hf f' hf' e => by
    rw [List.map_append, List.nodup_append] at hn
    exact hn.2.2 _ (List.mem_map.mpr ⟨f', hf', rfl⟩) _ (List.mem_map.mpr ⟨f, hf, rfl⟩) e.symm
  have ngn : ∀ f, T.ln.contains f = true → T.gn.contains f = false := fun f hf => by
    cases q : T.gn.contains f with
    | false => rfl
    | true => exact absurd rfl (dis f (by simpa using hf) f (by simpa using q))
  refine (orc_ok (R := mkR T pr P w K mg) (fun f hf => ?_) n).1
  have hf' : f < T.fr.length := by rw [← TO.nf]; exact hf
  have bd := TO.body f hf'
  unfold Tb.ok at bd
  by_cases hd : T.dd.contains f = true
  · rw [if_pos hd] at bd
    exact .inl (dead_of TO bd)
  refine .inr ?_
  rw [if_neg hd] at bd
  have hr := List.mem_range.mpr hf'
  have h1 := List.all_eq_true.mp TO.np f hr
  rw [Bool.and_eq_true, decide_eq_true_eq, decide_eq_true_eq] at h1
  have S := sc_of (List.all_eq_true.mp TO.sc f hr)
  have k1 : (mkR T pr P w K mg).kd f = 1 → T.gn.contains f = true := fun z => by
    have z : (if T.gn.contains f then 1 else if T.ln.contains f then 2 else 0) = 1 := z
    by_cases q : T.gn.contains f = true
    · exact q
    · rw [if_neg q] at z; split at z <;> cases z
  have k2 : (mkR T pr P w K mg).kd f = 2 → T.ln.contains f = true := fun z => by
    have z : (if T.gn.contains f then 1 else if T.ln.contains f then 2 else 0) = 2 := z
    by_cases q : T.gn.contains f = true
    · rw [if_pos q] at z; cases z
    · rw [if_neg q] at z
      by_cases q2 : T.ln.contains f = true
      · exact q2
      · rw [if_neg q2] at z; cases z
  obtain ⟨oc, od, dV, kV, doc, pm, an, cdv, ct, osl, e, lk, hcd, hD, _⟩ := (def_at TO X G c hf').ex
  obtain ⟨c0, hc0⟩ := He.codeIn_ref hcd
  have hcT : He.codeOf K (T.f f).at_ = c0 := He.codeOf_eq lk (by rw [e]; exact hc0)
  have hcs : f ∈ T.gn ++ T.ln → (c0, (He.cT K (T.f f).at_).2) ∈ (mkR T pr P w K mg).cs := fun hm => List.mem_map.mpr ⟨f, hm, by
    show (He.codeOf K (T.f f).at_, He.tabOf K (He.codeOf K (T.f f).at_)) = (c0, He.tabOf K (He.codeOf K (T.f f).at_))
    rw [hcT]⟩
  refine ⟨(T.f f).N, (T.f f).name, (T.f f).qual, defArgs (T.f f).st, defBody (T.f f).st, defScope (T.f f).st, ⟨⟨dV, kV, doc, pm, cdv, ct, oc, an, od, osl, ?_, e, hcd, fun z => ?_, fun z => ?_⟩, S, h1.1, h1.2, fun z i m hm => lmB_T hm⟩, ?_⟩
  · rw [← e]; exact lk
  · have hm : f ∈ T.gn := by simpa using k1 z
    exact ⟨c0, (He.cT K (T.f f).at_).2, hc0, hcs (List.mem_append_left _ hm), List.mem_map.mpr ⟨f, hm, rfl⟩⟩
  · have hm : f ∈ T.ln := by simpa using k2 z
    refine ⟨c0, (He.cT K (T.f f).at_).2, hc0, hcs (List.mem_append_right _ hm), List.mem_map.mpr ⟨f, hm, rfl⟩, fun p hp e1 => ?_⟩
    obtain ⟨f2, hf2, rfl⟩ := List.mem_map.mp (show p ∈ T.ln.map fun f => ((He.cT K (T.f f).at_).2, ((T.f f).qual ++ ".<locals>.") ++ "<lambda>") from hp)
    have : f2 = f := inj f2 (List.mem_append_right _ hf2) f (List.mem_append_right _ hm) e1
    rw [this]
  · intro X' W O k lq lc ok OK OLk hr' ⟨qual, L, fo, co, he⟩ _ _
    have hb : X'.env.blockKind = .function := by
      rw [he]
      show (if (defScope (T.f f).st).kind.isAnnotationScope = true then ScopeKind.function else (defScope (T.f f).st).kind) = .function
      rw [S.kind]
      rfl
    have g1 : T.gn.contains f = true → decide ((mkR T pr P w K mg).kd f = 1) = true := fun q => by
      apply decide_eq_true
      show (if T.gn.contains f then 1 else if T.ln.contains f then 2 else 0) = 1
      rw [if_pos q]
    have g2 : T.ln.contains f = true → decide ((mkR T pr P w K mg).kd f = 2) = true := fun q => by
      apply decide_eq_true
      show (if T.gn.contains f then 1 else if T.ln.contains f then 2 else 0) = 2
      rw [if_neg (by rw [ngn f q]; exact Bool.false_ne_true), if_pos q]
    have RO := rok_fr (tb := decide ((mkR T pr P w K mg).kd f = 1)) (lk := decide ((mkR T pr P w K mg).kd f = 2)) (cc := X'.env.code) (lq := lq) (lc := lc) (lo := (mkR T pr P w K mg).lw f) (rok (P := P) (w := w) TO X G c)
    have GO := gok (P := P) (w := w) (tb := decide ((mkR T pr P w K mg).kd f = 1)) (lk := decide ((mkR T pr P w K mg).kd f = 2)) (cc := X'.env.code) (lq := lq) (lc := lc) (lo := (mkR T pr P w K mg).lw f) (tb' := T.gn.contains f) (lk' := T.ln.contains f) (lo' := fun i m => T.ln.contains f && lmB T.G (T.f f).N (defScope (T.f f).st) (pr.lam i) m) TO X G c g1 g2 (fun i m h => by rw [Bool.and_eq_true] at h; exact h.2) dis
    have G0 := gok (P := P) (w := w) (tb := decide ((mkR T pr P w K mg).kd f = 1)) (lk := decide ((mkR T pr P w K mg).kd f = 2)) (cc := X'.env.code) (lq := lq) (lc := lc) (lo := (mkR T pr P w K mg).lw f) (tb' := false) (lk' := false) (lo' := fun _ _ => false) TO X G c (fun z => by cases z) (fun z => by cases z) (fun i m h => by cases h) dis
    refine doc_of (chkCs_ok GO RO OK ok (fun z => ⟨ok.xl (g2 z), ?_⟩) hr' hb _ _ bd)
    rcases OLk with z | ⟨O', k', h1', h2', h3'⟩
    · exact .inl z
    · refine .inr ⟨k' + 1, h1', fun i m hm A outer s H E f' c' room => ?_⟩
      have hm : lmB T.G (T.f f).N (defScope (T.f f).st) (pr.lam i) m = true := hm
      unfold lmB at hm
      rw [Bool.and_eq_true] at hm
      have tk : Takes (LamX.lamCx X' A outer s H E m.scope f' c') (fun cls d _ H => E cls d H) := takes_of rfl rfl rfl rfl
      have tbf : decide ((mkR T pr P w K mg).kd f = 1) = false := by
        have := k2 (of_decide_eq_true (g2 z))
        rw [decide_eq_false_iff_not]
        intro q
        have := k1 q
        rw [ngn f z] at this
        cases this
      have xo : XOk ((mkR T pr P w K mg).fr (decide ((mkR T pr P w K mg).kd f = 1)) (decide ((mkR T pr P w K mg).kd f = 2)) X'.env.code lq lc ((mkR T pr P w K mg).lw f)) (LamX.lamCx X' A outer s H E m.scope f' c') (fun cls d _ H => E cls d H) (T.f f).N m.scope :=
        { P := ok.P, w := ok.w, K := ok.K, mg := ok.mg, base := ok.base, nm := ok.nm, nd := ok.nd, sc := rfl, calm := rfl, un := by have := room.un; show (A.deeper _).units + 65 < cLine; omega, tk := tk, cc := fun q => by rw [show decide ((mkR T pr P w K mg).kd f = 1) = true from q] at tbf; cases tbf }
      have j := chk_ok G0 RO h2' (pr.lam i) .keep _ _ _ _ m.body (lk := false) ⟨xo, fun q => by cases q⟩ room hm.2
      refine pe_imp (show SE _ _ _ _ _ _ from j) fun σ' H' Q' t => ?_
      obtain ⟨L', h', F', ρ', C', S', r'⟩ := t
      refine ⟨L', h', F', ρ', C', S', ?_⟩
      rw [h3'] at r'
      exact r'
end
end Sd
end
section
set_option maxRecDepth 100000
set_option maxHeartbeats 4000000
/-! a law's end: from the machine's answer at every script to the walk -/
namespace Sd
open PySem PySem.Spec PyProof.Rows L2
open Ev (LV LO CE CEs Src Tg Tgs CKs CS CSs Prg Orc Slot SR)
theorem cx_end {P : Program} {w : World} (H : Hp) (s : Shared) (e : Value) (s' : Shared) : L2.CX P w [] H s (fun _ _ _ => False) e s' → False := by
  intro z
  obtain ⟨_, _, _, _, _, _, _, _, _, _, _, _, f⟩ := z
  exact f
/-- the first state: nothing of the machine's, the tables empty, the script's list nobody's -/
def fz0 (H : Hp) (a : Addr) : Addr → Prop := fun b => b = a ∧ H b ≠ none
theorem core0 {R : Cn} {H : Hp} {a : Addr} (ht : ∀ p ∈ R.tl, H p.1 = some (.tbl #[])) (hg : ∀ p ∈ R.tg, H p = some (.tbl #[])) : Core R (fz0 H a) [] H [] where
  len := rfl
  nd := List.nodup_nil
  obj := fun n o a h => by simp at h
  fz := fun _ f => by simp
  fzt := fun _ f => f.2
  tab := ⟨(fun p hp => LamX.TabS.nil (ht p hp)), fun p hp => ⟨#[], hg p hp, True.intro⟩⟩
theorem reps_ints {R : Cn} {Fz : Addr → Prop} {ρ : List Addr} {H : Hp} : ∀ ns : List Int, Reps R Fz ρ H (ns.map .int) (ns.map V.int)
  | [] => by unfold Reps; rfl
  | n :: ns => by
    show Reps R Fz ρ H (.int n :: ns.map .int) _
    unfold Reps
    exact ⟨.int n, ns.map V.int, rfl, by unfold Rep; rfl, reps_ints ns⟩
theorem rol_of {R : Cn} {ρ : List Addr} {H : Hp} {a : Addr} {ns : List Int} (hS : SqL R.K H a (ns.map V.int)) : Rep R (fz0 H a) ρ H (.rol (ns.map .int)) (.ref a) := by
  unfold Rep
  refine ⟨a, ns.map V.int, rfl, ?_, reps_ints ns⟩
  rcases hS with (h | h) | h
  · exact .inr (.inr ⟨⟨rfl, by rw [h]; simp⟩, h⟩)
  · exact .inl h
  · exact .inr (.inl h)
/-- the end of a law: what is left is plain -/
theorem law_end {ex : PySem.W.Frag → Bool} {l : PySem.W.OpenLaw} {n N fl : Nat} {q : Program} {loose : List Str} {XP : (Str → Option Value) → Heap → Prop} {YP : World → Heap → Prop} {d : DefRec} {T : Tb} {pr : Prg} {x : Str}
    (hn : l.most = some n) (hn2 : n ≤ sizeLine) (hdf : d.params.defaults = []) (hr : Room (2 * N) callerA)
    (TO : TOk T pr) (hY : ∀ w h, YP w h → ∃ K : PySem.W.Frag, K.In h ∧ He.SaysX T.fa T.fn [] ((T.gn ++ T.ln).map fun f => (T.f f).at_) ex w h K)
    (hex : ∀ K : PySem.W.Frag, ex K = true → ((T.gn ++ T.ln).map fun f => (He.cT K (T.f f).at_).2).Nodup)
    (hfl : fl < T.fr.length) (hat : (T.f fl).at_ = (d.name, none)) (hps : (T.f fl).ps = [x]) (hgf : (d.name, fl) ∈ T.gf)
    (B : ∀ ns : List Int, ns.length ≤ n → ∃ h, (Ev.orc pr N).call fl [.rol (ns.map .int)] [] = .ok (.bl true) h) :
    PySem.W.WalkO q loose XP YP l.row.toRowW d [] (fun f vs => PySem.call f vs) := by
  apply Att.attach_call hn hdf
  intro w s₀ s₁ mg mb fa o pm cd doc a vs ns G Y ho hd hcd hmg hobj hints hlen hg
  obtain ⟨K, KX, cx⟩ := hY w _ Y
  have c := cx.t.d
  have hmg2 : mg d.name = some (.ref (He.fAd K (T.f fl).at_)) := by
    rw [hat]
    exact He.glo_ok KX G.T.g (says_mem c (by
      unfold Tb.fa
      simp only [List.mem_append, List.mem_map]
      exact .inl (.inl (.inl (.inl (.inl (.inl (.inl (.inl (.inr ⟨_, hgf, rfl⟩))))))))))
  have hfa : fa = He.fAd K (T.f fl).at_ := by
    have e := hmg.symm.trans hmg2
    cases e
    rfl
  have F := def_at TO KX G.T.g c hfl
  have hb := FunD.bindsA (ps := (T.f fl).ps) F (TO.binds fl hfl)
  have A := all_ok (P := l.prog) (w := w) TO KX G.T.g c (hex K cx.more) N
  have hfl' : fl < pr.nf := by rw [TO.nf]; exact hfl
  have hcs : ∀ p ∈ (mkR T pr l.prog w K mg).cs, ∃ f ∈ T.gn ++ T.ln, p = He.cT K (T.f f).at_ := fun p hp => by
    obtain ⟨f, hf, e⟩ := List.mem_map.mp (show p ∈ (T.gn ++ T.ln).map fun f => He.cT K (T.f f).at_ from hp)
    exact ⟨f, hf, e.symm⟩
  have htf : ∀ f ∈ T.gn ++ T.ln, (T.f f).at_ ∈ (T.gn ++ T.ln).map fun f => (T.f f).at_ := fun f hf => List.mem_map.mpr ⟨f, hf, rfl⟩
  refine LamX.law_callTs (x := x) (K := K) (cs := (mkR T pr l.prog w K mg).cs) (fd := fdOf K (He.fAd K (T.f fl).at_)) (sp := spO (mkR T pr l.prog w K mg) (Ev.orc pr N) fl) (CX := L2.CX l.prog w) KX G.T.g G.T.b G.T.builtins G.T.nolimit hg (fun p hp => ?_) (fun p hp => ?_) (fun p hp => ?_) G.T.bmain hobj hints (Nat.le_trans hlen hn2) hr (fun base k1 k2 k3 => ?_) (fun s u => ?_) (fun H hH hS => ?_) fun H e s' z => cx_end H s₁ e s' z
  · obtain ⟨f, hf, rfl⟩ := hcs p hp
    exact cx.empty _ (htf f hf)
  · obtain ⟨f, hf, rfl⟩ := hcs p hp
    exact cx.out _ (htf f hf)
  · obtain ⟨f, hf, rfl⟩ := hcs p hp
    exact PySem.W.codeHd_of_K KX (cx.hd _ (htf f hf))
  · have z := A.fn base ⟨k1, k2, k3⟩ fl hfl'
    have e : ((mkR T pr l.prog w K mg).fi fl).ps = [x] := hps
    rw [e] at z
    rw [hfa]
    exact z
  · have z := hb s [u] (by rw [hps]; rfl)
    rw [hps] at z
    exact z
  · obtain ⟨h, e⟩ := B ns hlen
    refine ⟨by show 1 = (T.f fl).ps.length; rw [hps]; rfl, [], fz0 H a, [], [.rol (ns.map .int)], core0 (fun p hp => ?_) (fun p hp => ?_), ?_, ?_⟩
    · obtain ⟨f, hf, rfl⟩ := List.mem_map.mp (show p ∈ T.ln.map fun f => ((He.cT K (T.f f).at_).2, ((T.f f).qual ++ ".<locals>.") ++ "<lambda>") from hp)
      exact hH (He.cT K (T.f f).at_) (List.mem_map.mpr ⟨f, List.mem_append_right _ hf, rfl⟩)
    · obtain ⟨f, hf, rfl⟩ := List.mem_map.mp (show p ∈ T.gn.map fun f => (He.cT K (T.f f).at_).2 from hp)
      exact hH (He.cT K (T.f f).at_) (List.mem_map.mpr ⟨f, List.mem_append_left _ hf, rfl⟩)
    · unfold Reps
      exact ⟨.ref a, [], rfl, rol_of (R := mkR T pr l.prog w K mg) hS, by unfold Reps; rfl⟩
    · rw [e]
      intro y H' Fz' ρ' _ _ r
      unfold Rep at r
      exact r
end Sd
end
section
set_option maxRecDepth 100000
set_option maxHeartbeats 4000000
namespace K11
open PySem Sd L2
abbrev prog : Program := PySem.Challenge.pw_widgetstack_k11_a_view_on_what_is_larger
def top (i : Nat) : Stmt := prog.main.body.getD i (.Pass ⟨0, 0, 0, 0⟩)
def mem (s : Stmt) (i : Nat) : Stmt := match s with | .ClassDef _ _ _ b _ _ _ _ _ _ _ => b.getD i (.Pass ⟨0, 0, 0, 0⟩) | _ => .Pass ⟨0, 0, 0, 0⟩
abbrev s_View_init : Stmt := (mem (top 5) 0)
def r_View_init : FR := ⟨(("View" : Str), some ("__init__" : Str)), ("__init__" : Str), ("View.__init__" : Str), s_View_init, [("self" : Str), ("whole" : Str), ("seen" : Str)], [("self" : Str), ("whole" : Str), ("seen" : Str)]⟩
abbrev s_View_most_place : Stmt := (mem (top 5) 1)
def r_View_most_place : FR := ⟨(("View" : Str), some ("most_place" : Str)), ("most_place" : Str), ("View.most_place" : Str), s_View_most_place, [("self" : Str)], [("self" : Str)]⟩
abbrev s_View_go : Stmt := (mem (top 5) 2)
def r_View_go : FR := ⟨(("View" : Str), some ("go" : Str)), ("go" : Str), ("View.go" : Str), s_View_go, [("self" : Str), ("place" : Str), ("before" : Str)], [("self" : Str), ("place" : Str)]⟩
abbrev s_View_by : Stmt := (mem (top 5) 3)
def r_View_by : FR := ⟨(("View" : Str), some ("by" : Str)), ("by" : Str), ("View.by" : Str), s_View_by, [("self" : Str), ("far" : Str)], [("self" : Str), ("far" : Str)]⟩
abbrev s_View_page : Stmt := (mem (top 5) 4)
def r_View_page : FR := ⟨(("View" : Str), some ("page" : Str)), ("page" : Str), ("View.page" : Str), s_View_page, [("self" : Str), ("step" : Str), ("keep" : Str)], [("self" : Str), ("step" : Str), ("keep" : Str)]⟩
abbrev s_View_show : Stmt := (mem (top 5) 5)
def r_View_show : FR := ⟨(("View" : Str), some ("show" : Str)), ("show" : Str), ("View.show" : Str), s_View_show, [("self" : Str), ("first" : Str), ("behind" : Str), ("how" : Str)], [("self" : Str), ("first" : Str), ("behind" : Str), ("how" : Str)]⟩
abbrev s_View_resize : Stmt := (mem (top 5) 6)
def r_View_resize : FR := ⟨(("View" : Str), some ("resize" : Str)), ("resize" : Str), ("View.resize" : Str), s_View_resize, [("self" : Str), ("whole" : Str), ("seen" : Str), ("fresh" : Str)], [("self" : Str), ("whole" : Str), ("seen" : Str)]⟩
abbrev s_View_grow_ahead : Stmt := (mem (top 5) 7)
def r_View_grow_ahead : FR := ⟨(("View" : Str), some ("grow_ahead" : Str)), ("grow_ahead" : Str), ("View.grow_ahead" : Str), s_View_grow_ahead, [("self" : Str), ("more" : Str)], [("self" : Str), ("more" : Str)]⟩
abbrev s_View_thumb : Stmt := (mem (top 5) 8)
def r_View_thumb : FR := ⟨(("View" : Str), some ("thumb" : Str)), ("thumb" : Str), ("View.thumb" : Str), s_View_thumb, [("self" : Str), ("track" : Str), ("least" : Str), ("long" : Str)], [("self" : Str), ("track" : Str), ("least" : Str)]⟩
abbrev s_View_thumb_to : Stmt := (mem (top 5) 9)
def r_View_thumb_to : FR := ⟨(("View" : Str), some ("thumb_to" : Str)), ("thumb_to" : Str), ("View.thumb_to" : Str), s_View_thumb_to, [("self" : Str), ("place" : Str), ("track" : Str), ("least" : Str), ("long" : Str), ("room" : Str)], [("self" : Str), ("place" : Str), ("track" : Str), ("least" : Str)]⟩
abbrev s_View_share_of : Stmt := (mem (top 5) 10)
def r_View_share_of : FR := ⟨(("View" : Str), some ("share_of" : Str)), ("share_of" : Str), ("View.share_of" : Str), s_View_share_of, [("self" : Str)], [("self" : Str)]⟩
abbrev s_View_is_seen : Stmt := (mem (top 5) 11)
def r_View_is_seen : FR := ⟨(("View" : Str), some ("is_seen" : Str)), ("is_seen" : Str), ("View.is_seen" : Str), s_View_is_seen, [("self" : Str), ("first" : Str), ("behind" : Str)], [("self" : Str), ("first" : Str), ("behind" : Str)]⟩
abbrev s_Swing_init : Stmt := (mem (top 6) 0)
def r_Swing_init : FR := ⟨(("Swing" : Str), some ("__init__" : Str)), ("__init__" : Str), ("Swing.__init__" : Str), s_Swing_init, [("self" : Str), ("view" : Str), ("share" : Str)], [("self" : Str), ("view" : Str), ("share" : Str)]⟩
abbrev s_Swing_push : Stmt := (mem (top 6) 1)
def r_Swing_push : FR := ⟨(("Swing" : Str), some ("push" : Str)), ("push" : Str), ("Swing.push" : Str), s_Swing_push, [("self" : Str), ("pace" : Str)], [("self" : Str), ("pace" : Str)]⟩
abbrev s_Swing_tick : Stmt := (mem (top 6) 2)
def r_Swing_tick : FR := ⟨(("Swing" : Str), some ("tick" : Str)), ("tick" : Str), ("Swing.tick" : Str), s_Swing_tick, [("self" : Str), ("whole" : Str), ("far" : Str), ("moved" : Str)], [("self" : Str)]⟩
abbrev s_Swing_run : Stmt := (mem (top 6) 3)
def r_Swing_run : FR := ⟨(("Swing" : Str), some ("run" : Str)), ("run" : Str), ("Swing.run" : Str), s_Swing_run, [("self" : Str), ("most" : Str), ("found" : Str)], [("self" : Str), ("most" : Str)]⟩
abbrev s_together : Stmt := (top 7)
def r_together : FR := ⟨(("together" : Str), none), ("together" : Str), ("together" : Str), s_together, [("one" : Str), ("other" : Str)], [("one" : Str), ("other" : Str)]⟩
abbrev s_snap_place : Stmt := (top 8)
def r_snap_place : FR := ⟨(("snap_place" : Str), none), ("snap_place" : Str), ("snap_place" : Str), s_snap_place, [("place" : Str), ("stops" : Str), ("rows" : Str), ("spot" : Str), ("stop" : Str)], [("place" : Str), ("stops" : Str)]⟩
abbrev s_sticky_tops : Stmt := (top 9)
def r_sticky_tops : FR := ⟨(("sticky_tops" : Str), none), ("sticky_tops" : Str), ("sticky_tops" : Str), s_sticky_tops, [("heads" : Str), ("place" : Str), ("high" : Str), ("number" : Str), ("first" : Str), ("behind" : Str), ("one" : Str), ("other" : Str)], [("heads" : Str), ("place" : Str), ("high" : Str)]⟩
abbrev s_law_dice : Stmt := (top 11)
def r_law_dice : FR := ⟨(("_law_dice" : Str), none), ("_law_dice" : Str), ("_law_dice" : Str), s_law_dice, [("cell" : Str)], [("cell" : Str)]⟩
abbrev s_law_roll : Stmt := (top 12)
def r_law_roll : FR := ⟨(("_law_roll" : Str), none), ("_law_roll" : Str), ("_law_roll" : Str), s_law_roll, [("dice" : Str), ("many" : Str), ("found" : Str)], [("dice" : Str), ("many" : Str)]⟩
abbrev s_law_rounds : Stmt := (top 13)
def r_law_rounds : FR := ⟨(("_law_rounds" : Str), none), ("_law_rounds" : Str), ("_law_rounds" : Str), s_law_rounds, [("script" : Str), ("most" : Str), ("cells" : Str), ("cell" : Str)], [("script" : Str), ("most" : Str)]⟩
abbrev s_law_told : Stmt := (top 14)
def r_law_told : FR := ⟨(("_law_told" : Str), none), ("_law_told" : Str), ("_law_told" : Str), s_law_told, [("what" : Str)], [("what" : Str)]⟩
abbrev s_law_clip : Stmt := (top 15)
def r_law_clip : FR := ⟨(("_law_clip" : Str), none), ("_law_clip" : Str), ("_law_clip" : Str), s_law_clip, [("place" : Str), ("whole" : Str), ("seen" : Str)], [("place" : Str), ("whole" : Str), ("seen" : Str)]⟩
abbrev s_law_show : Stmt := (top 16)
def r_law_show : FR := ⟨(("_law_show" : Str), none), ("_law_show" : Str), ("_law_show" : Str), s_law_show, [("place" : Str), ("whole" : Str), ("seen" : Str), ("first" : Str), ("behind" : Str), ("how" : Str), ("goals" : Str), ("goal" : Str)], [("place" : Str), ("whole" : Str), ("seen" : Str), ("first" : Str), ("behind" : Str), ("how" : Str)]⟩
abbrev s_law_plain : Stmt := (top 17)
def r_law_plain : FR := ⟨(("_law_plain" : Str), none), ("_law_plain" : Str), ("_law_plain" : Str), s_law_plain, [("view" : Str), ("told" : Str), ("bad" : Str), ("stuck" : Str), ("due" : Str), ("small" : Str), ("swing" : Str), ("how" : Str), ("k" : Str), ("f" : Str)], []⟩
abbrev s_law_rest : Stmt := (top 18)
def r_law_rest : FR := ⟨(("_law_rest" : Str), none), ("_law_rest" : Str), ("_law_rest" : Str), s_law_rest, [("dice" : Str), ("view" : Str), ("most" : Str), ("first" : Str), ("other" : Str), ("told" : Str), ("stops" : Str), ("fars" : Str), ("heads" : Str), ("at" : Str), ("ends" : Str), ("high" : Str), ("k" : Str), ("stop" : Str), ("low" : Str), ("top" : Str)], [("dice" : Str), ("view" : Str), ("most" : Str), ("first" : Str)]⟩
abbrev s_law_swings : Stmt := (top 19)
def r_law_swings : FR := ⟨(("_law_swings" : Str), none), ("_law_swings" : Str), ("_law_swings" : Str), s_law_swings, [("dice" : Str), ("view" : Str), ("whole" : Str), ("seen" : Str), ("place" : Str), ("turn" : Str), ("turns" : Str), ("share" : Str), ("pace" : Str), ("swing" : Str), ("rest" : Str), ("told" : Str), ("here" : Str), ("far" : Str), ("goal" : Str)], [("dice" : Str), ("view" : Str), ("whole" : Str), ("seen" : Str)]⟩
abbrev s_law : Stmt := (top 20)
def r_law : FR := ⟨(("law" : Str), none), ("law" : Str), ("law" : Str), s_law, [("script" : Str), ("dice" : Str), ("view" : Str), ("step" : Str), ("most" : Str), ("first" : Str), ("behind" : Str), ("held" : Str), ("whole" : Str), ("seen" : Str), ("place" : Str), ("sort" : Str), ("far" : Str), ("y" : Str), ("goal" : Str), ("told" : Str), ("how" : Str), ("more" : Str), ("track" : Str), ("least" : Str), ("spot" : Str), ("long" : Str)], [("script" : Str)]⟩
def T : Tb where
  fr := [r_View_init, r_View_most_place, r_View_go, r_View_by, r_View_page, r_View_show, r_View_resize, r_View_grow_ahead, r_View_thumb, r_View_thumb_to, r_View_share_of, r_View_is_seen, r_Swing_init, r_Swing_push, r_Swing_tick, r_Swing_run, r_together, r_snap_place, r_sticky_tops, r_law_dice, r_law_roll, r_law_rounds, r_law_told, r_law_clip, r_law_show, r_law_plain, r_law_rest, r_law_swings, r_law]
  cn := [("WidgetFault" : Str), ("ScrollError" : Str), ("View" : Str), ("Swing" : Str)]
  ins := [2, 3]
  exn := [0, 1]
  an := [("whole" : Str), ("seen" : Str), ("place" : Str), ("view" : Str), ("share" : Str), ("pace" : Str), ("rest" : Str)]
  mn := [("__init__" : Str), ("most_place" : Str), ("go" : Str), ("by" : Str), ("page" : Str), ("show" : Str), ("resize" : Str), ("grow_ahead" : Str), ("thumb" : Str), ("thumb_to" : Str), ("share_of" : Str), ("is_seen" : Str), ("push" : Str), ("tick" : Str), ("run" : Str)]
  gi := [(("MOST_SCROLLED" : Str), 1000000)]
  gf := [(("together" : Str), 16), (("snap_place" : Str), 17), (("sticky_tops" : Str), 18), (("_law_dice" : Str), 19), (("_law_roll" : Str), 20), (("_law_rounds" : Str), 21), (("_law_told" : Str), 22), (("_law_clip" : Str), 23), (("_law_show" : Str), 24), (("_law_plain" : Str), 25), (("_law_rest" : Str), 26), (("_law_swings" : Str), 27), (("law" : Str), 28)]
  gk := [(("View" : Str), 2), (("Swing" : Str), 3)]
  gx := [(("WidgetFault" : Str), 0), (("ScrollError" : Str), 1)]
  nb := [("range" : Str), ("len" : Str), ("abs" : Str), ("max" : Str), ("min" : Str), ("int" : Str), ("enumerate" : Str), ("zip" : Str), ("sorted" : Str), ("any" : Str)]
  ml := mlT
  gn := [18]
  ln := [25]
  dd := [22]
  tw := [(("_law_told" : Str), 22, ("what" : Str), 1, [83, 99, 114, 111, 108, 108, 69, 114, 114, 111, 114])]
  sb := subT
end K11
end
set_option maxRecDepth 100000
set_option maxHeartbeats 0
namespace K11
open PySem Sd L2
theorem ck_View_init : T.ok prg 0 r_View_init.N (defScope s_View_init) b_View_init (Sd.dropDoc (defBody s_View_init)) = true := by decide +kernel
theorem gk_View_init (kV doc pm : Value) (an : Option Addr) (cdv ct : Value) : ∀ us : List Value, us.length = 3 → bindArgs (PySem.W.fnOf r_View_init.name r_View_init.qual (defArgs s_View_init) (defBody s_View_init) (defScope s_View_init) .none kV doc pm an cdv ct) ⟨us, []⟩ = pure (r_View_init.ps.zip us)
  | [_, _, _], _ => by kernel_rfl
theorem ck_View_most_place : T.ok prg 1 r_View_most_place.N (defScope s_View_most_place) b_View_most_place (Sd.dropDoc (defBody s_View_most_place)) = true := by decide +kernel
theorem gk_View_most_place (kV doc pm : Value) (an : Option Addr) (cdv ct : Value) : ∀ us : List Value, us.length = 1 → bindArgs (PySem.W.fnOf r_View_most_place.name r_View_most_place.qual (defArgs s_View_most_place) (defBody s_View_most_place) (defScope s_View_most_place) .none kV doc pm an cdv ct) ⟨us, []⟩ = pure (r_View_most_place.ps.zip us)
  | [_], _ => by kernel_rfl
theorem ck_View_go : T.ok prg 2 r_View_go.N (defScope s_View_go) b_View_go (Sd.dropDoc (defBody s_View_go)) = true := by decide +kernel
theorem gk_View_go (kV doc pm : Value) (an : Option Addr) (cdv ct : Value) : ∀ us : List Value, us.length = 2 → bindArgs (PySem.W.fnOf r_View_go.name r_View_go.qual (defArgs s_View_go) (defBody s_View_go) (defScope s_View_go) .none kV doc pm an cdv ct) ⟨us, []⟩ = pure (r_View_go.ps.zip us)
  | [_, _], _ => by kernel_rfl
theorem ck_View_by : T.ok prg 3 r_View_by.N (defScope s_View_by) b_View_by (Sd.dropDoc (defBody s_View_by)) = true := by decide +kernel
theorem gk_View_by (kV doc pm : Value) (an : Option Addr) (cdv ct : Value) : ∀ us : List Value, us.length = 2 → bindArgs (PySem.W.fnOf r_View_by.name r_View_by.qual (defArgs s_View_by) (defBody s_View_by) (defScope s_View_by) .none kV doc pm an cdv ct) ⟨us, []⟩ = pure (r_View_by.ps.zip us)
  | [_, _], _ => by kernel_rfl
theorem ck_View_page : T.ok prg 4 r_View_page.N (defScope s_View_page) b_View_page (Sd.dropDoc (defBody s_View_page)) = true := by decide +kernel
theorem gk_View_page (kV doc pm : Value) (an : Option Addr) (cdv ct : Value) : ∀ us : List Value, us.length = 3 → bindArgs (PySem.W.fnOf r_View_page.name r_View_page.qual (defArgs s_View_page) (defBody s_View_page) (defScope s_View_page) .none kV doc pm an cdv ct) ⟨us, []⟩ = pure (r_View_page.ps.zip us)
  | [_, _, _], _ => by kernel_rfl
theorem ck_View_show : T.ok prg 5 r_View_show.N (defScope s_View_show) b_View_show (Sd.dropDoc (defBody s_View_show)) = true := by decide +kernel
theorem gk_View_show (kV doc pm : Value) (an : Option Addr) (cdv ct : Value) : ∀ us : List Value, us.length = 4 → bindArgs (PySem.W.fnOf r_View_show.name r_View_show.qual (defArgs s_View_show) (defBody s_View_show) (defScope s_View_show) .none kV doc pm an cdv ct) ⟨us, []⟩ = pure (r_View_show.ps.zip us)
  | [_, _, _, _], _ => by kernel_rfl
theorem ck_View_resize : T.ok prg 6 r_View_resize.N (defScope s_View_resize) b_View_resize (Sd.dropDoc (defBody s_View_resize)) = true := by decide +kernel
theorem gk_View_resize (kV doc pm : Value) (an : Option Addr) (cdv ct : Value) : ∀ us : List Value, us.length = 3 → bindArgs (PySem.W.fnOf r_View_resize.name r_View_resize.qual (defArgs s_View_resize) (defBody s_View_resize) (defScope s_View_resize) .none kV doc pm an cdv ct) ⟨us, []⟩ = pure (r_View_resize.ps.zip us)
  | [_, _, _], _ => by kernel_rfl
theorem ck_View_grow_ahead : T.ok prg 7 r_View_grow_ahead.N (defScope s_View_grow_ahead) b_View_grow_ahead (Sd.dropDoc (defBody s_View_grow_ahead)) = true := by decide +kernel
theorem gk_View_grow_ahead (kV doc pm : Value) (an : Option Addr) (cdv ct : Value) : ∀ us : List Value, us.length = 2 → bindArgs (PySem.W.fnOf r_View_grow_ahead.name r_View_grow_ahead.qual (defArgs s_View_grow_ahead) (defBody s_View_grow_ahead) (defScope s_View_grow_ahead) .none kV doc pm an cdv ct) ⟨us, []⟩ = pure (r_View_grow_ahead.ps.zip us)
  | [_, _], _ => by kernel_rfl
theorem ck_View_thumb : T.ok prg 8 r_View_thumb.N (defScope s_View_thumb) b_View_thumb (Sd.dropDoc (defBody s_View_thumb)) = true := by decide +kernel
theorem gk_View_thumb (kV doc pm : Value) (an : Option Addr) (cdv ct : Value) : ∀ us : List Value, us.length = 3 → bindArgs (PySem.W.fnOf r_View_thumb.name r_View_thumb.qual (defArgs s_View_thumb) (defBody s_View_thumb) (defScope s_View_thumb) .none kV doc pm an cdv ct) ⟨us, []⟩ = pure (r_View_thumb.ps.zip us)
  | [_, _, _], _ => by kernel_rfl
theorem ck_View_thumb_to : T.ok prg 9 r_View_thumb_to.N (defScope s_View_thumb_to) b_View_thumb_to (Sd.dropDoc (defBody s_View_thumb_to)) = true := by decide +kernel
theorem gk_View_thumb_to (kV doc pm : Value) (an : Option Addr) (cdv ct : Value) : ∀ us : List Value, us.length = 4 → bindArgs (PySem.W.fnOf r_View_thumb_to.name r_View_thumb_to.qual (defArgs s_View_thumb_to) (defBody s_View_thumb_to) (defScope s_View_thumb_to) .none kV doc pm an cdv ct) ⟨us, []⟩ = pure (r_View_thumb_to.ps.zip us)
  | [_, _, _, _], _ => by kernel_rfl
theorem ck_View_share_of : T.ok prg 10 r_View_share_of.N (defScope s_View_share_of) b_View_share_of (Sd.dropDoc (defBody s_View_share_of)) = true := by decide +kernel
theorem gk_View_share_of (kV doc pm : Value) (an : Option Addr) (cdv ct : Value) : ∀ us : List Value, us.length = 1 → bindArgs (PySem.W.fnOf r_View_share_of.name r_View_share_of.qual (defArgs s_View_share_of) (defBody s_View_share_of) (defScope s_View_share_of) .none kV doc pm an cdv ct) ⟨us, []⟩ = pure (r_View_share_of.ps.zip us)
  | [_], _ => by kernel_rfl
theorem ck_View_is_seen : T.ok prg 11 r_View_is_seen.N (defScope s_View_is_seen) b_View_is_seen (Sd.dropDoc (defBody s_View_is_seen)) = true := by decide +kernel
theorem gk_View_is_seen (kV doc pm : Value) (an : Option Addr) (cdv ct : Value) : ∀ us : List Value, us.length = 3 → bindArgs (PySem.W.fnOf r_View_is_seen.name r_View_is_seen.qual (defArgs s_View_is_seen) (defBody s_View_is_seen) (defScope s_View_is_seen) .none kV doc pm an cdv ct) ⟨us, []⟩ = pure (r_View_is_seen.ps.zip us)
  | [_, _, _], _ => by kernel_rfl
theorem ck_Swing_init : T.ok prg 12 r_Swing_init.N (defScope s_Swing_init) b_Swing_init (Sd.dropDoc (defBody s_Swing_init)) = true := by decide +kernel
theorem gk_Swing_init (kV doc pm : Value) (an : Option Addr) (cdv ct : Value) : ∀ us : List Value, us.length = 3 → bindArgs (PySem.W.fnOf r_Swing_init.name r_Swing_init.qual (defArgs s_Swing_init) (defBody s_Swing_init) (defScope s_Swing_init) .none kV doc pm an cdv ct) ⟨us, []⟩ = pure (r_Swing_init.ps.zip us)
  | [_, _, _], _ => by kernel_rfl
theorem ck_Swing_push : T.ok prg 13 r_Swing_push.N (defScope s_Swing_push) b_Swing_push (Sd.dropDoc (defBody s_Swing_push)) = true := by decide +kernel
theorem gk_Swing_push (kV doc pm : Value) (an : Option Addr) (cdv ct : Value) : ∀ us : List Value, us.length = 2 → bindArgs (PySem.W.fnOf r_Swing_push.name r_Swing_push.qual (defArgs s_Swing_push) (defBody s_Swing_push) (defScope s_Swing_push) .none kV doc pm an cdv ct) ⟨us, []⟩ = pure (r_Swing_push.ps.zip us)
  | [_, _], _ => by kernel_rfl
theorem ck_Swing_tick : T.ok prg 14 r_Swing_tick.N (defScope s_Swing_tick) b_Swing_tick (Sd.dropDoc (defBody s_Swing_tick)) = true := by decide +kernel
theorem gk_Swing_tick (kV doc pm : Value) (an : Option Addr) (cdv ct : Value) : ∀ us : List Value, us.length = 1 → bindArgs (PySem.W.fnOf r_Swing_tick.name r_Swing_tick.qual (defArgs s_Swing_tick) (defBody s_Swing_tick) (defScope s_Swing_tick) .none kV doc pm an cdv ct) ⟨us, []⟩ = pure (r_Swing_tick.ps.zip us)
  | [_], _ => by kernel_rfl
theorem ck_Swing_run : T.ok prg 15 r_Swing_run.N (defScope s_Swing_run) b_Swing_run (Sd.dropDoc (defBody s_Swing_run)) = true := by decide +kernel
theorem gk_Swing_run (kV doc pm : Value) (an : Option Addr) (cdv ct : Value) : ∀ us : List Value, us.length = 2 → bindArgs (PySem.W.fnOf r_Swing_run.name r_Swing_run.qual (defArgs s_Swing_run) (defBody s_Swing_run) (defScope s_Swing_run) .none kV doc pm an cdv ct) ⟨us, []⟩ = pure (r_Swing_run.ps.zip us)
  | [_, _], _ => by kernel_rfl
theorem ck_together : T.ok prg 16 r_together.N (defScope s_together) b_together (Sd.dropDoc (defBody s_together)) = true := by decide +kernel
theorem gk_together (kV doc pm : Value) (an : Option Addr) (cdv ct : Value) : ∀ us : List Value, us.length = 2 → bindArgs (PySem.W.fnOf r_together.name r_together.qual (defArgs s_together) (defBody s_together) (defScope s_together) .none kV doc pm an cdv ct) ⟨us, []⟩ = pure (r_together.ps.zip us)
  | [_, _], _ => by kernel_rfl
theorem ck_snap_place : T.ok prg 17 r_snap_place.N (defScope s_snap_place) b_snap_place (Sd.dropDoc (defBody s_snap_place)) = true := by decide +kernel
theorem gk_snap_place (kV doc pm : Value) (an : Option Addr) (cdv ct : Value) : ∀ us : List Value, us.length = 2 → bindArgs (PySem.W.fnOf r_snap_place.name r_snap_place.qual (defArgs s_snap_place) (defBody s_snap_place) (defScope s_snap_place) .none kV doc pm an cdv ct) ⟨us, []⟩ = pure (r_snap_place.ps.zip us)
  | [_, _], _ => by kernel_rfl
theorem ck_sticky_tops : T.ok prg 18 r_sticky_tops.N (defScope s_sticky_tops) b_sticky_tops (Sd.dropDoc (defBody s_sticky_tops)) = true := by decide +kernel
theorem gk_sticky_tops (kV doc pm : Value) (an : Option Addr) (cdv ct : Value) : ∀ us : List Value, us.length = 3 → bindArgs (PySem.W.fnOf r_sticky_tops.name r_sticky_tops.qual (defArgs s_sticky_tops) (defBody s_sticky_tops) (defScope s_sticky_tops) .none kV doc pm an cdv ct) ⟨us, []⟩ = pure (r_sticky_tops.ps.zip us)
  | [_, _, _], _ => by kernel_rfl
theorem ck_law_dice : T.ok prg 19 r_law_dice.N (defScope s_law_dice) b_law_dice (Sd.dropDoc (defBody s_law_dice)) = true := by decide +kernel
theorem gk_law_dice (kV doc pm : Value) (an : Option Addr) (cdv ct : Value) : ∀ us : List Value, us.length = 1 → bindArgs (PySem.W.fnOf r_law_dice.name r_law_dice.qual (defArgs s_law_dice) (defBody s_law_dice) (defScope s_law_dice) .none kV doc pm an cdv ct) ⟨us, []⟩ = pure (r_law_dice.ps.zip us)
  | [_], _ => by kernel_rfl
theorem ck_law_roll : T.ok prg 20 r_law_roll.N (defScope s_law_roll) b_law_roll (Sd.dropDoc (defBody s_law_roll)) = true := by decide +kernel
theorem gk_law_roll (kV doc pm : Value) (an : Option Addr) (cdv ct : Value) : ∀ us : List Value, us.length = 2 → bindArgs (PySem.W.fnOf r_law_roll.name r_law_roll.qual (defArgs s_law_roll) (defBody s_law_roll) (defScope s_law_roll) .none kV doc pm an cdv ct) ⟨us, []⟩ = pure (r_law_roll.ps.zip us)
  | [_, _], _ => by kernel_rfl
theorem ck_law_rounds : T.ok prg 21 r_law_rounds.N (defScope s_law_rounds) b_law_rounds (Sd.dropDoc (defBody s_law_rounds)) = true := by decide +kernel
theorem gk_law_rounds (kV doc pm : Value) (an : Option Addr) (cdv ct : Value) : ∀ us : List Value, us.length = 2 → bindArgs (PySem.W.fnOf r_law_rounds.name r_law_rounds.qual (defArgs s_law_rounds) (defBody s_law_rounds) (defScope s_law_rounds) .none kV doc pm an cdv ct) ⟨us, []⟩ = pure (r_law_rounds.ps.zip us)
  | [_, _], _ => by kernel_rfl
theorem ck_law_told : T.ok prg 22 r_law_told.N (defScope s_law_told) b_law_told (Sd.dropDoc (defBody s_law_told)) = true := by decide +kernel
theorem gk_law_told (kV doc pm : Value) (an : Option Addr) (cdv ct : Value) : ∀ us : List Value, us.length = 1 → bindArgs (PySem.W.fnOf r_law_told.name r_law_told.qual (defArgs s_law_told) (defBody s_law_told) (defScope s_law_told) .none kV doc pm an cdv ct) ⟨us, []⟩ = pure (r_law_told.ps.zip us)
  | [_], _ => by kernel_rfl
theorem ck_law_clip : T.ok prg 23 r_law_clip.N (defScope s_law_clip) b_law_clip (Sd.dropDoc (defBody s_law_clip)) = true := by decide +kernel
theorem gk_law_clip (kV doc pm : Value) (an : Option Addr) (cdv ct : Value) : ∀ us : List Value, us.length = 3 → bindArgs (PySem.W.fnOf r_law_clip.name r_law_clip.qual (defArgs s_law_clip) (defBody s_law_clip) (defScope s_law_clip) .none kV doc pm an cdv ct) ⟨us, []⟩ = pure (r_law_clip.ps.zip us)
  | [_, _, _], _ => by kernel_rfl
theorem ck_law_show : T.ok prg 24 r_law_show.N (defScope s_law_show) b_law_show (Sd.dropDoc (defBody s_law_show)) = true := by decide +kernel
theorem gk_law_show (kV doc pm : Value) (an : Option Addr) (cdv ct : Value) : ∀ us : List Value, us.length = 6 → bindArgs (PySem.W.fnOf r_law_show.name r_law_show.qual (defArgs s_law_show) (defBody s_law_show) (defScope s_law_show) .none kV doc pm an cdv ct) ⟨us, []⟩ = pure (r_law_show.ps.zip us)
  | [_, _, _, _, _, _], _ => by kernel_rfl
theorem ck_law_plain : T.ok prg 25 r_law_plain.N (defScope s_law_plain) b_law_plain (Sd.dropDoc (defBody s_law_plain)) = true := by decide +kernel
theorem gk_law_plain (kV doc pm : Value) (an : Option Addr) (cdv ct : Value) : ∀ us : List Value, us.length = 0 → bindArgs (PySem.W.fnOf r_law_plain.name r_law_plain.qual (defArgs s_law_plain) (defBody s_law_plain) (defScope s_law_plain) .none kV doc pm an cdv ct) ⟨us, []⟩ = pure (r_law_plain.ps.zip us)
  | [], _ => by kernel_rfl
theorem ck_law_rest : T.ok prg 26 r_law_rest.N (defScope s_law_rest) b_law_rest (Sd.dropDoc (defBody s_law_rest)) = true := by decide +kernel
theorem gk_law_rest (kV doc pm : Value) (an : Option Addr) (cdv ct : Value) : ∀ us : List Value, us.length = 4 → bindArgs (PySem.W.fnOf r_law_rest.name r_law_rest.qual (defArgs s_law_rest) (defBody s_law_rest) (defScope s_law_rest) .none kV doc pm an cdv ct) ⟨us, []⟩ = pure (r_law_rest.ps.zip us)
  | [_, _, _, _], _ => by kernel_rfl
theorem ck_law_swings : T.ok prg 27 r_law_swings.N (defScope s_law_swings) b_law_swings (Sd.dropDoc (defBody s_law_swings)) = true := by decide +kernel
theorem gk_law_swings (kV doc pm : Value) (an : Option Addr) (cdv ct : Value) : ∀ us : List Value, us.length = 4 → bindArgs (PySem.W.fnOf r_law_swings.name r_law_swings.qual (defArgs s_law_swings) (defBody s_law_swings) (defScope s_law_swings) .none kV doc pm an cdv ct) ⟨us, []⟩ = pure (r_law_swings.ps.zip us)
  | [_, _, _, _], _ => by kernel_rfl
theorem ck_law : T.ok prg 28 r_law.N (defScope s_law) b_law (Sd.dropDoc (defBody s_law)) = true := by decide +kernel
theorem gk_law (kV doc pm : Value) (an : Option Addr) (cdv ct : Value) : ∀ us : List Value, us.length = 1 → bindArgs (PySem.W.fnOf r_law.name r_law.qual (defArgs s_law) (defBody s_law) (defScope s_law) .none kV doc pm an cdv ct) ⟨us, []⟩ = pure (r_law.ps.zip us)
  | [_], _ => by kernel_rfl
theorem TO : TOk T prg where
  nf := by decide +kernel
  meth := fun _ _ => rfl
  big := by decide +kernel
  np := by decide +kernel
  sc := by decide +kernel
  body := fun f hf => match f, hf with
    | 0, _ => ck_View_init
    | 1, _ => ck_View_most_place
    | 2, _ => ck_View_go
    | 3, _ => ck_View_by
    | 4, _ => ck_View_page
    | 5, _ => ck_View_show
    | 6, _ => ck_View_resize
    | 7, _ => ck_View_grow_ahead
    | 8, _ => ck_View_thumb
    | 9, _ => ck_View_thumb_to
    | 10, _ => ck_View_share_of
    | 11, _ => ck_View_is_seen
    | 12, _ => ck_Swing_init
    | 13, _ => ck_Swing_push
    | 14, _ => ck_Swing_tick
    | 15, _ => ck_Swing_run
    | 16, _ => ck_together
    | 17, _ => ck_snap_place
    | 18, _ => ck_sticky_tops
    | 19, _ => ck_law_dice
    | 20, _ => ck_law_roll
    | 21, _ => ck_law_rounds
    | 22, _ => ck_law_told
    | 23, _ => ck_law_clip
    | 24, _ => ck_law_show
    | 25, _ => ck_law_plain
    | 26, _ => ck_law_rest
    | 27, _ => ck_law_swings
    | 28, _ => ck_law
    | n + 29, h => absurd (show n + 29 < 29 from h) (by omega)
  binds := fun f hf kV doc pm an cdv ct us hl => match f, hf, hl with
    | 0, _, hl => gk_View_init kV doc pm an cdv ct us hl
    | 1, _, hl => gk_View_most_place kV doc pm an cdv ct us hl
    | 2, _, hl => gk_View_go kV doc pm an cdv ct us hl
    | 3, _, hl => gk_View_by kV doc pm an cdv ct us hl
    | 4, _, hl => gk_View_page kV doc pm an cdv ct us hl
    | 5, _, hl => gk_View_show kV doc pm an cdv ct us hl
    | 6, _, hl => gk_View_resize kV doc pm an cdv ct us hl
    | 7, _, hl => gk_View_grow_ahead kV doc pm an cdv ct us hl
    | 8, _, hl => gk_View_thumb kV doc pm an cdv ct us hl
    | 9, _, hl => gk_View_thumb_to kV doc pm an cdv ct us hl
    | 10, _, hl => gk_View_share_of kV doc pm an cdv ct us hl
    | 11, _, hl => gk_View_is_seen kV doc pm an cdv ct us hl
    | 12, _, hl => gk_Swing_init kV doc pm an cdv ct us hl
    | 13, _, hl => gk_Swing_push kV doc pm an cdv ct us hl
    | 14, _, hl => gk_Swing_tick kV doc pm an cdv ct us hl
    | 15, _, hl => gk_Swing_run kV doc pm an cdv ct us hl
    | 16, _, hl => gk_together kV doc pm an cdv ct us hl
    | 17, _, hl => gk_snap_place kV doc pm an cdv ct us hl
    | 18, _, hl => gk_sticky_tops kV doc pm an cdv ct us hl
    | 19, _, hl => gk_law_dice kV doc pm an cdv ct us hl
    | 20, _, hl => gk_law_roll kV doc pm an cdv ct us hl
    | 21, _, hl => gk_law_rounds kV doc pm an cdv ct us hl
    | 22, _, hl => gk_law_told kV doc pm an cdv ct us hl
    | 23, _, hl => gk_law_clip kV doc pm an cdv ct us hl
    | 24, _, hl => gk_law_show kV doc pm an cdv ct us hl
    | 25, _, hl => gk_law_plain kV doc pm an cdv ct us hl
    | 26, _, hl => gk_law_rest kV doc pm an cdv ct us hl
    | 27, _, hl => gk_law_swings kV doc pm an cdv ct us hl
    | 28, _, hl => gk_law kV doc pm an cdv ct us hl
    | n + 29, h, _ => absurd (show n + 29 < 29 from h) (by omega)
  an := by decide +kernel
  amn := by decide +kernel
  ae := by decide +kernel
  ml := by decide +kernel
  gf := by decide +kernel
  gk := by decide +kernel
  m0 := by decide +kernel
  gx := by decide +kernel
  tw := by decide +kernel
  sb := fun d c h => by have h : subT.contains (d, c) = true := h; show (d, c) ∈ subT; simpa using h
abbrev R : PySem.W.OpenRow := PySem.W.OpenLaw.row PySem.Challenge.rw_widgetstack_k11_a_view_on_what_is_larger
abbrev tf : List He.Defn := (T.gn ++ T.ln).map fun f => (T.f f).at_
abbrev hx (K : PySem.W.Frag) : Bool := decide (((T.gn ++ T.ln).map fun f => (He.cT K (T.f f).at_).2).Nodup)
abbrev hk : PySem.W.Hook := He.hookX 4 T.fa T.fn [] tf hx
def ob (s : PySem.W.SharedT) : He.AlX := He.obsX 4 T.fa T.fn [] tf hx (HandSHeadRun.getT s)
theorem ob_eq (s : PySem.W.SharedT) : ob s = hk.obs s.abs := He.obsX_eq (HandSHeadRun.getT_eq s)
def loose : List Str := ["WidgetFault", "ScrollError", "MOST_SCROLLED", "View", "Swing", "together", "snap_place", "sticky_tops", "_law_dice", "_law_roll", "_law_rounds", "_law_told", "_law_clip", "_law_show", "_law_plain", "_law_rest", "_law_swings"]
theorem run (w : World) : HandSHeadRun.RunEq R (PySem.W.view R.prog [20]) hk ob 6000 loose w := by
  intro os
  kernel_rfl
end K11
open PySem PySem.W PySem.Calls PyProof.Rows
theorem PySem.Challenge.cw_widgetstack_k11_a_view_on_what_is_larger_holds : PySem.Challenge.rw_widgetstack_k11_a_view_on_what_is_larger.Holds := by
  w_on; o_law
  refine HandSHeadRun.head_any (r := OpenLaw.row PySem.Challenge.rw_widgetstack_k11_a_view_on_what_is_larger) (q := view (OpenLaw.row PySem.Challenge.rw_widgetstack_k11_a_view_on_what_is_larger).prog [20]) (H := K11.hk) (ob := K11.ob) (M := 6000) (loose := K11.loose) (d := HandSHeadRun.topDef (OpenLaw.row PySem.Challenge.rw_widgetstack_k11_a_view_on_what_is_larger).prog 20) (kwd := []) K11.ob_eq
    (by kernel_rfl) (fun s => by kernel_rfl) K11.run (by kernel_rfl) (by kernel_rfl) (by kernel_rfl) (by rfl) (by first | assumption | decide +kernel) (by decide +kernel) ⟨rfl, rfl, rfl, rfl, rfl, by decide +kernel⟩ ?hw ?hc
  case hw => w_witness2
  case hc =>
    exact Sd.law_end (ex := K11.hx) (l := PySem.Challenge.rw_widgetstack_k11_a_view_on_what_is_larger) (n := 63) (N := 30) (fl := K11.f_law) (T := K11.T) (pr := K11.prg) (x := "script") rfl (by decide) (by kernel_rfl) ⟨rfl, by decide, by decide⟩ K11.TO (fun _ _ Y => Y) (fun K h => of_decide_eq_true h) (by decide +kernel) (by kernel_rfl) (by kernel_rfl) (by decide +kernel) K11.plain
