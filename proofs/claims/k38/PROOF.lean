import PyProof.Rows.All
import Wide.All
import OpenK.AllK
import Wide.FinOn
import HandS.ForMost
import HandS.Text
import PyProof.ReprLen
import PyProof.ReprRoads
import HandS.Gcd
import HandS.Wide
import HandS.IsInst
import HandS.Deep
import HandS.TupAny
import HandS.Style
import HandS.Defaults
import HandS.Conv
import HandS.Exc
import HandS.CallSlots
import HandS.TupMul
import KE.KTupSum
import KE.SortData
import HandS.More
import KE.DataFind
import HandS.CallLocal
import HandS.Star
import KE.KIndexWalk
import KE.GoesMore
import KE.GoesEnum
import PyProof.EnumMake
import HandS.Zip
import HandS.TryMany
import HandS.Codes
import HandS.Head0
import HandS.Head1
import HandS.Head2
import HandS.Head3
import HandS.HeadEnd
import HandS.HeadHook1
import HandS.HeadHook2
import PySem.Challenge.RW_tickhands_k38_whole_seats_by_rests
set_option Elab.async false
set_option linter.all false
set_option maxRecDepth 100000
set_option maxHeartbeats 2000000
/-! A small interpreter over plain values for the part of Python that the laws' texts use, and its soundness over the hand layer. -/
namespace Tk
open PySem

/-- plain values -/
inductive D where
  | non | bl (b : Bool) | int (i : Int) | str (s : Str)
  | tup (xs : List D) | lst (xs : List D)
  | scr (ns : List Int)          -- the script: a list of ints that nobody changes
  | fn (i : Nat)                 -- a def of the text
  | dct                          -- {}
  deriving Inhabited

/-- a name's place in a frame. val: a value that stays; own: a list that this name alone holds; ref: the same, lent by the caller; lock: own (false) or lent (true), walked just now -/
inductive Slot where
  | none | val (d : D) | own (d : D) | ref (d : D) | lock (r : Bool) (d : D)
  deriving Inhabited
abbrev Env := List Slot

inductive R (α : Type) where
  | ok (a : α) (ρ : Env) | err (c : Nat) (d : D) (ρ : Env) | stuck
def R.bind {α β : Type} (r : R α) (f : α → Env → R β) : R β := match r with
  | .ok a ρ => f a ρ
  | .err c d ρ => .err c d ρ
  | .stuck => .stuck
def ofO {α : Type} (o : Option α) (ρ : Env) : R α := match o with
  | some a => .ok a ρ
  | none => .stuck
/-- what a call comes to: the value, the arguments' places behind it -/
inductive CR where
  | ok (d : D) (out : List Slot) | err (c : Nat) (d : D) | stuck

inductive Op where
  | add | sub | mul | fdiv | mod | pow
  deriving DecidableEq
inductive Cm where
  | eq | ne | lt | le | gt | ge | is | isnot | inn | notin
  deriving DecidableEq
inductive Ty where
  | int | bool | str | tuple | list | dict
  deriving DecidableEq
inductive Bi where
  | len | abs | int | sum | all | any | list | tuple | gcd | max1 | min1 | max2 | min2 | divmod | repr | sorted
  deriving DecidableEq
inductive Mt where
  | append | pop | popAt | insert | extend
  deriving DecidableEq
inductive Tg where
  | name (i : Nat) | tup (is : List Nat)
  | nest (l : Bool) (is : List Nat) (j : Nat)   -- ((is), j) or (j, (is))

mutual
inductive E where
  | var (i : Nat)
  | con (d : D)
  | glob (g : Nat)
  | bin (o : Op) (a b : E)
  | neg (a : E)
  | cmp (o : Cm) (a b : E)
  | chain (o o' : Cm) (a b c : E)
  | and (es : Es)
  | or (es : Es)
  | not (a : E)
  | ife (c a b : E)
  | tup (es : Es)
  | lst (es : Es)
  | idx (a b : E)
  | sl (a : E) (lo hi : Eo)
  | rev (a : E)
  | call (f : Nat) (as : As)
  | callk (f : Nat) (kw : Es) (ks : List Nat)
  | callv (i : Nat) (as : As)
  | calln (f : Nat) (e : E)   -- f(e): e a new list that f may change
  | join (s : Str) (e : E)   -- s.join(e), s written
  | cnt (b : Bool) (a x : E)   -- a.count(x), a a tuple (true) or a list
  | tupS (a b : E)   -- (*a, b)
  | bi (b : Bi) (es : Es)
  | isi (a : E) (ts : List Ty)
  | lrange (lo : Eo) (hi : E)
  | trange (hi : E)   -- tuple(range(hi))
  | mt (m : Mt) (i : Nat) (es : Es)
  | comp (elt : E) (tg : Tg) (it : It) (ifs : Eo) (own : List Nat)
  | comp2 (elt : E) (tg : Tg) (it : It) (tg1 : Tg) (it1 : It) (ifs : Eo) (own : List Nat)
inductive Es where
  | nil | cons (e : E) (es : Es)
inductive Eo where
  | none | some (e : E)
inductive As where
  | nil | val (e : E) (as : As) | ref (i : Nat) (as : As)
inductive It where
  | seq (e : E) | rng (lo : Eo) (hi : E) | rngC (lo hi : E) (c : Int) | enum (e : E) | zip (a b : E)
end

mutual
inductive S where
  | asg (tg : Tg) (e : E)
  | asgO (i : Nat) (e : E)
  | par (is : List Nat) (fl : List Bool) (es : Es)
  | setI (i : Nat) (ix e : E)
  | setT (i : Nat) (ix : E) (j : Nat) (e : E)   -- x[ix], y = e
  | expr (e : E)
  | ret (e : E)
  | retN
  | ife (c : E) (a b : Ss)
  | for_ (tg : Tg) (it : It) (body : Ss)
  | while_ (c : E) (body : Ss)
  | brk | cont | pass
  | raise_
inductive Ss where
  | nil | cons (s : S) (ss : Ss)
end

/-! ### values -/
mutual
def D.beq : D → D → Bool
  | .non, .non => true
  | .bl a, .bl b => a == b
  | .bl a, .int j => (if a then (1 : Int) else 0) == j
  | .int i, .bl b => i == (if b then (1 : Int) else 0)
  | .int i, .int j => i == j
  | .str x, .str y => x == y
  | .tup xs, .tup ys => D.beqs xs ys
  | .lst xs, .lst ys => D.beqs xs ys
  | _, _ => false
def D.beqs : List D → List D → Bool
  | [], [] => true
  | x :: xs, y :: ys => D.beq x y && D.beqs xs ys
  | _, _ => false
end
mutual
/-- data that == may be asked of: none, bools, ints, texts, tuples and lists, at most n deep -/
def D.flat : Nat → D → Bool
  | _, .non => true
  | _, .bl _ => true
  | _, .int _ => true
  | _, .str _ => true
  | n + 1, .tup xs => D.flats n xs
  | n + 1, .lst xs => D.flats n xs
  | _, _ => false
def D.flats : Nat → List D → Bool
  | _, [] => true
  | n, x :: xs => D.flat n x && D.flats n xs
end
def strGood (s : Str) : Bool := decide (s.length ≤ 16777216) && s.cps.all (· < 0x110000)
def eqD (a b : D) : Option Bool := if D.flat 60 a && D.flat 60 b then some (D.beq a b) else none

/-! ### data as the library has it -/
mutual
def toP : D → PyData
  | .non => .none
  | .bl b => .bool b
  | .int i => .int i
  | .str s => .str s
  | .tup xs => .tuple (toPs xs)
  | .lst xs => .list (toPs xs)
  | .scr _ => .none
  | .fn _ => .none
  | .dct => .none
def toPs : List D → List PyData
  | [] => []
  | x :: xs => toP x :: toPs xs
end
mutual
/-- values whose text may be made: no texts, ints of up to 12 figures -/
def rsm : D → Bool
  | .int i => decide (i.natAbs < 10 ^ 12)
  | .str _ => false
  | .tup xs => rsms xs
  | .lst xs => rsms xs
  | _ => true
def rsms : List D → Bool
  | [] => true
  | x :: xs => rsm x && rsms xs
end
mutual
def rwt : D → Nat
  | .int _ => 40
  | .tup xs => rwts xs
  | .lst xs => rwts xs
  | _ => 0
def rwts : List D → Nat
  | [] => 0
  | x :: xs => rwt x + 1 + rwts xs
end
def reprF (d : D) : Option D := if D.flat 60 d && rsm d && decide (rwt d ≤ 2 ^ 20) then some (.str (toP d).shown) else none

def neTup : D → Bool
  | .tup (_ :: _) => true
  | _ => false
def noTup : D → Bool
  | .tup _ => false
  | .non => false
  | _ => true
/-- alike data that sorted may be asked of -/
def okSort (xs : List D) : Bool := D.flats 59 xs && decide (xs.length ≤ 16777216) && (xs.all fun a => xs.all fun b => PySem.W.alike (toP a) (toP b)) && (xs.all neTup || xs.all noTup)
def leD (a b : D) : Bool := !PySem.W.dataLt (toP b) (toP a)
def sortF (xs : List D) : Option D := if okSort xs then some (.lst (xs.mergeSort leD)) else none
def big : Nat := 16777216
def mulOk (i j : Int) : Bool := (decide (-(2 ^ 64) < i) && decide (i < 2 ^ 64)) || (decide (-(2 ^ 64) < j) && decide (j < 2 ^ 64)) || decide (i.natAbs.log2 + j.natAbs.log2 < 1000000)
def divOk (j : Int) : Bool := decide (0 < j) && (decide (j < 1073741824) || decide (j.natAbs.log2 < 9000))
def ixOf (n : Nat) (i : Int) : Option Nat := if 0 ≤ i then (if i < n then some i.toNat else none) else if -(n : Int) ≤ i then some (i + n).toNat else none
def sIx (n d : Nat) (o : Option Int) : Nat := match o with
  | none => d
  | some v => if v < 0 then (v + n).toNat else min v.toNat n
def cut {α : Type} (xs : List α) (lo hi : Option Int) : List α := (xs.drop (sIx xs.length 0 lo)).take (sIx xs.length xs.length hi - sIx xs.length 0 lo)

def binF : Op → D → D → Option D
  | .add, .int i, .int j => some (.int (i + j))
  | .add, .str x, .str y => if x.length + y.length ≤ big then some (.str (x ++ y)) else none
  | .add, .tup xs, .tup ys => if xs.length + ys.length ≤ big then some (.tup (xs ++ ys)) else none
  | .add, .lst xs, .lst ys => if xs.length + ys.length ≤ big then some (.lst (xs ++ ys)) else none
  | .sub, .int i, .int j => some (.int (i - j))
  | .mul, .int i, .int j => if mulOk i j then some (.int (i * j)) else none
  | .mul, .lst xs, .int k => if decide (-(2 ^ 63) ≤ k) && decide (k < 2 ^ 63) && decide (xs.length * k.toNat ≤ big) then some (.lst (List.replicate k.toNat xs).flatten) else none
  | .mul, .tup xs, .int k => if decide (1 ≤ k) && decide (k ≤ 1000) && decide (xs.length ≤ 1000) && decide (0 < xs.length) then some (.tup (List.replicate k.toNat xs).flatten) else none
  | .pow, .int i, .int j => if decide (0 ≤ j) && decide (j ≤ 1000) && decide (i.natAbs < 2 ^ 64) then some (.int (i ^ j.toNat)) else none
  | .fdiv, .int i, .int j => if divOk j then some (.int (i / j)) else none
  | .mod, .int i, .int j => if 0 < j then some (.int (i % j)) else none
  | _, _, _ => none
def lexLt : List Int → List Int → Bool
  | [], [] => false
  | [], _ :: _ => true
  | _ :: _, [] => false
  | x :: xs, y :: ys => if x = y then lexLt xs ys else decide (x < y)
def intsOf : List D → Option (List Int)
  | [] => some []
  | .int i :: ds => (intsOf ds).map (i :: ·)
  | _ :: _ => none
def blsOf : List D → Option (List Bool)
  | [] => some []
  | .bl i :: ds => (blsOf ds).map (i :: ·)
  | _ :: _ => none
def strsOf : List D → Option (List Str)
  | [] => some []
  | .str i :: ds => (strsOf ds).map (i :: ·)
  | _ :: _ => none
def joinS (s : Str) (xs : List D) : Option D := (strsOf xs).bind fun ys => if (ys.map (·.length)).sum + ys.length * s.length ≤ big then some (.str (Str.join s ys)) else none
def joinF (s : Str) : D → Option D
  | .lst xs => joinS s xs
  | .tup xs => joinS s xs
  | _ => none
def anyEq (x : D) : List D → Bool
  | [] => false
  | y :: ys => D.beq y x || anyEq x ys
def inD (x : D) : D → Option Bool
  | .lst ys => if D.flat 60 x && D.flats 59 ys then some (anyEq x ys) else none
  | .tup ys => if D.flat 60 x && D.flats 59 ys then some (anyEq x ys) else none
  | _ => none
def isSq (b : Bool) : D → Bool
  | .tup _ => b
  | .lst _ => !b
  | _ => false
def cntF (b : Bool) : D → D → Option D
  | .tup xs, y => if b && D.flat 59 y && D.flats 58 xs then some (.int ((xs.countP fun x => D.beq x y : Nat) : Int)) else none
  | .lst xs, y => if !b && D.flat 59 y && D.flats 58 xs then some (.int ((xs.countP fun x => D.beq x y : Nat) : Int)) else none
  | _, _ => none
def starF : D → D → Option D
  | .tup xs, y => if xs.length < big then some (.tup (xs ++ [y])) else none
  | _, _ => none
def cmpF : Cm → D → D → Option Bool
  | .eq, a, b => eqD a b
  | .ne, a, b => (eqD a b).map (!·)
  | .lt, .int i, .int j => some (decide (i < j))
  | .lt, .tup xs, .tup ys => match intsOf xs, intsOf ys with
    | some a, some b => some (lexLt a b)
    | _, _ => none
  | .le, .int i, .int j => some (decide (i ≤ j))
  | .gt, .int i, .int j => some (decide (j < i))
  | .ge, .int i, .int j => some (decide (j ≤ i))
  | .is, a, .non => some (match a with | .non => true | _ => false)
  | .isnot, a, .non => some (match a with | .non => false | _ => true)
  | .is, .bl a, .bl b => some (a == b)
  | .isnot, .bl a, .bl b => some (!(a == b))
  | .inn, a, b => inD a b
  | .notin, a, b => (inD a b).map (!·)
  | _, _, _ => none
def isTy : D → Ty → Bool
  | .bl _, .int => true
  | .bl _, .bool => true
  | .int _, .int => true
  | .str _, .str => true
  | .tup _, .tuple => true
  | .lst _, .list => true
  | .scr _, .list => true
  | .dct, .dict => true
  | _, _ => false
def tyOk : D → Bool
  | .fn _ => false
  | _ => true
def maxI : Int → List Int → Int
  | m, [] => m
  | m, x :: xs => maxI (if x > m then x else m) xs
def minI : Int → List Int → Int
  | m, [] => m
  | m, x :: xs => minI (if x < m then x else m) xs
def biF : Bi → List D → Option D
  | .len, [.lst xs] => some (.int xs.length)
  | .len, [.tup xs] => some (.int xs.length)
  | .len, [.scr xs] => some (.int xs.length)
  | .len, [.str x] => some (.int x.length)
  | .abs, [.int i] => some (.int (if i < 0 then -i else i))
  | .int, [.int i] => some (.int i)
  | .int, [.bl b] => some (.int (if b then 1 else 0))
  | .sum, [.lst xs] => (intsOf xs).map fun ns => .int ns.sum
  | .sum, [.tup xs] => (intsOf xs).map fun ns => .int ns.sum
  | .all, [.lst xs] => (blsOf xs).map fun bs => .bl (bs.all id)
  | .any, [.lst xs] => (blsOf xs).map fun bs => .bl (bs.any id)
  | .repr, [.lst xs] => reprF (.lst xs)
  | .repr, [.tup xs] => reprF (.tup xs)
  | .sorted, [.lst xs] => sortF xs
  | .list, [.lst xs] => some (.lst xs)
  | .list, [.tup xs] => some (.lst xs)
  | .list, [.scr xs] => some (.lst (xs.map .int))
  | .tuple, [.lst xs] => some (.tup xs)
  | .tuple, [.tup xs] => some (.tup xs)
  | .gcd, [.int a, .int b] => some (.int ((Nat.gcd a.natAbs b.natAbs : Nat) : Int))
  | .max1, [.lst xs] => match intsOf xs with
    | some (n :: ns) => some (.int (maxI n ns))
    | _ => none
  | .min1, [.lst xs] => match intsOf xs with
    | some (n :: ns) => some (.int (minI n ns))
    | _ => none
  | .max2, [.int i, .int j] => some (.int (if j > i then j else i))
  | .min2, [.int i, .int j] => some (.int (if j < i then j else i))
  | .divmod, [.int i, .int j] => if 0 < j ∧ j < 1073741824 then some (.tup [.int (i / j), .int (i % j)]) else none
  | _, _ => none
def ixF : D → D → Option D
  | .lst xs, .int i => (ixOf xs.length i).bind fun j => xs[j]?
  | .tup xs, .int i => (ixOf xs.length i).bind fun j => xs[j]?
  | .scr xs, .int i => (ixOf xs.length i).bind fun j => (xs[j]?).map .int
  | _, _ => none
def slF : D → Option Int → Option Int → Option D
  | .lst xs, lo, hi => some (.lst (cut xs lo hi))
  | .tup xs, lo, hi => some (.tup (cut xs lo hi))
  | .scr xs, lo, hi => some (.lst ((cut xs lo hi).map .int))
  | _, _, _ => none
def revF : D → Option D
  | .lst xs => some (.lst xs.reverse)
  | .tup xs => some (.tup xs.reverse)
  | .scr xs => some (.lst (xs.reverse.map .int))
  | _ => none
/-- a changing method of a list: what comes back, the list behind it -/
def mtF : Mt → List D → List D → Option (D × List D)
  | .append, xs, [y] => if xs.length < big then some (.non, xs ++ [y]) else none
  | .pop, xs, [] => (xs[xs.length - 1]?).map fun y => (y, xs.dropLast)
  | .insert, xs, [.int i, y] => if xs.length < big ∧ 0 ≤ i ∧ i < 2 ^ 63 then some (.non, xs.take i.toNat ++ [y] ++ xs.drop i.toNat) else none
  | .extend, xs, [.lst ys] => if xs.length + ys.length ≤ big then some (.non, xs ++ ys) else none
  | .popAt, xs, [.int i] => if -(2 ^ 63) ≤ i ∧ i < 2 ^ 63 then (ixOf xs.length i).bind fun k => (xs[k]?).map fun y => (y, xs.eraseIdx k) else none
  | _, _, _ => none

/-! ### names -/
def getS (ρ : Env) (i : Nat) : Slot := ρ.getD i .none
/-- the list at a name that holds it alone, or lent -/
def ownD : Slot → Option D
  | .own d => some d
  | .ref d => some d
  | _ => none
/-- a name's value, to look at -/
def seeD : Slot → Option D
  | .val d => some d
  | .own d => some d
  | .ref d => some d
  | .lock _ d => some d
  | .none => none
/-- with another content -/
def Slot.with (s : Slot) (d : D) : Slot := match s with
  | .own _ => .own d
  | .ref _ => .ref d
  | s => s
/-- a name may be stored anew -/
def Slot.free : Slot → Bool
  | .ref _ => false
  | .lock _ _ => false
  | _ => true
def putS (ρ : Env) (i : Nat) (s : Slot) : Option Env := if (getS ρ i).free && decide (i < ρ.length) then some (ρ.set i s) else none
def putAll : Env → List Nat → List D → Option Env
  | ρ, [], [] => some ρ
  | ρ, i :: is, d :: ds => (putS ρ i (.val d)).bind fun ρ' => putAll ρ' is ds
  | _, _, _ => none
/-- values stored, the ones flagged as lists that this name alone holds -/
def putMix : List Nat → List Bool → List D → Env → Option Env
  | [], [], [], ρ => some ρ
  | i :: is, b :: bs, d :: ds, ρ => (putS ρ i (if b then .own d else .val d)).bind fun ρ' => putMix is bs ds ρ'
  | _, _, _, _ => none
def isLst : D → Bool
  | .lst _ => true
  | _ => false
def tgIx : Tg → List Nat
  | .name i => [i]
  | .tup is => is
  | .nest _ is j => is ++ [j]
def putT (tg : Tg) (d : D) (ρ : Env) : Option Env := match tg with
  | .name i => putS ρ i (.val d)
  | .tup is => match d with
    | .tup ds => putAll ρ is ds
    | _ => none
  | .nest true is j => match d with
    | .tup [.tup ds, e] => (putAll ρ is ds).bind fun ρ1 => putS ρ1 j (.val e)
    | _ => none
  | .nest false is j => match d with
    | .tup [e, .tup ds] => (putS ρ j (.val e)).bind fun ρ1 => putAll ρ1 is ds
    | _ => none
def wipeS (ρ : Env) : List Nat → Env
  | [] => ρ
  | i :: is => (wipeS ρ is).set i .none
/-- the places at own as they were in ρ0, all others as they are in ρ -/
def back (ρ0 ρ : Env) : List Nat → Env
  | [] => ρ
  | i :: is => (back ρ0 ρ is).set i (getS ρ0 i)
/-- an operand: a value, or a name to be looked at later -/
inductive Od where
  | dat (d : D) | slot (i : Nat)
def rd (ρ : Env) : Od → Option D
  | .dat d => some d
  | .slot i => seeD (getS ρ i)
def rds (ρ : Env) : List Od → Option (List D)
  | [] => some []
  | o :: os => (rd ρ o).bind fun d => (rds ρ os).map (d :: ·)
/-- an argument's place: a value, or a lent list -/
def arg (ρ : Env) : Od → Option Slot
  | .dat d => some (.val d)
  | .slot i => (ownD (getS ρ i)).map .ref
def args (ρ : Env) : List Od → Option (List Slot)
  | [] => some []
  | o :: os => (arg ρ o).bind fun d => (args ρ os).map (d :: ·)
/-- the lent lists as they came back -/
def take : List Od → List Slot → Env → Option Env
  | [], _, ρ => some ρ
  | .dat _ :: os, _ :: ss, ρ => take os ss ρ
  | .slot i :: os, .ref d :: ss, ρ => take os ss (ρ.set i ((getS ρ i).with d))
  | _, _, _ => none
def noSlot : List Od → Bool
  | [] => true
  | .dat _ :: os => noSlot os
  | .slot _ :: _ => false
def slotsOf : List Od → List Nat
  | [] => []
  | .dat _ :: os => slotsOf os
  | .slot i :: os => i :: slotsOf os
def nodupB : List Nat → Bool
  | [] => true
  | i :: is => !is.contains i && nodupB is
def gather {α : Type} : List (Option α) → Option (List α)
  | [] => some []
  | o :: os => o.bind fun a => (gather os).map (a :: ·)
/-- keywords in the parameters' order: ks tells the parameter of each keyword -/
def reoK {α : Type} (n : Nat) (ks : List Nat) (ws : List α) : Option (List α) :=
  if ks.length = n ∧ ws.length = n then gather ((List.range n).map fun p => (ks.findIdx? (· == p)).bind fun q => ws[q]?) else none

def lockS : Slot → Option (D × Slot)
  | .own d => some (d, .lock false d)
  | .ref d => some (d, .lock true d)
  | .lock r d => some (d, .lock r d)
  | .val d => some (d, .val d)
  | .none => none
def itD : D → Option (List D)
  | .lst xs => some xs
  | .tup xs => some xs
  | .scr ns => some (ns.map .int)
  | _ => none
def rangeD (a b : Int) : List D := (List.range (b - a).toNat).map fun k => .int (a + (k : Nat))
def small62 (a : Int) : Bool := decide (-(2 ^ 62) ≤ a) && decide (a < 2 ^ 62)
def rgF (l : Option Int) : D → Option (List D)
  | .int j => if small62 (l.getD 0) && small62 j && decide ((j - l.getD 0).toNat ≤ big) then some (rangeD (l.getD 0) j) else none
  | _ => none

/-! ### the interpreter -/
structure Cl where
  call : Nat → List Slot → CR
  glob : Nat → Option D
  np : Nat → Nat
  has : Nat → Bool
  wf : Nat

inductive Fl where
  | nx | rt (d : D) | bk | ct

/-- a loop over items -/
def loopD (put : D → Env → Option Env) (body : Env → R Fl) : List D → Env → R Fl
  | [], ρ => .ok .nx ρ
  | d :: ds, ρ => match put d ρ with
    | none => .stuck
    | some ρ1 => match body ρ1 with
      | .ok .nx ρ2 => loopD put body ds ρ2
      | .ok .ct ρ2 => loopD put body ds ρ2
      | .ok .bk ρ2 => .ok .nx ρ2
      | .ok (.rt d) ρ2 => .ok (.rt d) ρ2
      | .err c d ρ2 => .err c d ρ2
      | .stuck => .stuck
def noErr {α : Type} : R α → R α
  | .ok a ρ => .ok a ρ
  | _ => .stuck
/-- a comprehension's loop: the names at own are the block's -/
def compD (put : D → Env → Option Env) (own : List Nat) (test : Env → R Bool) (elt : Env → R D) : List D → List D → Env → R (List D)
  | acc, [], ρ => .ok acc ρ
  | acc, d :: ds, ρ => match put d (wipeS ρ own) with
    | none => .stuck
    | some ρ1 => (noErr (test ρ1)).bind fun b ρ2 =>
      if b then (noErr (elt ρ2)).bind fun y ρ3 => if acc.length < big then compD put own test elt (acc ++ [y]) ds ρ3 else .stuck
      else compD put own test elt acc ds ρ2
/-- a comprehension of two clauses -/
def compD2 (put : D → Env → Option Env) (own : List Nat) (it1 : Env → R (List D × List Nat)) (put1 : D → Env → Option Env) (vs1 : List Nat) (test : Env → R Bool) (elt : Env → R D) : List D → List D → Env → R (List D)
  | acc, [], ρ => .ok acc ρ
  | acc, d :: ds, ρ => match put d (wipeS ρ own) with
    | none => .stuck
    | some ρ1 => (noErr (it1 ρ1)).bind fun x ρ2 =>
      if x.2.isEmpty then (compD put1 vs1 test elt acc x.1 ρ2).bind fun acc' ρ3 => compD2 put own it1 put1 vs1 test elt acc' ds ρ3 else .stuck
def whileD (test : Env → R Bool) (body : Env → R Fl) : Nat → Env → R Fl
  | 0, _ => .stuck
  | n + 1, ρ => match test ρ with
    | .ok true ρ1 => match body ρ1 with
      | .ok .nx ρ2 => whileD test body n ρ2
      | .ok .ct ρ2 => whileD test body n ρ2
      | .ok .bk ρ2 => .ok .nx ρ2
      | .ok (.rt d) ρ2 => .ok (.rt d) ρ2
      | .err c d ρ2 => .err c d ρ2
      | .stuck => .stuck
    | .ok false ρ1 => .ok .nx ρ1
    | .err c d ρ1 => .err c d ρ1
    | .stuck => .stuck
def isB (r : R D) : R Bool := r.bind fun d ρ => match d with
  | .bl b => .ok b ρ
  | _ => .stuck
def partD (r : R D) : R (Option Int) := r.bind fun d ρ => match d with
  | .int i => .ok (some i) ρ
  | _ => .stuck
/-- behind a loop the lists that were walked are as they were -/
def unlockAll (ρ : Env) : List Nat → Option Env
  | [] => some ρ
  | i :: is => match getS ρ i with
    | .lock r d => unlockAll (ρ.set i (if r then .ref d else .own d)) is
    | _ => none
/-- a comprehension's own names hold no list alone -/
def plainS : Slot → Bool
  | .none => true
  | .val _ => true
  | _ => false
def lockAll : List Od → Env → Option (List D × Env)
  | [], ρ => some ([], ρ)
  | .dat d :: os, ρ => (lockAll os ρ).map fun x => (d :: x.1, x.2)
  | .slot i :: os, ρ => match lockS (getS ρ i) with
    | some (d, s) => (lockAll os (ρ.set i s)).map fun x => (d :: x.1, x.2)
    | none => none
/-- the names among the operands that hold a list alone -/
def held (ρ : Env) : List Od → List Nat
  | [] => []
  | .dat _ :: os => held ρ os
  | .slot i :: os => match getS ρ i with
    | .own _ => i :: held ρ os
    | .ref _ => i :: held ρ os
    | _ => held ρ os
def enumD (ds : List D) : List D := ds.mapIdx fun i d => .tup [.int i, d]
def zipD (as bs : List D) : List D := List.zipWith (fun a b => .tup [a, b]) as bs
/-- two lists, or two tuples -/
def isTup : D → Bool
  | .tup _ => true
  | _ => false
def zipF (x y : D) : Option (List D) := if isTup x == isTup y then (itD x).bind fun as => (itD y).map fun bs => zipD as bs else none

section
variable (C : Cl)
def callF (f : Nat) (os : List Od) (sl : List Slot) (ρ : Env) : R D := if nodupB (slotsOf os) then match C.call f sl with
  | .ok d out => ofO ((take os out ρ).map fun ρ' => (d, ρ')) ρ |>.bind fun x _ => .ok x.1 x.2
  | .err c d => if noSlot os then .err c d ρ else .stuck
  | .stuck => .stuck
  else .stuck
def odOf (e : E) (r : R D) (ρ : Env) : R Od := match e with
  | .var i => match seeD (getS ρ i) with
    | some _ => .ok (.slot i) ρ
    | none => .stuck
  | _ => r.bind fun d ρ1 => .ok (.dat d) ρ1
mutual
def denE : E → Env → R D
  | .var i, ρ => match getS ρ i with
    | .val d => .ok d ρ
    | .own d => .ok d (ρ.set i (.val d))
    | _ => .stuck
  | .con d, ρ => .ok d ρ
  | .glob g, ρ => ofO (C.glob g) ρ
  | .bin o a b, ρ => (odOf a (denE a ρ) ρ).bind fun x ρ1 => (odOf b (denE b ρ1) ρ1).bind fun y ρ2 => ofO ((rd ρ2 x).bind fun dx => (rd ρ2 y).bind fun dy => binF o dx dy) ρ2
  | .neg a, ρ => (denE a ρ).bind fun d ρ1 => match d with
    | .int i => .ok (.int (-i)) ρ1
    | _ => .stuck
  | .cmp o a b, ρ => (odOf a (denE a ρ) ρ).bind fun x ρ1 => (odOf b (denE b ρ1) ρ1).bind fun y ρ2 => ofO ((rd ρ2 x).bind fun dx => (rd ρ2 y).bind fun dy => (cmpF o dx dy).map .bl) ρ2
  | .chain o o' a b c, ρ => (odOf a (denE a ρ) ρ).bind fun x ρ1 => (odOf b (denE b ρ1) ρ1).bind fun y ρ2 => match (rd ρ2 x).bind fun dx => (rd ρ2 y).bind fun dy => cmpF o dx dy with
    | some true => (odOf c (denE c ρ2) ρ2).bind fun z ρ3 => ofO ((rd ρ3 y).bind fun dy => (rd ρ3 z).bind fun dz => (cmpF o' dy dz).map .bl) ρ3
    | some false => .ok (.bl false) ρ2
    | none => .stuck
  | .and es, ρ => denAnd es ρ
  | .or es, ρ => denOr es ρ
  | .not a, ρ => (isB (denE a ρ)).bind fun b ρ1 => .ok (.bl (!b)) ρ1
  | .ife c a b, ρ => (isB (denE c ρ)).bind fun x ρ1 => if x then denE a ρ1 else denE b ρ1
  | .tup es, ρ => (denEs es ρ).bind fun ds ρ1 => if ds.length ≤ big then .ok (.tup ds) ρ1 else .stuck
  | .lst es, ρ => (denEs es ρ).bind fun ds ρ1 => if ds.length ≤ big then .ok (.lst ds) ρ1 else .stuck
  | .idx a b, ρ => (odOf a (denE a ρ) ρ).bind fun x ρ1 => (denE b ρ1).bind fun dy ρ2 => ofO ((rd ρ2 x).bind fun dx => ixF dx dy) ρ2
  | .sl a lo hi, ρ => (odOf a (denE a ρ) ρ).bind fun x ρ1 => (denPart lo ρ1).bind fun l ρ2 => (denPart hi ρ2).bind fun h ρ3 => ofO ((rd ρ3 x).bind fun dx => slF dx l h) ρ3
  | .rev a, ρ => (odOf a (denE a ρ) ρ).bind fun x ρ1 => ofO ((rd ρ1 x).bind revF) ρ1
  | .call f as, ρ => (denAs as ρ).bind fun os ρ1 => (ofO (args ρ1 os) ρ1).bind fun sl _ => callF C f os sl ρ1
  | .callk f kw ks, ρ => (denEs kw ρ).bind fun ds ρ1 => (ofO (reoK (C.np f) ks ds) ρ1).bind fun all _ => callF C f (all.map .dat) (all.map .val) ρ1
  | .callv i as, ρ => match getS ρ i with
    | .val (.fn f) => if C.has f then (denAs as ρ).bind fun os ρ1 => (ofO (args ρ1 os) ρ1).bind fun sl _ => callF C f os sl ρ1 else .stuck
    | _ => .stuck
  | .calln f e, ρ => (denE e ρ).bind fun d ρ1 => match d with
    | .lst xs => match C.call f [.own (.lst xs)] with
      | .ok d' _ => .ok d' ρ1
      | .err c d' => .err c d' ρ1
      | .stuck => .stuck
    | _ => .stuck
  | .join s e, ρ => (denE e ρ).bind fun d ρ1 => ofO (joinF s d) ρ1
  | .cnt b a x, ρ => (denE a ρ).bind fun d ρ1 => if isSq b d then (denE x ρ1).bind fun dy ρ2 => ofO (cntF b d dy) ρ2 else .stuck
  | .tupS a b, ρ => (denE a ρ).bind fun d ρ1 => if isSq true d then (denE b ρ1).bind fun y ρ2 => ofO (starF d y) ρ2 else .stuck
  | .bi b es, ρ => (denOs es ρ).bind fun os ρ1 => ofO ((rds ρ1 os).bind fun ds => biF b ds) ρ1
  | .isi a ts, ρ => (odOf a (denE a ρ) ρ).bind fun x ρ1 => ofO ((rd ρ1 x).bind fun d => if tyOk d then some (.bl (ts.any (isTy d))) else none) ρ1
  | .trange hi, ρ => (denE hi ρ).bind fun h ρ1 => ofO ((rgF none h).map .tup) ρ1
  | .lrange lo hi, ρ => (denPart lo ρ).bind fun l ρ1 => (denE hi ρ1).bind fun h ρ2 => ofO ((rgF l h).map .lst) ρ2
  | .mt m i es, ρ => match ownD (getS ρ i) with
    | some _ => (denEs es ρ).bind fun ds ρ1 => match ownD (getS ρ1 i) with
      | some (.lst xs) => match mtF m xs ds with
        | some (d, ys) => .ok d (ρ1.set i ((getS ρ1 i).with (.lst ys)))
        | none => .stuck
      | _ => .stuck
    | none => .stuck
  | .comp elt tg it ifs own, ρ => (denIt it ρ).bind fun x ρ1 =>
      if own.all fun i => plainS (getS ρ1 i) then
        (compD (putT tg) own (denIf ifs) (denE elt) [] x.1 ρ1).bind fun ds ρ2 => (ofO (unlockAll (back ρ1 ρ2 own) x.2) ρ2).bind fun ρ3 _ => .ok (.lst ds) ρ3
      else .stuck
  | .comp2 elt tg it tg1 it1 ifs own, ρ => (denIt it ρ).bind fun x ρ1 =>
      if own.all fun i => plainS (getS ρ1 i) then
        (compD2 (putT tg) own (denIt it1) (putT tg1) (tgIx tg1) (denIf ifs) (denE elt) [] x.1 ρ1).bind fun ds ρ2 => (ofO (unlockAll (back ρ1 ρ2 own) x.2) ρ2).bind fun ρ3 _ => .ok (.lst ds) ρ3
      else .stuck
def denEs : Es → Env → R (List D)
  | .nil, ρ => .ok [] ρ
  | .cons e es, ρ => (denE e ρ).bind fun d ρ1 => (denEs es ρ1).bind fun ds ρ2 => .ok (d :: ds) ρ2
def denOs : Es → Env → R (List Od)
  | .nil, ρ => .ok [] ρ
  | .cons e es, ρ => (odOf e (denE e ρ) ρ).bind fun d ρ1 => (denOs es ρ1).bind fun ds ρ2 => .ok (d :: ds) ρ2
def denAnd : Es → Env → R D
  | .nil, _ => .stuck
  | .cons e .nil, ρ => denE e ρ
  | .cons e (.cons e' es), ρ => (isB (denE e ρ)).bind fun b ρ1 => if b then denAnd (.cons e' es) ρ1 else .ok (.bl false) ρ1
def denOr : Es → Env → R D
  | .nil, _ => .stuck
  | .cons e .nil, ρ => denE e ρ
  | .cons e (.cons e' es), ρ => (isB (denE e ρ)).bind fun b ρ1 => if b then .ok (.bl true) ρ1 else denOr (.cons e' es) ρ1
def denPart : Eo → Env → R (Option Int)
  | .none, ρ => .ok none ρ
  | .some e, ρ => partD (denE e ρ)
def denIf : Eo → Env → R Bool
  | .none, ρ => .ok true ρ
  | .some e, ρ => isB (denE e ρ)
def denAs : As → Env → R (List Od)
  | .nil, ρ => .ok [] ρ
  | .val e as, ρ => (denE e ρ).bind fun d ρ1 => (denAs as ρ1).bind fun ds ρ2 => .ok (.dat d :: ds) ρ2
  | .ref i as, ρ => match seeD (getS ρ i) with
    | some _ => (denAs as ρ).bind fun ds ρ2 => .ok (.slot i :: ds) ρ2
    | none => .stuck
/-- what is walked: the items, the names that are locked meanwhile -/
def denIt : It → Env → R (List D × List Nat)
  | .seq e, ρ => (odOf e (denE e ρ) ρ).bind fun x ρ1 => match lockAll [x] ρ1 with
    | some ([d], ρ2) => (ofO (itD d) ρ2).bind fun ds _ => .ok (ds, held ρ1 [x]) ρ2
    | _ => .stuck
  | .rng lo hi, ρ => (denPart lo ρ).bind fun l ρ1 => (denE hi ρ1).bind fun h ρ2 => (ofO (rgF l h) ρ2).bind fun ds _ => .ok (ds, []) ρ2
  | .rngC lo hi c, ρ => .stuck
  | .enum e, ρ => (denE e ρ).bind fun d ρ1 => (ofO (itD d) ρ1).bind fun ds _ => .ok (enumD ds, []) ρ1
  | .zip a b, ρ => (denE a ρ).bind fun x ρ1 => (denE b ρ1).bind fun y ρ2 => (ofO (zipF x y) ρ2).bind fun ds _ => .ok (ds, []) ρ2
end
/-- the items of a parallel assignment, in order; the flagged ones are new lists -/
def denPs : List Bool → Es → Env → R (List D)
  | [], .nil, ρ => .ok [] ρ
  | b :: bs, .cons e es, ρ => (denE C e ρ).bind fun d ρ1 => if b && !isLst d then .stuck else (denPs bs es ρ1).bind fun ds ρ2 => .ok (d :: ds) ρ2
  | _, _, _ => .stuck
abbrev denO (e : E) (ρ : Env) : R Od := odOf e (denE C e ρ) ρ
mutual
def denS : S → Env → R Fl
  | .asg tg e, ρ => (denE C e ρ).bind fun d ρ1 => (ofO (putT tg d ρ1) ρ1).bind fun ρ2 _ => .ok .nx ρ2
  | .asgO i e, ρ => (denE C e ρ).bind fun d ρ1 => match d with
    | .lst _ => (ofO (putS ρ1 i (.own d)) ρ1).bind fun ρ2 _ => .ok .nx ρ2
    | _ => .stuck
  | .par is fl es, ρ => (denPs C fl es ρ).bind fun ds ρ1 => (ofO (putMix is fl ds ρ1) ρ1).bind fun ρ2 _ => .ok .nx ρ2
  | .setI i ix e, ρ => (denE C e ρ).bind fun d ρ1 => match ownD (getS ρ1 i) with
    | some _ => (denE C ix ρ1).bind fun k ρ2 => match ownD (getS ρ2 i), k with
      | some (.lst xs), .int k => match ixOf xs.length k with
        | some j => .ok .nx (ρ2.set i ((getS ρ2 i).with (.lst (xs.set j d))))
        | none => .stuck
      | _, _ => .stuck
    | none => .stuck
  | .setT i ix j e, ρ => (denE C e ρ).bind fun d ρ1 => match d with
    | .tup [x, y] => match ownD (getS ρ1 i) with
      | some _ => (denE C ix ρ1).bind fun k ρ2 => match ownD (getS ρ2 i), k with
        | some (.lst xs), .int k => match ixOf xs.length k with
          | some n => (ofO (putS (ρ2.set i ((getS ρ2 i).with (.lst (xs.set n x)))) j (.val y)) ρ2).bind fun ρ3 _ => .ok .nx ρ3
          | none => .stuck
        | _, _ => .stuck
      | none => .stuck
    | _ => .stuck
  | .expr e, ρ => (denE C e ρ).bind fun _ ρ1 => .ok .nx ρ1
  | .ret e, ρ => (denE C e ρ).bind fun d ρ1 => .ok (.rt d) ρ1
  | .retN, ρ => .ok (.rt .non) ρ
  | .ife c a b, ρ => (isB (denE C c ρ)).bind fun x ρ1 => if x then denSs a ρ1 else denSs b ρ1
  | .for_ tg it body, ρ => (denIt C it ρ).bind fun x ρ1 => match loopD (putT tg) (denSs body) x.1 ρ1 with
    | .ok f ρ2 => (ofO (unlockAll ρ2 x.2) ρ2).bind fun ρ3 _ => .ok f ρ3
    | .err c d ρ2 => if x.2.isEmpty then .err c d ρ2 else .stuck
    | .stuck => .stuck
  | .while_ c body, ρ => whileD (fun ρ => isB (denE C c ρ)) (denSs body) C.wf ρ
  | .brk, ρ => .ok .bk ρ
  | .cont, ρ => .ok .ct ρ
  | .pass, ρ => .ok .nx ρ
  | .raise_, _ => .stuck
def denSs : Ss → Env → R Fl
  | .nil, ρ => .ok .nx ρ
  | .cons s ss, ρ => (denS s ρ).bind fun f ρ1 => match f with
    | .nx => denSs ss ρ1
    | f => .ok f ρ1
end
end

/-- a def of the text: the module's name for it, its own name, its parameters, its places, its body -/
structure Tb where
  name : Str
  own : Str
  np : Nat
  fr : Bool
  N : List Str
  body : Ss
instance : Inhabited Tb := ⟨⟨Str.empty, Str.empty, 0, false, [], .nil⟩⟩
/-- the lent lists are lent still -/
def refsKept : List Slot → List Slot → Bool
  | [], [] => true
  | .ref _ :: ss, .ref _ :: os => refsKept ss os
  | .ref _ :: _, _ :: _ => false
  | _ :: ss, _ :: os => refsKept ss os
  | _, _ => false
/-- a call, at most k deep -/
def run (T : List Tb) (G : List (Str × D)) (wf : Nat) : Nat → Nat → List Slot → CR
  | 0, _, _ => .stuck
  | k + 1, f, sl => match T[f]? with
    | none => .stuck
    | some t => if sl.length = t.np then
        match denSs ⟨run T G wf k, fun g => (G[g]?).map (·.2), fun f => ((T[f]?).map (·.np)).getD 0, fun f => (T[f]?).isSome, wf⟩ t.body (sl ++ List.replicate (t.N.length - t.np) .none) with
        | .ok (.rt d) ρ => if refsKept sl (ρ.take t.np) then .ok d (ρ.take t.np) else .stuck
        | .ok .nx ρ => if refsKept sl (ρ.take t.np) then .ok .non (ρ.take t.np) else .stuck
        | .ok _ _ => .stuck
        | .err c d _ => .err c d
        | .stuck => .stuck
      else .stuck
end Tk

set_option Elab.async false
set_option linter.all false
set_option maxRecDepth 100000
set_option maxHeartbeats 2000000
namespace Tk
open PySem PySem.Spec PyProof.Rows L2

/-- the text as it stands behind the top -/
structure Lk where
  P : Program
  w : World
  K : PySem.W.Frag
  mg : Str → Option Value
  base : Heap
  fa : Nat → Addr

/-- the script's list: read alone -/
def ScrAt (K : PySem.W.Frag) (H : Hp) (a : Addr) (xs : List V) : Prop :=
  (∃ o, H a = some (.frz o (.lst xs))) ∨
    ∃ (o : Obj) (its : Array Value) (n : Nat), K.lookup a = some o ∧ o.cls = .type "list" ∧ o.dict = none ∧ o.data = .seq its n ∧ its.size ≤ sizeLine ∧ Vals xs its.toList
theorem ScrAt.sq {K : PySem.W.Frag} {H : Hp} {a : Addr} {xs : List V} (h : ScrAt K H a xs) : SqL K H a xs := by
  rcases h with ⟨o, h⟩ | h
  · exact .inl (.inr ⟨o, h⟩)
  · exact .inr h

/-- a tuple whose object holds no names of its own -/
def SqD (K : PySem.W.Frag) (H : Hp) (a : Addr) (xs : List V) : Prop := SqT K H a xs ∧ ((∃ o u, H a = some (.frz o u) ∧ o.dict = none) ∨ ∃ o, K.lookup a = some o ∧ o.dict = none)
theorem SqD.new {K : PySem.W.Frag} {H : Hp} {a : Addr} {xs : List V} {o : Obj} (h : H a = some (.frz o (.tup xs))) (d : o.dict = none) : SqD K H a xs := ⟨.inl (.inr ⟨o, h⟩), .inl ⟨o, _, h, d⟩⟩
mutual
/-- a value of the run stands for plain data; no list in it stands at A -/
def Rep (L : Lk) (A : Addr → Prop) (H : Hp) : D → V → Prop
  | .non, v => v = .non
  | .bl b, v => v = .bl b
  | .int i, v => v = .int i
  | .str s, v => v = .str s ∧ strGood s = true
  | .tup ds, v => ∃ a vs, v = .ref a ∧ SqD L.K H a vs ∧ Reps L A H ds vs
  | .lst ds, v => ∃ a vs, v = .ref a ∧ ¬ A a ∧ H a = some (.lst vs) ∧ Reps L A H ds vs
  | .scr ns, v => ∃ a, v = .ref a ∧ ScrAt L.K H a (ns.map V.int)
  | .fn j, v => v = .ref (L.fa j)
  | .dct, v => ∃ a, v = .ref a ∧ H a = some (.dT [])
def Reps (L : Lk) (A : Addr → Prop) (H : Hp) : List D → List V → Prop
  | [], vs => vs = []
  | d :: ds, vs => ∃ v r, vs = v :: r ∧ Rep L A H d v ∧ Reps L A H ds r
end

/-- what was tracked and is not of Z stays; what Z' holds more is new -/
structure Ext (Z : Addr → Prop) (H : Hp) (Z' : Addr → Prop) (H' : Hp) : Prop where
  keep : ∀ a o, H a = some o → ¬ Z a → H' a = some o
  zz : ∀ a, Z' a → Z a ∨ H a = none
  there : ∀ a, H a ≠ none → H' a ≠ none
theorem Ext.refl (Z : Addr → Prop) (H : Hp) : Ext Z H Z H := ⟨fun _ _ h _ => h, fun _ h => .inl h, fun _ h => h⟩
theorem Ext.trans {Z Z' Z'' : Addr → Prop} {H H' H'' : Hp} (e : Ext Z H Z' H') (e' : Ext Z' H' Z'' H'') : Ext Z H Z'' H'' := by
  refine ⟨fun a o h n => e'.keep a o (e.keep a o h n) fun z => ?_, fun a z => ?_, fun a h => e'.there a (e.there a h)⟩
  · rcases e.zz a z with q | q
    · exact n q
    · rw [h] at q; cases q
  · rcases e'.zz a z with q | q
    · exact e.zz a q
    · by_cases hn : H a = none
      · exact .inr hn
      · exact absurd q (e.there a hn)
/-- something new is laid -/
theorem Ext.laid {Z : Addr → Prop} {H : Hp} {p : Addr} {o : HO} (hp : H p = none) : Ext Z H Z (upd H p o) := by
  refine ⟨fun a u h _ => by rw [upd_ne (ne_of_none h hp)]; exact h, fun _ h => .inl h, fun a h => ?_⟩
  by_cases e : a = p
  · subst e; exact absurd hp h
  · rw [upd_ne e]; exact h
theorem Ext.less {Z Z' Z'' : Addr → Prop} {H H' : Hp} (e : Ext Z H Z' H') (h : ∀ a, Z'' a → Z' a) : Ext Z H Z'' H' := ⟨e.keep, fun a z => e.zz a (h a z), e.there⟩
theorem Ext.wide {Z Z' Y : Addr → Prop} {H H' : Hp} (e : Ext Z H Z' H') (h : ∀ a, Z a → Y a) : Ext Y H Z' H' :=
  ⟨fun a o q n => e.keep a o q fun z => n (h a z), fun a z => (e.zz a z).imp (h a) id, e.there⟩

def IsL (H : Hp) (a : Addr) : Prop := ∃ vs, H a = some (.lst vs)

section
variable {L : Lk} {Z Z' A A' : Addr → Prop} {H H' : Hp}
theorem SqT.ext {a : Addr} {vs : List V} (e : Ext Z H Z' H') (hz : ∀ a, Z a → IsL H a) (h : SqT L.K H a vs) : SqT L.K H' a vs := by
  rcases h with (h | ⟨o, h⟩) | h
  · exact .inl (.inl (e.keep _ _ h fun z => by obtain ⟨_, q⟩ := hz _ z; rw [h] at q; cases q))
  · exact .inl (.inr ⟨o, e.keep _ _ h fun z => by obtain ⟨_, q⟩ := hz _ z; rw [h] at q; cases q⟩)
  · exact .inr h
theorem SqD.ext {a : Addr} {vs : List V} (e : Ext Z H Z' H') (hz : ∀ a, Z a → IsL H a) (h : SqD L.K H a vs) : SqD L.K H' a vs := by
  refine ⟨SqT.ext e hz h.1, ?_⟩
  rcases h.2 with ⟨o, u, h, d⟩ | h
  · exact .inl ⟨o, u, e.keep _ _ h fun z => by (obtain ⟨_, q⟩ := hz _ z; rw [h] at q; cases q), d⟩
  · exact .inr h
theorem ScrAt.ext {a : Addr} {vs : List V} (e : Ext Z H Z' H') (hz : ∀ a, Z a → IsL H a) (h : ScrAt L.K H a vs) : ScrAt L.K H' a vs := by
  rcases h with ⟨o, h⟩ | h
  · exact .inl ⟨o, e.keep _ _ h fun z => by obtain ⟨_, q⟩ := hz _ z; rw [h] at q; cases q⟩
  · exact .inr h
mutual
theorem Rep.ext (e : Ext Z H Z' H') (hz : ∀ a, Z a → IsL H a) (hA : ∀ a, Z a → A a) (hA' : ∀ a, A' a → A a ∨ H a = none) : ∀ {d : D} {v : V}, Rep L A H d v → Rep L A' H' d v
  | .non, _, h => h
  | .bl _, _, h => h
  | .int _, _, h => h
  | .str _, _, h => h
  | .fn _, _, h => h
  | .dct, _, h => by
    simp only [Rep] at h ⊢
    obtain ⟨a, e1, h⟩ := h
    exact ⟨a, e1, e.keep _ _ h fun z => by obtain ⟨_, q⟩ := hz _ z; rw [h] at q; cases q⟩
  | .scr _, _, h => by
    simp only [Rep] at h ⊢
    obtain ⟨a, e1, h⟩ := h
    exact ⟨a, e1, h.ext e hz⟩
  | .tup ds, _, h => by
    simp only [Rep] at h ⊢
    obtain ⟨a, vs, e1, h1, h2⟩ := h
    exact ⟨a, vs, e1, SqD.ext e hz h1, Reps.ext e hz hA hA' h2⟩
  | .lst ds, _, h => by
    simp only [Rep] at h ⊢
    obtain ⟨a, vs, e1, n, h1, h2⟩ := h
    refine ⟨a, vs, e1, fun q => ?_, e.keep _ _ h1 fun q => n (hA _ q), Reps.ext e hz hA hA' h2⟩
    rcases hA' a q with q | q
    · exact n q
    · rw [h1] at q; cases q
theorem Reps.ext (e : Ext Z H Z' H') (hz : ∀ a, Z a → IsL H a) (hA : ∀ a, Z a → A a) (hA' : ∀ a, A' a → A a ∨ H a = none) : ∀ {ds : List D} {vs : List V}, Reps L A H ds vs → Reps L A' H' ds vs
  | [], _, h => h
  | d :: ds, _, h => by
    simp only [Reps] at h ⊢
    obtain ⟨v, r, e1, h1, h2⟩ := h
    exact ⟨v, r, e1, Rep.ext e hz hA hA' h1, Reps.ext e hz hA hA' h2⟩
end
theorem Rep.less (h : ∀ a, A' a → A a) {d : D} {v : V} (r : Rep L A H d v) : Rep L A' H d v :=
  Rep.ext (Z := fun _ => False) (Z' := fun _ => False) (Ext.refl _ H) (fun _ z => z.elim) (fun _ z => z.elim) (fun a q => .inl (h a q)) r
theorem Reps.less (h : ∀ a, A' a → A a) {d : List D} {v : List V} (r : Reps L A H d v) : Reps L A' H d v :=
  Reps.ext (Z := fun _ => False) (Z' := fun _ => False) (Ext.refl _ H) (fun _ z => z.elim) (fun _ z => z.elim) (fun a q => .inl (h a q)) r
/-- a value, or (nm = false) a pair of a walk's, that is to be taken apart -/
def WRep (L : Lk) (A : Addr → Prop) (H : Hp) (nm : Bool) (d : D) (v : V) : Prop := Rep L A H d v ∨ (nm = false ∧ ∃ ds a vs, d = .tup ds ∧ v = .ref a ∧ SqT L.K H a vs ∧ Reps L A H ds vs)
theorem WRep.less {nm : Bool} (h : ∀ a, A' a → A a) {d : D} {v : V} (r : WRep L A H nm d v) : WRep L A' H nm d v := by
  rcases r with r | ⟨e, ds, a, vs, e1, e2, h1, h2⟩
  · exact .inl (r.less h)
  · exact .inr ⟨e, ds, a, vs, e1, e2, h1, h2.less h⟩
theorem Reps.len : ∀ {ds : List D} {vs : List V}, Reps L A H ds vs → vs.length = ds.length
  | [], _, h => by simp only [Reps] at h; subst h; rfl
  | _ :: _, _, h => by
    simp only [Reps] at h
    obtain ⟨v, r, rfl, _, h2⟩ := h
    simp [h2.len]
theorem Reps.get : ∀ {ds : List D} {vs : List V} {i : Nat} {d : D}, Reps L A H ds vs → ds[i]? = some d → ∃ v, vs[i]? = some v ∧ Rep L A H d v
  | [], _, _, _, _, e => by simp at e
  | _ :: _, _, 0, _, h, e => by
    simp only [Reps] at h
    obtain ⟨v, r, rfl, h1, _⟩ := h
    simp at e; subst e
    exact ⟨v, rfl, h1⟩
  | _ :: _, _, i + 1, _, h, e => by
    simp only [Reps] at h
    obtain ⟨v, r, rfl, _, h2⟩ := h
    obtain ⟨u, e1, e2⟩ := Reps.get (i := i) h2 (by simpa using e)
    exact ⟨u, by simpa using e1, e2⟩
theorem Reps.nil : Reps L A H [] [] := by simp only [Reps]
theorem Reps.cons {d : D} {v : V} {ds : List D} {vs : List V} (h : Rep L A H d v) (t : Reps L A H ds vs) : Reps L A H (d :: ds) (v :: vs) := by
  simp only [Reps]; exact ⟨v, vs, rfl, h, t⟩
theorem Reps.append : ∀ {ds es : List D} {vs us : List V}, Reps L A H ds vs → Reps L A H es us → Reps L A H (ds ++ es) (vs ++ us)
  | [], _, _, _, h, t => by simp only [Reps] at h; subst h; exact t
  | _ :: _, _, _, _, h, t => by
    simp only [Reps] at h
    obtain ⟨v, r, rfl, h1, h2⟩ := h
    exact .cons h1 (h2.append t)
theorem Reps.take : ∀ {ds : List D} {vs : List V} (n : Nat), Reps L A H ds vs → Reps L A H (ds.take n) (vs.take n)
  | _, _, 0, _ => by simp [Reps.nil]
  | [], _, n + 1, h => by simp only [Reps] at h; subst h; simp [Reps.nil]
  | _ :: _, _, n + 1, h => by
    simp only [Reps] at h
    obtain ⟨v, r, rfl, h1, h2⟩ := h
    exact .cons h1 (h2.take n)
theorem Reps.drop : ∀ {ds : List D} {vs : List V} (n : Nat), Reps L A H ds vs → Reps L A H (ds.drop n) (vs.drop n)
  | _, _, 0, h => h
  | [], _, n + 1, h => by simp only [Reps] at h; subst h; simp [Reps.nil]
  | _ :: _, _, n + 1, h => by
    simp only [Reps] at h
    obtain ⟨v, r, rfl, h1, h2⟩ := h
    exact h2.drop n
theorem Reps.set : ∀ {ds : List D} {vs : List V} (i : Nat) {d : D} {v : V}, Reps L A H ds vs → Rep L A H d v → Reps L A H (ds.set i d) (vs.set i v)
  | [], _, _, _, _, h, _ => by simp only [Reps] at h; subst h; simp [Reps.nil]
  | _ :: _, _, 0, _, _, h, q => by
    simp only [Reps] at h
    obtain ⟨v, r, rfl, h1, h2⟩ := h
    exact .cons q h2
  | _ :: _, _, i + 1, _, _, h, q => by
    simp only [Reps] at h
    obtain ⟨v, r, rfl, h1, h2⟩ := h
    exact .cons h1 (h2.set i q)
theorem Reps.eraseIdx : ∀ {ds : List D} {vs : List V} (i : Nat), Reps L A H ds vs → Reps L A H (ds.eraseIdx i) (vs.eraseIdx i)
  | [], _, _, h => by simp only [Reps] at h; subst h; simp [Reps.nil]
  | _ :: _, _, 0, h => by
    simp only [Reps] at h
    obtain ⟨v, r, rfl, h1, h2⟩ := h
    exact h2
  | _ :: _, _, i + 1, h => by
    simp only [Reps] at h
    obtain ⟨v, r, rfl, h1, h2⟩ := h
    exact .cons h1 (h2.eraseIdx i)
theorem Reps.dropLast {ds : List D} {vs : List V} (h : Reps L A H ds vs) : Reps L A H ds.dropLast vs.dropLast := by
  rw [List.dropLast_eq_take, List.dropLast_eq_take, h.len]; exact h.take _
theorem Reps.ints : ∀ {ds : List D} {vs : List V} {ns : List Int}, Reps L A H ds vs → intsOf ds = some ns → vs = ns.map V.int
  | [], _, _, h, e => by simp only [Reps] at h; subst h; simp [intsOf] at e; subst e; rfl
  | d :: ds, _, _, h, e => by
    simp only [Reps] at h
    obtain ⟨v, r, rfl, h1, h2⟩ := h
    cases d <;> simp [intsOf] at e
    obtain ⟨ns, e1, rfl⟩ := e
    simp only [Rep] at h1
    rw [h2.ints e1, h1]; rfl
theorem Reps.strs : ∀ {ds : List D} {vs : List V} {ns : List Str}, Reps L A H ds vs → strsOf ds = some ns → vs = ns.map V.str ∧ ∀ s ∈ ns, strGood s = true
  | [], _, _, h, e => by simp only [Reps] at h; subst h; simp [strsOf] at e; subst e; exact ⟨rfl, fun _ z => nomatch z⟩
  | d :: ds, _, _, h, e => by
    simp only [Reps] at h
    obtain ⟨v, r, rfl, h1, h2⟩ := h
    cases d <;> simp [strsOf] at e
    obtain ⟨ns, e1, rfl⟩ := e
    simp only [Rep] at h1
    obtain ⟨h3, h4⟩ := h2.strs e1
    refine ⟨by rw [h3, h1.1]; rfl, fun s hs => ?_⟩
    rcases List.mem_cons.mp hs with rfl | hs
    · exact h1.2
    · exact h4 s hs
theorem Reps.bls : ∀ {ds : List D} {vs : List V} {ns : List Bool}, Reps L A H ds vs → blsOf ds = some ns → vs = ns.map V.bl
  | [], _, _, h, e => by simp only [Reps] at h; subst h; simp [blsOf] at e; subst e; rfl
  | d :: ds, _, _, h, e => by
    simp only [Reps] at h
    obtain ⟨v, r, rfl, h1, h2⟩ := h
    cases d <;> simp [blsOf] at e
    obtain ⟨ns, e1, rfl⟩ := e
    simp only [Rep] at h1
    rw [h2.bls e1, h1]; rfl
theorem Reps.rep {ds : List D} {vs : List V} (h : Reps L A H ds vs) : ∀ n : Nat, Reps L A H (List.replicate n ds).flatten (List.replicate n vs).flatten
  | 0 => by simp [Reps.nil]
  | n + 1 => by
    rw [List.replicate_succ, List.replicate_succ, List.flatten_cons, List.flatten_cons]
    exact h.append (h.rep n)
theorem Reps.ofInts : ∀ (ns : List Int), Reps L A H (ns.map D.int) (ns.map V.int)
  | [] => .nil
  | n :: ns => .cons (by simp only [Rep]) (Reps.ofInts ns)
end

/-! ### a frame -/
/-- the call's entry: the heap, the lists that were lent, the place of each -/
structure Fr where
  H0 : Hp
  M : Addr → Prop
  bm : Nat → Option Addr
  lm : Nat → Option Addr

abbrev Fp := Nat → List Addr
def zz (F : Fp) (a : Addr) : Prop := ∃ i, a ∈ F i
def av (F : Fp) (G : Addr → Prop) (a : Addr) : Prop := zz F a ∨ G a

def OwnAt (L : Lk) (A : Addr → Prop) (H : Hp) (x : Option (Option V)) (d : D) (f : List Addr) (q : Addr → Prop) : Prop :=
  ∃ a vs ds, d = .lst ds ∧ x = some (some (.ref a)) ∧ f = [a] ∧ H a = some (.lst vs) ∧ Reps L A H ds vs ∧ q a
def SlotAt (L : Lk) (fr : Fr) (A : Addr → Prop) (H : Hp) (i : Nat) (x : Option (Option V)) (f : List Addr) : Slot → Prop
  | .none => f = []
  | .val d => f = [] ∧ ∃ v, x = some (some v) ∧ Rep L A H d v
  | .own d => OwnAt L A H x d f fun _ => True
  | .ref d => OwnAt L A H x d f fun a => fr.bm i = some a
  | .lock r d => f = [] ∧ OwnAt L A H x d [fr.lm i |>.getD 0] fun a => fr.lm i = some a ∧ (r = true → fr.bm i = some a)

structure Rel (L : Lk) (fr : Fr) (G : Addr → Prop) (σ : L2.St) (H : Hp) (ρ : Env) (F : Fp) : Prop where
  len : ρ.length = σ.length
  slot : ∀ i, SlotAt L fr (av F G) H i σ[i]? (F i) (getS ρ i)
  apart : ∀ i j a, a ∈ F i → a ∈ F j → i = j
  gap : ∀ i a, a ∈ F i → ¬ G a
  home : ∀ i a, a ∈ F i → fr.M a ∨ fr.H0 a = none
  kept : ∀ a o, fr.H0 a = some o → ¬ fr.M a → H a = some o
  low : ∀ a, fr.H0 a ≠ none → H a ≠ none
  gin : ∀ a, G a → H a ≠ none
  lmG : ∀ i a, fr.lm i = some a → G a

section
variable {L : Lk} {fr : Fr} {G G' : Addr → Prop} {σ : L2.St} {H H' : Hp} {ρ ρ' : Env} {F F' : Fp}
theorem SlotAt.isL {i : Nat} {A : Addr → Prop} {x : Option (Option V)} {f : List Addr} {s : Slot} (h : SlotAt L fr A H i x f s) {a : Addr} (ha : a ∈ f) : IsL H a := by
  cases s with
  | none => simp only [SlotAt] at h; subst h; cases ha
  | val d => obtain ⟨e, _⟩ := h; subst e; cases ha
  | own d => obtain ⟨b, vs, _, _, _, e, q, _⟩ := h; subst e; simp at ha; subst ha; exact ⟨vs, q⟩
  | ref d => obtain ⟨b, vs, _, _, _, e, q, _⟩ := h; subst e; simp at ha; subst ha; exact ⟨vs, q⟩
  | lock r d => obtain ⟨e, _⟩ := h; subst e; cases ha
theorem Rel.isL (r : Rel L fr G σ H ρ F) : ∀ a, zz F a → IsL H a := fun a ⟨i, h⟩ => (r.slot i).isL h
theorem Rel.zA (r : Rel L fr G σ H ρ F) : ∀ a, zz F a → av F G a := fun a h => .inl h
theorem av_ext (e : Ext (zz F) H (zz F') H') : ∀ a, av F' G a → av F G a ∨ H a = none := fun a h => by
  rcases h with h | h
  · exact (e.zz a h).imp .inl id
  · exact .inl (.inr h)
/-- a value that was reckoned stays what it is -/
theorem Rel.rep (r : Rel L fr G σ H ρ F) (e : Ext (zz F) H (zz F') H') {d : D} {v : V} (h : Rep L (av F G) H d v) : Rep L (av F' G) H' d v := Rep.ext e r.isL r.zA (av_ext e) h
theorem Rel.reps (r : Rel L fr G σ H ρ F) (e : Ext (zz F) H (zz F') H') {d : List D} {v : List V} (h : Reps L (av F G) H d v) : Reps L (av F' G) H' d v := Reps.ext e r.isL r.zA (av_ext e) h
theorem OwnAt.imp {A : Addr → Prop} {x : Option (Option V)} {d : D} {f : List Addr} {q q' : Addr → Prop} (h : OwnAt L A H x d f q) (k : ∀ a, q a → q' a) : OwnAt L A H x d f q' := by
  obtain ⟨a, vs, ds, e1, e2, e3, e4, e5, e6⟩ := h
  exact ⟨a, vs, ds, e1, e2, e3, e4, e5, k a e6⟩
/-- all objects of the frame stay, new ones are laid -/
theorem SlotAt.keeps {i : Nat} {x : Option (Option V)} {s : Slot} (e : ∀ a o, H a = some o → H' a = some o) {A A' : Addr → Prop} (hA : ∀ a, A' a → A a ∨ H a = none) {f : List Addr} (h : SlotAt L fr A H i x f s) : SlotAt L fr A' H' i x f s := by
  have E : Ext (fun _ => False) H (fun _ => False) H' := ⟨fun a o h _ => e a o h, fun _ h => h.elim, fun a h => by
    cases q : H a with
    | none => exact absurd q h
    | some o => rw [e a o q]; simp⟩
  have own : ∀ {d : D} {f : List Addr} {q : Addr → Prop}, OwnAt L A H x d f q → OwnAt L A' H' x d f q := fun {d f q} ⟨a, vs, ds, e1, e2, e3, e4, e5, e6⟩ =>
    ⟨a, vs, ds, e1, e2, e3, e a _ e4, Reps.ext E (fun _ z => z.elim) (fun _ z => z.elim) hA e5, e6⟩
  cases s with
  | none => exact h
  | val d => obtain ⟨e1, v, e2, e3⟩ := h; exact ⟨e1, v, e2, Rep.ext E (fun _ z => z.elim) (fun _ z => z.elim) hA e3⟩
  | own d => exact own h
  | ref d => exact own h
  | lock r d => exact ⟨h.1, own h.2⟩
theorem ne_keeps (e : ∀ a o, H a = some o → H' a = some o) {a : Addr} (h : H a ≠ none) : H' a ≠ none := by
  cases q : H a with
  | none => exact absurd q h
  | some o => rw [e a o q]; simp
theorem Rel.keeps (r : Rel L fr G σ H ρ F) (e : ∀ a o, H a = some o → H' a = some o) : Rel L fr G σ H' ρ F :=
  ⟨r.len, fun i => (r.slot i).keeps e fun a h => .inl h, r.apart, r.gap, r.home, fun a o h n => e a o (r.kept a o h n), fun a h => ne_keeps e (r.low a h), fun a h => ne_keeps e (r.gin a h), r.lmG⟩
theorem keeps_upd {p : Addr} {o : HO} (hp : H p = none) : ∀ a u, H a = some u → upd H p o a = some u := fun a u h => by rw [upd_ne (ne_of_none h hp)]; exact h
theorem Rel.laid (r : Rel L fr G σ H ρ F) {p : Addr} {o : HO} (hp : H p = none) : Rel L fr G σ (upd H p o) ρ F := r.keeps (keeps_upd hp)
/-- fewer addresses to avoid -/
theorem Rel.lessG (r : Rel L fr G σ H ρ F) (hl : ∀ i a, fr.lm i = some a → G' a) (h : ∀ a, G' a → G a) : Rel L fr G' σ H ρ F :=
  ⟨r.len, fun i => (r.slot i).keeps (fun _ _ q => q) fun a q => .inl (q.imp id (h a)), r.apart, fun i a q z => r.gap i a q (h a z), r.home, r.kept, r.low, fun a z => r.gin a (h a z), hl⟩
/-- something new is laid that is to be avoided from now on -/
theorem Rel.laidG (r : Rel L fr G σ H ρ F) {p : Addr} {o : HO} (hp : H p = none) : Rel L fr (fun a => G a ∨ a = p) σ (upd H p o) ρ F := by
  have e : ∀ a u, H a = some u → upd H p o a = some u := keeps_upd hp
  refine ⟨r.len, fun i => (r.slot i).keeps e fun a q => ?_, r.apart, fun i a q z => ?_, r.home, fun a u h n => e a u (r.kept a u h n), fun a h => ne_keeps e (r.low a h), fun a z => ?_, fun i a z => .inl (r.lmG i a z)⟩
  · rcases q with q | q | q
    · exact .inl (.inl q)
    · exact .inl (.inr q)
    · exact .inr (q ▸ hp)
  · rcases z with z | z
    · exact r.gap i a q z
    · obtain ⟨vs, h⟩ := r.isL a ⟨i, q⟩
      rw [z, hp] at h; cases h
  · rcases z with z | z
    · exact ne_keeps e (r.gin a z)
    · rw [z, upd_same]; simp
theorem Rel.avNone (r : Rel L fr G σ H ρ F) {p : Addr} (hp : H p = none) : ¬ av F G p := fun z => by
  rcases z with z | z
  · obtain ⟨vs, h⟩ := r.isL p z
    rw [hp] at h; cases h
  · exact r.gin p z hp
end
end Tk

set_option Elab.async false
set_option linter.all false
set_option maxRecDepth 100000
set_option maxHeartbeats 2000000
namespace Tk
open PySem PySem.Spec PyProof.Rows L2

theorem getS_set {ρ : Env} {i j : Nat} {s : Slot} : getS (ρ.set i s) j = if i = j ∧ i < ρ.length then s else getS ρ j := by
  unfold getS
  by_cases h : i = j
  · subst h
    by_cases hl : i < ρ.length
    · simp [List.getD, hl]
    · simp [List.getD, hl]
  · simp [List.getD, List.getElem?_set_ne h, h]
theorem getS_out {ρ : Env} {i : Nat} (h : ρ.length ≤ i) : getS ρ i = .none := by
  unfold getS; simp [List.getD, h]
theorem getS_lt {ρ : Env} {i : Nat} {s : Slot} (h : getS ρ i = s) (n : s ≠ .none) : i < ρ.length := by
  by_cases hl : i < ρ.length
  · exact hl
  · exact absurd (h.symm.trans (getS_out (Nat.le_of_not_lt hl))) n
def Fp.put (F : Fp) (i : Nat) (l : List Addr) : Fp := fun j => if j = i then l else F j
theorem Fp.put_same {F : Fp} {i : Nat} {l : List Addr} : F.put i l i = l := by simp [Fp.put]
theorem Fp.put_ne {F : Fp} {i j : Nat} {l : List Addr} (h : j ≠ i) : F.put i l j = F j := by simp [Fp.put, h]

section
variable {L : Lk} {fr : Fr} {G G' : Addr → Prop} {σ : L2.St} {H H' : Hp} {ρ ρ' : Env} {F F' : Fp}
theorem Rel.lt_of (r : Rel L fr G σ H ρ F) {i : Nat} (h : getS ρ i ≠ .none) : i < σ.length := by
  rw [← r.len]; exact getS_lt rfl h
/-- the value at a name -/
theorem Rel.see (r : Rel L fr G σ H ρ F) {i : Nat} {d : D} (h : seeD (getS ρ i) = some d) : ∃ v, σ[i]? = some (some v) ∧ Rep L (fun _ => False) H d v := by
  have q := r.slot i
  have own : ∀ {d : D} {f : List Addr} {p : Addr → Prop}, OwnAt L (av F G) H σ[i]? d f p → ∃ v, σ[i]? = some (some v) ∧ Rep L (fun _ => False) H d v := fun {d f p} ⟨a, vs, ds, e1, e2, e3, e4, e5, _⟩ => by
    subst e1
    refine ⟨_, e2, ?_⟩
    simp only [Rep]
    exact ⟨a, vs, rfl, fun z => z, e4, e5.less fun _ z => z.elim⟩
  cases e : getS ρ i with
  | none => rw [e] at h; cases h
  | val d' => rw [e] at h q; cases h; obtain ⟨_, v, e1, e2⟩ := q; exact ⟨v, e1, e2.less fun _ z => z.elim⟩
  | own d' => rw [e] at h q; cases h; exact own q
  | ref d' => rw [e] at h q; cases h; exact own q
  | lock b d' => rw [e] at h q; cases h; exact own q.2
theorem Rel.val (r : Rel L fr G σ H ρ F) {i : Nat} {d : D} (h : getS ρ i = .val d) : ∃ v, σ[i]? = some (some v) ∧ Rep L (av F G) H d v := by
  have q := r.slot i
  rw [h] at q
  exact q.2
/-- the footprint of place i is dropped or exchanged: what it was held by is not looked at anew -/
theorem Rel.change (r : Rel L fr G σ H ρ F) {i : Nat} {s : Slot} {f : List Addr} {σ' : L2.St} (hl : σ'.length = σ.length) (hσ : ∀ j, j ≠ i → σ'[j]? = σ[j]?)
    (hf : ∀ a, a ∈ f → a ∈ F i) (hs : SlotAt L fr (av (F.put i f) G) H i σ'[i]? f s) (hi : i < ρ.length) : Rel L fr G σ' H (ρ.set i s) (F.put i f) := by
  have sub : ∀ j a, a ∈ F.put i f j → a ∈ F j := fun j a h => by
    by_cases e : j = i
    · subst e; rw [Fp.put_same] at h; exact hf a h
    · rw [Fp.put_ne e] at h; exact h
  refine ⟨by rw [List.length_set, hl]; exact r.len, fun j => ?_, fun j l a h1 h2 => r.apart j l a (sub j a h1) (sub l a h2), fun j a h => r.gap j a (sub j a h), fun j a h => r.home j a (sub j a h), r.kept, r.low, r.gin, r.lmG⟩
  rw [getS_set]
  by_cases e : i = j
  · subst e
    rw [if_pos ⟨rfl, hi⟩, Fp.put_same]
    exact hs
  · rw [if_neg (fun z => e z.1), Fp.put_ne (Ne.symm e), hσ j (Ne.symm e)]
    refine (r.slot j).keeps (fun _ _ q => q) fun a q => .inl ?_
    rcases q with ⟨l, q⟩ | q
    · exact .inl ⟨l, sub l a q⟩
    · exact .inr q
theorem zz_put {F : Fp} {i : Nat} {f : List Addr} (hf : ∀ a, a ∈ f → a ∈ F i) : ∀ a, zz (F.put i f) a → zz F a := fun a ⟨j, h⟩ => by
  by_cases e : j = i
  · subst e; rw [Fp.put_same] at h; exact ⟨j, hf a h⟩
  · rw [Fp.put_ne e] at h; exact ⟨j, h⟩
/-- a list held by one name becomes a plain value -/
theorem Rel.freeze (r : Rel L fr G σ H ρ F) {i : Nat} {d : D} (h : getS ρ i = .own d) : ∃ v, σ[i]? = some (some v) ∧ Rep L (av (F.put i []) G) H d v ∧ Rel L fr G σ H (ρ.set i (.val d)) (F.put i []) := by
  have q := r.slot i
  rw [h] at q
  obtain ⟨a, vs, ds, rfl, e2, e3, e4, e5, _⟩ := q
  have hi : i < ρ.length := getS_lt h (fun z => Slot.noConfusion z)
  have rp : Rep L (av (F.put i []) G) H (.lst ds) (.ref a) := by
    simp only [Rep]
    refine ⟨a, vs, rfl, fun z => ?_, e4, e5.less fun b z => z.imp (zz_put (by simp) b) id⟩
    rcases z with ⟨j, z⟩ | z
    · by_cases e : j = i
      · subst e; rw [Fp.put_same] at z; cases z
      · rw [Fp.put_ne e] at z; exact e (r.apart j i a z (by rw [e3]; simp))
    · exact r.gap i a (by rw [e3]; simp) z
  exact ⟨_, e2, rp, r.change rfl (fun _ _ => rfl) (by simp) ⟨rfl, _, e2, rp⟩ hi⟩
/-- a value is stored -/
theorem Rel.store (r : Rel L fr G σ H ρ F) {i : Nat} {d : D} {v : V} (h : putS ρ i (.val d) = some ρ') (rp : Rep L (av F G) H d v) :
    ρ' = ρ.set i (.val d) ∧ Rel L fr G (σ.set i (some v)) H ρ' (F.put i []) := by
  unfold putS at h
  split at h
  · rename_i c
    cases h
    simp only [Bool.and_eq_true, decide_eq_true_eq] at c
    have hi : i < σ.length := by rw [← r.len]; exact c.2
    refine ⟨rfl, r.change (by simp) (fun j e => by rw [List.getElem?_set_ne (Ne.symm e)]) (by simp) ⟨rfl, v, by simp [hi], rp.less fun b z => z.imp (zz_put (by simp) b) id⟩ c.2⟩
  · cases h
/-- a new list is stored that nobody else holds -/
theorem Rel.storeOwn (r : Rel L fr (fun b => G b ∨ b = a) σ H ρ F) {i : Nat} {ds : List D} {vs : List V} (h : putS ρ i (.own (.lst ds)) = some ρ') (ha : H a = some (.lst vs)) (hG : ¬ G a) (h0 : fr.H0 a = none) (hl : ∀ j b, fr.lm j = some b → G b)
    (rp : Reps L (av F fun b => G b ∨ b = a) H ds vs) : Rel L fr G (σ.set i (some (.ref a))) H ρ' (F.put i [a]) := by
  unfold putS at h
  split at h
  · rename_i c
    cases h
    simp only [Bool.and_eq_true, decide_eq_true_eq] at c
    have hi : i < σ.length := by rw [← r.len]; exact c.2
    have sub : ∀ j b, b ∈ F.put i [a] j → (j = i ∧ b = a) ∨ (j ≠ i ∧ b ∈ F j) := fun j b h => by
      by_cases e : j = i
      · subst e; rw [Fp.put_same] at h; exact .inl ⟨rfl, by simpa using h⟩
      · rw [Fp.put_ne e] at h; exact .inr ⟨e, h⟩
    have av' : ∀ b, av (F.put i [a]) G b → av F (fun b => G b ∨ b = a) b := fun b h => by
      rcases h with ⟨j, h⟩ | h
      · rcases sub j b h with ⟨_, e⟩ | ⟨_, q⟩
        · exact .inr (.inr e)
        · exact .inl ⟨j, q⟩
      · exact .inr (.inl h)
    have nF : ∀ j, a ∉ F j := fun j q => r.gap j a q (.inr rfl)
    refine ⟨by simp [r.len], fun j => ?_, fun j l b h1 h2 => ?_, fun j b h g => ?_, fun j b h => ?_, r.kept, r.low, fun b z => r.gin b (.inl z), hl⟩
    · rw [getS_set]
      by_cases e : i = j
      · subst e
        rw [if_pos ⟨rfl, c.2⟩, Fp.put_same]
        exact ⟨a, vs, ds, rfl, by simp [hi], rfl, ha, rp.less av', trivial⟩
      · rw [if_neg (fun z => e z.1), Fp.put_ne (Ne.symm e), List.getElem?_set_ne e]
        exact (r.slot j).keeps (fun _ _ q => q) fun b q => .inl (av' b q)
    · rcases sub j b h1 with ⟨e1, e2⟩ | ⟨_, q1⟩
      · rcases sub l b h2 with ⟨e3, _⟩ | ⟨_, q2⟩
        · rw [e1, e3]
        · subst e2; exact absurd q2 (nF l)
      · rcases sub l b h2 with ⟨_, e2⟩ | ⟨_, q2⟩
        · subst e2; exact absurd q1 (nF j)
        · exact r.apart j l b q1 q2
    · rcases sub j b h with ⟨_, e⟩ | ⟨_, q⟩
      · subst e; exact hG g
      · exact r.gap j b q (.inl g)
    · rcases sub j b h with ⟨_, e⟩ | ⟨_, q⟩
      · subst e; exact .inr h0
      · exact r.home j b q
  · cases h
/-- a list that a name holds alone, or that was lent, is changed -/
theorem Rel.mutate (r : Rel L fr G σ H ρ F) {i : Nat} {d : D} (h : ownD (getS ρ i) = some d) : ∃ a vs ds, d = .lst ds ∧ σ[i]? = some (some (.ref a)) ∧ H a = some (.lst vs) ∧ Reps L (av F G) H ds vs ∧
    ∀ ds' vs', Reps L (av F G) H ds' vs' → Rel L fr G σ (upd H a (.lst vs')) (ρ.set i ((getS ρ i).with (.lst ds'))) F ∧ Ext (zz F) H (zz F) (upd H a (.lst vs')) := by
  have q := r.slot i
  have main : ∀ {d : D} {p : Addr → Prop}, (∀ x ds', OwnAt L (av F G) x σ[i]? (.lst ds') (F i) p → SlotAt L fr (av F G) x i σ[i]? (F i) ((getS ρ i).with (.lst ds'))) → getS ρ i ≠ .none → OwnAt L (av F G) H σ[i]? d (F i) p → ∃ a vs ds, d = .lst ds ∧ σ[i]? = some (some (.ref a)) ∧ H a = some (.lst vs) ∧ Reps L (av F G) H ds vs ∧
    ∀ ds' vs', Reps L (av F G) H ds' vs' → Rel L fr G σ (upd H a (.lst vs')) (ρ.set i ((getS ρ i).with (.lst ds'))) F ∧ Ext (zz F) H (zz F) (upd H a (.lst vs')) := fun {d p} hk hn ⟨a, vs, ds, e1, e2, e3, e4, e5, e6⟩ => by
    have hi : i < ρ.length := getS_lt rfl hn
    refine ⟨a, vs, ds, e1, e2, e4, e5, fun ds' vs' rp => ?_⟩
    have aF : a ∈ F i := by rw [e3]; simp
    have X : Ext (zz F) H (zz F) (upd H a (.lst vs')) := by
      refine ⟨fun b o hb n => ?_, fun b z => .inl z, fun b hb => ?_⟩
      · have : b ≠ a := fun e => n (e ▸ ⟨i, aF⟩)
        rw [upd_ne this]; exact hb
      · by_cases e : b = a
        · rw [e, upd_same]; simp
        · rw [upd_ne e]; exact hb
    have rp' : ∀ {ds : List D} {vs : List V}, Reps L (av F G) H ds vs → Reps L (av F G) (upd H a (.lst vs')) ds vs := fun z => r.reps X z
    refine ⟨⟨by simp [r.len], fun j => ?_, r.apart, r.gap, r.home, fun b o hb n => ?_, fun b hb => X.there b (r.low b hb), fun b hb => X.there b (r.gin b hb), r.lmG⟩, X⟩
    · rw [getS_set]
      by_cases e : i = j
      · subst e
        rw [if_pos ⟨rfl, hi⟩]
        exact hk _ _ ⟨a, vs', ds', rfl, e2, e3, upd_same, rp' rp, e6⟩
      · rw [if_neg (fun z => e z.1)]
        have qj := r.slot j
        have own : ∀ {d : D} {p : Addr → Prop}, OwnAt L (av F G) H σ[j]? d (F j) p → OwnAt L (av F G) (upd H a (.lst vs')) σ[j]? d (F j) p := fun {d p} ⟨b, us, es, g1, g2, g3, g4, g5, g6⟩ => by
          have hb : b ≠ a := fun z => e (r.apart i j a aF (by rw [g3, z]; simp))
          exact ⟨b, us, es, g1, g2, g3, by rw [upd_ne hb]; exact g4, rp' g5, g6⟩
        cases ej : getS ρ j with
        | none => rw [ej] at qj; exact qj
        | val d => rw [ej] at qj; obtain ⟨g1, v, g2, g3⟩ := qj; exact ⟨g1, v, g2, r.rep X g3⟩
        | own d => rw [ej] at qj; exact own qj
        | ref d => rw [ej] at qj; exact own qj
        | lock b d =>
          rw [ej] at qj
          obtain ⟨g0, c, us, es, g1, g2, g3, g4, g5, g6⟩ := qj
          have hb : c ≠ a := fun z => r.gap i a aF (z ▸ r.lmG j c g6.1)
          exact ⟨g0, c, us, es, g1, g2, g3, by rw [upd_ne hb]; exact g4, rp' g5, g6⟩
    · have h1 := r.kept b o hb n
      have : b ≠ a := fun e => by
        subst e
        rcases r.home i b aF with z | z
        · exact n z
        · rw [hb] at z; cases z
      rw [upd_ne this]; exact h1
  cases e : getS ρ i with
  | none => rw [e] at h; cases h
  | val d' => rw [e] at h; cases h
  | own d' => rw [e] at h q; cases h; rw [e] at main; exact main (fun _ _ z => z) (fun z => Slot.noConfusion z) q
  | ref d' => rw [e] at h q; cases h; rw [e] at main; exact main (fun _ _ z => z) (fun z => Slot.noConfusion z) q
  | lock b d' => rw [e] at h; cases h
/-- another kind of holding, the same list -/
theorem Rel.rekind (r : Rel L fr G σ H ρ F) {i : Nat} {s : Slot} (h : ∀ x, SlotAt L fr (av F G) H i x (F i) (getS ρ i) → SlotAt L fr (av F G) H i x (F i) s) : Rel L fr G σ H (ρ.set i s) F := by
  refine ⟨by simp [r.len], fun j => ?_, r.apart, r.gap, r.home, r.kept, r.low, r.gin, r.lmG⟩
  rw [getS_set]
  by_cases e : i = j ∧ i < ρ.length
  · rw [if_pos e]
    obtain ⟨e, _⟩ := e
    subst e
    exact h _ (r.slot i)
  · rw [if_neg e]
    exact r.slot j
end
end Tk

set_option Elab.async false
set_option linter.all false
set_option maxRecDepth 100000
set_option maxHeartbeats 2000000
namespace Tk
open PySem PySem.Spec PyProof.Rows L2

/-! ### new tuples: the object is known -/
def tObj (its : List Value) : Obj := { cls := .type "tuple", data := .seq its.toArray }
section
variable {X : Cx} {pins : List (Addr × Obj)} {σ : L2.St} {H : Hp} {s : Shared}
theorem laidT (I : Inv X pins σ H s) {h' : Heap} {p : Addr} {zs : List V} {its : List Value} {t' : Nat} (kp : ∀ b u, s.heap.get? b = some u → h'.get? b = some u) (ha : s.heap.objs.size ≤ p) (e : h'.get? p = some (tObj its)) (hz : zs.length ≤ sizeLine) (r : Vals zs its) :
    Inv X pins σ (upd H p (.frz (tObj its) (.tup zs))) { s with heap := h', toks := t' } :=
  I.laid (o := .frz (tObj its) (.tup zs)) kp ha ⟨e, hz, its, r, _, e, rfl, _, rfl⟩
theorem endT (I : Inv X pins σ H s) {zs : List V} {its : List Value} {t' : Nat} {Q : VK} (hz : zs.length ≤ sizeLine) (r : Vals zs its) (q : ∀ p o, H p = none → o.dict = none → Q (.ref p) (upd H p (.frz o (.tup zs)))) :
    EP X pins σ Q (.ref s.heap.objs.size) { s with heap := s.heap.push (tObj its), toks := t' } :=
  ⟨.ref s.heap.objs.size, _, laidT I (fun b u => Heap.get?_push_of_some _) (Nat.le_refl _) (Heap.get?_push_size _ rfl) hz r, rfl, q _ _ (I.hok.fresh (Nat.le_refl _)) rfl⟩
def tkCat (K : PySem.W.Frag) : R2 := fun x y H Q => ∃ a b xs ys, x = .ref a ∧ y = .ref b ∧ SqT K H a xs ∧ SqT K H b ys ∧ xs.length + ys.length ≤ sizeLine ∧
  (xs = [] → Q (.ref b) H) ∧ (xs ≠ [] → ys = [] → Q (.ref a) H) ∧ (xs ≠ [] → ys ≠ [] → ∀ p o, H p = none → o.dict = none → Q (.ref p) (upd H p (.frz o (.tup (xs ++ ys)))))
theorem tk_cat : OpR X (binaryOp .Add) (tkCat X.K) := by
  intro pins s σ H x y v u Q I rx ry ⟨a, b, xs, ys, ea, eb, ha, hb, hz, q0, q1, q2⟩
  subst ea eb
  by_cases hx : xs = []
  · exact op_catA pins s σ H _ _ v u Q I rx ry ⟨a, b, xs, ys, rfl, rfl, ha, hb, hz, q0, fun z => absurd hx z, fun z => absurd hx z⟩
  · cases rx; cases ry
    obtain ⟨i1, r1, p1, _⟩ := I.tuple ha
    obtain ⟨i2, r2, p2, _⟩ := I.tuple hb
    have l1 := r1.length
    have l2 := r2.length
    refine HT.cat_tup p1 p2 (fun z => hx (r1.nil_iff.mp z)) (fun z => ⟨.ref a, H, I, rfl, q1 hx (r2.nil_iff.mp z)⟩) (fun z => ?_) (by omega)
    exact endT (t' := s.toks) I (by rw [List.length_append]; exact hz) (r1.append r2) (q2 hx fun w => z (r2.nil_iff.mpr w))
theorem tup_mul1 (l : Addr) (items : Array Value) (n : Nat) (dd : Option Addr) (sl : Array (Option Value)) (u : Tok) :
    Meets (Builtin.«tuple.__mul__» ⟨[.ref l, .int 1 u], []⟩) (fun _ R s => s.heap.get? l = some { cls := .type "tuple", dict := dd, data := .seq items n, slots := sl } ∧ R (.ok (.ret (Value.ref l))) s) :=
  .of_wp fun prog w A R s h => by
    obtain ⟨hp, g, d, tk, os⟩ := s
    obtain ⟨hl, h⟩ := h
    have f1 := AutoSeq1.idx_int
    have c1 : (items.isEmpty || (1 : Int) == 1) = true := by simp
    wp_walk using wpAny_loadPart' hl
    repeat (first
      | (refine wpAny_ite_false (decide_eq_false (by decide)) ?_; wp_walk using wpAny_loadPart' hl)
      | (refine wpAny_ite_true (decide_eq_true (by rw [c1])) ?_; wp_walk using wpAny_loadPart' hl))
    exact ⟨_, rfl, h⟩
def tkRep (K : PySem.W.Frag) : R2 := fun x y H Q => ∃ l k xs, x = .ref l ∧ y = .int k ∧ SqT K H l xs ∧ xs ≠ [] ∧ 1 ≤ k ∧ k ≤ 1000 ∧ xs.length ≤ 1000 ∧ (k = 1 → Q (.ref l) H) ∧ ∀ p o, H p = none → o.dict = none → Q (.ref p) (upd H p (.frz o (.tup (List.replicate k.toNat xs).flatten)))
theorem tk_rep : OpR X (binaryOp .Mult) (tkRep X.K) := by
  intro pins s σ H x y v u Q I rx ry ⟨l, k, xs, ex, ey, hT, hne, h1, h2, hz, q1, q⟩
  subst ex ey
  cases rx
  obtain ⟨t, rfl⟩ := ry
  obtain ⟨its, r, ⟨⟨cls, dd, data, sl⟩, ho, hc, n, hd⟩, _⟩ := I.tuple hT
  simp only at hc hd
  subst hc hd
  have hl := r.length
  by_cases k1 : k = 1
  · subst k1
    refine wpAny_binaryOp_repeat_ref (T := "tuple") (U := "int") (by decide) ⟨_, ho, rfl⟩ (fun z => typeIs_int z 1 t) noFill_tuple_mul F.fills_int_mul F.slot_int_rmul repeat_tuple F.slot_int_index.lookup ?_
    refine call_meets F.slot_int_rmul (typeIs_int s 1 t) F.entry_int_rmul (F.args_int_rmul_2 _ _) (int_rmul_tuple 1 t l its.toArray n dd sl) ⟨ho, rfl, ⟨_, ho, rfl⟩, ?_⟩
    exact call_meets F.slot_tuple_mul ⟨_, ho, rfl⟩ F.entry_tuple_mul (F.args_tuple_mul_2 _ _) (tup_mul1 l its.toArray n dd sl t) ⟨ho, .ref l, H, I, rfl, q1 rfl⟩
  have ne : its.toArray.isEmpty = false := by
    cases its with
    | nil => exact absurd (List.eq_nil_of_length_eq_zero hl) hne
    | cons => rfl
  have sz : its.toArray.size = xs.length := by rw [List.size_toArray]; exact hl.symm
  have mm : ((its.toArray.size : Nat) : Int) * k ≤ 1000000 := by
    rw [sz]
    have : ((xs.length : Nat) : Int) * k ≤ 1000 * k := Int.mul_le_mul_of_nonneg_right (by omega) (by omega)
    omega
  have mm' : k.toNat * xs.length ≤ 1000 * 1000 := Nat.mul_le_mul (by omega) hz
  have fl : (List.replicate k.toNat its).flatten.length ≤ sizeLine := by
    rw [PyProof.Rows.lm_len_rep_flat, ← hl, sizeLine_eq]; omega
  have d0 : (decide (k < -(2 ^ 63)) || decide (k ≥ 2 ^ 63)) = false := by simp only [Bool.or_eq_false_iff, decide_eq_false_iff_not]; omega
  have d1 : (its.toArray.isEmpty || k == 1) = false := by rw [ne, Bool.false_or]; exact beq_eq_false_iff_ne.mpr (by omega)
  have d2 : (decide (k ≤ 0) || its.toArray.isEmpty) = false := by rw [ne, Bool.or_false]; exact decide_eq_false (by omega)
  have d3 : Builtin.Tuple.tupleTooMany (((its.toArray.size : Nat) : Int) * k) = false := by
    unfold Builtin.Tuple.tupleTooMany; rw [sizeLine_eq]; exact decide_eq_false (by omega)
  refine wpAny_binaryOp_repeat_ref (T := "tuple") (U := "int") (by decide) ⟨_, ho, rfl⟩ (fun z => typeIs_int z k t) noFill_tuple_mul F.fills_int_mul F.slot_int_rmul repeat_tuple F.slot_int_index.lookup ?_
  refine call_meets F.slot_int_rmul (typeIs_int s k t) F.entry_int_rmul (F.args_int_rmul_2 _ _) (int_rmul_tuple k t l its.toArray n dd sl) ⟨ho, rfl, ⟨_, ho, rfl⟩, ?_⟩
  refine call_meets F.slot_tuple_mul ⟨_, ho, rfl⟩ F.entry_tuple_mul (F.args_tuple_mul_2 _ _) (tuple_mulW l its.toArray n dd sl k t d0 d1 d2 (by omega) d3 (by rw [size_rep, List.size_toArray]; exact fl)) ⟨ho, ?_⟩
  rw [size_rep]
  exact endT (t' := s.toks) I (by rw [PyProof.Rows.lm_len_rep_flat, sizeLine_eq]; omega) (r.rep k.toNat) q
def tkSl (K : PySem.W.Frag) : V → Option Int → Option Int → Hp → VK → Prop := fun x lo hi H Q => ∃ a xs, x = .ref a ∧ SqT K H a xs ∧
  (HT.sIx xs.length 0 lo = 0 ∧ HT.sIx xs.length xs.length hi = xs.length → Q (.ref a) H) ∧ (¬ (HT.sIx xs.length 0 lo = 0 ∧ HT.sIx xs.length xs.length hi = xs.length) → ∀ p o, H p = none → o.dict = none → Q (.ref p) (upd H p (.frz o (.tup (cutV xs lo hi)))))
theorem tk_sl : SlR X (tkSl X.K) := by
  intro pins s σ H x v vl vu lo hi sl Q I rx hs pl pu ⟨a, xs, ex, hx, q1, q2⟩
  subst ex
  by_cases hw : HT.sIx xs.length 0 lo = 0 ∧ HT.sIx xs.length xs.length hi = xs.length
  · exact sl_tupA pins s σ H _ v vl vu lo hi sl Q I rx hs pl pu ⟨a, xs, rfl, hx, q1, fun z => absurd hw z⟩
  · cases rx
    obtain ⟨its, r, ht, hz⟩ := I.tuple hx
    have hl : its.toArray.size = xs.length := by rw [List.size_toArray]; exact r.length.symm
    refine ⟨"tuple", _, PyProof.Rows.slot_tuple_getitem.lookup, ht.typeIs, HT.getItem_tuple_cut ht hs pl pu (by rw [hl]; exact hw) ?_ (by rw [hl]; exact hz)⟩
    rw [hl]
    exact endT (t' := s.toks) I (Nat.le_trans (cutV_length xs lo hi) hz) ((r.drop (HT.sIx xs.length 0 lo)).take (HT.sIx xs.length xs.length hi - HT.sIx xs.length 0 lo)) (q2 hw)
theorem tk_tuple : CallR X (.type "tuple") (fun xs H Q => ∃ p ys, xs = [.ref p] ∧ ((SqL X.K H p ys ∧ ∀ l o, H l = none → o.dict = none → Q (.ref l) (upd H l (.frz o (.tup ys)))) ∨ (SqT X.K H p ys ∧ Q (.ref p) H))) := by
  intro pins s σ H xs us Q I r ⟨p, ys, ex, h⟩
  rcases h with ⟨hq, q⟩ | h
  · subst ex
    obtain ⟨u, rfl, rx⟩ := vals1 r
    cases rx
    obtain ⟨its, r', pl, hz⟩ := I.list hq
    have hl := r'.length
    refine call_tuple_list pl.isList (fun h' kp => ?_) (by rw [List.size_toArray]; omega)
    exact endT (t' := s.toks) (I.kept (t' := s.toks) kp) hz r' q
  · exact call_tuple_of pins s σ H xs us Q I r ⟨p, ys, ex, .inr h⟩
theorem tk_divmod : CallR X (.builtin "divmod") (fun xs H Q => ∃ i j, xs = [.int i, .int j] ∧ CDiv i j ∧ ∀ p o, H p = none → o.dict = none → Q (.ref p) (upd H p (.frz o (.tup [.int (i / j), .int (i % j)])))) := by
  intro pins s σ H xs us Q I r ⟨i, j, ex, ⟨h1, h2⟩, q⟩
  subst ex
  obtain ⟨u, w', rfl, ⟨t, rfl⟩, ⟨t', rfl⟩⟩ := vals2 r
  refine divmod_int (by omega) ?_ (.inl (PyProof.noPylong_small (by omega)))
  rw [Int.fdiv_eq_ediv_of_nonneg i (by omega), Int.fmod_eq_emod_of_nonneg i (by omega)]
  exact endT I (zs := [.int (i / j), .int (i % j)]) (its := [.int (i / j) s.toks, .int (i % j) (s.toks + 1)]) (by simp only [List.length_cons, List.length_nil]; rw [sizeLine_eq]; decide) (.cons ⟨_, rfl⟩ (.cons ⟨_, rfl⟩ .nil)) q
def tkTupRg (te : L2.St → Hp → (Int → Int → Hp → Prop) → Prop) : TE := fun σ H Q => te σ H fun a b H1 => RgOk a b ∧ ∀ p o, H1 p = none → o.dict = none → Q (.ref p) (upd H1 p (.frz o (.tup (rgV a b))))
theorem tk_tupRg {e : Expr} {te : L2.St → Hp → (Int → Int → Hp → Prop) → Prop} {p pos : Pos} (hc : X.calm = true) (hg : Gl X "tuple") (hm : X.mg "tuple" = none) (he : PRg X e te) (na : starEach [e] X.env = (false, eval e X.env) :: starEach [] X.env := by rfl) : PE X (.Call (.Name "tuple" p) [e] [] pos) (tkTupRg te) := by
  refine ⟨fun pins s σ H Q I h => ?_⟩
  refine Call_ (ld_blt I hg hm boot_tuple (PyProof.Rows.callWith_type1 (args_cons (thn (he pins s σ H _ I h) fun x s1 ⟨r, a, b, t, u, v, H1, ex, hr, I1, ok, q⟩ => args_nil ?_) na) na))
  subst ex
  obtain ⟨b1, b2, b3, b4, b5⟩ := ok
  refine call_tuple_range (n := (b - a).toNat) (I1.ok.hd hc) hr (small_one b1 b2 b3 b4) (rangeSize_nat a b) b5 fun h' tk acc hk hi => ?_
  have I2 : Inv X pins σ H1 { s1 with heap := h', toks := tk } := I1.kept hk
  have z := endT (t' := tk) I2 (its := acc.toList) (by rw [rgV_length, sizeLine_eq]; omega) (vals_rg hi) q
  unfold tObj at z
  rw [Array.toArray_toList] at z
  exact z
def tkTup (t : TA) : TE := fun σ H Q => t σ H fun xs H1 => xs.length ≤ sizeLine ∧ ∀ p o, H1 p = none → o.dict = none → Q (.ref p) (upd H1 p (.frz o (.tup xs)))
theorem tk_tup {es : List Expr} {t : TA} {x1 : Nat} {pos : Pos} (h : PA X es t) : PE X (.Tuple es x1 pos) (tkTup t) := by
  refine ⟨fun pins s σ H Q I hq => ?_⟩
  refine wpAny_Tuple_spliced (thn (h.run pos pins s σ H _ I hq) fun us s1 ⟨xs, H1, I1, r, z, q⟩ => ⟨by rw [← r.length]; exact z, ?_⟩)
  exact endT I1 z r q
end
theorem big_line : big = sizeLine := by rw [sizeLine_eq]; rfl

theorem toPs_length : ∀ xs : List D, (toPs xs).length = xs.length
  | [] => rfl
  | x :: xs => by simp [toPs, toPs_length xs]
mutual
theorem beq_eqv : ∀ (n m : Nat) (x y : D), D.flat n x = true → D.flat m y = true → D.beq x y = PyData.eqv (toP x) (toP y) := by
  intro n m x y hx hy
  cases x with
  | non => cases y <;> first | (simp [D.beq, toP, PyData.eqv]; done) | (cases m <;> simp [D.flat] at hy)
  | bl a => cases y <;> first | (simp [D.beq, toP, PyData.eqv, PyData.asInt?]; done) | (simp [D.beq, toP, PyData.eqv]; done) | (cases m <;> simp [D.flat] at hy)
  | int i => cases y <;> first | (simp [D.beq, toP, PyData.eqv]; done) | (cases m <;> simp [D.flat] at hy)
  | str s => cases y <;> first | (simp [D.beq, toP, PyData.eqv]; done) | (cases m <;> simp [D.flat] at hy)
  | dct => cases n <;> simp [D.flat] at hx
  | fn j => cases n <;> simp [D.flat] at hx
  | scr j => cases n <;> simp [D.flat] at hx
  | tup xs =>
    cases n with
    | zero => simp [D.flat] at hx
    | succ n =>
      cases y <;> first
        | (simp [D.beq, toP, PyData.eqv]; done)
        | (cases m <;> simp [D.flat] at hy; done)
        | (cases m with
          | zero => simp [D.flat] at hy
          | succ m =>
            simp only [D.flat] at hx hy
            simp only [D.beq, toP, PyData.eqv]
            exact beqs_eqv n m xs _ hx hy)
  | lst xs =>
    cases n with
    | zero => simp [D.flat] at hx
    | succ n =>
      cases y <;> first
        | (simp [D.beq, toP, PyData.eqv]; done)
        | (cases m <;> simp [D.flat] at hy; done)
        | (cases m with
          | zero => simp [D.flat] at hy
          | succ m =>
            simp only [D.flat] at hx hy
            simp only [D.beq, toP, PyData.eqv]
            exact beqs_eqv n m xs _ hx hy)
theorem beqs_eqv : ∀ (n m : Nat) (xs ys : List D), D.flats n xs = true → D.flats m ys = true → D.beqs xs ys = PyData.eqvAll (toPs xs) (toPs ys) := by
  intro n m xs ys hx hy
  cases xs with
  | nil => cases ys <;> simp [D.beqs, toPs, PyData.eqvAll]
  | cons x xs =>
    cases ys with
    | nil => simp [D.beqs, toPs, PyData.eqvAll]
    | cons y ys =>
      simp only [D.flats, Bool.and_eq_true] at hx hy
      simp only [D.beqs, toPs, PyData.eqvAll]
      rw [beq_eqv n m x y hx.1 hy.1, beqs_eqv n m xs ys hx.2 hy.2]
end

theorem flat_depth : ∀ (n : Nat) (x : D), D.flat n x = true → (toP x).depth ≤ n := by
  intro n
  induction n with
  | zero => intro x h; cases x <;> simp [D.flat] at h <;> simp [toP, PyData.depth]
  | succ n ih =>
    have all : ∀ xs : List D, D.flats n xs = true → PyData.depthAll (toPs xs) ≤ n := by
      intro xs
      induction xs with
      | nil => intro _; simp [toPs, PyData.depthAll]
      | cons x xs ihx =>
        intro h
        simp only [D.flats, Bool.and_eq_true] at h
        simp only [toPs, PyData.depthAll]
        exact Nat.max_le.mpr ⟨ih x h.1, ihx h.2⟩
    intro x h
    cases x with
    | tup xs => simp only [D.flat] at h; simp only [toP, PyData.depth]; exact Nat.succ_le_succ (all xs h)
    | lst xs => simp only [D.flat] at h; simp only [toP, PyData.depth]; exact Nat.succ_le_succ (all xs h)
    | scr _ => simp [D.flat] at h
    | fn _ => simp [D.flat] at h
    | _ => simp [toP, PyData.depth]

/-- as Rep, but the list itself may be one that a name holds alone -/
def Rep1 (L : Lk) (A : Addr → Prop) (H : Hp) : D → V → Prop
  | .lst ds, v => ∃ a vs, v = .ref a ∧ H a = some (.lst vs) ∧ Reps L A H ds vs
  | d, v => Rep L A H d v
section
variable {L : Lk} {A A' : Addr → Prop} {H H' : Hp}
theorem Rep.one {d : D} {v : V} (h : Rep L A H d v) : Rep1 L A H d v := by
  cases d with
  | lst ds => simp only [Rep] at h; obtain ⟨a, vs, e, _, h1, h2⟩ := h; exact ⟨a, vs, e, h1, h2⟩
  | _ => exact h
theorem strOk_of {s : Str} (h : strGood s = true) : PyData.strOk s = true := (Bool.and_eq_true_iff.mp h).2
theorem strLen_of {s : Str} (h : strGood s = true) : s.length ≤ sizeLine := by rw [sizeLine_eq]; exact of_decide_eq_true (Bool.and_eq_true_iff.mp h).1
mutual
theorem Rep.dp : ∀ (n : Nat) (d : D) (v : V), D.flat n d = true → Rep L A H d v → Dp L.K H v (toP d) ∧ (toP d).canLay0 = true
  | _, .non, _, _, h => by simp only [Rep] at h; subst h; exact ⟨.non, by simp [toP, PyData.canLay0]⟩
  | _, .bl b, _, _, h => by simp only [Rep] at h; subst h; exact ⟨.bl b, by simp [toP, PyData.canLay0]⟩
  | _, .int i, _, _, h => by simp only [Rep] at h; subst h; exact ⟨.int i, by simp [toP, PyData.canLay0]⟩
  | _, .str s, _, _, h => by simp only [Rep] at h; obtain ⟨e, g⟩ := h; subst e; exact ⟨.str s, by simp only [toP, PyData.canLay0]; exact strOk_of g⟩
  | 0, .tup _, _, f, _ => by simp [D.flat] at f
  | 0, .lst _, _, f, _ => by simp [D.flat] at f
  | n + 1, .tup ds, _, f, h => by
    simp only [D.flat] at f; simp only [Rep] at h
    obtain ⟨a, vs, e, h1, h2⟩ := h; subst e
    obtain ⟨q1, q2⟩ := Reps.dp n ds vs f h2
    exact ⟨.tup h1.1 q1, by simp only [toP, PyData.canLay0]; exact q2⟩
  | n + 1, .lst ds, _, f, h => by
    simp only [D.flat] at f; simp only [Rep] at h
    obtain ⟨a, vs, e, _, h1, h2⟩ := h; subst e
    obtain ⟨q1, q2⟩ := Reps.dp n ds vs f h2
    exact ⟨.lst (.of h1) q1, by simp only [toP, PyData.canLay0]; exact q2⟩
  | n, .scr _, _, f, _ => by cases n <;> simp [D.flat] at f
  | n, .fn _, _, f, _ => by cases n <;> simp [D.flat] at f
  | n, .dct, _, f, _ => by cases n <;> simp [D.flat] at f
theorem Reps.dp : ∀ (n : Nat) (ds : List D) (vs : List V), D.flats n ds = true → Reps L A H ds vs → DpAll L.K H vs (toPs ds) ∧ PyData.canLayAll0 (toPs ds) = true
  | _, [], _, _, h => by simp only [Reps] at h; subst h; exact ⟨.nil, by simp [toPs, PyData.canLayAll0]⟩
  | n, d :: ds, _, f, h => by
    simp only [D.flats, Bool.and_eq_true] at f; simp only [Reps] at h
    obtain ⟨v, r, e, h1, h2⟩ := h; subst e
    obtain ⟨q1, q2⟩ := Rep.dp n d v f.1 h1
    obtain ⟨q3, q4⟩ := Reps.dp n ds r f.2 h2
    exact ⟨.cons q1 q3, by simp only [toPs, PyData.canLayAll0, q2, q4, Bool.and_self]⟩
end
theorem Rep1.dp {n : Nat} {d : D} {v : V} (f : D.flat n d = true) (h : Rep1 L A H d v) : Dp L.K H v (toP d) ∧ (toP d).canLay0 = true := by
  cases d with
  | lst ds =>
    obtain ⟨a, vs, e, h1, h2⟩ := h; subst e
    cases n with
    | zero => simp [D.flat] at f
    | succ n =>
      simp only [D.flat] at f
      obtain ⟨q1, q2⟩ := Reps.dp n ds vs f h2
      exact ⟨.lst (.of h1) q1, by simp only [toP, PyData.canLay0]; exact q2⟩
  | _ => exact Rep.dp (A := A) n _ v f h
theorem shaped_of {n : Nat} {d : D} {v : V} (hn : n ≤ 64) (f : D.flat n d = true) (h : Rep1 L A H d v) : SeqAt.shaped (toP d) = true := by
  unfold SeqAt.shaped
  rw [(h.dp f).2, decide_eq_true (Nat.le_trans (flat_depth n d f) hn)]; rfl
end
theorem anyEq_any (x : D) : ∀ ys : List D, anyEq x ys = ys.any fun y => D.beq y x
  | [] => rfl
  | y :: ys => by simp [anyEq, anyEq_any x ys]
theorem any_toPs {n m : Nat} {x : D} (hx : D.flat n x = true) : ∀ ys : List D, D.flats m ys = true → anyEq x ys = (toPs ys).any fun z => PyData.eqv z (toP x)
  | [], _ => rfl
  | y :: ys, h => by
    simp only [D.flats, Bool.and_eq_true] at h
    simp only [anyEq, toPs, List.any_cons]
    rw [beq_eqv m n y x h.1 hx, any_toPs hx ys h.2]

/-! ### the text of a value -/
theorem strOk_append (a b : Str) : PyData.strOk (a ++ b) = (PyData.strOk a && PyData.strOk b) := by
  show (a.cps ++ b.cps).all _ = _
  rw [Array.all_append]; rfl
theorem strOk_ofString (s : String) : PyData.strOk (Str.ofString s) = true := by
  rw [Str.ofString_eq_toList]
  unfold PyData.strOk
  simp only [List.all_toArray, List.all_eq_true, List.mem_map, decide_eq_true_eq]
  rintro c ⟨x, _, rfl⟩
  have hc := x.valid
  have : x.val.toNat < 1114112 := by
    rcases hc with q | q
    · exact Nat.lt_trans q (by decide)
    · exact q.2
  exact this
theorem strOk_join (z : Str) (hz : PyData.strOk z = true) : ∀ ts : List Str, ts.all PyData.strOk = true → PyData.strOk (Str.join z ts) = true
  | [], _ => by simp [Str.join, Str.empty, PyData.strOk]
  | [x], h => by
    show PyData.strOk x = true
    simpa using h
  | x :: y :: r, h => by
    simp only [List.all_cons, Bool.and_eq_true] at h
    show PyData.strOk (x ++ z ++ Str.join z (y :: r)) = true
    rw [strOk_append, strOk_append, h.1, hz, strOk_join z hz (y :: r) (by simp [h.2.1, h.2.2])]; rfl
theorem strOk_list {ts : List Str} (h : ts.all PyData.strOk = true) : PyData.strOk (listText ts) = true := by
  rw [listText_eq_join, strOk_append, strOk_append, strOk_join _ (strOk_ofString _) ts h, strOk_ofString, strOk_ofString]; rfl
theorem strOk_tuple {ts : List Str} (h : ts.all PyData.strOk = true) : PyData.strOk (tupleText ts) = true := by
  unfold tupleText
  rw [strOk_append, strOk_append, strOk_join _ (strOk_ofString _) ts h, strOk_ofString, strOk_ofString]; rfl
theorem join_ok {z : Str} {xs : List D} {d : D} {A : Addr → Prop} {L : Lk} {H : Hp} {vs : List V} (hz : strGood z = true) (e : joinS z xs = some d) (r : Reps L A H xs vs) : ∃ ys, vs = ys.map V.str ∧ (ys.map (·.length)).sum + ys.length * z.length ≤ 16777216 ∧ d = .str (Txt.join z ys) ∧ strGood (Txt.join z ys) = true := by
  unfold joinS at e
  obtain ⟨ys, e1, e2⟩ := Option.bind_eq_some_iff.mp e
  split at e2 <;> cases e2
  rename_i hl
  obtain ⟨h1, h2⟩ := r.strs e1
  have ej : Txt.join z ys = Str.join z ys := StrLaws.glued_eq_join z ys
  refine ⟨ys, h1, hl, by rw [ej], ?_⟩
  rw [ej]
  unfold strGood
  rw [Bool.and_eq_true]
  refine ⟨decide_eq_true (Nat.le_trans (StrLaws.join_length_le z ys) hl), ?_⟩
  exact strOk_join z (strOk_of hz) ys (List.all_eq_true.mpr fun s hs => strOk_of (h2 s hs))
mutual
theorem shown_ok : ∀ (n : Nat) (d : D), D.flat n d = true → rsm d = true → PyData.strOk (toP d).shown = true ∧ (toP d).showable = true ∧ (toP d).hasDict = false ∧ (toP d).leavesShort 13 = true ∧ (toP d).weight ≤ rwt d
  | _, .non, _, _ => ⟨strOk_ofString _, by simp [toP, PyData.showable], by simp [toP, PyData.hasDict], by simp [toP, PyData.leavesShort], by simp [toP, PyData.weight]⟩
  | _, .bl b, _, _ => ⟨by cases b <;> exact strOk_ofString _, by simp [toP, PyData.showable], by simp [toP, PyData.hasDict], by simp [toP, PyData.leavesShort], by simp [toP, PyData.weight]⟩
  | _, .int i, _, h => by
    simp only [rsm, decide_eq_true_eq] at h
    have l : i.natAbs.log2 < 40 := by
      by_cases z : i.natAbs = 0
      · rw [z]; decide
      · exact (Nat.log2_lt z).mpr (Nat.lt_trans h (by decide))
    refine ⟨strOk_ofString _, by simp only [toP, PyData.showable, decide_eq_true_eq]; omega, by simp [toP, PyData.hasDict], by simp only [toP, PyData.leavesShort, decide_eq_true_eq]; exact PyData.shown_int_le h, ?_⟩
    simp only [toP, rwt, PyData.weight]
    split <;> omega
  | _, .str _, _, h => by simp [rsm] at h
  | 0, .tup _, f, _ => by simp [D.flat] at f
  | 0, .lst _, f, _ => by simp [D.flat] at f
  | n + 1, .tup xs, f, h => by
    simp only [D.flat] at f; simp only [rsm] at h
    obtain ⟨h1, h2, h3, h4, h5⟩ := showns_ok n xs f h
    exact ⟨by simp only [toP, PyData.shown]; exact strOk_tuple h1, by simpa only [toP, PyData.showable] using h2, by simpa only [toP, PyData.hasDict] using h3, by simpa only [toP, PyData.leavesShort] using h4, by simpa only [toP, PyData.weight, rwt] using h5⟩
  | n + 1, .lst xs, f, h => by
    simp only [D.flat] at f; simp only [rsm] at h
    obtain ⟨h1, h2, h3, h4, h5⟩ := showns_ok n xs f h
    exact ⟨by simp only [toP, PyData.shown]; exact strOk_list h1, by simpa only [toP, PyData.showable] using h2, by simpa only [toP, PyData.hasDict] using h3, by simpa only [toP, PyData.leavesShort] using h4, by simpa only [toP, PyData.weight, rwt] using h5⟩
  | n, .scr _, f, _ => by cases n <;> simp [D.flat] at f
  | n, .fn _, f, _ => by cases n <;> simp [D.flat] at f
  | n, .dct, f, _ => by cases n <;> simp [D.flat] at f
theorem showns_ok : ∀ (n : Nat) (ds : List D), D.flats n ds = true → rsms ds = true → (PyData.shownAll (toPs ds)).all PyData.strOk = true ∧ PyData.showableAll (toPs ds) = true ∧ PyData.hasDictAll (toPs ds) = false ∧ PyData.leavesShortAll 13 (toPs ds) = true ∧ PyData.weightAll (toPs ds) ≤ rwts ds
  | _, [], _, _ => ⟨by simp [toPs, PyData.shownAll], by simp [toPs, PyData.showableAll], by simp [toPs, PyData.hasDictAll], by simp [toPs, PyData.leavesShortAll], by simp [toPs, PyData.weightAll]⟩
  | n, d :: ds, f, h => by
    simp only [D.flats, Bool.and_eq_true] at f; simp only [rsms, Bool.and_eq_true] at h
    obtain ⟨a1, a2, a3, a4, a5⟩ := shown_ok n d f.1 h.1
    obtain ⟨b1, b2, b3, b4, b5⟩ := showns_ok n ds f.2 h.2
    refine ⟨by simp only [toPs, PyData.shownAll, List.all_cons, a1, b1, Bool.and_self], by simp only [toPs, PyData.showableAll, a2, b2, Bool.and_self], by simp only [toPs, PyData.hasDictAll, a3, b3, Bool.or_self], by simp only [toPs, PyData.leavesShortAll, a4, b4, Bool.and_self], ?_⟩
    simp only [toPs, PyData.weightAll, rwts]
    omega
end
theorem repr_of {d e : D} (h : reprF d = some e) : D.flat 60 d = true ∧ e = .str (toP d).shown ∧ strGood (toP d).shown = true ∧ (toP d).shown.length ≤ sizeLine ∧ (toP d).showable = true ∧ (toP d).hasDict = false := by
  unfold reprF at h
  split at h <;> cases h
  rename_i c
  simp only [Bool.and_eq_true, decide_eq_true_eq] at c
  obtain ⟨h1, h2, h3, h4, h5⟩ := shown_ok 60 d c.1.1 c.1.2
  have l := PyData.shown_fits (B := 13) (by decide) (by decide) h4 (Nat.le_trans h5 c.2)
  refine ⟨c.1.1, rfl, ?_, l, h2, h3⟩
  unfold strGood
  rw [sizeLine_eq] at l
  rw [Bool.and_eq_true]
  exact ⟨decide_eq_true l, h1⟩
/-- the ways in which a value may be handed on: as it lies, as a new list, as a new tuple -/
structure Out (L : Lk) (A : Addr → Prop) (H : Hp) (b : Bool) (d : D) (Q : VK) : Prop where
  old : ∀ v, (b = true → ∀ ds, d ≠ .lst ds) → Rep L A H d v → Q v H
  lst : ∀ ds p vs, d = .lst ds → H p = none → Reps L A H ds vs → Q (.ref p) (upd H p (.lst vs))
  tup : ∀ ds p vs o, d = .tup ds → H p = none → o.dict = none → Reps L A H ds vs → Q (.ref p) (upd H p (.frz o (.tup vs)))
section
variable {L : Lk} {A : Addr → Prop} {H : Hp} {b : Bool} {Q : VK}
theorem Out.int {i : Int} (o : Out L A H b (.int i) Q) : Q (.int i) H := o.old _ (fun _ _ z => nomatch z) (by simp only [Rep])
theorem Out.bl {i : Bool} (o : Out L A H b (.bl i) Q) : Q (.bl i) H := o.old _ (fun _ _ z => nomatch z) (by simp only [Rep])
theorem Out.non (o : Out L A H b .non Q) : Q .non H := o.old _ (fun _ _ z => nomatch z) (by simp only [Rep])
end

def opP : Op → Operator
  | .add => .Add | .sub => .Sub | .mul => .Mult | .fdiv => .FloorDiv | .mod => .Mod | .pow => .Pow
def cmP : Cm → CmpOp
  | .eq => .Eq | .ne => .NotEq | .lt => .Lt | .le => .LtE | .gt => .Gt | .ge => .GtE | .is => .Is | .isnot => .IsNot | .inn => .In | .notin => .NotIn
def rBin (L : Lk) (o : Op) (b : Bool) : R2 := fun x y H Q => ∃ dx dy d A, binF o dx dy = some d ∧ Rep1 L A H dx x ∧ Rep1 L A H dy y ∧ Out L A H b d Q
def rCmp (L : Lk) (o : Cm) : R2 := fun x y H Q => ∃ dx dy d A, cmpF o dx dy = some d ∧ Rep1 L A H dx x ∧ Rep1 L A H dy y ∧ Q (.bl d) H
section
variable {L : Lk} {X : Cx} {k : Nat}
theorem rI_of {C : Int → Int → Prop} {g : Int → Int → V} {i j : Int} {H : Hp} {Q : VK} (c : C i j) (q : Q (g i j) H) : rI C g (.int i) (.int j) H Q := ⟨i, j, rfl, rfl, c, q⟩
theorem op_bin (hK : X.K = L.K) (o : Op) (b : Bool) : OpR X (binaryOp (opP o)) (rBin L o b) := by
  intro pins s σ H x y v u Q I rx ry h
  obtain ⟨dx, dy, d, A, e, hx, hy, ho⟩ := h
  cases o with
  | add =>
    cases dx <;> cases dy <;> simp only [binF] at e <;> first | (cases e; done) | skip
    · cases e
      simp only [Rep1, Rep] at hx hy; subst hx hy
      exact op_add pins s σ H _ _ v u Q I rx ry ⟨_, _, rfl, rfl, ho.int⟩
    · split at e <;> cases e
      rename_i hz
      simp only [Rep1, Rep] at hx hy
      obtain ⟨rfl, gx⟩ := hx
      obtain ⟨rfl, gy⟩ := hy
      refine op_add_str pins s σ H _ _ v u Q I rx ry ⟨_, _, rfl, rfl, by rw [← big_line]; exact hz, ho.old _ (fun _ _ z => nomatch z) ?_⟩
      simp only [Rep]
      refine ⟨trivial, ?_⟩
      unfold strGood
      rw [Bool.and_eq_true]
      refine ⟨decide_eq_true (by rw [strLen_append]; exact hz), ?_⟩
      exact (strOk_append _ _).trans (by rw [strOk_of gx, strOk_of gy]; rfl)
    · split at e <;> cases e
      rename_i hz
      have hx' := hx; have hy' := hy
      simp only [Rep1, Rep] at hx' hy'
      obtain ⟨a, xs, rfl, h1, h2⟩ := hx'
      obtain ⟨c, ys, rfl, h3, h4⟩ := hy'
      refine tk_cat pins s σ H _ _ v u Q I rx ry ⟨a, c, xs, ys, rfl, rfl, by rw [hK]; exact h1.1, by rw [hK]; exact h3.1, by rw [h2.len, h4.len, ← big_line]; exact hz, fun z => ?_, fun _ z => ?_, fun _ _ p o hp ho2 => ho.tup _ p _ o rfl hp ho2 (h2.append h4)⟩
      · subst z
        have l := h2.len
        rename_i as bs
        have e0 : as = [] := List.length_eq_zero_iff.mp (by simpa using l.symm)
        subst e0
        refine ho.old _ (fun _ _ z => nomatch z) ?_
        simp only [List.nil_append, Rep]
        exact ⟨c, ys, rfl, h3, h4⟩
      · subst z
        have l := h4.len
        rename_i as bs _
        have e0 : bs = [] := List.length_eq_zero_iff.mp (by simpa using l.symm)
        subst e0
        refine ho.old _ (fun _ _ z => nomatch z) ?_
        simp only [List.append_nil, Rep]
        exact ⟨a, xs, rfl, h1, h2⟩
    · split at e <;> cases e
      rename_i hz
      obtain ⟨a, xs, rfl, h1, h2⟩ := hx
      obtain ⟨c, ys, rfl, h3, h4⟩ := hy
      exact op_cat pins s σ H _ _ v u Q I rx ry ⟨a, c, xs, ys, rfl, rfl, h1, h3, by rw [h2.len, h4.len, ← big_line]; exact hz, fun p hp => ho.lst _ p _ rfl hp (h2.append h4)⟩
  | sub =>
    cases dx <;> cases dy <;> simp only [binF] at e <;> first | (cases e; done) | skip
    cases e
    simp only [Rep1, Rep] at hx hy; subst hx hy
    exact op_sub pins s σ H _ _ v u Q I rx ry ⟨_, _, rfl, rfl, ho.int⟩
  | mul =>
    cases dx <;> cases dy <;> simp only [binF] at e <;> first | (cases e; done) | skip
    · split at e <;> cases e
      rename_i hz
      simp only [Rep1, Rep] at hx hy; subst hx hy
      unfold mulOk at hz
      simp only [Bool.or_eq_true, Bool.and_eq_true, decide_eq_true_eq] at hz
      rcases hz with (hz | hz) | hz
      · exact op_mul pins s σ H _ _ v u Q I rx ry (rI_of (.inl hz) ho.int)
      · exact op_mul pins s σ H _ _ v u Q I rx ry (rI_of (.inr hz) ho.int)
      · exact op_mulW pins s σ H _ _ v u Q I rx ry (rI_of hz ho.int)
    · split at e <;> cases e
      rename_i hz
      simp only [Bool.and_eq_true, decide_eq_true_eq] at hz
      obtain ⟨⟨⟨z1, z2⟩, z3⟩, z4⟩ := hz
      simp only [Rep1, Rep] at hx hy; subst hy
      obtain ⟨a, vs, rfl, h1, h2⟩ := hx
      have l := h2.len
      refine tk_rep pins s σ H _ _ v u Q I rx ry ⟨a, _, vs, rfl, rfl, by rw [hK]; exact h1.1, (fun z => by rw [z] at l; simp at l; omega), z1, z2, by omega, fun k1 => ?_, fun p o hp hd => ho.tup _ p _ o rfl hp hd (h2.rep _)⟩
      subst k1
      refine ho.old _ (fun _ _ z => nomatch z) ?_
      simp only [Rep, Int.toNat_one, List.replicate_one, List.flatten_cons, List.flatten_nil, List.append_nil]
      exact ⟨a, vs, rfl, h1, h2⟩
    · split at e <;> cases e
      rename_i hz
      simp only [Bool.and_eq_true, decide_eq_true_eq] at hz
      obtain ⟨⟨z1, z2⟩, z3⟩ := hz
      simp only [Rep1, Rep] at hx hy; subst hy
      obtain ⟨a, vs, rfl, h1, h2⟩ := hx
      exact op_rep pins s σ H _ _ v u Q I rx ry ⟨a, _, vs, rfl, rfl, h1, z1, z2, by rw [h2.len, ← big_line]; exact z3, fun p hp => ho.lst _ p _ rfl hp (h2.rep _)⟩
  | pow =>
    cases dx <;> cases dy <;> simp only [binF] at e <;> first | (cases e; done) | skip
    split at e <;> cases e
    rename_i hz
    simp only [Bool.and_eq_true, decide_eq_true_eq] at hz
    simp only [Rep1, Rep] at hx hy; subst hx hy
    exact op_pow pins s σ H _ _ v u Q I rx ry (rI_of ⟨hz.1.1, by omega, hz.2⟩ ho.int)
  | fdiv =>
    cases dx <;> cases dy <;> simp only [binF] at e <;> first | (cases e; done) | skip
    split at e <;> cases e
    rename_i hz
    simp only [Rep1, Rep] at hx hy; subst hx hy
    unfold divOk at hz
    simp only [Bool.or_eq_true, Bool.and_eq_true, decide_eq_true_eq] at hz
    rcases hz with ⟨h0, hz | hz⟩
    · exact op_fdiv pins s σ H _ _ v u Q I rx ry (rI_of ⟨h0, hz⟩ ho.int)
    · exact op_fdivW pins s σ H _ _ v u Q I rx ry (rI_of ⟨h0, hz⟩ ho.int)
  | mod =>
    cases dx <;> cases dy <;> simp only [binF] at e <;> first | (cases e; done) | skip
    split at e <;> cases e
    rename_i hz
    simp only [Rep1, Rep] at hx hy; subst hx hy
    exact op_mod pins s σ H _ _ v u Q I rx ry (rI_of hz ho.int)

theorem Reps.intsK {A : Addr → Prop} {H : Hp} {ds : List D} {vs : List V} {ns : List Int} (h : Reps L A H ds vs) (e : intsOf ds = some ns) : vs = ns.map V.int := h.ints e
theorem lexLt_eq : ∀ a b : List Int, lexLt a b = HT.lexLt a b
  | [], [] => rfl
  | [], _ :: _ => rfl
  | _ :: _, [] => rfl
  | x :: xs, y :: ys => by simp only [lexLt, HT.lexLt_cons, lexLt_eq xs ys]
theorem op_cmp (hK : X.K = L.K) (hr : Room k X.A) (o : Cm) : OpR X (compareOp (cmP o)) (rCmp L o) := by
  intro pins s σ H x y v u Q I rx ry h
  obtain ⟨dx, dy, d, A, e, hx, hy, ho⟩ := h
  have hu : X.A.units + 65 < cLine := by have := hr.un; omega
  have eqc : ∀ {c : Bool}, eqD dx dy = some c → (∃ d e, Dp X.K H x d ∧ Dp X.K H y e ∧ SeqAt.shaped d = true ∧ SeqAt.shaped e = true ∧ c = PyData.eqv d e) := fun {c} q => by
    unfold eqD at q
    split at q <;> cases q
    rename_i hf
    simp only [Bool.and_eq_true] at hf
    rw [hK]
    exact ⟨_, _, (hx.dp hf.1).1, (hy.dp hf.2).1, shaped_of (by decide) hf.1 hx, shaped_of (by decide) hf.2 hy, beq_eqv 60 60 dx dy hf.1 hf.2⟩
  have inc : ∀ {c : Bool}, inD dx dy = some c → (∃ d ds, Dp X.K H x d ∧ d.canLay0 = true ∧ SeqAt.shaped d = true ∧ PyData.canLayAll0 ds = true ∧ (Dp X.K H y (.list ds) ∨ Dp X.K H y (.tuple ds)) ∧ c = ds.any fun z => PyData.eqv z d) := fun {c} q => by
    cases dy <;> simp only [inD] at q <;> first | (cases q; done) | skip
    all_goals
      split at q <;> cases q
      rename_i ys hf
      simp only [Bool.and_eq_true] at hf
      rw [hK]
    · have hf2 : D.flat 60 (.tup ys) = true := by simp only [D.flat]; exact hf.2
      obtain ⟨q1, q2⟩ := hy.dp hf2
      exact ⟨_, toPs ys, (hx.dp hf.1).1, (hx.dp hf.1).2, shaped_of (by decide) hf.1 hx, by simpa only [toP, PyData.canLay0] using q2, .inr (by simpa only [toP] using q1), any_toPs hf.1 ys hf.2⟩
    · have hf2 : D.flat 60 (.lst ys) = true := by simp only [D.flat]; exact hf.2
      obtain ⟨q1, q2⟩ := hy.dp hf2
      exact ⟨_, toPs ys, (hx.dp hf.1).1, (hx.dp hf.1).2, shaped_of (by decide) hf.1 hx, by simpa only [toP, PyData.canLay0] using q2, .inl (by simpa only [toP] using q1), any_toPs hf.1 ys hf.2⟩
  cases o with
  | eq =>
    obtain ⟨a, b, h1, h2, h3, h4, h5⟩ := eqc (by simpa only [cmpF] using e)
    exact op_eqD (by omega) pins s σ H x y v u Q I rx ry ⟨a, b, h1, h2, h3, h4, h5 ▸ ho⟩
  | ne =>
    simp only [cmpF, Option.map_eq_some_iff] at e
    obtain ⟨c, e1, e2⟩ := e
    obtain ⟨a, b, h1, h2, h3, h4, h5⟩ := eqc e1
    exact op_neD (by omega) pins s σ H x y v u Q I rx ry ⟨a, b, h1, h2, h3, h4, by rw [← h5, e2]; exact ho⟩
  | lt =>
    cases dx <;> cases dy <;> simp only [cmpF] at e <;> first | (cases e; done) | skip
    · cases e
      simp only [Rep1, Rep] at hx hy; subst hx hy
      exact op_lt pins s σ H _ _ v u Q I rx ry ⟨_, _, rfl, rfl, ho⟩
    · split at e <;> cases e
      rename_i a c e1 e2
      simp only [Rep1, Rep] at hx hy
      obtain ⟨p, xs, rfl, h1, h2⟩ := hx
      obtain ⟨q, ys, rfl, h3, h4⟩ := hy
      rw [h2.ints e1] at h1
      rw [h4.ints e2] at h3
      exact op_ltT (by omega) pins s σ H _ _ v u Q I rx ry ⟨p, q, a, c, rfl, rfl, by rw [hK]; exact h1.1, by rw [hK]; exact h3.1, by rw [← lexLt_eq]; exact ho⟩
  | le =>
    cases dx <;> cases dy <;> simp only [cmpF] at e <;> first | (cases e; done) | skip
    cases e
    simp only [Rep1, Rep] at hx hy; subst hx hy
    exact op_le pins s σ H _ _ v u Q I rx ry ⟨_, _, rfl, rfl, ho⟩
  | gt =>
    cases dx <;> cases dy <;> simp only [cmpF] at e <;> first | (cases e; done) | skip
    cases e
    simp only [Rep1, Rep] at hx hy; subst hx hy
    exact op_gt pins s σ H _ _ v u Q I rx ry ⟨_, _, rfl, rfl, ho⟩
  | ge =>
    cases dx <;> cases dy <;> simp only [cmpF] at e <;> first | (cases e; done) | skip
    cases e
    simp only [Rep1, Rep] at hx hy; subst hx hy
    exact op_ge pins s σ H _ _ v u Q I rx ry ⟨_, _, rfl, rfl, ho⟩
  | is =>
    have nn : ∀ {d : D}, (match d with | .non => true | _ => false) = decide (x = .non) → True := fun _ => trivial
    cases dy <;> simp only [cmpF] at e <;> first | (cases dx <;> cases e; done) | skip
    · simp only [Rep1, Rep] at hy; subst hy
      refine op_isN pins s σ H _ _ v u Q I rx ry ⟨rfl, ?_⟩
      have q : d = decide (x = .non) := by
        cases dx <;> simp only [Option.some.injEq] at e <;> subst e <;> simp only [Rep1, Rep] at hx
        · subst hx; rfl
        · subst hx; rfl
        · subst hx; rfl
        · obtain ⟨rfl, _⟩ := hx; rfl
        · obtain ⟨a, vs, rfl, _⟩ := hx; rfl
        · obtain ⟨a, vs, rfl, _⟩ := hx; rfl
        · obtain ⟨a, rfl, _⟩ := hx; rfl
        · subst hx; rfl
        · obtain ⟨a, rfl, _⟩ := hx; rfl
      rw [← q]; exact ho
    · cases dx <;> simp only [cmpF] at e <;> first | (cases e; done) | skip
      cases e
      simp only [Rep1, Rep] at hx hy; subst hx hy
      refine op_isBl pins s σ H _ _ v u Q I rx ry ⟨_, _, rfl, rfl, ?_⟩
      rw [← Bool.beq_eq_decide_eq]; exact ho
  | isnot =>
    cases dy <;> simp only [cmpF] at e <;> first | (cases dx <;> cases e; done) | skip
    · simp only [Rep1, Rep] at hy; subst hy
      refine op_notN pins s σ H _ _ v u Q I rx ry ⟨rfl, ?_⟩
      have q : d = !decide (x = .non) := by
        cases dx <;> simp only [Option.some.injEq] at e <;> subst e <;> simp only [Rep1, Rep] at hx
        · subst hx; rfl
        · subst hx; rfl
        · subst hx; rfl
        · obtain ⟨rfl, _⟩ := hx; rfl
        · obtain ⟨a, vs, rfl, _⟩ := hx; rfl
        · obtain ⟨a, vs, rfl, _⟩ := hx; rfl
        · obtain ⟨a, rfl, _⟩ := hx; rfl
        · subst hx; rfl
        · obtain ⟨a, rfl, _⟩ := hx; rfl
      rw [← q]; exact ho
    · cases dx <;> simp only [cmpF] at e <;> first | (cases e; done) | skip
      cases e
      simp only [Rep1, Rep] at hx hy; subst hx hy
      refine op_notBl pins s σ H _ _ v u Q I rx ry ⟨_, _, rfl, rfl, ?_⟩
      rw [← Bool.beq_eq_decide_eq]; exact ho
  | inn =>
    obtain ⟨a, ds, h1, h2, h3, h4, h5, h6⟩ := inc (by simpa only [cmpF] using e)
    obtain ⟨as, r1⟩ := Dp.reads I a x v h1 rx
    rcases h5 with h5 | h5
    · obtain ⟨bs, r2⟩ := Dp.reads I _ y u h5 ry
      exact SeqAt.in_list_reads r2 r1 h4 h2 (PyProof.Rows.room_in_shaped h3 hu) ⟨.bl _, H, I, rfl, h6 ▸ ho⟩
    · obtain ⟨bs, r2⟩ := Dp.reads I _ y u h5 ry
      exact SeqAt.in_tuple_reads r2 r1 h4 h2 (PyProof.Rows.room_in_shaped h3 hu) ⟨.bl _, H, I, rfl, h6 ▸ ho⟩
  | notin =>
    simp only [cmpF, Option.map_eq_some_iff] at e
    obtain ⟨c, e1, e2⟩ := e
    obtain ⟨a, ds, h1, h2, h3, h4, h5, h6⟩ := inc e1
    subst e2
    obtain ⟨as, r1⟩ := Dp.reads I a x v h1 rx
    rcases h5 with h5 | h5
    · obtain ⟨bs, r2⟩ := Dp.reads I _ y u h5 ry
      exact SeqAt.notIn_list_reads r2 r1 h4 h2 (PyProof.Rows.room_in_shaped h3 hu) ⟨.bl _, H, I, rfl, h6 ▸ ho⟩
    · obtain ⟨bs, r2⟩ := Dp.reads I _ y u h5 ry
      exact SeqAt.notIn_tuple_reads r2 r1 h4 h2 (PyProof.Rows.room_in_shaped h3 hu) ⟨.bl _, H, I, rfl, h6 ▸ ho⟩
end
end Tk

set_option Elab.async false
set_option linter.all false
set_option maxRecDepth 100000
set_option maxHeartbeats 2000000
namespace Tk
open PySem PySem.Spec PyProof.Rows L2

def Rep1s (L : Lk) (A : Addr → Prop) (H : Hp) : List D → List V → Prop
  | [], vs => vs = []
  | d :: ds, vs => ∃ v r, vs = v :: r ∧ Rep1 L A H d v ∧ Rep1s L A H ds r
section
variable {L : Lk} {X : Cx} {k : Nat} {A : Addr → Prop} {H : Hp}
theorem Rep1s.one {d : D} {xs : List V} (h : Rep1s L A H [d] xs) : ∃ x, xs = [x] ∧ Rep1 L A H d x := by
  obtain ⟨v, r, rfl, h1, h2⟩ := h
  have h2 : r = [] := h2
  subst h2
  exact ⟨v, rfl, h1⟩
theorem Rep1s.two {d e : D} {xs : List V} (h : Rep1s L A H [d, e] xs) : ∃ x y, xs = [x, y] ∧ Rep1 L A H d x ∧ Rep1 L A H e y := by
  obtain ⟨v, r, rfl, h1, h2⟩ := h
  obtain ⟨y, rfl, h3⟩ := Rep1s.one h2
  exact ⟨v, y, rfl, h1, h3⟩

/-- a built-in by its name -/
def biV : Bi → Value
  | .len => .builtin "len" | .abs => .builtin "abs" | .int => .type "int" | .sum => .builtin "sum" | .all => .builtin "all" | .any => .builtin "any"
  | .list => .type "list" | .tuple => .type "tuple" | .gcd => .builtin "math.gcd" | .max1 => .builtin "max" | .min1 => .builtin "min" | .max2 => .builtin "max" | .min2 => .builtin "min" | .divmod => .builtin "divmod" | .repr => .builtin "repr" | .sorted => .builtin "sorted"
def rBi (L : Lk) (f : Bi) (b : Bool) : List V → Hp → VK → Prop := fun xs H Q => ∃ ds d A, biF f ds = some d ∧ Rep1s L A H ds xs ∧ Out L A H b d Q

theorem maxI_mem : ∀ (ns : List Int) (m : Int), maxI m ns ∈ m :: ns ∧ ∀ y ∈ m :: ns, y ≤ maxI m ns
  | [], m => ⟨by simp [maxI], by simp [maxI]⟩
  | x :: ns, m => by
    obtain ⟨h1, h2⟩ := maxI_mem ns (if x > m then x else m)
    refine ⟨?_, fun y hy => ?_⟩
    · simp only [maxI]
      rcases List.mem_cons.mp h1 with e | e
      · rw [e]; split <;> simp
      · exact List.mem_cons_of_mem _ (List.mem_cons_of_mem _ e)
    · simp only [maxI]
      have top := h2 _ List.mem_cons_self
      rcases List.mem_cons.mp hy with e | hy
      · subst e; split at top <;> rename_i c <;> (simp only [c, if_true, if_false] ; omega)
      · rcases List.mem_cons.mp hy with e | hy
        · subst e; split at top <;> rename_i c <;> (simp only [c, if_true, if_false] ; omega)
        · exact h2 y (List.mem_cons_of_mem _ hy)
theorem minI_mem : ∀ (ns : List Int) (m : Int), minI m ns ∈ m :: ns ∧ ∀ y ∈ m :: ns, minI m ns ≤ y
  | [], m => ⟨by simp [minI], by simp [minI]⟩
  | x :: ns, m => by
    obtain ⟨h1, h2⟩ := minI_mem ns (if x < m then x else m)
    refine ⟨?_, fun y hy => ?_⟩
    · simp only [minI]
      rcases List.mem_cons.mp h1 with e | e
      · rw [e]; split <;> simp
      · exact List.mem_cons_of_mem _ (List.mem_cons_of_mem _ e)
    · simp only [minI]
      have top := h2 _ List.mem_cons_self
      rcases List.mem_cons.mp hy with e | hy
      · subst e; split at top <;> rename_i c <;> (simp only [c, if_true, if_false] ; omega)
      · rcases List.mem_cons.mp hy with e | hy
        · subst e; split at top <;> rename_i c <;> (simp only [c, if_true, if_false] ; omega)
        · exact h2 y (List.mem_cons_of_mem _ hy)

/-- sum(t) of a tuple of ints -/
theorem cr_sumT (hc : X.calm = true) : CallR X (.builtin "sum") (fun vs H Q => ∃ (a : Addr) (ns : List Int), vs = [V.ref a] ∧ SqT X.K H a (ns.map V.int) ∧ Q (.int ns.sum) H) := by
  intro pins s σ H vs us Q I r h
  obtain ⟨a, ns, rfl, hs, q⟩ := h
  obtain ⟨its, rv, p, _⟩ := I.tuple hs
  rw [Vals.ref1 r]
  obtain ⟨xs, e⟩ := rv.ints.allInts.items
  have hn : numsOf (intItems xs).toList = ns := by rw [← e]; exact rv.ints.numsOf
  rw [nums_intItems] at hn
  rw [e] at p
  refine PySem.W.ktm_sumG (I.ok.hd hc) (show s.heap.IsTuple a (intItems xs) from p) fun h' tk t' hk => ?_
  rw [preSum_eq, List.take_of_length_le (by simp), hn]
  exact ⟨.int _, H, I.kept hk, ⟨_, rfl⟩, q⟩
theorem cr_repr (hK : X.K = L.K) (hgd : X.A.guards = some []) (hu : X.A.units + 80 < cLine) {d e : D} {A : Addr → Prop} (ht : ∃ zs, d = .lst zs ∨ d = .tup zs) (he : reprF d = some e) :
    CallR X (.builtin "repr") (fun vs H Q => ∃ x, vs = [x] ∧ Rep1 L A H d x ∧ ∀ s, e = .str s → strGood s = true → Q (.str s) H) := by
  intro pins s σ H xs us Q I r h
  obtain ⟨x, rfl, hx, q⟩ := h
  obtain ⟨g1, g2, g3, g4, g5, g6⟩ := repr_of he
  have hp := (hx.dp g1).1
  have adr : ∃ a, x = .ref a := by
    obtain ⟨zs, rfl | rfl⟩ := ht
    · obtain ⟨a, _, e, _⟩ := hx; exact ⟨a, e⟩
    · simp only [Rep1, Rep] at hx; obtain ⟨a, _, e, _⟩ := hx; exact ⟨a, e⟩
  obtain ⟨a, rfl⟩ := adr
  cases r with
  | cons r1 r2 =>
    cases r2
    cases r1
    obtain ⟨as, rd⟩ := Dp.reads I (toP d) (.ref a) (.ref a) (by rw [hK]; exact hp) rfl
    have dep := flat_depth 60 d g1
    refine repr_of_reads' rd g5 (by rw [g6]; intro z; cases z) hgd (by omega) (fun _ _ z => z) (fun h' u tk hk => ?_) g4
    exact ⟨.str _, H, I.kept hk, ⟨u, rfl⟩, q _ g2 g3⟩
/-! ### sorted -/
theorem flats_mem {n : Nat} {ds : List D} (h : D.flats n ds = true) : ∀ d ∈ ds, D.flat n d = true := by
  induction ds with
  | nil => intro d hd; cases hd
  | cons d ds ih =>
    simp only [D.flats, Bool.and_eq_true] at h
    intro e he
    rcases List.mem_cons.mp he with rfl | he
    · exact h.1
    · exact ih h.2 e he
theorem toP_ne {d : D} (h : noTup d = true) (f : D.flat 59 d = true) : toP d ≠ .none ∧ ∀ xs, toP d ≠ .tuple xs := by
  cases d <;> first | (simp [noTup] at h; done) | (simp [D.flat] at f; done) | (exact ⟨by simp [toP], by simp [toP]⟩)
theorem toP_tup {d : D} (h : neTup d = true) : ∃ x r, toP d = .tuple (x :: r) := by
  cases d with
  | tup xs =>
    cases xs with
    | nil => simp [neTup] at h
    | cons x xs => exact ⟨toP x, toPs xs, by simp [toP, toPs]⟩
  | _ => simp [neTup] at h
theorem each_of_reps {L : Lk} {A : Addr → Prop} {H : Hp} : ∀ {ds : List D} {ws : List V} {us : List Value}, Reps L A H ds ws → Vals ws us → PySem.W.EachIs (fun v d => ∃ x, RelV x v ∧ Rep L A H d x) us ds
  | [], ws, us, r, v => by simp only [Reps] at r; subst r; cases v; exact .nil
  | d :: ds, ws, us, r, v => by
    simp only [Reps] at r
    obtain ⟨x, rs, rfl, h1, h2⟩ := r
    cases v with
    | cons v1 v2 => exact .cons ⟨x, v1, h1⟩ (each_of_reps h2 v2)
theorem reps_of_each {L : Lk} {A : Addr → Prop} {H : Hp} : ∀ {ds : List D} {us : List Value}, PySem.W.EachIs (fun v d => ∃ x, RelV x v ∧ Rep L A H d x) us ds → ∃ ws, Vals ws us ∧ Reps L A H ds ws
  | [], _, .nil => ⟨[], .nil, Reps.nil⟩
  | d :: ds, _, .cons ⟨x, v1, h1⟩ t => by
    obtain ⟨ws, v2, h2⟩ := reps_of_each t
    exact ⟨x :: ws, .cons v1 v2, by simp only [Reps]; exact ⟨x, ws, rfl, h1, h2⟩⟩
theorem cr_sorted (hK : X.K = L.K) (hu : X.A.units + 80 < cLine) {xs : List D} (ok : okSort xs = true) :
    CallR X (.builtin "sorted") (fun vs H Q => ∃ x A, vs = [x] ∧ Rep1 L A H (.lst xs) x ∧ ∀ p ws, H p = none → Reps L A H (xs.mergeSort leD) ws → Q (.ref p) (upd H p (.lst ws))) := by
  intro pins s σ H vs us Q I r h
  obtain ⟨x, A, rfl, ⟨a, ws, rfl, h1, h2⟩, q⟩ := h
  unfold okSort at ok
  simp only [Bool.and_eq_true, decide_eq_true_eq, Bool.or_eq_true] at ok
  obtain ⟨⟨⟨o1, o2⟩, o3⟩, o4⟩ := ok
  obtain ⟨its, rv, hl, hz⟩ := I.list (.of h1)
  rw [Vals.ref1 r]
  have fl := flats_mem o1
  have e := each_of_reps h2 rv
  have er : PySem.W.EachIs (fun v d => ∃ as, Reads s.heap v (toP d) as) its xs := (PySem.W.each_mem e).mono fun v d ⟨⟨x, rx, hx⟩, hd⟩ => Dp.reads I (toP d) x v (by rw [hK]; exact (Rep.dp 59 d x (fl d hd) hx).1) rx
  refine PySem.W.sorted_data (bs := xs) (enc := toP) (R := fun v d => ∃ x, RelV x v ∧ Rep L A H d x) hl.isList e er ?_ ?_ (by rw [sizeLine_eq]; exact o2) ?_ ?_
  · intro d hd d' hd'
    obtain ⟨b, hb, rfl⟩ := List.mem_map.mp hd
    obtain ⟨b', hb', rfl⟩ := List.mem_map.mp hd'
    exact List.all_eq_true.mp (List.all_eq_true.mp o3 b hb) b' hb'
  · rcases o4 with o4 | o4
    · refine .inl fun d hd => ?_
      obtain ⟨b, hb, rfl⟩ := List.mem_map.mp hd
      exact toP_tup (List.all_eq_true.mp o4 b hb)
    · refine .inr fun d hd => ?_
      obtain ⟨b, hb, rfl⟩ := List.mem_map.mp hd
      exact toP_ne (List.all_eq_true.mp o4 b hb) (fl b hb)
  · intro b hb
    have := flat_depth 59 b (fl b hb)
    omega
  · intro out hlen eo
    have eo' : PySem.W.EachIs (fun v d => ∃ x, RelV x v ∧ Rep L A H d x) out (xs.mergeSort leD) := eo
    obtain ⟨zs, rz, hzs⟩ := reps_of_each eo'
    obtain ⟨ep, he'⟩ := PyProof.Rows.sortedAll_at s.heap its out.toArray
    have hln : zs.length ≤ sizeLine := by
      rw [rz.length, hlen, sizeLine_eq]; exact o2
    exact ⟨.ref _, upd H (s.heap.objs.size + 1) (.lst zs), I.laid (t' := s.toks) (fun _ _ => PyProof.Rows.sortedAll_old) (Nat.le_succ _) ⟨hln, out, ep, rz, he'⟩, rfl, q _ _ (I.hok.fresh (Nat.le_succ _)) hzs⟩
theorem cr_bi (hK : X.K = L.K) (hc : X.calm = true) (hgd : X.A.guards = some []) (hu : X.A.units + 80 < cLine) (f : Bi) (b : Bool) : CallR X (biV f) (rBi L f b) := by
  intro pins s σ H xs us Q I r h
  obtain ⟨ds, d, A, e0, hx0, ho⟩ := h
  cases f with
  | len =>
    match ds, e0, hx0 with
    | [.lst zs], e, hx =>
      have hq := hx.one; clear hx; obtain ⟨x, rfl, hx⟩ := hq
      simp only [biF, Option.some.injEq] at e; subst e
      obtain ⟨a, vs, rfl, h1, h2⟩ := hx
      refine call_len_seq pins s σ H _ us Q I r ⟨a, vs, rfl, .inl (.of h1), ?_⟩
      rw [h2.len]; exact ho.int
    | [.tup zs], e, hx =>
      have hq := hx.one; clear hx; obtain ⟨x, rfl, hx⟩ := hq
      simp only [biF, Option.some.injEq] at e; subst e
      simp only [Rep1, Rep] at hx
      obtain ⟨a, vs, rfl, h1, h2⟩ := hx
      refine call_len_seq pins s σ H _ us Q I r ⟨a, vs, rfl, .inr (by rw [hK]; exact h1.1), ?_⟩
      rw [h2.len]; exact ho.int
    | [.scr zs], e, hx =>
      have hq := hx.one; clear hx; obtain ⟨x, rfl, hx⟩ := hq
      simp only [biF, Option.some.injEq] at e; subst e
      simp only [Rep1, Rep] at hx
      obtain ⟨a, rfl, h1⟩ := hx
      refine call_len_seq pins s σ H _ us Q I r ⟨a, _, rfl, .inl (by rw [hK]; exact h1.sq), ?_⟩
      rw [List.length_map]; exact ho.int
    | [.str z], e, hx =>
      have hq := hx.one; clear hx; obtain ⟨x, rfl, hx⟩ := hq
      simp only [biF, Option.some.injEq] at e; subst e
      simp only [Rep1, Rep] at hx
      obtain ⟨rfl, g⟩ := hx
      exact call_len_str pins s σ H _ us Q I r ⟨z, rfl, strLen_of g, ho.int⟩
  | abs =>
    match ds, e0, hx0 with
    | [.int i], e, hx =>
      have hq := hx.one; clear hx; obtain ⟨x, rfl, hx⟩ := hq
      simp only [biF, Option.some.injEq] at e; subst e
      simp only [Rep1, Rep] at hx; subst hx
      exact call_abs pins s σ H _ us Q I r ⟨i, rfl, ho.int⟩
  | int =>
    match ds, e0, hx0 with
    | [.int i], e, hx =>
      have hq := hx.one; clear hx; obtain ⟨x, rfl, hx⟩ := hq
      simp only [biF, Option.some.injEq] at e; subst e
      simp only [Rep1, Rep] at hx; subst hx
      exact call_int1 pins s σ H _ us Q I r (.inl ⟨i, rfl, ho.int⟩)
    | [.bl i], e, hx =>
      have hq := hx.one; clear hx; obtain ⟨x, rfl, hx⟩ := hq
      simp only [biF, Option.some.injEq] at e; subst e
      simp only [Rep1, Rep] at hx; subst hx
      exact call_int1 pins s σ H _ us Q I r (.inr ⟨i, rfl, ho.int⟩)
  | sum =>
    match ds, e0, hx0 with
    | [.lst zs], e, hx =>
      have hq := hx.one; clear hx; obtain ⟨x, rfl, hx⟩ := hq
      simp only [biF, Option.map_eq_some_iff] at e
      obtain ⟨ns, e1, e2⟩ := e; subst e2
      obtain ⟨a, vs, rfl, h1, h2⟩ := hx
      have e3 := h2.ints e1; subst e3
      exact cr_sum hc pins s σ H _ us Q I r ⟨a, ns, rfl, .of h1, ho.int⟩
    | [.tup zs], e, hx =>
      have hq := hx.one; clear hx; obtain ⟨x, rfl, hx⟩ := hq
      simp only [biF, Option.map_eq_some_iff] at e
      obtain ⟨ns, e1, e2⟩ := e; subst e2
      simp only [Rep1, Rep] at hx
      obtain ⟨a, vs, rfl, h1, h2⟩ := hx
      have e3 := h2.ints e1; subst e3
      exact cr_sumT hc pins s σ H _ us Q I r ⟨a, ns, rfl, by rw [hK]; exact h1.1, ho.int⟩
  | all =>
    match ds, e0, hx0 with
    | [.lst zs], e, hx =>
      have hq := hx.one; clear hx; obtain ⟨x, rfl, hx⟩ := hq
      simp only [biF, Option.map_eq_some_iff] at e
      obtain ⟨ns, e1, e2⟩ := e; subst e2
      obtain ⟨a, vs, rfl, h1, h2⟩ := hx
      have e3 := h2.bls e1; subst e3
      exact cr_all hc pins s σ H _ us Q I r ⟨a, ns, rfl, .of h1, ho.bl⟩
  | any =>
    match ds, e0, hx0 with
    | [.lst zs], e, hx =>
      have hq := hx.one; clear hx; obtain ⟨x, rfl, hx⟩ := hq
      simp only [biF, Option.map_eq_some_iff] at e
      obtain ⟨ns, e1, e2⟩ := e; subst e2
      obtain ⟨a, vs, rfl, h1, h2⟩ := hx
      have e3 := h2.bls e1; subst e3
      exact cr_any hc pins s σ H _ us Q I r ⟨a, ns, rfl, .of h1, ho.bl⟩
  | repr =>
    match ds, e0, hx0 with
    | [.lst zs], e, hx =>
      have hq := hx.one; clear hx; obtain ⟨x, rfl, hx⟩ := hq
      exact cr_repr hK hgd hu ⟨zs, .inl rfl⟩ (show reprF (.lst zs) = some d from e) pins s σ H _ us Q I r ⟨x, rfl, hx, fun z ez gz => ho.old _ (fun _ ds z => by subst ez; cases z) (by subst ez; simp only [Rep]; exact ⟨trivial, gz⟩)⟩
    | [.tup zs], e, hx =>
      have hq := hx.one; clear hx; obtain ⟨x, rfl, hx⟩ := hq
      exact cr_repr hK hgd hu ⟨zs, .inr rfl⟩ (show reprF (.tup zs) = some d from e) pins s σ H _ us Q I r ⟨x, rfl, hx, fun z ez gz => ho.old _ (fun _ ds z => by subst ez; cases z) (by subst ez; simp only [Rep]; exact ⟨trivial, gz⟩)⟩
  | sorted =>
    match ds, e0, hx0 with
    | [.lst zs], e, hx =>
      have hq := hx.one; clear hx; obtain ⟨x, rfl, hx⟩ := hq
      simp only [biF, sortF] at e
      split at e <;> cases e
      rename_i ok
      exact cr_sorted hK hu ok pins s σ H _ us Q I r ⟨x, A, rfl, hx, fun p ws hp hw => ho.lst _ p _ rfl hp hw⟩
  | list =>
    match ds, e0, hx0 with
    | [.lst zs], e, hx =>
      have hq := hx.one; clear hx; obtain ⟨x, rfl, hx⟩ := hq
      simp only [biF, Option.some.injEq] at e; subst e
      obtain ⟨a, vs, rfl, h1, h2⟩ := hx
      exact call_list_of pins s σ H _ us Q I r ⟨a, vs, rfl, .inl (.of h1), fun p hp => ho.lst _ p _ rfl hp h2⟩
    | [.tup zs], e, hx =>
      have hq := hx.one; clear hx; obtain ⟨x, rfl, hx⟩ := hq
      simp only [biF, Option.some.injEq] at e; subst e
      simp only [Rep1, Rep] at hx
      obtain ⟨a, vs, rfl, h1, h2⟩ := hx
      exact call_list_of pins s σ H _ us Q I r ⟨a, vs, rfl, .inr (by rw [hK]; exact h1.1), fun p hp => ho.lst _ p _ rfl hp h2⟩
    | [.scr zs], e, hx =>
      have hq := hx.one; clear hx; obtain ⟨x, rfl, hx⟩ := hq
      simp only [biF, Option.some.injEq] at e; subst e
      simp only [Rep1, Rep] at hx
      obtain ⟨a, rfl, h1⟩ := hx
      exact call_list_of pins s σ H _ us Q I r ⟨a, _, rfl, .inl (by rw [hK]; exact h1.sq), fun p hp => ho.lst _ p _ rfl hp (.ofInts zs)⟩
  | tuple =>
    match ds, e0, hx0 with
    | [.lst zs], e, hx =>
      have hq := hx.one; clear hx; obtain ⟨x, rfl, hx⟩ := hq
      simp only [biF, Option.some.injEq] at e; subst e
      obtain ⟨a, vs, rfl, h1, h2⟩ := hx
      exact tk_tuple pins s σ H _ us Q I r ⟨a, vs, rfl, .inl ⟨.of h1, fun p o hp hd => ho.tup _ p _ o rfl hp hd h2⟩⟩
    | [.tup zs], e, hx =>
      have hq := hx.one; clear hx; obtain ⟨x, rfl, hx⟩ := hq
      simp only [biF, Option.some.injEq] at e; subst e
      have hx' := hx
      simp only [Rep1, Rep] at hx
      obtain ⟨a, vs, rfl, h1, h2⟩ := hx
      refine tk_tuple pins s σ H _ us Q I r ⟨a, vs, rfl, .inr ⟨by rw [hK]; exact h1.1, ho.old _ (fun _ _ z => nomatch z) ?_⟩⟩
      simp only [Rep]; exact ⟨a, vs, rfl, h1, h2⟩
  | gcd =>
    match ds, e0, hx0 with
    | [.int i, .int j], e, hx =>
      have hq := hx.two; clear hx; obtain ⟨x, y, rfl, hx, hy⟩ := hq
      simp only [biF, Option.some.injEq] at e; subst e
      simp only [Rep1, Rep] at hx hy; subst hx hy
      exact cr_gcd pins s σ H _ us Q I r ⟨i, j, rfl, ho.int⟩
  | max1 =>
    match ds, e0, hx0 with
    | [.lst zs], e, hx =>
      have hq := hx.one; clear hx; obtain ⟨x, rfl, hx⟩ := hq
      simp only [biF] at e
      split at e <;> cases e
      rename_i n ns e1
      obtain ⟨a, vs, rfl, h1, h2⟩ := hx
      have e3 := h2.ints e1; subst e3
      refine cr_max hc pins s σ H _ us Q I r ⟨a, n :: ns, rfl, .of h1, by simp, fun m m1 m2 => ?_⟩
      obtain ⟨q1, q2⟩ := maxI_mem ns n
      have : m = maxI n ns := Int.le_antisymm (q2 m m1) (m2 _ q1)
      subst this; exact ho.int
  | min1 =>
    match ds, e0, hx0 with
    | [.lst zs], e, hx =>
      have hq := hx.one; clear hx; obtain ⟨x, rfl, hx⟩ := hq
      simp only [biF] at e
      split at e <;> cases e
      rename_i n ns e1
      obtain ⟨a, vs, rfl, h1, h2⟩ := hx
      have e3 := h2.ints e1; subst e3
      refine cr_min hc pins s σ H _ us Q I r ⟨a, n :: ns, rfl, .of h1, by simp, fun m m1 m2 => ?_⟩
      obtain ⟨q1, q2⟩ := minI_mem ns n
      have : m = minI n ns := Int.le_antisymm (m2 _ q1) (q2 m m1)
      subst this; exact ho.int
  | max2 =>
    match ds, e0, hx0 with
    | [.int i, .int j], e, hx =>
      have hq := hx.two; clear hx; obtain ⟨x, y, rfl, hx, hy⟩ := hq
      simp only [biF, Option.some.injEq] at e; subst e
      simp only [Rep1, Rep] at hx hy; subst hx hy
      exact call_max2 hc pins s σ H _ us Q I r ⟨i, j, rfl, ho.int⟩
  | min2 =>
    match ds, e0, hx0 with
    | [.int i, .int j], e, hx =>
      have hq := hx.two; clear hx; obtain ⟨x, y, rfl, hx, hy⟩ := hq
      simp only [biF, Option.some.injEq] at e; subst e
      simp only [Rep1, Rep] at hx hy; subst hx hy
      exact call_min2 hc pins s σ H _ us Q I r ⟨i, j, rfl, ho.int⟩
  | divmod =>
    match ds, e0, hx0 with
    | [.int i, .int j], e, hx =>
      have hq := hx.two; clear hx; obtain ⟨x, y, rfl, hx, hy⟩ := hq
      simp only [biF] at e
      split at e <;> cases e
      rename_i hz
      simp only [Rep1, Rep] at hx hy; subst hx hy
      exact tk_divmod pins s σ H _ us Q I r ⟨i, j, rfl, hz, fun p o hp hd => ho.tup _ p _ o rfl hp hd (Reps.ofInts [i / j, i % j])⟩

/-! ### isinstance -/
def tyS : Ty → String
  | .int => "int" | .bool => "bool" | .str => "str" | .tuple => "tuple" | .list => "list" | .dict => "dict"
def dTy : D → String
  | .non => "NoneType" | .bl _ => "bool" | .int _ => "int" | .str _ => "str" | .tup _ => "tuple" | .lst _ => "list" | .scr _ => "list" | .fn _ => "function" | .dct => "dict"
theorem kit_d : ∀ (d : D) (t : Ty), tyOk d = true → PySem.W.kitOne L.K (.type (dTy d)) (.type (tyS t)) = some (isTy d t) := by
  intro d t h
  refine kit_ty ?_
  cases d <;> first | (cases h; done) | (cases t <;> simp only [dTy, tyS, isTy] <;> decide +kernel)
theorem tyx_d {d : D} {v : V} (h : Rep1 L A H d v) (ok : tyOk d = true) : TyX L.K H v (.type (dTy d)) := by
  cases d with
  | non => simp only [Rep1, Rep] at h; subst h; exact .base .non
  | bl b => simp only [Rep1, Rep] at h; subst h; exact .base (.bl b)
  | int i => simp only [Rep1, Rep] at h; subst h; exact .base (.int i)
  | str s => simp only [Rep1, Rep] at h; obtain ⟨rfl, _⟩ := h; exact .base (.str s)
  | tup ds =>
    simp only [Rep1, Rep] at h
    obtain ⟨a, vs, rfl, h1, _⟩ := h
    rcases h1 with (h1 | ⟨o, h1⟩) | ⟨o, its, n, h1, h2, _⟩
    · exact .base (.tup h1)
    · exact .fTuple h1
    · exact .kTuple h1 h2
  | lst ds => obtain ⟨a, vs, rfl, h1, _⟩ := h; exact .base (.lst h1)
  | scr ns =>
    simp only [Rep1, Rep] at h
    obtain ⟨a, rfl, h1⟩ := h
    rcases h1 with ⟨o, h1⟩ | ⟨o, its, n, h1, h2, _⟩
    · exact .base (.frz h1)
    · exact .kList h1 h2
  | fn j => cases ok
  | dct => simp only [Rep1, Rep] at h; obtain ⟨a, rfl, h1⟩ := h; exact .base (.dT h1)
def rIs1 (L : Lk) (t : Ty) : List V → Hp → VK → Prop := fun xs H Q => ∃ x d A, xs = [x, .ty (tyS t)] ∧ Rep1 L A H d x ∧ tyOk d = true ∧ Q (.bl (isTy d t)) H
theorem cr_is1 (hK : X.K = L.K) (t : Ty) : CallR X (.builtin "isinstance") (rIs1 L t) := by
  intro pins s σ H xs us Q I r h
  obtain ⟨x, d, A, rfl, hx, ok, q⟩ := h
  exact call_isi pins s σ H _ us Q I r ⟨x, _, _, _, _, rfl, .ty _, by rw [hK]; exact tyx_d hx ok, by rw [hK]; exact kit_d d t ok, q⟩
theorem kitAny_d (d : D) (ok : tyOk d = true) : ∀ ts : List Ty, PySem.W.kitAny L.K (.type (dTy d)) (ts.map fun t => .type (tyS t)) = some (ts.any (isTy d))
  | [] => kitAny_nil
  | t :: ts => by
    refine kitAny_cons (kit_d d t ok) (fun hb => ?_) fun hb => ?_
    · rw [List.any_cons, hb, Bool.false_or]; exact kitAny_d d ok ts
    · rw [List.any_cons, hb, Bool.true_or]
theorem clss_d : ∀ ts : List Ty, Paired ClsV (ts.map fun t => V.ty (tyS t)) (ts.map fun t => Value.type (tyS t))
  | [] => .nil
  | t :: ts => .cons (.ty _) (clss_d ts)
def rIsT (L : Lk) (ts : List Ty) : List V → Hp → VK → Prop := fun xs H Q => ∃ x p d A, xs = [x, .ref p] ∧ H p = some (.tup (ts.map fun t => V.ty (tyS t))) ∧ Rep1 L A H d x ∧ tyOk d = true ∧ Q (.bl (ts.any (isTy d))) H
theorem cr_isT (hK : X.K = L.K) (ts : List Ty) : CallR X (.builtin "isinstance") (rIsT L ts) := by
  intro pins s σ H xs us Q I r h
  obtain ⟨x, p, d, A, rfl, hp, hx, ok, q⟩ := h
  exact call_isiT pins s σ H _ us Q I r ⟨x, p, _, _, _, _, rfl, hp, clss_d ts, by rw [hK]; exact tyx_d hx ok, by rw [hK]; exact kitAny_d d ok ts, q⟩

/-! ### subscripts, slices -/
theorem ixOf_eq (n : Nat) (i : Int) : ixOf n i = ixN n i := rfl
theorem atI_of {xs : List V} {i : Int} {j : Nat} {v : V} (h : ixOf xs.length i = some j) (e : xs[j]? = some v) : atI xs i = some v := by
  unfold atI; rw [← ixOf_eq, h]; exact e
def rIxD (L : Lk) (b : Bool) : R2 := fun x y H Q => ∃ dx i d A, ixF dx (.int i) = some d ∧ Rep1 L A H dx x ∧ y = .int i ∧ ∀ v, Rep L A H d v → Q v H
theorem ix_d (hK : X.K = L.K) (b : Bool) : IxR X (rIxD L b) := by
  intro value slice pins s σ H x y v u Q I rx ry h hs
  obtain ⟨dx, i, d, A, e, hx, rfl, ho⟩ := h
  cases dx <;> simp only [ixF] at e <;> first | (cases e; done) | skip
  all_goals
    rename_i zs
    obtain ⟨j, e1, e2⟩ := Option.bind_eq_some_iff.mp e
  · simp only [Rep1, Rep] at hx
    obtain ⟨a, vs, rfl, h1, h2⟩ := hx
    obtain ⟨w, g1, g2⟩ := h2.get e2
    exact ix_tup value slice pins s σ H _ _ v u Q I rx ry ⟨a, vs, i, w, rfl, rfl, by rw [hK]; exact h1.1, atI_of (by rw [h2.len]; exact e1) g1, ho w g2⟩ hs
  · obtain ⟨a, vs, rfl, h1, h2⟩ := hx
    obtain ⟨w, g1, g2⟩ := h2.get e2
    exact ix_list value slice pins s σ H _ _ v u Q I rx ry ⟨a, vs, i, w, rfl, rfl, .of h1, atI_of (by rw [h2.len]; exact e1) g1, ho w g2⟩ hs
  · simp only [Rep1, Rep] at hx
    obtain ⟨a, rfl, h1⟩ := hx
    obtain ⟨n, e3, e4⟩ := Option.map_eq_some_iff.mp e2
    subst e4
    exact ix_list value slice pins s σ H _ _ v u Q I rx ry ⟨a, _, i, .int n, rfl, rfl, by rw [hK]; exact h1.sq, atI_of (j := j) (by rw [List.length_map]; exact e1) (by rw [List.getElem?_map, e3]; rfl), ho _ (by simp only [Rep])⟩ hs
theorem sIx_eq (n d : Nat) (o : Option Int) : sIx n d o = HT.sIx n d o := by cases o <;> rfl
theorem cut_V (xs : List V) (lo hi : Option Int) : cutV xs lo hi = cut xs lo hi := by
  unfold cutV cut; rw [sIx_eq, sIx_eq]
theorem Reps.cut {ds : List D} {vs : List V} (h : Reps L A H ds vs) (lo hi : Option Int) : Reps L A H (cut ds lo hi) (cut vs lo hi) := by
  unfold Tk.cut; rw [h.len]; exact (h.drop _).take _
def rSlD (L : Lk) (b : Bool) : V → Option Int → Option Int → Hp → VK → Prop := fun x lo hi H Q => ∃ dx d A, slF dx lo hi = some d ∧ Rep1 L A H dx x ∧ Out L A H b d Q
theorem sl_d (hK : X.K = L.K) (b : Bool) : SlR X (rSlD L b) := by
  intro pins s σ H x v vl vu lo hi sl Q I rx hs pl pu h
  obtain ⟨dx, d, A, e, hx, ho⟩ := h
  cases dx <;> simp only [slF] at e <;> first | (cases e; done) | skip
  all_goals
    rename_i zs
    cases e
  · simp only [Rep1, Rep] at hx
    obtain ⟨a, vs, rfl, h1, h2⟩ := hx
    refine tk_sl pins s σ H _ v vl vu lo hi sl Q I rx hs pl pu ⟨a, vs, rfl, by rw [hK]; exact h1.1, fun hw => ho.old _ (fun _ _ z => nomatch z) ?_, fun _ p o hp hd => ho.tup _ p _ o rfl hp hd (by rw [cut_V]; exact h2.cut lo hi)⟩
    have l := h2.len
    have : Tk.cut zs lo hi = zs := by
      unfold Tk.cut
      rw [sIx_eq, sIx_eq, ← l, hw.1, hw.2]
      simp [l]
    rw [this]
    simp only [Rep]; exact ⟨a, vs, rfl, h1, h2⟩
  · obtain ⟨a, vs, rfl, h1, h2⟩ := hx
    exact sl_list pins s σ H _ v vl vu lo hi sl Q I rx hs pl pu ⟨a, vs, rfl, .of h1, fun p hp => ho.lst _ p _ rfl hp (by rw [cut_V]; exact h2.cut lo hi)⟩
  · simp only [Rep1, Rep] at hx
    obtain ⟨a, rfl, h1⟩ := hx
    refine sl_list pins s σ H _ v vl vu lo hi sl Q I rx hs pl pu ⟨a, _, rfl, by rw [hK]; exact h1.sq, fun p hp => ho.lst _ p _ rfl hp ?_⟩
    have : cutV (zs.map V.int) lo hi = (Tk.cut zs lo hi).map V.int := by
      rw [cut_V]; unfold Tk.cut; simp [List.map_drop, List.map_take]
    rw [this]; exact .ofInts _

/-! ### e[::-1] -/
section
variable {prog : Program} {w : World} {A : Around} {E : Value → Shared → Prop} {s : Shared}
theorem fm_congr {α β : Type} {f g : α → Option β} : ∀ {l : List α}, (∀ k ∈ l, f k = g k) → l.filterMap f = l.filterMap g
  | [], _ => rfl
  | a :: l, h => by
    rw [List.filterMap_cons, List.filterMap_cons, h a List.mem_cons_self, fm_congr fun k hk => h k (List.mem_cons_of_mem _ hk)]
theorem rev_pick (xs : Array Value) : ((List.range xs.size).filterMap fun (k : Nat) => xs[(((xs.size : Int) - 1) + (k : Int) * (-1)).toNat]?).toArray = xs.toList.reverse.toArray := by
  have e : ((List.range xs.size).filterMap fun (k : Nat) => xs[(((xs.size : Int) - 1) + (k : Int) * (-1)).toNat]?) = ((List.range xs.size).map fun k => xs.size - 1 - k).filterMap (xs[·]?) := by
    rw [List.filterMap_map]
    refine fm_congr fun k hk => ?_
    have := List.mem_range.mp hk
    have e : (((xs.size : Int) - 1) + (k : Int) * (-1)).toNat = xs.size - 1 - k := by omega
    show xs[(((xs.size : Int) - 1) + (k : Int) * (-1)).toNat]? = xs[xs.size - 1 - k]?
    rw [e]
  rw [e, PySem.W.krv_range, List.filterMap_reverse, PySem.W.krv_all]
theorem applied_rev {sl : Addr} {vl vu vs : Value} {n : Nat} {Q : Int × Int × Nat → Shared → Prop} (hs : s.heap.IsSliceOf sl vl vu vs) (pl : IsPart vl none) (pu : IsPart vu none) (ps : IsPart vs (some (-1)))
    (h : Q ((n : Int) - 1, -1, n) s) : wpAny (model prog w) A (Builtin.Slice.sliceApplied (.ref sl) (pure (n : Int))) Q E s := by
  obtain ⟨os, hos, hcs, hds⟩ := id hs
  unfold Builtin.Slice.sliceApplied Builtin.Slice.sliceFields
  refine wpAny_bind (wpAny_bind (wpAny_field hos hds (x := vl) rfl (wpAny_bind (wpAny_field hos hds (x := vu) rfl (wpAny_bind (wpAny_field hos hds (x := vs) rfl (wpAny_pure ?_)))))))
  refine wpAny_bind (HT.slicePart_ ps ?_)
  show wpAny _ _ (if ((-1 : Int) == 0) = true then _ else _) _ _ s
  rw [if_neg (by decide)]
  refine wpAny_bind (HT.slicePart_ pl (wpAny_bind (HT.slicePart_ pu (wpAny_bind (wpAny_pure ?_)))))
  have e1 : Builtin.Slice.sliceAdjust none none (-1) (n : Int) = ((n : Int) - 1, -1) := by
    unfold Builtin.Slice.sliceAdjust
    simp
  have e2 : Builtin.Slice.slicePlaces ((n : Int) - 1) (-1) (-1) = n := by
    unfold Builtin.Slice.slicePlaces
    simp
    omega
  show wpAny _ _ (match Builtin.Slice.sliceAdjust none none (-1) (n : Int) with | (lo, hi) => pure (lo, (-1 : Int), Builtin.Slice.slicePlaces lo hi (-1))) _ _ s
  rw [e1]
  show wpAny _ _ (pure ((n : Int) - 1, (-1 : Int), Builtin.Slice.slicePlaces ((n : Int) - 1) (-1) (-1))) _ _ s
  rw [e2]
  exact wpAny_pure h
theorem getItem_tuple_rev {t sl : Addr} {items : Array Value} {vl vu vs : Value} {Q : Value → Shared → Prop} (ht : IsTup s.heap t items) (hs : s.heap.IsSliceOf sl vl vu vs) (pl : IsPart vl none) (pu : IsPart vu none) (ps : IsPart vs (some (-1)))
    (h : Q (.ref s.heap.objs.size) { s with heap := s.heap.push { cls := .type "tuple", data := .seq items.toList.reverse.toArray } })
    (hsz : items.size ≤ sizeLine) : wpAny (model prog w) A (getItem (.ref t) (.ref sl)) Q E s := by
  have htake : sizeOk (.seq items.toList.reverse.toArray) := by
    show items.toList.reverse.toArray.size ≤ sizeLine
    rw [List.size_toArray, List.length_reverse, Array.length_toList]
    exact hsz
  obtain ⟨os, hos, hcs, hds⟩ := id hs
  have hTs : s.TypeIs (.ref sl) "slice" := ⟨os, hos, hcs⟩
  unfold getItem
  try with_reducible refine wpAny_holding ?_
  first | refine wpAny_bind (wpAny_pure ?_) | skip
  refine wpAny_bind (wpAny_sequenceKey ht.typeIs (by decide) ?_)
  refine wpAny_bind (wpAny_callSpecial?_slot (name := Str.ofString "__getitem__") ht.typeIs PyProof.Rows.slot_tuple_getitem
    (wpAny_call_entry PyProof.Rows.slot_tuple_getitem ht.typeIs entry_tuple_getitem ?_ (args_tuple_getitem _ _)))
  show wpAny _ _ (Builtin.Tuple.tupleItemsOf (.ref t) >>= _) _ _ s
  refine wpAny_bind (tupleItemsOf_ ht ?_)
  refine wpAny_bind (wpAny_typeOf hTs ?_)
  rw [if_pos (by decide)]
  refine wpAny_bind (applied_rev hs pl pu ps ?_)
  have hno : ¬ (((((items.size : Int) - 1)) == 0 && (-1 : Int) == 1 && items.size == items.size) = true) := by
    rw [show ((-1 : Int) == 1) = false by decide, Bool.and_false, Bool.false_and]
    exact Bool.false_ne_true
  show wpAny _ _ (if ((((items.size : Int) - 1)) == 0 && (-1 : Int) == 1 && items.size == items.size) = true then _ else _) _ _ s
  rw [if_neg hno, rev_pick]
  first
    | exact wpAny_bind (m := Builtin.Tuple.tupleExact _) (wpAny_newObj_type (wpAny_pure ⟨_, rfl, wpAny_pure h⟩) htake)
    | exact wpAny_bind (m := Builtin.Tuple.tupleExact _) (wpAny_newObj_type (wpAny_bind (wpAny_pure (wpAny_pure ⟨_, rfl, wpAny_pure h⟩))) htake)
    | exact wpAny_bind (wpAny_bind (m := Builtin.Tuple.tupleExact _) (wpAny_newObj_type (wpAny_pure (wpAny_pure ⟨_, rfl, wpAny_pure h⟩)) htake))
    | exact wpAny_bind (wpAny_bind (m := Builtin.Tuple.tupleExact _) (wpAny_newObj_type (wpAny_pure ⟨_, rfl, wpAny_pure h⟩) htake))
end
section
variable {X : Cx}
/-- e[::-1] of a list or a tuple -/
def tRevD (K : PySem.W.Frag) (te : TE) : TE := fun σ H Q => te σ H fun x H1 => ∃ a xs, x = .ref a ∧ ((SqL K H1 a xs ∧ ∀ p, H1 p = none → Q (.ref p) (upd H1 p (.lst xs.reverse))) ∨ (SqT K H1 a xs ∧ ∀ p o, H1 p = none → o.dict = none → Q (.ref p) (upd H1 p (.frz o (.tup xs.reverse)))))
theorem pe_revD {e : Expr} {te : TE} {k : Nat} {p1 p2 p3 pos : Pos} (he : PE X e te) : PE X (.Subscript e (.Slice none none (some (.UnaryOp .USub (.Constant (.int 1) k p1) p2)) p3) pos) (tRevD X.K te) := by
  refine ⟨fun pins s σ H Q I h => ?_⟩
  refine Subscript_ (thn (he.run pins s σ H _ I h) fun v s1 ⟨x, H1, I1, r1, q1⟩ => ?_)
  obtain ⟨a, xs, ex, q⟩ := q1
  subst ex
  cases r1
  have hst : PO X (some (.UnaryOp .USub (.Constant (.int 1) k p1) p2)) (tPart (tUn (rU fun i => .int (-i)) (tC (.int 1)))) := po_some (pe_un un_neg pe_int)
  refine wpAny_Slice (thn (po_none.run pins s1 σ H1 (fun o H2 => o = none ∧ H2 = H1) I1 ⟨rfl, rfl⟩) fun vl s2 ⟨l, H2, I2, pl, el, e2⟩ => ?_)
  subst el e2
  refine thn (po_none.run pins s2 σ H2 (fun o H3 => o = none ∧ H3 = H2) I2 ⟨rfl, rfl⟩) fun vu s3 ⟨u, H3, I3, pu, eu, e3⟩ => ?_
  subst eu e3
  refine thn (hst.run pins s3 σ H3 (fun o H4 => o = some (-1) ∧ H4 = H3) I3 ⟨1, rfl, -1, rfl, rfl, rfl⟩) fun vs s4 ⟨o, H4, I4, ps, eo, e4⟩ => ?_
  subst eo e4
  have I5 : Inv X pins σ H4 { s4 with heap := s4.heap.push { cls := .type "slice", data := .fields #[vl, vu, vs] } } := I4.kept (t' := s4.toks) fun b ob q => Heap.get?_push_of_some _ q
  show wpAny (model X.prog X.w) X.A (subscriptTail e (.Slice none none (some (.UnaryOp .USub (.Constant (.int 1) k p1) p2)) p3) (.ref a) (.ref s4.heap.objs.size)) (EP X pins σ Q) X.xe { s4 with heap := s4.heap.push { cls := .type "slice", data := .fields #[vl, vu, vs] } }
  rcases q with ⟨hx, q⟩ | ⟨hx, q⟩
  · obtain ⟨its, r, ht, hz⟩ := I5.list hx
    have hlen := r.length
    refine tail_any (ops := [.ref a, .ref s4.heap.objs.size]) ht.isList.typeIs (PySem.slot_list_getitem.lookup) ?_ (by with_unfolding_all rfl)
    refine wpAny_getItem_list_slice ht.isList (Heap.IsSliceOf.new _ vl vu vs) pl pu ps (by decide) ?_ (by rw [List.size_toArray]; omega)
    rw [PySem.W.krv_pick]
    refine ⟨.ref _, _, I5.laid (t' := s4.toks) (o := .lst xs.reverse) (fun b ob q => Heap.get?_push_of_some _ q) (Nat.le_refl _) ?_, rfl, q _ (I5.hok.fresh (Nat.le_refl _))⟩
    exact ⟨by rw [List.length_reverse]; exact hz, _, 0, r.reverse, Heap.get?_push_size _ rfl⟩
  · obtain ⟨its, r, ht, hz⟩ := I5.tuple hx
    have hlen := r.length
    refine tail_any (ops := [.ref a, .ref s4.heap.objs.size]) ht.typeIs (PyProof.Rows.slot_tuple_getitem.lookup) ?_ (by with_unfolding_all rfl)
    refine getItem_tuple_rev ht (Heap.IsSliceOf.new _ vl vu vs) pl pu ps ?_ (by rw [List.size_toArray]; omega)
    exact endT (t' := s4.toks) I5 (by rw [List.length_reverse]; exact hz) r.reverse q
end
theorem Reps.reverse {L : Lk} {A : Addr → Prop} {H : Hp} : ∀ {ds : List D} {vs : List V}, Reps L A H ds vs → Reps L A H ds.reverse vs.reverse
  | [], _, h => by simp only [Reps] at h; subst h; simp [Reps.nil]
  | _ :: _, _, h => by
    simp only [Reps] at h
    obtain ⟨v, r, rfl, h1, h2⟩ := h
    rw [List.reverse_cons, List.reverse_cons]
    exact h2.reverse.append (.cons h1 .nil)

/-! ### changing methods of a list: the list at a; what comes back, the list behind it -/
def mtId : Mt → String
  | .append => "list.append" | .pop => "list.pop" | .popAt => "list.pop" | .insert => "list.insert" | .extend => "list.extend"
def mtN : Mt → Str
  | .append => "append" | .pop => "pop" | .popAt => "pop" | .insert => "insert" | .extend => "extend"
def rMt (L : Lk) (m : Mt) : V → List V → Hp → VK → Prop := fun x xs H Q => ∃ a ds vs es d ys A, x = .ref a ∧ H a = some (.lst vs) ∧ Reps L A H ds vs ∧ mtF m ds es = some (d, ys) ∧ Reps L A H es xs ∧
  ∀ v ws, Rep L A H d v → Reps L A H ys ws → Q v (upd H a (.lst ws))
theorem mt_d (m : Mt) : MtR X (mtId m) (rMt L m) := by
  intro pins s σ H x xs v us Q I rx rxs h
  obtain ⟨a, ds, vs, es, d, ys, A, rfl, ha, hd, e, he, q⟩ := h
  cases m with
  | append =>
    match es, e, he with
    | [y], e, he =>
      simp only [mtF] at e
      split at e <;> cases e
      rename_i hz
      simp only [Reps] at he
      obtain ⟨w, r, rfl, h1, rfl⟩ := he
      exact mt_append pins s σ H _ _ v us Q I rx rxs ⟨a, vs, w, rfl, rfl, ha, by rw [hd.len, ← big_line]; exact hz, q _ _ (by simp only [Rep]) (hd.append (.cons h1 .nil))⟩
  | pop =>
    match es, e, he with
    | [], e, he =>
      simp only [mtF] at e
      obtain ⟨y, e1, e2⟩ := Option.map_eq_some_iff.mp e
      cases e2
      simp only [Reps] at he; subst he
      obtain ⟨w, g1, g2⟩ := hd.get e1
      exact mt_pop pins s σ H _ _ v us Q I rx rxs ⟨a, vs, w, rfl, rfl, ha, by rw [hd.len]; exact g1, q _ _ g2 hd.dropLast⟩
  | popAt =>
    match es, e, he with
    | [.int i], e, he =>
      simp only [mtF] at e
      split at e
      · rename_i hb
        obtain ⟨k, e1, e2⟩ := Option.bind_eq_some_iff.mp e
        obtain ⟨y, e3, e4⟩ := Option.map_eq_some_iff.mp e2
        cases e4
        simp only [Reps] at he
        obtain ⟨w, r, rfl, h1, rfl⟩ := he
        simp only [Rep] at h1; subst h1
        obtain ⟨z, g1, g2⟩ := hd.get e3
        have hs := ixN_seq (show ixN ds.length i = some k from e1)
        exact mt_popAt pins s σ H _ _ v us Q I rx rxs ⟨a, vs, i, k, z, rfl, rfl, ha, hb.1, hb.2, by rw [hd.len]; exact hs.1, g1, q _ _ g2 (hd.eraseIdx k)⟩
      · cases e
  | insert =>
    match es, e, he with
    | [.int i, y], e, he =>
      simp only [mtF] at e
      split at e <;> cases e
      rename_i hb
      simp only [Reps] at he
      obtain ⟨w, r, rfl, h1, w2, r2, rfl, h2, rfl⟩ := he
      simp only [Rep] at h1; subst h1
      exact mt_insert pins s σ H _ _ v us Q I rx rxs ⟨a, vs, i, w2, rfl, rfl, ha, by rw [hd.len, ← big_line]; exact hb.1, hb.2.1, hb.2.2, q _ _ (by simp only [Rep]) (((hd.take i.toNat).append (.cons h2 .nil)).append (hd.drop i.toNat))⟩
  | extend =>
    match es, e, he with
    | [.lst ys], e, he =>
      simp only [mtF] at e
      split at e <;> cases e
      rename_i hb
      simp only [Reps] at he
      obtain ⟨w, r, rfl, h1, rfl⟩ := he
      simp only [Rep] at h1
      obtain ⟨b, ws, rfl, _, h3, h4⟩ := h1
      exact mt_extend pins s σ H _ _ v us Q I rx rxs ⟨a, b, vs, ws, rfl, rfl, ha, h3, by rw [hd.len, h4.len, ← big_line]; exact hb, q _ _ (by simp only [Rep]) (hd.append h4)⟩
/-! ### count -/
theorem countP_toPs {n m : Nat} {x : D} (hx : D.flat n x = true) : ∀ ys : List D, D.flats m ys = true → (ys.countP fun y => D.beq y x) = (toPs ys).countP fun z => PyData.eqv z (toP x)
  | [], _ => by simp [toPs]
  | y :: ys, h => by
    simp only [D.flats, Bool.and_eq_true] at h
    simp only [toPs, List.countP_cons, countP_toPs hx ys h.2, beq_eqv m n y x h.1 hx]
def cntId (b : Bool) : String := if b then "tuple.count" else "list.count"
def rCnt (L : Lk) (b : Bool) : V → List V → Hp → VK → Prop := fun x xs H Q => ∃ dx dy d y A, cntF b dx dy = some d ∧ xs = [y] ∧ Rep1 L A H dx x ∧ Rep L A H dy y ∧ ∀ v, Rep L A H d v → Q v H
theorem mt_cnt (hK : X.K = L.K) (hu : X.A.units + 80 < cLine) (b : Bool) : MtR X (cntId b) (rCnt L b) := by
  intro pins s σ H x xs v us Q I rx rxs h
  obtain ⟨dx, dy, d, y, A, e, rfl, hx, hy, q⟩ := h
  obtain ⟨uy, rfl, ry⟩ := rxs.one
  cases dx <;> simp only [cntF] at e <;> first | (cases e; done) | skip
  all_goals
    rename_i zs
    split at e <;> cases e
    rename_i ok
    simp only [Bool.and_eq_true] at ok
    obtain ⟨⟨o1, o2⟩, o3⟩ := ok
    obtain ⟨p1, p2⟩ := Rep.dp 59 dy y o2 hy
    rw [← hK] at p1
    obtain ⟨bs, r1⟩ := Dp.reads I _ y uy p1 ry
  · simp only [Rep1, Rep] at hx
    obtain ⟨a, vs, rfl, h1, h2⟩ := hx
    obtain ⟨c1, c2⟩ := Reps.dp 58 zs vs o3 h2
    have hroom : X.A.units + 1 + min (PyData.depthAll (toPs zs)) (toP dy).depth < cLine := by
      have := flat_depth 59 dy o2
      omega
    have h1 := h1.1
    rw [← hK] at c1 h1
    cases rx
    obtain ⟨its, rv, ⟨⟨cls, dd, data, sls⟩, ho, hc, n, hdt⟩, hlen⟩ := I.tuple h1
    simp only at hc hdt
    subst hc hdt
    obtain ⟨as, h4⟩ := Dp.readsAll I _ _ its c1 rv
    have hmap : its.map (SeqAt.readOf s.heap) = toPs zs := SeqAt.readsAll_map _ its as c2 h4
    have ec : (its.toArray.toList.countP fun u => PyData.eqv (SeqAt.readOf s.heap u) (toP dy)) = zs.countP fun z => D.beq z dy := by
      rw [countP_toPs o2 zs o3, ← hmap, List.countP_map]; rfl
    subst o1
    refine call_meets PySem.F.slot_tuple_count ⟨_, ho, rfl⟩ PySem.F.entry_tuple_count (PySem.F.args_tuple_count_2 _ _)
      (SeqAt.tuple_countAt a its.toArray n dd sls uy (fun u => PyData.eqv (SeqAt.readOf s.heap u) (toP dy))) ⟨ho, SeqAt.items_eqAt (vs := its.toArray) (show ReadsAll s.heap its.toArray.toList (toPs zs) as from h4) r1 c2 p2 hroom, ?_⟩
    rw [ec]
    exact ⟨.int _, H, I.tok _, ⟨_, rfl⟩, q _ (by simp only [Rep])⟩
  · obtain ⟨a, vs, rfl, h1, h2⟩ := hx
    obtain ⟨c1, c2⟩ := Reps.dp 58 zs vs o3 h2
    have hroom : X.A.units + 1 + min (PyData.depthAll (toPs zs)) (toP dy).depth < cLine := by
      have := flat_depth 59 dy o2
      omega
    rw [← hK] at c1
    cases rx
    obtain ⟨its, rv, ⟨⟨cls, dd, data, sls⟩, n, ho, hc, hdn, hdt⟩, hlen⟩ := I.list (.of h1)
    simp only at hc hdt
    subst hc hdt
    obtain ⟨as, h4⟩ := Dp.readsAll I _ _ its c1 rv
    have hmap : its.map (SeqAt.readOf s.heap) = toPs zs := SeqAt.readsAll_map _ its as c2 h4
    have ec : (its.toArray.toList.countP fun u => PyData.eqv (SeqAt.readOf s.heap u) (toP dy)) = zs.countP fun z => D.beq z dy := by
      rw [countP_toPs o2 zs o3, ← hmap, List.countP_map]; rfl
    have o1' : b = false := by simpa using o1
    subst o1'
    refine call_meets PySem.F.slot_list_count ⟨_, ho, rfl⟩ PySem.F.entry_list_count (PySem.F.args_list_count_2 _ _)
      (SeqAt.list_countAt a its.toArray n dd sls uy (fun u => PyData.eqv (SeqAt.readOf s.heap u) (toP dy))) ⟨ho, SeqAt.items_eqAt (vs := its.toArray) (show ReadsAll s.heap its.toArray.toList (toPs zs) as from h4) r1 c2 p2 hroom, ?_⟩
    rw [ec]
    exact ⟨.int _, H, I.tok _, ⟨_, rfl⟩, q _ (by simp only [Rep])⟩
end
end Tk

set_option Elab.async false
set_option linter.all false
set_option maxRecDepth 100000
set_option maxHeartbeats 2000000
namespace Tk
open PySem PySem.Spec PyProof.Rows L2

/-! ### the text against the interpreter's own -/
structure Tx where
  T : List Tb
  G : List (Str × D)
  KW : List (Nat × List Nat)
  gcd : Bool
def Tx.ps (t : Tx) (f : Nat) : List Str := match t.T[f]? with
  | some b => b.N.take b.np
  | none => []
def visB (sc : Scope) (x : Str) : Bool := match sc.names.lookup x with
  | some .local => true
  | some .cell => true
  | some .free => true
  | _ => false
def locB (sc : Scope) (x : Str) : Bool := match sc.names.lookup x with
  | some .local => true
  | some .cell => true
  | _ => false
def gloB (sc : Scope) (x : Str) : Bool := match sc.names.lookup x with
  | some .globalImplicit => true
  | _ => false
def okName (x : Str) : Bool := !(x == ("__debug__" : Str)) && !(x == ("__classdict__" : Str))
def nmB (N : List Str) (sc : Scope) (i : Nat) (x : Str) : Bool := decide (N[i]? = some x) && visB sc x && okName x
def biS : Bi → Str
  | .len => "len" | .abs => "abs" | .int => "int" | .sum => "sum" | .all => "all" | .any => "any"
  | .list => "list" | .tuple => "tuple" | .gcd => "gcd" | .max1 => "max" | .min1 => "min" | .max2 => "max" | .min2 => "min" | .divmod => "divmod" | .repr => "repr" | .sorted => "sorted"
def bnames : List Str := ["len", "abs", "int", "sum", "all", "any", "list", "tuple", "max", "min", "divmod", "isinstance", "range", "bool", "str", "dict", "enumerate", "zip", "sorted", "repr", "set", "reversed"]
def tyN (ts : Ty) : Str := Str.ofString (tyS ts)
def mTys (sc : Scope) : List Ty → List Expr → Bool
  | [], [] => true
  | t :: ts, .Name x _ :: es => decide (x = tyN t) && gloB sc x && mTys sc ts es
  | _, _ => false
def mTgs (N : List Str) (sc : Scope) : List Nat → List Expr → Bool
  | [], [] => true
  | i :: is, .Name x _ :: es => decide (N[i]? = some x) && locB sc x && mTgs N sc is es
  | _, _ => false
def mTg (N : List Str) (sc : Scope) : Tg → Expr → Bool
  | .name i, .Name x _ => decide (N[i]? = some x) && locB sc x
  | .tup is, .Tuple es _ _ => mTgs N sc is es
  | .nest true is j, .Tuple [.Tuple es _ _, .Name x _] _ _ => mTgs N sc is es && decide (N[j]? = some x) && locB sc x
  | .nest false is j, .Tuple [.Name x _, .Tuple es _ _] _ _ => decide (N[j]? = some x) && locB sc x && mTgs N sc is es
  | _, _ => false
/-- what walks in pairs wants a pair for its target -/
def tupTg : It → Expr → Bool
  | .enum _, .Tuple .. => true
  | .enum _, _ => false
  | .zip _ _, .Tuple .. => true
  | .zip _ _, _ => false
  | _, _ => true
def ownOf (N : List Str) (own : List Nat) : List (Str × Nat) := own.map fun i => (N.getD i Str.empty, i)
def isRange : Expr → Bool
  | .Call (.Name x _) _ _ _ => x == ("range" : Str) || x == ("enumerate" : Str) || x == ("zip" : Str)
  | _ => false
def Eo.isN : Eo → Bool
  | .none => true
  | .some _ => false
def rangeArgs : Expr → Option (Str × List Expr)
  | .Call (.Name y _) ps [] _ => some (y, ps)
  | _ => none
theorem rangeArgs_inv {p : Expr} {y : Str} {ps : List Expr} (h : rangeArgs p = some (y, ps)) : ∃ q1 q2, p = .Call (.Name y q1) ps [] q2 := by
  unfold rangeArgs at h
  split at h <;> cases h
  exact ⟨_, _, rfl⟩
def plainIt : Expr → Bool
  | .Set .. => false
  | _ => true
/-- an expression that makes a new list -/
def frE (t : Tx) : E → Bool
  | .lst _ => true
  | .comp .. => true
  | .comp2 .. => true
  | .bin .. => true
  | .sl .. => true
  | .rev _ => true
  | .bi .. => true
  | .lrange .. => true
  | .call f _ => (t.T[f]?.map (·.fr)).getD false
  | .callk f _ _ => (t.T[f]?.map (·.fr)).getD false
  | .calln f _ => (t.T[f]?.map (·.fr)).getD false
  | _ => false
def noCall : Expr → Bool
  | .Call .. => false
  | _ => true
mutual
def mE (t : Tx) (N : List Str) (sc : Scope) : E → Expr → Bool
  | .var i, .Name x _ => nmB N sc i x
  | .con .non, .Constant .none _ _ => true
  | .con (.bl b), .Constant (.bool c) _ _ => b == c
  | .con (.int b), .Constant (.int c) _ _ => b == c
  | .con (.str b), .Constant (.str c) _ _ => decide (b = c) && strGood b
  | .con .dct, .Dict [] [] _ => true
  | .glob g, .Name x _ => match t.G[g]? with
    | some p => decide (p.1 = x) && gloB sc x && okName x
    | none => false
  | .bin o a b, .BinOp pa po pb _ => decide (po = opP o) && mE t N sc a pa && mE t N sc b pb
  | .neg a, .UnaryOp .USub pa _ => mE t N sc a pa
  | .cmp o a b, .Compare pa [po] [pb] _ => decide (po = cmP o) && mE t N sc a pa && mE t N sc b pb
  | .chain o o' a b c, .Compare pa [po, po'] [pb, pc] _ => decide (po = cmP o) && decide (po' = cmP o') && mE t N sc a pa && mE t N sc b pb && mE t N sc c pc
  | .and es, .BoolOp .And ps _ => mEs t N sc es ps
  | .or es, .BoolOp .Or ps _ => mEs t N sc es ps
  | .not a, .UnaryOp .Not pa _ => mE t N sc a pa
  | .ife c a b, .IfExp pc pa pb _ => mE t N sc c pc && mE t N sc a pa && mE t N sc b pb
  | .tup es, .Tuple ps _ _ => mEs t N sc es ps
  | .lst es, .List ps _ => mEs t N sc es ps
  | .idx a b, .Subscript pa pb _ => mE t N sc a pa && mE t N sc b pb
  | .sl a lo hi, .Subscript pa (.Slice plo phi none _) _ => mE t N sc a pa && mEo t N sc lo plo && mEo t N sc hi phi
  | .rev a, .Subscript pa (.Slice none none (some (.UnaryOp .USub (.Constant (.int 1) _ _) _)) _) _ => mE t N sc a pa
  | .call f as, .Call (.Name x _) ps [] _ => (match t.T[f]? with
    | some b => decide (b.name = x) && gloB sc x && okName x
    | none => false) && mAs t N sc as ps
  | .callk f kw ks, .Call (.Name x _) [] (kw1 :: kws) _ => (match t.T[f]? with
    | some b => decide (b.name = x) && gloB sc x && okName x
    | none => false) && decide ((f, ks) ∈ t.KW) && mKw t N sc f kw ks (kw1 :: kws)
  | .join s e, .Call (.Attribute (.Constant (.str c) _ _) y ap) [pe] [] cp => decide (s = c) && strGood s && decide (y = ("join" : Str)) && (ap.endLine == cp.line) && mE t N sc e pe
  | .cnt _ a e, .Call (.Attribute pa y ap) [pe] [] cp => mE t N sc a pa && noCall pa && decide (y = ("count" : Str)) && (ap.endLine == cp.line) && mE t N sc e pe
  | .tupS a b, .Tuple [.Starred pa _, pb] _ _ => mE t N sc a pa && mE t N sc b pb
  | .calln f e, .Call (.Name x _) [pe] [] _ => (match t.T[f]? with
    | some b => decide (b.name = x) && gloB sc x && okName x
    | none => false) && (frE t e && mE t N sc e pe)
  | .callv i as, .Call (.Name x _) ps [] _ => nmB N sc i x && mAs t N sc as ps && !ps.isEmpty
  | .bi f es, .Call (.Name x _) ps [] _ => decide (x = biS f) && gloB sc x && (decide (f ≠ .gcd) || t.gcd) && mEs t N sc es ps && !ps.isEmpty
  | .isi a [ty], .Call (.Name x _) [pa, .Name y _] [] _ => decide (x = "isinstance") && gloB sc x && mE t N sc a pa && decide (y = tyN ty) && gloB sc y
  | .isi a (t1 :: t2 :: ts), .Call (.Name x _) [pa, .Tuple ps _ _] [] _ => decide (x = "isinstance") && gloB sc x && mE t N sc a pa && mTys sc (t1 :: t2 :: ts) ps && decide ((t1 :: t2 :: ts).length ≤ 10)
  | .trange hi, .Call (.Name x _) [.Call (.Name y _) [pb] [] _] [] _ => decide (x = "tuple") && gloB sc x && decide (y = "range") && gloB sc y && mE t N sc hi pb
  | .lrange .none hi, .Call (.Name x _) [.Call (.Name y _) [pb] [] _] [] _ => decide (x = "list") && gloB sc x && decide (y = "range") && gloB sc y && mE t N sc hi pb
  | .lrange (.some lo) hi, .Call (.Name x _) [.Call (.Name y _) [pa, pb] [] _] [] _ => decide (x = "list") && gloB sc x && decide (y = "range") && gloB sc y && mE t N sc lo pa && mE t N sc hi pb
  | .mt m i es, .Call (.Attribute (.Name x _) y ap) ps [] cp => nmB N sc i x && decide (y = mtN m) && (ap.endLine == cp.line) && mEs t N sc es ps && decide (ps.length < 10) && (decide (m = .pop) == ps.isEmpty)
  | .comp elt tg it ifs own, .ListComp pe [⟨ptg, pit, pifs, ia⟩] scope _ => decide (ia = 0) && blkC N sc scope (ownOf N own) && mTg N scope tg ptg && mTgOwn tg own && mE t N scope elt pe && mIf t N scope ifs pifs && mIt t N sc it pit && plainIt pit && tupTg it ptg
  | .comp2 elt tg it tg1 it1 ifs own, .ListComp pe [⟨ptg, pit, [], ia⟩, ⟨ptg1, pit1, pifs, ia1⟩] scope _ => decide (ia = 0) && decide (ia1 = 0) && blkC N sc scope (ownOf N own) && mTg N scope tg ptg && mTgOwn tg own && mTg N scope tg1 ptg1 && mTgOwn tg1 own && mE t N scope elt pe && mIf t N scope ifs pifs && mIt t N sc it pit && mIt t N scope it1 pit1
      && plainIt pit && plainIt pit1 && tupTg it ptg && tupTg it1 ptg1
  | _, _ => false
def mEs (t : Tx) (N : List Str) (sc : Scope) : Es → List Expr → Bool
  | .nil, [] => true
  | .cons e es, p :: ps => mE t N sc e p && mEs t N sc es ps
  | _, _ => false
def mEo (t : Tx) (N : List Str) (sc : Scope) : Eo → Option Expr → Bool
  | .none, none => true
  | .some e, some p => mE t N sc e p
  | _, _ => false
def mIf (t : Tx) (N : List Str) (sc : Scope) : Eo → List Expr → Bool
  | .none, [] => true
  | .some e, [p] => mE t N sc e p
  | _, _ => false
def mAs (t : Tx) (N : List Str) (sc : Scope) : As → List Expr → Bool
  | .nil, [] => true
  | .val e as, p :: ps => mE t N sc e p && mAs t N sc as ps
  | .ref i as, .Name x _ :: ps => nmB N sc i x && mAs t N sc as ps
  | _, _ => false
def mKw (t : Tx) (N : List Str) (sc : Scope) (f : Nat) : Es → List Nat → List Keyword → Bool
  | .nil, [], [] => true
  | .cons e es, k :: ks, ⟨some x, p, _⟩ :: kws => decide ((t.ps f)[k]? = some x) && mE t N sc e p && mKw t N sc f es ks kws
  | _, _, _ => false
def mIt (t : Tx) (N : List Str) (sc : Scope) : It → Expr → Bool
  | .seq e, p => mE t N sc e p
  | .rng lo hi, p => match rangeArgs p with
    | some (y, [pb]) => decide (y = "range") && gloB sc y && lo.isN && mE t N sc hi pb
    | some (y, [pa, pb]) => decide (y = "range") && gloB sc y && !lo.isN && mEo t N sc lo (some pa) && mE t N sc hi pb
    | _ => false
  | .enum e, p => match rangeArgs p with
    | some (y, [pa]) => decide (y = "enumerate") && gloB sc y && mE t N sc e pa
    | _ => false
  | .zip a b, p => match rangeArgs p with
    | some (y, [pa, pb]) => decide (y = "zip") && gloB sc y && mE t N sc a pa && mE t N sc b pb
    | _ => false
  | _, _ => false
def mTgOwn : Tg → List Nat → Bool
  | .name i, own => own.contains i
  | .tup is, own => is.all own.contains
  | .nest _ is j, own => is.all own.contains && own.contains j
end
end Tk

set_option Elab.async false
set_option linter.all false
set_option maxRecDepth 100000
set_option maxHeartbeats 2000000
namespace Tk
open PySem PySem.Spec PyProof.Rows L2

theorem mE_slice {t : Tx} {N : List Str} {sc : Scope} {e : E} {a b c p} : mE t N sc e (.Slice a b c p) = false := by cases e <;> first | rfl | (rename_i x; cases x <;> rfl) | (rename_i x _; cases x <;> rfl) | (rename_i _ x; cases x <;> rfl) | (simp [mE])
theorem mE_star {t : Tx} {N : List Str} {sc : Scope} {e : E} {a p} : mE t N sc e (.Starred a p) = false := by cases e <;> simp [mE]
theorem mE_set {t : Tx} {N : List Str} {sc : Scope} {e : E} {a k p} : mE t N sc e (.Set a k p) = false := by cases e <;> simp [mE]
section
variable {t : Tx} {N : List Str} {sc : Scope}
theorem plainIx_of {e : E} {pe : Expr} (h : mE t N sc e pe = true) : PlainIx pe := by
  cases pe <;> first
    | exact fun _ _ => rfl
    | (rw [mE_slice] at h; cases h)
theorem starEach_of {e : E} {pe : Expr} {es : List Expr} {env : PySem.Env} (h : mE t N sc e pe = true) : starEach (pe :: es) env = (false, eval pe env) :: starEach es env := by
  cases pe <;> first
    | rfl
    | (rw [mE_star] at h; cases h)
theorem mEs_cons {e : E} {es : Es} {p : Expr} {ps : List Expr} : mEs t N sc (.cons e es) (p :: ps) = (mE t N sc e p && mEs t N sc es ps) := by rw [mEs]
theorem mEs_nc {p : Expr} {ps : List Expr} : mEs t N sc .nil (p :: ps) = false := by simp [mEs]
theorem mEs_cn {e : E} {es : Es} : mEs t N sc (.cons e es) [] = false := by simp [mEs]
theorem mAs_val {e : E} {es : As} {p : Expr} {ps : List Expr} : mAs t N sc (.val e es) (p :: ps) = (mE t N sc e p && mAs t N sc es ps) := by rw [mAs]
theorem mAs_ref {i : Nat} {es : As} {x : Str} {q : Pos} {ps : List Expr} : mAs t N sc (.ref i es) (.Name x q :: ps) = (nmB N sc i x && mAs t N sc es ps) := by rw [mAs]
theorem mAs_inv {i : Nat} {es : As} {p : Expr} {ps : List Expr} (h : mAs t N sc (.ref i es) (p :: ps) = true) : ∃ x q, p = .Name x q := by
  cases p <;> first
    | exact ⟨_, _, rfl⟩
    | (rw [mAs] at h; cases h; done)
    | (rw [mAs] at h <;> first | (cases h; done) | (intros; intro z; cases z))
theorem noStar_of {env : PySem.Env} {pos : Pos} : ∀ {ps : List Expr} {es : Es}, mEs t N sc es ps = true → (backTo pos (starEach ps env)).any (·.1) = false := by
  intro ps
  induction ps with
  | nil => intro es h; rfl
  | cons p ps ih =>
    intro es h
    cases es with
    | nil => rw [mEs_nc] at h; cases h
    | cons e es =>
      rw [mEs_cons, Bool.and_eq_true] at h
      rw [starEach_of h.1]
      have := ih h.2
      simp only [backTo, List.map_cons, List.any_cons, Bool.false_or] at this ⊢
      exact this
theorem noStarA_of {env : PySem.Env} {pos : Pos} : ∀ {ps : List Expr} {es : As}, mAs t N sc es ps = true → (backTo pos (starEach ps env)).any (·.1) = false := by
  intro ps
  induction ps with
  | nil => intro es h; rfl
  | cons p ps ih =>
    intro es h
    cases es with
    | nil => rw [mAs] at h <;> first | (cases h; done) | (intros; intro z; cases z)
    | val e es =>
      rw [mAs_val, Bool.and_eq_true] at h
      rw [starEach_of h.1]
      have := ih h.2
      simp only [backTo, List.map_cons, List.any_cons, Bool.false_or] at this ⊢
      exact this
    | ref i es =>
      obtain ⟨x, q, rfl⟩ := mAs_inv h
      rw [mAs_ref, Bool.and_eq_true] at h
      have := ih h.2
      simp only [backTo, starEach, List.map_cons, List.any_cons, Bool.false_or] at this ⊢
      exact this
end

/-! ### where one stands -/
structure LkOk (L : Lk) (t : Tx) : Prop where
  fn : ∀ (f : Nat) (b : Tb), t.T[f]? = some b → L.mg b.name = some (.ref (L.fa f)) ∧ PySem.W.keepIn L.K (.ref (L.fa f)) = true
  gl : ∀ (g : Nat) (x : Str) (d : D), t.G[g]? = some (x, d) → ∃ u v, L.mg x = some u ∧ RelV v u ∧ ∀ A H, Rep L A H d v
  bl : ∀ x ∈ bnames, L.mg x = none
  gcd : t.gcd = true → L.mg "gcd" = some (.builtin "math.gcd")

structure Good (L : Lk) (k : Nat) (N : List Str) (sc : Scope) (W : WX) (X : Cx) : Prop where
  hP : X.prog = L.P
  hw : X.w = L.w
  hK : X.K = L.K
  hmg : X.mg = L.mg
  hbase : X.base = L.base
  hN : X.N = N
  nd : N.Nodup
  vis : ∀ x, Vis sc x → Vis X.env.scope x
  glo : ∀ x, sc.names.lookup x = some .globalImplicit → Gl X x
  cap : ∀ x, sc.names.lookup x = some .cell ∨ sc.names.lookup x = some .free → X.env.scope.names.lookup x = some .cell ∨ X.env.scope.names.lookup x = some .free
  sto : ∀ x, L2.Loc sc x → L2.Loc X.env.scope x ∧ (X.fn x = true ∨ X.env.scope.names.lookup x = some .local)
  kind : X.env.scope.kind = .function
  calm : X.calm = true
  room : Room k X.A
  clear : X.A.guards = some []
  takes : Takes X W

theorem vis_of {sc : Scope} {x : Str} (h : visB sc x = true) : Vis sc x := by
  unfold visB at h; unfold Vis
  split at h <;> first | (cases h; done) | (simp [*])
theorem loc_of {sc : Scope} {x : Str} (h : locB sc x = true) : L2.Loc sc x := by
  unfold locB at h; unfold L2.Loc
  split at h <;> first | (cases h; done) | (simp [*])
theorem glo_of {sc : Scope} {x : Str} (h : gloB sc x = true) : sc.names.lookup x = some .globalImplicit := by
  unfold gloB at h
  split at h <;> first | (cases h; done) | assumption
theorem okName_of {x : Str} (h : okName x = true) : (x == ("__debug__" : Str)) = false ∧ (x == ("__classdict__" : Str)) = false := by
  unfold okName at h
  simpa [Bool.and_eq_true] using h

/-! ### what a run comes to -/
def Fin {α : Type} (r : R α) (P : α → Env → Prop) (N : Nat → D → Env → Prop) : Prop := match r with
  | .ok a ρ => P a ρ
  | .err c d ρ => N c d ρ
  | .stuck => False
theorem Fin.bind {α β : Type} {r : R α} {f : α → Env → R β} {P : β → Env → Prop} {N : Nat → D → Env → Prop} : Fin (r.bind f) P N ↔ Fin r (fun a ρ => Fin (f a ρ) P N) N := by
  cases r <;> rfl
theorem Fin.mono {α : Type} {r : R α} {P P' : α → Env → Prop} {N N' : Nat → D → Env → Prop} (h : Fin r P N) (hP : ∀ a ρ, P a ρ → P' a ρ) (hN : ∀ c d ρ, N c d ρ → N' c d ρ) : Fin r P' N' := by
  cases r with
  | ok a ρ => exact hP _ _ h
  | err c d ρ => exact hN _ _ _ h
  | stuck => exact h
theorem Fin.ofO {α : Type} {o : Option α} {ρ : Env} {P : α → Env → Prop} {N : Nat → D → Env → Prop} (h : Fin (ofO o ρ) P N) : ∃ a, o = some a ∧ P a ρ := by
  cases o with
  | none => exact h.elim
  | some a => exact ⟨a, rfl, h⟩

/-- an exception of the text's: its class, what it keeps -/
def XRep (L : Lk) (A : Addr → Prop) (H : Hp) (c : Nat) (d : D) (cls : Value) (od : Option Addr) : Prop := False

def EC (L : Lk) (W : WX) (fr : Fr) (G : Addr → Prop) (σ : L2.St) (H : Hp) (F : Fp) : Nat → D → Env → Prop := fun c d ρ' =>
  ∀ H' F', Ext (zz F) H (zz F') H' → Rel L fr G σ H' ρ' F' → ∀ cls od, XRep L (av F' G) H' c d cls od → W cls od σ H'
structure RQ (L : Lk) (fr : Fr) (G : Addr → Prop) (σ : L2.St) (H : Hp) (F : Fp) (b : Bool) (Q : VK) (d : D) (ρ' : Env) : Prop where
  val : ∀ v H' F', (b = true → ∀ ds, d ≠ .lst ds) → Ext (zz F) H (zz F') H' → Rel L fr G σ H' ρ' F' → Rep L (av F' G) H' d v → Q v H'
  new : ∀ ds p vs H' F', d = .lst ds → Ext (zz F) H (zz F') H' → Rel L fr (fun a => G a ∨ a = p) σ H' ρ' F' → H' p = some (.lst vs) → ¬ G p → H p = none → Reps L (av F' fun a => G a ∨ a = p) H' ds vs → Q (.ref p) H'
section
variable {L : Lk} {W : WX} {fr : Fr} {G : Addr → Prop} {σ : L2.St} {H H1 : Hp} {ρ ρ1 : Env} {F F1 : Fp} {b : Bool} {Q : VK} {d : D}
theorem Ext.none {Z Z' : Addr → Prop} {H H' : Hp} (e : Ext Z H Z' H') {p : Addr} (h : H' p = none) : H p = none := by
  cases q : H p with
  | none => rfl
  | some o => exact absurd h (e.there p (by rw [q]; simp))
theorem EC.shift {c : Nat} {d : D} {ρ' : Env} (e : Ext (zz F) H (zz F1) H1) (h : EC L W fr G σ H F c d ρ') : EC L W fr G σ H1 F1 c d ρ' := fun H' F' e' r => h H' F' (e.trans e') r
theorem RQ.shift {ρ' : Env} (e : Ext (zz F) H (zz F1) H1) (h : RQ L fr G σ H F b Q d ρ') : RQ L fr G σ H1 F1 b Q d ρ' :=
  ⟨fun v H' F' n e' => h.val v H' F' n (e.trans e'), fun ds p vs H' F' n e' r' hp nG hn rp => h.new ds p vs H' F' n (e.trans e') r' hp nG (e.none hn) rp⟩
theorem RQ.of {ρ' : Env} (hl : ∀ i a, fr.lm i = some a → G a) (h : ∀ v H' F', Ext (zz F) H (zz F') H' → Rel L fr G σ H' ρ' F' → Rep L (av F' G) H' d v → Q v H') : RQ L fr G σ H F b Q d ρ' := by
  refine ⟨fun v H' F' _ => h v H' F', fun ds p vs H' F' ed e r hp nG _ rp => ?_⟩
  subst ed
  refine h _ H' F' e (r.lessG hl fun a z => .inl z) ?_
  simp only [Rep]
  refine ⟨p, vs, rfl, fun z => ?_, hp, rp.less fun a z => z.imp id .inl⟩
  rcases z with ⟨i, z⟩ | z
  · exact r.gap i p z (.inr rfl)
  · exact nG z
theorem RQ.weak {ρ' : Env} (hl : ∀ i a, fr.lm i = some a → G a) (h : RQ L fr G σ H F false Q d ρ') : RQ L fr G σ H F b Q d ρ' := .of hl fun v H' F' e r q => h.val v H' F' (fun z => by cases z) e r q
theorem Rel.h0 (r : Rel L fr G σ H ρ F) {p : Addr} (hp : H p = none) : fr.H0 p = none := by
  cases e : fr.H0 p with
  | none => rfl
  | some o => exact absurd hp (r.low p (by rw [e]; simp))
/-- where a run stands, a value may be handed on in each way -/
theorem RQ.out (h : RQ L fr G σ H F b Q d ρ1) (e : Ext (zz F) H (zz F1) H1) (r : Rel L fr G σ H1 ρ1 F1) : Out L (av F1 G) H1 b d Q := by
  refine ⟨fun v n rp => h.val v H1 F1 n e r rp, fun ds p vs ed hp rp => ?_, fun ds p vs o ed hp hd rp => ?_⟩
  · have x : Ext (zz F1) H1 (zz F1) (upd H1 p (.lst vs)) := Ext.laid hp
    refine h.new ds p vs _ F1 ed (e.trans x) (r.laidG hp) upd_same (fun z => r.gin p z hp) (e.none hp) ?_
    exact Reps.ext x r.isL r.zA (fun a z => by
      rcases z with z | z | z
      · exact .inl (.inl z)
      · exact .inl (.inr z)
      · exact .inr (z ▸ hp)) rp
  · subst ed
    have x : Ext (zz F1) H1 (zz F1) (upd H1 p (.frz o (.tup vs))) := Ext.laid hp
    refine h.val _ _ F1 (fun _ _ z => nomatch z) (e.trans x) (r.laid hp) ?_
    simp only [Rep]
    exact ⟨p, vs, rfl, .new upd_same hd, r.reps x rp⟩
end

/-! ### readings -/
section
variable (L : Lk) (W : WX) (C : Cl)
def specG (b : Bool) (e : E) : TE := fun σ H Q => ∃ fr G ρ F, Rel L fr G σ H ρ F ∧ Fin (denE C e ρ) (RQ L fr G σ H F b Q) (EC L W fr G σ H F)
def OdR (A : Addr → Prop) (H : Hp) (σ : L2.St) : Od → V → Prop
  | .dat d, v => Rep L A H d v
  | .slot i, v => σ[i]? = some (some v)
def specO (e : E) : TE := fun σ H Q => ∃ fr G ρ F, Rel L fr G σ H ρ F ∧ Fin (denO C e ρ) (fun o ρ' => ∀ v H' F', Ext (zz F) H (zz F') H' → Rel L fr G σ H' ρ' F' → OdR L (av F' G) H' σ o v → Q v H') (EC L W fr G σ H F)
def specT (e : E) : TT := fun σ H Q => ∃ fr G ρ F, Rel L fr G σ H ρ F ∧ Fin (isB (denE C e ρ)) (fun b ρ' => ∀ H' F', Ext (zz F) H (zz F') H' → Rel L fr G σ H' ρ' F' → Q b H') (EC L W fr G σ H F)
def OdRs (A : Addr → Prop) (H : Hp) (σ : L2.St) : List Od → List V → Prop
  | [], vs => vs = []
  | o :: os, vs => ∃ v r, vs = v :: r ∧ OdR L A H σ o v ∧ OdRs A H σ os r
def specEs (es : Es) : TA := fun σ H Q => ∃ fr G ρ F, Rel L fr G σ H ρ F ∧ Fin (denEs C es ρ) (fun ds ρ' => ∀ vs H' F', Ext (zz F) H (zz F') H' → Rel L fr G σ H' ρ' F' → Reps L (av F' G) H' ds vs → Q vs H') (EC L W fr G σ H F)
def specOs (es : Es) : TA := fun σ H Q => ∃ fr G ρ F, Rel L fr G σ H ρ F ∧ Fin (denOs C es ρ) (fun os ρ' => ∀ vs H' F', Ext (zz F) H (zz F') H' → Rel L fr G σ H' ρ' F' → OdRs L (av F' G) H' σ os vs → Q vs H') (EC L W fr G σ H F)
def specAs (as : As) : TA := fun σ H Q => ∃ fr G ρ F, Rel L fr G σ H ρ F ∧ Fin (denAs C as ρ) (fun os ρ' => ∀ vs H' F', Ext (zz F) H (zz F') H' → Rel L fr G σ H' ρ' F' → OdRs L (av F' G) H' σ os vs → Q vs H') (EC L W fr G σ H F)
def specPart (e : Eo) : TO := fun σ H Q => ∃ fr G ρ F, Rel L fr G σ H ρ F ∧ Fin (denPart C e ρ) (fun o ρ' => ∀ H' F', Ext (zz F) H (zz F') H' → Rel L fr G σ H' ρ' F' → Q o H') (EC L W fr G σ H F)
end

section
variable {L : Lk} {W : WX} {C : Cl} {fr : Fr} {G : Addr → Prop} {σ : L2.St} {H H1 : Hp} {ρ ρ1 : Env} {F F1 : Fp}
theorem Rel.odR (r : Rel L fr G σ H ρ F) (e : Ext (zz F) H (zz F1) H1) {o : Od} {v : V} (h : OdR L (av F G) H σ o v) : OdR L (av F1 G) H1 σ o v := by
  cases o with
  | dat d => exact r.rep e h
  | slot i => exact h
theorem Rel.odRs (r : Rel L fr G σ H ρ F) (e : Ext (zz F) H (zz F1) H1) : ∀ {os : List Od} {vs : List V}, OdRs L (av F G) H σ os vs → OdRs L (av F1 G) H1 σ os vs
  | [], _, h => h
  | o :: os, _, h => by
    obtain ⟨v, q, e1, h1, h2⟩ := h
    exact ⟨v, q, e1, r.odR e h1, r.odRs e h2⟩
theorem OwnAt.one {A : Addr → Prop} {x : Option (Option V)} {d : D} {f : List Addr} {q : Addr → Prop} (h : OwnAt L A H x d f q) : ∃ v, x = some (some v) ∧ Rep1 L A H d v := by
  obtain ⟨a, vs, ds, rfl, e2, e3, e4, e5, _⟩ := h
  exact ⟨_, e2, a, vs, rfl, e4, e5⟩
/-- an operand, looked at -/
theorem Rel.rd (r : Rel L fr G σ H ρ F) {o : Od} {v : V} {d : D} (h : OdR L (av F G) H σ o v) (e : Tk.rd ρ o = some d) : Rep1 L (av F G) H d v := by
  cases o with
  | dat d' => cases e; exact Rep.one h
  | slot i =>
    have q := r.slot i
    have h : σ[i]? = some (some v) := h
    have e : seeD (getS ρ i) = some d := e
    have fin : ∀ {d' : D}, (∃ w, σ[i]? = some (some w) ∧ Rep1 L (av F G) H d' w) → Rep1 L (av F G) H d' v := fun {d'} ⟨w, e1, e2⟩ => by
      rw [h] at e1; cases e1; exact e2
    cases es : getS ρ i with
    | none => rw [es] at e; cases e
    | val d' => rw [es] at e q; cases e; obtain ⟨_, w, e1, e2⟩ := q; exact fin ⟨w, e1, e2.one⟩
    | own d' => rw [es] at e q; cases e; exact fin (OwnAt.one q)
    | ref d' => rw [es] at e q; cases e; exact fin (OwnAt.one q)
    | lock b d' => rw [es] at e q; cases e; exact fin (OwnAt.one q.2)
theorem Rel.rds (r : Rel L fr G σ H ρ F) : ∀ {os : List Od} {vs : List V} {ds : List D}, OdRs L (av F G) H σ os vs → Tk.rds ρ os = some ds → Rep1s L (av F G) H ds vs
  | [], _, _, h, e => by cases e; exact h
  | o :: os, _, _, h, e => by
    obtain ⟨v, q, e1, h1, h2⟩ := h
    subst e1
    simp only [Tk.rds] at e
    obtain ⟨d, g1, g2⟩ := Option.bind_eq_some_iff.mp e
    obtain ⟨ds, g3, g4⟩ := Option.map_eq_some_iff.mp g2
    subst g4
    exact ⟨v, q, rfl, r.rd h1 g1, r.rds h2 g3⟩

/-! ### one behind another -/
theorem seqE {e : E} {α : Type} {f : D → Env → R α} {P : α → Env → Prop} {Q : VK} (r : Rel L fr G σ H ρ F) (h : Fin ((denE C e ρ).bind f) P (EC L W fr G σ H F))
    (k : ∀ d v ρ1 H1 F1, Ext (zz F) H (zz F1) H1 → Rel L fr G σ H1 ρ1 F1 → Rep L (av F1 G) H1 d v → Fin (f d ρ1) P (EC L W fr G σ H1 F1) → Q v H1) : specG L W C false e σ H Q :=
  ⟨fr, G, ρ, F, r, (Fin.bind.mp h).mono (fun d ρ1 q => .of r.lmG fun v H1 F1 e1 r1 rp => k d v ρ1 H1 F1 e1 r1 rp (q.mono (fun _ _ z => z) fun _ _ _ z => z.shift e1)) fun _ _ _ z => z⟩
theorem seqO {e : E} {α : Type} {f : Od → Env → R α} {P : α → Env → Prop} {Q : VK} (r : Rel L fr G σ H ρ F) (h : Fin ((denO C e ρ).bind f) P (EC L W fr G σ H F))
    (k : ∀ d v ρ1 H1 F1, Ext (zz F) H (zz F1) H1 → Rel L fr G σ H1 ρ1 F1 → OdR L (av F1 G) H1 σ d v → Fin (f d ρ1) P (EC L W fr G σ H1 F1) → Q v H1) : specO L W C e σ H Q :=
  ⟨fr, G, ρ, F, r, (Fin.bind.mp h).mono (fun d ρ1 q v H1 F1 e1 r1 rp => k d v ρ1 H1 F1 e1 r1 rp (q.mono (fun _ _ z => z) fun _ _ _ z => z.shift e1)) fun _ _ _ z => z⟩
theorem seqT {e : E} {α : Type} {f : Bool → Env → R α} {P : α → Env → Prop} {Q : Bool → Hp → Prop} (r : Rel L fr G σ H ρ F) (h : Fin ((isB (denE C e ρ)).bind f) P (EC L W fr G σ H F))
    (k : ∀ d ρ1 H1 F1, Ext (zz F) H (zz F1) H1 → Rel L fr G σ H1 ρ1 F1 → Fin (f d ρ1) P (EC L W fr G σ H1 F1) → Q d H1) : specT L W C e σ H Q :=
  ⟨fr, G, ρ, F, r, (Fin.bind.mp h).mono (fun d ρ1 q H1 F1 e1 r1 => k d ρ1 H1 F1 e1 r1 (q.mono (fun _ _ z => z) fun _ _ _ z => z.shift e1)) fun _ _ _ z => z⟩
theorem seqEs {e : Es} {α : Type} {f : List D → Env → R α} {P : α → Env → Prop} {Q : List V → Hp → Prop} (r : Rel L fr G σ H ρ F) (h : Fin ((denEs C e ρ).bind f) P (EC L W fr G σ H F))
    (k : ∀ d v ρ1 H1 F1, Ext (zz F) H (zz F1) H1 → Rel L fr G σ H1 ρ1 F1 → Reps L (av F1 G) H1 d v → Fin (f d ρ1) P (EC L W fr G σ H1 F1) → Q v H1) : specEs L W C e σ H Q :=
  ⟨fr, G, ρ, F, r, (Fin.bind.mp h).mono (fun d ρ1 q v H1 F1 e1 r1 rp => k d v ρ1 H1 F1 e1 r1 rp (q.mono (fun _ _ z => z) fun _ _ _ z => z.shift e1)) fun _ _ _ z => z⟩
theorem seqOs {e : Es} {α : Type} {f : List Od → Env → R α} {P : α → Env → Prop} {Q : List V → Hp → Prop} (r : Rel L fr G σ H ρ F) (h : Fin ((denOs C e ρ).bind f) P (EC L W fr G σ H F))
    (k : ∀ d v ρ1 H1 F1, Ext (zz F) H (zz F1) H1 → Rel L fr G σ H1 ρ1 F1 → OdRs L (av F1 G) H1 σ d v → Fin (f d ρ1) P (EC L W fr G σ H1 F1) → Q v H1) : specOs L W C e σ H Q :=
  ⟨fr, G, ρ, F, r, (Fin.bind.mp h).mono (fun d ρ1 q v H1 F1 e1 r1 rp => k d v ρ1 H1 F1 e1 r1 rp (q.mono (fun _ _ z => z) fun _ _ _ z => z.shift e1)) fun _ _ _ z => z⟩
theorem seqAs {e : As} {α : Type} {f : List Od → Env → R α} {P : α → Env → Prop} {Q : List V → Hp → Prop} (r : Rel L fr G σ H ρ F) (h : Fin ((denAs C e ρ).bind f) P (EC L W fr G σ H F))
    (k : ∀ d v ρ1 H1 F1, Ext (zz F) H (zz F1) H1 → Rel L fr G σ H1 ρ1 F1 → OdRs L (av F1 G) H1 σ d v → Fin (f d ρ1) P (EC L W fr G σ H1 F1) → Q v H1) : specAs L W C e σ H Q :=
  ⟨fr, G, ρ, F, r, (Fin.bind.mp h).mono (fun d ρ1 q v H1 F1 e1 r1 rp => k d v ρ1 H1 F1 e1 r1 rp (q.mono (fun _ _ z => z) fun _ _ _ z => z.shift e1)) fun _ _ _ z => z⟩
theorem seqPart {e : Eo} {α : Type} {f : Option Int → Env → R α} {P : α → Env → Prop} {Q : Option Int → Hp → Prop} (r : Rel L fr G σ H ρ F) (h : Fin ((denPart C e ρ).bind f) P (EC L W fr G σ H F))
    (k : ∀ d ρ1 H1 F1, Ext (zz F) H (zz F1) H1 → Rel L fr G σ H1 ρ1 F1 → Fin (f d ρ1) P (EC L W fr G σ H1 F1) → Q d H1) : specPart L W C e σ H Q :=
  ⟨fr, G, ρ, F, r, (Fin.bind.mp h).mono (fun d ρ1 q H1 F1 e1 r1 => k d ρ1 H1 F1 e1 r1 (q.mono (fun _ _ z => z) fun _ _ _ z => z.shift e1)) fun _ _ _ z => z⟩
end

section
variable {X : Cx}
theorem _root_.L2.PE.imp {e : Expr} {t t' : TE} (h : PE X e t) (k : ∀ σ H Q, t' σ H Q → t σ H Q) : PE X e t' := ⟨fun pins s σ H Q I q => h.run pins s σ H Q I (k σ H Q q)⟩
theorem _root_.L2.PT.imp {e : Expr} {t t' : TT} (h : PT X e t) (k : ∀ σ H Q, t' σ H Q → t σ H Q) : PT X e t' := ⟨fun pins s σ H Q I q => h.run pins s σ H Q I (k σ H Q q)⟩
theorem _root_.L2.PW.imp {e : Expr} {t t' : TT} (h : PW X e t) (k : ∀ σ H Q, t' σ H Q → t σ H Q) : PW X e t' := ⟨fun wh pins s σ H Q I q => h.run wh pins s σ H Q I (k σ H Q q)⟩
theorem _root_.L2.PA.imp {e : List Expr} {t t' : TA} (h : PA X e t) (k : ∀ σ H Q, t' σ H Q → t σ H Q) : PA X e t' := ⟨fun pos pins s σ H Q I q => h.run pos pins s σ H Q I (k σ H Q q)⟩
theorem _root_.L2.PO.imp {e : Option Expr} {t t' : TO} (h : PO X e t) (k : ∀ σ H Q, t' σ H Q → t σ H Q) : PO X e t' := ⟨fun pins s σ H Q I q => h.run pins s σ H Q I (k σ H Q q)⟩
theorem _root_.L2.PI.imp {tg e : Expr} {t t' : TI} (h : PI X tg e t) (k : ∀ σ H Q, t' σ H Q → t σ H Q) : PI X tg e t' := ⟨fun pins s σ H Q I q => h.run pins s σ H Q I (k σ H Q q)⟩
theorem _root_.L2.PS.imp {e : Stmt} {t t' : TS} (h : PS X e t) (k : ∀ D σ H, t' D σ H → t D σ H) : PS X e t' := ⟨fun pins s σ H D I q => h.run pins s σ H D I (k D σ H q)⟩
theorem _root_.L2.PSs.imp {e : List Stmt} {t t' : TS} (h : PSs X e t) (k : ∀ D σ H, t' D σ H → t D σ H) : PSs X e t' := ⟨fun pins s σ H D I q => h.run pins s σ H D I (k D σ H q)⟩
end
end Tk

set_option Elab.async false
set_option linter.all false
set_option maxRecDepth 100000
set_option maxHeartbeats 2000000
/-! Defs that may count on it that no text is being made about them (repr): a promise under A.guards = some []. -/
namespace L2
open PySem PySem.Spec PyProof.Rows
abbrev NoX : XK := fun _ _ _ => False
abbrev NoC : CXT := fun _ _ _ _ _ _ => False
structure FnG (P : Program) (w : World) (K : PySem.W.Frag) (mg : Str → Option Value) (base : Heap) (k : Nat) (f : Addr) (fd : FuncData) (ps : List Str) (sp : Sp) : Prop where
  len : ∀ vs H Q E, sp vs H Q E → vs.length = ps.length
  go : ∀ (A : Around) (outer : List Env) (s : Shared) (H : Hp) (args : Args) (us : List Value) (vs : List V) (Q : VK), Room k A → A.guards = some [] → Env0 P w K mg base A outer s H → BindsTo s fd args (ps.zip us) → Vals vs us →
    sp vs H Q NoX → codeAny (model P w) A (.call (.ref f) args) (CR NoC outer P w H s Q NoX) s
theorem FnG.imp {P : Program} {w : World} {K : PySem.W.Frag} {mg : Str → Option Value} {base : Heap} {k : Nat} {f : Addr} {fd : FuncData} {ps : List Str} {sp sp' : Sp} (F : FnG P w K mg base k f fd ps sp) (h : ∀ vs H Q E, sp' vs H Q E → sp vs H Q E) :
    FnG P w K mg base k f fd ps sp' := ⟨fun _ _ _ _ q => F.len _ _ _ _ (h _ _ _ _ q), fun A outer s H args us vs Q a b c d e q => F.go A outer s H args us vs Q a b c d e (h _ _ _ _ q)⟩
section
variable {X : Cx} {k i : Nat} {f : Addr} {fd : FuncData} {ps ks : List Str} {sp : Sp} {x : Str} {p pos : Pos} {e : Expr} {es : List Expr} {kws : List Keyword} {t tk : TA} {g : List Value → List Value → List Value} {gV : List V → List V → List V}
theorem g_end {pins : List (Addr × Obj)} {σ : St} {H : Hp} {s : Shared} {Q : VK} (I : Inv X pins σ H s) : ∀ (r : Result) (s' : Shared), CR NoC X.stack X.prog X.w H s Q NoX r s' → (match r with | .ok (.ret u) => EP X pins σ Q u s' | .ok _ => False | .error e => X.xe e s')
  | .error _, _, h => h.elim
  | .ok (.ret _), _, h => I.after h
  | .ok .next, _, h => h.elim
  | .ok .brk, _, h => h.elim
  | .ok .cont, _, h => h.elim
theorem g_run {pins : List (Addr × Obj)} {σ : St} {H : Hp} {s : Shared} {Q : VK} {args : List Value} {kw : List (Str × Value)} {us : List Value} {vs : List V} (F : FnG X.prog X.w X.K X.mg X.base k f fd ps sp) (hr : Room k X.A) (hc : X.A.guards = some [])
    (I : Inv X pins σ H s) (hb : BindsTo s fd ⟨args, kw⟩ (ps.zip us)) (r : Vals vs us) (h : sp vs H Q NoX) : wpAny (model X.prog X.w) X.A (call (.ref f) args kw) (EP X pins σ Q) X.xe s := by
  refine wpAny_call (codeAny_mono (F.go X.A X.stack s H ⟨args, kw⟩ us vs Q hr hc I.env0 hb r h) fun res s' hq => ?_)
  have z := g_end I res s' hq
  cases res with
  | error _ => exact z
  | ok fl => cases fl <;> first | exact z | exact z.elim
theorem g_pos {pins : List (Addr × Obj)} {σ : St} {H : Hp} {s : Shared} {Q : VK} {us : List Value} {vs : List V} (F : FnG X.prog X.w X.K X.mg X.base k f fd ps sp) (hr : Room k X.A) (hc : X.A.guards = some []) (hb : Binds X.K fd ps [])
    (I : Inv X pins σ H s) (r : Vals vs us) (h : sp vs H Q NoX) : wpAny (model X.prog X.w) X.A (call (.ref f) us) (EP X pins σ Q) X.xe s := by
  have b := hb s us I.kIn
  simp only [List.append_nil] at b
  exact g_run F hr hc I (b (by rw [← r.length]; exact F.len _ _ _ _ h)) r h
theorem g_call (F : FnG X.prog X.w X.K X.mg X.base k f fd ps sp) (hr : Room k X.A) (hc : X.A.guards = some []) (hg : Gl X x) (hm : X.mg x = some (.ref f)) (hk : PySem.W.keepIn X.K (.ref f) = true) (hb : Binds X.K fd ps [])
    (ha : PA X (e :: es) t) (hdb : (x == ("__debug__" : Str)) = false) (he : starEach (e :: es) X.env = (false, eval e X.env) :: starEach es X.env) (hpl : (backTo pos (starEach es X.env)).any (·.1) = false) :
    PE X (.Call (.Name x p) (e :: es) [] pos) (fun σ H Q => t σ H fun vs H1 => sp vs H1 Q NoX) :=
  ⟨fun pins s σ H Q I h => wpAny_Call_Name_kw (ld_glob I hg hm (PySem.W.callWith_K (h₀ := X.base) I.ok.mod.kin hk (thn (ha.run pos pins s σ H _ I h) fun us s1 ⟨vs, H1, I1, r, q⟩ => ⟨I1.kIn, g_pos F hr hc hb I1 r q⟩) he hpl) hdb)⟩
theorem g_call0 (F : FnG X.prog X.w X.K X.mg X.base k f fd ps sp) (hr : Room k X.A) (hc : X.A.guards = some []) (hg : Gl X x) (hm : X.mg x = some (.ref f)) (hk : PySem.W.keepIn X.K (.ref f) = true) (hb : Binds X.K fd ps [])
    (hdb : (x == ("__debug__" : Str)) = false) : PE X (.Call (.Name x p) [] [] pos) (fun _ H Q => sp [] H Q NoX) :=
  ⟨fun pins s σ H Q I h => wpAny_Call_Name_kw (ld_glob I hg hm (PySem.W.callWith_K0 I.kIn hk (g_pos (us := []) F hr hc hb I .nil h)) hdb)⟩
/-- f(k = v, ..), nothing by position -/
theorem g_callK0 (F : FnG X.prog X.w X.K X.mg X.base k f fd ps sp) (hr : Room k X.A) (hc : X.A.guards = some []) (hg : Gl X x) (hm : X.mg x = some (.ref f)) (hk : PySem.W.keepIn X.K (.ref f) = true) (hb : KBinds X.K fd ps ks g gV)
    (hkw : PK X kws tk) (hall : (backToKw pos (keywordEach kws X.env)).all (·.1.isSome) = true) (hks : (backToKw pos (keywordEach kws X.env)).filterMap (·.1) = ks)
    (hdb : (x == ("__debug__" : Str)) = false) (hpl : ((backTo pos (starEach [] X.env)).any (·.1) || (backToKw pos (keywordEach kws X.env)).any (·.1.isNone)) = false) :
    PE X (.Call (.Name x p) [] kws pos) (fun σ H Q => tk σ H fun zs H2 => sp (gV [] zs) H2 Q NoX) := by
  refine ⟨fun pins s σ H Q I h => wpAny_Call_Name_kw (ld_glob I hg hm ?_ hdb)⟩
  refine PySem.W.callWith_KW0 (h₀ := X.base) I.ok.mod.kin hk hall (thn (hkw.run pos pins s σ H _ I h) fun ws s2 ⟨zs, H2, I2, rz, q2⟩ => ⟨I2.kIn, ?_⟩) hpl
  rw [hks]
  have r2 : Vals (gV [] zs) (g [] ws) := hb.rel .nil rz
  exact g_run F hr hc I2 (hb.to s2 [] ws I2.kIn (by rw [← r2.length]; exact F.len _ _ _ _ q2)) r2 q2
/-- a local name that holds a def -/
theorem g_callV {T : Type} {S : T → Addr} {SP : T → Sp} (A : ∀ z, ∃ fd ps, FnG X.prog X.w X.K X.mg X.base k (S z) fd ps (SP z) ∧ PySem.W.keepIn X.K (.ref (S z)) = true ∧ Binds X.K fd ps []) (hr : Room k X.A) (hc : X.A.guards = some []) (hN : X.N[i]? = some x) (hv : Vis X.env.scope x) (ha : PA X (e :: es) t)
    (hdb : (x == ("__debug__" : Str)) = false) (hcd : (x == ("__classdict__" : Str)) = false)
    (he : starEach (e :: es) X.env = (false, eval e X.env) :: starEach es X.env) (hpl : (backTo pos (starEach es X.env)).any (·.1) = false) :
    PE X (.Call (.Name x p) (e :: es) [] pos) (fun σ H Q => ∃ z, σ[i]? = some (some (.ref (S z))) ∧ t σ H fun vs H1 => SP z vs H1 Q NoX) := by
  refine ⟨fun pins s σ H Q I h => ?_⟩
  obtain ⟨z, hs, ht⟩ := h
  obtain ⟨fd, ps, F, hk, hb⟩ := A z
  have var := (pe_var (pos := p) hN hv hdb hcd).run pins s σ H (fun v H1 => v = .ref (S z) ∧ H1 = H) I ⟨.ref (S z), hs, rfl, rfl⟩
  refine wpAny_Call_Name_kw (thn var fun u s1 h1 => ?_)
  obtain ⟨v, H1, I1, r1, rfl, rfl⟩ := h1
  cases r1
  exact PySem.W.callWith_K (h₀ := X.base) I.ok.mod.kin hk (thn (ha.run pos pins s1 σ _ _ I1 ht) fun us s2 ⟨vs, H2, I2, r, q⟩ => ⟨I2.kIn, g_pos F hr hc hb I2 r q⟩) he hpl
end
/-- a def of the text, by its body -/
theorem g_def {P : Program} {w : World} {K : PySem.W.Frag} {mg : Str → Option Value} {base : Heap} {x qual : Str} {params : Arguments} {body : List Stmt} {scope : Scope} {f : Addr} {fd : FuncData} {N ps : List Str} {k : Nat} {sp : Sp}
    (F : FunD K x qual params body scope [] [] f fd) (S : FnScope N ps scope) (len : ∀ vs H Q E, sp vs H Q E → vs.length = ps.length)
    (hbody : ∀ (cdv : Value) (A : Around) (outer : List Env) (s : Shared) (H : Hp) (vs : List V) (Q : VK), Room k (A.deeper (envOfC qual scope s.heap.objs.size f cdv)) → A.guards = some [] → sp vs H Q NoX →
      ∃ t, PSs (cxOf NoC P w K mg base N qual scope f cdv A outer s H NoX) body t ∧ t { nx := fun _ H' => Q .non H', rt := Q } (start N vs) H) : FnG P w K mg base (k + 1) f fd ps sp := by
  obtain ⟨_, _, _, _, _, _, _, cdv, _, _, rfl, lk, hcd, _, _⟩ := F.ex
  refine ⟨len, fun A outer s H args us vs Q hr hc e0 hb r hsp => ?_⟩
  have old : ∀ b o, base.get? b = some o → s.heap.get? b = some o := fun b o e => (e0.bs b o e).1
  have KX : K.In s.heap := e0.mod.kin.keeps old
  have kinds : ∀ y ∈ ps.zip us, scope.names.lookup y.1 = some .local ∨ (scope.names.lookup y.1 = some .cell ∧ ((cellsFrom (s.heap.objs.size + 1) scope.names []).lookup y.1).isSome = true) := by
    intro ⟨n, v⟩ hy
    rcases S.par n (List.of_mem_zip hy).1 with q | q
    · exact .inl q
    · exact .inr ⟨q, PySem.W.cellsFrom_some _ _ _ (.inl q)⟩
  refine codeAny_call_function hr.depth (KX _ _ lk) rfl S.co S.gen rfl (PySem.W.codeRec_of KX hcd) (hb _ _ _ _ (wpAny_newFunctionEnv_cells S.kind kinds fun env he s1 z => ?_))
  subst he
  refine ⟨(e0.mod.nolimit.keeps old).keeps z.toInCall.keep, codeAny_func ?_⟩
  obtain ⟨t, ht, hq⟩ := hbody cdv A outer s H vs Q (hr.deeper _) hc hsp
  have st : Inv (cxOf NoC P w K mg base N qual scope f cdv A outer s H NoX) [] (start N vs) H s1 := inv_start S hr.hd e0 (len _ _ _ _ hsp) r z
  refine wpAny_mono (ht.run [] s1 (start N vs) H _ st hq) (fun fl s' hs => ?_) fun _ _ hs => hs
  cases fl with
  | ret u => obtain ⟨v, σ', H', J, rv, q⟩ := hs; exact ⟨v, H', J.os, J.bare, J.base, J.hok, rv, q⟩
  | next => obtain ⟨σ', H', J, q⟩ := hs; exact ⟨.non, H', J.os, J.bare, J.base, J.hok, rfl, q⟩
  | brk => obtain ⟨_, _, _, q⟩ := hs; exact q.elim
  | cont => obtain ⟨_, _, _, q⟩ := hs; exact q.elim
/-- the law's call, from the caller's place -/
theorem g_law {P : Program} {w : World} {K : PySem.W.Frag} {mg mb : Str → Option Value} {k : Nat} {fa a : Addr} {fd : FuncData} {x : Str} {sp : Sp} {s₁ : Shared} {vs : List Value} {ns : List Int}
    (KX : K.In s₁.heap) (hns : s₁.heap.Ns mainGlobals mg) (hb : s₁.heap.Ns builtinsNs mb) (hbb : ∀ x : Str, x ≠ "__name__" → mb x = bootBuiltins x) (hlim : s₁.heap.NoLimit) (hg : s₁.gens = #[])
    (ha : s₁.heap.get? a = some { cls := .type "list", data := .seq vs.toArray }) (hi : IntsAre vs ns) (hl : ns.length ≤ sizeLine) (hr : Room k callerA)
    (F : ∀ base : Heap, K.In base → base.Ns mainGlobals mg → FnG P w K mg base k fa fd [x] sp) (hbind : ∀ (s : Shared) (u : Value), BindsTo s fd ⟨[u], []⟩ [(x, u)])
    (hsp : ∀ H : Hp, Only H → SqL K H a (ns.map V.int) → sp [.ref a] H (fun v _ => v = .bl true) NoX) :
    codeAny (model P w) callerA (.call (.ref fa) ⟨[.ref a], []⟩) (fun r s' => r = .ok (.ret (.bool true)) ∧ OldK s₁.heap s'.heap ∧ s'.os = s₁.os ∧ AllBare s'.gens) s₁ := by
  have rv := vals_ints hi
  have lenV := hi.length
  have main : ∀ H : Hp, Only H → SqL K H a (ns.map V.int) → HOk P w H s₁.heap → (∀ b, H b ≠ none → b = a ∧ K.lookup a = none) →
      codeAny (model P w) callerA (.call (.ref fa) ⟨[.ref a], []⟩) (fun r s' => r = .ok (.ret (.bool true)) ∧ OldK s₁.heap s'.heap ∧ s'.os = s₁.os ∧ AllBare s'.gens) s₁ := by
    intro H hO hS hok hA
    have isA : ∀ {b : Addr}, H b = none ∨ (b = a ∧ K.lookup a = none) := fun {b} => by
      by_cases q : H b = none
      · exact .inl q
      · exact .inr (hA b q)
    have dict : ∀ {b : Addr} {m : Str → Option Value}, s₁.heap.Ns b m → (hidT s₁.heap H).Ns b m := fun {b m} ⟨o, es, ep, e, d, r⟩ => by
      refine ⟨o, es, ep, hidT_get e ?_, d, r⟩
      rcases isA (b := b) with q | ⟨rfl, _⟩
      · exact q
      · rw [ha] at e; cases e; cases d
    have kin : K.In (hidT s₁.heap H) := fun b o e => by
      refine hidT_get (KX b o e) ?_
      rcases isA (b := b) with q | ⟨rfl, q⟩
      · exact q
      · rw [q] at e; cases e
    have lim : (hidT s₁.heap H).NoLimit := by
      obtain ⟨mc, h1, h2⟩ := hlim
      exact ⟨mc, dict h1, h2⟩
    have env : Env0 P w K mg (hidT s₁.heap H) callerA [] s₁ H :=
      ⟨rfl, ⟨kin, dict hns, ⟨mb, dict hb, hbb⟩, lim⟩, fun b o e => of_hidT e, Nat.le_of_eq (hidT_size _ _), trivial, fun b z => absurd (show b ∈ ([] : List Addr) from z) List.not_mem_nil, hok, .of_eq hg⟩
    refine codeAny_mono ((F _ kin (dict hns)).go callerA [] s₁ H ⟨[.ref a], []⟩ [.ref a] [.ref a] _ hr rfl env (hbind s₁ (.ref a)) (.cons rfl .nil) (hsp H hO hS)) fun res s' h => ?_
    cases res with
    | error _ => exact h.elim
    | ok fl =>
      cases fl with
      | next => exact h.elim
      | brk => exact h.elim
      | cont => exact h.elim
      | ret u =>
        obtain ⟨v, H', os, bare, un, hok', r', q⟩ := h
        obtain rfl : v = .bl true := q
        obtain rfl : u = Value.bool true := r'
        refine ⟨rfl, OldK.of_keep fun b o e => ?_, os, bare⟩
        rcases hO b with z | ⟨ob, xs, z⟩
        · exact un.keep b o e z (fun y => absurd (show b ∈ ([] : List Addr) from y) List.not_mem_nil) (by simp)
        · have e1 := (hok b _ z).1
          have e2 := (hok' b _ (un.frzs b ob _ z)).1
          rw [e] at e1; cases e1
          exact e2
  cases hk : K.lookup a with
  | some o =>
    have e := KX a o hk
    rw [ha] at e; cases e
    have ws : (vs.toArray).size ≤ sizeLine := by rw [List.size_toArray, lenV]; exact hl
    exact main (fun _ => none) (fun _ => .inl rfl) (.inr ⟨_, vs.toArray, _, hk, rfl, rfl, rfl, ws, by simpa using rv⟩) (fun _ _ z => by cases (show (none : Option HO) = _ from z)) fun _ z => absurd rfl z
  | none =>
    refine main (upd (fun _ => none) a (.frz { cls := .type "list", data := .seq vs.toArray } (.lst (ns.map V.int)))) (fun b => ?_) (.inl (.inr ⟨_, upd_same⟩)) (fun b u z => ?_) fun b z => ?_
    · by_cases q : b = a
      · subst q; exact .inr ⟨_, _, upd_same⟩
      · exact .inl (by rw [upd_ne q])
    · by_cases q : b = a
      · subst q
        rw [upd_same] at z; cases z
        exact ⟨ha, by rw [List.length_map]; exact hl, vs, _, rv, ha⟩
      · rw [upd_ne q] at z; cases z
    · by_cases q : b = a
      · exact ⟨q, hk⟩
      · rw [upd_ne q] at z; exact absurd rfl z
/-- a law by the promise of its text -/
theorem g_walk {l : PySem.W.OpenLaw} {n k : Nat} {q : Program} {loose : List Str} {XP : (Str → Option Value) → Heap → Prop} {YP : World → Heap → Prop} {d : DefRec} {x : Str}
    (hn : l.most = some n) (hn2 : n ≤ sizeLine) (hdf : d.params.defaults = []) (hr : Room k callerA)
    (F : ∀ (w : World) (mg : Str → Option Value) (fa : Addr) (h : Heap), YP w h → h.Ns mainGlobals mg → mg d.name = some (.ref fa) →
      ∃ (K : PySem.W.Frag) (fd : FuncData) (sp : Sp), K.In h ∧ (∀ (s : Shared) (u : Value), BindsTo s fd ⟨[u], []⟩ [(x, u)]) ∧
        (∀ (H : Hp) (a : Addr) (ns : List Int), ns.length ≤ n → Only H → SqL K H a (ns.map V.int) → sp [.ref a] H (fun v _ => v = .bl true) NoX) ∧
        ∀ base : Heap, K.In base → base.Ns mainGlobals mg → FnG l.prog w K mg base k fa fd [x] sp) :
    PySem.W.WalkO q loose XP YP l.row.toRowW d [] (fun f vs => PySem.call f vs) := by
  refine Att.attach_call hn hdf fun w _ s₁ mg mb fa _ _ _ _ a vs ns G Y _ _ _ hmg hobj hints hlen hg => ?_
  obtain ⟨K, fd, sp, KX, hb, hsp, hF⟩ := F w mg fa _ Y G.T.g hmg
  exact g_law KX G.T.g G.T.b G.T.builtins G.T.nolimit hg hobj hints (Nat.le_trans hlen hn2) hr hF hb fun H hO hS => hsp H a ns hlen hO hS
end L2

set_option Elab.async false
set_option linter.all false
set_option maxRecDepth 100000
set_option maxHeartbeats 2000000
namespace Tk
open PySem PySem.Spec PyProof.Rows L2

def cl (t : Tx) (wf k : Nat) : Cl := ⟨run t.T t.G wf k, fun g => (t.G[g]?).map (·.2), fun f => ((t.T[f]?).map (·.np)).getD 0, fun f => (t.T[f]?).isSome, wf⟩
theorem denO_ne {C : Cl} {e : E} {ρ : Env} (h : ∀ i, e ≠ .var i) : denO C e ρ = (denE C e ρ).bind fun d ρ1 => .ok (.dat d) ρ1 := by
  cases e <;> first
    | (exact absurd rfl (h _))
    | (simp only [denO, odOf])
theorem nm_of {N : List Str} {sc : Scope} {i : Nat} {x : Str} (h : nmB N sc i x = true) : N[i]? = some x ∧ Vis sc x ∧ (x == ("__debug__" : Str)) = false ∧ (x == ("__classdict__" : Str)) = false := by
  unfold nmB at h
  simp only [Bool.and_eq_true, decide_eq_true_eq] at h
  exact ⟨h.1.1, vis_of h.1.2, okName_of h.2⟩

section
variable {L : Lk} {t : Tx} {k : Nat} {N : List Str} {sc : Scope} {W : WX} {X : Cx} {C : Cl}

theorem s_var (g : Good L k N sc W X) {i : Nat} {x : Str} {pos : Pos} (h : nmB N sc i x = true) : PE X (.Name x pos) (specG L W C false (.var i)) := by
  obtain ⟨h1, h2, h3, h4⟩ := nm_of h
  refine L2.PE.imp (pe_var (by rw [g.hN]; exact h1) (g.vis x h2) h3 h4) fun σ H Q q => ?_
  obtain ⟨fr, G, ρ, F, r, f⟩ := q
  simp only [denE] at f
  cases e : getS ρ i with
  | val d =>
    rw [e] at f
    obtain ⟨v, e1, rp⟩ := r.val e
    exact ⟨v, e1, f.val v H F (fun z => by cases z) (Ext.refl _ _) r rp⟩
  | own d =>
    rw [e] at f
    obtain ⟨v, e1, rp, r1⟩ := r.freeze e
    exact ⟨v, e1, f.val v H _ (fun z => by cases z) ((Ext.refl _ _).less (zz_put (by simp))) r1 rp⟩
  | none => rw [e] at f; exact f.elim
  | ref d => rw [e] at f; exact f.elim
  | lock b d => rw [e] at f; exact f.elim
theorem o_var (g : Good L k N sc W X) {i : Nat} {x : Str} {pos : Pos} (h : nmB N sc i x = true) : PE X (.Name x pos) (specO L W C (.var i)) := by
  obtain ⟨h1, h2, h3, h4⟩ := nm_of h
  refine L2.PE.imp (pe_var (by rw [g.hN]; exact h1) (g.vis x h2) h3 h4) fun σ H Q q => ?_
  obtain ⟨fr, G, ρ, F, r, f⟩ := q
  simp only [denO, odOf] at f
  cases e : seeD (getS ρ i) with
  | none => rw [e] at f; exact f.elim
  | some d =>
    rw [e] at f
    obtain ⟨v, e1, rp⟩ := r.see e
    exact ⟨v, e1, f v H F (Ext.refl _ _) r e1⟩
theorem s_weak {b : Bool} {e : E} {pe : Expr} (h : PE X pe (specG L W C b e)) : PE X pe (specG L W C false e) :=
  h.imp fun σ H Q ⟨fr, G, ρ, F, r, f⟩ => ⟨fr, G, ρ, F, r, f.mono (fun _ _ z => z.weak r.lmG) fun _ _ _ z => z⟩
theorem o_of {b : Bool} {e : E} {pe : Expr} (n : ∀ i, e ≠ .var i) (h : PE X pe (specG L W C b e)) : PE X pe (specO L W C e) := by
  refine (s_weak h).imp fun σ H Q ⟨fr, G, ρ, F, r, f⟩ => ?_
  rw [denO_ne n] at f
  exact seqE r f fun d v ρ1 H1 F1 e1 r1 rp q => q v H1 F1 e1 r1 rp
theorem t_of {b : Bool} {e : E} {pe : Expr} (h : PE X pe (specG L W C b e)) (he : ∀ whole, isTrue pe X.env whole = (do let v ← whole; standAt pe.pos; holding [v] (truthy v))) : PT X pe (specT L W C e) := by
  refine L2.PT.imp (pt_val (s_weak h) he) fun σ H Q ⟨fr, G, ρ, F, r, f⟩ => ?_
  refine seqE r f fun d v ρ1 H1 F1 e1 r1 rp q => ?_
  cases d <;> first | exact q.elim | skip
  rename_i b
  simp only [Rep] at rp
  exact ⟨b, rp, q H1 F1 e1 r1⟩
theorem s_con {c : D} {pe : Expr} {v : V} (h : PE X pe (tC v)) (rp : ∀ A H, Rep L A H c v) : PE X pe (specG L W C false (.con c)) :=
  h.imp fun σ H Q ⟨fr, G, ρ, F, r, f⟩ => by
    simp only [denE] at f
    exact f.val v H F (fun z => by cases z) (Ext.refl _ _) r (rp _ _)
theorem s_dnew {pos : Pos} : PE X (.Dict [] [] pos) (specG L W C false (.con .dct)) :=
  pe_dnewT.imp fun σ H Q ⟨fr, G, ρ, F, r, f⟩ => by
    simp only [denE] at f
    exact fun p hp => f.val _ _ F (fun z => by cases z) (Ext.laid hp) (r.laid hp) (by simp only [Rep]; exact ⟨p, rfl, upd_same⟩)
theorem s_glob (g : Good L k N sc W X) (lk : LkOk L t) {wf j i : Nat} {x : Str} {d : D} {pos : Pos} (h : t.G[i]? = some (x, d)) (hg : gloB sc x = true) (hx : okName x = true) : PE X (.Name x pos) (specG L W (cl t wf j) false (.glob i)) := by
  obtain ⟨u, v, e1, e2, e3⟩ := lk.gl i x d h
  refine (pe_glob (g.glo x (glo_of hg)) (by rw [g.hmg]; exact e1) e2 (okName_of hx).1).imp fun σ H Q ⟨fr, G, ρ, F, r, f⟩ => ?_
  simp only [denE, cl, h, Option.map_some] at f
  exact f.val v H F (fun z => by cases z) (Ext.refl _ _) r (e3 _ _)
theorem s_bin (g : Good L k N sc W X) {o : Op} {a b : E} {pa pb : Expr} {pos : Pos} (ha : PE X pa (specO L W C a)) (hb : PE X pb (specO L W C b)) : PE X (.BinOp pa (opP o) pb pos) (specG L W C true (.bin o a b)) := by
  refine (pe_op (op_bin g.hK o true) ha hb).imp fun σ H Q ⟨fr, G, ρ, F, r, f⟩ => ?_
  simp only [denE] at f
  refine seqO r f fun x v ρ1 H1 F1 e1 r1 o1 f => seqO r1 f fun y u ρ2 H2 F2 e2 r2 o2 f => ?_
  obtain ⟨d, e, q⟩ := f.ofO
  obtain ⟨dx, g1, e⟩ := Option.bind_eq_some_iff.mp e
  obtain ⟨dy, g2, e⟩ := Option.bind_eq_some_iff.mp e
  exact ⟨dx, dy, d, av F2 G, e, r2.rd (r1.odR e2 o1) g1, r2.rd o2 g2, q.out (e1.trans e2) r2⟩
theorem s_neg {a : E} {pa : Expr} {pos : Pos} {b : Bool} (ha : PE X pa (specG L W C b a)) : PE X (.UnaryOp .USub pa pos) (specG L W C false (.neg a)) := by
  refine (pe_un un_neg (s_weak ha)).imp fun σ H Q ⟨fr, G, ρ, F, r, f⟩ => ?_
  simp only [denE] at f
  refine seqE r f fun d v ρ1 H1 F1 e1 r1 rp f => ?_
  cases d <;> first | exact f.elim | skip
  rename_i i
  simp only [Rep] at rp
  exact ⟨i, rp, f.val _ H1 F1 (fun z => by cases z) e1 r1 (by simp only [Rep])⟩
theorem cmp_read (g : Good L k N sc W X) {o : Cm} {a b : E} {σ : L2.St} {H : Hp} {Q : VK} (q : specG L W C false (.cmp o a b) σ H Q) : tOp (rCmp L o) (specO L W C a) (specO L W C b) σ H Q := by
  obtain ⟨fr, G, ρ, F, r, f⟩ := q
  simp only [denE] at f
  refine seqO r f fun x v ρ1 H1 F1 e1 r1 o1 f => seqO r1 f fun y u ρ2 H2 F2 e2 r2 o2 f => ?_
  obtain ⟨d, e, q⟩ := f.ofO
  obtain ⟨dx, g1, e⟩ := Option.bind_eq_some_iff.mp e
  obtain ⟨dy, g2, e⟩ := Option.bind_eq_some_iff.mp e
  obtain ⟨c, g3, e⟩ := Option.map_eq_some_iff.mp e
  subst e
  exact ⟨dx, dy, c, av F2 G, g3, r2.rd (r1.odR e2 o1) g1, r2.rd o2 g2, q.val _ H2 F2 (fun z => by cases z) (e1.trans e2) r2 (by simp only [Rep])⟩
theorem mark_of {t : Tx} {b : E} {pb : Expr} {op : CmpOp} (h : mE t N sc b pb = true) : behindInMarks op pb = false := by
  cases pb <;> first
    | rfl
    | (rw [mE_set] at h; cases h)
theorem s_cmp (g : Good L k N sc W X) {o : Cm} {a b : E} {pa pb : Expr} {pos : Pos} (ha : PE X pa (specO L W C a)) (hb : PE X pb (specO L W C b)) (m : behindInMarks (cmP o) pb = false) : PE X (.Compare pa [cmP o] [pb] pos) (specG L W C false (.cmp o a b)) :=
  (pe_cmpR (op_cmp g.hK g.room o) ha hb m).imp fun σ H Q q => cmp_read g q
/-- a test by a value's reading -/
theorem t_read {e : E} {te : TE} (h : ∀ {σ : L2.St} {H : Hp} {Q : VK}, specG L W C false e σ H Q → te σ H Q) {σ : L2.St} {H : Hp} {Q : Bool → Hp → Prop} (q : specT L W C e σ H Q) : te σ H fun x H1 => ∃ c, x = .bl c ∧ Q c H1 := by
  obtain ⟨fr, G, ρ, F, r, f⟩ := q
  refine h (seqE r f fun d v ρ1 H1 F1 e1 r1 rp q => ?_)
  cases d <;> first | exact q.elim | skip
  rename_i b
  simp only [Rep] at rp
  exact ⟨b, rp, q H1 F1 e1 r1⟩
theorem t_cmp (g : Good L k N sc W X) {o : Cm} {a b : E} {pa pb : Expr} {pos : Pos} (ha : PE X pa (specO L W C a)) (hb : PE X pb (specO L W C b)) (m : behindInMarks (cmP o) pb = false) : PT X (.Compare pa [cmP o] [pb] pos) (specT L W C (.cmp o a b)) :=
  (pt_cmpR (op_cmp g.hK g.room o) ha hb m).imp fun σ H Q q => t_read (fun z => cmp_read g z) q
theorem chain_read (g : Good L k N sc W X) {o o' : Cm} {a b c : E} {σ : L2.St} {H : Hp} {Q : VK} (q : specG L W C false (.chain o o' a b c) σ H Q) : tChain (rCmp L o) (rCmp L o') (specO L W C a) (specO L W C b) (specO L W C c) σ H Q := by
  obtain ⟨fr, G, ρ, F, r, f⟩ := q
  simp only [denE] at f
  refine seqO r f fun x v ρ1 H1 F1 e1 r1 o1 f => seqO r1 f fun y u ρ2 H2 F2 e2 r2 o2 f => ?_
  have o1' := r1.odR e2 o1
  cases e : (rd ρ2 x).bind fun dx => (rd ρ2 y).bind fun dy => cmpF o dx dy with
  | none => rw [e] at f; exact f.elim
  | some z =>
    rw [e] at f
    obtain ⟨dx, g1, e⟩ := Option.bind_eq_some_iff.mp e
    obtain ⟨dy, g2, e⟩ := Option.bind_eq_some_iff.mp e
    refine ⟨dx, dy, z, av F2 G, e, r2.rd o1' g1, r2.rd o2 g2, z, rfl, ?_⟩
    cases z with
    | false => exact f.val _ H2 F2 (fun z => by cases z) (e1.trans e2) r2 (by simp only [Rep])
    | true =>
      show specO L W C c σ H2 _
      refine seqO r2 f fun w u' ρ3 H3 F3 e3 r3 o3 f => ?_
      obtain ⟨d, e, q⟩ := f.ofO
      obtain ⟨dx', g4, e⟩ := Option.bind_eq_some_iff.mp e
      obtain ⟨dy', g5, e⟩ := Option.bind_eq_some_iff.mp e
      obtain ⟨c', g6, e⟩ := Option.map_eq_some_iff.mp e
      subst e
      exact ⟨dx', dy', c', av F3 G, g6, r3.rd (r2.odR e3 o2) g4, r3.rd o3 g5, q.val _ H3 F3 (fun z => by cases z) ((e1.trans e2).trans e3) r3 (by simp only [Rep])⟩
end
end Tk

set_option Elab.async false
set_option linter.all false
set_option maxRecDepth 100000
set_option maxHeartbeats 2000000
namespace Tk
open PySem PySem.Spec PyProof.Rows L2
section
variable {L : Lk} {t : Tx} {k : Nat} {N : List Str} {sc : Scope} {W : WX} {X : Cx} {C : Cl}

theorem lastMarks2 {o o' : CmpOp} {pb pc : Expr} (h : behindInMarks o' pc = false) : lastMarks [o, o'] [pb, pc] = false := by
  show lastMarks [o'] [pc] = false
  exact h
theorem s_chain (g : Good L k N sc W X) {o o' : Cm} {a b c : E} {pa pb pc : Expr} {pos : Pos} (ha : PE X pa (specO L W C a)) (hb : PE X pb (specO L W C b)) (hc : PE X pc (specO L W C c)) (m : behindInMarks (cmP o') pc = false) :
    PE X (.Compare pa [cmP o, cmP o'] [pb, pc] pos) (specG L W C false (.chain o o' a b c)) :=
  (pe_chain (op_cmp g.hK g.room o) (op_cmp g.hK g.room o') ha hb hc (lastMarks2 m)).imp fun σ H Q q => chain_read g q
theorem t_chain (g : Good L k N sc W X) {o o' : Cm} {a b c : E} {pa pb pc : Expr} {pos : Pos} (ha : PE X pa (specO L W C a)) (hb : PE X pb (specO L W C b)) (hc : PE X pc (specO L W C c)) (m : behindInMarks (cmP o') pc = false) :
    PT X (.Compare pa [cmP o, cmP o'] [pb, pc] pos) (specT L W C (.chain o o' a b c)) :=
  (pt_chain (op_cmp g.hK g.room o) (op_cmp g.hK g.room o') ha hb hc (lastMarks2 m)).imp fun σ H Q q => t_read (fun z => chain_read g z) q

/-! ### and, or, not, if -/
def specAnd (L : Lk) (W : WX) (C : Cl) (es : Es) : TE := fun σ H Q => ∃ fr G ρ F, Rel L fr G σ H ρ F ∧ Fin (denAnd C es ρ) (RQ L fr G σ H F false Q) (EC L W fr G σ H F)
def specAndT (L : Lk) (W : WX) (C : Cl) (es : Es) : TT := fun σ H Q => ∃ fr G ρ F, Rel L fr G σ H ρ F ∧ Fin (isB (denAnd C es ρ)) (fun b ρ' => ∀ H' F', Ext (zz F) H (zz F') H' → Rel L fr G σ H' ρ' F' → Q b H') (EC L W fr G σ H F)
def specOr (L : Lk) (W : WX) (C : Cl) (es : Es) : TE := fun σ H Q => ∃ fr G ρ F, Rel L fr G σ H ρ F ∧ Fin (denOr C es ρ) (RQ L fr G σ H F false Q) (EC L W fr G σ H F)
def specOrT (L : Lk) (W : WX) (C : Cl) (es : Es) : TT := fun σ H Q => ∃ fr G ρ F, Rel L fr G σ H ρ F ∧ Fin (isB (denOr C es ρ)) (fun b ρ' => ∀ H' F', Ext (zz F) H (zz F') H' → Rel L fr G σ H' ρ' F' → Q b H') (EC L W fr G σ H F)
theorem and_one {b : Bool} {e : E} {pe : Expr} {pos : Pos} (h : PE X pe (specG L W C b e)) : PE X (.BoolOp .And [pe] pos) (specAnd L W C (.cons e .nil)) :=
  (pe_one (s_weak h)).imp fun σ H Q ⟨fr, G, ρ, F, r, f⟩ => ⟨fr, G, ρ, F, r, by simpa only [denAnd] using f⟩
theorem or_one {b : Bool} {e : E} {pe : Expr} {pos : Pos} (h : PE X pe (specG L W C b e)) : PE X (.BoolOp .Or [pe] pos) (specOr L W C (.cons e .nil)) :=
  (pe_one (s_weak h)).imp fun σ H Q ⟨fr, G, ρ, F, r, f⟩ => ⟨fr, G, ρ, F, r, by simpa only [denOr] using f⟩
theorem isB_bind {α : Type} {r : R D} {f : Bool → Env → R α} : (isB r).bind f = r.bind fun d ρ => match d with
  | .bl b => f b ρ
  | _ => .stuck := by
  cases r with
  | ok d ρ => cases d <;> rfl
  | err c d ρ => rfl
  | stuck => rfl
theorem bind_bind {α β γ : Type} {r : R α} {f : α → Env → R β} {g : β → Env → R γ} : (r.bind f).bind g = r.bind fun a ρ => (f a ρ).bind g := by
  cases r <;> rfl
theorem seqB {e : E} {α : Type} {f : Bool → Env → R α} {P : α → Env → Prop} {Q : VK} {fr : Fr} {G : Addr → Prop} {σ : L2.St} {H : Hp} {ρ : Env} {F : Fp} (r : Rel L fr G σ H ρ F) (h : Fin ((isB (denE C e ρ)).bind f) P (EC L W fr G σ H F))
    (kk : ∀ b ρ1 H1 F1, Ext (zz F) H (zz F1) H1 → Rel L fr G σ H1 ρ1 F1 → Fin (f b ρ1) P (EC L W fr G σ H1 F1) → Q (.bl b) H1) : specG L W C false e σ H Q := by
  rw [isB_bind] at h
  refine seqE r h fun d v ρ1 H1 F1 e1 r1 rp q => ?_
  cases d <;> first | exact q.elim | skip
  simp only [Rep] at rp
  subst rp
  exact kk _ _ _ _ e1 r1 q
theorem and_cons {b : Bool} {e e' : E} {es : Es} {pe pe' : Expr} {ps : List Expr} {pos : Pos} (h : PE X pe (specG L W C b e)) (h2 : PE X (.BoolOp .And (pe' :: ps) pos) (specAnd L W C (.cons e' es))) :
    PE X (.BoolOp .And (pe :: pe' :: ps) pos) (specAnd L W C (.cons e (.cons e' es))) :=
  (pe_and (s_weak h) h2).imp fun σ H Q ⟨fr, G, ρ, F, r, f⟩ => by
    simp only [denAnd] at f
    refine seqB r f fun b ρ1 H1 F1 e1 r1 q => ⟨b, rfl, ?_⟩
    cases b with
    | false => exact q.val _ H1 F1 (fun z => by cases z) e1 r1 (by simp only [Rep])
    | true => exact ⟨fr, G, ρ1, F1, r1, q.mono (fun _ _ z => z.shift e1) fun _ _ _ z => z⟩
theorem or_cons {b : Bool} {e e' : E} {es : Es} {pe pe' : Expr} {ps : List Expr} {pos : Pos} (h : PE X pe (specG L W C b e)) (h2 : PE X (.BoolOp .Or (pe' :: ps) pos) (specOr L W C (.cons e' es))) :
    PE X (.BoolOp .Or (pe :: pe' :: ps) pos) (specOr L W C (.cons e (.cons e' es))) :=
  (pe_or (s_weak h) h2).imp fun σ H Q ⟨fr, G, ρ, F, r, f⟩ => by
    simp only [denOr] at f
    refine seqB r f fun b ρ1 H1 F1 e1 r1 q => ⟨b, rfl, ?_⟩
    cases b with
    | true => exact q.val _ H1 F1 (fun z => by cases z) e1 r1 (by simp only [Rep])
    | false => exact ⟨fr, G, ρ1, F1, r1, q.mono (fun _ _ z => z.shift e1) fun _ _ _ z => z⟩
theorem andT_one {e : E} {pe : Expr} {pos : Pos} (h : PT X pe (specT L W C e)) : PW X (.BoolOp .And [pe] pos) (specAndT L W C (.cons e .nil)) :=
  (pw_and1 h).imp fun σ H Q ⟨fr, G, ρ, F, r, f⟩ => ⟨fr, G, ρ, F, r, by simpa only [denAnd] using f⟩
theorem orT_one {e : E} {pe : Expr} {pos : Pos} (h : PT X pe (specT L W C e)) : PW X (.BoolOp .Or [pe] pos) (specOrT L W C (.cons e .nil)) :=
  (pw_or1 h).imp fun σ H Q ⟨fr, G, ρ, F, r, f⟩ => ⟨fr, G, ρ, F, r, by simpa only [denOr] using f⟩
theorem andT_cons {e e' : E} {es : Es} {pe pe' : Expr} {ps : List Expr} {pos : Pos} (h : PT X pe (specT L W C e)) (h2 : PW X (.BoolOp .And (pe' :: ps) pos) (specAndT L W C (.cons e' es))) :
    PW X (.BoolOp .And (pe :: pe' :: ps) pos) (specAndT L W C (.cons e (.cons e' es))) :=
  (pw_and h h2).imp fun σ H Q ⟨fr, G, ρ, F, r, f⟩ => by
    simp only [denAnd] at f
    unfold isB at f
    rw [bind_bind] at f
    refine seqT r f fun b ρ1 H1 F1 e1 r1 q => ?_
    cases b with
    | false => exact q H1 F1 e1 r1
    | true => exact ⟨fr, G, ρ1, F1, r1, q.mono (fun _ _ z H' F' e' => z H' F' (e1.trans e')) fun _ _ _ z => z⟩
theorem orT_cons {e e' : E} {es : Es} {pe pe' : Expr} {ps : List Expr} {pos : Pos} (h : PT X pe (specT L W C e)) (h2 : PW X (.BoolOp .Or (pe' :: ps) pos) (specOrT L W C (.cons e' es))) :
    PW X (.BoolOp .Or (pe :: pe' :: ps) pos) (specOrT L W C (.cons e (.cons e' es))) :=
  (pw_or h h2).imp fun σ H Q ⟨fr, G, ρ, F, r, f⟩ => by
    simp only [denOr] at f
    unfold isB at f
    rw [bind_bind] at f
    refine seqT r f fun b ρ1 H1 F1 e1 r1 q => ?_
    cases b with
    | true => exact q H1 F1 e1 r1
    | false => exact ⟨fr, G, ρ1, F1, r1, q.mono (fun _ _ z H' F' e' => z H' F' (e1.trans e')) fun _ _ _ z => z⟩
theorem s_and {es : Es} {ps : List Expr} {pos : Pos} (h : PE X (.BoolOp .And ps pos) (specAnd L W C es)) : PE X (.BoolOp .And ps pos) (specG L W C false (.and es)) :=
  h.imp fun σ H Q ⟨fr, G, ρ, F, r, f⟩ => ⟨fr, G, ρ, F, r, by simpa only [denE] using f⟩
theorem s_or {es : Es} {ps : List Expr} {pos : Pos} (h : PE X (.BoolOp .Or ps pos) (specOr L W C es)) : PE X (.BoolOp .Or ps pos) (specG L W C false (.or es)) :=
  h.imp fun σ H Q ⟨fr, G, ρ, F, r, f⟩ => ⟨fr, G, ρ, F, r, by simpa only [denE] using f⟩
theorem t_and {es : Es} {ps : List Expr} {pos : Pos} (h : PW X (.BoolOp .And ps pos) (specAndT L W C es)) : PT X (.BoolOp .And ps pos) (specT L W C (.and es)) :=
  h.pt.imp fun σ H Q ⟨fr, G, ρ, F, r, f⟩ => ⟨fr, G, ρ, F, r, by simpa only [denE] using f⟩
theorem t_or {es : Es} {ps : List Expr} {pos : Pos} (h : PW X (.BoolOp .Or ps pos) (specOrT L W C es)) : PT X (.BoolOp .Or ps pos) (specT L W C (.or es)) :=
  h.pt.imp fun σ H Q ⟨fr, G, ρ, F, r, f⟩ => ⟨fr, G, ρ, F, r, by simpa only [denE] using f⟩
theorem s_not {b : Bool} {a : E} {pa : Expr} {pos : Pos} (h : PE X pa (specG L W C b a)) : PE X (.UnaryOp .Not pa pos) (specG L W C false (.not a)) :=
  (pe_not (s_weak h)).imp fun σ H Q ⟨fr, G, ρ, F, r, f⟩ => by
    simp only [denE] at f
    exact seqB r f fun b ρ1 H1 F1 e1 r1 q => ⟨b, rfl, q.val _ H1 F1 (fun z => by cases z) e1 r1 (by simp only [Rep])⟩
theorem t_not {a : E} {pa : Expr} {pos : Pos} (h : PT X pa (specT L W C a)) : PT X (.UnaryOp .Not pa pos) (specT L W C (.not a)) :=
  (pt_not h).imp fun σ H Q ⟨fr, G, ρ, F, r, f⟩ => by
    simp only [denE] at f
    unfold isB at f
    rw [bind_bind] at f
    exact seqT r f fun b ρ1 H1 F1 e1 r1 q => q H1 F1 e1 r1
theorem s_ife {ba bb : Bool} {c a b : E} {pc pa pb : Expr} {pos : Pos} (hc : PT X pc (specT L W C c)) (ha : PE X pa (specG L W C ba a)) (hb : PE X pb (specG L W C bb b)) : PE X (.IfExp pc pa pb pos) (specG L W C false (.ife c a b)) :=
  (pe_ifExp hc (s_weak ha) (s_weak hb)).imp fun σ H Q ⟨fr, G, ρ, F, r, f⟩ => by
    simp only [denE] at f
    refine seqT r f fun b ρ1 H1 F1 e1 r1 q => ?_
    cases b with
    | true => exact ⟨fr, G, ρ1, F1, r1, q.mono (fun _ _ z => z.shift e1) fun _ _ _ z => z⟩
    | false => exact ⟨fr, G, ρ1, F1, r1, q.mono (fun _ _ z => z.shift e1) fun _ _ _ z => z⟩
theorem pt_ifExp {c a b : Expr} {pos : Pos} {tc ta tb : TT} (hc : PT X c tc) (ha : PT X a ta) (hb : PT X b tb) : PT X (.IfExp c a b pos) (fun σ H Q => tc σ H fun x H1 => if x = true then ta σ H1 Q else tb σ H1 Q) := by
  refine ⟨fun pins s σ H Q I h => ?_⟩
  show wpAny _ _ (PySem.isTrue (.IfExp c a b pos) X.env _) _ _ _
  unfold PySem.isTrue
  refine wpAny_bind (wpAny_mono (hc.run pins s σ H _ I h) (fun x s1 ⟨H1, I1, q1⟩ => ?_) fun _ _ z => z)
  cases x with
  | true => exact ha.run pins s1 σ H1 Q I1 q1
  | false => exact hb.run pins s1 σ H1 Q I1 q1
theorem t_ife {c a b : E} {pc pa pb : Expr} {pos : Pos} (hc : PT X pc (specT L W C c)) (ha : PT X pa (specT L W C a)) (hb : PT X pb (specT L W C b)) : PT X (.IfExp pc pa pb pos) (specT L W C (.ife c a b)) :=
  (pt_ifExp hc ha hb).imp fun σ H Q ⟨fr, G, ρ, F, r, f⟩ => by
    simp only [denE] at f
    unfold isB at f
    rw [bind_bind] at f
    refine seqT r f fun b ρ1 H1 F1 e1 r1 q => ?_
    cases b with
    | true => exact ⟨fr, G, ρ1, F1, r1, q.mono (fun _ _ z H' F' e' => z H' F' (e1.trans e')) fun _ _ _ z => z⟩
    | false => exact ⟨fr, G, ρ1, F1, r1, q.mono (fun _ _ z H' F' e' => z H' F' (e1.trans e')) fun _ _ _ z => z⟩

/-! ### lists of expressions -/
theorem es_nil : PA X [] (specEs L W C .nil) := pa_nil.imp fun σ H Q ⟨fr, G, ρ, F, r, f⟩ => by
  simp only [denEs] at f
  exact f [] H F (Ext.refl _ _) r .nil
theorem es_cons {b : Bool} {e : E} {es : Es} {pe : Expr} {ps : List Expr} (h : PE X pe (specG L W C b e)) (h2 : PA X ps (specEs L W C es)) (hs : starEach (pe :: ps) X.env = (false, eval pe X.env) :: starEach ps X.env) :
    PA X (pe :: ps) (specEs L W C (.cons e es)) := (pa_cons (s_weak h) h2 hs).imp fun σ H Q ⟨fr, G, ρ, F, r, f⟩ => by
  simp only [denEs] at f
  refine seqE r f fun d v ρ1 H1 F1 e1 r1 rp f => seqEs r1 f fun ds vs ρ2 H2 F2 e2 r2 rs f => ?_
  exact f (v :: vs) H2 F2 (e1.trans e2) r2 (.cons (r1.rep e2 rp) rs)
theorem os_nil : PA X [] (specOs L W C .nil) := pa_nil.imp fun σ H Q ⟨fr, G, ρ, F, r, f⟩ => by
  simp only [denOs] at f
  exact f [] H F (Ext.refl _ _) r rfl
theorem os_cons {e : E} {es : Es} {pe : Expr} {ps : List Expr} (h : PE X pe (specO L W C e)) (h2 : PA X ps (specOs L W C es)) (hs : starEach (pe :: ps) X.env = (false, eval pe X.env) :: starEach ps X.env) :
    PA X (pe :: ps) (specOs L W C (.cons e es)) := (pa_cons h h2 hs).imp fun σ H Q ⟨fr, G, ρ, F, r, f⟩ => by
  simp only [denOs] at f
  refine seqO r f fun d v ρ1 H1 F1 e1 r1 rp f => seqOs r1 f fun ds vs ρ2 H2 F2 e2 r2 rs f => ?_
  exact f (v :: vs) H2 F2 (e1.trans e2) r2 ⟨v, vs, rfl, r1.odR e2 rp, rs⟩
theorem as_nil : PA X [] (specAs L W C .nil) := pa_nil.imp fun σ H Q ⟨fr, G, ρ, F, r, f⟩ => by
  simp only [denAs] at f
  exact f [] H F (Ext.refl _ _) r rfl
theorem as_val {b : Bool} {e : E} {es : As} {pe : Expr} {ps : List Expr} (h : PE X pe (specG L W C b e)) (h2 : PA X ps (specAs L W C es)) (hs : starEach (pe :: ps) X.env = (false, eval pe X.env) :: starEach ps X.env) :
    PA X (pe :: ps) (specAs L W C (.val e es)) := (pa_cons (s_weak h) h2 hs).imp fun σ H Q ⟨fr, G, ρ, F, r, f⟩ => by
  simp only [denAs] at f
  refine seqE r f fun d v ρ1 H1 F1 e1 r1 rp f => seqAs r1 f fun ds vs ρ2 H2 F2 e2 r2 rs f => ?_
  exact f (v :: vs) H2 F2 (e1.trans e2) r2 ⟨v, vs, rfl, r1.rep e2 rp, rs⟩
theorem as_ref (g : Good L k N sc W X) {i : Nat} {x : Str} {pos : Pos} {es : As} {ps : List Expr} (h : nmB N sc i x = true) (h2 : PA X ps (specAs L W C es)) :
    PA X (.Name x pos :: ps) (specAs L W C (.ref i es)) := (pa_cons (o_var (C := C) g h) h2).imp fun σ H Q ⟨fr, G, ρ, F, r, f⟩ => by
  simp only [denAs] at f
  cases e : seeD (getS ρ i) with
  | none => rw [e] at f; exact f.elim
  | some d =>
    rw [e] at f
    refine ⟨fr, G, ρ, F, r, ?_⟩
    simp only [denO, odOf, e]
    intro v H1 F1 e1 r1 o1
    have f1 := f.mono (fun _ _ z => z) fun _ _ _ z => z.shift e1
    exact seqAs r1 f1 fun ds vs ρ2 H2 F2 e2 r2 rs f => f (v :: vs) H2 F2 (e1.trans e2) r2 ⟨v, vs, rfl, o1, rs⟩
theorem s_tup {es : Es} {ps : List Expr} {n : Nat} {pos : Pos} (h : PA X ps (specEs L W C es)) : PE X (.Tuple ps n pos) (specG L W C false (.tup es)) := (tk_tup h).imp fun σ H Q ⟨fr, G, ρ, F, r, f⟩ => by
  simp only [denE] at f
  refine seqEs r f fun ds vs ρ1 H1 F1 e1 r1 rs f => ?_
  split at f
  · rename_i hz
    refine ⟨by rw [rs.len, ← big_line]; exact hz, fun p o hp hd => (RQ.out f e1 r1).tup ds p vs o rfl hp hd rs⟩
  · exact f.elim
theorem s_lst {es : Es} {ps : List Expr} {pos : Pos} (h : PA X ps (specEs L W C es)) : PE X (.List ps pos) (specG L W C true (.lst es)) := (pe_lst h).imp fun σ H Q ⟨fr, G, ρ, F, r, f⟩ => by
  simp only [denE] at f
  refine seqEs r f fun ds vs ρ1 H1 F1 e1 r1 rs f => ?_
  split at f
  · rename_i hz
    refine ⟨by rw [rs.len, ← big_line]; exact hz, fun p hp => (RQ.out f e1 r1).lst ds p vs rfl hp rs⟩
  · exact f.elim

/-! ### subscripts, slices -/
theorem s_idx (g : Good L k N sc W X) {bb : Bool} {a b : E} {pa pb : Expr} {pos : Pos} (ha : PE X pa (specO L W C a)) (hb : PE X pb (specG L W C bb b)) (m : PlainIx pb) : PE X (.Subscript pa pb pos) (specG L W C false (.idx a b)) :=
  (pe_ix (ix_d g.hK false) ha (s_weak hb) m).imp fun σ H Q ⟨fr, G, ρ, F, r, f⟩ => by
    simp only [denE] at f
    refine seqO r f fun x v ρ1 H1 F1 e1 r1 o1 f => seqE r1 f fun y u ρ2 H2 F2 e2 r2 o2 f => ?_
    obtain ⟨d, e, q⟩ := f.ofO
    obtain ⟨dx, g1, e⟩ := Option.bind_eq_some_iff.mp e
    cases y with
    | int i =>
      simp only [Rep] at o2
      exact ⟨dx, i, d, av F2 G, e, r2.rd (r1.odR e2 o1) g1, o2, fun w rp => q.val w H2 F2 (fun z => by cases z) (e1.trans e2) r2 rp⟩
    | _ => cases dx <;> cases e
theorem part_none : PO X none (specPart L W C .none) := po_none.imp fun σ H Q ⟨fr, G, ρ, F, r, f⟩ => by
  simp only [denPart] at f
  exact f H F (Ext.refl _ _) r
theorem part_some {b : Bool} {e : E} {pe : Expr} (h : PE X pe (specG L W C b e)) : PO X (some pe) (specPart L W C (.some e)) := (po_some (s_weak h)).imp fun σ H Q ⟨fr, G, ρ, F, r, f⟩ => by
  simp only [denPart, partD] at f
  refine seqE r f fun d v ρ1 H1 F1 e1 r1 rp f => ?_
  cases d <;> first | exact f.elim | skip
  simp only [Rep] at rp
  exact ⟨_, rp, f H1 F1 e1 r1⟩
theorem s_sl (g : Good L k N sc W X) {a : E} {lo hi : Eo} {pa : Expr} {plo phi : Option Expr} {p2 pos : Pos} (ha : PE X pa (specO L W C a)) (hl : PO X plo (specPart L W C lo)) (hh : PO X phi (specPart L W C hi)) :
    PE X (.Subscript pa (.Slice plo phi none p2) pos) (specG L W C true (.sl a lo hi)) :=
  (pe_slice (sl_d g.hK true) ha hl hh).imp fun σ H Q ⟨fr, G, ρ, F, r, f⟩ => by
    simp only [denE] at f
    refine seqO r f fun x v ρ1 H1 F1 e1 r1 o1 f => seqPart r1 f fun l ρ2 H2 F2 e2 r2 f => seqPart r2 f fun h ρ3 H3 F3 e3 r3 f => ?_
    obtain ⟨d, e, q⟩ := f.ofO
    obtain ⟨dx, g1, e⟩ := Option.bind_eq_some_iff.mp e
    exact ⟨dx, d, av F3 G, e, r3.rd (r2.odR e3 (r1.odR e2 o1)) g1, q.out ((e1.trans e2).trans e3) r3⟩
theorem s_rev (g : Good L k N sc W X) {a : E} {pa : Expr} {n : Nat} {p1 p2 p3 pos : Pos} (ha : PE X pa (specO L W C a)) :
    PE X (.Subscript pa (.Slice none none (some (.UnaryOp .USub (.Constant (.int 1) n p1) p2)) p3) pos) (specG L W C true (.rev a)) :=
  (pe_revD ha).imp fun σ H Q ⟨fr, G, ρ, F, r, f⟩ => by
    simp only [denE] at f
    refine seqO r f fun x v ρ1 H1 F1 e1 r1 o1 f => ?_
    obtain ⟨d, e, q⟩ := f.ofO
    obtain ⟨dx, g1, e⟩ := Option.bind_eq_some_iff.mp e
    have o2 := r1.rd o1 g1
    have q := RQ.out q e1 r1
    rw [g.hK]
    cases dx <;> simp only [revF] at e <;> first | (cases e; done) | skip
    · cases e
      simp only [Rep1, Rep] at o2
      obtain ⟨b, vs, rfl, h1, h2⟩ := o2
      exact ⟨b, vs, rfl, .inr ⟨h1.1, fun p o hp hd => q.tup _ p _ o rfl hp hd h2.reverse⟩⟩
    · cases e
      obtain ⟨b, vs, rfl, h1, h2⟩ := o2
      exact ⟨b, vs, rfl, .inl ⟨.of h1, fun p hp => q.lst _ p _ rfl hp h2.reverse⟩⟩
    · cases e
      simp only [Rep1, Rep] at o2
      obtain ⟨b, rfl, h1⟩ := o2
      refine ⟨b, _, rfl, .inl ⟨h1.sq, fun p hp => q.lst _ p _ rfl hp ?_⟩⟩
      rw [← List.map_reverse]
      exact .ofInts _
end
end Tk

set_option Elab.async false
set_option linter.all false
set_option maxRecDepth 100000
set_option maxHeartbeats 2000000
namespace Tk
open PySem PySem.Spec PyProof.Rows L2
section
variable {L : Lk} {t : Tx} {k : Nat} {N : List Str} {sc : Scope} {W : WX} {X : Cx} {C : Cl}

theorem boot_bi : ∀ f : Bi, f ≠ .gcd → bootBuiltins (biS f) = some (biV f) := by
  intro f h
  cases f <;> first | exact absurd rfl h | (simp only [biS, biV]; decide +kernel)
theorem bi_name : ∀ f : Bi, f ≠ .gcd → biS f ∈ bnames := by
  intro f h
  cases f <;> first | exact absurd rfl h | (simp only [biS, bnames]; decide +kernel)
theorem bi_nn : ∀ f : Bi, biS f ≠ ("__name__" : Str) ∧ (biS f == ("__debug__" : Str)) = false := by
  intro f; cases f <;> (simp only [biS]; decide +kernel)
theorem s_bi (g : Good L k N sc W X) (lk : LkOk L t) {f : Bi} {es : Es} {pe : Expr} {ps : List Expr} {p pos : Pos} (hx : gloB sc (biS f) = true) (hgcd : f = .gcd → t.gcd = true) (ha : PA X (pe :: ps) (specOs L W C es))
    (he : starEach (pe :: ps) X.env = (false, eval pe X.env) :: starEach ps X.env) (hpl : (backTo pos (starEach ps X.env)).any (·.1) = false) :
    PE X (.Call (.Name (biS f) p) (pe :: ps) [] pos) (specG L W C true (.bi f es)) := by
  have rd : ∀ {σ : L2.St} {H : Hp} {Q : VK}, specG L W C true (.bi f es) σ H Q → tCB (rBi L f true) (specOs L W C es) σ H Q := fun {σ H Q} ⟨fr, G, ρ, F, r, q⟩ => by
    simp only [denE] at q
    refine seqOs r q fun os vs ρ1 H1 F1 e1 r1 o1 q => ?_
    obtain ⟨d, e, q⟩ := q.ofO
    obtain ⟨ds, g1, e⟩ := Option.bind_eq_some_iff.mp e
    exact ⟨ds, d, av F1 G, e, r1.rds o1 g1, q.out e1 r1⟩
  have cr := cr_bi g.hK g.calm g.clear (by have := g.room.un; omega) f true
  have gl := g.glo _ (glo_of hx)
  by_cases hf : f = .gcd
  · subst hf
    exact (pe_callBfun (id := "math.gcd") cr gl (by rw [g.hmg]; exact lk.gcd (hgcd rfl)) ha (bi_nn _).2 he hpl).imp fun _ _ _ q => rd q
  · have hm : X.mg (biS f) = none := by rw [g.hmg]; exact lk.bl _ (bi_name f hf)
    have hb := boot_bi f hf
    obtain ⟨n1, n2⟩ := bi_nn f
    cases f with
    | int => exact (pe_callTy (T := "int") cr gl hm hb ha n1 n2 he hpl).imp fun _ _ _ q => rd q
    | list => exact (pe_callTy (T := "list") cr gl hm hb ha n1 n2 he hpl).imp fun _ _ _ q => rd q
    | tuple => exact (pe_callTy (T := "tuple") cr gl hm hb ha n1 n2 he hpl).imp fun _ _ _ q => rd q
    | gcd => exact absurd rfl hf
    | len => exact (pe_callB (id := "len") cr gl hm hb ha n1 n2 he hpl).imp fun _ _ _ q => rd q
    | abs => exact (pe_callB (id := "abs") cr gl hm hb ha n1 n2 he hpl).imp fun _ _ _ q => rd q
    | sum => exact (pe_callB (id := "sum") cr gl hm hb ha n1 n2 he hpl).imp fun _ _ _ q => rd q
    | all => exact (pe_callB (id := "all") cr gl hm hb ha n1 n2 he hpl).imp fun _ _ _ q => rd q
    | any => exact (pe_callB (id := "any") cr gl hm hb ha n1 n2 he hpl).imp fun _ _ _ q => rd q
    | max1 => exact (pe_callB (id := "max") cr gl hm hb ha n1 n2 he hpl).imp fun _ _ _ q => rd q
    | min1 => exact (pe_callB (id := "min") cr gl hm hb ha n1 n2 he hpl).imp fun _ _ _ q => rd q
    | max2 => exact (pe_callB (id := "max") cr gl hm hb ha n1 n2 he hpl).imp fun _ _ _ q => rd q
    | min2 => exact (pe_callB (id := "min") cr gl hm hb ha n1 n2 he hpl).imp fun _ _ _ q => rd q
    | divmod => exact (pe_callB (id := "divmod") cr gl hm hb ha n1 n2 he hpl).imp fun _ _ _ q => rd q
    | sorted => exact (pe_callB (id := "sorted") cr gl hm hb ha n1 n2 he hpl).imp fun _ _ _ q => rd q
    | repr => exact (pe_callB (id := "repr") cr gl hm hb ha n1 n2 he hpl).imp fun _ _ _ q => rd q

/-! ### isinstance -/
theorem isi_name : ("isinstance" : Str) ∈ bnames := by decide +kernel
theorem boot_ty : ∀ ty : Ty, bootBuiltins (tyN ty) = some (.type (tyS ty)) := by
  intro ty; cases ty <;> (simp only [tyN, tyS]; decide +kernel)
theorem ty_name : ∀ ty : Ty, tyN ty ∈ bnames := by
  intro ty; cases ty <;> (simp only [tyN, tyS, bnames]; decide +kernel)
theorem ty_nn : ∀ ty : Ty, tyN ty ≠ ("__name__" : Str) ∧ (tyN ty == ("__debug__" : Str)) = false := by
  intro f; cases f <;> (simp only [tyN, tyS]; decide +kernel)
theorem pe_ty (g : Good L k N sc W X) (lk : LkOk L t) {ty : Ty} {pos : Pos} (h : gloB sc (tyN ty) = true) : PE X (.Name (tyN ty) pos) (tC (.ty (tyS ty))) :=
  pe_bltn (g.glo _ (glo_of h)) (by rw [g.hmg]; exact lk.bl _ (ty_name ty)) (boot_ty ty) rfl (ty_nn ty).1 (ty_nn ty).2
def tTys : List Ty → TA
  | [] => tNil
  | ty :: ts => tCons (tC (.ty (tyS ty))) (tTys ts)
theorem pa_tys (g : Good L k N sc W X) (lk : LkOk L t) : ∀ {ts : List Ty} {ps : List Expr}, mTys sc ts ps = true → PA X ps (tTys ts)
  | [], [], _ => pa_nil
  | ty :: ts, .Name x pos :: ps, h => by
    simp only [mTys, Bool.and_eq_true, decide_eq_true_eq] at h
    obtain ⟨⟨rfl, h1⟩, h2⟩ := h
    exact pa_cons (pe_ty g lk h1) (pa_tys g lk h2)
  | [], _ :: _, h => by simp [mTys] at h
  | _ :: _, [], h => by simp [mTys] at h
  | _ :: _, .BoolOp .. :: _, h => by simp [mTys] at h
  | _ :: _, .NamedExpr .. :: _, h => by simp [mTys] at h
  | _ :: _, .BinOp .. :: _, h => by simp [mTys] at h
  | _ :: _, .UnaryOp .. :: _, h => by simp [mTys] at h
  | _ :: _, .Lambda .. :: _, h => by simp [mTys] at h
  | _ :: _, .IfExp .. :: _, h => by simp [mTys] at h
  | _ :: _, .Dict .. :: _, h => by simp [mTys] at h
  | _ :: _, .Set .. :: _, h => by simp [mTys] at h
  | _ :: _, .ListComp .. :: _, h => by simp [mTys] at h
  | _ :: _, .SetComp .. :: _, h => by simp [mTys] at h
  | _ :: _, .DictComp .. :: _, h => by simp [mTys] at h
  | _ :: _, .GeneratorExp .. :: _, h => by simp [mTys] at h
  | _ :: _, .Await .. :: _, h => by simp [mTys] at h
  | _ :: _, .Yield .. :: _, h => by simp [mTys] at h
  | _ :: _, .YieldFrom .. :: _, h => by simp [mTys] at h
  | _ :: _, .Compare .. :: _, h => by simp [mTys] at h
  | _ :: _, .Call .. :: _, h => by simp [mTys] at h
  | _ :: _, .FormattedValue .. :: _, h => by simp [mTys] at h
  | _ :: _, .JoinedStr .. :: _, h => by simp [mTys] at h
  | _ :: _, .Constant .. :: _, h => by simp [mTys] at h
  | _ :: _, .Attribute .. :: _, h => by simp [mTys] at h
  | _ :: _, .Subscript .. :: _, h => by simp [mTys] at h
  | _ :: _, .Starred .. :: _, h => by simp [mTys] at h
  | _ :: _, .List .. :: _, h => by simp [mTys] at h
  | _ :: _, .Tuple .. :: _, h => by simp [mTys] at h
  | _ :: _, .Slice .. :: _, h => by simp [mTys] at h
theorem tTys_read {H : Hp} {σ : L2.St} : ∀ {ts : List Ty} {Q : List V → Hp → Prop}, Q (ts.map fun ty => V.ty (tyS ty)) H → tTys ts σ H Q
  | [], _, q => q
  | ty :: ts, Q, q => by
    show tTys ts σ H _
    exact tTys_read (ts := ts) q
theorem isi_read {a : E} {ts : List Ty} {σ : L2.St} {H : Hp} {Q : VK} (q : specG L W C false (.isi a ts) σ H Q) : specO L W C a σ H fun x H1 => ∃ d A, Rep1 L A H1 d x ∧ tyOk d = true ∧ (∀ H', (∀ a o, H1 a = some o → H' a = some o) → Rep1 L A H' d x ∧ Q (.bl (ts.any (isTy d))) H') := by
  obtain ⟨fr, G, ρ, F, r, q⟩ := q
  simp only [denE] at q
  refine seqO r q fun x v ρ1 H1 F1 e1 r1 o1 q => ?_
  obtain ⟨d, e, q⟩ := q.ofO
  obtain ⟨dx, g1, e⟩ := Option.bind_eq_some_iff.mp e
  split at e <;> cases e
  rename_i ok
  refine ⟨dx, av F1 G, r1.rd o1 g1, ok, fun H' k => ?_⟩
  have x1 : Ext (zz F1) H1 (zz F1) H' := ⟨fun a o h _ => k a o h, fun _ h => .inl h, fun a h => ne_keeps k h⟩
  have r2 := r1.keeps k
  exact ⟨r2.rd (r1.odR x1 o1) g1, q.val _ H' F1 (fun z => by cases z) (e1.trans x1) r2 (by simp only [Rep])⟩
theorem s_isi1 (g : Good L k N sc W X) (lk : LkOk L t) {a : E} {pa : Expr} {ty : Ty} {p p2 pos : Pos} (h1 : gloB sc ("isinstance" : Str) = true) (h2 : gloB sc (tyN ty) = true) (ha : PE X pa (specO L W C a)) (hs : starEach (pa :: [.Name (tyN ty) p2]) X.env = (false, eval pa X.env) :: starEach [.Name (tyN ty) p2] X.env) :
    PE X (.Call (.Name "isinstance" p) [pa, .Name (tyN ty) p2] [] pos) (specG L W C false (.isi a [ty])) :=
  (pe_callB (cr_is1 g.hK ty) (g.glo _ (glo_of h1)) (by rw [g.hmg]; exact lk.bl _ isi_name) boot_isinstance (pa_cons ha (pa_cons (pe_ty g lk h2) pa_nil) hs) (by decide) (by decide) hs rfl).imp fun σ H Q q => by
    obtain ⟨fr, G, ρ, F, r, q⟩ := q
    have q' := isi_read ⟨fr, G, ρ, F, r, q⟩
    refine (show specO L W C a σ H _ from ?_)
    obtain ⟨fr, G, ρ, F, r, q'⟩ := q'
    refine ⟨fr, G, ρ, F, r, q'.mono (fun o ρ1 z v H1 F1 e1 r1 o1 => ?_) fun _ _ _ z => z⟩
    obtain ⟨d, A, rp, ok, z⟩ := z v H1 F1 e1 r1 o1
    refine ⟨v, d, A, rfl, rp, ok, ?_⟩
    have := (z H1 fun _ _ h => h).2
    simpa using this
theorem s_isiT (g : Good L k N sc W X) (lk : LkOk L t) {a : E} {pa : Expr} {ts : List Ty} {ps : List Expr} {n : Nat} {p p2 pos : Pos} (h1 : gloB sc ("isinstance" : Str) = true) (h2 : mTys sc ts ps = true) (ha : PE X pa (specO L W C a)) (hz : ts.length ≤ 10) (hs : starEach (pa :: [.Tuple ps n p2]) X.env = (false, eval pa X.env) :: starEach [.Tuple ps n p2] X.env) :
    PE X (.Call (.Name "isinstance" p) [pa, .Tuple ps n p2] [] pos) (specG L W C false (.isi a ts)) :=
  (pe_callB (cr_isT g.hK ts) (g.glo _ (glo_of h1)) (by rw [g.hmg]; exact lk.bl _ isi_name) boot_isinstance (pa_cons ha (pa_cons (pe_tup (pa_tys g lk h2)) pa_nil) hs) (by decide) (by decide) hs rfl).imp fun σ H Q q => by
    obtain ⟨fr, G, ρ, F, r, q⟩ := q
    have q' := isi_read ⟨fr, G, ρ, F, r, q⟩
    refine (show specO L W C a σ H _ from ?_)
    obtain ⟨fr, G, ρ, F, r, q'⟩ := q'
    refine ⟨fr, G, ρ, F, r, q'.mono (fun o ρ1 z v H1 F1 e1 r1 o1 => ?_) fun _ _ _ z => z⟩
    obtain ⟨d, A, rp, ok, z⟩ := z v H1 F1 e1 r1 o1
    show tTys ts σ H1 _
    refine tTys_read ⟨by rw [List.length_map, sizeLine_eq]; omega, fun p hp => ?_⟩
    obtain ⟨z1, z2⟩ := z (upd H1 p (.tup (ts.map fun ty => V.ty (tyS ty)))) (keeps_upd hp)
    exact ⟨v, p, d, A, rfl, upd_same, z1, ok, z2⟩

/-! ### list(range(..)) -/
theorem range_name : ("range" : Str) ∈ bnames := by decide +kernel
theorem list_name : ("list" : Str) ∈ bnames := by decide +kernel
theorem tuple_name : ("tuple" : Str) ∈ bnames := by decide +kernel
theorem rgReps {A : Addr → Prop} {H : Hp} (a b : Int) : Reps L A H (rangeD a b) (rgV a b) := by
  unfold rangeD rgV
  generalize List.range (b - a).toNat = l
  induction l with
  | nil => exact .nil
  | cons x l ih => exact .cons (by simp only [Rep]) ih
theorem rgOk_of {a b : Int} (h : (small62 a && small62 b && decide ((b - a).toNat ≤ big)) = true) : RgOk a b := by
  unfold small62 at h
  simp only [Bool.and_eq_true, decide_eq_true_eq] at h
  obtain ⟨⟨⟨h1, h2⟩, h3, h4⟩, h5⟩ := h
  exact ⟨h1, h2, h3, h4, h5⟩
theorem bind_ok {α β : Type} {a : α} {ρ : Env} {f : α → Env → R β} : (R.ok a ρ).bind f = f a ρ := rfl
theorem rg_of {l : Option Int} {h : D} {ds : List D} (e : rgF l h = some ds) : ∃ j, h = .int j ∧ RgOk (l.getD 0) j ∧ ds = rangeD (l.getD 0) j := by
  cases h <;> simp only [rgF] at e <;> first | (cases e; done) | skip
  split at e <;> cases e
  rename_i hz
  exact ⟨_, rfl, rgOk_of hz, rfl⟩
theorem s_lrange1 (g : Good L k N sc W X) (lk : LkOk L t) {bb : Bool} {b : E} {pb : Expr} {p1 p2 p3 pos : Pos} (h1 : gloB sc ("list" : Str) = true) (h2 : gloB sc ("range" : Str) = true) (hb : PE X pb (specG L W C bb b)) (hs : starEach [pb] X.env = (false, eval pb X.env) :: starEach [] X.env) :
    PE X (.Call (.Name "list" p1) [.Call (.Name "range" p2) [pb] [] p3] [] pos) (specG L W C true (.lrange .none b)) :=
  (pe_listRg g.calm (g.glo _ (glo_of h1)) (by rw [g.hmg]; exact lk.bl _ list_name) (prg_1 (g.glo _ (glo_of h2)) (by rw [g.hmg]; exact lk.bl _ range_name) (s_weak hb) hs)).imp fun σ H Q ⟨fr, G, ρ, F, r, f⟩ => by
    simp only [denE, denPart, bind_ok] at f
    refine (show specG L W C false b σ H _ from seqE r f fun d v ρ1 H1 F1 e1 r1 rp f => ?_)
    obtain ⟨d2, e, q⟩ := f.ofO
    obtain ⟨ds, e9, rfl⟩ := Option.map_eq_some_iff.mp e
    obtain ⟨j, rfl, hz, rfl⟩ := rg_of e9
    simp only [Rep] at rp
    subst rp
    exact ⟨_, rfl, hz, fun p hp => (RQ.out q e1 r1).lst _ p _ rfl hp (rgReps _ _)⟩
theorem s_trange (g : Good L k N sc W X) (lk : LkOk L t) {bb : Bool} {b : E} {pb : Expr} {p1 p2 p3 pos : Pos} (h1 : gloB sc ("tuple" : Str) = true) (h2 : gloB sc ("range" : Str) = true) (hb : PE X pb (specG L W C bb b)) (hs : starEach [pb] X.env = (false, eval pb X.env) :: starEach [] X.env) :
    PE X (.Call (.Name "tuple" p1) [.Call (.Name "range" p2) [pb] [] p3] [] pos) (specG L W C false (.trange b)) :=
  (tk_tupRg g.calm (g.glo _ (glo_of h1)) (by rw [g.hmg]; exact lk.bl _ tuple_name) (prg_1 (g.glo _ (glo_of h2)) (by rw [g.hmg]; exact lk.bl _ range_name) (s_weak hb) hs)).imp fun σ H Q ⟨fr, G, ρ, F, r, f⟩ => by
    simp only [denE] at f
    refine (show specG L W C false b σ H _ from seqE r f fun d v ρ1 H1 F1 e1 r1 rp f => ?_)
    obtain ⟨d2, e, q⟩ := f.ofO
    obtain ⟨ds, e9, rfl⟩ := Option.map_eq_some_iff.mp e
    obtain ⟨j, rfl, hz, rfl⟩ := rg_of e9
    simp only [Rep] at rp
    subst rp
    exact ⟨_, rfl, hz, fun p o hp hd => (RQ.out q e1 r1).tup _ p _ o rfl hp hd (rgReps _ _)⟩
theorem s_lrange2 (g : Good L k N sc W X) (lk : LkOk L t) {ba bb : Bool} {a b : E} {pa pb : Expr} {p1 p2 p3 pos : Pos} (h1 : gloB sc ("list" : Str) = true) (h2 : gloB sc ("range" : Str) = true) (ha : PE X pa (specG L W C ba a)) (hb : PE X pb (specG L W C bb b))
    (hs : starEach [pa, pb] X.env = (false, eval pa X.env) :: starEach [pb] X.env) (hs2 : starEach [pb] X.env = (false, eval pb X.env) :: starEach [] X.env) :
    PE X (.Call (.Name "list" p1) [.Call (.Name "range" p2) [pa, pb] [] p3] [] pos) (specG L W C true (.lrange (.some a) b)) :=
  (pe_listRg g.calm (g.glo _ (glo_of h1)) (by rw [g.hmg]; exact lk.bl _ list_name) (prg_2 (g.glo _ (glo_of h2)) (by rw [g.hmg]; exact lk.bl _ range_name) (s_weak ha) (s_weak hb) hs hs2 (by rw [hs2]; rfl))).imp fun σ H Q ⟨fr, G, ρ, F, r, f⟩ => by
    simp only [denE, denPart, partD, bind_bind] at f
    refine (show specG L W C false a σ H _ from seqE r f fun d v ρ1 H1 F1 e1 r1 rp f => ?_)
    cases d <;> first | exact f.elim | skip
    simp only [Rep] at rp
    subst rp
    refine (show specG L W C false b σ H1 _ from seqE r1 f fun d v ρ2 H2 F2 e2 r2 rp f => ?_)
    obtain ⟨d2, e, q⟩ := f.ofO
    obtain ⟨ds, e9, rfl⟩ := Option.map_eq_some_iff.mp e
    obtain ⟨j, rfl, hz, rfl⟩ := rg_of e9
    simp only [Rep] at rp
    subst rp
    exact ⟨_, _, rfl, rfl, hz, fun p hp => (RQ.out q (e1.trans e2) r2).lst _ p _ rfl hp (rgReps _ _)⟩

/-! ### s.join(e) -/
theorem s_join (g : Good L k N sc W X) {s : Str} {b : E} {bb : Bool} {pb : Expr} {n : Nat} {p1 ap cp : Pos} (hs : strGood s = true) (hl : (ap.endLine == cp.line) = true) (hb : PE X pb (specG L W C bb b)) (hp : starEach [pb] X.env = [(false, eval pb X.env)]) :
    PE X (.Call (.Attribute (.Constant (.str s) n p1) "join" ap) [pb] [] cp) (specG L W C false (.join s b)) :=
  (pe_join pe_str (s_weak hb) hp rfl hl).imp fun σ H Q ⟨fr, G, ρ, F, r, f⟩ => by
    simp only [denE] at f
    refine ⟨⟨s, rfl⟩, (show specG L W C false b σ H _ from seqE r f fun d v ρ1 H1 F1 e1 r1 rp f => ?_)⟩
    obtain ⟨d2, e, q⟩ := f.ofO
    have fin : ∀ {a : Addr} {xs : List D} {vs : List V} {A : Addr → Prop}, v = .ref a → (SqL X.K H1 a vs ∨ SqT X.K H1 a vs) → Reps L A H1 xs vs → joinS s xs = some d2 →
        ∃ a1 p1, ∃ ys : List Str, V.str s = V.str a1 ∧ [v] = [V.ref p1] ∧ (SqL X.K H1 p1 (ys.map V.str) ∨ SqT X.K H1 p1 (ys.map V.str)) ∧ (ys.map (·.length)).sum + ys.length * a1.length ≤ 16777216 ∧ Q (.str (Txt.join a1 ys)) H1 := fun {a xs vs A} ev sq rr ej => by
      obtain ⟨ys, rfl, z1, rfl, z2⟩ := join_ok hs ej rr
      refine ⟨s, a, ys, rfl, by rw [ev], sq, z1, q.val _ H1 F1 (fun z => by cases z) e1 r1 ?_⟩
      simp only [Rep]
      exact ⟨trivial, z2⟩
    cases d <;> simp only [joinF] at e <;> first | (cases e; done) | skip
    · simp only [Rep] at rp
      obtain ⟨a, vs, rfl, h1, h2⟩ := rp
      exact fin rfl (.inr (by rw [g.hK]; exact h1.1)) h2 e
    · simp only [Rep] at rp
      obtain ⟨a, vs, rfl, _, h1, h2⟩ := rp
      exact fin rfl (.inl (.of h1)) h2 e

/-! ### x.count(e) -/
theorem tyD_is {pins : List (Addr × Obj)} {σ : L2.St} {H : Hp} {s : Shared} (I : Inv X pins σ H s) {p : Addr} {xs : List V} (h : SqD X.K H p xs) : s.TypeIs (.ref p) "tuple" ∧ ∀ a, Value.ref p = .ref a → ∃ ob, s.heap.get? a = some ob ∧ ob.dict = none := by
  obtain ⟨its, _, pl, _⟩ := I.tuple h.1
  refine ⟨pl.typeIs, fun a e => ?_⟩
  cases e
  rcases h.2 with ⟨o, u, h, d⟩ | ⟨o, h, d⟩
  · exact ⟨o, (I.hok p _ h).1, d⟩
  · exact ⟨o, I.kIn p o h, d⟩
def tCnt (L : Lk) (b : Bool) (to : TE) (t : TA) : TE := fun σ H Q => to σ H fun x H1 => (∃ p xs, x = .ref p ∧ if b then SqD L.K H1 p xs else H1 p = some (.lst xs)) ∧ t σ H1 fun xs H2 => rCnt L b x xs H2 Q
theorem pe_cnt (hK : X.K = L.K) (hu : X.A.units + 80 < cLine) {b : Bool} {o e : Expr} {to : TE} {ta : TA} {apos cpos : Pos} (ho : PE X o to) (ha : PA X [e] ta) (hbase : attributeBase o ("count" : Str) X.env (eval o X.env) = eval o X.env) (hline : (apos.endLine == cpos.line) = true)
    (hs : starEach [e] X.env = [(false, eval e X.env)]) : PE X (.Call (.Attribute o ("count" : Str) apos) [e] [] cpos) (tCnt L b to ta) := by
  refine ⟨fun pins s σ H Q I h => ?_⟩
  have few : ((backTo cpos (starEach [e] X.env)).all (fun x => !x.1) && (backToKw cpos (keywordEach [] X.env)).all (fun x => x.1.isSome)
      && decide ([e].length + ([] : List Keyword).length + (if ([] : List Keyword).isEmpty then 0 else 1) < 30)) = true := by rw [hs]; rfl
  refine wpAny_Call_method_late hbase few hline rfl (thn (ho.run pins s σ H _ I h) fun v s1 ⟨x, H1, I1, r1, ty, q1⟩ => ?_)
  obtain ⟨p, xs, rfl, ty⟩ := ty
  cases r1
  have hA := ha.run cpos pins s1 σ H1 _ I1 q1
  rw [hs] at hA ⊢
  have fin : ∀ {id : String}, MtR X id (rCnt L b) → wpAny (model X.prog X.w) X.A (callWith cpos (.builtin id) [.ref p] (backTo cpos [(false, eval e X.env)]) []) (EP X pins σ Q) X.xe s1 := fun {id} m =>
    Calls.callWith_builtin rfl (Calls.evalArgs_plain (thn hA fun us s2 ⟨vs, H2, I2, r2, q2⟩ => m pins s2 σ H2 (.ref p) vs (.ref p) us Q I2 rfl r2 q2))
  have m := mt_cnt (X := X) hK hu b
  cases b with
  | true =>
    simp only [if_true] at ty
    rw [← hK] at ty
    obtain ⟨h1, h2⟩ := tyD_is I1 ty
    exact ⟨"tuple", "tuple.count", PySem.F.plainAttrs_tuple, PySem.F.slot_tuple_count, PySem.F.type_tuple_count, h1, h2, fin m⟩
  | false =>
    simp only [Bool.false_eq_true, if_false] at ty
    obtain ⟨its, _, pl, _⟩ := I1.list (.of ty)
    refine ⟨"list", "list.count", PySem.F.plainAttrs_list, PySem.F.slot_list_count, PySem.F.type_list_count, pl.isList.typeIs, fun a z => ?_, fin m⟩
    cases z
    obtain ⟨o, n, e, c, hd, _⟩ := pl
    exact ⟨o, e, hd⟩
theorem base_of {o : Expr} {y : Str} {env : PySem.Env} {wh : Sem Value} (h : noCall o = true) : attributeBase o y env wh = wh := by
  cases o <;> first | (cases h; done) | rfl
theorem s_cnt (g : Good L k N sc W X) {b bb ba : Bool} {a e : E} {pa pe : Expr} {ap cp : Pos} (hn : noCall pa = true) (hl : (ap.endLine == cp.line) = true) (ha : PE X pa (specG L W C ba a)) (he : PE X pe (specG L W C bb e)) (hs : starEach [pe] X.env = [(false, eval pe X.env)]) :
    PE X (.Call (.Attribute pa ("count" : Str) ap) [pe] [] cp) (specG L W C false (.cnt b a e)) :=
  (pe_cnt (L := L) (b := b) g.hK (by have := g.room.un; omega) (s_weak ha) (pa_cons (s_weak he) pa_nil hs) (base_of hn) hl hs).imp fun σ H Q ⟨fr, G, ρ, F, r, f⟩ => by
    simp only [denE] at f
    refine (show specG L W C false a σ H _ from seqE r f fun d v ρ1 H1 F1 e1 r1 rp f => ?_)
    split at f
    · rename_i hq
      refine ⟨?_, (show specG L W C false e σ H1 _ from seqE r1 f fun dy u ρ2 H2 F2 e2 r2 rq f => ?_)⟩
      · cases d <;> simp only [isSq] at hq <;> first | (cases hq; done) | skip
        · simp only [Rep] at rp
          obtain ⟨p, vs, rfl, h1, h2⟩ := rp
          subst hq
          exact ⟨p, vs, rfl, h1⟩
        · simp only [Rep] at rp
          obtain ⟨p, vs, rfl, n, h1, h2⟩ := rp
          have hq : b = false := by simpa using hq
          subst hq
          exact ⟨p, vs, rfl, h1⟩
      · obtain ⟨z, ez, q⟩ := f.ofO
        exact ⟨d, dy, z, u, av F2 G, ez, rfl, (r1.rep e2 rp).one, rq, fun w rw_ => q.val w H2 F2 (fun z => by cases z) (e1.trans e2) r2 rw_⟩
    · exact f.elim
/-! ### (*a, b) -/
theorem s_tupS (g : Good L k N sc W X) {ba bb : Bool} {a b : E} {pa pb : Expr} {sp pos : Pos} {n : Nat} (ha : PE X pa (specG L W C ba a)) (hb : PE X pb (specG L W C bb b)) (hs : starEach [pb] X.env = [(false, eval pb X.env)]) (hs2 : starEach [.Starred pa sp, pb] X.env = (true, eval pa X.env) :: starEach [pb] X.env) :
    PE X (.Tuple [.Starred pa sp, pb] n pos) (specG L W C false (.tupS a b)) :=
  (tk_tup (StX.pa_star (s_weak ha) (pa_cons (s_weak hb) pa_nil hs) hs2)).imp fun σ H Q ⟨fr, G, ρ, F, r, f⟩ => by
    simp only [denE] at f
    refine (show specG L W C false a σ H _ from seqE r f fun d v ρ1 H1 F1 e1 r1 rp f => ?_)
    split at f <;> first | exact f.elim | skip
    rename_i hq
    obtain ⟨ds, rfl⟩ : ∃ ds, d = .tup ds := by cases d <;> first | exact ⟨_, rfl⟩ | (simp [isSq] at hq; done)
    have rp' := rp
    simp only [Rep] at rp'
    obtain ⟨p, vs, rfl, h1, h2⟩ := rp'
    refine ⟨p, vs, rfl, .inl (by rw [g.hK]; exact h1.1), ?_⟩
    refine (show specG L W C false b σ H1 _ from seqE r1 f fun y u ρ2 H2 F2 e2 r2 rq f => ?_)
    obtain ⟨z, ez, q⟩ := f.ofO
    simp only [starF] at ez
    split at ez <;> cases ez
    rename_i hz
    have h2' := r1.reps e2 h2
    refine ⟨by rw [List.length_append, h2'.len, ← big_line]; exact hz, fun p o hp hd => (RQ.out q (e1.trans e2) r2).tup _ p _ o rfl hp hd (h2'.append (.cons rq .nil))⟩
/-! ### changing methods -/
theorem mt_read {m : Mt} {i : Nat} {es : Es} {σ : L2.St} {H : Hp} {Q : VK} (q : specG L W C false (.mt m i es) σ H Q) : specO L W C (.var i) σ H fun x H1 => tyV L.K "list" x H1 ∧ specEs L W C es σ H1 fun xs H2 => rMt L m x xs H2 Q := by
  obtain ⟨fr, G, ρ, F, r, f⟩ := q
  simp only [denE] at f
  cases e0 : ownD (getS ρ i) with
  | none => rw [e0] at f; exact f.elim
  | some d0 =>
    rw [e0] at f
    have es0 : seeD (getS ρ i) = some d0 := by
      cases e : getS ρ i <;> rw [e] at e0 <;> first | (cases e0; done) | exact e0
    refine ⟨fr, G, ρ, F, r, ?_⟩
    simp only [denO, odOf, es0]
    intro x H1 F1 e1 r1 o1
    have o1 : σ[i]? = some (some x) := o1
    obtain ⟨a, vs, ds, rfl, g2, g3, g4, _⟩ := r1.mutate e0
    rw [o1] at g2; cases g2
    refine ⟨.inl ⟨rfl, _, .inl (.inl g3)⟩, ?_⟩
    have f1 := f.mono (fun _ _ z => z) fun _ _ _ z => z.shift e1
    refine seqEs r1 f1 fun es' vs' ρ2 H2 F2 e2 r2 rs f => ?_
    cases e3 : ownD (getS ρ2 i) with
    | none => rw [e3] at f; exact f.elim
    | some d3 =>
      rw [e3] at f
      obtain ⟨a', us, ds', rfl, g2, g5, g6, g7⟩ := r2.mutate e3
      rw [o1] at g2; cases g2
      simp only at f
      cases e4 : mtF m ds' es' with
      | none => rw [e4] at f; exact f.elim
      | some z =>
        obtain ⟨d, ys⟩ := z
        rw [e4] at f
        refine ⟨a, ds', us, es', d, ys, av F2 G, rfl, g5, g6, e4, rs, fun v ws rp rq => ?_⟩
        obtain ⟨r3, e5⟩ := g7 ys ws rq
        exact f.val v _ F2 (fun z => by cases z) ((e1.trans e2).trans e5) r3 (r2.rep e5 rp)
theorem slot_list_append' : True := trivial
theorem s_mt0 (g : Good L k N sc W X) {i : Nat} {x : Str} {p ap cp : Pos} {es : Es} (h : nmB N sc i x = true) (hl : (ap.endLine == cp.line) = true) (he : es = .nil) : PE X (.Call (.Attribute (.Name x p) (mtN .pop) ap) [] [] cp) (specG L W C false (.mt .pop i es)) :=
  (pe_bm0 PySem.F.plainAttrs_list PySem.F.slot_list_pop PySem.F.type_list_pop (mt_d (L := L) .pop) (o_var (C := C) g h) rfl hl).imp fun σ H Q q => by
    subst he
    obtain ⟨fr, G, ρ, F, r, f⟩ := mt_read q
    refine (show specO L W C (.var i) σ H _ from ⟨fr, G, ρ, F, r, f.mono (fun o ρ1 z v H1 F1 e1 r1 o1 => ?_) fun _ _ _ z => z⟩)
    obtain ⟨z1, fr', G', ρ', F', r', z2⟩ := z v H1 F1 e1 r1 o1
    refine ⟨by rw [g.hK]; exact z1, ?_⟩
    simp only [denEs] at z2
    exact z2 [] H1 F' (Ext.refl _ _) r' .nil
theorem s_mt (g : Good L k N sc W X) {m : Mt} (hm : m ≠ .pop) {i : Nat} {x : Str} {p ap cp : Pos} {es : Es} {e : Expr} {ps : List Expr} (h : nmB N sc i x = true) (hl : (ap.endLine == cp.line) = true) (ha : PA X (e :: ps) (specEs L W C es)) (hz : (e :: ps).length < 10)
    (hs : starEach (e :: ps) X.env = (false, eval e X.env) :: starEach ps X.env) (hn : (backTo cp (starEach ps X.env)).any (·.1) = false) (hf : (backTo cp (starEach (e :: ps) X.env)).all (fun x => !x.1) = true) :
    PE X (.Call (.Attribute (.Name x p) (mtN m) ap) (e :: ps) [] cp) (specG L W C false (.mt m i es)) := by
  have few : ((backTo cp (starEach (e :: ps) X.env)).all (fun x => !x.1) && (backToKw cp (keywordEach [] X.env)).all (fun x => x.1.isSome)
      && decide ((e :: ps).length + ([] : List Keyword).length + (if ([] : List Keyword).isEmpty then 0 else 1) < 30)) = true := by
    rw [hf]
    have : (backToKw cp (keywordEach [] X.env)).all (fun x => x.1.isSome) = true := rfl
    rw [this]
    simp only [Bool.true_and, decide_eq_true_eq, List.length_nil, List.isEmpty_nil, if_true]
    omega
  have rd : ∀ {m : Mt} {σ : L2.St} {H : Hp} {Q : VK}, specG L W C false (.mt m i es) σ H Q → tBM X.K "list" (rMt L m) (specO L W C (.var i)) (specEs L W C es) σ H Q := fun {m σ H Q} q => by
    obtain ⟨fr, G, ρ, F, r, f⟩ := mt_read q
    refine (show specO L W C (.var i) σ H _ from ⟨fr, G, ρ, F, r, f.mono (fun o ρ1 z v H1 F1 e1 r1 o1 => ?_) fun _ _ _ z => z⟩)
    obtain ⟨z1, z2⟩ := z v H1 F1 e1 r1 o1
    exact ⟨by rw [g.hK]; exact z1, z2⟩
  cases m with
  | pop => exact absurd rfl hm
  | insert => exact (pe_bm PySem.F.plainAttrs_list PySem.F.slot_list_insert PySem.F.type_list_insert (mt_d (L := L) .insert) (o_var (C := C) g h) ha rfl few hl hs hn).imp fun σ H Q q => rd q
  | extend => exact (pe_bm PySem.F.plainAttrs_list PySem.F.slot_list_extend PySem.F.type_list_extend (mt_d (L := L) .extend) (o_var (C := C) g h) ha rfl few hl hs hn).imp fun σ H Q q => rd q
  | append => exact (pe_bm PySem.F.plainAttrs_list PySem.F.slot_list_append PySem.F.type_list_append (mt_d (L := L) .append) (o_var (C := C) g h) ha rfl few hl hs hn).imp fun σ H Q q => rd q
  | popAt => exact (pe_bm PySem.F.plainAttrs_list PySem.F.slot_list_pop PySem.F.type_list_pop (mt_d (L := L) .popAt) (o_var (C := C) g h) ha rfl few hl hs hn).imp fun σ H Q q => rd q
end
end Tk

set_option Elab.async false
set_option linter.all false
set_option maxRecDepth 100000
set_option maxHeartbeats 2000000
namespace L2
open PySem PySem.Spec PyProof.Rows
/-! ### enumerate(tuple) -/
def IteT (K : PySem.W.Frag) (a : Addr) : It :=
  ⟨fun i H => ∃ (xs : List V) (x : V), SqT K H a xs ∧ xs[i]? = some x, fun i H v H' => ∃ T x, v = .ref T ∧ H T = none ∧ H' = upd H T (.tup [.int (i : Nat), x]) ∧ ∀ xs, SqT K H a xs → xs[i]? = some x, fun i H => ∃ xs : List V, SqT K H a xs ∧ xs.length = i⟩
theorem turn_enumT {P : Program} {w : World} {K : PySem.W.Frag} {elts : List Expr} {kk : Nat} {tpos : Pos} (a e it : Addr) :
    Turn P w K (.Tuple elts kk tpos) (IteT K a) [e, it] e (fun i h => (∃ old, IsEnum h e it ((i : Nat) : Int) old) ∧ h.IsTupleIter it a i ∧ e ≠ it ∧ a ≠ it ∧ e ≠ a) where
  mem := by simp
  obj := fun i h st b hb => by
    obtain ⟨⟨old, he⟩, ⟨o, ho, hc, hd⟩, _⟩ := st
    have e' : b = e ∨ b = it := by simpa using hb
    rcases e' with z | z
    · rw [z]; exact ⟨_, he, fun v q => nomatch q⟩
    · rw [z]; exact ⟨o, ho, fun v q => by rw [hd] at q; cases q⟩
  keep := fun i h h' st k => let ⟨⟨old, he⟩, hi, hne⟩ := st; ⟨⟨old, k e (by simp) _ he⟩, hi.at fun o q => k it (by simp) o q, hne⟩
  item := by
    intro X hP hw hK hc i pins s σ H E I hf st hg
    subst hP hw hK
    obtain ⟨⟨old, he⟩, hit, hne, hai, hea⟩ := st
    obtain ⟨xs, x, hq, hx⟩ := hg
    obtain ⟨its, rv, p, hz⟩ := I.tuple hq
    obtain ⟨u, hu, ru⟩ := rv.get hx
    have hel : e < s.heap.objs.size := Heap.lt_size he
    have hil : it < s.heap.objs.size := by obtain ⟨_, q, _⟩ := hit; exact Heap.lt_size q
    have hlt : i < its.toArray.size := by
      obtain ⟨h1, _⟩ := List.getElem?_eq_some_iff.mp hu
      simpa using h1
    refine wpAny_pyNext_enum_itemD (Draws.tuple (A := X.A.in1) (show X.A.in1.handled = none from I.ok.hd hc) it a hai its.toArray) he ⟨hit, p⟩ hlt hne (by simp [hne, hea]) fun y h' tk hy ho hst' hT hsz hk => ?_
    have hy' : y = u := by
      have : its.toArray[i]? = some u := by simpa using hu
      rw [this] at hy; cases hy; rfl
    subst hy'
    refine ⟨_, rfl, wpAny_letOwnedTupleGo_enum (s := { s with heap := h', toks := tk + 1 }) ho fun h'' he' sb => ?_⟩
    have hT2 : h''.get? s.heap.objs.size = some { cls := .type "tuple", data := .seq #[.int i tk, y] } := (sb.2 _ (Nat.ne_of_gt hel)).trans hT
    have new : ObjOk X.prog X.w (upd H s.heap.objs.size (.tup [.int (i : Nat), x])) h'' s.heap.objs.size (.tup [.int (i : Nat), x]) :=
      ⟨by show 2 ≤ sizeLine; decide, [.int i tk, y], .cons ⟨_, rfl⟩ (.cons ru .nil), ⟨_, hT2, rfl, _, rfl⟩⟩
    have I1 : Inv X pins σ (upd H s.heap.objs.size (.tup [.int (i : Nat), x])) { s with heap := h'', toks := tk + 1 } :=
      I.turnedNew (ch := [e, it]) (fun b ob hb q => (sb.2 b (fun z => hb (by simp [z]))).trans (hk b ob (fun z => hb (by simp [z])) (fun z => hb (by simp [z])) q)) hf (Nat.le_refl _) new
    refine ⟨.ref s.heap.objs.size, _, I1, rfl, ⟨_, x, rfl, I.hok.fresh (Nat.le_refl _), rfl, fun ys hy => by rw [I.tuple_inj hy hq]; exact hx⟩, ⟨⟨y, ?_⟩, hst'.1.at fun o q => (sb.2 it (Ne.symm hne)).trans q, hne, hai, hea⟩, fun b hb => ?_⟩
    · have e1 : ((i + 1 : Nat) : Int) = (i : Int) + 1 := by omega
      rw [e1]; exact he'
    · have hb' : b < s.heap.objs.size := by
        have e' : b = e ∨ b = it := by simpa using hb
        rcases e' with z | z
        · rw [z]; exact hel
        · rw [z]; exact hil
      rw [upd_ne (Nat.ne_of_lt hb')]
      exact (hf b hb).1
  done := by
    intro X hP hw hK hc i pins s σ H E I hf st hg
    subst hP hw hK
    obtain ⟨⟨old, he⟩, hit, hne, hai, hea⟩ := st
    obtain ⟨xs, hq, hx⟩ := hg
    obtain ⟨its, rv, p, hz⟩ := I.tuple hq
    obtain ⟨f0, f1, f2, f3, f4, f5⟩ := hf it (by simp)
    have hl := rv.length
    have hn : i = its.toArray.size := by simp; omega
    refine wpAny_pyNext_enum_endD (Draws.tuple (A := X.A.in1) (show X.A.in1.handled = none from I.ok.hd hc) it a hai its.toArray) he (by rw [← hn]; exact ⟨hit, p⟩) fun h' eb => ⟨rfl, I.turned (t' := s.toks) (fun b o hb q => eb b o hb q) f0 f1 f3 f4 f5⟩
  self := fun A i s Q E st h => let ⟨⟨_, he⟩, _⟩ := st; wpAny_pyIter_enum he h
end L2
namespace PySem
set_option maxHeartbeats 1000000 in
theorem meets_enum1 {v : Value} {o : Obj} {H : Heap → Prop} (B : Begins v o H) :
    Meets (Builtin.«enumerate.__new__» ⟨[.type "enumerate", v], []⟩) (fun _ R s => H s.heap ∧
      R (.ok (.ret (.ref (s.heap.push o).objs.size))) { s with heap := (s.heap.push o).push { cls := .type "enumerate", data := .fields #[.none, .bool false, .ref s.heap.objs.size, rawInt 0, .none, .none] } }) :=
  .of_wp fun prog w A R s h => by
    obtain ⟨hp, g, d, tk, os⟩ := s; obtain ⟨h1, h⟩ := h
    have hsub := sub_enumerate
    have q1 : ∀ {A' : Around} {E : Value → Shared → Prop} {Q : Value → Shared → Prop}, Q (.ref hp.objs.size) ⟨hp.push o, g, d, tk, os⟩ → wpAny (model prog w) A' (pyIter v) Q E ⟨hp, g, d, tk, os⟩ :=
      fun q => B.iter prog w _ _ ⟨hp, g, d, tk, os⟩ _ h1 q
    wp_walk using q1
    refine wpAny_stack_any fun st => wpAny_pure ?_
    split
    · rename_i c _ _ _ _ _
      cases (c == Value.type "enumerate")
      · wp_walk using q1
        exact ⟨_, rfl, h⟩
      · wp_walk using q1
        exact ⟨_, rfl, h⟩
    · wp_walk using q1
      exact ⟨_, rfl, h⟩
section
variable {prog : Program} {w : World} {A : Around} {E : Value → Shared → Prop} {s : Shared}
theorem enum_begins1 {v : Value} {o : Obj} {H : Heap → Prop} {Q : Value → Shared → Prop} (B : Begins v o H) (h1 : H s.heap)
    (h : ∀ h', IsEnum h' (s.heap.objs.size + 1) s.heap.objs.size 0 .none → h'.get? s.heap.objs.size = some o → h'.objs.size = s.heap.objs.size + 2 →
      (∀ b o, s.heap.get? b = some o → h'.get? b = some o) → Q (.ref (s.heap.objs.size + 1)) { s with heap := h' }) :
    wpAny (model prog w) A (call (.type "enumerate") [v]) Q E s := by
  refine callType_new F.called_enumerate (by decide) (F.typeCall_enumerate_1 _) (F.newCall_enumerate_1 _) (fun obj => F.args_object_init_2 obj _) F.entry_enumerate_new
    (meets_enum1 B) ⟨h1, ?_⟩
  have hz : (s.heap.push o).objs.size = s.heap.objs.size + 1 := Heap.size_push ..
  show _ ∧ _
  rw [hz]
  have he : IsEnum ((s.heap.push o).push { cls := .type "enumerate", data := .fields #[.none, .bool false, .ref s.heap.objs.size, rawInt 0, .none, .none] }) (s.heap.objs.size + 1) s.heap.objs.size 0 .none := by
    have := Heap.get?_push_size (s.heap.push o) (o := { cls := .type "enumerate", data := .fields #[.none, .bool false, .ref s.heap.objs.size, rawInt 0, .none, .none] }) rfl
    rw [hz] at this; exact this
  refine ⟨⟨_, he, rfl⟩, h _ he (Heap.get?_push_of_some _ (Heap.get?_push_size _ B.free)) (by rw [Heap.size_push, hz]) fun b o x => Heap.get?_push_of_some _ (Heap.get?_push_of_some _ x)⟩
end
end PySem
namespace L2
open PySem PySem.Spec PyProof.Rows
def iEnumA (K : PySem.W.Frag) (ta : TA) : TI := fun σ H R => ta σ H fun vs H1 => ∃ a, vs = [.ref a] ∧ (((∃ xs, SqL K H1 a xs) ∧ R (Ite K a) H1) ∨ ((∃ xs, SqT K H1 a xs) ∧ R (IteT K a) H1))
theorem pi_enumA {X : Cx} {e : Expr} {ta : TA} {p pos tpos : Pos} {elts : List Expr} {kk : Nat} (hg : Gl X "enumerate") (hm : X.mg "enumerate" = none) (ha : PA X [e] ta) (hs : starEach [e] X.env = [(false, eval e X.env)] := by rfl) :
    PI X (.Tuple elts kk tpos) (.Call (.Name "enumerate" p) [e] [] pos) (iEnumA X.K ta) := by
  refine ⟨fun pins s σ H R I h => ?_⟩
  refine Call_ (ld_blt I hg hm boot_enumerate (PyProof.Rows.callWith_type1 (thn (ha.run pos pins s σ H _ I h) fun us s1 ⟨vs, H1, I1, r1, q1⟩ => ?_) hs rfl))
  obtain ⟨a, ex, q1⟩ := q1
  subst ex
  have hb' : ∀ b, b ∈ [s1.heap.objs.size + 1, s1.heap.objs.size] → s1.heap.objs.size ≤ b := fun b hb => by
    have e' : b = s1.heap.objs.size + 1 ∨ b = s1.heap.objs.size := by simpa using hb
    rcases e' with z | z
    · rw [z]; exact Nat.le_add_right _ _
    · rw [z]; exact Nat.le_refl _
  cases r1 with
  | cons r rr =>
    cases rr
    cases r
    rcases q1 with ⟨⟨xs, hq⟩, q⟩ | ⟨⟨xs, hq⟩, q⟩
    · obtain ⟨its, rv, p', hz⟩ := I1.list hq
      refine call_enumerate_list p'.isList fun h' he hit hsz hk => wpAny_pyIter_enum he ?_
      have I2 : Inv X pins σ H1 { s1 with heap := h' } := I1.kept (t' := s1.toks) hk
      exact ⟨s1.heap.objs.size + 1, [s1.heap.objs.size + 1, s1.heap.objs.size], _, _, H1, rfl, I2, turn_enum a (s1.heap.objs.size + 1) s1.heap.objs.size, ⟨⟨.none, he⟩, hit, Nat.succ_ne_self _⟩, fun b hb => I1.fpOk (hb' b hb) (I1.hok.fresh (hb' b hb)), q⟩
    · obtain ⟨its, rv, p', hz⟩ := I1.tuple hq
      have p2 : s1.heap.IsTuple a its.toArray := p'
      have al : a < s1.heap.objs.size := by obtain ⟨o, ho, _⟩ := p2; exact Heap.lt_size ho
      refine enum_begins1 (begins_tuple a its.toArray) p2 fun h' he ho hsz hk => wpAny_pyIter_enum he ?_
      have I2 : Inv X pins σ H1 { s1 with heap := h' } := I1.kept (t' := s1.toks) hk
      exact ⟨s1.heap.objs.size + 1, [s1.heap.objs.size + 1, s1.heap.objs.size], _, _, H1, rfl, I2, turn_enumT a (s1.heap.objs.size + 1) s1.heap.objs.size, ⟨⟨.none, he⟩, ⟨_, ho, rfl, rfl⟩, Nat.succ_ne_self _, Nat.ne_of_lt al, Nat.ne_of_gt (Nat.lt_succ_of_lt al)⟩, fun b hb => I1.fpOk (hb' b hb) (I1.hok.fresh (hb' b hb)), q⟩
end L2

set_option Elab.async false
set_option linter.all false
set_option maxRecDepth 100000
set_option maxHeartbeats 2000000
namespace Tk
open PySem PySem.Spec PyProof.Rows L2

theorem Fin.noErr {α : Type} {r : R α} {P : α → Env → Prop} {N N' : Nat → D → Env → Prop} (h : Fin (noErr r) P N) : Fin r P N' := by
  cases r with
  | ok a ρ => exact h
  | err _ _ _ => exact h.elim
  | stuck => exact h.elim
theorem getS_wipe {i : Nat} : ∀ {own : List Nat} {ρ : Env}, getS (wipeS ρ own) i = if i ∈ own then .none else getS ρ i
  | [], ρ => by simp [wipeS]
  | j :: own, ρ => by
    have ih := getS_wipe (i := i) (own := own) (ρ := ρ)
    simp only [wipeS, getS_set, ih, List.mem_cons]
    by_cases h : j = i
    · subst h
      by_cases hl : j < (wipeS ρ own).length
      · simp [hl]
      · have hn := getS_out (Nat.le_of_not_lt hl)
        rw [ih] at hn
        simp [hl, hn]
    · have h' : ¬ i = j := fun e => h e.symm
      simp [h, h']
theorem wipeS_length : ∀ {own : List Nat} {ρ : Env}, (wipeS ρ own).length = ρ.length
  | [], _ => rfl
  | _ :: own, ρ => by simp [wipeS, wipeS_length (own := own)]
theorem back_length {ρ0 : Env} : ∀ {own : List Nat} {ρ : Env}, (back ρ0 ρ own).length = ρ.length
  | [], _ => rfl
  | _ :: own, ρ => by simp [back, back_length (own := own)]
theorem getS_back {ρ0 : Env} {i : Nat} : ∀ {own : List Nat} {ρ : Env}, ρ0.length = ρ.length → getS (back ρ0 ρ own) i = if i ∈ own then getS ρ0 i else getS ρ i
  | [], ρ, _ => by simp [back]
  | j :: own, ρ, hl => by
    have ih := getS_back (ρ0 := ρ0) (i := i) (own := own) (ρ := ρ) hl
    simp only [back, getS_set, ih, List.mem_cons]
    by_cases h : j = i
    · subst h
      by_cases hj : j < (back ρ0 ρ own).length
      · simp [hj]
      · rw [back_length] at hj
        have h1 := getS_out (ρ := ρ) (Nat.le_of_not_lt hj)
        have h2 := getS_out (ρ := ρ0) (i := j) (by omega)
        simp [back_length, hj, h1, h2]
    · have h' : ¬ i = j := fun e => h e.symm
      simp [h, h']

def Fr.lock (fr : Fr) (i : Nat) (a : Addr) : Fr := { fr with lm := fun j => if j = i then some a else fr.lm j }
section
variable {L : Lk} {t : Tx} {k : Nat} {N : List Str} {sc : Scope} {W : WX} {X : Cx} {C : Cl}
variable {fr : Fr} {G : Addr → Prop} {σ σ' : L2.St} {H H' H1 : Hp} {ρ ρ' ρ1 : Env} {F F' F1 : Fp}

theorem SlotAt.refr {fr' : Fr} {A : Addr → Prop} {i : Nat} {x : Option (Option V)} {f : List Addr} {s : Slot} (h1 : fr'.bm i = fr.bm i) (h2 : fr'.lm i = fr.lm i) (h : SlotAt L fr A H i x f s) : SlotAt L fr' A H i x f s := by
  cases s with
  | none => exact h
  | val d => exact h
  | own d => exact h
  | ref d => simp only [SlotAt, h1] at h ⊢; exact h
  | lock r d => simp only [SlotAt, h1, h2] at h ⊢; exact h
/-- a list that is walked is locked meanwhile -/
theorem Rel.lock (r : Rel L fr G σ H ρ F) {i : Nat} {b : Bool} {d : D} (h : getS ρ i = if b then .ref d else .own d) : ∃ a vs ds, d = .lst ds ∧ σ[i]? = some (some (.ref a)) ∧ H a = some (.lst vs) ∧ Reps L (av F G) H ds vs ∧ F i = [a] ∧ (b = true → fr.bm i = some a) ∧
    Rel L (fr.lock i a) (fun c => G c ∨ c = a) σ H (ρ.set i (.lock b d)) (F.put i []) := by
  have q := r.slot i
  have q' : OwnAt L (av F G) H σ[i]? d (F i) fun a => b = true → fr.bm i = some a := by
    cases b with
    | true => rw [h] at q; exact OwnAt.imp q fun a z _ => z
    | false => rw [h] at q; exact OwnAt.imp q fun a z e => by cases e
  obtain ⟨a, vs, ds, e1, e2, e3, e4, e5, e6⟩ := q'
  have hn : getS ρ i ≠ .none := by cases b <;> (rw [h]; intro z; cases z)
  have hi : i < ρ.length := getS_lt rfl hn
  have aF : a ∈ F i := by rw [e3]; simp
  have sub : ∀ j c, c ∈ F.put i [] j → j ≠ i ∧ c ∈ F j := fun j c z => by
    by_cases e : j = i
    · subst e; rw [Fp.put_same] at z; cases z
    · rw [Fp.put_ne e] at z; exact ⟨e, z⟩
  have avs : ∀ c, av (F.put i []) (fun c => G c ∨ c = a) c → av F G c := fun c z => by
    rcases z with ⟨j, z⟩ | z | z
    · exact .inl ⟨j, (sub j c z).2⟩
    · exact .inr z
    · exact .inl ⟨i, z ▸ aF⟩
  refine ⟨a, vs, ds, e1, e2, e4, e5, e3, e6, by simp [r.len], fun j => ?_, fun j l c h1 h2 => r.apart j l c (sub j c h1).2 (sub l c h2).2, fun j c h1 z => ?_, fun j c h1 => r.home j c (sub j c h1).2, r.kept, r.low, fun c z => ?_, fun j c z => ?_⟩
  · rw [getS_set]
    by_cases e : i = j
    · subst e
      rw [if_pos ⟨rfl, hi⟩, Fp.put_same]
      subst e1
      exact ⟨rfl, a, vs, ds, rfl, e2, by simp [Fr.lock], e4, e5.less avs, by simp [Fr.lock], e6⟩
    · rw [if_neg (fun z => e z.1), Fp.put_ne (Ne.symm e)]
      exact SlotAt.refr (fr := fr) rfl (by simp [Fr.lock, Ne.symm e]) ((r.slot j).keeps (fun _ _ q => q) fun c q => .inl (avs c q))
  · obtain ⟨n1, n2⟩ := sub j c h1
    rcases z with z | z
    · exact r.gap j c n2 z
    · exact n1 (r.apart j i c n2 (z ▸ aF))
  · rcases z with z | z
    · exact r.gin c z
    · rw [z, e4]; simp
  · simp only [Fr.lock] at z
    split at z
    · cases z; exact .inr rfl
    · exact .inl (r.lmG j c z)
theorem Rel.unlock {a : Addr} {i : Nat} {b : Bool} {d : D} (r : Rel L (fr.lock i a) (fun c => G c ∨ c = a) σ H ρ F) (h : getS ρ i = .lock b d) (nG : ¬ G a) (hm : fr.M a ∨ fr.H0 a = none) (hl : ∀ j c, fr.lm j = some c → G c) :
    Rel L fr G σ H (ρ.set i (if b then .ref d else .own d)) (F.put i [a]) := by
  have q := r.slot i
  rw [h] at q
  obtain ⟨f0, c, vs, ds, e1, e2, _, e4, e5, e6, e7⟩ := q
  have hca : c = a := by simp [Fr.lock] at e6; exact e6.symm
  subst hca
  have hi : i < ρ.length := getS_lt h (fun z => Slot.noConfusion z)
  have sub : ∀ j x, x ∈ F.put i [c] j → (j = i ∧ x = c) ∨ (j ≠ i ∧ x ∈ F j) := fun j x z => by
    by_cases e : j = i
    · subst e; rw [Fp.put_same] at z; exact .inl ⟨rfl, by simpa using z⟩
    · rw [Fp.put_ne e] at z; exact .inr ⟨e, z⟩
  have nF : ∀ j, c ∉ F j := fun j z => r.gap j c z (.inr rfl)
  have avs : ∀ x, av (F.put i [c]) G x → av F (fun x => G x ∨ x = c) x := fun x z => by
    rcases z with ⟨j, z⟩ | z
    · rcases sub j x z with ⟨_, z⟩ | ⟨_, z⟩
      · exact .inr (.inr z)
      · exact .inl ⟨j, z⟩
    · exact .inr (.inl z)
  refine ⟨by simp [r.len], fun j => ?_, fun j l x h1 h2 => ?_, fun j x h1 z => ?_, fun j x h1 => ?_, r.kept, r.low, fun x z => r.gin x (.inl z), hl⟩
  · rw [getS_set]
    by_cases e : i = j
    · subst e
      rw [if_pos ⟨rfl, hi⟩, Fp.put_same]
      cases b with
      | true => exact ⟨c, vs, ds, e1, e2, rfl, e4, e5.less avs, e7 rfl⟩
      | false => exact ⟨c, vs, ds, e1, e2, rfl, e4, e5.less avs, trivial⟩
    · rw [if_neg (fun z => e z.1), Fp.put_ne (Ne.symm e)]
      exact SlotAt.refr (fr := fr.lock i c) rfl (by simp [Fr.lock, Ne.symm e]) ((r.slot j).keeps (fun _ _ q => q) fun x q => .inl (avs x q))
  · rcases sub j x h1 with ⟨a1, a2⟩ | ⟨_, a2⟩
    · rcases sub l x h2 with ⟨b1, _⟩ | ⟨_, b2⟩
      · rw [a1, b1]
      · subst a2; exact absurd b2 (nF l)
    · rcases sub l x h2 with ⟨_, b2⟩ | ⟨_, b2⟩
      · subst b2; exact absurd a2 (nF j)
      · exact r.apart j l x a2 b2
  · rcases sub j x h1 with ⟨_, a2⟩ | ⟨_, a2⟩
    · subst a2; exact nG z
    · exact r.gap j x a2 (.inl z)
  · rcases sub j x h1 with ⟨_, a2⟩ | ⟨_, a2⟩
    · subst a2; exact hm
    · exact r.home j x a2

/-! ### what is walked -/
/-- at the i-th turn the i-th item comes -/
def Yields (L : Lk) (nm : Bool) (J : L2.It) (ds : List D) (A : Addr → Prop) (H : Hp) (i : Nat) : Prop :=
  (ds.length = i → J.stop i H) ∧ ∀ d, ds[i]? = some d → J.go i H ∧ ∀ x H', J.yld i H x H' → (∀ a o, H a = some o → H' a = some o) ∧ WRep L A H' nm d x
/-- lists of another's that may change meanwhile -/
def Vol (fr : Fr) (G : Addr → Prop) (H : Hp) (V : Addr → Prop) : Prop := ∀ b, V b → G b ∧ IsL H b ∧ ∀ i, fr.lm i ≠ some b
theorem vol0 {fr : Fr} {G : Addr → Prop} {H : Hp} : Vol fr G H fun _ => False := fun _ z => z.elim
theorem Ext.or0 {Z Z' : Addr → Prop} {H H' : Hp} (e : Ext Z H Z' H') : Ext (fun a => Z a ∨ False) H (fun a => Z' a ∨ False) H' :=
  ⟨fun a o h n => e.keep a o h fun z => n (.inl z), fun a z => z.elim (fun z => (e.zz a z).imp .inl id) False.elim, e.there⟩
structure Walk (L : Lk) (nm : Bool) (fr : Fr) (G : Addr → Prop) (F : Fp) (H : Hp) (ds : List D) (locks : List Nat) (J : L2.It) (H1 : Hp) (fr1 : Fr) (G1 : Addr → Prop) (F1 : Fp) : Prop where
  ext : Ext (zz F) H (zz F1) H1
  same : locks = [] → fr1 = fr ∧ G1 = G
  src : ∀ (E V : Addr → Prop) σ' H' ρ' F', (∀ b, E b → H1 b = none) → Vol fr G H1 V → Rel L fr1 (fun a => G1 a ∨ E a) σ' H' ρ' F' → Ext (fun a => zz F1 a ∨ V a) H1 (fun a => zz F' a ∨ V a) H' → ∀ i, Yields L nm J ds (av F' fun a => G1 a ∨ E a) H' i
  unl : ∀ (E : Addr → Prop) σ' H' ρ' F' ρ2, (∀ b, E b → H1 b = none) → Rel L fr1 (fun a => G1 a ∨ E a) σ' H' ρ' F' → Ext (zz F1) H1 (zz F') H' → unlockAll ρ' locks = some ρ2 → ∃ F2, Rel L fr (fun a => G a ∨ E a) σ' H' ρ2 F2 ∧ Ext (zz F) H (zz F2) H' ∧ ∀ a, av F2 (fun a => G a ∨ E a) a → av F' (fun a => G1 a ∨ E a) a
  h0 : fr1.H0 = fr.H0
  gg : ∀ a, G a → G1 a
/-- what is walked comes one by one, not in pairs -/
def nmIt : Tk.It → Bool
  | .enum _ => false
  | .zip _ _ => false
  | _ => true
def specIt (L : Lk) (W : WX) (C : Cl) (it : Tk.It) : TI := fun σ H R => ∃ fr G ρ F, Rel L fr G σ H ρ F ∧ Fin (denIt C it ρ) (fun x ρ1 => ∀ J H1 fr1 G1 F1, Walk L (nmIt it) fr G F H x.1 x.2 J H1 fr1 G1 F1 → Rel L fr1 G1 σ H1 ρ1 F1 → R J H1) (EC L W fr G σ H F)

theorem items_lst {nm : Bool} {a : Addr} {vs : List V} {ds : List D} {A : Addr → Prop} (h : SqL L.K H a vs) (rs : Reps L A H ds vs) (i : Nat) : Yields L nm (Itl L.K a) ds A H i := by
  refine ⟨fun hi => ⟨vs, h, by rw [rs.len]; exact Nat.le_of_eq hi⟩, fun d e => ?_⟩
  obtain ⟨v, g1, g2⟩ := rs.get e
  refine ⟨⟨vs, v, h, g1⟩, fun x H' ⟨e1, e2⟩ => ?_⟩
  subst e1
  have := e2 vs h
  rw [g1] at this; cases this
  exact ⟨fun _ _ z => z, .inl g2⟩
theorem items_tup {nm : Bool} {a : Addr} {vs : List V} {ds : List D} {A : Addr → Prop} (h : SqT L.K H a vs) (rs : Reps L A H ds vs) (i : Nat) : Yields L nm (Itt L.K a) ds A H i := by
  refine ⟨fun hi => ⟨vs, h, by rw [rs.len]; exact Nat.le_of_eq hi⟩, fun d e => ?_⟩
  obtain ⟨v, g1, g2⟩ := rs.get e
  refine ⟨⟨vs, v, h, g1⟩, fun x H' ⟨e1, e2⟩ => ?_⟩
  subst e1
  have := e2 vs h
  rw [g1] at this; cases this
  exact ⟨fun _ _ z => z, .inl g2⟩
theorem items_rng {nm : Bool} (a : Int) (n : Nat) {A : Addr → Prop} (i : Nat) : Yields L nm (Itr a n) ((List.range n).map fun k => .int (a + (k : Nat))) A H i := by
  refine ⟨fun hi => (by show n ≤ i; simpa using Nat.le_of_eq hi), fun d e => ?_⟩
  rw [List.getElem?_map] at e
  obtain ⟨j, e1, e2⟩ := Option.map_eq_some_iff.mp e
  obtain ⟨hj, e3⟩ := List.getElem?_eq_some_iff.mp e1
  rw [List.getElem_range] at e3
  subst e3 e2
  refine ⟨(by show i < n; simpa using hj), fun x H' ⟨e1, e2⟩ => ?_⟩
  subst e1 e2
  exact ⟨fun _ _ z => z, .inl (by simp only [Rep])⟩
theorem reps_free {A A' : Addr → Prop} : ∀ {ds : List D} {vs : List V}, Reps L A H ds vs → (∀ b, A' b → A b ∨ H b = none) → Reps L A' H ds vs := fun h k =>
  Reps.ext (Z := fun _ => False) (Z' := fun _ => False) (Ext.refl _ H) (fun _ z => z.elim) (fun _ z => z.elim) k h
theorem rep_free {A A' : Addr → Prop} {d : D} {v : V} (h : Rep L A H d v) (k : ∀ b, A' b → A b ∨ H b = none) : Rep L A' H d v :=
  Rep.ext (Z := fun _ => False) (Z' := fun _ => False) (Ext.refl _ H) (fun _ z => z.elim) (fun _ z => z.elim) k h
/-- a walk that locks nothing -/
theorem walk_plain {nm : Bool} {ds : List D} {J : L2.It} (e : Ext (zz F) H (zz F1) H1) (src : ∀ (E V : Addr → Prop) σ' H' ρ' F', (∀ b, E b → H1 b = none) → Vol fr G H1 V → Rel L fr (fun a => G a ∨ E a) σ' H' ρ' F' → Ext (fun a => zz F1 a ∨ V a) H1 (fun a => zz F' a ∨ V a) H' → ∀ i, Yields L nm J ds (av F' fun a => G a ∨ E a) H' i) : Walk L nm fr G F H ds [] J H1 fr G F1 :=
  ⟨e, fun _ => ⟨rfl, rfl⟩, src, fun E σ' H' ρ' F' ρ2 _ r x h => by
    simp only [unlockAll, Option.some.injEq] at h
    subst h
    exact ⟨F', r, e.trans x, fun _ z => z⟩, rfl, fun _ z => z⟩
/-- a value that is walked, whatever it is -/
def iAny (K : PySem.W.Frag) (tl : TE) : TI := fun σ H R => tl σ H fun x H1 => ∃ a, x = .ref a ∧ (((∃ xs, SqL K H1 a xs) ∧ R (Itl K a) H1) ∨ ((∃ xs, SqT K H1 a xs) ∧ R (Itt K a) H1))
theorem pi_any {tg l : Expr} {tl : TE} (hl : PE X l tl) : PI X tg l (iAny X.K tl) := by
  refine ⟨fun pins s σ H R I h => ?_⟩
  refine thn (hl.run pins s σ H _ I h) fun v s1 ⟨x, H1, I1, r1, q1⟩ => ?_
  obtain ⟨a, e, q⟩ := q1
  subst e
  cases r1
  rcases q with ⟨⟨xs, hq⟩, q⟩ | ⟨⟨xs, hq⟩, q⟩
  · obtain ⟨its, rv, p, hz⟩ := I1.list hq
    refine wpAny_pyIter_list p.isList ?_
    refine ⟨s1.heap.objs.size, [s1.heap.objs.size], _, _, H1, rfl, I1.kept (t' := s1.toks) fun b o e => Heap.get?_push_of_some _ e, turn_list a _, ⟨_, Heap.get?_push_size _ rfl, rfl, rfl⟩, fun b hb => ?_, q⟩
    have e : b = s1.heap.objs.size := by simpa using hb
    subst e
    exact I1.fpOk (Nat.le_refl _) (I1.hok.fresh (Nat.le_refl _))
  · obtain ⟨its, rv, p, hz⟩ := I1.tuple hq
    refine wpAny_pyIter_tuple (show s1.heap.IsTuple a its.toArray from p) ?_
    refine ⟨s1.heap.objs.size, [s1.heap.objs.size], _, _, H1, rfl, I1.kept (t' := s1.toks) fun b o e => Heap.get?_push_of_some _ e, turn_tuple a _, ⟨_, Heap.get?_push_size _ rfl, rfl, rfl⟩, fun b hb => ?_, q⟩
    have e : b = s1.heap.objs.size := by simpa using hb
    subst e
    exact I1.fpOk (Nat.le_refl _) (I1.hok.fresh (Nat.le_refl _))
theorem isLV {V : Addr → Prop} (r : Rel L fr G σ H1 ρ1 F1) (hV : Vol fr G H1 V) : ∀ a, zz F1 a ∨ V a → IsL H1 a := fun a z => z.elim (r.isL a) fun v => (hV a v).2.1
theorem zAV {V : Addr → Prop} (hV : Vol fr G H1 V) : ∀ a, zz F1 a ∨ V a → av F1 G a := fun a z => z.imp id fun v => (hV a v).1
theorem avV {fr : Fr} {G : Addr → Prop} {H1 : Hp} {F1 : Fp} {E V : Addr → Prop} {F' : Fp} {H' : Hp} (hE : ∀ b, E b → H1 b = none) (hV : Vol fr G H1 V) (e : Ext (fun a => zz F1 a ∨ V a) H1 (fun a => zz F' a ∨ V a) H') : ∀ a, av F' (fun a => G a ∨ E a) a → av F1 G a ∨ H1 a = none := fun a z => by
  rcases z with z | z | z
  · exact (e.zz a (.inl z)).imp (zAV hV a) id
  · exact .inl (.inr z)
  · exact .inr (hE a z)
/-- a plain value that is walked -/
theorem src_val {nm : Bool} {d : D} {v : V} {ds : List D} (r : Rel L fr G σ H1 ρ1 F1) (rp : Rep L (av F1 G) H1 d v) (h : itD d = some ds) :
    ∃ a, v = .ref a ∧ ∃ J, ((J = Itl L.K a ∧ ∃ xs, SqL L.K H1 a xs) ∨ (J = Itt L.K a ∧ ∃ xs, SqT L.K H1 a xs)) ∧
      ∀ (E V : Addr → Prop) σ' H' ρ' F', (∀ b, E b → H1 b = none) → Vol fr G H1 V → Rel L fr (fun a => G a ∨ E a) σ' H' ρ' F' → Ext (fun a => zz F1 a ∨ V a) H1 (fun a => zz F' a ∨ V a) H' → ∀ i, Yields L nm J ds (av F' fun a => G a ∨ E a) H' i := by
  have av' := @avV fr G H1 F1
  cases d <;> simp only [itD] at h <;> first | (cases h; done) | skip
  · cases h
    simp only [Rep] at rp
    obtain ⟨a, vs, rfl, h1, h2⟩ := rp
    refine ⟨a, rfl, _, .inr ⟨rfl, vs, h1.1⟩, fun E V σ' H' ρ' F' hE hV r' e i => items_tup (SqT.ext e (isLV r hV) h1.1) (Reps.ext e (isLV r hV) (zAV hV) (av' hE hV e) h2) i⟩
  · cases h
    simp only [Rep] at rp
    obtain ⟨a, vs, rfl, n, h1, h2⟩ := rp
    refine ⟨a, rfl, _, .inl ⟨rfl, vs, .of h1⟩, fun E V σ' H' ρ' F' hE hV r' e i => items_lst (.of (e.keep a _ h1 fun z => n (zAV hV a z))) (Reps.ext e (isLV r hV) (zAV hV) (av' hE hV e) h2) i⟩
  · cases h
    simp only [Rep] at rp
    obtain ⟨a, rfl, h1⟩ := rp
    exact ⟨a, rfl, _, .inl ⟨rfl, _, h1.sq⟩, fun E V σ' H' ρ' F' hE hV r' e i => items_lst (h1.ext e (isLV r hV)).sq (.ofInts _) i⟩
/-- a list that a name holds alone is walked -/
theorem walk_lock {nm : Bool} (e1 : Ext (zz F) H (zz F1) H1) (r : Rel L fr G σ H1 ρ1 F1) {i : Nat} {b : Bool} {d : D} (h : getS ρ1 i = if b then .ref d else .own d) : ∃ a vs ds, d = .lst ds ∧ σ[i]? = some (some (.ref a)) ∧ H1 a = some (.lst vs) ∧
    Walk L nm fr G F H ds [i] (Itl L.K a) H1 (fr.lock i a) (fun c => G c ∨ c = a) (F1.put i []) ∧ Rel L (fr.lock i a) (fun c => G c ∨ c = a) σ H1 (ρ1.set i (.lock b d)) (F1.put i []) := by
  obtain ⟨a, vs, ds, e, h2, h4, h5, h6, h7, r2⟩ := r.lock h
  have aF : a ∈ F1 i := by rw [h6]; simp
  have nz : ¬ zz (F1.put i []) a := fun z => by
    obtain ⟨j, z⟩ := z
    exact r2.gap j a z (.inr rfl)
  have sub : ∀ c, zz (F1.put i []) c → zz F1 c := zz_put (by simp)
  refine ⟨a, vs, ds, e, h2, h4, ⟨e1.less sub, (fun z => by cases z), fun E V σ' H' ρ' F' hE hV r' x j => ?_, fun E σ' H' ρ' F' ρ2 hE r' x hu => ?_, rfl, fun _ z => .inl z⟩, r2⟩
  · have k1 : H' a = some (.lst vs) := x.keep a _ h4 fun z => z.elim nz fun v => r.gap i a aF (hV a v).1
    refine items_lst (.of k1) ?_ j
    have h5' : Reps L (av (F1.put i []) (fun c => G c ∨ c = a)) H1 ds vs := h5.less fun c z => by
      rcases z with z | z | z
      · exact .inl (sub c z)
      · exact .inr z
      · exact .inl ⟨i, z ▸ aF⟩
    refine Reps.ext x (fun c z => z.elim (r2.isL c) fun v => (hV c v).2.1) (fun c z => z.imp id fun v => .inl (hV c v).1) (fun c z => ?_) h5'
    rcases z with z | z | z
    · exact (x.zz c (.inl z)).imp (fun z => z.imp id fun v => .inl (hV c v).1) id
    · exact .inl (.inr z)
    · exact .inr (hE c z)
  · simp only [unlockAll] at hu
    cases es : getS ρ' i with
    | lock b' d' =>
      rw [es] at hu
      simp only [Option.some.injEq] at hu
      subst hu
      have nG : ¬ (G a ∨ E a) := fun z => by
        rcases z with z | z
        · exact r.gap i a aF z
        · have := hE a z
          rw [h4] at this; cases this
      have r3 : Rel L (fr.lock i a) (fun c => (G c ∨ E c) ∨ c = a) σ' H' ρ' F' := r'.lessG (fun j c z => by
        have := r'.lmG j c z
        rcases this with (q | q) | q
        · exact .inl (.inl q)
        · exact .inr q
        · exact .inl (.inr q)) fun c z => by
        rcases z with (q | q) | q
        · exact .inl (.inl q)
        · exact .inr q
        · exact .inl (.inr q)
      have r4 := r3.unlock es nG (r.home i a aF) fun j c z => .inl (r.lmG j c z)
      refine ⟨_, r4, ⟨fun c o hc n => ?_, fun c z => ?_, fun c hc => x.there c (e1.there c hc)⟩, fun c z => ?_⟩
      · exact x.keep c o (e1.keep c o hc n) fun z => by
          rcases e1.zz c (sub c z) with q | q
          · exact n q
          · rw [hc] at q; cases q
      · obtain ⟨j, z⟩ := z
        by_cases ej : j = i
        · subst ej
          rw [Fp.put_same] at z
          have : c = a := by simpa using z
          subst this
          exact e1.zz c ⟨j, aF⟩
        · rw [Fp.put_ne ej] at z
          rcases x.zz c ⟨j, z⟩ with q | q
          · exact e1.zz c (sub c q)
          · by_cases hn : H c = none
            · exact .inr hn
            · exact absurd q (e1.there c hn)
      · rcases z with ⟨j, z⟩ | z | z
        · by_cases ej : j = i
          · subst ej
            rw [Fp.put_same] at z
            exact .inr (.inl (.inr (by simpa using z)))
          · rw [Fp.put_ne ej] at z
            exact .inl ⟨j, z⟩
        · exact .inr (.inl (.inl z))
        · exact .inr (.inr z)
    | none => rw [es] at hu; cases hu
    | val d' => rw [es] at hu; cases hu
    | own d' => rw [es] at hu; cases hu
    | ref d' => rw [es] at hu; cases hu
theorem i_seq (g : Good L k N sc W X) {e : E} {pe tg : Expr} (h : PE X pe (specO L W C e)) : PI X tg pe (specIt L W C (.seq e)) :=
  (pi_any h).imp fun σ H R ⟨fr, G, ρ, F, r, f⟩ => by
    simp only [denIt] at f
    rw [g.hK]
    refine (show specO L W C e σ H _ from seqO r f fun x v ρ1 H1 F1 e1 r1 o1 f => ?_)
    have fin : ∀ {ds : List D} {d : D}, itD d = some ds → Rep L (av F1 G) H1 d v → (∀ J H1' fr1 G1 F1', Walk L true fr G F H ds [] J H1' fr1 G1 F1' → Rel L fr1 G1 σ H1' ρ1 F1' → R J H1') →
        ∃ a, v = .ref a ∧ (((∃ xs, SqL L.K H1 a xs) ∧ R (Itl L.K a) H1) ∨ ((∃ xs, SqT L.K H1 a xs) ∧ R (Itt L.K a) H1)) := fun {ds d} hi rp q => by
      obtain ⟨a, ea, J, hJ, src⟩ := src_val r1 rp hi
      refine ⟨a, ea, ?_⟩
      have R1 := q J H1 fr G F1 (walk_plain e1 src) r1
      rcases hJ with ⟨rfl, z⟩ | ⟨rfl, z⟩
      · exact .inl ⟨z, R1⟩
      · exact .inr ⟨z, R1⟩
    cases x with
    | dat d =>
      simp only [lockAll, Option.map_some] at f
      obtain ⟨ds, g1, q⟩ := Fin.ofO (Fin.bind.mp f)
      exact fin g1 o1 q
    | slot i =>
      have o1 : σ[i]? = some (some v) := o1
      simp only [lockAll] at f
      cases es : getS ρ1 i with
      | none => rw [es] at f; exact f.elim
      | val d =>
        rw [es] at f
        simp only [lockS, Option.map_some, held, es] at f
        obtain ⟨ds, g1, q⟩ := Fin.ofO (Fin.bind.mp f)
        obtain ⟨w, g2, g3⟩ := r1.val es
        rw [o1] at g2; cases g2
        obtain ⟨a, ea, J, hJ, src⟩ := src_val r1 g3 g1
        refine ⟨a, ea, ?_⟩
        have r2 : Rel L fr G σ H1 (ρ1.set i (.val d)) F1 := r1.rekind fun x z => by rw [es] at z; exact z
        have R1 := q J H1 fr G F1 (walk_plain e1 src) r2
        rcases hJ with ⟨rfl, z⟩ | ⟨rfl, z⟩
        · exact .inl ⟨z, R1⟩
        · exact .inr ⟨z, R1⟩
      | lock b d =>
        rw [es] at f
        simp only [lockS, Option.map_some, held, es] at f
        obtain ⟨ds, g1, q⟩ := Fin.ofO (Fin.bind.mp f)
        have z := r1.slot i
        rw [es] at z
        obtain ⟨_, a, vs, ds', rfl, h2, _, h4, h5, h6⟩ := z
        rw [o1] at h2; cases h2
        cases g1
        have r2 : Rel L fr G σ H1 (ρ1.set i (.lock b (.lst ds))) F1 := r1.rekind fun x z => by rw [es] at z; exact z
        have aG : G a := r1.lmG i a h6.1
        refine ⟨a, rfl, .inl ⟨⟨vs, .of h4⟩, q (Itl L.K a) H1 fr G F1 (walk_plain e1 fun E V σ' H' ρ' F' hE hV r' e i => items_lst (.of (e.keep a _ h4 fun z => z.elim (fun ⟨j, z⟩ => r1.gap j a z aG) fun v => (hV a v).2.2 _ h6.1)) (Reps.ext e (isLV r1 hV) (zAV hV) (avV hE hV e) h5) i) r2⟩⟩
      | own d =>
        rw [es] at f
        simp only [lockS, Option.map_some, held, es] at f
        obtain ⟨ds, g1, q⟩ := Fin.ofO (Fin.bind.mp f)
        obtain ⟨a, vs, ds', rfl, h2, h4, w, r2⟩ := walk_lock (b := false) e1 r1 es
        rw [o1] at h2; cases h2
        cases g1
        exact ⟨a, rfl, .inl ⟨⟨vs, .of h4⟩, q _ _ _ _ _ w r2⟩⟩
      | ref d =>
        rw [es] at f
        simp only [lockS, Option.map_some, held, es] at f
        obtain ⟨ds, g1, q⟩ := Fin.ofO (Fin.bind.mp f)
        obtain ⟨a, vs, ds', rfl, h2, h4, w, r2⟩ := walk_lock (b := true) e1 r1 es
        rw [o1] at h2; cases h2
        cases g1
        exact ⟨a, rfl, .inl ⟨⟨vs, .of h4⟩, q _ _ _ _ _ w r2⟩⟩
theorem rgOk_b {a b : Int} (h : RgOk a b) : -(2 ^ 62) ≤ a ∧ a < 2 ^ 62 ∧ -(2 ^ 62) ≤ b ∧ b < 2 ^ 62 := ⟨h.1, h.2.1, h.2.2.1, h.2.2.2.1⟩
theorem i_rng1 (g : Good L k N sc W X) (lk : LkOk L t) {bb : Bool} {b : E} {pb tg : Expr} {p pos : Pos} (h2 : gloB sc ("range" : Str) = true) (hb : PE X pb (specG L W C bb b)) (hs : starEach [pb] X.env = (false, eval pb X.env) :: starEach [] X.env) :
    PI X tg (.Call (.Name "range" p) [pb] [] pos) (specIt L W C (.rng .none b)) :=
  (pi_range1 (g.glo _ (glo_of h2)) (by rw [g.hmg]; exact lk.bl _ range_name) (pa_cons (s_weak hb) pa_nil hs) hs).imp fun σ H R ⟨fr, G, ρ, F, r, f⟩ => by
    simp only [denIt, denPart, bind_ok] at f
    refine (show specG L W C false b σ H _ from seqE r f fun d v ρ1 H1 F1 e1 r1 rp f => ?_)
    obtain ⟨ds, e, q⟩ := Fin.ofO (Fin.bind.mp f)
    obtain ⟨j, rfl, hz, rfl⟩ := rg_of e
    simp only [Rep] at rp
    subst rp
    obtain ⟨_, _, b3, b4⟩ := rgOk_b hz
    refine ⟨j, rfl, b3, b4, q _ H1 fr G F1 (walk_plain e1 fun E V σ' H' ρ' F' hE hV r' e i => ?_) r1⟩
    have := items_rng (L := L) (nm := nmIt (Tk.It.rng .none b)) (H := H') 0 j.toNat (A := av F' fun a => G a ∨ E a) i
    unfold rangeD
    simpa using this
theorem i_rng2 (g : Good L k N sc W X) (lk : LkOk L t) {ba bb : Bool} {a b : E} {pa pb tg : Expr} {p pos : Pos} (h2 : gloB sc ("range" : Str) = true) (ha : PE X pa (specG L W C ba a)) (hb : PE X pb (specG L W C bb b)) (hs : starEach [pa, pb] X.env = (false, eval pa X.env) :: starEach [pb] X.env) (hs2 : starEach [pb] X.env = (false, eval pb X.env) :: starEach [] X.env) :
    PI X tg (.Call (.Name "range" p) [pa, pb] [] pos) (specIt L W C (.rng (.some a) b)) :=
  (pi_range2 (g.glo _ (glo_of h2)) (by rw [g.hmg]; exact lk.bl _ range_name) (pa_cons (s_weak ha) (pa_cons (s_weak hb) pa_nil hs2) hs) (by rw [hs, hs2]; rfl) hs2).imp fun σ H R ⟨fr, G, ρ, F, r, f⟩ => by
    simp only [denIt, denPart, partD, bind_bind] at f
    refine (show specG L W C false a σ H _ from seqE r f fun d v ρ1 H1 F1 e1 r1 rp f => ?_)
    cases d <;> first | exact f.elim | skip
    simp only [Rep] at rp
    subst rp
    refine (show specG L W C false b σ H1 _ from seqE r1 f fun d v ρ2 H2 F2 e2 r2 rp f => ?_)
    obtain ⟨ds, e, q⟩ := Fin.ofO (Fin.bind.mp f)
    obtain ⟨j, rfl, hz, rfl⟩ := rg_of e
    simp only [Rep] at rp
    subst rp
    exact ⟨_, j, rfl, rgOk_b hz, q _ H2 fr G F2 (walk_plain (e1.trans e2) fun E V σ' H' ρ' F' hE hV r' e i => items_rng _ _ i) r2⟩

/-! ### enumerate, zip -/
theorem pairReps {A : Addr → Prop} {T : Addr} {d e : D} {x y : V} (hT : H T = none) (h1 : Rep L A H d x) (h2 : Rep L A H e y) : WRep L A (upd H T (.tup [x, y])) false (.tup [d, e]) (.ref T) := by
  have E := Ext.laid (Z := fun _ => False) (o := HO.tup [x, y]) hT
  have k : ∀ {d : D} {v : V}, Rep L A H d v → Rep L A (upd H T (.tup [x, y])) d v := fun h => Rep.ext E (fun _ z => z.elim) (fun _ z => z.elim) (fun a z => .inl z) h
  exact .inr ⟨rfl, _, T, [x, y], rfl, rfl, .inl (.inl upd_same), .cons (k h1) (.cons (k h2) .nil)⟩
theorem items_enL {a : Addr} {vs : List V} {ds : List D} {A : Addr → Prop} (h : SqL L.K H a vs) (rs : Reps L A H ds vs) (i : Nat) : Yields L false (L2.Ite L.K a) (enumD ds) A H i := by
  refine ⟨fun hi => ⟨vs, h, ?_⟩, fun d e => ?_⟩
  · rw [rs.len]; unfold enumD at hi; rw [List.length_mapIdx] at hi; omega
  · unfold enumD at e
    rw [List.getElem?_mapIdx] at e
    obtain ⟨d0, g0, rfl⟩ := Option.map_eq_some_iff.mp e
    obtain ⟨v, g1, g2⟩ := rs.get g0
    refine ⟨⟨vs, v, h, g1⟩, fun x H' ⟨T, y, e1, e2, e3, e4⟩ => ?_⟩
    subst e1 e3
    have := e4 vs h
    rw [g1] at this; cases this
    exact ⟨keeps_upd e2, pairReps e2 (by simp only [Rep]) g2⟩
theorem items_enT {a : Addr} {vs : List V} {ds : List D} {A : Addr → Prop} (h : SqT L.K H a vs) (rs : Reps L A H ds vs) (i : Nat) : Yields L false (L2.IteT L.K a) (enumD ds) A H i := by
  refine ⟨fun hi => ⟨vs, h, ?_⟩, fun d e => ?_⟩
  · rw [rs.len]; unfold enumD at hi; rw [List.length_mapIdx] at hi; omega
  · unfold enumD at e
    rw [List.getElem?_mapIdx] at e
    obtain ⟨d0, g0, rfl⟩ := Option.map_eq_some_iff.mp e
    obtain ⟨v, g1, g2⟩ := rs.get g0
    refine ⟨⟨vs, v, h, g1⟩, fun x H' ⟨T, y, e1, e2, e3, e4⟩ => ?_⟩
    subst e1 e3
    have := e4 vs h
    rw [g1] at this; cases this
    exact ⟨keeps_upd e2, pairReps e2 (by simp only [Rep]) g2⟩
theorem zip_get {as bs : List D} {i : Nat} {d : D} (e : (zipD as bs)[i]? = some d) : ∃ x y, as[i]? = some x ∧ bs[i]? = some y ∧ d = .tup [x, y] := by
  unfold zipD at e
  rw [List.getElem?_zipWith] at e
  cases ea : as[i]? with
  | none => rw [ea] at e; cases e
  | some x => cases eb : bs[i]? with
    | none => rw [ea, eb] at e; cases e
    | some y => rw [ea, eb] at e; cases e; exact ⟨x, y, rfl, rfl, rfl⟩
theorem zip_len {as bs : List D} {i : Nat} (h : (zipD as bs).length = i) : as.length ≤ i ∨ bs.length ≤ i := by
  unfold zipD at h
  rw [List.length_zipWith] at h
  omega
theorem items_zpL {a b : Addr} {vs us : List V} {ds es : List D} {A : Addr → Prop} (h : SqL L.K H a vs) (rs : Reps L A H ds vs) (h' : SqL L.K H b us) (rs' : Reps L A H es us) (i : Nat) : Yields L false (L2.Itz L.K a b) (zipD ds es) A H i := by
  refine ⟨fun hi => ⟨vs, us, h, h', by rw [rs.len, rs'.len]; exact zip_len hi⟩, fun d e => ?_⟩
  obtain ⟨x, y, ex, ey, rfl⟩ := zip_get e
  obtain ⟨v, g1, g2⟩ := rs.get ex
  obtain ⟨u, g3, g4⟩ := rs'.get ey
  refine ⟨⟨vs, us, v, u, h, h', g1, g3⟩, fun z H' ⟨T, p, q, e1, e2, e3, e4, e5⟩ => ?_⟩
  subst e1 e3
  have := e4 vs h
  rw [g1] at this; cases this
  have := e5 us h'
  rw [g3] at this; cases this
  exact ⟨keeps_upd e2, pairReps e2 g2 g4⟩
theorem items_zpT {a b : Addr} {vs us : List V} {ds es : List D} {A : Addr → Prop} (h : SqT L.K H a vs) (rs : Reps L A H ds vs) (h' : SqT L.K H b us) (rs' : Reps L A H es us) (i : Nat) : Yields L false (RZ.ItzT L.K a b) (zipD ds es) A H i := by
  refine ⟨fun hi => ⟨vs, us, h, h', by rw [rs.len, rs'.len]; exact zip_len hi⟩, fun d e => ?_⟩
  obtain ⟨x, y, ex, ey, rfl⟩ := zip_get e
  obtain ⟨v, g1, g2⟩ := rs.get ex
  obtain ⟨u, g3, g4⟩ := rs'.get ey
  refine ⟨⟨vs, us, v, u, h, h', g1, g3⟩, fun z H' ⟨T, p, q, e1, e2, e3, e4, e5⟩ => ?_⟩
  subst e1 e3
  have := e4 vs h
  rw [g1] at this; cases this
  have := e5 us h'
  rw [g3] at this; cases this
  exact ⟨keeps_upd e2, pairReps e2 g2 g4⟩
/-- a value that is walked stays what it is -/
structure SrcV (L : Lk) (fr : Fr) (G : Addr → Prop) (H1 : Hp) (F1 : Fp) (tp : Bool) (v : V) (ds : List D) : Prop where
  ex : ∃ a vs, v = .ref a ∧ (if tp then SqT L.K H1 a vs else SqL L.K H1 a vs) ∧ ∀ (E V : Addr → Prop) σ' H' ρ' F', (∀ b, E b → H1 b = none) → Vol fr G H1 V → Rel L fr (fun a => G a ∨ E a) σ' H' ρ' F' → Ext (fun a => zz F1 a ∨ V a) H1 (fun a => zz F' a ∨ V a) H' → (if tp then SqT L.K H' a vs else SqL L.K H' a vs) ∧ Reps L (av F' fun a => G a ∨ E a) H' ds vs
theorem src_v {d : D} {v : V} {ds : List D} (r : Rel L fr G σ H1 ρ1 F1) (rp : Rep L (av F1 G) H1 d v) (h : itD d = some ds) : SrcV L fr G H1 F1 (isTup d) v ds := by
  cases d <;> simp only [itD] at h <;> first | (cases h; done) | skip
  · cases h
    simp only [Rep] at rp
    obtain ⟨a, vs, rfl, h1, h2⟩ := rp
    exact ⟨a, vs, rfl, h1.1, fun E V σ' H' ρ' F' hE hV r' e => ⟨SqT.ext e (isLV r hV) h1.1, Reps.ext e (isLV r hV) (zAV hV) (avV hE hV e) h2⟩⟩
  · cases h
    simp only [Rep] at rp
    obtain ⟨a, vs, rfl, n, h1, h2⟩ := rp
    exact ⟨a, vs, rfl, .of h1, fun E V σ' H' ρ' F' hE hV r' e => ⟨.of (e.keep a _ h1 fun z => n (zAV hV a z)), Reps.ext e (isLV r hV) (zAV hV) (avV hE hV e) h2⟩⟩
  · cases h
    simp only [Rep] at rp
    obtain ⟨a, rfl, h1⟩ := rp
    exact ⟨a, _, rfl, h1.sq, fun E V σ' H' ρ' F' hE hV r' e => ⟨(h1.ext e (isLV r hV)).sq, .ofInts _⟩⟩
theorem i_enum (g : Good L k N sc W X) (lk : LkOk L t) {bb : Bool} {b : E} {pb : Expr} {elts : List Expr} {kk : Nat} {p pos tpos : Pos} (h2 : gloB sc ("enumerate" : Str) = true) (hb : PE X pb (specG L W C bb b)) (hs : starEach [pb] X.env = (false, eval pb X.env) :: starEach [] X.env) :
    PI X (.Tuple elts kk tpos) (.Call (.Name "enumerate" p) [pb] [] pos) (specIt L W C (.enum b)) :=
  (pi_enumA (g.glo _ (glo_of h2)) (by rw [g.hmg]; exact lk.bl _ (by decide +kernel)) (pa_cons (s_weak hb) pa_nil hs) hs).imp fun σ H R ⟨fr, G, ρ, F, r, f⟩ => by
    simp only [denIt] at f
    rw [g.hK]
    refine (show specG L W C false b σ H _ from seqE r f fun d v ρ1 H1 F1 e1 r1 rp f => ?_)
    obtain ⟨ds, e, q⟩ := Fin.ofO (Fin.bind.mp f)
    obtain ⟨a, vs, rfl, s1, s2⟩ := src_v r1 rp e
    refine ⟨a, rfl, ?_⟩
    cases ht : isTup d with
    | false =>
      rw [ht] at s1 s2
      exact .inl ⟨⟨vs, s1⟩, q _ H1 fr G F1 (walk_plain e1 fun E V σ' H' ρ' F' hE hV r' e i => items_enL (s2 E V σ' H' ρ' F' hE hV r' e).1 (s2 E V σ' H' ρ' F' hE hV r' e).2 i) r1⟩
    | true =>
      rw [ht] at s1 s2
      exact .inr ⟨⟨vs, s1⟩, q _ H1 fr G F1 (walk_plain e1 fun E V σ' H' ρ' F' hE hV r' e i => items_enT (s2 E V σ' H' ρ' F' hE hV r' e).1 (s2 E V σ' H' ρ' F' hE hV r' e).2 i) r1⟩
theorem i_zip (g : Good L k N sc W X) (lk : LkOk L t) {ba bb : Bool} {a b : E} {pa pb : Expr} {elts : List Expr} {kk : Nat} {p pos tpos : Pos} (h2 : gloB sc ("zip" : Str) = true) (ha : PE X pa (specG L W C ba a)) (hb : PE X pb (specG L W C bb b)) (hs : starEach [pa, pb] X.env = (false, eval pa X.env) :: starEach [pb] X.env) (hs2 : starEach [pb] X.env = (false, eval pb X.env) :: starEach [] X.env) :
    PI X (.Tuple elts kk tpos) (.Call (.Name "zip" p) [pa, pb] [] pos) (specIt L W C (.zip a b)) :=
  (RZ.pi_zipA (g.glo _ (glo_of h2)) (by rw [g.hmg]; exact lk.bl _ (by decide +kernel)) (pa_cons (s_weak ha) (pa_cons (s_weak hb) pa_nil hs2) hs) hs (by rw [hs2]; rfl)).imp fun σ H R ⟨fr, G, ρ, F, r, f⟩ => by
    simp only [denIt] at f
    rw [g.hK]
    refine (show specG L W C false a σ H _ from seqE r f fun d v ρ1 H1 F1 e1 r1 rp f => ?_)
    refine (show specG L W C false b σ H1 _ from seqE r1 f fun d' v' ρ2 H2 F2 e2 r2 rp' f => ?_)
    obtain ⟨ds, e, q⟩ := Fin.ofO (Fin.bind.mp f)
    unfold zipF at e
    split at e
    · rename_i hk
      obtain ⟨as, ea, e⟩ := Option.bind_eq_some_iff.mp e
      obtain ⟨bs, eb, e⟩ := Option.map_eq_some_iff.mp e
      subst e
      obtain ⟨a', vs, rfl, s1, s2⟩ := src_v r2 (r1.rep e2 rp) ea
      obtain ⟨b', us, rfl, s3, s4⟩ := src_v r2 rp' eb
      rw [← eq_of_beq hk] at s3 s4
      refine ⟨a', b', vs, us, rfl, ?_⟩
      cases ht : isTup d with
      | false =>
        rw [ht] at s1 s2 s3 s4
        exact .inl ⟨s1, s3, q _ H2 fr G F2 (walk_plain (e1.trans e2) fun E V σ' H' ρ' F' hE hV r' e i => items_zpL (s2 E V σ' H' ρ' F' hE hV r' e).1 (s2 E V σ' H' ρ' F' hE hV r' e).2 (s4 E V σ' H' ρ' F' hE hV r' e).1 (s4 E V σ' H' ρ' F' hE hV r' e).2 i) r2⟩
      | true =>
        rw [ht] at s1 s2 s3 s4
        exact .inr ⟨s1, s3, q _ H2 fr G F2 (walk_plain (e1.trans e2) fun E V σ' H' ρ' F' hE hV r' e i => items_zpT (s2 E V σ' H' ρ' F' hE hV r' e).1 (s2 E V σ' H' ρ' F' hE hV r' e).2 (s4 E V σ' H' ρ' F' hE hV r' e).1 (s4 E V σ' H' ρ' F' hE hV r' e).2 i) r2⟩
    · cases e
end
end Tk

set_option Elab.async false
set_option linter.all false
set_option maxRecDepth 100000
set_option maxHeartbeats 2000000
namespace Tk
open PySem PySem.Spec PyProof.Rows L2

/-! ### a comprehension's block -/
theorem lookup_map {p : Str → NameKind → Bool} : ∀ {names : List (Str × NameKind)} {x : Str} {k : NameKind}, names.lookup x = some k →
    ∃ k', (names.map fun (n, k) => if (k == NameKind.free && p n k) then (n, NameKind.cell) else (n, k)).lookup x = some k' ∧ (k' = k ∨ (k = .free ∧ k' = .cell))
  | [], _, _, h => by simp at h
  | (n, k₀) :: r, x, k, h => by
    have ih := @lookup_map p r x k
    show ∃ k', List.lookup x ((if (k₀ == NameKind.free && p n k₀) = true then (n, NameKind.cell) else (n, k₀)) :: (r.map _)) = some k' ∧ _
    cases hx : x == n with
    | true =>
      simp only [List.lookup_cons, hx] at h
      cases h
      by_cases hc : (k₀ == NameKind.free && p n k₀) = true
      · rw [if_pos hc]
        simp only [List.lookup_cons, hx]
        simp only [Bool.and_eq_true, beq_iff_eq] at hc
        exact ⟨_, rfl, .inr ⟨hc.1, rfl⟩⟩
      · rw [if_neg hc]
        simp only [List.lookup_cons, hx]
        exact ⟨_, rfl, .inl rfl⟩
    | false =>
      simp only [List.lookup_cons, hx] at h
      by_cases hc : (k₀ == NameKind.free && p n k₀) = true
      · rw [if_pos hc]; simp only [List.lookup_cons, hx]; exact ih h
      · rw [if_neg hc]; simp only [List.lookup_cons, hx]; exact ih h
section
variable {L : Lk} {t : Tx} {k : Nat} {N : List Str} {sc : Scope} {W : WX} {X : Cx} {C : Cl}
variable {fr fr1 : Fr} {G G1 : Addr → Prop} {σ σ' : L2.St} {H H' H1 : Hp} {ρ ρ' ρ1 : Env} {F F' F1 : Fp}

theorem relS_lookup {scope sc : Scope} {x : Str} {k : NameKind} (h : scope.names.lookup x = some k) : ∃ k', (relS scope sc).names.lookup x = some k' ∧ (k' = k ∨ (k = .free ∧ k' = .cell)) := by
  have q := lookup_map (p := fun n _ => sc.kind == .function && sc.names.lookup n == some .cell) h
  unfold relS
  simpa only [Bool.and_assoc] using q
theorem Good.ok (g : Good L k N sc W X) {scope : Scope} {own : List (Str × Nat)} (h : blkC N sc scope own = true) : BlkOk X.N X.env.scope scope own := by
  have b := blkOk_by h
  refine ⟨b.kind, b.uniq, by rw [g.hN]; exact b.ix, fun y hy e => g.cap _ (b.free y hy e), by rw [g.hN]; exact b.own⟩
theorem Good.blk (g : Good L k N sc W X) {scope : Scope} {own : List (Str × Nat)} (h : blkC N sc scope own = true) (s : Shared) (H : Hp) (A : Addr) (cls : List (Str × Addr)) (fp : List Addr) :
    Good L k N scope (fun _ _ _ _ => False) (X.blk s H scope (compEnvC scope cls A X.env) fp) := by
  have b := blkOk_by h
  have hsc : (compEnvC scope cls A X.env).scope = relS scope X.env.scope := rfl
  refine ⟨g.hP, g.hw, g.hK, g.hmg, g.hbase, g.hN, g.nd, fun x hx => ?_, fun x hx => ?_, fun x hx => ?_, fun x hx => ?_, b.kind, g.calm, g.room, g.clear, takes_none5⟩
  · show Vis (relS scope X.env.scope) x
    rcases hx with hx | hx | hx
    · obtain ⟨k', e, q⟩ := relS_lookup (sc := X.env.scope) hx
      rcases q with q | q
      · subst q; exact .inl e
      · cases q.1
    · obtain ⟨k', e, q⟩ := relS_lookup (sc := X.env.scope) hx
      rcases q with q | q
      · subst q; exact .inr (.inl e)
      · cases q.1
    · obtain ⟨k', e, q⟩ := relS_lookup (sc := X.env.scope) hx
      rcases q with q | q
      · subst q; exact .inr (.inr e)
      · rw [q.2] at e; exact .inr (.inl e)
  · show (relS scope X.env.scope).names.lookup x = _
    obtain ⟨k', e, q⟩ := relS_lookup (sc := X.env.scope) hx
    rcases q with q | q
    · subst q; exact e
    · cases q.1
  · show (relS scope X.env.scope).names.lookup x = _ ∨ (relS scope X.env.scope).names.lookup x = _
    rcases hx with hx | hx
    · obtain ⟨k', e, q⟩ := relS_lookup (sc := X.env.scope) hx
      rcases q with q | q
      · subst q; exact .inl e
      · cases q.1
    · obtain ⟨k', e, q⟩ := relS_lookup (sc := X.env.scope) hx
      rcases q with q | q
      · subst q; exact .inr e
      · rw [q.2] at e; exact .inl e
  · show L2.Loc (relS scope X.env.scope) x ∧ ((scope.names.lookup x == some .cell) = true ∨ (relS scope X.env.scope).names.lookup x = _)
    rcases hx with hx | hx
    · obtain ⟨k', e, q⟩ := relS_lookup (sc := X.env.scope) hx
      rcases q with q | q
      · subst q; exact ⟨.inl e, .inr e⟩
      · cases q.1
    · obtain ⟨k', e, q⟩ := relS_lookup (sc := X.env.scope) hx
      rcases q with q | q
      · subst q; exact ⟨.inr e, .inl (by rw [hx]; rfl)⟩
      · cases q.1

/-! ### targets -/
def gIs : List Nat → TGs
  | [] => gNil
  | i :: is => gCons (gName i) (gIs is)
def gT (K : PySem.W.Frag) : Tg → TG
  | .name i => gName i
  | .tup is => gTup K is.length (gIs is)
  | .nest true is j => gTup K 2 (gCons (gTup K is.length (gIs is)) (gCons (gName j) gNil))
  | .nest false is j => gTup K 2 (gCons (gName j) (gCons (gTup K is.length (gIs is)) gNil))
theorem mTgs_inv {is : List Nat} {es : List Expr} (h : mTgs N sc is es = true) : (is = [] ∧ es = []) ∨ ∃ i is' x q es', is = i :: is' ∧ es = .Name x q :: es' ∧ N[i]? = some x ∧ locB sc x = true ∧ mTgs N sc is' es' = true := by
  cases is with
  | nil => cases es with
    | nil => exact .inl ⟨rfl, rfl⟩
    | cons e es => simp [mTgs] at h
  | cons i is => cases es with
    | nil => simp [mTgs] at h
    | cons e es =>
      cases e <;> first | (simp [mTgs] at h; done) | skip
      rename_i x q
      simp only [mTgs, Bool.and_eq_true, decide_eq_true_eq] at h
      exact .inr ⟨i, is, x, q, es, rfl, rfl, h.1.1, h.1.2, h.2⟩
theorem g_names (g : Good L k N sc W X) : ∀ {is : List Nat} {es : List Expr}, mTgs N sc is es = true → PGs X es (gIs is) ∧ (assignEach es X.env).length = is.length ∧ (assignEach es X.env).findIdx? (·.1) = none := by
  intro is
  induction is with
  | nil =>
    intro es h
    rcases mTgs_inv h with ⟨_, rfl⟩ | ⟨_, _, _, _, _, e, _⟩
    · exact ⟨pgs_nil, rfl, rfl⟩
    · cases e
  | cons i is ih =>
    intro es h
    rcases mTgs_inv h with ⟨e, _⟩ | ⟨i', is', x, q, es', e, rfl, h1, h2, h3⟩
    · cases e
    · cases e
      obtain ⟨z1, z2, z3⟩ := ih h3
      obtain ⟨s1, s2⟩ := g.sto x (loc_of h2)
      refine ⟨pgs_cons (pg_name (by rw [g.hN]; exact g.nd) (by rw [g.hN]; exact h1) s1 s2) z1, ?_, ?_⟩
      · show ((false, _) :: assignEach es' X.env).length = _
        simp [z2]
      · show ((false, _) :: assignEach es' X.env).findIdx? (·.1) = none
        simp [List.findIdx?_cons, z3]
theorem g_tg (g : Good L k N sc W X) {tg : Tg} {e : Expr} (h : mTg N sc tg e = true) : PG X e (gT L.K tg) := by
  cases tg with
  | name i =>
    cases e <;> first | (simp [mTg] at h; done) | skip
    rename_i x q
    simp only [mTg, Bool.and_eq_true, decide_eq_true_eq] at h
    obtain ⟨s1, s2⟩ := g.sto x (loc_of h.2)
    exact pg_name (by rw [g.hN]; exact g.nd) (by rw [g.hN]; exact h.1) s1 s2
  | tup is =>
    cases e <;> first | (simp [mTg] at h; done) | skip
    simp only [mTg] at h
    obtain ⟨z1, z2, z3⟩ := g_names g h
    rw [← g.hK]
    exact pg_tup g.calm z1 z2 z3
  | nest l is j =>
    cases e <;> first | (cases l <;> (simp [mTg] at h; done)) | skip
    rename_i es kk pos
    rcases es with _ | ⟨e1, _ | ⟨e2, _ | ⟨e3, es⟩⟩⟩ <;> first | (cases l <;> (simp [mTg] at h; done)) | skip
    cases l with
    | true =>
      cases e1 <;> first | (simp [mTg] at h; done) | skip
      cases e2 <;> first | (simp [mTg] at h; done) | skip
      simp only [mTg, Bool.and_eq_true, decide_eq_true_eq] at h
      obtain ⟨⟨h1, h2⟩, h3⟩ := h
      obtain ⟨z1, z2, z3⟩ := g_names g h1
      obtain ⟨s1, s2⟩ := g.sto _ (loc_of h3)
      have p1 := pg_tup (pos := by assumption) (k := by assumption) g.calm z1 z2 z3
      rw [← g.hK]
      exact pg_tup g.calm (pgs_cons (pg_tup g.calm z1 z2 z3) (pgs_cons (pg_name (by rw [g.hN]; exact g.nd) (by rw [g.hN]; exact h2) s1 s2) pgs_nil)) rfl rfl
    | false =>
      cases e1 <;> first | (simp [mTg] at h; done) | skip
      cases e2 <;> first | (simp [mTg] at h; done) | skip
      simp only [mTg, Bool.and_eq_true, decide_eq_true_eq] at h
      obtain ⟨⟨h2, h3⟩, h1⟩ := h
      obtain ⟨z1, z2, z3⟩ := g_names g h1
      obtain ⟨s1, s2⟩ := g.sto _ (loc_of h3)
      rw [← g.hK]
      exact pg_tup g.calm (pgs_cons (pg_name (by rw [g.hN]; exact g.nd) (by rw [g.hN]; exact h2) s1 s2) (pgs_cons (pg_tup g.calm z1 z2 z3) pgs_nil)) rfl rfl
theorem put_all : ∀ {is : List Nat} {ds : List D} {vs : List V} {σ : L2.St} {ρ ρ' : Env} {F : Fp} {Q : L2.St → Hp → Prop}, Rel L fr G σ H ρ F → putAll ρ is ds = some ρ' → Reps L (av F G) H ds vs →
    (∀ σ' F', Rel L fr G σ' H ρ' F' → (∀ a, zz F' a → zz F a) → (∀ j, j ∉ is → σ'[j]? = σ[j]?) → Q σ' H) → gIs is vs σ H Q := by
  intro is
  induction is with
  | nil =>
    intro ds vs σ ρ ρ' F Q r h rs q
    cases ds with
    | nil =>
      simp only [Reps] at rs
      simp only [putAll, Option.some.injEq] at h
      subst h rs
      exact ⟨rfl, q σ F r (fun _ z => z) fun _ _ => rfl⟩
    | cons d ds => simp [putAll] at h
  | cons i is ih =>
    intro ds vs σ ρ ρ' F Q r h rs q
    cases ds with
    | nil => simp [putAll] at h
    | cons d ds =>
      simp only [Reps] at rs
      obtain ⟨v, r', rfl, h1, h2⟩ := rs
      simp only [putAll] at h
      obtain ⟨ρ1, g1, g2⟩ := Option.bind_eq_some_iff.mp h
      obtain ⟨_, r1⟩ := r.store g1 h1
      have sub : ∀ a, zz (F.put i []) a → zz F a := zz_put (by simp)
      refine ⟨v, r', rfl, ih r1 g2 (h2.less fun a z => z.imp (sub a) id) fun σ' F' r2 z1 z2 => q σ' F' r2 (fun a z => sub a (z1 a z)) fun j hj => ?_⟩
      rw [z2 j fun z => hj (List.mem_cons_of_mem _ z), List.getElem?_set_ne fun e => hj (by rw [e]; exact List.mem_cons_self)]
theorem putAll_len : ∀ {is : List Nat} {ds : List D} {ρ ρ' : Env}, putAll ρ is ds = some ρ' → ds.length = is.length := by
  intro is
  induction is with
  | nil => intro ds ρ ρ' h; cases ds with
    | nil => rfl
    | cons d ds => simp [putAll] at h
  | cons i is ih => intro ds ρ ρ' h; cases ds with
    | nil => simp [putAll] at h
    | cons d ds =>
      simp only [putAll] at h
      obtain ⟨ρ1, _, g2⟩ := Option.bind_eq_some_iff.mp h
      simp [ih g2]
theorem WRep.take {A : Addr → Prop} {nm : Bool} {ds : List D} {v : V} (h : WRep L A H nm (.tup ds) v) : ∃ a vs, v = .ref a ∧ SqT L.K H a vs ∧ Reps L A H ds vs := by
  rcases h with h | ⟨_, ds', a, vs, e1, e2, h1, h2⟩
  · simp only [Rep] at h
    obtain ⟨a, vs, e, h1, h2⟩ := h
    exact ⟨a, vs, e, h1.1, h2⟩
  · cases e1
    exact ⟨a, vs, e2, h1, h2⟩
theorem put_tg {tg : Tg} {d : D} {v : V} {Q : L2.St → Hp → Prop} (r : Rel L fr G σ H ρ F) {nm : Bool} (hn : nm = true ∨ ∀ i, tg ≠ .name i) (h : putT tg d ρ = some ρ') (rp : WRep L (av F G) H nm d v)
    (q : ∀ σ' F', Rel L fr G σ' H ρ' F' → (∀ a, zz F' a → zz F a) → (∀ j, j ∉ tgIx tg → σ'[j]? = σ[j]?) → Q σ' H) : gT L.K tg v σ H Q := by
  cases tg with
  | name i =>
    simp only [putT] at h
    have rp : Rep L (av F G) H d v := by
      rcases rp with rp | ⟨e, _⟩
      · exact rp
      · rcases hn with z | z
        · rw [e] at z; cases z
        · exact absurd rfl (z i)
    obtain ⟨_, r1⟩ := r.store h rp
    exact q _ _ r1 (zz_put (by simp)) fun j hj => by rw [List.getElem?_set_ne fun e => hj (by rw [e]; exact List.mem_cons_self)]
  | tup is =>
    simp only [putT] at h
    cases d <;> first | (cases h; done) | skip
    rename_i ds
    obtain ⟨a, vs, rfl, h1, h2⟩ := rp.take
    exact ⟨a, vs, rfl, h1, by rw [h2.len, putAll_len h], put_all r h h2 q⟩
  | nest l is j =>
    cases l with
    | true =>
      simp only [putT] at h
      split at h <;> first | (cases h; done) | skip
      rename_i ds e
      obtain ⟨ρ1, g1, g2⟩ := Option.bind_eq_some_iff.mp h
      have rp := rp.take
      simp only [Rep, Reps] at rp
      obtain ⟨a, vs, rfl, h1, v1, r1, rfl, ⟨b, us, rfl, h2, h3⟩, v2, r2, rfl, h4, rfl⟩ := rp
      refine ⟨a, _, rfl, h1, rfl, .ref b, [v2], rfl, b, us, rfl, h2.1, by rw [h3.len, putAll_len g1], ?_⟩
      refine put_all r g1 h3 fun σ1 F1 r1 sub1 c1 => ?_
      obtain ⟨_, r2⟩ := r1.store g2 (h4.less fun a z => z.imp (sub1 a) id)
      refine ⟨v2, [], rfl, rfl, q _ _ r2 (fun a z => sub1 a (zz_put (by simp) a z)) fun i hi => ?_⟩
      simp only [tgIx, List.mem_append, List.mem_singleton, not_or] at hi
      rw [List.getElem?_set_ne (Ne.symm hi.2), c1 i hi.1]
    | false =>
      simp only [putT] at h
      split at h <;> first | (cases h; done) | skip
      rename_i e ds
      obtain ⟨ρ1, g1, g2⟩ := Option.bind_eq_some_iff.mp h
      have rp := rp.take
      simp only [Rep, Reps] at rp
      obtain ⟨a, vs, rfl, h1, v1, r1, rfl, h4, v2, r2, rfl, ⟨b, us, rfl, h2, h3⟩, rfl⟩ := rp
      obtain ⟨_, r1⟩ := r.store g1 h4
      have sub1 : ∀ a, zz (F.put j []) a → zz F a := zz_put (by simp)
      refine ⟨a, _, rfl, h1, rfl, v1, [.ref b], rfl, ?_⟩
      refine ⟨.ref b, [], rfl, b, us, rfl, h2.1, by rw [h3.len, putAll_len g2], ?_⟩
      refine put_all r1 g2 (h3.less fun a z => z.imp (sub1 a) id) fun σ1 F1 r2 sub2 c1 => ⟨rfl, q _ _ r2 (fun a z => sub1 a (sub2 a z)) fun i hi => ?_⟩
      simp only [tgIx, List.mem_append, List.mem_singleton, not_or] at hi
      rw [c1 i hi.1, List.getElem?_set_ne (Ne.symm hi.2)]

/-! ### the block's own names -/
theorem wipe_in {σ : L2.St} {i : Nat} : ∀ {vs : List Nat}, i ∈ vs → (wipe σ vs)[i]? = if i < σ.length then some none else none
  | [], h => by cases h
  | v :: vs, h => by
    unfold wipe
    rcases List.mem_cons.mp h with e | e
    · subst e
      rw [List.getElem?_set]
      simp [wipe_length]
    · by_cases hv : v = i
      · subst hv
        rw [List.getElem?_set]
        simp [wipe_length]
      · rw [List.getElem?_set_ne hv]
        exact wipe_in e
theorem wipe_eq {σ σ' : L2.St} {vs : List Nat} (hl : σ'.length = σ.length) (h : ∀ j, j ∉ vs → σ'[j]? = (wipe σ vs)[j]?) : wipe σ' vs = wipe σ vs := by
  refine List.ext_getElem? fun i => ?_
  by_cases hi : i ∈ vs
  · rw [wipe_in hi, wipe_in hi, hl]
  · rw [wipe_out hi, h i hi]
def Fp.wipe (F : Fp) (own : List Nat) : Fp := fun i => if i ∈ own then [] else F i
theorem zz_wipe {F : Fp} {own : List Nat} : ∀ a, zz (F.wipe own) a → zz F a := fun a ⟨j, h⟩ => by
  unfold Fp.wipe at h
  split at h
  · cases h
  · exact ⟨j, h⟩
theorem Rel.wipe (r : Rel L fr G σ H ρ F) (own : List Nat) : Rel L fr G (L2.wipe σ own) H (wipeS ρ own) (F.wipe own) := by
  have sub : ∀ j a, a ∈ F.wipe own j → a ∈ F j := fun j a h => by
    unfold Fp.wipe at h
    split at h
    · cases h
    · exact h
  refine ⟨by rw [wipeS_length, L2.wipe_length]; exact r.len, fun i => ?_, fun i j a h1 h2 => r.apart i j a (sub i a h1) (sub j a h2), fun i a h => r.gap i a (sub i a h), fun i a h => r.home i a (sub i a h), r.kept, r.low, r.gin, r.lmG⟩
  rw [getS_wipe]
  by_cases hi : i ∈ own
  · rw [if_pos hi]
    show F.wipe own i = []
    unfold Fp.wipe
    rw [if_pos hi]
  · rw [if_neg hi, L2.wipe_out hi]
    have e : F.wipe own i = F i := by unfold Fp.wipe; rw [if_neg hi]
    rw [e]
    exact (r.slot i).keeps (fun _ _ q => q) fun a z => .inl (z.imp (zz_wipe a) id)
/-- the caller's names again -/
theorem Rel.back {own : List Nat} (r0 : Rel L fr1 G1 σ H1 ρ1 F1) (hp : (own.all fun i => plainS (getS ρ1 i)) = true) {E : Addr → Prop} (hE : ∀ a, E a → H1 a = none) (e : Ext (zz F1) H1 (zz F) H)
    (r : Rel L fr1 (fun a => G1 a ∨ E a) (L2.wipe σ own) H (wipeS ρ own) F) : Rel L fr1 (fun a => G1 a ∨ E a) σ H (back ρ1 ρ own) F := by
  have hl : ρ1.length = ρ.length := by have := r.len; rw [wipeS_length, L2.wipe_length] at this; rw [this]; exact r0.len
  refine ⟨by rw [back_length, ← hl]; exact r0.len, fun i => ?_, r.apart, r.gap, r.home, r.kept, r.low, r.gin, r.lmG⟩
  rw [getS_back hl]
  have q := r.slot i
  rw [getS_wipe] at q
  by_cases hi : i ∈ own
  · rw [if_pos hi] at q ⊢
    have hF : F i = [] := q
    have p := List.all_eq_true.mp hp i hi
    have z := r0.slot i
    cases es : getS ρ1 i with
    | none => exact hF
    | val d =>
      rw [es] at z
      obtain ⟨_, v, z1, z2⟩ := z
      refine ⟨hF, v, z1, Rep.ext e r0.isL r0.zA (fun a h => ?_) z2⟩
      rcases h with h | h | h
      · exact (e.zz a h).imp .inl id
      · exact .inl (.inr h)
      · exact .inr (hE a h)
    | own d => rw [es] at p; cases p
    | ref d => rw [es] at p; cases p
    | lock b d => rw [es] at p; cases p
  · rw [if_neg hi] at q ⊢
    rw [L2.wipe_out hi] at q
    exact q
end
end Tk

set_option Elab.async false
set_option linter.all false
set_option maxRecDepth 100000
set_option maxHeartbeats 2000000
namespace Tk
open PySem PySem.Spec PyProof.Rows L2

section
variable {L : Lk} {t : Tx} {k : Nat} {N : List Str} {sc : Scope} {W : WX} {X : Cx} {C : Cl}
variable {fr fr1 : Fr} {G G1 : Addr → Prop} {σ σ' : L2.St} {H H' H1 : Hp} {ρ ρ' ρ1 : Env} {F F' F1 : Fp}

/-- a list that is kept apart is written -/
theorem ext_at {p : Addr} {vs us : List V} (h : H p = some (.lst us)) : Ext (fun a => a = p) H (fun a => a = p) (upd H p (.lst vs)) := by
  refine ⟨fun a o ha n => by rw [upd_ne n]; exact ha, fun a z => .inl z, fun a ha => ?_⟩
  by_cases e : a = p
  · rw [e, upd_same]; simp
  · rw [upd_ne e]; exact ha
theorem isL_at {p : Addr} {us : List V} (h : H p = some (.lst us)) : ∀ a, a = p → IsL H a := fun a e => ⟨us, e ▸ h⟩
theorem Rel.updG (r : Rel L fr G σ H ρ F) {p : Addr} {vs us : List V} (h : H p = some (.lst us)) (hG : G p) (h0 : fr.H0 p = none) (hl : ∀ i, fr.lm i ≠ some p) : Rel L fr G σ (upd H p (.lst vs)) ρ F := by
  have x := ext_at (vs := vs) h
  have rp : ∀ {ds : List D} {ws : List V}, Reps L (av F G) H ds ws → Reps L (av F G) (upd H p (.lst vs)) ds ws := fun z => Reps.ext x (isL_at h) (fun a e => .inr (e ▸ hG)) (fun a q => .inl q) z
  have nF : ∀ {i : Nat} {a : Addr}, a ∈ F i → a ≠ p := fun {i a} z e => r.gap i a z (e ▸ hG)
  have own : ∀ {i : Nat} {d : D} {q : Addr → Prop}, OwnAt L (av F G) H σ[i]? d (F i) q → OwnAt L (av F G) (upd H p (.lst vs)) σ[i]? d (F i) q := fun {i d q} ⟨b, us, es, g1, g2, g3, g4, g5, g6⟩ =>
    ⟨b, us, es, g1, g2, g3, by rw [upd_ne (nF (i := i) (by rw [g3]; simp))]; exact g4, rp g5, g6⟩
  refine ⟨r.len, fun i => ?_, r.apart, r.gap, r.home, fun a o ha n => ?_, fun a ha => x.there a (r.low a ha), fun a ha => x.there a (r.gin a ha), r.lmG⟩
  · have q := r.slot i
    cases ei : getS ρ i with
    | none => rw [ei] at q; exact q
    | val d => rw [ei] at q; obtain ⟨g1, v, g2, g3⟩ := q; exact ⟨g1, v, g2, Rep.ext x (isL_at h) (fun a e => .inr (e ▸ hG)) (fun a q => .inl q) g3⟩
    | own d => rw [ei] at q; exact own q
    | ref d => rw [ei] at q; exact own q
    | lock b d =>
      rw [ei] at q
      obtain ⟨g0, c, us, es, g1, g2, g3, g4, g5, g6⟩ := q
      have hb : c ≠ p := fun z => hl i (z ▸ g6.1)
      exact ⟨g0, c, us, es, g1, g2, g3, by rw [upd_ne hb]; exact g4, rp g5, g6⟩
  · have : a ≠ p := fun e => by rw [e, h0] at ha; cases ha
    rw [upd_ne this]; exact r.kept a o ha n

def specIf (L : Lk) (W : WX) (C : Cl) (e : Eo) : TT := fun σ H Q => ∃ fr G ρ F, Rel L fr G σ H ρ F ∧ Fin (denIf C e ρ) (fun b ρ' => ∀ H' F', Ext (zz F) H (zz F') H' → Rel L fr G σ H' ρ' F' → Q b H') (EC L W fr G σ H F)
theorem _root_.L2.PTs.imp {X : Cx} {e : List Expr} {t t' : TT} (h : PTs X e t) (k : ∀ σ H Q, t' σ H Q → t σ H Q) : PTs X e t' := ⟨fun pins s σ H Q I q => h.run pins s σ H Q I (k σ H Q q)⟩
theorem if_none : PTs X [] (specIf L W C .none) := pts_nil.imp fun σ H Q ⟨fr, G, ρ, F, r, f⟩ => by
  simp only [denIf] at f
  exact f H F (Ext.refl _ _) r
theorem if_some {e : E} {pe : Expr} (h : PT X pe (specT L W C e)) : PTs X [pe] (specIf L W C (.some e)) := (pts_one h).imp fun σ H Q ⟨fr, G, ρ, F, r, f⟩ => by
  simp only [denIf] at f
  exact ⟨fr, G, ρ, F, r, f⟩

theorem putAll_length : ∀ {is : List Nat} {ds : List D} {ρ ρ' : Env}, putAll ρ is ds = some ρ' → ρ'.length = ρ.length := by
  intro is
  induction is with
  | nil => intro ds ρ ρ' h; cases ds with
    | nil => simp only [putAll, Option.some.injEq] at h; rw [h]
    | cons d ds => simp [putAll] at h
  | cons i is ih => intro ds ρ ρ' h; cases ds with
    | nil => simp [putAll] at h
    | cons d ds =>
      simp only [putAll] at h
      obtain ⟨ρ1, g1, g2⟩ := Option.bind_eq_some_iff.mp h
      rw [ih g2]
      unfold putS at g1
      split at g1 <;> cases g1
      simp
theorem putT_len {tg : Tg} {d : D} {ρ ρ' : Env} (h : putT tg d ρ = some ρ') : ρ.length = ρ'.length := by
  cases tg with
  | name i =>
    simp only [putT, putS] at h
    split at h <;> cases h
    simp
  | tup is =>
    simp only [putT] at h
    cases d <;> first | (cases h; done) | skip
    exact (putAll_length h).symm
  | nest l is j =>
    have one : ∀ {ρ ρ' : Env} {j : Nat} {s : Tk.Slot}, putS ρ j s = some ρ' → ρ'.length = ρ.length := fun {ρ ρ' j s} h => by
      unfold putS at h
      split at h <;> cases h
      simp
    cases l with
    | true =>
      simp only [putT] at h
      split at h <;> first | (cases h; done) | skip
      obtain ⟨ρ1, g1, g2⟩ := Option.bind_eq_some_iff.mp h
      rw [one g2, putAll_length g1]
    | false =>
      simp only [putT] at h
      split at h <;> first | (cases h; done) | skip
      obtain ⟨ρ1, g1, g2⟩ := Option.bind_eq_some_iff.mp h
      rw [putAll_length g2, one g1]
/-- a comprehension's loop, read -/
theorem comp_read {elt : E} {tg : Tg} {it : Tk.It} {ifs : Eo} {own : List Nat} {b : Bool} (ho : ∀ j ∈ tgIx tg, j ∈ own) (hn : nmIt it = true ∨ ∀ i, tg ≠ .name i) {Q : VK} (q : specG L W C true (.comp elt tg it ifs own) σ H Q) :
    tLc (specIt L W C it) (gT L.K tg) (specIf L (fun _ _ _ _ => False) C ifs) (specG L (fun _ _ _ _ => False) C false elt) own σ H Q := by
  obtain ⟨fr, G, ρ, F, r, f⟩ := q
  simp only [denE] at f
  refine ⟨fr, G, ρ, F, r, (Fin.bind.mp f).mono (fun x ρ1 q J H1 fr1 G1 F1 w r1 D hD => ?_) fun _ _ _ z => z⟩
  split at q
  · rename_i hp
    have q := Fin.bind.mp q
    have hE : ∀ b, b = D → H1 b = none := fun b e => e ▸ hD
    have h0 : fr1.H0 D = none := by rw [w.h0]; exact r.h0 (by
      cases e : H D with
      | none => rfl
      | some o => exact absurd hD (w.ext.there D (by rw [e]; simp)))
    have hlm : ∀ i, fr1.lm i ≠ some D := fun i e => r1.gin D (r1.lmG i D e) hD
    refine ⟨fun i m Hi => m = x.1.length - i ∧ i ≤ x.1.length ∧ ∃ ρi Fi acc accV, Rel L fr1 (fun a => G1 a ∨ a = D) (L2.wipe σ own) Hi (wipeS ρi own) Fi ∧ Hi D = some (.lst accV) ∧ Reps L (av Fi fun a => G1 a ∨ a = D) Hi acc accV ∧ Ext (zz F1) H1 (zz Fi) Hi ∧
      Fin (compD (putT tg) own (denIf C ifs) (denE C elt) acc (x.1.drop i) ρi) (fun a ρ => Fin ((ofO (unlockAll (back ρ1 ρ own) x.2) ρ).bind fun ρ3 _ => .ok (.lst a) ρ3) (RQ L fr G σ H F true Q) (fun _ _ _ => True)) (fun _ _ _ => True), ⟨x.1.length, by simp, Nat.zero_le _, ρ1, F1.wipe own, [], [], (r1.laidG hD).wipe own, upd_same, .nil, (Ext.laid hD).less zz_wipe, ?_⟩, ?_⟩
    · rw [List.drop_zero]
      exact q.mono (fun a ρ' z => z.mono (fun _ _ z => z) fun _ _ _ _ => trivial) fun _ _ _ _ => trivial
    · rintro i m Hi ⟨rfl, hi, ρi, Fi, acc, accV, ri, hDi, ra, ei, f⟩
      have Y := w.src (fun a => a = D) (fun _ => False) _ _ _ _ hE vol0 ri ei.or0 i
      have accLen : accV.length = acc.length := ra.len
      by_cases hlt : i < x.1.length
      · right
        have hd : x.1.drop i = x.1[i] :: x.1.drop (i + 1) := List.drop_eq_getElem_cons hlt
        rw [hd] at f
        simp only [compD] at f
        obtain ⟨hgo, hy⟩ := Y.2 x.1[i] (List.getElem?_eq_getElem hlt)
        refine ⟨hgo, fun H' => i + 1 ≤ x.1.length ∧ ∃ ρi Fi acc accV, Rel L fr1 (fun a => G1 a ∨ a = D) (L2.wipe σ own) H' (wipeS ρi own) Fi ∧ H' D = some (.lst accV) ∧ Reps L (av Fi fun a => G1 a ∨ a = D) H' acc accV ∧ Ext (zz F1) H1 (zz Fi) H' ∧
          Fin (compD (putT tg) own (denIf C ifs) (denE C elt) acc (x.1.drop (i + 1)) ρi) (fun a ρ => Fin ((ofO (unlockAll (back ρ1 ρ own) x.2) ρ).bind fun ρ3 _ => .ok (.lst a) ρ3) (RQ L fr G σ H F true Q) (fun _ _ _ => True)) (fun _ _ _ => True), fun H' ⟨z1, z2⟩ => ⟨_, by omega, rfl, z1, z2⟩, fun v H' hyd => ?_⟩
        obtain ⟨kp, rp⟩ := hy v H' hyd
        have xk : Ext (zz Fi) Hi (zz Fi) H' := ⟨fun a o h _ => kp a o h, fun _ h => .inl h, fun a h => ne_keeps kp h⟩
        have ri' := ri.keeps kp
        cases ep : putT tg x.1[i] (wipeS ρi own) with
        | none => rw [ep] at f; exact f.elim
        | some ρ2 =>
          rw [ep] at f
          refine put_tg ri' hn ep rp fun σ2 F2 r2 zsub hσ => ?_
          have hσw : L2.wipe σ2 own = L2.wipe σ own := by
            refine wipe_eq (by rw [← r2.len]; rw [← L2.wipe_length σ own, ← ri'.len, (putT_len ep)]) fun j hj => hσ j fun z => hj (ho j z)
          refine ⟨hσw, fr1, _, ρ2, F2, r2, ?_⟩
          have f1 := (Fin.bind.mp f).noErr (N' := EC L (fun _ _ _ _ => False) fr1 (fun a => G1 a ∨ a = D) σ2 H' F2)
          refine f1.mono (fun b ρ3 f H3 F3 e3 r3 => ?_) fun _ _ _ z => z
          have e13 : Ext (zz F1) H1 (zz F3) H3 := (ei.trans (xk.less zsub)).trans e3
          have x3 : Ext (zz Fi) Hi (zz F3) H3 := (xk.less zsub).trans e3
          have nFD : ¬ zz Fi D := fun ⟨j, z⟩ => ri.gap j D z (.inr rfl)
          have hD3 : H3 D = some (.lst accV) := x3.keep D _ hDi nFD
          have ra3 : Reps L (av F3 fun a => G1 a ∨ a = D) H3 acc accV := ri.reps x3 ra
          have wipeTo : ∀ {Ft : Fp} {ρt : Env} {Ht : Hp}, Rel L fr1 (fun a => G1 a ∨ a = D) σ2 Ht ρt Ft → Rel L fr1 (fun a => G1 a ∨ a = D) (L2.wipe σ own) Ht (wipeS ρt own) (Ft.wipe own) := fun {Ft ρt Ht} z => by
            have := z.wipe own
            rw [hσw] at this
            exact this
          cases b with
          | false =>
            simp only [Bool.false_eq_true, if_false] at f ⊢
            exact ⟨hlt, ρ3, F3.wipe own, acc, accV, wipeTo r3, hD3, ra3.less fun a z => z.imp (zz_wipe a) id, e13.less zz_wipe, f⟩
          | true =>
            simp only [if_true] at f ⊢
            refine ⟨fr1, _, ρ3, F3, r3, ?_⟩
            have f2 := (Fin.bind.mp f).noErr (N' := EC L (fun _ _ _ _ => False) fr1 (fun a => G1 a ∨ a = D) σ2 H3 F3)
            refine f2.mono (fun y ρ4 f => RQ.of r3.lmG fun yv H4 F4 e4 r4 ry => ?_) fun _ _ _ z => z
            have nFD3 : ¬ zz F3 D := fun ⟨j, z⟩ => r3.gap j D z (.inr rfl)
            have hD4 : H4 D = some (.lst accV) := e4.keep D _ hD3 nFD3
            split at f
            · rename_i hb
              refine ⟨accV, hD4, by rw [accLen, ← big_line]; exact hb, hlt, ρ4, F4.wipe own, acc ++ [y], accV ++ [yv], ?_, upd_same, ?_, ?_, f⟩
              · exact (wipeTo r4).updG hD4 (.inr rfl) h0 hlm
              · have xx := ext_at (vs := accV ++ [yv]) hD4
                have : Reps L (av F4 fun a => G1 a ∨ a = D) H4 (acc ++ [y]) (accV ++ [yv]) := (r3.reps e4 ra3).append (.cons ry .nil)
                exact Reps.ext xx (isL_at hD4) (fun a e => .inr (.inr e)) (fun a q => .inl (q.imp (zz_wipe a) id)) this
              · have e14 := e13.trans e4
                exact (show Ext (zz F1) H1 (zz F4) (upd H4 D (.lst (accV ++ [yv]))) from ⟨fun a o ha n => by rw [upd_ne (fun e => by rw [e, hD] at ha; cases ha)]; exact e14.keep a o ha n, e14.zz, fun a ha => (ext_at hD4).there a (e14.there a ha)⟩).less zz_wipe
            · exact f.elim
      · left
        have e : i = x.1.length := by omega
        subst e
        rw [List.drop_length] at f
        simp only [compD] at f
        refine ⟨Y.1 rfl, ?_⟩
        obtain ⟨ρ3, hu, q⟩ := (Fin.bind.mp f).ofO
        have rb := r1.back hp hE ei ri
        obtain ⟨F2, r2, e2, sub⟩ := w.unl (fun a => a = D) _ _ _ _ _ hE rb ei hu
        have nG : ¬ G D := fun z => by
          have := r1.gin D (w.gg D z)
          exact this hD
        exact q.new acc D accV Hi F2 rfl e2 r2 hDi nG (w.ext.none hD) (ra.less sub)
  · exact q.elim
theorem own_map {N : List Str} {own : List Nat} : (ownOf N own).map (·.2) = own := by
  unfold ownOf
  rw [List.map_map]
  exact List.map_id'' (fun _ => rfl) own
theorem tgOwn_of {tg : Tg} {own : List Nat} (h : mTgOwn tg own = true) : ∀ j ∈ tgIx tg, j ∈ own := by
  cases tg with
  | name i => intro j hj; simp only [tgIx, List.mem_singleton] at hj; subst hj; simpa [mTgOwn] using h
  | tup is => intro j hj; simp only [mTgOwn, List.all_eq_true] at h; simpa using h j hj
  | nest l is k =>
    intro j hj
    simp only [mTgOwn, Bool.and_eq_true, List.all_eq_true] at h
    simp only [tgIx, List.mem_append, List.mem_singleton] at hj
    rcases hj with z | z
    · simpa using h.1 j z
    · subst z; simpa using h.2
/-- [elt for tg in it if ..] -/
theorem nm_tup {tg : Tg} {it : Tk.It} {N : List Str} {sc : Scope} {p : Expr} (h : mTg N sc tg p = true) (h2 : tupTg it p = true) : nmIt it = true ∨ ∀ i, tg ≠ .name i := by
  cases it with
  | enum e =>
    refine .inr fun i z => ?_
    subst z
    cases p <;> first | (simp [tupTg] at h2; done) | (simp [mTg] at h; done)
  | zip a b =>
    refine .inr fun i z => ?_
    subst z
    cases p <;> first | (simp [tupTg] at h2; done) | (simp [mTg] at h; done)
  | _ => exact .inl rfl
theorem s_comp (g : Good L k N sc W X) {elt : E} {tg : Tg} {it : Tk.It} {ifs : Eo} {own : List Nat} {bb : Bool} {pe ptg pit : Expr} {pifs : List Expr} {scope : Scope} {pos : Pos} (hb : blkC N sc scope (ownOf N own) = true) (ht : mTg N scope tg ptg = true) (ho : mTgOwn tg own = true) (hn : nmIt it = true ∨ ∀ i, tg ≠ .name i)
    (hi : PI X ptg pit (specIt L W C it)) (hs : ∀ x, foldedSetIterable pit X.env x = pure x)
    (he : ∀ X', Good L k N scope (fun _ _ _ _ => False) X' → PE X' pe (specG L (fun _ _ _ _ => False) C bb elt))
    (hf : ∀ X', Good L k N scope (fun _ _ _ _ => False) X' → PTs X' pifs (specIf L (fun _ _ _ _ => False) C ifs)) :
    PE X (.ListComp pe [⟨ptg, pit, pifs, 0⟩] scope pos) (specG L W C true (.comp elt tg it ifs own)) := by
  refine (pe_lc (own := ownOf N own) g.calm (by rw [g.hN]; exact g.nd) hi (g.ok hb) (fun s H A cls fp => g_tg (g.blk hb s H A cls fp) ht) (fun s H A cls fp => hf _ (g.blk hb s H A cls fp)) (fun s H A cls fp => s_weak (he _ (g.blk hb s H A cls fp))) hs).imp fun σ H Q q => ?_
  rw [own_map]
  exact comp_read (b := true) (tgOwn_of ho) hn q

/-! ### two clauses -/
theorem wipe_wipe {σ : L2.St} {vs own : List Nat} (h : ∀ j ∈ vs, j ∈ own) : L2.wipe (L2.wipe σ vs) own = L2.wipe σ own := by
  refine wipe_eq (by rw [L2.wipe_length]) fun j hj => ?_
  rw [L2.wipe_out hj, L2.wipe_out fun z => hj (h j z)]
theorem wipeS_wipe {ρ : Tk.Env} {vs own : List Nat} (h : ∀ j ∈ vs, j ∈ own) : wipeS (wipeS ρ vs) own = wipeS ρ own := by
  have ext : ∀ {a b : Tk.Env}, a.length = b.length → (∀ i, getS a i = getS b i) → a = b := fun {a b} hl h => by
    refine List.ext_getElem hl fun i h1 h2 => ?_
    have := h i
    simpa [getS, List.getD, h1, h2] using this
  refine ext (by simp only [wipeS_length]) fun i => ?_
  rw [getS_wipe (ρ := wipeS ρ vs), getS_wipe (ρ := ρ) (own := own)]
  by_cases hi : i ∈ own
  · rw [if_pos hi, if_pos hi]
  · rw [if_neg hi, if_neg hi, getS_wipe, if_neg fun z => hi (h i z)]
theorem noIf {Q : Bool → Hp → Prop} (r : Rel L fr G σ H ρ F) (hx : ∀ H' F', Ext (zz F) H (zz F') H' → Rel L fr G σ H' ρ F' → Q true H') : specIf L W C .none σ H Q :=
  ⟨fr, G, ρ, F, r, by simp only [denIf]; exact hx⟩
/-- a comprehension's end -/
def CEnd (L : Lk) (fr : Fr) (G : Addr → Prop) (σ : L2.St) (H : Hp) (F : Fp) (ρ1 : Tk.Env) (own locks : List Nat) (Q : VK) : List D → Tk.Env → Prop := fun a ρ => Fin ((ofO (unlockAll (back ρ1 ρ own) locks) ρ).bind fun ρ3 _ => .ok (.lst a) ρ3) (RQ L fr G σ H F true Q) (fun _ _ _ => True)
def C2 (C : Cl) (elt : E) (tg : Tg) (tg1 : Tg) (it1 : Tk.It) (ifs : Eo) (own : List Nat) : List D → List D → Tk.Env → R (List D) := compD2 (putT tg) own (denIt C it1) (putT tg1) (tgIx tg1) (denIf C ifs) (denE C elt)
theorem comp2_read {elt : E} {tg tg1 : Tg} {it it1 : Tk.It} {ifs : Eo} {own : List Nat} (ho : ∀ j ∈ tgIx tg, j ∈ own) (ho1 : ∀ j ∈ tgIx tg1, j ∈ own) (hn : nmIt it = true ∨ ∀ i, tg ≠ .name i) (hn1 : nmIt it1 = true ∨ ∀ i, tg1 ≠ .name i) {Q : VK} (q : specG L W C true (.comp2 elt tg it tg1 it1 ifs own) σ H Q) :
    tLc2 (specIt L W C it) (gT L.K tg) (specIf L (fun _ _ _ _ => False) C .none) (specIt L (fun _ _ _ _ => False) C it1) (gT L.K tg1) (specIf L (fun _ _ _ _ => False) C ifs) (specG L (fun _ _ _ _ => False) C false elt) own (tgIx tg1) σ H Q := by
  obtain ⟨fr, G, ρ, F, r, f⟩ := q
  simp only [denE] at f
  refine ⟨fr, G, ρ, F, r, (Fin.bind.mp f).mono (fun x ρ1 q J H1 fr1 G1 F1 w r1 D hD => ?_) fun _ _ _ z => z⟩
  split at q
  · rename_i hp
    have q := Fin.bind.mp q
    have hE : ∀ b, b = D → H1 b = none := fun b e => e ▸ hD
    have h0 : fr1.H0 D = none := by rw [w.h0]; exact r.h0 (by
      cases e : H D with
      | none => rfl
      | some o => exact absurd hD (w.ext.there D (by rw [e]; simp)))
    have hlm : ∀ i, fr1.lm i ≠ some D := fun i e => r1.gin D (r1.lmG i D e) hD
    have q : Fin (C2 C elt tg tg1 it1 ifs own [] x.1 ρ1) (CEnd L fr G σ H F ρ1 own x.2 Q) (fun _ _ _ => True) := q.mono (fun a ρ' z => Fin.mono z (fun _ _ z => z) fun _ _ _ _ => trivial) fun _ _ _ _ => trivial
    obtain ⟨Nx, hNx⟩ : ∃ Nx : Nat → Hp → Prop, Nx = fun i H' => i ≤ x.1.length ∧ ∃ ρi Fi acc accV, Rel L fr1 (fun a => G1 a ∨ a = D) (L2.wipe σ own) H' (wipeS ρi own) Fi ∧ H' D = some (.lst accV) ∧ Reps L (av Fi fun a => G1 a ∨ a = D) H' acc accV ∧ Ext (zz F1) H1 (zz Fi) H' ∧
      Fin (C2 C elt tg tg1 it1 ifs own acc (x.1.drop i) ρi) (CEnd L fr G σ H F ρ1 own x.2 Q) (fun _ _ _ => True) := ⟨_, rfl⟩
    have mk : ∀ {i : Nat} {H' : Hp} {ρi : Tk.Env} {Fi : Fp} {acc : List Tk.D} {accV : List V}, i ≤ x.1.length → Rel L fr1 (fun a => G1 a ∨ a = D) (L2.wipe σ own) H' (wipeS ρi own) Fi → H' D = some (.lst accV) → Reps L (av Fi fun a => G1 a ∨ a = D) H' acc accV → Ext (zz F1) H1 (zz Fi) H' →
      Fin (C2 C elt tg tg1 it1 ifs own acc (x.1.drop i) ρi) (CEnd L fr G σ H F ρ1 own x.2 Q) (fun _ _ _ => True) → Nx i H' := fun {i H' ρi Fi acc accV} a b c d e f => by rw [hNx]; exact ⟨a, ρi, Fi, acc, accV, b, c, d, e, f⟩
    refine ⟨fun i m Hi => m = x.1.length - i ∧ Nx i Hi, ⟨x.1.length, by simp, mk (Nat.zero_le _) ((r1.laidG hD).wipe own) upd_same .nil ((Ext.laid hD).less zz_wipe) (by rw [List.drop_zero]; exact q)⟩, ?_⟩
    rintro i m Hi ⟨rfl, hN⟩
    rw [hNx] at hN
    obtain ⟨hi, ρi, Fi, acc, accV, ri, hDi, ra, ei, f⟩ := hN
    have Y := w.src (fun a => a = D) (fun _ => False) _ _ _ _ hE vol0 ri ei.or0 i
    by_cases hlt : i < x.1.length
    · right
      have hd : x.1.drop i = x.1[i] :: x.1.drop (i + 1) := List.drop_eq_getElem_cons hlt
      rw [hd] at f
      unfold C2 at f
      simp only [compD2] at f
      obtain ⟨hgo, hy⟩ := Y.2 x.1[i] (List.getElem?_eq_getElem hlt)
      refine ⟨hgo, Nx (i + 1), fun H' z => ⟨_, by omega, rfl, z⟩, fun v H' hyd => ?_⟩
      obtain ⟨kp, rp⟩ := hy v H' hyd
      have xk : Ext (zz Fi) Hi (zz Fi) H' := ⟨fun a o h _ => kp a o h, fun _ h => .inl h, fun a h => ne_keeps kp h⟩
      have ri' := ri.keeps kp
      cases ep : putT tg x.1[i] (wipeS ρi own) with
      | none => rw [ep] at f; exact f.elim
      | some ρ2 =>
        rw [ep] at f
        refine put_tg ri' hn ep rp fun σ2 F2 r2 zsub hσ => ?_
        have hσw : L2.wipe σ2 own = L2.wipe σ own := by
          refine wipe_eq (by rw [← r2.len]; rw [← L2.wipe_length σ own, ← ri'.len, (putT_len ep)]) fun j hj => hσ j fun z => hj (ho j z)
        refine ⟨hσw, noIf r2 fun H3 F3 e3 r3 => ?_⟩
        rw [if_pos rfl]
        have f1 := (Fin.bind.mp f).noErr (N' := EC L (fun _ _ _ _ => False) fr1 (fun a => G1 a ∨ a = D) σ2 H3 F3)
        refine ⟨fr1, _, ρ2, F3, r3, f1.mono (fun y ρ4 f J1 H4 fr2 G2 F4 w1 r4 => ?_) fun _ _ _ z => z⟩
        split at f
        · rename_i hx
          have hx : y.2 = [] := List.isEmpty_iff.mp hx
          obtain ⟨s1, s2⟩ := w1.same hx
          subst s1 s2
          have f := Fin.bind.mp f
          have e14 : Ext (zz F1) H1 (zz F4) H4 := ((ei.trans (xk.less zsub)).trans e3).trans w1.ext
          have xi4 : Ext (zz Fi) Hi (zz F4) H4 := ((xk.less zsub).trans e3).trans w1.ext
          have nFD : ¬ zz Fi D := fun ⟨j, z⟩ => ri.gap j D z (.inr rfl)
          have hD4 : H4 D = some (.lst accV) := xi4.keep D _ hDi nFD
          have ra4 : Reps L (av F4 fun a => G1 a ∨ a = D) H4 acc accV := ri.reps xi4 ra
          have vol : Vol fr2 (fun a => G1 a ∨ a = D) H4 fun a => a = D := fun b z => by subst z; exact ⟨.inr rfl, ⟨_, hD4⟩, hlm⟩
          refine ⟨fun j k Hj => k = y.1.length - j ∧ j ≤ y.1.length ∧ ∃ ρj Fj acc accV, Rel L fr2 (fun a => G1 a ∨ a = D) (L2.wipe σ2 (tgIx tg1)) Hj (wipeS ρj (tgIx tg1)) Fj ∧ Hj D = some (.lst accV) ∧ Reps L (av Fj fun a => G1 a ∨ a = D) Hj acc accV ∧ Ext (zz F1) H1 (zz Fj) Hj ∧ Ext (fun a => zz F4 a ∨ a = D) H4 (fun a => zz Fj a ∨ a = D) Hj ∧
            Fin (compD (putT tg1) (tgIx tg1) (denIf C ifs) (denE C elt) acc (y.1.drop j) ρj) (fun acc' ρ3 => Fin (C2 C elt tg tg1 it1 ifs own acc' (x.1.drop (i + 1)) ρ3) (CEnd L fr G σ H F ρ1 own x.2 Q) (fun _ _ _ => True)) (fun _ _ _ => True), ⟨y.1.length, by simp, Nat.zero_le _, ρ4, F4.wipe (tgIx tg1), acc, accV, r4.wipe _, hD4, ra4.less fun a z => z.imp (zz_wipe a) id, e14.less zz_wipe, (Ext.refl _ _).less fun a z => z.imp (zz_wipe a) id, by rw [List.drop_zero]; exact f⟩, ?_⟩
          clear f f1
          rintro j k Hj ⟨rfl, hj, ρj, Fj, acc, accV, rj, hDj, raj, ej, vj, f⟩
          have Yj := w1.src (fun _ => False) (fun a => a = D) _ _ _ _ (fun _ z => z.elim) vol (rj.lessG (fun i a z => .inl (rj.lmG i a z)) fun a z => z.elim id fun z => z.elim) vj j
          have accLen : accV.length = acc.length := raj.len
          by_cases hlt1 : j < y.1.length
          · right
            have hd1 : y.1.drop j = y.1[j] :: y.1.drop (j + 1) := List.drop_eq_getElem_cons hlt1
            rw [hd1] at f
            simp only [compD] at f
            obtain ⟨hgo1, hy1⟩ := Yj.2 y.1[j] (List.getElem?_eq_getElem hlt1)
            refine ⟨hgo1, fun H' => j + 1 ≤ y.1.length ∧ ∃ ρj Fj acc accV, Rel L fr2 (fun a => G1 a ∨ a = D) (L2.wipe σ2 (tgIx tg1)) H' (wipeS ρj (tgIx tg1)) Fj ∧ H' D = some (.lst accV) ∧ Reps L (av Fj fun a => G1 a ∨ a = D) H' acc accV ∧ Ext (zz F1) H1 (zz Fj) H' ∧ Ext (fun a => zz F4 a ∨ a = D) H4 (fun a => zz Fj a ∨ a = D) H' ∧
              Fin (compD (putT tg1) (tgIx tg1) (denIf C ifs) (denE C elt) acc (y.1.drop (j + 1)) ρj) (fun acc' ρ3 => Fin (C2 C elt tg tg1 it1 ifs own acc' (x.1.drop (i + 1)) ρ3) (CEnd L fr G σ H F ρ1 own x.2 Q) (fun _ _ _ => True)) (fun _ _ _ => True), fun H' ⟨z1, z2⟩ => ⟨_, by omega, rfl, z1, z2⟩, fun v1 H5 hyd1 => ?_⟩
            obtain ⟨kp1, rp1⟩ := hy1 v1 H5 hyd1
            have xk1 : Ext (zz Fj) Hj (zz Fj) H5 := ⟨fun a o h _ => kp1 a o h, fun _ h => .inl h, fun a h => ne_keeps kp1 h⟩
            have rj' := rj.keeps kp1
            cases ep1 : putT tg1 y.1[j] (wipeS ρj (tgIx tg1)) with
            | none => rw [ep1] at f; exact f.elim
            | some ρ5 =>
              rw [ep1] at f
              refine put_tg rj' hn1 ep1 (rp1.less fun a z => z.imp id .inl) fun σ3 F5 r5 zsub1 hσ1 => ?_
              have hσw1 : L2.wipe σ3 (tgIx tg1) = L2.wipe σ2 (tgIx tg1) := by
                refine wipe_eq (by rw [← r5.len]; rw [← L2.wipe_length σ2 (tgIx tg1), ← rj'.len, (putT_len ep1)]) fun j hj => hσ1 j hj
              refine ⟨hσw1, fr2, _, ρ5, F5, r5, ?_⟩
              have wide : ∀ {Z Z' : Fp} {Ha Hb : Hp}, Ext (zz Z) Ha (zz Z') Hb → Ext (fun a => zz Z a ∨ a = D) Ha (fun a => zz Z' a ∨ a = D) Hb := fun {Z Z' Ha Hb} e => ⟨fun a o h n => e.keep a o h fun z => n (.inl z), fun a z => z.elim (fun z => (e.zz a z).imp .inl id) fun z => .inl (.inr z), e.there⟩
              have f2 := (Fin.bind.mp f).noErr (N' := EC L (fun _ _ _ _ => False) fr2 (fun a => G1 a ∨ a = D) σ3 H5 F5)
              refine f2.mono (fun b ρ6 f H6 F6 e6 r6 => ?_) fun _ _ _ z => z
              have x56 : Ext (zz Fj) Hj (zz F6) H6 := (xk1.less zsub1).trans e6
              have e16 : Ext (zz F1) H1 (zz F6) H6 := ej.trans x56
              have v46 := vj.trans (wide x56)
              have nFD6 : ¬ zz Fj D := fun ⟨j, z⟩ => rj.gap j D z (.inr rfl)
              have hD6 : H6 D = some (.lst accV) := x56.keep D _ hDj nFD6
              have ra6 : Reps L (av F6 fun a => G1 a ∨ a = D) H6 acc accV := rj.reps x56 raj
              have wipeTo : ∀ {Ft : Fp} {ρt : Tk.Env} {Ht : Hp}, Rel L fr2 (fun a => G1 a ∨ a = D) σ3 Ht ρt Ft → Rel L fr2 (fun a => G1 a ∨ a = D) (L2.wipe σ2 (tgIx tg1)) Ht (wipeS ρt (tgIx tg1)) (Ft.wipe (tgIx tg1)) := fun {Ft ρt Ht} z => by
                have := z.wipe (tgIx tg1)
                rw [hσw1] at this
                exact this
              cases b with
              | false =>
                simp only [Bool.false_eq_true, if_false] at f ⊢
                exact ⟨hlt1, ρ6, F6.wipe (tgIx tg1), acc, accV, wipeTo r6, hD6, ra6.less fun a z => z.imp (zz_wipe a) id, e16.less zz_wipe, v46.less fun a z => z.imp (zz_wipe a) id, f⟩
              | true =>
                simp only [if_true] at f ⊢
                refine ⟨fr2, _, ρ6, F6, r6, ?_⟩
                have f3 := (Fin.bind.mp f).noErr (N' := EC L (fun _ _ _ _ => False) fr2 (fun a => G1 a ∨ a = D) σ3 H6 F6)
                refine f3.mono (fun yy ρ7 f => RQ.of r6.lmG fun yv H7 F7 e7 r7 ry => ?_) fun _ _ _ z => z
                have nFD7 : ¬ zz F6 D := fun ⟨j, z⟩ => r6.gap j D z (.inr rfl)
                have hD7 : H7 D = some (.lst accV) := e7.keep D _ hD6 nFD7
                split at f
                · rename_i hb
                  refine ⟨accV, hD7, by rw [accLen, ← big_line]; exact hb, hlt1, ρ7, F7.wipe (tgIx tg1), acc ++ [yy], accV ++ [yv], ?_, upd_same, ?_, ?_, ?_, f⟩
                  · exact (wipeTo r7).updG hD7 (.inr rfl) h0 hlm
                  · have xx := ext_at (vs := accV ++ [yv]) hD7
                    have : Reps L (av F7 fun a => G1 a ∨ a = D) H7 (acc ++ [yy]) (accV ++ [yv]) := (r6.reps e7 ra6).append (.cons ry .nil)
                    exact Reps.ext xx (isL_at hD7) (fun a e => .inr (.inr e)) (fun a q => .inl (q.imp (zz_wipe a) id)) this
                  · have e17 := e16.trans e7
                    exact (show Ext (zz F1) H1 (zz F7) (upd H7 D (.lst (accV ++ [yv]))) from ⟨fun a o ha n => by rw [upd_ne (fun e => by rw [e, hD] at ha; cases ha)]; exact e17.keep a o ha n, e17.zz, fun a ha => (ext_at hD7).there a (e17.there a ha)⟩).less zz_wipe
                  · have v47 := v46.trans (wide e7)
                    exact (show Ext (fun a => zz F4 a ∨ a = D) H4 (fun a => zz F7 a ∨ a = D) (upd H7 D (.lst (accV ++ [yv]))) from ⟨fun a o ha n => by rw [upd_ne (fun e => n (.inr e))]; exact v47.keep a o ha n, v47.zz, fun a ha => (ext_at hD7).there a (v47.there a ha)⟩).less fun a z => z.imp (zz_wipe a) id
                · exact f.elim
          · left
            have e : j = y.1.length := by omega
            subst e
            rw [List.drop_length] at f
            simp only [compD] at f
            refine ⟨Yj.1 rfl, mk hlt (ρi := ρj) (Fi := Fj.wipe own) ?_ hDj (raj.less fun a z => z.imp (zz_wipe a) id) (ej.less zz_wipe) f⟩
            have := rj.wipe own
            rw [wipe_wipe ho1, wipeS_wipe ho1, hσw] at this
            exact this
        · exact f.elim
    · left
      have e : i = x.1.length := by omega
      subst e
      rw [List.drop_length] at f
      unfold C2 at f
      simp only [compD2] at f
      refine ⟨Y.1 rfl, ?_⟩
      obtain ⟨ρ3, hu, q⟩ := (Fin.bind.mp f).ofO
      have rb := r1.back hp hE ei ri
      obtain ⟨F2, r2, e2, sub⟩ := w.unl (fun a => a = D) _ _ _ _ _ hE rb ei hu
      have nG : ¬ G D := fun z => by
        have := r1.gin D (w.gg D z)
        exact this hD
      exact q.new acc D accV Hi F2 rfl e2 r2 hDi nG (w.ext.none hD) (ra.less sub)
  · exact q.elim
/-- [elt for tg in it for tg1 in it1 if ..] -/
theorem s_comp2 (g : Good L k N sc W X) {elt : E} {tg tg1 : Tg} {it it1 : Tk.It} {ifs : Eo} {own : List Nat} {bb : Bool} {pe ptg pit ptg1 pit1 : Expr} {pifs : List Expr} {scope : Scope} {pos : Pos} (hb : blkC N sc scope (ownOf N own) = true) (ht : mTg N scope tg ptg = true) (ho : mTgOwn tg own = true) (ht1 : mTg N scope tg1 ptg1 = true) (ho1 : mTgOwn tg1 own = true) (hn : nmIt it = true ∨ ∀ i, tg ≠ .name i) (hn1 : nmIt it1 = true ∨ ∀ i, tg1 ≠ .name i)
    (hi : PI X ptg pit (specIt L W C it)) (hs : ∀ x, foldedSetIterable pit X.env x = pure x) (hs1 : ∀ env x, foldedSetIterable pit1 env x = pure x)
    (hi1 : ∀ X', Good L k N scope (fun _ _ _ _ => False) X' → PI X' ptg1 pit1 (specIt L (fun _ _ _ _ => False) C it1))
    (he : ∀ X', Good L k N scope (fun _ _ _ _ => False) X' → PE X' pe (specG L (fun _ _ _ _ => False) C bb elt))
    (hf : ∀ X', Good L k N scope (fun _ _ _ _ => False) X' → PTs X' pifs (specIf L (fun _ _ _ _ => False) C ifs)) :
    PE X (.ListComp pe [⟨ptg, pit, [], 0⟩, ⟨ptg1, pit1, pifs, 0⟩] scope pos) (specG L W C true (.comp2 elt tg it tg1 it1 ifs own)) := by
  refine (pe_lc2 (own := ownOf N own) (vs1 := tgIx tg1) g.calm (by rw [g.hN]; exact g.nd) hi (g.ok hb) (by rw [own_map]; exact tgOwn_of ho1) (fun s H A cls fp => g_tg (g.blk hb s H A cls fp) ht) (fun s H A cls fp => if_none (L := L) (W := fun _ _ _ _ => False) (C := C)) (fun s H A cls fp => hi1 _ (g.blk hb s H A cls fp)) (fun s H A cls fp => g_tg (g.blk hb s H A cls fp) ht1) (fun s H A cls fp => hf _ (g.blk hb s H A cls fp)) (fun s H A cls fp => s_weak (he _ (g.blk hb s H A cls fp))) hs hs1).imp fun σ H Q q => ?_
  rw [own_map]
  exact comp2_read (tgOwn_of ho) (tgOwn_of ho1) hn hn1 q
end
end Tk

set_option Elab.async false
set_option linter.all false
set_option maxRecDepth 100000
set_option maxHeartbeats 2000000
namespace Tk
open PySem PySem.Spec PyProof.Rows L2

def CX0 : CXT := fun _ _ _ _ _ _ => False
theorem pass0 {X : Cx} {E : XK} : Passes CX0 X E := fun _ _ _ _ _ _ _ z => z.elim
/-- a def's promise -/
def fsp (L : Lk) (t : Tx) (wf k f : Nat) : Sp := fun vs H Q E => ∃ fr G F sl b, t.T[f]? = some b ∧ sl.length = b.np ∧ fr.H0 = H ∧ (fr.lm = fun _ => none) ∧ Rel L fr G (vs.map some) H sl F ∧
  match run t.T t.G wf k f sl with
  | .ok d out => ∀ σ' ρ', ρ'.take b.np = out → RQ L fr G σ' H F b.fr Q d ρ'
  | .err c d => ∀ σ' ρ', EC L (fun cls od _ H' => E cls od H') fr G σ' H F c d ρ'
  | .stuck => False
def kG {α : Type} (n : Nat) (ks : List Nat) (us ws : List α) : List α := match us with
  | [] => (reoK n ks ws).getD []
  | _ => []
def psOf (b : Tb) : List Str := b.N.take b.np
structure FnL (L : Lk) (t : Tx) (wf k : Nat) : Prop where
  fn : ∀ f b, t.T[f]? = some b → ∃ fd, FnG L.P L.w L.K L.mg L.base k (L.fa f) fd (psOf b) (fsp L t wf k f) ∧ Binds L.K fd (psOf b) [] ∧
    ∀ ks, (f, ks) ∈ t.KW → KBinds L.K fd (psOf b) (ks.map fun p => (psOf b).getD p Str.empty) (kG b.np ks) (kG b.np ks)

theorem args_get {ρ : Env} : ∀ {os : List Od} {sl : List Slot}, args ρ os = some sl → sl.length = os.length ∧ ∀ (p : Nat) o, os[p]? = some o → ∃ s, sl[p]? = some s ∧ arg ρ o = some s
  | [], sl, h => by simp only [args, Option.some.injEq] at h; subst h; exact ⟨rfl, fun p o e => by simp at e⟩
  | o :: os, sl, h => by
    simp only [args] at h
    obtain ⟨s, g1, g2⟩ := Option.bind_eq_some_iff.mp h
    obtain ⟨ss, g3, g4⟩ := Option.map_eq_some_iff.mp g2
    subst g4
    obtain ⟨l, z⟩ := args_get g3
    refine ⟨by simp [l], fun p o' e => ?_⟩
    cases p with
    | zero => simp at e; subst e; exact ⟨s, rfl, g1⟩
    | succ p => simpa using z p o' (by simpa using e)
theorem odRs_get {L : Lk} {A : Addr → Prop} {H : Hp} {σ : L2.St} : ∀ {os : List Od} {vs : List V}, OdRs L A H σ os vs → vs.length = os.length ∧ ∀ (p : Nat) o, os[p]? = some o → ∃ v, vs[p]? = some v ∧ OdR L A H σ o v
  | [], vs, h => by simp only [OdRs] at h; subst h; exact ⟨rfl, fun p o e => by simp at e⟩
  | o :: os, vs, h => by
    obtain ⟨v, r, rfl, h1, h2⟩ := h
    obtain ⟨l, z⟩ := odRs_get h2
    refine ⟨by simp [l], fun p o' e => ?_⟩
    cases p with
    | zero => simp at e; subst e; exact ⟨v, rfl, h1⟩
    | succ p => simpa using z p o' (by simpa using e)
theorem slotsOf_mem : ∀ {os : List Od} {i : Nat}, i ∈ slotsOf os ↔ ∃ p : Nat, os[p]? = some (.slot i)
  | [], i => by simp [slotsOf]
  | o :: os, i => by
    have ih := slotsOf_mem (os := os) (i := i)
    cases o with
    | dat d =>
      simp only [slotsOf, ih]
      exact ⟨fun ⟨p, e⟩ => ⟨p + 1, by simpa using e⟩, fun ⟨p, e⟩ => by
        cases p with
        | zero => simp at e
        | succ p => exact ⟨p, by simpa using e⟩⟩
    | slot j =>
      simp only [slotsOf, List.mem_cons, ih]
      constructor
      · rintro (e | ⟨p, e⟩)
        · exact ⟨0, by simp [e]⟩
        · exact ⟨p + 1, by simpa using e⟩
      · rintro ⟨p, e⟩
        cases p with
        | zero => simp at e; exact .inl e.symm
        | succ p => exact .inr ⟨p, by simpa using e⟩
theorem slots_inj : ∀ {os : List Od} {p q i : Nat}, nodupB (slotsOf os) = true → os[p]? = some (.slot i) → os[q]? = some (.slot i) → p = q
  | [], p, q, i, _, e, _ => by simp at e
  | o :: os, p, q, i, h, e1, e2 => by
    have h' : nodupB (slotsOf os) = true := by
      cases o with
      | dat d => exact h
      | slot j => simp only [slotsOf, nodupB, Bool.and_eq_true] at h; exact h.2
    have no : ∀ p : Nat, o = .slot i → os[p]? = some (.slot i) → False := fun p eo e => by
      subst eo
      simp only [slotsOf, nodupB, Bool.and_eq_true, Bool.not_eq_true'] at h
      have := slotsOf_mem.mpr ⟨p, e⟩
      rw [← List.contains_iff_mem] at this
      rw [this] at h; cases h.1
    cases p with
    | zero => cases q with
      | zero => rfl
      | succ q => exact (no q (by simpa using e1) (by simpa using e2)).elim
    | succ p => cases q with
      | zero => exact (no p (by simpa using e2) (by simpa using e1)).elim
      | succ q => rw [slots_inj (p := p) (q := q) h' (by simpa using e1) (by simpa using e2)]
theorem with_same {ρ : Env} {i : Nat} {d : D} : getS (ρ.set i ((getS ρ i).with d)) i = (getS ρ i).with d := by
  rw [getS_set]
  by_cases h : i < ρ.length
  · rw [if_pos ⟨rfl, h⟩]
  · rw [if_neg fun z => h z.2, getS_out (Nat.le_of_not_lt h)]; rfl
theorem take_spec : ∀ {os : List Od} {out : List Slot} {ρ ρ2 : Env}, nodupB (slotsOf os) = true → Tk.take os out ρ = some ρ2 →
    ρ2.length = ρ.length ∧ (∀ (p i : Nat), os[p]? = some (.slot i) → ∃ d, out[p]? = some (.ref d) ∧ getS ρ2 i = (getS ρ i).with d) ∧ ∀ j, j ∉ slotsOf os → getS ρ2 j = getS ρ j
  | [], out, ρ, ρ2, _, h => by
    simp only [Tk.take, Option.some.injEq] at h; subst h
    exact ⟨rfl, fun p i e => by simp at e, fun _ _ => rfl⟩
  | .dat d :: os, out, ρ, ρ2, hn, h => by
    cases out with
    | nil => simp [Tk.take] at h
    | cons s ss =>
      simp only [Tk.take] at h
      obtain ⟨z1, z2, z3⟩ := take_spec (os := os) hn h
      refine ⟨z1, fun p i e => ?_, z3⟩
      cases p with
      | zero => simp at e
      | succ p => simpa using z2 p i (by simpa using e)
  | .slot i :: os, out, ρ, ρ2, hn, h => by
    cases out with
    | nil => simp [Tk.take] at h
    | cons s ss =>
      cases s <;> simp only [Tk.take] at h <;> first | (cases h; done) | skip
      rename_i d
      simp only [slotsOf, nodupB, Bool.and_eq_true, Bool.not_eq_true'] at hn
      obtain ⟨z1, z2, z3⟩ := take_spec (os := os) hn.2 h
      have ni : i ∉ slotsOf os := fun z => by
        rw [← List.contains_iff_mem] at z
        rw [z] at hn; cases hn.1
      refine ⟨by rw [z1, List.length_set], fun p j e => ?_, fun j hj => ?_⟩
      · cases p with
        | zero =>
          simp at e; subst e
          exact ⟨d, rfl, by rw [z3 i ni, with_same]⟩
        | succ p =>
          have e' : os[p]? = some (.slot j) := by simpa using e
          obtain ⟨d', y1, y2⟩ := z2 p j e'
          have : j ≠ i := fun e => ni (e ▸ slotsOf_mem.mpr ⟨p, e'⟩)
          refine ⟨d', by simpa using y1, ?_⟩
          rw [y2, getS_set, if_neg fun z => this z.1.symm]
      · simp only [slotsOf, List.mem_cons, not_or] at hj
        rw [z3 j hj.2, getS_set, if_neg fun z => hj.1 z.1.symm]
theorem getS_of {ρ : Env} {p : Nat} {s : Slot} (h : ρ[p]? = some s) : getS ρ p = s := by
  unfold getS; simp [List.getD, h]
theorem getS_none {ρ : Env} {p : Nat} (h : ρ[p]? = none) : getS ρ p = .none := by
  unfold getS; simp [List.getD, h]

section
variable {L : Lk} {t : Tx} {wf k : Nat} {N : List Str} {sc : Scope} {W : WX} {X : Cx} {C : Cl}
variable {fr fr1 : Fr} {G G1 : Addr → Prop} {σ σ' : L2.St} {H H' H1 : Hp} {ρ ρ' ρ1 ρ2 : Env} {F F' F1 : Fp}

def lentA (os : List Od) (F : Fp) (a : Addr) : Prop := ∃ (p i : Nat), os[p]? = some (Od.slot i) ∧ a ∈ F i
def cF (os : List Od) (F : Fp) : Fp := fun p => match os[p]? with
  | some (.slot i) => F i
  | _ => []
def cFr (os : List Od) (F : Fp) (H : Hp) : Fr := ⟨H, lentA os F, fun p => match os[p]? with
  | some (.slot i) => (F i).head?
  | _ => none, fun _ => none⟩
def cG (os : List Od) (F : Fp) (G : Addr → Prop) (a : Addr) : Prop := av F G a ∧ ¬ lentA os F a
theorem cF_mem {os : List Od} {F : Fp} {p : Nat} {a : Addr} (h : a ∈ cF os F p) : ∃ i, os[p]? = some (.slot i) ∧ a ∈ F i := by
  unfold cF at h
  split at h
  · rename_i i e; exact ⟨i, e, h⟩
  · cases h
theorem cAv {os : List Od} {a : Addr} (h : av (cF os F) (cG os F G) a) : av F G a := by
  rcases h with ⟨p, h⟩ | h
  · obtain ⟨i, _, z⟩ := cF_mem h
    exact .inl ⟨i, z⟩
  · exact h.1
theorem own_at {i : Nat} {d : D} (r : Rel L fr G σ H ρ F) (h : ownD (getS ρ i) = some d) : OwnAt L (av F G) H σ[i]? d (F i) fun _ => True := by
  have q := r.slot i
  cases e : getS ρ i with
  | none => rw [e] at h; cases h
  | val d' => rw [e] at h; cases h
  | lock b d' => rw [e] at h; cases h
  | own d' => rw [e] at h q; cases h; exact q
  | ref d' => rw [e] at h q; cases h; exact OwnAt.imp q fun _ _ => trivial
/-- what a callee finds -/
theorem Rel.enter (r : Rel L fr G σ H ρ F) {os : List Od} {vs : List V} {sl : List Slot} (o : OdRs L (av F G) H σ os vs) (ha : args ρ os = some sl) (hn : nodupB (slotsOf os) = true) :
    Rel L (cFr os F H) (cG os F G) (vs.map some) H sl (cF os F) := by
  obtain ⟨l1, a1⟩ := args_get ha
  obtain ⟨l2, o1⟩ := odRs_get o
  refine ⟨by simp [l1, l2], fun p => ?_, fun p q a h1 h2 => ?_, fun p a h1 h2 => ?_, fun p a h1 => ?_, fun a o h _ => h, fun a h => h, fun a h => ?_, fun p a h => by cases h⟩
  · cases e : os[p]? with
    | none =>
      have hp : os.length ≤ p := List.getElem?_eq_none_iff.mp e
      rw [getS_none (List.getElem?_eq_none (by omega))]
      show cF os F p = []
      unfold cF; rw [e]
    | some o =>
      obtain ⟨s, g1, g2⟩ := a1 p o e
      obtain ⟨v, g3, g4⟩ := o1 p o e
      rw [getS_of g1, List.getElem?_map, g3]
      cases o with
      | dat d =>
        simp only [arg, Option.some.injEq] at g2
        subst g2
        refine ⟨by unfold cF; rw [e], v, rfl, Rep.less (fun a z => cAv z) g4⟩
      | slot i =>
        simp only [arg] at g2
        obtain ⟨d, g5, g6⟩ := Option.map_eq_some_iff.mp g2
        subst g6
        obtain ⟨a, us, ds, e1, e2, e3, e4, e5, _⟩ := own_at r g5
        have g4 : σ[i]? = some (some v) := g4
        rw [e2] at g4
        have hF : cF os F p = F i := by unfold cF; rw [e]
        show OwnAt L _ H _ d (cF os F p) _
        refine ⟨a, us, ds, e1, g4.symm ▸ rfl, by rw [hF, e3], e4, e5.less fun a z => cAv z, ?_⟩
        show (cFr os F H).bm p = some a
        unfold cFr
        simp only [e, e3, List.head?_cons]
  · obtain ⟨i, y1, y2⟩ := cF_mem h1
    obtain ⟨j, y3, y4⟩ := cF_mem h2
    have := r.apart i j a y2 y4
    subst this
    exact slots_inj hn y1 y3
  · obtain ⟨i, y1, y2⟩ := cF_mem h1
    exact h2.2 ⟨p, i, y1, y2⟩
  · obtain ⟨i, y1, y2⟩ := cF_mem h1
    exact .inl ⟨p, i, y1, y2⟩
  · rcases h.1 with z | z
    · obtain ⟨us, q⟩ := r.isL a z
      rw [q]; simp
    · exact r.gin a z
/-- what the caller finds behind the call -/
theorem Rel.leave (r : Rel L fr G σ H ρ F) {os : List Od} {vs : List V} {sl out : List Slot} {E : Addr → Prop} {np : Nat} (o : OdRs L (av F G) H σ os vs) (ha : args ρ os = some sl) (hn : nodupB (slotsOf os) = true)
    (ht : Tk.take os out ρ = some ρ2) (ho : ρ'.take np = out) (hE : ∀ a, E a → H a = none ∧ H' a ≠ none) (r' : Rel L (cFr os F H) (fun a => cG os F G a ∨ E a) σ' H' ρ' F') :
    Rel L fr (fun a => G a ∨ E a) σ H' ρ2 F ∧ Ext (zz F) H (zz F) H' ∧ ∀ a, av F (fun a => G a ∨ E a) a → av F' (fun a => cG os F G a ∨ E a) a := by
  obtain ⟨z1, z2, z3⟩ := take_spec hn ht
  obtain ⟨l1, a1⟩ := args_get ha
  obtain ⟨l2, o1⟩ := odRs_get o
  have lent : ∀ {p i : Nat}, os[p]? = some (.slot i) → ∃ d a vs' ds', getS ρ2 i = (getS ρ i).with d ∧ F i = [a] ∧ σ[i]? = some (some (.ref a)) ∧ d = .lst ds' ∧ H' a = some (.lst vs') ∧ Reps L (av F' fun a => cG os F G a ∨ E a) H' ds' vs' ∧ F' p = [a] ∧ ∃ d0, ownD (getS ρ i) = some d0 := fun {p i} e => by
    obtain ⟨d, y1, y2⟩ := z2 p i e
    obtain ⟨s, g1, g2⟩ := a1 p _ e
    simp only [arg] at g2
    obtain ⟨d0, g5, g6⟩ := Option.map_eq_some_iff.mp g2
    obtain ⟨a, us, ds, e1, e2, e3, e4, e5, _⟩ := own_at r g5
    rw [← ho, List.getElem?_take] at y1
    split at y1
    · have q := r'.slot p
      rw [getS_of y1] at q
      obtain ⟨b, ws, ds', c1, c2, c3, c4, c5, c6⟩ := q
      have hb : b = a := by
        have c6 : (cFr os F H).bm p = some b := c6
        unfold cFr at c6
        simp only [e, e3, List.head?_cons, Option.some.injEq] at c6
        exact c6.symm
      subst hb
      exact ⟨d, b, ws, ds', y2, e3, e2, c1, c4, c5, c3, d0, g5⟩
    · cases y1
  have inc : ∀ a, av F (fun a => G a ∨ E a) a → av F' (fun a => cG os F G a ∨ E a) a := fun a h => by
    by_cases hl : lentA os F a
    · obtain ⟨p, i, y1, y2⟩ := hl
      obtain ⟨d, b, ws, ds', q1, q2, q3, q4, q5, q6, q7, _⟩ := lent y1
      rw [q2, List.mem_singleton] at y2
      subst y2
      exact .inl ⟨p, by rw [q7]; simp⟩
    · rcases h with h | h | h
      · exact .inr (.inl ⟨.inl h, hl⟩)
      · exact .inr (.inl ⟨.inr h, hl⟩)
      · exact .inr (.inr h)
  have M1 : ∀ a, lentA os F a → zz F a := fun a ⟨p, i, _, h⟩ => ⟨i, h⟩
  have kp : ∀ a o, H a = some o → ¬ lentA os F a → H' a = some o := fun a o h n => r'.kept a o h n
  have X : Ext (zz F) H (zz F) H' := ⟨fun a o h n => kp a o h fun z => n (M1 a z), fun a h => .inl h, fun a h => r'.low a h⟩
  have A' : ∀ a, av F (fun a => G a ∨ E a) a → av F G a ∨ H a = none := fun a h => by
    rcases h with h | h | h
    · exact .inl (.inl h)
    · exact .inl (.inr h)
    · exact .inr (hE a h).1
  have RP : ∀ {ds : List D} {vs : List V}, Reps L (av F G) H ds vs → Reps L (av F fun a => G a ∨ E a) H' ds vs := fun z => Reps.ext X r.isL r.zA A' z
  refine ⟨⟨by rw [z1]; exact r.len, fun j => ?_, r.apart, fun i a h g => ?_, r.home, fun a o h n => ?_, fun a h => r'.low a (r.low a h), fun a h => ?_, fun i a h => .inl (r.lmG i a h)⟩, X, inc⟩
  · by_cases hj : j ∈ slotsOf os
    · obtain ⟨p, e⟩ := slotsOf_mem.mp hj
      obtain ⟨d, a, ws, ds', q1, q2, q3, q4, q5, q6, q7, d0, q8⟩ := lent e
      have Q := r.slot j
      rw [q1]
      have ob : ∀ {q : Addr → Prop}, q a → OwnAt L (av F fun a => G a ∨ E a) H' σ[j]? d (F j) q := fun {q} hq => ⟨a, ws, ds', q4, q3, q2, q5, q6.less inc, hq⟩
      cases es : getS ρ j with
      | none => rw [es] at q8; cases q8
      | val _ => rw [es] at q8; cases q8
      | lock _ _ => rw [es] at q8; cases q8
      | own d1 => exact ob (q := fun _ => True) trivial
      | ref d1 =>
        rw [es] at Q
        obtain ⟨b, _, _, _, _, e3, _, _, e6⟩ := Q
        rw [q2] at e3
        have : a = b := by simpa using e3
        exact ob (q := fun a => fr.bm j = some a) (this ▸ e6)
    · rw [z3 j hj]
      have nl : ∀ {a : Addr}, a ∈ F j → ¬ lentA os F a := fun {a} h ⟨p, i, y1, y2⟩ => by
        have := r.apart j i a h y2
        subst this
        exact hj (slotsOf_mem.mpr ⟨p, y1⟩)
      have own : ∀ {d : D} {q : Addr → Prop}, OwnAt L (av F G) H σ[j]? d (F j) q → OwnAt L (av F fun a => G a ∨ E a) H' σ[j]? d (F j) q := fun {d q} ⟨a, us, ds, e1, e2, e3, e4, e5, e6⟩ =>
        ⟨a, us, ds, e1, e2, e3, kp a _ e4 (nl (by rw [e3]; simp)), RP e5, e6⟩
      have Q := r.slot j
      cases es : getS ρ j with
      | none => rw [es] at Q; exact Q
      | val d => rw [es] at Q; obtain ⟨g1, v, g2, g3⟩ := Q; exact ⟨g1, v, g2, Rep.ext X r.isL r.zA A' g3⟩
      | own d => rw [es] at Q; exact own Q
      | ref d => rw [es] at Q; exact own Q
      | lock b d =>
        rw [es] at Q
        obtain ⟨g0, a, us, ds, e1, e2, e3, e4, e5, e6⟩ := Q
        refine ⟨g0, a, us, ds, e1, e2, e3, kp a _ e4 fun ⟨p, i, y1, y2⟩ => ?_, RP e5, e6⟩
        exact r.gap i a y2 (r.lmG j a e6.1)
  · rcases g with g | g
    · exact r.gap i a h g
    · obtain ⟨us, q⟩ := r.isL a ⟨i, h⟩
      rw [(hE a g).1] at q; cases q
  · have h1 := r.kept a o h n
    refine kp a o h1 fun ⟨p, i, _, y2⟩ => ?_
    rcases r.home i a y2 with z | z
    · exact n z
    · rw [h] at z; cases z
  · rcases h with h | h
    · exact r'.low a (r.gin a h)
    · exact (hE a h).2
/-- behind a call that was given the new list at p -/
theorem Rel.leaveN {p : Addr} {E : Addr → Prop} (r : Rel L fr G σ H ρ F) (r1 : Rel L fr (fun a => G a ∨ a = p) σ H1 ρ1 F1) (e1 : Ext (zz F) H (zz F1) H1) (hn : H p = none) (hL : ∃ ws, H1 p = some (.lst ws)) (hE : ∀ a, E a → H1 a = none ∧ H' a ≠ none)
    (kp : ∀ a o, H1 a = some o → a ≠ p → H' a = some o) (lw : ∀ a, H1 a ≠ none → H' a ≠ none) : Rel L fr (fun a => G a ∨ E a) σ H' ρ1 F1 ∧ Ext (zz F) H (zz F1) H' := by
  have np : ∀ i, p ∉ F1 i := fun i z => r1.gap i p z (.inr rfl)
  have X : Ext (fun a => a = p) H1 (fun a => a = p) H' := ⟨fun a o h n => kp a o h n, fun a z => .inl z, lw⟩
  have hp1 : H1 p ≠ none := r1.gin p (.inr rfl)
  have A' : ∀ a, av F1 (fun a => G a ∨ E a) a → (av F1 (fun a => G a ∨ a = p) a) ∨ H1 a = none := fun a h => by
    rcases h with h | h | h
    · exact .inl (.inl h)
    · exact .inl (.inr (.inl h))
    · exact .inr (hE a h).1
  refine ⟨⟨r1.len, fun i => ?_, r1.apart, fun i a h g => ?_, r1.home, fun a o h n => ?_, fun a h => lw a (r1.low a h), fun a h => ?_, fun i a h => .inl (r.lmG i a h)⟩, ⟨fun a o h n => ?_, e1.zz, fun a h => lw a (e1.there a h)⟩⟩
  · have RPs : ∀ {ds : List D} {us : List V}, Reps L (av F1 fun a => G a ∨ a = p) H1 ds us → (∃ ws, H1 p = some (.lst ws)) → Reps L (av F1 fun a => G a ∨ E a) H' ds us := fun z ⟨ws, hw⟩ =>
      Reps.ext X (fun a e => by subst e; exact ⟨ws, hw⟩) (fun a e => .inr (.inr e)) A' z
    have RP : ∀ {d : D} {u : V}, Rep L (av F1 fun a => G a ∨ a = p) H1 d u → (∃ ws, H1 p = some (.lst ws)) → Rep L (av F1 fun a => G a ∨ E a) H' d u := fun z ⟨ws, hw⟩ =>
      Rep.ext X (fun a e => by subst e; exact ⟨ws, hw⟩) (fun a e => .inr (.inr e)) A' z
    have hw : ∃ ws, H1 p = some (.lst ws) := hL
    have own : ∀ {d : D} {fs : List Addr} {q : Addr → Prop}, (∀ a ∈ fs, a ≠ p) → OwnAt L (av F1 fun a => G a ∨ a = p) H1 σ[i]? d fs q → OwnAt L (av F1 fun a => G a ∨ E a) H' σ[i]? d fs q := fun {d fs q} hf ⟨a, us, ds, c1, c2, c3, c4, c5, c6⟩ =>
      ⟨a, us, ds, c1, c2, c3, kp a _ c4 (hf a (by rw [c3]; simp)), RPs c5 hw, c6⟩
    have Q := r1.slot i
    cases es : getS ρ1 i with
    | none => rw [es] at Q; exact Q
    | val d => rw [es] at Q; obtain ⟨g1, v, g2, g3⟩ := Q; exact ⟨g1, v, g2, RP g3 hw⟩
    | own d => rw [es] at Q; exact own (fun a h e => np i (e ▸ h)) Q
    | ref d => rw [es] at Q; exact own (fun a h e => np i (e ▸ h)) Q
    | lock b d =>
      rw [es] at Q
      obtain ⟨g0, Q⟩ := Q
      refine ⟨g0, own (fun a h e => ?_) Q⟩
      obtain ⟨b', _, _, _, _, c3, _, _, c6, _⟩ := Q
      have h' : b' = a := by
        have := List.mem_singleton.mp h
        rw [this]
        have := List.head_eq_of_cons_eq c3
        exact this.symm
      have z := r.lmG i b' c6
      rw [h', e] at z
      exact absurd hn (r.gin p z)
  · rcases g with g | g
    · exact r1.gap i a h (.inl g)
    · obtain ⟨us, q⟩ := r1.isL a ⟨i, h⟩
      rw [(hE a g).1] at q; cases q
  · refine kp a o (r1.kept a o h n) fun e => ?_
    subst e
    rw [r.h0 hn] at h; cases h
  · rcases h with h | h
    · exact lw a (r1.gin a (.inl h))
    · exact (hE a h).2
  · refine kp a o (e1.keep a o h n) fun e => ?_
    subst e
    rw [hn] at h; cases h
/-- what a callee finds that is given a new list -/
theorem Rel.enterN {p : Addr} {vs : List V} {ds : List D} (r1 : Rel L fr (fun a => G a ∨ a = p) σ H1 ρ1 F1) (hp : H1 p = some (.lst vs)) (nG : ¬ G p) (rp : Reps L (av F1 fun a => G a ∨ a = p) H1 ds vs) :
    Rel L ⟨H1, fun a => a = p, fun _ => none, fun _ => none⟩ (av F1 G) [some (.ref p)] H1 [.own (.lst ds)] (fun i => if i = 0 then [p] else []) := by
  have mem : ∀ {i a : Nat}, a ∈ (if i = 0 then [p] else []) → i = 0 ∧ a = p := fun {i a} h => by
    split at h
    · rename_i z; exact ⟨z, List.mem_singleton.mp h⟩
    · cases h
  refine ⟨rfl, fun i => ?_, fun i j a h1 h2 => by rw [(mem h1).1, (mem h2).1], fun i a h g => ?_, fun i a h => .inl (mem h).2, fun a o h _ => h, fun a h => h, fun a h => ?_, fun i a h => by cases h⟩
  · cases i with
    | zero =>
      refine ⟨p, vs, ds, rfl, rfl, rfl, hp, rp.less fun a z => ?_, trivial⟩
      rcases z with ⟨i, z⟩ | z | z
      · exact .inr (.inr (mem z).2)
      · exact .inl z
      · exact .inr (.inl z)
    | succ i => rfl
  · rw [(mem h).2] at g
    rcases g with ⟨j, g⟩ | g
    · exact r1.gap j p g (.inr rfl)
    · exact nG g
  · rcases h with h | h
    · obtain ⟨us, q⟩ := r1.isL a h
      rw [q]; simp
    · exact r1.gin a (.inl h)
theorem calln_read {f : Nat} {b : Tb} {e : E} {Q : VK} {W : WX} (hb : t.T[f]? = some b) (q : specG L W (cl t wf k) b.fr (.calln f e) σ H Q) : specG L W (cl t wf k) true e σ H fun v H1 => fsp L t wf k f [v] H1 Q fun _ _ _ => False := by
  obtain ⟨fr, G, ρ, F, r, q⟩ := q
  simp only [denE] at q
  refine ⟨fr, G, ρ, F, r, (Fin.bind.mp q).mono (fun d ρ1 q => ?_) fun _ _ _ z => z⟩
  cases d with
  | lst ds0 =>
    refine ⟨fun v H1 F1 n _ _ _ => absurd rfl (n rfl ds0), fun ds p vs H1 F1 ed e1 r1 hp nG hn rp => ?_⟩
    cases ed
    simp only at q
    have eC : (cl t wf k).call f [.own (.lst ds0)] = run t.T t.G wf k f [.own (.lst ds0)] := rfl
    rw [eC] at q
    have hnp : [Slot.own (.lst ds0)].length = b.np := by
      cases k with
      | zero => exact q.elim
      | succ k =>
        simp only [run, hb] at q
        by_cases hl : [Slot.own (.lst ds0)].length = b.np
        · exact hl
        · rw [if_neg hl] at q; exact q.elim
    refine ⟨_, _, _, _, b, hb, hnp, rfl, rfl, Rel.enterN r1 hp nG rp, ?_⟩
    cases er : run t.T t.G wf k f [.own (.lst ds0)] with
    | stuck => rw [er] at q; exact q.elim
    | err c d => exact fun σ' ρ' H' F' _ _ cls od z => z.elim
    | ok d out =>
      rw [er] at q
      have q : RQ L fr G σ H F b.fr Q d ρ1 := q
      intro σ' ρ' hout
      refine ⟨fun v H' F' n e r' rp => ?_, fun ds p' vs' H' F' ed e r' hp' nG' h0 rp' => ?_⟩
      · obtain ⟨R, X⟩ := Rel.leaveN (H' := H') (E := fun _ => False) r r1 e1 hn ⟨_, hp⟩ (fun a z => z.elim) (fun a o h n => r'.kept a o h n) r'.low
        exact q.val v H' F1 n X (R.lessG r.lmG fun a z => .inl z) (rp.less fun a z => .inr z)
      · obtain ⟨R, X⟩ := Rel.leaveN (H' := H') (E := fun a => a = p') r r1 e1 hn ⟨_, hp⟩ (fun a z => by subst z; exact ⟨h0, by rw [hp']; simp⟩) (fun a o h n => r'.kept a o h n) r'.low
        refine q.new ds p' vs' H' F1 ed X R hp' (fun z => nG' (.inr z)) (e1.none h0) (rp'.less fun a z => ?_)
        rcases z with z | z | z
        · exact .inr (.inl (.inl z))
        · exact .inr (.inl (.inr z))
        · exact .inr (.inr z)
  | non => exact q.elim
  | bl _ => exact q.elim
  | int _ => exact q.elim
  | str _ => exact q.elim
  | tup _ => exact q.elim
  | scr _ => exact q.elim
  | fn _ => exact q.elim
  | dct => exact q.elim
theorem call_read {f : Nat} {b : Tb} {os : List Od} {sl : List Slot} {vs : List V} {Q : VK} {E : XK} {NN : Nat → D → Env → Prop} (hb : t.T[f]? = some b) (r : Rel L fr G σ H ρ F) (o : OdRs L (av F G) H σ os vs) (ha : args ρ os = some sl)
    (q : Fin (callF (cl t wf k) f os sl ρ) (RQ L fr G σ H F b.fr Q) NN) : fsp L t wf k f vs H Q E := by
  unfold callF at q
  split at q
  · rename_i hn
    have hnp : sl.length = b.np := by
      have q1 := q
      unfold cl at q1
      simp only at q1
      cases k with
      | zero => exact q1.elim
      | succ k =>
        simp only [run, hb] at q1
        by_cases hl : sl.length = b.np
        · exact hl
        · rw [if_neg hl] at q1; exact q1.elim
    refine ⟨cFr os F H, cG os F G, cF os F, sl, b, hb, hnp, rfl, rfl, r.enter o ha hn, ?_⟩
    have eC : (cl t wf k).call f sl = run t.T t.G wf k f sl := rfl
    rw [eC] at q
    cases er : run t.T t.G wf k f sl with
    | stuck => rw [er] at q; exact q.elim
    | err c d => exact fun σ' ρ' H' F' _ _ cls od z => z.elim
    | ok d out =>
      rw [er] at q
      obtain ⟨x, e1, q⟩ := Fin.ofO (Fin.bind.mp q)
      obtain ⟨ρ2, e2, e3⟩ := Option.map_eq_some_iff.mp e1
      subst e3
      intro σ' ρ' hout
      have q : RQ L fr G σ H F b.fr Q d ρ2 := q
      refine ⟨fun v H' F' n e r' rp => ?_, fun ds p vs' H' F' ed e r' hp nG h0 rp => ?_⟩
      · obtain ⟨R, X, inc⟩ := r.leave (E := fun _ => False) o ha hn e2 hout (fun a z => z.elim) (r'.lessG (fun i a z => by cases z) fun a z => z.elim id fun z => z.elim)
        refine q.val v H' F n X (R.lessG r.lmG fun a z => .inl z) ((rp.less fun a z => ?_).less fun a z => inc a (z.imp id .inl))
        rcases z with z | z | z
        · exact .inl z
        · exact .inr z
        · exact z.elim
      · have hH : H p = none := h0
        obtain ⟨R, X, inc⟩ := r.leave (E := fun a => a = p) o ha hn e2 hout (fun a z => by subst z; exact ⟨hH, by rw [hp]; simp⟩) r'
        exact q.new ds p vs' H' F ed X R hp (fun z => r.gin p z hH) hH (rp.less inc)
  · exact q.elim
end
end Tk

set_option Elab.async false
set_option linter.all false
set_option maxRecDepth 100000
set_option maxHeartbeats 2000000
namespace Tk
open PySem PySem.Spec PyProof.Rows L2
section
variable {L : Lk} {t : Tx} {wf k : Nat} {N : List Str} {sc : Scope} {W : WX} {X : Cx} {C : Cl}
abbrev EX : XK := fun _ _ _ => False
theorem FnL.of (fl : FnL L t wf k) (g : Good L k N sc W X) {f : Nat} {b : Tb} (hb : t.T[f]? = some b) : ∃ fd, FnG X.prog X.w X.K X.mg X.base k (L.fa f) fd (psOf b) (fsp L t wf k f) ∧ Binds X.K fd (psOf b) [] ∧
    ∀ ks, (f, ks) ∈ t.KW → KBinds X.K fd (psOf b) (ks.map fun p => (psOf b).getD p Str.empty) (kG b.np ks) (kG b.np ks) := by
  rw [g.hP, g.hw, g.hK, g.hmg, g.hbase]
  exact fl.fn f b hb
theorem fr_of {f : Nat} {b : Tb} (hb : t.T[f]? = some b) : (t.T[f]?.map (·.fr)).getD false = b.fr := by rw [hb]; rfl
theorem call_as {f : Nat} {b : Tb} {as : As} {σ : L2.St} {H : Hp} {Q : VK} (hb : t.T[f]? = some b) (q : specG L W (cl t wf k) b.fr (.call f as) σ H Q) : specAs L W (cl t wf k) as σ H fun vs H1 => fsp L t wf k f vs H1 Q EX := by
  obtain ⟨fr, G, ρ, F, r, f⟩ := q
  simp only [denE] at f
  refine seqAs r f fun os vs ρ1 H1 F1 e1 r1 o1 f => ?_
  obtain ⟨sl, ha, q⟩ := Fin.ofO (Fin.bind.mp f)
  exact call_read hb r1 o1 ha (q.mono (fun _ _ z => z.shift e1) fun _ _ _ z => z)
theorem s_call (g : Good L k N sc W X) (lk : LkOk L t) (fl : FnL L t wf k) {f : Nat} {b : Tb} {as : As} {e : Expr} {ps : List Expr} {p pos : Pos} (hb : t.T[f]? = some b) (hx : gloB sc b.name = true) (hn : okName b.name = true)
    (ha : PA X (e :: ps) (specAs L W (cl t wf k) as)) (he : starEach (e :: ps) X.env = (false, eval e X.env) :: starEach ps X.env) (hpl : (backTo pos (starEach ps X.env)).any (·.1) = false) :
    PE X (.Call (.Name b.name p) (e :: ps) [] pos) (specG L W (cl t wf k) b.fr (.call f as)) := by
  obtain ⟨fd, F, B, _⟩ := fl.of g hb
  obtain ⟨m1, m2⟩ := lk.fn f b hb
  refine (g_call F g.room g.clear (g.glo _ (glo_of hx)) (by rw [g.hmg]; exact m1) (by rw [g.hK]; exact m2) B ha (okName_of hn).1 he hpl).imp fun σ H Q q => ?_
  exact call_as hb q
theorem s_calln (g : Good L k N sc W X) (lk : LkOk L t) (fl : FnL L t wf k) {f : Nat} {b : Tb} {a : E} {e : Expr} {p pos : Pos} (hb : t.T[f]? = some b) (hx : gloB sc b.name = true) (hn : okName b.name = true)
    (ha : PE X e (specG L W (cl t wf k) true a)) (he : starEach [e] X.env = (false, eval e X.env) :: starEach [] X.env) :
    PE X (.Call (.Name b.name p) [e] [] pos) (specG L W (cl t wf k) b.fr (.calln f a)) := by
  obtain ⟨fd, F, B, _⟩ := fl.of g hb
  obtain ⟨m1, m2⟩ := lk.fn f b hb
  exact (g_call F g.room g.clear (g.glo _ (glo_of hx)) (by rw [g.hmg]; exact m1) (by rw [g.hK]; exact m2) B (pa_cons ha pa_nil he) (okName_of hn).1 he rfl).imp fun σ H Q q => calln_read hb q
theorem s_call0 (g : Good L k N sc W X) (lk : LkOk L t) (fl : FnL L t wf k) {f : Nat} {b : Tb} {p pos : Pos} (hb : t.T[f]? = some b) (hx : gloB sc b.name = true) (hn : okName b.name = true) :
    PE X (.Call (.Name b.name p) [] [] pos) (specG L W (cl t wf k) b.fr (.call f .nil)) := by
  obtain ⟨fd, F, B, _⟩ := fl.of g hb
  obtain ⟨m1, m2⟩ := lk.fn f b hb
  refine (g_call0 F g.room g.clear (g.glo _ (glo_of hx)) (by rw [g.hmg]; exact m1) (by rw [g.hK]; exact m2) B (okName_of hn).1).imp fun σ H Q q => ?_
  obtain ⟨fr, G, ρ, F, r, q⟩ := call_as hb q
  simp only [denAs] at q
  exact q [] H F (Ext.refl _ _) r rfl
theorem reps_get {L : Lk} {A : Addr → Prop} {H : Hp} {ds : List D} {vs : List V} (h : Reps L A H ds vs) : ∀ q : Nat, (ds[q]? = none ∧ vs[q]? = none) ∨ ∃ d v, ds[q]? = some d ∧ vs[q]? = some v ∧ Rep L A H d v := fun q => by
  cases e : ds[q]? with
  | none => exact .inl ⟨rfl, List.getElem?_eq_none (by rw [h.len]; exact List.getElem?_eq_none_iff.mp e)⟩
  | some d =>
    obtain ⟨v, e1, e2⟩ := h.get e
    exact .inr ⟨d, v, rfl, e1, e2⟩
theorem gather_rep {L : Lk} {A : Addr → Prop} {H : Hp} {ds : List D} {vs : List V} (h : Reps L A H ds vs) : ∀ {is : List (Option Nat)} {es : List D}, gather (is.map fun o => o.bind fun q => ds[q]?) = some es → ∃ us, gather (is.map fun o => o.bind fun q => vs[q]?) = some us ∧ Reps L A H es us
  | [], es, e => by simp [gather] at e; subst e; exact ⟨[], rfl, .nil⟩
  | o :: is, es, e => by
    simp only [List.map_cons, gather] at e
    obtain ⟨d, e1, e2⟩ := Option.bind_eq_some_iff.mp e
    obtain ⟨es', e3, rfl⟩ := Option.map_eq_some_iff.mp e2
    obtain ⟨us, e4, e5⟩ := gather_rep h e3
    obtain ⟨q, rfl, e6⟩ := Option.bind_eq_some_iff.mp e1
    obtain ⟨v, e7, e8⟩ := h.get e6
    refine ⟨v :: us, ?_, .cons e8 e5⟩
    simp only [List.map_cons, gather, Option.bind_some, e7, e4, Option.map_some]
theorem reoK_rep {L : Lk} {A : Addr → Prop} {H : Hp} {ds es : List D} {vs : List V} {n : Nat} {ks : List Nat} (h : Reps L A H ds vs) (e : reoK n ks ds = some es) : ∃ us, reoK n ks vs = some us ∧ Reps L A H es us := by
  unfold reoK at e ⊢
  rw [h.len]
  split at e
  · rename_i c
    rw [if_pos c]
    have := gather_rep (is := (List.range n).map fun p => ks.findIdx? (· == p)) h (es := es) (by rw [List.map_map]; exact e)
    rw [List.map_map] at this
    exact this
  · cases e
theorem odRs_dat {L : Lk} {A : Addr → Prop} {H : Hp} {σ : L2.St} : ∀ {ds : List D} {vs : List V}, Reps L A H ds vs → OdRs L A H σ (ds.map .dat) vs
  | [], _, h => by simp only [Reps] at h; subst h; rfl
  | d :: ds, _, h => by
    simp only [Reps] at h
    obtain ⟨v, r, rfl, h1, h2⟩ := h
    exact ⟨v, r, rfl, h1, odRs_dat h2⟩
theorem args_dat {ρ : Env} : ∀ {ds : List D}, args ρ (ds.map .dat) = some (ds.map .val)
  | [] => rfl
  | d :: ds => by simp [args, arg, args_dat]
theorem pk_of {f : Nat} {b : Tb} {kw : Es} {ks : List Nat} : True := trivial
theorem s_callk (g : Good L k N sc W X) (lk : LkOk L t) (fl : FnL L t wf k) {f : Nat} {b : Tb} {kw : Es} {ks : List Nat} {kws : List Keyword} {p pos : Pos} (hb : t.T[f]? = some b) (hx : gloB sc b.name = true) (hn : okName b.name = true) (hk : (f, ks) ∈ t.KW)
    (hkw : PK X kws (specEs L W (cl t wf k) kw)) (hall : (backToKw pos (keywordEach kws X.env)).all (·.1.isSome) = true) (hks : (backToKw pos (keywordEach kws X.env)).filterMap (·.1) = ks.map fun p => (psOf b).getD p Str.empty)
    (hpl : ((backTo pos (starEach [] X.env)).any (·.1) || (backToKw pos (keywordEach kws X.env)).any (·.1.isNone)) = false) :
    PE X (.Call (.Name b.name p) [] kws pos) (specG L W (cl t wf k) b.fr (.callk f kw ks)) := by
  obtain ⟨fd, F, _, B⟩ := fl.of g hb
  obtain ⟨m1, m2⟩ := lk.fn f b hb
  refine L2.PE.imp (g_callK0 F g.room g.clear (g.glo _ (glo_of hx)) (by rw [g.hmg]; exact m1) (by rw [g.hK]; exact m2) (B ks hk) hkw hall hks (okName_of hn).1 hpl) fun σ H Q q => ?_
  obtain ⟨fr, G, ρ, F, r, q⟩ := q
  simp only [denE] at q
  refine (show specEs L W (cl t wf k) kw σ H _ from seqEs r q fun ds vs ρ1 H1 F1 e1 r1 rs q => ?_)
  obtain ⟨all, ha, q⟩ := Fin.ofO (Fin.bind.mp q)
  have np : (cl t wf k).np f = b.np := by show ((t.T[f]?).map (·.np)).getD 0 = _; rw [hb]; rfl
  rw [np] at ha
  obtain ⟨us, h1, h2⟩ := reoK_rep rs ha
  have e : kG b.np ks ([] : List V) vs = us := by show (reoK b.np ks vs).getD [] = us; rw [h1]; rfl
  rw [e]
  exact call_read hb r1 (odRs_dat h2) args_dat (q.mono (fun _ _ z => z.shift e1) fun _ _ _ z => z)
theorem s_callv (g : Good L k N sc W X) (lk : LkOk L t) (fl : FnL L t wf k) {i : Nat} {as : As} {x : Str} {e : Expr} {ps : List Expr} {p pos : Pos} (h : nmB N sc i x = true)
    (ha : PA X (e :: ps) (specAs L W (cl t wf k) as)) (he : starEach (e :: ps) X.env = (false, eval e X.env) :: starEach ps X.env) (hpl : (backTo pos (starEach ps X.env)).any (·.1) = false) :
    PE X (.Call (.Name x p) (e :: ps) [] pos) (specG L W (cl t wf k) false (.callv i as)) := by
  obtain ⟨h1, h2, h3, h4⟩ := nm_of h
  refine L2.PE.imp (g_callV (T := {z : Nat × Tb // t.T[z.1]? = some z.2}) (S := fun z => L.fa z.1.1) (SP := fun z => fsp L t wf k z.1.1) (fun z => ?_) g.room g.clear (by rw [g.hN]; exact h1) (g.vis x h2) ha h3 h4 he hpl) fun σ H Q q => ?_
  · obtain ⟨fd, F, B, _⟩ := fl.of g z.2
    exact ⟨fd, _, F, by rw [g.hK]; exact (lk.fn _ _ z.2).2, B⟩
  · obtain ⟨fr, G, ρ, F, r, f⟩ := q
    simp only [denE] at f
    cases es : getS ρ i with
    | val d =>
      cases d <;> (rw [es] at f) <;> first | exact f.elim | skip
      rename_i j
      obtain ⟨v, e1, rp⟩ := r.val es
      simp only [Rep] at rp
      subst rp
      cases hb : t.T[j]? with
      | none =>
        have : (cl t wf k).has j = false := by show (t.T[j]?).isSome = false; rw [hb]; rfl
        simp only [this] at f
        exact f.elim
      | some b =>
        refine ⟨⟨(j, b), hb⟩, e1, ?_⟩
        have : (cl t wf k).has j = true := by show (t.T[j]?).isSome = true; rw [hb]; rfl
        simp only [this, if_true] at f
        have f2 : Fin (denE (cl t wf k) (.call j as) ρ) (RQ L fr G σ H F b.fr Q) (EC L W fr G σ H F) := by
          simp only [denE]
          exact f.mono (fun _ _ z => z.weak r.lmG) fun _ _ _ z => z
        exact call_as hb ⟨fr, G, ρ, F, r, f2⟩
    | none => rw [es] at f; exact f.elim
    | own d => rw [es] at f; exact f.elim
    | ref d => rw [es] at f; exact f.elim
    | lock b d => rw [es] at f; exact f.elim
end
end Tk

set_option Elab.async false
set_option linter.all false
set_option maxRecDepth 100000
set_option maxHeartbeats 2000000
namespace Tk
open PySem PySem.Spec PyProof.Rows L2
section
variable {t : Tx} {N : List Str} {sc : Scope} {pe : Expr}
theorem i_var {i : Nat} (h : mE t N sc (.var i) pe = true) : ∃ x q, pe = .Name x q ∧ nmB N sc i x = true := by
  cases pe <;> first | (simp [mE] at h; done) | skip
  exact ⟨_, _, rfl, by simpa only [mE] using h⟩
theorem i_glob {i : Nat} (h : mE t N sc (.glob i) pe = true) : ∃ x d q, pe = .Name x q ∧ t.G[i]? = some (x, d) ∧ gloB sc x = true ∧ okName x = true := by
  cases pe <;> first | (simp [mE] at h; done) | skip
  simp only [mE] at h
  split at h
  · rename_i p e
    simp only [Bool.and_eq_true, decide_eq_true_eq] at h
    exact ⟨_, p.2, _, rfl, by rw [e, ← h.1.1], h.1.2, h.2⟩
  · cases h
theorem i_bin {o : Op} {a b : E} (h : mE t N sc (.bin o a b) pe = true) : ∃ pa pb q, pe = .BinOp pa (opP o) pb q ∧ mE t N sc a pa = true ∧ mE t N sc b pb = true := by
  cases pe <;> first | (simp [mE] at h; done) | skip
  simp only [mE, Bool.and_eq_true, decide_eq_true_eq] at h
  obtain ⟨⟨rfl, h1⟩, h2⟩ := h
  exact ⟨_, _, _, rfl, h1, h2⟩
theorem i_neg {a : E} (h : mE t N sc (.neg a) pe = true) : ∃ pa q, pe = .UnaryOp .USub pa q ∧ mE t N sc a pa = true := by
  cases pe <;> first | (simp [mE] at h; done) | skip
  rename_i o _ _
  cases o <;> first | (simp [mE] at h; done) | skip
  exact ⟨_, _, rfl, by simpa only [mE] using h⟩
theorem i_not {a : E} (h : mE t N sc (.not a) pe = true) : ∃ pa q, pe = .UnaryOp .Not pa q ∧ mE t N sc a pa = true := by
  cases pe <;> first | (simp [mE] at h; done) | skip
  rename_i o _ _
  cases o <;> first | (simp [mE] at h; done) | skip
  exact ⟨_, _, rfl, by simpa only [mE] using h⟩
theorem i_cmp {o : Cm} {a b : E} (h : mE t N sc (.cmp o a b) pe = true) : ∃ pa pb q, pe = .Compare pa [cmP o] [pb] q ∧ mE t N sc a pa = true ∧ mE t N sc b pb = true := by
  cases pe <;> first | (simp [mE] at h; done) | skip
  rename_i pa os pbs q
  rcases os with _ | ⟨o1, _ | ⟨o2, os⟩⟩ <;> rcases pbs with _ | ⟨p1, _ | ⟨p2, pbs⟩⟩ <;> first | (simp [mE] at h; done) | skip
  simp only [mE, Bool.and_eq_true, decide_eq_true_eq] at h
  obtain ⟨⟨rfl, h1⟩, h2⟩ := h
  exact ⟨_, _, _, rfl, h1, h2⟩
theorem i_chain {o o' : Cm} {a b c : E} (h : mE t N sc (.chain o o' a b c) pe = true) : ∃ pa pb pc q, pe = .Compare pa [cmP o, cmP o'] [pb, pc] q ∧ mE t N sc a pa = true ∧ mE t N sc b pb = true ∧ mE t N sc c pc = true := by
  cases pe <;> first | (simp [mE] at h; done) | skip
  rename_i pa os pbs q
  rcases os with _ | ⟨o1, _ | ⟨o2, _ | ⟨o3, os⟩⟩⟩ <;> rcases pbs with _ | ⟨p1, _ | ⟨p2, _ | ⟨p3, pbs⟩⟩⟩ <;> first | (simp [mE] at h; done) | skip
  simp only [mE, Bool.and_eq_true, decide_eq_true_eq] at h
  obtain ⟨⟨⟨⟨rfl, rfl⟩, h1⟩, h2⟩, h3⟩ := h
  exact ⟨_, _, _, _, rfl, h1, h2, h3⟩
theorem i_and {es : Es} (h : mE t N sc (.and es) pe = true) : ∃ ps q, pe = .BoolOp .And ps q ∧ mEs t N sc es ps = true := by
  cases pe <;> first | (simp [mE] at h; done) | skip
  rename_i o _ _
  cases o <;> first | (simp [mE] at h; done) | skip
  exact ⟨_, _, rfl, by simpa only [mE] using h⟩
theorem i_or {es : Es} (h : mE t N sc (.or es) pe = true) : ∃ ps q, pe = .BoolOp .Or ps q ∧ mEs t N sc es ps = true := by
  cases pe <;> first | (simp [mE] at h; done) | skip
  rename_i o _ _
  cases o <;> first | (simp [mE] at h; done) | skip
  exact ⟨_, _, rfl, by simpa only [mE] using h⟩
theorem i_ife {c a b : E} (h : mE t N sc (.ife c a b) pe = true) : ∃ pc pa pb q, pe = .IfExp pc pa pb q ∧ mE t N sc c pc = true ∧ mE t N sc a pa = true ∧ mE t N sc b pb = true := by
  cases pe <;> first | (simp [mE] at h; done) | skip
  simp only [mE, Bool.and_eq_true] at h
  exact ⟨_, _, _, _, rfl, h.1.1, h.1.2, h.2⟩
theorem i_tup {es : Es} (h : mE t N sc (.tup es) pe = true) : ∃ ps n q, pe = .Tuple ps n q ∧ mEs t N sc es ps = true := by
  cases pe <;> first | (simp [mE] at h; done) | skip
  exact ⟨_, _, _, rfl, by simpa only [mE] using h⟩
theorem i_lst {es : Es} (h : mE t N sc (.lst es) pe = true) : ∃ ps q, pe = .List ps q ∧ mEs t N sc es ps = true := by
  cases pe <;> first | (simp [mE] at h; done) | skip
  exact ⟨_, _, rfl, by simpa only [mE] using h⟩
theorem i_idx {a b : E} (h : mE t N sc (.idx a b) pe = true) : ∃ pa pb q, pe = .Subscript pa pb q ∧ mE t N sc a pa = true ∧ mE t N sc b pb = true := by
  cases pe <;> first | (simp [mE] at h; done) | skip
  simp only [mE, Bool.and_eq_true] at h
  exact ⟨_, _, _, rfl, h.1, h.2⟩
theorem i_sl {a : E} {lo hi : Eo} (h : mE t N sc (.sl a lo hi) pe = true) : ∃ pa plo phi q2 q, pe = .Subscript pa (.Slice plo phi none q2) q ∧ mE t N sc a pa = true ∧ mEo t N sc lo plo = true ∧ mEo t N sc hi phi = true := by
  cases pe <;> first | (simp [mE] at h; done) | skip
  rename_i pa pb q
  cases pb <;> first | (simp [mE] at h; done) | skip
  rename_i plo phi st q2
  cases st <;> first | (simp [mE] at h; done) | skip
  simp only [mE, Bool.and_eq_true] at h
  exact ⟨_, _, _, _, _, rfl, h.1.1, h.1.2, h.2⟩
theorem i_rev {a : E} (h : mE t N sc (.rev a) pe = true) : ∃ pa n p1 p2 p3 q, pe = .Subscript pa (.Slice none none (some (.UnaryOp .USub (.Constant (.int 1) n p1) p2)) p3) q ∧ mE t N sc a pa = true := by
  unfold mE at h
  split at h <;> first | (cases h; done) | skip
  all_goals rename_i e2
  all_goals first | (exact E.noConfusion e2) | skip
  all_goals first | (cases e2; exact ⟨_, _, _, _, _, _, rfl, h⟩) | skip
theorem isName {p : Expr → Bool} {f : Expr} (h : (match f with | .Name _ _ => true | _ => false) = true) : ∃ x q, f = .Name x q := by
  cases f <;> simp at h
  exact ⟨_, _, rfl⟩
theorem i_call {f : Nat} {as : As} (h : mE t N sc (.call f as) pe = true) : ∃ b p ps q, pe = .Call (.Name b.name p) ps [] q ∧ t.T[f]? = some b ∧ gloB sc b.name = true ∧ okName b.name = true ∧ mAs t N sc as ps = true := by
  cases pe <;> first | (simp [mE] at h; done) | skip
  rename_i fe ps kws q
  cases fe <;> first | (simp [mE] at h; done) | skip
  cases kws <;> first | (simp [mE] at h; done) | skip
  simp only [mE, Bool.and_eq_true] at h
  obtain ⟨h1, h2⟩ := h
  split at h1
  · rename_i b e
    simp only [Bool.and_eq_true, decide_eq_true_eq] at h1
    obtain ⟨⟨rfl, h3⟩, h4⟩ := h1
    exact ⟨_, _, _, _, rfl, e, h3, h4, h2⟩
  · cases h1
theorem i_calln {f : Nat} {a : E} (h : mE t N sc (.calln f a) pe = true) : ∃ b p e q, pe = .Call (.Name b.name p) [e] [] q ∧ t.T[f]? = some b ∧ gloB sc b.name = true ∧ okName b.name = true ∧ frE t a = true ∧ mE t N sc a e = true := by
  cases pe <;> first | (simp [mE] at h; done) | skip
  rename_i fe ps kws q
  cases fe <;> first | (simp [mE] at h; done) | skip
  cases kws <;> first | (simp [mE] at h; done) | skip
  cases ps with
  | nil => simp [mE] at h
  | cons e ps =>
    cases ps with
    | cons _ _ => simp [mE] at h
    | nil =>
      simp only [mE, Bool.and_eq_true] at h
      obtain ⟨h1, h2⟩ := h
      split at h1
      · rename_i b e
        simp only [Bool.and_eq_true, decide_eq_true_eq] at h1
        obtain ⟨⟨rfl, h3⟩, h4⟩ := h1
        exact ⟨_, _, _, _, rfl, e, h3, h4, h2⟩
      · cases h1
theorem i_join {s : Str} {a : E} (h : mE t N sc (.join s a) pe = true) : ∃ n p1 ap e cp, pe = .Call (.Attribute (.Constant (.str s) n p1) ("join" : Str) ap) [e] [] cp ∧ strGood s = true ∧ (ap.endLine == cp.line) = true ∧ mE t N sc a e = true := by
  unfold mE at h
  split at h <;> first | (cases h; done) | skip
  all_goals rename_i e2
  all_goals first | (exact E.noConfusion e2) | skip
  all_goals
    cases e2
    simp only [Bool.and_eq_true, decide_eq_true_eq] at h
    obtain ⟨⟨⟨⟨rfl, h1⟩, rfl⟩, h2⟩, h3⟩ := h
    exact ⟨_, _, _, _, _, rfl, h1, h2, h3⟩
theorem i_callk {f : Nat} {kw : Es} {ks : List Nat} (h : mE t N sc (.callk f kw ks) pe = true) : ∃ b p kws q, pe = .Call (.Name b.name p) [] kws q ∧ t.T[f]? = some b ∧ gloB sc b.name = true ∧ okName b.name = true ∧ (f, ks) ∈ t.KW ∧ mKw t N sc f kw ks kws = true := by
  cases pe <;> first | (simp [mE] at h; done) | skip
  rename_i fe ps kws q
  cases fe <;> first | (simp [mE] at h; done) | skip
  cases ps <;> first | (simp [mE] at h; done) | skip
  cases kws <;> first | (simp [mE] at h; done) | skip
  simp only [mE, Bool.and_eq_true, decide_eq_true_eq] at h
  obtain ⟨⟨h1, h5⟩, h2⟩ := h
  split at h1
  · rename_i b e
    simp only [Bool.and_eq_true, decide_eq_true_eq] at h1
    obtain ⟨⟨rfl, h3⟩, h4⟩ := h1
    exact ⟨_, _, _, _, rfl, e, h3, h4, h5, h2⟩
  · cases h1
theorem i_callv {i : Nat} {as : As} (h : mE t N sc (.callv i as) pe = true) : ∃ x p ps q, pe = .Call (.Name x p) ps [] q ∧ nmB N sc i x = true ∧ mAs t N sc as ps = true ∧ ps.isEmpty = false := by
  cases pe <;> first | (simp [mE] at h; done) | skip
  rename_i fe ps kws q
  cases fe <;> first | (simp [mE] at h; done) | skip
  cases kws <;> first | (simp [mE] at h; done) | skip
  simp only [mE, Bool.and_eq_true, Bool.not_eq_true'] at h
  exact ⟨_, _, _, _, rfl, h.1.1, h.1.2, h.2⟩
theorem i_bi {f : Bi} {es : Es} (h : mE t N sc (.bi f es) pe = true) : ∃ p ps q, pe = .Call (.Name (biS f) p) ps [] q ∧ gloB sc (biS f) = true ∧ (f = .gcd → t.gcd = true) ∧ mEs t N sc es ps = true ∧ ps.isEmpty = false := by
  cases pe <;> first | (simp [mE] at h; done) | skip
  rename_i fe ps kws q
  cases fe <;> first | (simp [mE] at h; done) | skip
  cases kws <;> first | (simp [mE] at h; done) | skip
  simp only [mE, Bool.and_eq_true, decide_eq_true_eq, Bool.or_eq_true, Bool.not_eq_true'] at h
  obtain ⟨⟨⟨⟨rfl, h1⟩, h2⟩, h3⟩, h4⟩ := h
  exact ⟨_, _, _, rfl, h1, fun e => h2.elim (fun n => absurd e n) id, h3, h4⟩
theorem i_isi {a : E} {ts : List Ty} (h : mE t N sc (.isi a ts) pe = true) : ∃ p pa pt q, pe = .Call (.Name "isinstance" p) [pa, pt] [] q ∧ gloB sc ("isinstance" : Str) = true ∧ mE t N sc a pa = true ∧
    ((∃ ty p2, ts = [ty] ∧ pt = .Name (tyN ty) p2 ∧ gloB sc (tyN ty) = true) ∨ ∃ ps n p2, pt = .Tuple ps n p2 ∧ mTys sc ts ps = true ∧ ts.length ≤ 10) := by
  cases pe <;> first | (simp [mE] at h; done) | skip
  rename_i fe ps kws q
  cases fe <;> first | (simp [mE] at h; done) | skip
  cases kws <;> first | (simp [mE] at h; done) | skip
  rcases ps with _ | ⟨p1, _ | ⟨p2, _ | ⟨p3, ps⟩⟩⟩ <;> first | (rcases ts with _ | ⟨t1, _ | ⟨t2, ts⟩⟩ <;> (simp [mE] at h; done)) | skip
  rcases ts with _ | ⟨t1, _ | ⟨t2, ts⟩⟩
  · simp [mE] at h
  · cases p2 <;> first | (simp [mE] at h; done) | skip
    simp only [mE, Bool.and_eq_true, decide_eq_true_eq] at h
    obtain ⟨⟨⟨⟨rfl, h1⟩, h2⟩, rfl⟩, h3⟩ := h
    exact ⟨_, _, _, _, rfl, h1, h2, .inl ⟨_, _, rfl, rfl, h3⟩⟩
  · cases p2 <;> first | (simp [mE] at h; done) | skip
    simp only [mE, Bool.and_eq_true, decide_eq_true_eq] at h
    obtain ⟨⟨⟨⟨rfl, h1⟩, h2⟩, h3⟩, h4⟩ := h
    exact ⟨_, _, _, _, rfl, h1, h2, .inr ⟨_, _, _, rfl, h3, h4⟩⟩
theorem i_trange {hi : E} (h : mE t N sc (.trange hi) pe = true) : ∃ p1 p2 pb p3 q, pe = .Call (.Name "tuple" p1) [.Call (.Name "range" p2) [pb] [] p3] [] q ∧ gloB sc ("tuple" : Str) = true ∧ gloB sc ("range" : Str) = true ∧ mE t N sc hi pb = true := by
  cases pe <;> first | (simp [mE] at h; done) | skip
  rename_i fe ps kws q
  cases fe <;> first | (simp [mE] at h; done) | skip
  cases kws <;> first | (simp [mE] at h; done) | skip
  rcases ps with _ | ⟨p1, _ | ⟨p2, ps⟩⟩ <;> first | (simp [mE] at h; done) | skip
  cases p1 <;> first | (simp [mE] at h; done) | skip
  rename_i fe ps kws q
  cases fe <;> first | (simp [mE] at h; done) | skip
  cases kws <;> first | (simp [mE] at h; done) | skip
  rcases ps with _ | ⟨p1, _ | ⟨p2, ps⟩⟩ <;> first | (simp [mE] at h; done) | skip
  simp only [mE, Bool.and_eq_true, decide_eq_true_eq] at h
  obtain ⟨⟨⟨⟨rfl, h1⟩, rfl⟩, h2⟩, h3⟩ := h
  exact ⟨_, _, _, _, _, rfl, h1, h2, h3⟩
theorem i_lrange {lo : Eo} {hi : E} (h : mE t N sc (.lrange lo hi) pe = true) : ∃ p1 p2 ps p3 q, pe = .Call (.Name "list" p1) [.Call (.Name "range" p2) ps [] p3] [] q ∧ gloB sc ("list" : Str) = true ∧ gloB sc ("range" : Str) = true ∧
    ((∃ pb, lo = .none ∧ ps = [pb] ∧ mE t N sc hi pb = true) ∨ ∃ l pa pb, lo = .some l ∧ ps = [pa, pb] ∧ mE t N sc l pa = true ∧ mE t N sc hi pb = true) := by
  cases pe <;> first | (simp [mE] at h; done) | skip
  rename_i fe ps kws q
  cases fe <;> first | (cases lo <;> (simp [mE] at h; done)) | skip
  cases kws <;> first | (cases lo <;> (simp [mE] at h; done)) | skip
  rcases ps with _ | ⟨p1, _ | ⟨p2, ps⟩⟩ <;> first | (cases lo <;> (simp [mE] at h; done)) | skip
  cases p1 <;> first | (cases lo <;> (simp [mE] at h; done)) | skip
  rename_i fe ps kws q
  cases fe <;> first | (cases lo <;> (simp [mE] at h; done)) | skip
  cases kws <;> first | (cases lo <;> (simp [mE] at h; done)) | skip
  rcases ps with _ | ⟨p1, _ | ⟨p2, _ | ⟨p3, ps⟩⟩⟩ <;> cases lo <;> first | (simp [mE] at h; done) | skip
  · simp only [mE, Bool.and_eq_true, decide_eq_true_eq] at h
    obtain ⟨⟨⟨⟨rfl, h1⟩, rfl⟩, h2⟩, h3⟩ := h
    exact ⟨_, _, _, _, _, rfl, h1, h2, .inl ⟨_, rfl, rfl, h3⟩⟩
  · simp only [mE, Bool.and_eq_true, decide_eq_true_eq] at h
    obtain ⟨⟨⟨⟨⟨rfl, h1⟩, rfl⟩, h2⟩, h3⟩, h4⟩ := h
    exact ⟨_, _, _, _, _, rfl, h1, h2, .inr ⟨_, _, _, rfl, rfl, h3, h4⟩⟩
theorem i_mt {m : Mt} {i : Nat} {es : Es} (h : mE t N sc (.mt m i es) pe = true) : ∃ x p ap ps cp, pe = .Call (.Attribute (.Name x p) (mtN m) ap) ps [] cp ∧ nmB N sc i x = true ∧ (ap.endLine == cp.line) = true ∧ mEs t N sc es ps = true ∧ ps.length < 10 ∧ (m = .pop ↔ ps = []) := by
  cases pe <;> first | (simp [mE] at h; done) | skip
  rename_i fe ps kws q
  cases fe <;> first | (simp [mE] at h; done) | skip
  rename_i ob _ _
  cases ob <;> first | (simp [mE] at h; done) | skip
  cases kws <;> first | (simp [mE] at h; done) | skip
  simp only [mE, Bool.and_eq_true, decide_eq_true_eq] at h
  obtain ⟨⟨⟨⟨⟨h1, rfl⟩, h2⟩, h3⟩, h4⟩, h5⟩ := h
  refine ⟨_, _, _, _, _, rfl, h1, h2, h3, h4, ?_⟩
  have := eq_of_beq h5
  by_cases hm : m = .pop
  · rw [decide_eq_true hm] at this
    exact ⟨fun _ => List.isEmpty_iff.mp this.symm, fun _ => hm⟩
  · rw [decide_eq_false hm] at this
    refine ⟨fun e => absurd e hm, fun e => ?_⟩
    rw [e] at this; cases this
theorem i_cnt {b : Bool} {a e : E} (h : mE t N sc (.cnt b a e) pe = true) : ∃ pa ap pb cp, pe = .Call (.Attribute pa ("count" : Str) ap) [pb] [] cp ∧ noCall pa = true ∧ (ap.endLine == cp.line) = true ∧ mE t N sc a pa = true ∧ mE t N sc e pb = true := by
  cases pe <;> first | (simp [mE] at h; done) | skip
  rename_i fe ps kws q
  cases fe <;> first | (simp [mE] at h; done) | skip
  cases kws <;> first | (simp [mE] at h; done) | skip
  rcases ps with _ | ⟨p1, _ | ⟨p2, ps⟩⟩ <;> first | (simp [mE] at h; done) | skip
  simp only [mE, Bool.and_eq_true, decide_eq_true_eq] at h
  obtain ⟨⟨⟨⟨h1, h2⟩, rfl⟩, h3⟩, h4⟩ := h
  exact ⟨_, _, _, _, rfl, h2, h3, h1, h4⟩
theorem i_tupS {a b : E} (h : mE t N sc (.tupS a b) pe = true) : ∃ pa sp pb n q, pe = .Tuple [.Starred pa sp, pb] n q ∧ mE t N sc a pa = true ∧ mE t N sc b pb = true := by
  cases pe <;> first | (simp [mE] at h; done) | skip
  rename_i ps n q
  rcases ps with _ | ⟨p1, _ | ⟨p2, _ | ⟨p3, ps⟩⟩⟩ <;> first | (simp [mE] at h; done) | skip
  cases p1 <;> first | (simp [mE] at h; done) | skip
  simp only [mE, Bool.and_eq_true] at h
  exact ⟨_, _, _, _, _, rfl, h.1, h.2⟩
theorem i_comp {elt : E} {tg : Tg} {it : Tk.It} {ifs : Eo} {own : List Nat} (h : mE t N sc (.comp elt tg it ifs own) pe = true) : ∃ pl ptg pit pifs scope q, pe = .ListComp pl [⟨ptg, pit, pifs, 0⟩] scope q ∧ blkC N sc scope (ownOf N own) = true ∧ mTg N scope tg ptg = true ∧ mTgOwn tg own = true ∧ mE t N scope elt pl = true ∧ mIf t N scope ifs pifs = true ∧ mIt t N sc it pit = true ∧ plainIt pit = true ∧ tupTg it ptg = true := by
  cases pe <;> first | (simp [mE] at h; done) | skip
  rename_i pl gs scope q
  rcases gs with _ | ⟨⟨ptg, pit, pifs, ia⟩, _ | ⟨g2, gs⟩⟩ <;> first | (simp [mE] at h; done) | skip
  simp only [mE, Bool.and_eq_true, decide_eq_true_eq] at h
  obtain ⟨⟨⟨⟨⟨⟨⟨⟨rfl, h1⟩, h2⟩, h3⟩, h4⟩, h5⟩, h6⟩, h7⟩, h8⟩ := h
  exact ⟨_, _, _, _, _, _, rfl, h1, h2, h3, h4, h5, h6, h7, h8⟩
theorem i_comp2 {elt : E} {tg tg1 : Tg} {it it1 : Tk.It} {ifs : Eo} {own : List Nat} (h : mE t N sc (.comp2 elt tg it tg1 it1 ifs own) pe = true) : ∃ pl ptg pit ptg1 pit1 pifs scope q, pe = .ListComp pl [⟨ptg, pit, [], 0⟩, ⟨ptg1, pit1, pifs, 0⟩] scope q ∧ blkC N sc scope (ownOf N own) = true ∧ mTg N scope tg ptg = true ∧ mTgOwn tg own = true ∧ mTg N scope tg1 ptg1 = true ∧ mTgOwn tg1 own = true ∧
    mE t N scope elt pl = true ∧ mIf t N scope ifs pifs = true ∧ mIt t N sc it pit = true ∧ mIt t N scope it1 pit1 = true ∧ plainIt pit = true ∧ plainIt pit1 = true ∧ tupTg it ptg = true ∧ tupTg it1 ptg1 = true := by
  cases pe <;> first | (simp [mE] at h; done) | skip
  rename_i pl gs scope q
  rcases gs with _ | ⟨⟨ptg, pit, pifs0, ia⟩, _ | ⟨⟨ptg1, pit1, pifs, ia1⟩, _ | ⟨g3, gs⟩⟩⟩ <;> first | (simp [mE] at h; done) | skip
  cases pifs0 <;> first | (simp [mE] at h; done) | skip
  simp only [mE, Bool.and_eq_true, decide_eq_true_eq] at h
  obtain ⟨⟨⟨⟨⟨⟨⟨⟨⟨⟨⟨⟨⟨⟨rfl, rfl⟩, h1⟩, h2⟩, h3⟩, h4⟩, h5⟩, h6⟩, h7⟩, h8⟩, h9⟩, h10⟩, h11⟩, h12⟩, h13⟩ := h
  exact ⟨_, _, _, _, _, _, _, _, rfl, h1, h2, h3, h4, h5, h6, h7, h8, h9, h10, h11, h12, h13⟩
end
end Tk

set_option Elab.async false
set_option linter.all false
set_option maxRecDepth 100000
set_option maxHeartbeats 2000000
namespace Tk
open PySem PySem.Spec PyProof.Rows L2
section
variable {L : Lk} {t : Tx} {wf k : Nat} {N : List Str} {sc : Scope} {W : WX} {X : Cx} {C : Cl}
theorem pe_no {pe : Expr} {t : TE} (h : ∀ σ H Q, ¬ t σ H Q) : PE X pe t := ⟨fun pins s σ H Q I q => (h σ H Q q).elim⟩
theorem pw_no {pe : Expr} {t : TT} (h : ∀ σ H Q, ¬ t σ H Q) : PW X pe t := ⟨fun wh pins s σ H Q I q => (h σ H Q q).elim⟩
theorem oOf (g : Good L k N sc W X) {e : E} {pe : Expr} {b : Bool} (m : mE t N sc e pe = true) (h : PE X pe (specG L W C b e)) : PE X pe (specO L W C e) := by
  cases e with
  | var i =>
    obtain ⟨x, q, rfl, h1⟩ := i_var m
    exact o_var g h1
  | _ => exact o_of (fun i z => by cases z) h
theorem starA {as : As} {p : Expr} {ps : List Expr} {env : PySem.Env} (h : mAs t N sc as (p :: ps) = true) : starEach (p :: ps) env = (false, eval p env) :: starEach ps env ∧ ∃ as', mAs t N sc as' ps = true := by
  cases as with
  | nil => rw [mAs] at h <;> first | (cases h; done) | (intros; intro z; cases z)
  | val e es =>
    rw [mAs_val, Bool.and_eq_true] at h
    exact ⟨starEach_of h.1, _, h.2⟩
  | ref i es =>
    obtain ⟨x, q, rfl⟩ := mAs_inv h
    rw [mAs_ref, Bool.and_eq_true] at h
    exact ⟨rfl, _, h.2⟩
theorem mAs_nilE {as : As} (h : mAs t N sc as [] = true) : as = .nil := by
  cases as with
  | nil => rfl
  | val e es => simp [mAs] at h
  | ref i es => simp [mAs] at h
theorem mEs_nilE {as : Es} (h : mEs t N sc as [] = true) : as = .nil := by
  cases as with
  | nil => rfl
  | cons e es => simp [mEs] at h
theorem allStar {es : Es} {ps : List Expr} {env : PySem.Env} {pos : Pos} (h : mEs t N sc es ps = true) : (backTo pos (starEach ps env)).all (fun x => !x.1) = true := by
  have := noStar_of (env := env) (pos := pos) h
  rw [List.all_eq_not_any_not]
  simpa using this
theorem mKw_inv {f : Nat} {es : Es} {ks : List Nat} {kws : List Keyword} (h : mKw t N sc f es ks kws = true) : (es = .nil ∧ ks = [] ∧ kws = []) ∨ ∃ e es' k ks' x p q kws', es = .cons e es' ∧ ks = k :: ks' ∧ kws = ⟨some x, p, q⟩ :: kws' ∧ (t.ps f)[k]? = some x ∧ mE t N sc e p = true ∧ mKw t N sc f es' ks' kws' = true := by
  cases es with
  | nil => cases ks <;> cases kws <;> first | (simp [mKw] at h; done) | skip
           exact .inl ⟨rfl, rfl, rfl⟩
  | cons e es =>
    cases ks <;> cases kws <;> first | (simp [mKw] at h; done) | skip
    rename_i k ks kw kws
    obtain ⟨x, p, q⟩ := kw
    cases x <;> first | (simp [mKw] at h; done) | skip
    simp only [mKw, Bool.and_eq_true, decide_eq_true_eq] at h
    exact .inr ⟨_, _, _, _, _, _, _, _, rfl, rfl, rfl, h.1.1, h.1.2, h.2⟩
theorem kwFacts {f : Nat} {b : Tb} (hb : t.T[f]? = some b) {env : PySem.Env} {pos : Pos} : ∀ {ks : List Nat} {es : Es} {kws : List Keyword}, mKw t N sc f es ks kws = true →
    (backToKw pos (keywordEach kws env)).all (·.1.isSome) = true ∧ (backToKw pos (keywordEach kws env)).filterMap (·.1) = (ks.map fun p => (psOf b).getD p Str.empty) ∧ (backToKw pos (keywordEach kws env)).any (·.1.isNone) = false := by
  intro ks
  induction ks with
  | nil =>
    intro es kws h
    rcases mKw_inv h with ⟨_, _, rfl⟩ | ⟨_, _, _, _, _, _, _, _, _, e, _⟩
    · exact ⟨rfl, rfl, rfl⟩
    · cases e
  | cons k ks ih =>
    intro es kws h
    rcases mKw_inv h with ⟨_, e, _⟩ | ⟨e, es', k', ks', x, p, q, kws', rfl, e2, rfl, h1, h2, h3⟩
    · cases e
    · cases e2
      obtain ⟨z1, z2, z3⟩ := ih h3
      have hx : (psOf b).getD k Str.empty = x := by
        have : t.ps f = psOf b := by unfold Tx.ps psOf; rw [hb]
        rw [this] at h1
        simp [List.getD, h1]
      refine ⟨?_, ?_, ?_⟩
      · show (true && (backToKw pos (keywordEach kws' env)).all (·.1.isSome)) = true
        rw [z1]; rfl
      · show x :: (backToKw pos (keywordEach kws' env)).filterMap (·.1) = _
        rw [z2, List.map_cons, hx]
      · show (false || (backToKw pos (keywordEach kws' env)).any (·.1.isNone)) = false
        rw [z3]; rfl
theorem pk_nilE : PK X [] (specEs L W C .nil) := ⟨fun pos pins s σ H Q I ⟨fr, G, ρ, F, r, f⟩ => by
  simp only [denEs] at f
  exact pk_nil.run pos pins s σ H Q I (f [] H F (Ext.refl _ _) r .nil)⟩
theorem pk_consE {b : Bool} {e : E} {es : Es} {pe : Expr} {kws : List Keyword} {x : Option Str} {q : Pos} (h : PE X pe (specG L W C b e)) (h2 : PK X kws (specEs L W C es)) : PK X (⟨x, pe, q⟩ :: kws) (specEs L W C (.cons e es)) :=
  ⟨fun pos pins s σ H Q I ⟨fr, G, ρ, F, r, f⟩ => by
    refine (pk_cons (s_weak h) h2).run pos pins s σ H Q I ?_
    simp only [denEs] at f
    refine (show specG L W C false e σ H _ from seqE r f fun d v ρ1 H1 F1 e1 r1 rp f => ?_)
    refine (show specEs L W C es σ H1 _ from seqEs r1 f fun ds vs ρ2 H2 F2 e2 r2 rs f => ?_)
    exact f (v :: vs) H2 F2 (e1.trans e2) r2 (.cons (r1.rep e2 rp) rs)⟩
/-- what is shown of an expression -/
structure OkE (L : Lk) (t : Tx) (wf k : Nat) (W : WX) (X : Cx) (e : E) (pe : Expr) : Prop where
  v : PE X pe (specG L W (cl t wf k) (frE t e) e)
  b : PT X pe (specT L W (cl t wf k) e)
theorem okOf {e : E} {pe : Expr} (h : PE X pe (specG L W (cl t wf k) (frE t e) e)) (he : ∀ whole, isTrue pe X.env whole = (do let v ← whole; standAt pe.pos; holding [v] (truthy v))) : OkE L t wf k W X e pe := ⟨h, t_of h he⟩
structure OkEs (L : Lk) (t : Tx) (wf k : Nat) (W : WX) (X : Cx) (es : Es) (ps : List Expr) : Prop where
  v : PA X ps (specEs L W (cl t wf k) es)
  o : PA X ps (specOs L W (cl t wf k) es)
  and : ∀ pos, PE X (.BoolOp .And ps pos) (specAnd L W (cl t wf k) es)
  andT : ∀ pos, PW X (.BoolOp .And ps pos) (specAndT L W (cl t wf k) es)
  or : ∀ pos, PE X (.BoolOp .Or ps pos) (specOr L W (cl t wf k) es)
  orT : ∀ pos, PW X (.BoolOp .Or ps pos) (specOrT L W (cl t wf k) es)
def VE (L : Lk) (t : Tx) (wf k : Nat) (N : List Str) (e : E) : Prop := ∀ sc W X pe, Good L k N sc W X → mE t N sc e pe = true → OkE L t wf k W X e pe
def VEs (L : Lk) (t : Tx) (wf k : Nat) (N : List Str) (es : Es) : Prop := ∀ sc W X, Good L k N sc W X → (∀ ps, mEs t N sc es ps = true → OkEs L t wf k W X es ps) ∧ ∀ f ks kws, mKw t N sc f es ks kws = true → PK X kws (specEs L W (cl t wf k) es)
def VEo (L : Lk) (t : Tx) (wf k : Nat) (N : List Str) (e : Eo) : Prop := ∀ sc W X, Good L k N sc W X → (∀ o, mEo t N sc e o = true → PO X o (specPart L W (cl t wf k) e)) ∧ (∀ ps, mIf t N sc e ps = true → PTs X ps (specIf L W (cl t wf k) e)) ∧
  ∀ e', e = .some e' → ∀ pe, mE t N sc e' pe = true → OkE L t wf k W X e' pe
def VAs (L : Lk) (t : Tx) (wf k : Nat) (N : List Str) (as : As) : Prop := ∀ sc W X ps, Good L k N sc W X → mAs t N sc as ps = true → PA X ps (specAs L W (cl t wf k) as)
def VIt (L : Lk) (t : Tx) (wf k : Nat) (N : List Str) (it : Tk.It) : Prop := ∀ sc W X tg pe, Good L k N sc W X → mIt t N sc it pe = true → tupTg it tg = true → PI X tg pe (specIt L W (cl t wf k) it)

theorem v_bi (lk : LkOk L t) {f : Bi} {es : Es} (ih : VEs L t wf k N es) : VE L t wf k N (.bi f es) := by
  intro sc W X pe g m
  obtain ⟨p, ps, q, rfl, h1, h2, h3, h4⟩ := i_bi m
  cases ps with
  | nil => cases h4
  | cons p1 ps =>
    cases es with
    | nil => rw [mEs_nc] at h3; cases h3
    | cons e es =>
      have h3' := h3
      rw [mEs_cons, Bool.and_eq_true] at h3'
      exact okOf (s_bi g lk h1 h2 ((ih sc W X g).1 _ h3).o (starEach_of h3'.1) (noStar_of h3'.2)) fun _ => rfl
theorem v_call (lk : LkOk L t) (fl : FnL L t wf k) {f : Nat} {as : As} (ih : VAs L t wf k N as) : VE L t wf k N (.call f as) := by
  intro sc W X pe g m
  obtain ⟨b, p, ps, q, rfl, h1, h2, h3, h4⟩ := i_call m
  have hfr : frE t (.call f as) = b.fr := fr_of h1
  refine okOf ?_ fun _ => rfl
  rw [hfr]
  cases ps with
  | nil =>
    have := mAs_nilE h4
    subst this
    exact s_call0 g lk fl h1 h2 h3
  | cons p1 ps =>
    obtain ⟨z1, as', z2⟩ := starA (env := X.env) h4
    exact s_call g lk fl h1 h2 h3 (ih sc W X _ g h4) z1 (noStarA_of z2)
theorem v_callv (lk : LkOk L t) (fl : FnL L t wf k) {i : Nat} {as : As} (ih : VAs L t wf k N as) : VE L t wf k N (.callv i as) := by
  intro sc W X pe g m
  obtain ⟨x, p, ps, q, rfl, h1, h4, h5⟩ := i_callv m
  cases ps with
  | nil => cases h5
  | cons p1 ps =>
    obtain ⟨z1, as', z2⟩ := starA (env := X.env) h4
    exact okOf (s_callv g lk fl h1 (ih sc W X _ g h4) z1 (noStarA_of z2)) fun _ => rfl
theorem v_calln (lk : LkOk L t) (fl : FnL L t wf k) {f : Nat} {e : E} (ih : VE L t wf k N e) : VE L t wf k N (.calln f e) := by
  intro sc W X pe g m
  obtain ⟨b, p, pe1, q, rfl, h1, h2, h3, h4, h5⟩ := i_calln m
  have hfr : frE t (.calln f e) = b.fr := fr_of h1
  refine okOf ?_ fun _ => rfl
  rw [hfr]
  have := (ih sc W X pe1 g h5).v
  rw [h4] at this
  exact s_calln g lk fl h1 h2 h3 this (starEach_of h5)
theorem v_join {s : Str} {e : E} (ih : VE L t wf k N e) : VE L t wf k N (.join s e) := by
  intro sc W X pe g m
  obtain ⟨n, p1, ap, pe1, cp, rfl, h1, h2, h3⟩ := i_join m
  exact okOf (s_join g h1 h2 (ih sc W X pe1 g h3).v (starEach_of h3)) fun _ => rfl
theorem v_callk (lk : LkOk L t) (fl : FnL L t wf k) {f : Nat} {kw : Es} {ks : List Nat} (ih : VEs L t wf k N kw) : VE L t wf k N (.callk f kw ks) := by
  intro sc W X pe g m
  obtain ⟨b, p, kws, q, rfl, h1, h2, h3, h4, h5⟩ := i_callk m
  have hfr : frE t (.callk f kw ks) = b.fr := fr_of h1
  refine okOf ?_ fun _ => rfl
  rw [hfr]
  obtain ⟨z1, z2, z3⟩ := kwFacts h1 (env := X.env) (pos := q) h5
  exact s_callk g lk fl h1 h2 h3 h4 ((ih sc W X g).2 f ks kws h5) z1 z2 (by rw [z3]; rfl)
theorem v_isi (lk : LkOk L t) {a : E} {ts : List Ty} (ih : VE L t wf k N a) : VE L t wf k N (.isi a ts) := by
  intro sc W X pe g m
  obtain ⟨p, pa, pt, q, rfl, h1, h2, h3⟩ := i_isi m
  have o := oOf g h2 (ih sc W X pa g h2).v
  have hs := fun ps => starEach_of (es := ps) (env := X.env) h2
  refine okOf ?_ fun _ => rfl
  rcases h3 with ⟨ty, p2, rfl, rfl, h4⟩ | ⟨ps, n, p2, rfl, h4, h5⟩
  · exact s_isi1 g lk h1 h4 o (hs _)
  · exact s_isiT g lk h1 h4 o h5 (hs _)
theorem v_cnt {b : Bool} {a e : E} (ia : VE L t wf k N a) (ie : VE L t wf k N e) : VE L t wf k N (.cnt b a e) := by
  intro sc W X pe g m
  obtain ⟨pa, ap, pb, cp, rfl, h1, h2, h3, h4⟩ := i_cnt m
  exact okOf (s_cnt g h1 h2 (ia sc W X pa g h3).v (ie sc W X pb g h4).v (starEach_of h4)) fun _ => rfl
theorem v_tupS {a b : E} (ia : VE L t wf k N a) (ib : VE L t wf k N b) : VE L t wf k N (.tupS a b) := by
  intro sc W X pe g m
  obtain ⟨pa, sp, pb, n, q, rfl, h1, h2⟩ := i_tupS m
  exact okOf (s_tupS g (ia sc W X pa g h1).v (ib sc W X pb g h2).v (starEach_of h2) rfl) fun _ => rfl
theorem v_trange (lk : LkOk L t) {hi : E} (ih : VE L t wf k N hi) : VE L t wf k N (.trange hi) := by
  intro sc W X pe g m
  obtain ⟨p1, p2, pb, p3, q, rfl, h1, h2, h3⟩ := i_trange m
  exact okOf (s_trange g lk h1 h2 (ih sc W X pb g h3).v (starEach_of h3)) fun _ => rfl
theorem v_lrange (lk : LkOk L t) {lo : Eo} {hi : E} (il : VEo L t wf k N lo) (ih : VE L t wf k N hi) : VE L t wf k N (.lrange lo hi) := by
  intro sc W X pe g m
  obtain ⟨p1, p2, ps, p3, q, rfl, h1, h2, h3⟩ := i_lrange m
  refine okOf ?_ fun _ => rfl
  rcases h3 with ⟨pb, rfl, rfl, h4⟩ | ⟨l, pa, pb, rfl, rfl, h4, h5⟩
  · exact s_lrange1 g lk h1 h2 (ih sc W X pb g h4).v (starEach_of h4)
  · exact s_lrange2 g lk h1 h2 ((il sc W X g).2.2 l rfl pa h4).v (ih sc W X pb g h5).v (starEach_of h4) (starEach_of h5)
theorem v_mt {mm : Mt} {i : Nat} {es : Es} (ih : VEs L t wf k N es) : VE L t wf k N (.mt mm i es) := by
  intro sc W X pe g m
  obtain ⟨x, p, ap, ps, cp, rfl, h1, h2, h3, h4, h5⟩ := i_mt m
  refine okOf ?_ fun _ => rfl
  cases ps with
  | nil =>
    have e := h5.mpr rfl
    subst e
    exact s_mt0 g h1 h2 (mEs_nilE h3)
  | cons p1 ps =>
    have enp : mm ≠ .pop := fun e => by have := h5.mp e; cases this
    cases es with
    | nil => rw [mEs_nc] at h3; cases h3
    | cons e es =>
      have h3' := h3
      rw [mEs_cons, Bool.and_eq_true] at h3'
      exact s_mt g enp h1 h2 ((ih sc W X g).1 _ h3).v h4 (starEach_of h3'.1) (noStar_of h3'.2) (allStar h3)
theorem v_con {d : D} : VE L t wf k N (.con d) := by
  intro sc W X pe g m
  cases d with
  | non =>
    cases pe <;> first | (simp [mE] at m; done) | skip
    rename_i c _ _
    cases c <;> first | (simp [mE] at m; done) | skip
    exact okOf (s_con pe_non fun A H => by simp only [Rep]) fun _ => rfl
  | bl b =>
    cases pe <;> first | (simp [mE] at m; done) | skip
    rename_i c _ _
    cases c <;> first | (simp [mE] at m; done) | skip
    simp only [mE, beq_iff_eq] at m
    subst m
    exact okOf (s_con pe_bl fun A H => by simp only [Rep]) fun _ => rfl
  | int b =>
    cases pe <;> first | (simp [mE] at m; done) | skip
    rename_i c _ _
    cases c <;> first | (simp [mE] at m; done) | skip
    simp only [mE, beq_iff_eq] at m
    subst m
    exact okOf (s_con pe_int fun A H => by simp only [Rep]) fun _ => rfl
  | str b =>
    cases pe <;> first | (simp [mE] at m; done) | skip
    rename_i c _ _
    cases c <;> first | (simp [mE] at m; done) | skip
    simp only [mE, Bool.and_eq_true, decide_eq_true_eq] at m
    obtain ⟨rfl, m⟩ := m
    exact okOf (s_con pe_str fun A H => by simp only [Rep]; exact ⟨trivial, m⟩) fun _ => rfl
  | tup xs => cases pe <;> (simp [mE] at m; done)
  | lst xs => cases pe <;> (simp [mE] at m; done)
  | scr xs => cases pe <;> (simp [mE] at m; done)
  | fn j => cases pe <;> (simp [mE] at m; done)
  | dct =>
    cases pe <;> first | (simp [mE] at m; done) | skip
    rename_i ks vs _
    cases ks <;> cases vs <;> first | (simp [mE] at m; done) | skip
    exact okOf (s_dnew) fun _ => rfl
theorem v_comp (lk : LkOk L t) {elt : E} {tg : Tg} {it : Tk.It} {ifs : Eo} {own : List Nat} (ie : VE L t wf k N elt) (ii : VIt L t wf k N it) (io : VEo L t wf k N ifs) : VE L t wf k N (.comp elt tg it ifs own) := by
  intro sc W X pe g m
  obtain ⟨pl, ptg, pit, pifs, scope, q, rfl, h1, h2, h3, h4, h5, h6, h7, h8⟩ := i_comp m
  refine okOf ?_ fun _ => rfl
  exact s_comp g h1 h2 h3 (nm_tup h2 h8) (ii sc W X ptg pit g h6 h8) (fun x => by cases pit <;> first | rfl | cases h7) (fun X' g' => (ie scope _ X' pl g' h4).v) fun X' g' => (io scope _ X' g').2.1 pifs h5
theorem v_comp2 (lk : LkOk L t) {elt : E} {tg tg1 : Tg} {it it1 : Tk.It} {ifs : Eo} {own : List Nat} (ie : VE L t wf k N elt) (ii : VIt L t wf k N it) (ii1 : VIt L t wf k N it1) (io : VEo L t wf k N ifs) : VE L t wf k N (.comp2 elt tg it tg1 it1 ifs own) := by
  intro sc W X pe g m
  obtain ⟨pl, ptg, pit, ptg1, pit1, pifs, scope, q, rfl, h1, h2, h3, h4, h5, h6, h7, h8, h9, h10, h11, h12, h13⟩ := i_comp2 m
  refine okOf ?_ fun _ => rfl
  exact s_comp2 g h1 h2 h3 h4 h5 (nm_tup h2 h12) (nm_tup h4 h13) (ii sc W X ptg pit g h8 h12) (fun x => by cases pit <;> first | rfl | cases h10) (fun _ x => by cases pit1 <;> first | rfl | cases h11) (fun X' g' => ii1 scope _ X' ptg1 pit1 g' h9 h13) (fun X' g' => (ie scope _ X' pl g' h6).v) fun X' g' => (io scope _ X' g').2.1 pifs h7
theorem v_cons {e : E} {es : Es} (ie : VE L t wf k N e) (is : VEs L t wf k N es) : VEs L t wf k N (.cons e es) := by
  intro sc W X g
  refine ⟨fun ps m => ?_, fun f ks kws m => ?_⟩
  · cases ps with
    | nil => rw [mEs_cn] at m; cases m
    | cons p ps =>
      rw [mEs_cons, Bool.and_eq_true] at m
      have O := ie sc W X p g m.1
      have R := (is sc W X g).1 ps m.2
      have ao : (∀ pos, PE X (.BoolOp .And (p :: ps) pos) (specAnd L W (cl t wf k) (.cons e es))) ∧ (∀ pos, PW X (.BoolOp .And (p :: ps) pos) (specAndT L W (cl t wf k) (.cons e es))) ∧
          (∀ pos, PE X (.BoolOp .Or (p :: ps) pos) (specOr L W (cl t wf k) (.cons e es))) ∧ (∀ pos, PW X (.BoolOp .Or (p :: ps) pos) (specOrT L W (cl t wf k) (.cons e es))) := by
        cases es with
        | nil =>
          cases ps with
          | nil => exact ⟨fun pos => and_one O.v, fun pos => andT_one O.b, fun pos => or_one O.v, fun pos => orT_one O.b⟩
          | cons p' ps => have := m.2; rw [mEs_nc] at this; cases this
        | cons e' es =>
          cases ps with
          | nil => have := m.2; rw [mEs_cn] at this; cases this
          | cons p' ps => exact ⟨fun pos => and_cons O.v (R.and pos), fun pos => andT_cons O.b (R.andT pos), fun pos => or_cons O.v (R.or pos), fun pos => orT_cons O.b (R.orT pos)⟩
      exact ⟨es_cons O.v R.v (starEach_of m.1), os_cons (oOf g m.1 O.v) R.o (starEach_of m.1), ao.1, ao.2.1, ao.2.2.1, ao.2.2.2⟩
  · rcases mKw_inv m with ⟨z, _⟩ | ⟨e', es', k', ks', x, p, q, kws', ee, rfl, rfl, h1, h2, h3⟩
    · cases z
    · cases ee
      exact pk_consE (ie sc W X p g h2).v ((is sc W X g).2 f ks' kws' h3)
theorem v_nil : VEs L t wf k N .nil := by
  intro sc W X g
  refine ⟨fun ps m => ?_, fun f ks kws m => ?_⟩
  · cases ps with
    | cons p ps => rw [mEs_nc] at m; cases m
    | nil =>
      have no : ∀ {α : Type} {P : α → Env → Prop} {NN : Nat → D → Env → Prop}, ¬ Fin (R.stuck : R α) P NN := fun z => z
      exact ⟨es_nil, os_nil, fun pos => pe_no fun σ H Q ⟨fr, G, ρ, F, r, f⟩ => by simp only [denAnd] at f; exact f, fun pos => pw_no fun σ H Q ⟨fr, G, ρ, F, r, f⟩ => by simp only [denAnd] at f; exact f,
        fun pos => pe_no fun σ H Q ⟨fr, G, ρ, F, r, f⟩ => by simp only [denOr] at f; exact f, fun pos => pw_no fun σ H Q ⟨fr, G, ρ, F, r, f⟩ => by simp only [denOr] at f; exact f⟩
  · rcases mKw_inv m with ⟨_, _, rfl⟩ | ⟨_, _, _, _, _, _, _, _, z, _⟩
    · exact pk_nilE
    · cases z
theorem v_it (lk : LkOk L t) {it : Tk.It} (h1 : ∀ e, it = .seq e ∨ it = .enum e → VE L t wf k N e) (h3 : ∀ a b, it = .zip a b → VE L t wf k N a ∧ VE L t wf k N b) (h2 : ∀ lo hi, it = .rng lo hi → VEo L t wf k N lo ∧ VE L t wf k N hi) : VIt L t wf k N it := by
  intro sc W X tg pe g m tt
  cases it with
  | seq e =>
    simp only [mIt] at m
    exact i_seq g (oOf g m (h1 e (.inl rfl) sc W X pe g m).v)
  | rng lo hi =>
    obtain ⟨v1, v2⟩ := h2 lo hi rfl
    simp only [mIt] at m
    split at m
    · rename_i y pb e
      obtain ⟨q1, q2, rfl⟩ := rangeArgs_inv e
      simp only [Bool.and_eq_true, decide_eq_true_eq] at m
      obtain ⟨⟨⟨rfl, m1⟩, m3⟩, m2⟩ := m
      cases lo with
      | none => exact i_rng1 g lk m1 (v2 sc W X _ g m2).v (starEach_of m2)
      | some l => cases m3
    · rename_i y pa pb e
      obtain ⟨q1, q2, rfl⟩ := rangeArgs_inv e
      simp only [Bool.and_eq_true, decide_eq_true_eq] at m
      obtain ⟨⟨⟨⟨rfl, m1⟩, m4⟩, m3⟩, m2⟩ := m
      cases lo with
      | none => cases m4
      | some l =>
        simp only [mEo] at m3
        exact i_rng2 g lk m1 ((v1 sc W X g).2.2 _ rfl _ m3).v (v2 sc W X _ g m2).v (starEach_of m3) (starEach_of m2)
    · cases m
  | rngC lo hi c => cases pe <;> (simp only [mIt] at m; cases m; done)
  | enum e =>
    simp only [mIt] at m
    split at m
    · rename_i y pa e1
      obtain ⟨q1, q2, rfl⟩ := rangeArgs_inv e1
      simp only [Bool.and_eq_true, decide_eq_true_eq] at m
      obtain ⟨⟨rfl, m1⟩, m2⟩ := m
      cases tg <;> first | (simp [tupTg] at tt; done) | skip
      exact i_enum g lk m1 (h1 e (.inr rfl) sc W X _ g m2).v (starEach_of m2)
    · cases m
  | zip a b =>
    simp only [mIt] at m
    split at m
    · rename_i y pa pb e1
      obtain ⟨q1, q2, rfl⟩ := rangeArgs_inv e1
      simp only [Bool.and_eq_true, decide_eq_true_eq] at m
      obtain ⟨⟨⟨rfl, m1⟩, m2⟩, m3⟩ := m
      cases tg <;> first | (simp [tupTg] at tt; done) | skip
      exact i_zip g lk m1 ((h3 a b rfl).1 sc W X _ g m2).v ((h3 a b rfl).2 sc W X _ g m3).v (starEach_of m2) (starEach_of m3)
    · cases m
theorem v_none : VEo L t wf k N .none := by
  intro sc W X g
  refine ⟨fun o m => ?_, fun ps m => ?_, fun e' z => by cases z⟩
  · cases o with
    | none => exact part_none
    | some p => simp [mEo] at m
  · cases ps with
    | nil => exact if_none
    | cons p ps => simp [mIf] at m
theorem v_some {e : E} (ih : VE L t wf k N e) : VEo L t wf k N (.some e) := by
  intro sc W X g
  refine ⟨fun o m => ?_, fun ps m => ?_, fun e' z pe m => ?_⟩
  · cases o with
    | none => simp [mEo] at m
    | some p => simp only [mEo] at m; exact part_some (ih sc W X p g m).v
  · rcases ps with _ | ⟨p, _ | ⟨p2, ps⟩⟩ <;> first | (simp [mIf] at m; done) | skip
    simp only [mIf] at m
    exact if_some (ih sc W X p g m).b
  · cases z
    exact ih sc W X pe g m
mutual
theorem vE (lk : LkOk L t) (fl : FnL L t wf k) : ∀ e : E, VE L t wf k N e
  | .var i => fun sc W X pe g m => by
    obtain ⟨x, q, rfl, h1⟩ := i_var m
    exact okOf (s_var g h1) fun _ => rfl
  | .con d => v_con
  | .glob i => fun sc W X pe g m => by
    obtain ⟨x, d, q, rfl, h1, h2, h3⟩ := i_glob m
    exact okOf (s_glob g lk h1 h2 h3) fun _ => rfl
  | .bin o a b => fun sc W X pe g m => by
    obtain ⟨pa, pb, q, rfl, h1, h2⟩ := i_bin m
    exact okOf (s_bin g (oOf g h1 (vE lk fl a sc W X pa g h1).v) (oOf g h2 (vE lk fl b sc W X pb g h2).v)) fun _ => rfl
  | .neg a => fun sc W X pe g m => by
    obtain ⟨pa, q, rfl, h1⟩ := i_neg m
    exact okOf (s_neg (vE lk fl a sc W X pa g h1).v) fun _ => rfl
  | .cmp o a b => fun sc W X pe g m => by
    obtain ⟨pa, pb, q, rfl, h1, h2⟩ := i_cmp m
    have oa := oOf g h1 (vE lk fl a sc W X pa g h1).v
    have ob := oOf g h2 (vE lk fl b sc W X pb g h2).v
    exact ⟨s_cmp g oa ob (mark_of h2), t_cmp g oa ob (mark_of h2)⟩
  | .chain o o' a b c => fun sc W X pe g m => by
    obtain ⟨pa, pb, pc, q, rfl, h1, h2, h3⟩ := i_chain m
    have oa := oOf g h1 (vE lk fl a sc W X pa g h1).v
    have ob := oOf g h2 (vE lk fl b sc W X pb g h2).v
    have oc := oOf g h3 (vE lk fl c sc W X pc g h3).v
    exact ⟨s_chain g oa ob oc (mark_of h3), t_chain g oa ob oc (mark_of h3)⟩
  | .and es => fun sc W X pe g m => by
    obtain ⟨ps, q, rfl, h1⟩ := i_and m
    have R := (vEs lk fl es sc W X g).1 ps h1
    exact ⟨s_and (R.and q), t_and (R.andT q)⟩
  | .or es => fun sc W X pe g m => by
    obtain ⟨ps, q, rfl, h1⟩ := i_or m
    have R := (vEs lk fl es sc W X g).1 ps h1
    exact ⟨s_or (R.or q), t_or (R.orT q)⟩
  | .not a => fun sc W X pe g m => by
    obtain ⟨pa, q, rfl, h1⟩ := i_not m
    have O := vE lk fl a sc W X pa g h1
    exact ⟨s_not O.v, t_not O.b⟩
  | .ife c a b => fun sc W X pe g m => by
    obtain ⟨pc, pa, pb, q, rfl, h1, h2, h3⟩ := i_ife m
    have Oc := vE lk fl c sc W X pc g h1
    have Oa := vE lk fl a sc W X pa g h2
    have Ob := vE lk fl b sc W X pb g h3
    exact ⟨s_ife Oc.b Oa.v Ob.v, t_ife Oc.b Oa.b Ob.b⟩
  | .tup es => fun sc W X pe g m => by
    obtain ⟨ps, n, q, rfl, h1⟩ := i_tup m
    exact okOf (s_tup ((vEs lk fl es sc W X g).1 ps h1).v) fun _ => rfl
  | .lst es => fun sc W X pe g m => by
    obtain ⟨ps, q, rfl, h1⟩ := i_lst m
    exact okOf (s_lst ((vEs lk fl es sc W X g).1 ps h1).v) fun _ => rfl
  | .idx a b => fun sc W X pe g m => by
    obtain ⟨pa, pb, q, rfl, h1, h2⟩ := i_idx m
    exact okOf (s_idx g (oOf g h1 (vE lk fl a sc W X pa g h1).v) (vE lk fl b sc W X pb g h2).v (plainIx_of h2)) fun _ => rfl
  | .rev a => fun sc W X pe g m => by
    obtain ⟨pa, n, p1, p2, p3, q, rfl, h1⟩ := i_rev m
    exact okOf (s_rev g (oOf g h1 (vE lk fl a sc W X _ g h1).v)) fun _ => rfl
  | .sl a lo hi => fun sc W X pe g m => by
    obtain ⟨pa, plo, phi, q2, q, rfl, h1, h2, h3⟩ := i_sl m
    exact okOf (s_sl g (oOf g h1 (vE lk fl a sc W X pa g h1).v) ((vEo lk fl lo sc W X g).1 plo h2) ((vEo lk fl hi sc W X g).1 phi h3)) fun _ => rfl
  | .call f as => v_call lk fl (vAs lk fl as)
  | .callk f kw ks => v_callk lk fl (vEs lk fl kw)
  | .callv i as => v_callv lk fl (vAs lk fl as)
  | .calln f e => v_calln lk fl (vE lk fl e)
  | .join s e => v_join (vE lk fl e)
  | .cnt b a e => v_cnt (vE lk fl a) (vE lk fl e)
  | .tupS a b => v_tupS (vE lk fl a) (vE lk fl b)
  | .bi b es => v_bi lk (vEs lk fl es)
  | .isi a ts => v_isi lk (vE lk fl a)
  | .lrange lo hi => v_lrange lk (vEo lk fl lo) (vE lk fl hi)
  | .trange hi => v_trange lk (vE lk fl hi)
  | .mt m i es => v_mt (vEs lk fl es)
  | .comp elt tg it ifs own => v_comp lk (vE lk fl elt) (vIt lk fl it) (vEo lk fl ifs)
  | .comp2 elt tg it tg1 it1 ifs own => v_comp2 lk (vE lk fl elt) (vIt lk fl it) (vIt lk fl it1) (vEo lk fl ifs)
theorem vEs (lk : LkOk L t) (fl : FnL L t wf k) : ∀ es : Es, VEs L t wf k N es
  | .nil => v_nil
  | .cons e es => v_cons (vE lk fl e) (vEs lk fl es)
theorem vEo (lk : LkOk L t) (fl : FnL L t wf k) : ∀ es : Eo, VEo L t wf k N es
  | .none => v_none
  | .some e => v_some (vE lk fl e)
theorem vAs (lk : LkOk L t) (fl : FnL L t wf k) : ∀ es : As, VAs L t wf k N es
  | .nil => fun sc W X ps g m => by
    cases ps with
    | nil => exact as_nil
    | cons p ps => rw [mAs] at m <;> first | (cases m; done) | (intros; intro z; cases z)
  | .val e as => fun sc W X ps g m => by
    cases ps with
    | nil => simp [mAs] at m
    | cons p ps =>
      rw [mAs_val, Bool.and_eq_true] at m
      exact as_val (vE lk fl e sc W X p g m.1).v (vAs lk fl as sc W X ps g m.2) (starEach_of m.1)
  | .ref i as => fun sc W X ps g m => by
    cases ps with
    | nil => simp [mAs] at m
    | cons p ps =>
      obtain ⟨x, q, rfl⟩ := mAs_inv m
      rw [mAs_ref, Bool.and_eq_true] at m
      exact as_ref g m.1 (vAs lk fl as sc W X ps g m.2)
theorem vIt (lk : LkOk L t) (fl : FnL L t wf k) : ∀ it : Tk.It, VIt L t wf k N it
  | .seq e => v_it lk (fun e' z => by rcases z with z | z <;> cases z; exact vE lk fl e) (fun a b z => by cases z) fun lo hi z => by cases z
  | .rng lo hi => v_it lk (fun e' z => by rcases z with z | z <;> cases z) (fun a b z => by cases z) fun lo' hi' z => by cases z; exact ⟨vEo lk fl lo, vE lk fl hi⟩
  | .rngC lo hi c => v_it lk (fun e' z => by rcases z with z | z <;> cases z) (fun a b z => by cases z) fun lo' hi' z => by cases z
  | .enum e => v_it lk (fun e' z => by rcases z with z | z <;> cases z; exact vE lk fl e) (fun a b z => by cases z) fun lo' hi' z => by cases z
  | .zip a b => v_it lk (fun e' z => by rcases z with z | z <;> cases z) (fun a' b' z => by cases z; exact ⟨vE lk fl a, vE lk fl b⟩) fun lo' hi' z => by cases z
end
end
end Tk

set_option Elab.async false
set_option linter.all false
set_option maxRecDepth 100000
set_option maxHeartbeats 2000000
namespace Tk
open PySem PySem.Spec PyProof.Rows L2

/-! ### statements against the text -/
def nonComp : Expr → Bool
  | .ListComp .. => false
  | .SetComp .. => false
  | .DictComp .. => false
  | _ => true
def isStarred : Expr → Bool
  | .Starred .. => true
  | _ => false
def swNames (sc : Scope) (line : Nat) (ts : List Expr) : List Str := ts.filterMap fun
  | .Name id pos => if sc.names.lookup id == some .local && pos.line == line then some id else none
  | _ => none
/-- which names' stores go from the right; none: not known -/
def swS (sc : Scope) (ts vs : List Expr) : Option (Option (List Str)) :=
  if !(ts.length == 2 || ts.length == 3) || vs.length != ts.length then some none
  else if vs.any isStarred then some none
  else if (swNames sc ((ts.head?.map (·.pos.line)).getD 0) ts).length != ts.length || (swNames sc ((ts.head?.map (·.pos.line)).getD 0) ts).eraseDups.length != (swNames sc ((ts.head?.map (·.pos.line)).getD 0) ts).length then some none
  else if vs.all (foldedForSure 8) then some none
  else if vs.all (constantsAlone 8) then none
  else some (some (swNames sc ((ts.head?.map (·.pos.line)).getD 0) ts))
theorem sw_of {sc : Scope} {env : PySem.Env} {ts vs : List Expr} {n m : Nat} {p q : Pos} {r : Option (List Str)} (hs : env.scope = sc) (hk : sc.kind = .function) (h : swS sc ts vs = some r) : swappedStores [.Tuple ts n p] (.Tuple vs m q) env = pure r := by
  have hb : env.blockKind = .function := by unfold Env.blockKind; rw [hs, hk]; rfl
  subst hs
  have e0 : swappedStores [.Tuple ts n p] (.Tuple vs m q) env =
      if (!(ts.length == 2 || ts.length == 3) || vs.length != ts.length || env.blockKind != .function) = true then pure none else
      if vs.any isStarred = true then pure none else
      if ((swNames env.scope ((ts.head?.map (·.pos.line)).getD 0) ts).length != ts.length || (swNames env.scope ((ts.head?.map (·.pos.line)).getD 0) ts).eraseDups.length != (swNames env.scope ((ts.head?.map (·.pos.line)).getD 0) ts).length) = true then pure none else
      if vs.all (foldedForSure 8) = true then pure none else
      if vs.all (constantsAlone 8) = true then (do unsupported "assign.tuple-of-constant-expressions:order-of-the-stores"; return some (swNames env.scope ((ts.head?.map (·.pos.line)).getD 0) ts)) else
      pure (some (swNames env.scope ((ts.head?.map (·.pos.line)).getD 0) ts)) := rfl
  rw [e0, hb]
  unfold swS at h
  by_cases h1 : (!(ts.length == 2 || ts.length == 3) || vs.length != ts.length) = true
  · rw [if_pos h1] at h
    cases h
    have : (!(ts.length == 2 || ts.length == 3) || vs.length != ts.length || ScopeKind.function != ScopeKind.function) = true := by rw [h1]; rfl
    rw [if_pos this]
  · rw [if_neg h1] at h
    have : ¬ (!(ts.length == 2 || ts.length == 3) || vs.length != ts.length || ScopeKind.function != ScopeKind.function) = true := by
      rw [Bool.not_eq_true] at h1
      rw [h1]; decide
    rw [if_neg this]
    split at h
    · rename_i h2
      cases h; rw [if_pos h2]
    · rename_i h2
      rw [if_neg h2]
      split at h
      · rename_i h3
        cases h; rw [if_pos h3]
      · rename_i h3
        rw [if_neg h3]
        split at h
        · rename_i h4
          cases h; rw [if_pos h4]
        · rename_i h4
          rw [if_neg h4]
          split at h
          · cases h
          · rename_i h5
            cases h; rw [if_neg h5]
def compLine (sc : Scope) (x : Str) (px : Pos) : Expr → Bool
  | .ListComp _ _ scope p => px.line == p.line && !(scope.names.any fun (n, k) => n == x && (k == .local || k == .cell))
  | _ => false
def localB (sc : Scope) (x : Str) : Bool := match sc.names.lookup x with
  | some .local => true
  | _ => false
def tgVal (sc : Scope) (es : List Expr) : Expr → Bool
  | .Tuple vs _ _ => match swS sc es vs with
    | some none => true
    | _ => false
  | e => nonComp e
def parVal (sc : Scope) (es : List Expr) (pe : Expr) : Option (List Str × List Expr) := match pe with
  | .Tuple vs _ _ => match swS sc es vs with
    | some (some ns) => some (ns, vs)
    | _ => none
  | _ => none
def namesB (N : List Str) (sc : Scope) : List Nat → List Expr → List Str → Bool
  | [], [], [] => true
  | i :: is, .Name x _ :: es, y :: ys => decide (x = y) && decide (N[i]? = some x) && localB sc x && namesB N sc is es ys
  | _, _, _ => false
def one (tgs : List Expr) (f : Expr → Bool) : Bool := match tgs with
  | [t] => f t
  | _ => false
theorem one_inv {tgs : List Expr} {f : Expr → Bool} (h : one tgs f = true) : ∃ t, tgs = [t] ∧ f t = true := by
  unfold one at h
  split at h
  · exact ⟨_, rfl, h⟩
  · cases h
def notSt : E → Bool
  | .tupS _ _ => false
  | _ => true
def mAsg (t : Tx) (N : List Str) (sc : Scope) (tg : Tg) (e : E) (tx pe : Expr) : Bool := match tg, tx with
  | .name i, .Name x px => decide (N[i]? = some x) && locB sc x && mE t N sc e pe && (nonComp pe || compLine sc x px pe)
  | .tup is, .Tuple es _ _ => mE t N sc e pe && ((mTgs N sc is es && tgVal sc es pe) || match parVal sc es pe with
    | some (ns, _) => namesB N sc is es ns && nodupB is && notSt e
    | none => false)
  | _, _ => false
def mAsgO (t : Tx) (N : List Str) (sc : Scope) (i : Nat) (e : E) (tx pe : Expr) : Bool := match tx with
  | .Name x px => decide (N[i]? = some x) && locB sc x && mE t N sc e pe && (nonComp pe || compLine sc x px pe) && frE t e
  | _ => false
def mSetT (t : Tx) (N : List Str) (sc : Scope) (i : Nat) (ix : E) (j : Nat) (e : E) (tx pe : Expr) : Bool := match tx with
  | .Tuple [.Subscript (.Name x _) pix _, .Name y _] _ _ => nmB N sc i x && mE t N sc ix pix && decide (N[j]? = some y) && locB sc y && mE t N sc e pe && (match pe with
    | .Call .. => true
    | .Name .. => true
    | _ => false)
  | _ => false
def mSetI (t : Tx) (N : List Str) (sc : Scope) (i : Nat) (ix e : E) (tx pe : Expr) : Bool := match tx with
  | .Subscript (.Name x _) pix _ => nmB N sc i x && mE t N sc ix pix && mE t N sc e pe
  | _ => false
/-- the items of a parallel assignment; the flagged ones make new lists -/
def mPs (t : Tx) (N : List Str) (sc : Scope) : List Bool → Es → List Expr → Bool
  | [], .nil, [] => true
  | b :: bs, .cons e es, p :: ps => mE t N sc e p && (!b || frE t e) && mPs t N sc bs es ps
  | _, _, _ => false
def mPar (t : Tx) (N : List Str) (sc : Scope) (is : List Nat) (fl : List Bool) (es : Es) (tx pe : Expr) : Bool := match tx, pe with
  | .Tuple txs _ _, .Tuple vs _ _ => mPs t N sc fl es vs && nodupB is && decide (fl.length ≤ 100) && match swS sc txs vs with
    | some none => mTgs N sc is txs
    | some (some ns) => namesB N sc is txs ns
    | none => false
  | _, _ => false
mutual
def mS (t : Tx) (N : List Str) (sc : Scope) (fb : Bool) : S → Stmt → Bool
  | .asg tg e, .Assign tgs pe _ => one tgs fun tx => mAsg t N sc tg e tx pe
  | .asgO i e, .Assign tgs pe _ => one tgs fun tx => mAsgO t N sc i e tx pe
  | .setT i ix j e, .Assign tgs pe _ => one tgs fun tx => mSetT t N sc i ix j e tx pe
  | .setI i ix e, .Assign tgs pe _ => one tgs fun tx => mSetI t N sc i ix e tx pe
  | .par is fl es, .Assign tgs pe _ => one tgs fun tx => mPar t N sc is fl es tx pe
  | .expr e, .Expr pe _ => mE t N sc e pe && nonComp pe
  | .ret e, .Return (some pe) _ => mE t N sc e pe && (!fb || frE t e)
  | .retN, .Return none _ => true
  | .ife c a b, .If pc pa pb _ => mE t N sc c pc && mSs t N sc fb a pa && mSs t N sc fb b pb
  | .for_ tg it body, .For ptg pit pbody [] _ => mTg N sc tg ptg && mIt t N sc it pit && plainIt pit && tupTg it ptg && mSs t N sc fb body pbody
  | .while_ c body, .While pc pbody [] _ => mE t N sc c pc && mSs t N sc fb body pbody
  | .brk, .Break _ => true
  | .cont, .Continue _ => true
  | .pass, .Pass _ => true
  | .raise_, _ => true
  | _, _ => false
def mSs (t : Tx) (N : List Str) (sc : Scope) (fb : Bool) : Ss → List Stmt → Bool
  | .nil, [] => true
  | .cons s ss, p :: ps => mS t N sc fb s p && mSs t N sc fb ss ps
  | _, _ => false
end

structure GoodS (L : Lk) (k : Nat) (N : List Str) (sc : Scope) (W : WX) (X : Cx) : Prop extends Good L k N sc W X where
  same : X.env.scope = sc
  own : PassesOwn (model X.prog X.w) X.A X.env X.xe

def Rst (L : Lk) (fb : Bool) (D : Ends) (fr : Fr) (G : Addr → Prop) (H : Hp) (F : Fp) : Fl → Env → Prop
  | .nx, ρ' => ∀ σ' H' F', Ext (zz F) H (zz F') H' → Rel L fr G σ' H' ρ' F' → D.nx σ' H'
  | .bk, ρ' => ∀ σ' H' F', Ext (zz F) H (zz F') H' → Rel L fr G σ' H' ρ' F' → D.bk σ' H'
  | .ct, ρ' => ∀ σ' H' F', Ext (zz F) H (zz F') H' → Rel L fr G σ' H' ρ' F' → D.ct σ' H'
  | .rt d, ρ' => ∀ σ', RQ L fr G σ' H F fb D.rt d ρ'
def ECS (L : Lk) (W : WX) (fr : Fr) (G : Addr → Prop) (H : Hp) (F : Fp) : Nat → D → Env → Prop := fun c d ρ' => ∀ σ', EC L W fr G σ' H F c d ρ'
def specS (L : Lk) (W : WX) (C : Cl) (fb : Bool) (s : S) : TS := fun D σ H => ∃ fr G ρ F, Rel L fr G σ H ρ F ∧ Fin (denS C s ρ) (Rst L fb D fr G H F) (ECS L W fr G H F)
def specSs (L : Lk) (W : WX) (C : Cl) (fb : Bool) (s : Ss) : TS := fun D σ H => ∃ fr G ρ F, Rel L fr G σ H ρ F ∧ Fin (denSs C s ρ) (Rst L fb D fr G H F) (ECS L W fr G H F)
section
variable {L : Lk} {t : Tx} {wf k : Nat} {N : List Str} {sc : Scope} {W : WX} {X : Cx} {C : Cl} {fb : Bool} {D : Ends}
variable {fr fr1 : Fr} {G G1 : Addr → Prop} {σ σ' : L2.St} {H H' H1 : Hp} {ρ ρ' ρ1 ρ2 : Env} {F F' F1 : Fp}
theorem ECS.shift {c : Nat} {d : Tk.D} {ρ' : Env} (e : Ext (zz F) H (zz F1) H1) (h : ECS L W fr G H F c d ρ') : ECS L W fr G H1 F1 c d ρ' := fun σ' => (h σ').shift e
theorem Rst.shift {f : Fl} {ρ' : Env} (e : Ext (zz F) H (zz F1) H1) (h : Rst L fb D fr G H F f ρ') : Rst L fb D fr G H1 F1 f ρ' := by
  cases f with
  | nx => exact fun σ' H' F' e' r => h σ' H' F' (e.trans e') r
  | bk => exact fun σ' H' F' e' r => h σ' H' F' (e.trans e') r
  | ct => exact fun σ' H' F' e' r => h σ' H' F' (e.trans e') r
  | rt d => exact fun σ' => RQ.shift e (h σ')
/-- an expression, then the rest of the statement -/
theorem seqEN {e : E} {b : Bool} {α : Type} {f : Tk.D → Env → R α} {P : α → Env → Prop} {NN : Nat → Tk.D → Env → Prop} {Q : VK} (r : Rel L fr G σ H ρ F) (hN : ∀ c d ρ', NN c d ρ' → EC L W fr G σ H F c d ρ') (h : Fin ((denE C e ρ).bind f) P NN)
    (k : ∀ d v ρ1 H1 F1, Ext (zz F) H (zz F1) H1 → Rel L fr G σ H1 ρ1 F1 → Rep L (av F1 G) H1 d v → Fin (f d ρ1) P NN → Q v H1) : specG L W C b e σ H Q :=
  ⟨fr, G, ρ, F, r, (Fin.bind.mp h).mono (fun d ρ1 q => .of r.lmG fun v H1 F1 e1 r1 rp => k d v ρ1 H1 F1 e1 r1 rp q) hN⟩
theorem seqTN {e : E} {α : Type} {f : Bool → Env → R α} {P : α → Env → Prop} {NN : Nat → Tk.D → Env → Prop} {Q : Bool → Hp → Prop} (r : Rel L fr G σ H ρ F) (hN : ∀ c d ρ', NN c d ρ' → EC L W fr G σ H F c d ρ') (h : Fin ((isB (denE C e ρ)).bind f) P NN)
    (k : ∀ d ρ1 H1 F1, Ext (zz F) H (zz F1) H1 → Rel L fr G σ H1 ρ1 F1 → Fin (f d ρ1) P NN → Q d H1) : specT L W C e σ H Q :=
  ⟨fr, G, ρ, F, r, (Fin.bind.mp h).mono (fun d ρ1 q H1 F1 e1 r1 => k d ρ1 H1 F1 e1 r1 q) hN⟩
theorem seqEsN {e : Es} {α : Type} {f : List Tk.D → Env → R α} {P : α → Env → Prop} {NN : Nat → Tk.D → Env → Prop} {Q : List V → Hp → Prop} (r : Rel L fr G σ H ρ F) (hN : ∀ c d ρ', NN c d ρ' → EC L W fr G σ H F c d ρ') (h : Fin ((denEs C e ρ).bind f) P NN)
    (k : ∀ d v ρ1 H1 F1, Ext (zz F) H (zz F1) H1 → Rel L fr G σ H1 ρ1 F1 → Reps L (av F1 G) H1 d v → Fin (f d ρ1) P NN → Q v H1) : specEs L W C e σ H Q :=
  ⟨fr, G, ρ, F, r, (Fin.bind.mp h).mono (fun d ρ1 q v H1 F1 e1 r1 rp => k d v ρ1 H1 F1 e1 r1 rp q) hN⟩
theorem ecs {c : Nat} {d : Tk.D} {ρ' : Env} (h : ECS L W fr G H F c d ρ') : EC L W fr G σ H F c d ρ' := h σ
theorem nz (e : Ext (zz F) H (zz F1) H1) {c : Nat} {d : Tk.D} {ρ' : Env} (h : ECS L W fr G H F c d ρ') : EC L W fr G σ H1 F1 c d ρ' := (h σ).shift e

/-- name = e -/
theorem asg_read {i : Nat} {e : E} {b : Bool} (q : specS L W C fb (.asg (.name i) e) D σ H) : specG L W C b e σ H fun x H1 => D.nx (σ.set i (some x)) H1 := by
  obtain ⟨fr, G, ρ, F, r, f⟩ := q
  simp only [denS] at f
  refine seqEN r (fun _ _ _ z => ecs z) f fun d v ρ1 H1 F1 e1 r1 rp f => ?_
  obtain ⟨ρ2, h2, q⟩ := Fin.ofO (Fin.bind.mp f)
  simp only [putT] at h2
  obtain ⟨_, r2⟩ := r1.store h2 rp
  exact q _ _ _ (e1.less (zz_put (by simp))) r2
theorem asgO_read {i : Nat} {e : E} (q : specS L W C fb (.asgO i e) D σ H) : specG L W C true e σ H fun x H1 => D.nx (σ.set i (some x)) H1 := by
  obtain ⟨fr, G, ρ, F, r, f⟩ := q
  simp only [denS] at f
  refine ⟨fr, G, ρ, F, r, (Fin.bind.mp f).mono (fun d ρ1 q => ?_) fun _ _ _ z => ecs z⟩
  cases d with
  | lst ds0 =>
    obtain ⟨ρ2, h2, q⟩ := Fin.ofO (Fin.bind.mp q)
    refine ⟨fun v H1 F1 n _ _ _ => absurd rfl (n rfl ds0), fun ds p vs H1 F1 ed e1 r1 hp nG hn rp => ?_⟩
    cases ed
    have r2 := r1.storeOwn h2 hp nG (r.h0 hn) r.lmG rp
    refine q _ _ _ ?_ r2
    refine ⟨e1.keep, fun a ⟨j, z⟩ => ?_, e1.there⟩
    by_cases e : j = i
    · subst e
      rw [Fp.put_same, List.mem_singleton] at z
      exact .inr (z ▸ hn)
    · rw [Fp.put_ne e] at z
      exact e1.zz a ⟨j, z⟩
  | _ => exact q.elim
theorem Good.gname (g : Good L k N sc W X) {i : Nat} {x : Str} {q : Pos} (h1 : N[i]? = some x) (h2 : locB sc x = true) : PG X (.Name x q) (gName i) := by
  obtain ⟨s1, s2⟩ := g.sto x (loc_of h2)
  exact pg_name (by rw [g.hN]; exact g.nd) (by rw [g.hN]; exact h1) s1 s2
theorem sw_non {pe : Expr} {tg : Option Expr} {l : Nat} {env : PySem.Env} (h : nonComp pe = true) : swapsWith pe tg l env = pure false := by
  cases pe <;> first | rfl | cases h
/-- a value is stored at a name -/
theorem ps_name (g : GoodS L k N sc W X) (lk : LkOk L t) (fl : FnL L t wf k) {i : Nat} {x : Str} {px pos : Pos} {e : E} {pe : Expr} {b : Bool} {T : TS} (h1 : N[i]? = some x) (h2 : locB sc x = true) (hm : mE t N sc e pe = true) (hc : nonComp pe = true ∨ compLine sc x px pe = true) (hb : b = true → frE t e = true)
    (hT : ∀ D σ H, T D σ H → specG L W (cl t wf k) true e σ H fun x H1 => D.nx (σ.set i (some x)) H1) (hT2 : b = false → ∀ D σ H, T D σ H → specG L W (cl t wf k) false e σ H fun x H1 => D.nx (σ.set i (some x)) H1) :
    PS X (.Assign [.Name x px] pe pos) T := by
  obtain ⟨s1, s2⟩ := g.sto x (loc_of h2)
  have hv := (vE lk fl e sc W X pe g.toGood hm).v
  have plain : swapsWith pe (some (.Name x px)) pos.line X.env = pure false → PS X (.Assign [.Name x px] pe pos) T := fun hs => by
    refine (ps_asg (he := hv) (hg := g.toGood.gname h1 h2) hs rfl rfl).imp fun D σ H q => ?_
    show specG L W (cl t wf k) (frE t e) e σ H _
    cases hf : frE t e with
    | true => exact hT D σ H q
    | false =>
      cases b with
      | true => rw [hb rfl] at hf; cases hf
      | false => exact hT2 rfl D σ H q
  cases hn : nonComp pe with
  | true => exact plain (sw_non hn)
  | false =>
    rcases hc with hc | hc
    · rw [hn] at hc; cases hc
    · cases pe <;> first | (simp [compLine] at hc; done) | skip
      rename_i pl gs scope q
      simp only [compLine, Bool.and_eq_true, Bool.not_eq_true'] at hc
      rcases s1 with loc | cel
      · cases e <;> first | (simp [mE] at hm; done) | (rename_i d; cases d <;> (simp [mE] at hm; done)) | skip
        rotate_left
        · rename_i elt tg it tg1 it1 ifs own
          obtain ⟨pl', ptg, pit, ptg1, pit1, pifs, scope', q', ee, z1, z2, z3, z4, z5, z6, z7, z8, z9, z10, z11, z12, z13⟩ := i_comp2 hm
          cases ee
          refine L2.PS.imp (ps_setLc2 (i := i) (own := ownOf N own) (vs1 := tgIx tg1) g.calm (by rw [g.hN]; exact g.nd) (by rw [g.hN]; exact h1) loc (sw_true g.kind loc hc.1 hc.2) (vIt lk fl it sc W X ptg pit g.toGood z8 z12) (g.ok z1) (by rw [own_map]; exact tgOwn_of z5) (fun s H A cls fp => g_tg (g.blk z1 s H A cls fp) z2)
            (fun s H A cls fp => if_none (L := L) (W := fun _ _ _ _ => False) (C := cl t wf k)) (fun s H A cls fp => vIt lk fl it1 scope _ _ ptg1 pit1 (g.blk z1 s H A cls fp) z9 z13) (fun s H A cls fp => g_tg (g.blk z1 s H A cls fp) z4) (fun s H A cls fp => (vEo lk fl ifs scope _ _ (g.blk z1 s H A cls fp)).2.1 pifs z7) (fun s H A cls fp => s_weak (vE lk fl elt scope _ _ pl (g.blk z1 s H A cls fp) z6).v) (fun x => by cases pit <;> first | rfl | cases z10) (fun _ x => by cases pit1 <;> first | rfl | cases z11)) fun D σ H q => ?_
          rw [own_map]
          exact comp2_read (tgOwn_of z3) (tgOwn_of z5) (nm_tup z2 z12) (nm_tup z4 z13) (hT D σ H q)
        rename_i elt tg it ifs own
        obtain ⟨pl', ptg, pit, pifs, scope', q', ee, z1, z2, z3, z4, z5, z6, z7, z8⟩ := i_comp hm
        cases ee
        refine L2.PS.imp (ps_setLc (i := i) (own := ownOf N own) g.calm (by rw [g.hN]; exact g.nd) (by rw [g.hN]; exact h1) loc (sw_true g.kind loc hc.1 hc.2) (vIt lk fl it sc W X ptg pit g.toGood z6 z8) (g.ok z1) (fun s H A cls fp => g_tg (g.blk z1 s H A cls fp) z2)
          (fun s H A cls fp => (vEo lk fl ifs scope _ _ (g.blk z1 s H A cls fp)).2.1 pifs z5) (fun s H A cls fp => s_weak (vE lk fl elt scope _ _ pl (g.blk z1 s H A cls fp) z4).v) (fun x => by cases pit <;> first | rfl | cases z7)) fun D σ H q => ?_
        rw [own_map]
        exact comp_read (b := true) (tgOwn_of z3) (nm_tup z2 z8) (hT D σ H q)
      · refine plain ?_
        have ky : X.env.kindOf x = some .cell := cel
        have e0 : swapsWith (.ListComp pl gs scope q) (some (.Name x px)) pos.line X.env = pure (X.env.blockKind == .function && X.env.kindOf x == some .local && px.line == q.line
          && !(scope.names.any fun (n, k) => n == x && (k == .local || k == .cell))) := rfl
        rw [e0, ky]
        have : (some NameKind.cell == some NameKind.local) = false := rfl
        rw [this, Bool.and_false, Bool.false_and, Bool.false_and]
end
end Tk

set_option Elab.async false
set_option linter.all false
set_option maxRecDepth 100000
set_option maxHeartbeats 2000000
namespace Tk
open PySem PySem.Spec PyProof.Rows L2
section
variable {L : Lk} {t : Tx} {wf k : Nat} {N : List Str} {sc : Scope} {W : WX} {X : Cx} {C : Cl} {fb : Bool} {D : Ends}
variable {fr fr1 : Fr} {G G1 : Addr → Prop} {σ σ' : L2.St} {H H' H1 : Hp} {ρ ρ' ρ1 ρ2 : Env} {F F' F1 : Fp}

theorem ps_tgt (g : GoodS L k N sc W X) (lk : LkOk L t) (fl : FnL L t wf k) {is : List Nat} {es : List Expr} {n : Nat} {pt pos : Pos} {e : E} {pe : Expr} (hm : mE t N sc e pe = true) (h1 : mTgs N sc is es = true) (h2 : tgVal sc es pe = true) :
    PS X (.Assign [.Tuple es n pt] pe pos) (specS L W (cl t wf k) fb (.asg (.tup is) e)) := by
  have hw : swappedStores [.Tuple es n pt] pe X.env = pure none := by
    cases pe <;> first | rfl | skip
    rename_i vs m q
    simp only [tgVal] at h2
    split at h2
    · rename_i e1
      exact sw_of g.same (by rw [← g.same]; exact g.kind) e1
    · cases h2
  have hs : swapsWithSole [.Tuple es n pt] pe pos.line X.env = pure false := by
    cases pe <;> first | rfl | cases h2
  refine (ps_asg (he := s_weak (vE lk fl e sc W X pe g.toGood hm).v) (hg := g_tg (tg := .tup is) g.toGood (show mTg N sc (.tup is) (.Tuple es n pt) = true from h1)) hs hw rfl).imp fun D σ H q => ?_
  obtain ⟨fr, G, ρ, F, r, f⟩ := q
  simp only [denS] at f
  refine (show specG L W (cl t wf k) false e σ H _ from seqEN r (fun _ _ _ z => ecs z) f fun d v ρ1 H1 F1 e1 r1 rp f => ?_)
  obtain ⟨ρ2, h2, q⟩ := Fin.ofO (Fin.bind.mp f)
  exact put_tg r1 (nm := true) (.inl rfl) h2 (.inl rp) fun σ' F' r2 sub _ => q _ _ _ (e1.less sub) r2
theorem par_read {is : List Nat} {es : Es} (q : specS L W C fb (.asg (.tup is) (.tup es)) D σ H) : specEs L W C es σ H fun vs H1 => gIs is vs σ H1 fun σ' H' => D.nx σ' H' := by
  obtain ⟨fr, G, ρ, F, r, f⟩ := q
  simp only [denS, denE, bind_bind] at f
  refine seqEsN r (fun _ _ _ z => ecs z) f fun ds vs ρ1 H1 F1 e1 r1 rs f => ?_
  split at f
  · obtain ⟨ρ2, h2, q⟩ := Fin.ofO (Fin.bind.mp f)
    exact put_all r1 h2 rs fun σ' F' r2 sub _ => q _ _ _ (e1.less sub) r2
  · exact f.elim
theorem i_tupE {e : E} {vs : List Expr} {m : Nat} {q : Pos} (hs : notSt e = true) (h : mE t N sc e (.Tuple vs m q) = true) : ∃ es, e = .tup es ∧ mEs t N sc es vs = true := by
  cases e with
  | tup es => exact ⟨es, rfl, by simpa only [mE] using h⟩
  | con d => cases d <;> (simp [mE] at h; done)
  | lrange lo hi => cases lo <;> (simp [mE] at h; done)
  | tupS a b => cases hs
  | _ => simp [mE] at h
theorem names_inv {is : List Nat} {es : List Expr} {ns : List Str} (h : namesB N sc is es ns = true) : (is = [] ∧ es = [] ∧ ns = []) ∨ ∃ i is' x q es' ns', is = i :: is' ∧ es = .Name x q :: es' ∧ ns = x :: ns' ∧ N[i]? = some x ∧ sc.names.lookup x = some .local ∧ namesB N sc is' es' ns' = true := by
  cases is with
  | nil => cases es <;> cases ns <;> first | (simp [namesB] at h; done) | exact .inl ⟨rfl, rfl, rfl⟩
  | cons i is =>
    cases es <;> cases ns <;> first | (simp [namesB] at h; done) | skip
    rename_i e es y ns
    cases e <;> first | (simp [namesB] at h; done) | skip
    simp only [namesB, Bool.and_eq_true, decide_eq_true_eq] at h
    obtain ⟨⟨⟨rfl, h1⟩, h2⟩, h3⟩ := h
    refine .inr ⟨_, _, _, _, _, _, rfl, rfl, rfl, h1, ?_, h3⟩
    unfold localB at h2
    split at h2 <;> first | assumption | cases h2
theorem ps_parS (g : GoodS L k N sc W X) (lk : LkOk L t) (fl : FnL L t wf k) {is : List Nat} {es vs : List Expr} {ns : List Str} {n m : Nat} {pt q pos : Pos} {e : E} (hst : notSt e = true) (hm : mE t N sc e (.Tuple vs m q) = true) (h1 : swS sc es vs = some (some ns)) (h2 : namesB N sc is es ns = true) (h3 : nodupB is = true) :
    PS X (.Assign [.Tuple es n pt] (.Tuple vs m q) pos) (specS L W (cl t wf k) fb (.asg (.tup is) e)) := by
  have hw := sw_of (n := n) (m := m) (p := pt) (q := q) g.same (by rw [← g.same]; exact g.kind) h1
  obtain ⟨es', rfl, h4⟩ := i_tupE hst hm
  have hv := ((vEs lk fl es' sc W X g.toGood).1 vs h4).v
  have hlen : (es.length = 2 ∨ es.length = 3) ∧ vs.length = es.length := by
    unfold swS at h1
    split at h1
    · cases h1
    · rename_i hc
      simp only [Bool.or_eq_true, Bool.not_eq_true', bne_iff_ne, ne_eq, not_or, Bool.not_eq_false, beq_iff_eq, Bool.or_eq_false_iff, Decidable.not_not] at hc
      refine ⟨?_, hc.2⟩
      have := hc.1
      by_cases h2 : es.length = 2
      · exact .inl h2
      · exact .inr (by simpa [h2] using this)
  have loc : ∀ {x}, sc.names.lookup x = some .local → X.env.scope.names.lookup x = some .local := fun {x} z => by rw [g.same]; exact z
  rcases names_inv h2 with ⟨_, rfl, _⟩ | ⟨i, is1, x, qx, es1, ns1, rfl, rfl, rfl, a1, a2, a3⟩
  · simp at hlen
  rcases names_inv a3 with ⟨_, rfl, _⟩ | ⟨j, is2, y, qy, es2, ns2, rfl, rfl, rfl, b1, b2, b3⟩
  · simp at hlen
  rcases names_inv b3 with ⟨rfl, rfl, rfl⟩ | ⟨l, is3, z, qz, es3, ns3, rfl, rfl, rfl, c1, c2, c3⟩
  · have hij : i ≠ j := fun e => by subst e; simp [nodupB] at h3
    rcases vs with _ | ⟨pa, _ | ⟨pb, _ | ⟨pc, vs⟩⟩⟩ <;> simp at hlen
    refine (ps_par g.calm (by rw [g.hN]; exact g.nd) (by rw [g.hN]; exact a1) (by rw [g.hN]; exact b1) hij (loc a2) (loc b2) hv hw rfl).imp fun D σ H q => ?_
    have := par_read q
    refine (show specEs L W (cl t wf k) es' σ H _ from ?_)
    obtain ⟨fr, G, ρ, F, r, f⟩ := this
    refine ⟨fr, G, ρ, F, r, f.mono (fun ds ρ' z vs H' F' e' r' rs => ?_) fun _ _ _ z => z⟩
    obtain ⟨v, r1, rfl, w, r2, rfl, rfl, z⟩ := z vs H' F' e' r' rs
    exact ⟨v, w, rfl, z⟩
  · rcases names_inv c3 with ⟨rfl, rfl, rfl⟩ | ⟨_, _, _, _, _, _, _, rfl, _⟩
    · simp only [nodupB, List.contains_cons, List.contains_nil, Bool.or_false, Bool.and_true, Bool.and_eq_true, Bool.not_eq_true', Bool.or_eq_false_iff, beq_eq_false_iff_ne, ne_eq, Bool.not_false] at h3
      rcases vs with _ | ⟨pa, _ | ⟨pb, _ | ⟨pc, _ | ⟨pd, vs⟩⟩⟩⟩ <;> simp at hlen
      refine (ps_par3 g.calm (by rw [g.hN]; exact g.nd) (by rw [g.hN]; exact a1) (by rw [g.hN]; exact b1) (by rw [g.hN]; exact c1) h3.1.1 h3.1.2 h3.2 (loc a2) (loc b2) (loc c2) hv hw rfl).imp fun D σ H q => ?_
      have := par_read q
      refine (show specEs L W (cl t wf k) es' σ H _ from ?_)
      obtain ⟨fr, G, ρ, F, r, f⟩ := this
      refine ⟨fr, G, ρ, F, r, f.mono (fun ds ρ' z vs H' F' e' r' rs => ?_) fun _ _ _ z => z⟩
      obtain ⟨v, r1, rfl, w, r2, rfl, u, r3, rfl, rfl, z⟩ := z vs H' F' e' r' rs
      exact ⟨v, w, u, rfl, z⟩
    · simp at hlen
theorem ixN_of {n : Nat} {i : Int} {j : Nat} (h : ixOf n i = some j) : ixN n i = some j := by
  unfold ixOf at h
  unfold ixN
  split at h <;> split at h <;> simp_all
  intro h0; omega
theorem ps_setI (g : GoodS L k N sc W X) (lk : LkOk L t) (fl : FnL L t wf k) {i : Nat} {x : Str} {px pq pos : Pos} {ix e : E} {pix pe : Expr} (hn : nmB N sc i x = true) (h1 : mE t N sc ix pix = true) (h2 : mE t N sc e pe = true) :
    PS X (.Assign [.Subscript (.Name x px) pix pq] pe pos) (specS L W (cl t wf k) fb (.setI i ix e)) := by
  have ha : ∀ v, assign (.Subscript (.Name x px) pix pq) X.env v = (do
      let ov ← holding [v] (eval (.Name x px) X.env)
      let iv ← holding [v, ov] (eval pix X.env)
      standAt pq
      holding [v, ov, iv] (setItem ov iv v)
      release [v, ov, iv] []) := fun v => by
    cases pix <;> first | rfl | (rw [mE_slice] at h1; cases h1)
  refine (ps_asg (he := s_weak (vE lk fl e sc W X pe g.toGood h2).v) (hg := pg_sub (o_var (C := cl t wf k) g.toGood hn) (s_weak (vE lk fl ix sc W X pix g.toGood h1).v) set_list ha) (by cases pe <;> rfl) (by cases pe <;> rfl) rfl).imp fun D σ H q => ?_
  obtain ⟨fr, G, ρ, F, r, f⟩ := q
  simp only [denS] at f
  refine (show specG L W (cl t wf k) false e σ H _ from seqEN r (fun _ _ _ z => ecs z) f fun d v ρ1 H1 F1 e1 r1 rp f => ?_)
  cases e0 : ownD (getS ρ1 i) with
  | none => rw [e0] at f; exact f.elim
  | some d0 =>
    rw [e0] at f
    have es0 : seeD (getS ρ1 i) = some d0 := by
      cases e : getS ρ1 i <;> rw [e] at e0 <;> first | (cases e0; done) | exact e0
    show specO L W (cl t wf k) (.var i) σ H1 _
    refine ⟨fr, G, ρ1, F1, r1, ?_⟩
    simp only [denO, odOf, es0]
    intro x' H2 F2 e2 r2 o2
    have o2 : σ[i]? = some (some x') := o2
    have rp2 := r1.rep e2 rp
    refine (show specG L W (cl t wf k) false ix σ H2 _ from seqEN r2 (fun _ _ _ z => nz (e1.trans e2) z) f fun kd kv ρ3 H3 F3 e3 r3 rk f => ?_)
    cases e4 : ownD (getS ρ3 i) with
    | none => rw [e4] at f; exact f.elim
    | some d4 =>
      rw [e4] at f
      obtain ⟨a, vs, ds, rfl, g2, g3, g4, g5⟩ := r3.mutate e4
      rw [o2] at g2; cases g2
      cases kd <;> first | exact f.elim | skip
      rename_i kk
      simp only [Rep] at rk
      subst rk
      simp only at f
      cases e6 : ixOf ds.length kk with
      | none => rw [e6] at f; exact f.elim
      | some j =>
        rw [e6] at f
        obtain ⟨r4, e5⟩ := g5 (ds.set j d) (vs.set j v) (g4.set j (r2.rep e3 rp2))
        exact ⟨a, vs, kk, j, rfl, rfl, g3, by rw [g4.len]; exact ixN_of e6, f _ _ _ (((e1.trans e2).trans e3).trans e5) r4⟩

/-- x[ix], y = e -/
theorem ps_setT (g : GoodS L k N sc W X) (lk : LkOk L t) (fl : FnL L t wf k) {i j : Nat} {x y : Str} {px pq py pt pos : Pos} {n : Nat} {ix e : E} {pix pe : Expr} (hn : nmB N sc i x = true) (h1 : mE t N sc ix pix = true) (hj : N[j]? = some y) (hy : locB sc y = true) (h2 : mE t N sc e pe = true)
    (hp : swapsWithSole [.Tuple [.Subscript (.Name x px) pix pq, .Name y py] n pt] pe pos.line X.env = pure false ∧ swappedStores [.Tuple [.Subscript (.Name x px) pix pq, .Name y py] n pt] pe X.env = pure none) :
    PS X (.Assign [.Tuple [.Subscript (.Name x px) pix pq, .Name y py] n pt] pe pos) (specS L W (cl t wf k) fb (.setT i ix j e)) := by
  have ha : ∀ v, assign (.Subscript (.Name x px) pix pq) X.env v = (do
      let ov ← holding [v] (eval (.Name x px) X.env)
      let iv ← holding [v, ov] (eval pix X.env)
      standAt pq
      holding [v, ov, iv] (setItem ov iv v)
      release [v, ov, iv] []) := fun v => by
    cases pix <;> first | rfl | (rw [mE_slice] at h1; cases h1)
  obtain ⟨s1, s2⟩ := g.sto y (loc_of hy)
  have gs := pg_sub (o_var (C := cl t wf k) g.toGood hn) (s_weak (vE lk fl ix sc W X pix g.toGood h1).v) set_list ha
  have gp := pg_tup (pos := pt) (k := n) g.calm (pgs_cons gs (pgs_cons (pg_name (pos := py) (by rw [g.hN]; exact g.nd) (by rw [g.hN]; exact hj) s1 s2) pgs_nil)) rfl rfl
  refine (ps_asg (he := s_weak (vE lk fl e sc W X pe g.toGood h2).v) (hg := gp) hp.1 hp.2 rfl).imp fun D σ H q => ?_
  obtain ⟨fr, G, ρ, F, r, f⟩ := q
  simp only [denS] at f
  refine (show specG L W (cl t wf k) false e σ H _ from seqEN r (fun _ _ _ z => ecs z) f fun d v ρ1 H1 F1 e1 r1 rp f => ?_)
  split at f <;> first | exact f.elim | skip
  rename_i dx dy
  simp only [Rep, Reps] at rp
  obtain ⟨a0, us, rfl, hT, vx, _, rfl, rpx, vy, _, rfl, rpy, rfl⟩ := rp
  refine ⟨a0, _, rfl, by rw [g.hK]; exact hT.1, rfl, vx, [vy], rfl, ?_⟩
  cases e0 : ownD (getS ρ1 i) with
  | none => rw [e0] at f; exact f.elim
  | some d0 =>
    rw [e0] at f
    have es0 : seeD (getS ρ1 i) = some d0 := by
      cases e : getS ρ1 i <;> rw [e] at e0 <;> first | (cases e0; done) | exact e0
    show specO L W (cl t wf k) (.var i) σ H1 _
    refine ⟨fr, G, ρ1, F1, r1, ?_⟩
    simp only [denO, odOf, es0]
    intro x' H2 F2 e2 r2 o2
    have o2 : σ[i]? = some (some x') := o2
    have rpx2 := r1.rep e2 rpx
    have rpy2 := r1.rep e2 rpy
    refine (show specG L W (cl t wf k) false ix σ H2 _ from seqEN r2 (fun _ _ _ z => nz (e1.trans e2) z) f fun kd kv ρ3 H3 F3 e3 r3 rk f => ?_)
    cases e4 : ownD (getS ρ3 i) with
    | none => rw [e4] at f; exact f.elim
    | some d4 =>
      rw [e4] at f
      obtain ⟨a, vs, ds, rfl, g2, g3, g4, g5⟩ := r3.mutate e4
      rw [o2] at g2; cases g2
      cases kd <;> first | exact f.elim | skip
      rename_i kk
      simp only [Rep] at rk
      subst rk
      simp only at f
      cases e6 : ixOf ds.length kk with
      | none => rw [e6] at f; exact f.elim
      | some jj =>
        rw [e6] at f
        obtain ⟨r4, e5⟩ := g5 (ds.set jj dx) (vs.set jj vx) (g4.set jj (r2.rep e3 rpx2))
        obtain ⟨ρ5, h5, q⟩ := Fin.ofO (Fin.bind.mp f)
        obtain ⟨_, r5⟩ := r4.store h5 (r3.rep e5 (r2.rep e3 rpy2))
        refine ⟨a, vs, kk, jj, rfl, rfl, g3, by rw [g4.len]; exact ixN_of e6, ?_⟩
        exact ⟨vy, [], rfl, rfl, q _ _ _ ((((e1.trans e2).trans e3).trans e5).less (zz_put (by simp))) r5⟩

/-! ### several at once, some of them new lists -/
def Mix (L : Lk) (A : Addr → Prop) (H : Hp) : List Bool → List Tk.D → List V → List Addr → Prop
  | [], [], vs, ps => vs = [] ∧ ps = []
  | false :: bs, d :: ds, vs, ps => ∃ v r, vs = v :: r ∧ Rep L A H d v ∧ Mix L A H bs ds r ps
  | true :: bs, d :: ds, vs, ps => ∃ p es us r q, d = .lst es ∧ vs = .ref p :: r ∧ ps = p :: q ∧ H p = some (.lst us) ∧ Reps L A H es us ∧ Mix L A H bs ds r q
  | _, _, _, _ => False
theorem Mix.len {A : Addr → Prop} : ∀ {bs : List Bool} {ds : List Tk.D} {vs : List V} {ps : List Addr}, Mix L A H bs ds vs ps → vs.length = bs.length
  | [], [], _, _, h => by simp only [Mix] at h; rw [h.1]; rfl
  | [], _ :: _, _, _, h => by simp only [Mix] at h
  | false :: _, [], _, _, h => by simp only [Mix] at h
  | true :: _, [], _, _, h => by simp only [Mix] at h
  | false :: bs, d :: ds, _, _, h => by
    simp only [Mix] at h
    obtain ⟨v, r, rfl, _, h⟩ := h
    simp [Mix.len h]
  | true :: bs, d :: ds, _, _, h => by
    simp only [Mix] at h
    obtain ⟨p, es, us, r, q, _, rfl, _, _, _, h⟩ := h
    simp [Mix.len h]
theorem Mix.ext {Z Z' A A' : Addr → Prop} (e : Ext Z H Z' H') (hz : ∀ a, Z a → IsL H a) (hA : ∀ a, Z a → A a) (hA' : ∀ a, A' a → A a ∨ H a = none) : ∀ {bs : List Bool} {ds : List Tk.D} {vs : List V} {ps : List Addr}, (∀ a ∈ ps, ¬ Z a) → Mix L A H bs ds vs ps → Mix L A' H' bs ds vs ps
  | [], [], _, _, _, h => by simp only [Mix] at h ⊢; exact h
  | [], _ :: _, _, _, _, h => by simp only [Mix] at h
  | false :: _, [], _, _, _, h => by simp only [Mix] at h
  | true :: _, [], _, _, _, h => by simp only [Mix] at h
  | false :: bs, d :: ds, _, _, n, h => by
    simp only [Mix] at h ⊢
    obtain ⟨v, r, rfl, h1, h⟩ := h
    exact ⟨v, r, rfl, Rep.ext e hz hA hA' h1, Mix.ext e hz hA hA' n h⟩
  | true :: bs, d :: ds, _, _, n, h => by
    simp only [Mix] at h ⊢
    obtain ⟨p, es, us, r, q, rfl, rfl, rfl, h1, h2, h⟩ := h
    exact ⟨p, es, us, r, q, rfl, rfl, rfl, e.keep p _ h1 (n p List.mem_cons_self), Reps.ext e hz hA hA' h2, Mix.ext e hz hA hA' (fun a z => n a (List.mem_cons_of_mem _ z)) h⟩
def specPs (L : Lk) (W : WX) (C : Cl) (bs : List Bool) (es : Es) : TA := fun σ H Q => ∃ fr G ρ F, Rel L fr G σ H ρ F ∧ Fin (denPs C bs es ρ) (fun ds ρ' => ∀ vs ps H' F', Ext (zz F) H (zz F') H' → Rel L fr (fun a => G a ∨ a ∈ ps) σ H' ρ' F' →
  Mix L (av F' fun a => G a ∨ a ∈ ps) H' bs ds vs ps → (∀ a ∈ ps, ¬ G a ∧ H a = none) → ps.Nodup → Q vs H') (EC L W fr G σ H F)
theorem EC.any {c : Nat} {d : Tk.D} {ρ' : Env} : EC L W fr G σ H F c d ρ' := fun _ _ _ _ _ _ x => x.elim
theorem ps_ev (lk : LkOk L t) (fl : FnL L t wf k) (g : Good L k N sc W X) : ∀ {bs : List Bool} {es : Es} {ps : List Expr}, mPs t N sc bs es ps = true → PA X ps (specPs L W (cl t wf k) bs es)
  | [], .nil, [], _ => pa_nil.imp fun σ H Q ⟨fr, G, ρ, F, r, f⟩ => by
    simp only [denPs] at f
    refine f [] [] H F (Ext.refl _ _) (r.lessG (fun i a z => .inl (r.lmG i a z)) fun a z => z.elim id fun z => nomatch z) ?_ (fun a z => nomatch z) List.nodup_nil
    simp only [Mix]
    exact ⟨trivial, trivial⟩
  | b :: bs, .cons e es, p :: ps, h => by
    simp only [mPs, Bool.and_eq_true, Bool.or_eq_true, Bool.not_eq_true'] at h
    obtain ⟨⟨h1, h2⟩, h3⟩ := h
    have hv : PE X p (specG L W (cl t wf k) b e) := by
      have := (vE lk fl e sc W X p g h1).v
      rcases h2 with h2 | h2
      · rw [h2]; exact s_weak this
      · rw [h2] at this
        cases b with
        | true => exact this
        | false => exact s_weak this
    refine (pa_cons hv (ps_ev lk fl g h3) (starEach_of h1)).imp fun σ H Q ⟨fr, G, ρ, F, r, f⟩ => ?_
    simp only [denPs] at f
    refine ⟨fr, G, ρ, F, r, (Fin.bind.mp f).mono (fun d ρ1 f => ⟨fun v H1 F1 hn e1 r1 rp => ?_, fun ds0 p0 us H1 F1 ed e1 r1 hp nG hn rp => ?_⟩) fun _ _ _ z => z⟩
    · have hb : (b && !isLst d) = true ∨ b = false := by
        cases b with
        | false => exact .inr rfl
        | true =>
          refine .inl ?_
          cases d <;> first | rfl | exact absurd rfl (hn rfl _)
      rcases hb with hb | hb
      · rw [if_pos hb] at f; exact f.elim
      · subst hb
        rw [if_neg (by simp)] at f
        refine ⟨fr, G, ρ1, F1, r1, (Fin.bind.mp f).mono (fun ds ρ2 f vs ps H2 F2 e2 r2 mx nn nd => ?_) fun _ _ _ _ => EC.any⟩
        refine f (v :: vs) ps H2 F2 (e1.trans e2) r2 ?_ (fun a z => ⟨(nn a z).1, e1.none (nn a z).2⟩) nd
        simp only [Mix]
        refine ⟨v, vs, rfl, Rep.ext e2 r1.isL r1.zA (fun a z => ?_) rp, mx⟩
        rcases z with z | z | z
        · exact (e2.zz a z).imp .inl id
        · exact .inl (.inr z)
        · exact .inr (nn a z).2
    · subst ed
      have no : (b && !isLst (.lst ds0)) = false := by cases b <;> rfl
      rw [no, if_neg Bool.false_ne_true] at f
      cases b with
      | false =>
        have r1' : Rel L fr G σ H1 ρ1 F1 := r1.lessG r.lmG fun a z => .inl z
        have rp' : Rep L (av F1 G) H1 (.lst ds0) (.ref p0) := by
          simp only [Rep]
          refine ⟨p0, us, rfl, fun z => ?_, hp, rp.less fun a z => z.imp id .inl⟩
          rcases z with ⟨j, z⟩ | z
          · exact r1.gap j p0 z (.inr rfl)
          · exact nG z
        refine ⟨fr, G, ρ1, F1, r1', (Fin.bind.mp f).mono (fun ds ρ2 f vs ps H2 F2 e2 r2 mx nn nd => ?_) fun _ _ _ _ => EC.any⟩
        refine f (.ref p0 :: vs) ps H2 F2 (e1.trans e2) r2 ?_ (fun a z => ⟨(nn a z).1, e1.none (nn a z).2⟩) nd
        simp only [Mix]
        refine ⟨_, vs, rfl, Rep.ext e2 r1.isL r1'.zA (fun a z => ?_) rp', mx⟩
        rcases z with z | z | z
        · exact (e2.zz a z).imp .inl id
        · exact .inl (.inr z)
        · exact .inr (nn a z).2
      | true =>
        refine ⟨fr, _, ρ1, F1, r1, (Fin.bind.mp f).mono (fun ds ρ2 f vs ps H2 F2 e2 r2 mx nn nd => ?_) fun _ _ _ _ => EC.any⟩
        have eG : (fun a => (G a ∨ a = p0) ∨ a ∈ ps) = fun a => G a ∨ a ∈ p0 :: ps := by funext a; simp [or_assoc]
        have nF : ¬ zz F1 p0 := fun ⟨j, z⟩ => r1.gap j p0 z (.inr rfl)
        have hp2 : H2 p0 = some (.lst us) := e2.keep p0 _ hp nF
        have np : p0 ∉ ps := fun z => by rw [(nn p0 z).2] at hp; cases hp
        rw [eG] at r2 mx
        refine f (.ref p0 :: vs) (p0 :: ps) H2 F2 (e1.trans e2) r2 ?_ (fun a z => ?_) (List.nodup_cons.mpr ⟨np, nd⟩)
        · simp only [Mix]
          refine ⟨p0, ds0, us, vs, ps, rfl, rfl, rfl, hp2, Reps.ext e2 r1.isL r1.zA (fun a z => ?_) rp, mx⟩
          rcases z with z | z | z
          · exact (e2.zz a z).imp .inl id
          · exact .inl (.inr (.inl z))
          · rcases List.mem_cons.mp z with z | z
            · exact .inl (.inr (.inr z))
            · exact .inr (nn a z).2
        · rcases List.mem_cons.mp z with z | z
          · exact z ▸ ⟨nG, hn⟩
          · exact ⟨fun q => (nn a z).1 (.inl q), e1.none (nn a z).2⟩
  | [], .nil, _ :: _, h => by simp [mPs] at h
  | [], .cons _ _, _, h => by simp [mPs] at h
  | _ :: _, .nil, _, h => by simp [mPs] at h
  | _ :: _, .cons _ _, [], h => by simp [mPs] at h
theorem put_mix : ∀ {is : List Nat} {bs : List Bool} {ds : List Tk.D} {vs : List V} {ps : List Addr} {σ : L2.St} {ρ ρ' : Env} {F : Fp} {Q : L2.St → Hp → Prop}, Rel L fr (fun a => G a ∨ a ∈ ps) σ H ρ F → putMix is bs ds ρ = some ρ' → Mix L (av F fun a => G a ∨ a ∈ ps) H bs ds vs ps →
    (∀ a ∈ ps, ¬ G a ∧ fr.H0 a = none) → ps.Nodup → (∀ i a, fr.lm i = some a → G a) →
    (∀ σ' F', Rel L fr G σ' H ρ' F' → (∀ a, zz F' a → zz F a ∨ a ∈ ps) → Q σ' H) → gIs is vs σ H Q := by
  intro is
  induction is with
  | nil =>
    intro bs ds vs ps σ ρ ρ' F Q r h mx nn nd lm q
    cases bs <;> cases ds <;> simp only [putMix] at h <;> first | (cases h; done) | skip
    simp only [Mix] at mx
    obtain ⟨rfl, rfl⟩ := mx
    cases h
    exact ⟨rfl, q σ F (r.lessG lm fun a z => .inl z) fun _ z => .inl z⟩
  | cons i is ih =>
    intro bs ds vs ps σ ρ ρ' F Q r h mx nn nd lm q
    cases bs <;> cases ds <;> simp only [putMix] at h <;> first | (cases h; done) | skip
    rename_i b bs d ds
    obtain ⟨ρ1, h1, h2⟩ := Option.bind_eq_some_iff.mp h
    have sub : ∀ a, zz (F.put i []) a → zz F a := zz_put (by simp)
    cases b with
    | false =>
      simp only [Mix] at mx
      obtain ⟨v, r', rfl, m1, m2⟩ := mx
      obtain ⟨_, r1⟩ := r.store h1 m1
      refine ⟨v, r', rfl, ih r1 h2 ?_ nn nd lm fun σ' F' r2 z => q σ' F' r2 fun a y => (z a y).imp (sub a) id⟩
      exact Mix.ext (Ext.refl (fun _ => False) H) (fun _ z => z.elim) (fun _ z => z.elim) (fun a z => .inl (z.imp (sub a) id)) (fun _ _ z => z) m2
    | true =>
      simp only [Mix] at mx
      obtain ⟨p, es, us, r', qs, rfl, rfl, rfl, m0, m1, m2⟩ := mx
      have eG : (fun a => G a ∨ a ∈ p :: qs) = fun a => (G a ∨ a ∈ qs) ∨ a = p := by funext a; apply propext; rw [List.mem_cons]; exact ⟨fun z => z.elim (fun z => .inl (.inl z)) fun z => z.elim .inr fun z => .inl (.inr z), fun z => z.elim (fun z => z.elim .inl fun z => .inr (.inr z)) fun z => .inr (.inl z)⟩
      rw [eG] at r m1 m2
      have np := (List.nodup_cons.mp nd).1
      have r1 := r.storeOwn (G := fun a => G a ∨ a ∈ qs) h1 m0 (fun z => z.elim (nn p List.mem_cons_self).1 np) (nn p List.mem_cons_self).2 (fun j c z => .inl (lm j c z)) m1
      have sub1 : ∀ a, zz (F.put i [p]) a → zz F a ∨ a = p := fun a ⟨j, z⟩ => by
        by_cases e : j = i
        · subst e; rw [Fp.put_same] at z; exact .inr (by simpa using z)
        · rw [Fp.put_ne e] at z; exact .inl ⟨j, z⟩
      refine ⟨.ref p, r', rfl, ih r1 h2 ?_ (fun a z => nn a (List.mem_cons_of_mem _ z)) (List.nodup_cons.mp nd).2 lm fun σ' F' r2 z => q σ' F' r2 fun a y => ?_⟩
      · refine Mix.ext (Ext.refl (fun _ => False) H) (fun _ z => z.elim) (fun _ z => z.elim) (fun a z => .inl ?_) (fun _ _ z => z) m2
        rcases z with z | z
        · rcases sub1 a z with z | z
          · exact .inl z
          · exact .inr (.inr z)
        · exact .inr (.inl z)
      · rcases z a y with z | z
        · rcases sub1 a z with z | z
          · exact .inl z
          · exact .inr (z ▸ List.mem_cons_self)
        · exact .inr (List.mem_cons_of_mem _ z)
theorem putMix_len : ∀ {is : List Nat} {bs : List Bool} {ds : List Tk.D} {ρ ρ' : Env}, putMix is bs ds ρ = some ρ' → bs.length = is.length := by
  intro is
  induction is with
  | nil => intro bs ds ρ ρ' h2; cases bs <;> cases ds <;> simp only [putMix] at h2 <;> first | (cases h2; done) | rfl
  | cons i is ih =>
    intro bs ds ρ ρ' h2
    cases bs <;> cases ds <;> simp only [putMix] at h2 <;> first | (cases h2; done) | skip
    obtain ⟨ρ3, _, h3⟩ := Option.bind_eq_some_iff.mp h2
    simp [ih h3]
theorem mix_read {is : List Nat} {bs : List Bool} {es : Es} (q : specS L W C fb (.par is bs es) D σ H) : specPs L W C bs es σ H fun vs H1 => vs.length = bs.length ∧ bs.length = is.length ∧ gIs is vs σ H1 (fun σ' H' => D.nx σ' H') ∧ ∀ p o, H1 p = none → gIs is vs σ (upd H1 p o) fun σ' H' => D.nx σ' H' := by
  obtain ⟨fr, G, ρ, F, r, f⟩ := q
  simp only [denS] at f
  refine ⟨fr, G, ρ, F, r, (Fin.bind.mp f).mono (fun ds ρ1 f vs ps H1 F1 e1 r1 mx nn nd => ?_) fun _ _ _ z => ecs z⟩
  obtain ⟨ρ2, h2, q⟩ := Fin.ofO (Fin.bind.mp f)
  have h0 : ∀ a ∈ ps, ¬ G a ∧ fr.H0 a = none := fun a z => ⟨(nn a z).1, r.h0 (nn a z).2⟩
  refine ⟨mx.len, ?_, put_mix r1 h2 mx h0 nd r.lmG fun σ' F' r2 sub => q _ _ _ ⟨e1.keep, fun a z => (sub a z).elim (e1.zz a) fun m => .inr (nn a m).2, e1.there⟩ r2, fun p o hp => ?_⟩
  · exact putMix_len h2
  · have e2 := Ext.laid (Z := zz F1) (o := o) hp
    have r1' := r1.laid (o := o) hp
    have mx' : Mix L (av F1 fun a => G a ∨ a ∈ ps) (upd H1 p o) bs ds vs ps := Mix.ext (Z := fun _ => False) (Z' := fun _ => False) (Ext.laid hp) (fun _ z => z.elim) (fun _ z => z.elim) (fun a z => .inl z) (fun _ _ z => z) mx
    exact put_mix r1' h2 mx' h0 nd r.lmG fun σ' F' r2 sub => q _ _ _ ⟨(e1.trans e2).keep, fun a z => (sub a z).elim ((e1.trans e2).zz a) fun m => .inr (nn a m).2, (e1.trans e2).there⟩ r2
theorem ps_mixT (g : GoodS L k N sc W X) (lk : LkOk L t) (fl : FnL L t wf k) {is : List Nat} {bs : List Bool} {es : Es} {txs vs : List Expr} {n m : Nat} {pt q pos : Pos} (hm : mPs t N sc bs es vs = true) (hb : bs.length ≤ 100) (h2 : swS sc txs vs = some none) (h1 : mTgs N sc is txs = true) :
    PS X (.Assign [.Tuple txs n pt] (.Tuple vs m q) pos) (specS L W (cl t wf k) fb (.par is bs es)) := by
  have hw := sw_of (n := n) (m := m) (p := pt) (q := q) g.same (by rw [← g.same]; exact g.kind) h2
  refine (ps_asg (he := pe_tup (ps_ev lk fl g.toGood hm)) (hg := g_tg (tg := .tup is) g.toGood (show mTg N sc (.tup is) (.Tuple txs n pt) = true from h1)) rfl hw rfl).imp fun D σ H q => ?_
  obtain ⟨fr, G, ρ, F, r, f⟩ := mix_read q
  refine (show specPs L W (cl t wf k) bs es σ H _ from ⟨fr, G, ρ, F, r, f.mono (fun ds ρ1 f us ps H1 F1 e1 r1 mx nn nd => ?_) fun _ _ _ z => z⟩)
  obtain ⟨l1, l2, _, z⟩ := f us ps H1 F1 e1 r1 mx nn nd
  have big : (100 : Nat) ≤ sizeLine := by decide
  refine ⟨by rw [l1]; omega, fun p hp => ⟨p, us, rfl, .inl (.inl upd_same), by rw [l1, l2], z p _ hp⟩⟩
theorem ps_mixS (g : GoodS L k N sc W X) (lk : LkOk L t) (fl : FnL L t wf k) {is : List Nat} {bs : List Bool} {es0 : Es} {es vs : List Expr} {ns : List Str} {n m : Nat} {pt q pos : Pos} (hm : mPs t N sc bs es0 vs = true) (h3 : nodupB is = true) (h1 : swS sc es vs = some (some ns)) (h2 : namesB N sc is es ns = true) :
    PS X (.Assign [.Tuple es n pt] (.Tuple vs m q) pos) (specS L W (cl t wf k) fb (.par is bs es0)) := by
  have hw := sw_of (n := n) (m := m) (p := pt) (q := q) g.same (by rw [← g.same]; exact g.kind) h1
  have hv := ps_ev lk fl g.toGood hm
  have hlen : (es.length = 2 ∨ es.length = 3) ∧ vs.length = es.length := by
    unfold swS at h1
    split at h1
    · cases h1
    · rename_i hc
      simp only [Bool.or_eq_true, Bool.not_eq_true', bne_iff_ne, ne_eq, not_or, Bool.not_eq_false, beq_iff_eq, Bool.or_eq_false_iff, Decidable.not_not] at hc
      refine ⟨?_, hc.2⟩
      have := hc.1
      by_cases h2 : es.length = 2
      · exact .inl h2
      · exact .inr (by simpa [h2] using this)
  have loc : ∀ {x}, sc.names.lookup x = some .local → X.env.scope.names.lookup x = some .local := fun {x} z => by rw [g.same]; exact z
  rcases names_inv h2 with ⟨_, rfl, _⟩ | ⟨i, is1, x, qx, es1, ns1, rfl, rfl, rfl, a1, a2, a3⟩
  · simp at hlen
  rcases names_inv a3 with ⟨_, rfl, _⟩ | ⟨j, is2, y, qy, es2, ns2, rfl, rfl, rfl, b1, b2, b3⟩
  · simp at hlen
  rcases names_inv b3 with ⟨rfl, rfl, rfl⟩ | ⟨l, is3, z, qz, es3, ns3, rfl, rfl, rfl, c1, c2, c3⟩
  · have hij : i ≠ j := fun e => by subst e; simp [nodupB] at h3
    rcases vs with _ | ⟨pa, _ | ⟨pb, _ | ⟨pc, vs⟩⟩⟩ <;> simp at hlen
    refine (ps_par g.calm (by rw [g.hN]; exact g.nd) (by rw [g.hN]; exact a1) (by rw [g.hN]; exact b1) hij (loc a2) (loc b2) hv hw rfl).imp fun D σ H q => ?_
    obtain ⟨fr, G, ρ, F, r, f⟩ := mix_read q
    refine (show specPs L W (cl t wf k) bs es0 σ H _ from ⟨fr, G, ρ, F, r, f.mono (fun ds ρ' z vs ps H' F' e' r' mx nn nd => ?_) fun _ _ _ z => z⟩)
    obtain ⟨_, _, ⟨v, r1, rfl, w, r2, rfl, rfl, z⟩, _⟩ := z vs ps H' F' e' r' mx nn nd
    exact ⟨v, w, rfl, z⟩
  · rcases names_inv c3 with ⟨rfl, rfl, rfl⟩ | ⟨_, _, _, _, _, _, _, rfl, _⟩
    · simp only [nodupB, List.contains_cons, List.contains_nil, Bool.or_false, Bool.and_true, Bool.and_eq_true, Bool.not_eq_true', Bool.or_eq_false_iff, beq_eq_false_iff_ne, ne_eq, Bool.not_false] at h3
      rcases vs with _ | ⟨pa, _ | ⟨pb, _ | ⟨pc, _ | ⟨pd, vs⟩⟩⟩⟩ <;> simp at hlen
      refine (ps_par3 g.calm (by rw [g.hN]; exact g.nd) (by rw [g.hN]; exact a1) (by rw [g.hN]; exact b1) (by rw [g.hN]; exact c1) h3.1.1 h3.1.2 h3.2 (loc a2) (loc b2) (loc c2) hv hw rfl).imp fun D σ H q => ?_
      obtain ⟨fr, G, ρ, F, r, f⟩ := mix_read q
      refine (show specPs L W (cl t wf k) bs es0 σ H _ from ⟨fr, G, ρ, F, r, f.mono (fun ds ρ' z vs ps H' F' e' r' mx nn nd => ?_) fun _ _ _ z => z⟩)
      obtain ⟨_, _, ⟨v, r1, rfl, w, r2, rfl, u, r3, rfl, rfl, z⟩, _⟩ := z vs ps H' F' e' r' mx nn nd
      exact ⟨v, w, u, rfl, z⟩
    · simp at hlen
end
end Tk

set_option Elab.async false
set_option linter.all false
set_option maxRecDepth 100000
set_option maxHeartbeats 2000000
namespace Tk
open PySem PySem.Spec PyProof.Rows L2
section
variable {L : Lk} {t : Tx} {wf k : Nat} {N : List Str} {sc : Scope} {W : WX} {X : Cx} {C : Cl} {fb : Bool} {D : Ends}
variable {fr fr1 : Fr} {G G1 : Addr → Prop} {σ σ' : L2.St} {H H' H1 H2 : Hp} {ρ ρ' ρ1 ρ2 ρ3 : Env} {F F' F1 F2 : Fp} {ds : List Tk.D} {locks : List Nat} {J : L2.It}

theorem Walk.out (w : Walk L nm fr G F H ds locks J H1 fr1 G1 F1) (hl : ∀ i a, fr.lm i = some a → G a) (r' : Rel L fr1 G1 σ' H' ρ' F') (x : Ext (zz F1) H1 (zz F') H') (h : unlockAll ρ' locks = some ρ3) :
    ∃ F2, Rel L fr G σ' H' ρ3 F2 ∧ Ext (zz F) H (zz F2) H' ∧ ∀ a, av F2 G a → av F' G1 a := by
  obtain ⟨F2, r2, x2, inc⟩ := w.unl (fun _ => False) σ' H' ρ' F' ρ3 (fun _ z => z.elim) (r'.lessG (fun i a z => .inl (r'.lmG i a z)) fun a z => z.elim id fun z => z.elim) x h
  refine ⟨F2, r2.lessG hl fun a z => .inl z, x2, fun a z => ?_⟩
  have := inc a (z.imp id .inl)
  rcases this with z | z | z
  · exact .inl z
  · exact .inr z
  · exact z.elim
theorem Walk.rq (w : Walk L nm fr G F H ds locks J H1 fr1 G1 F1) (hl : ∀ i a, fr.lm i = some a → G a) (xH : Ext (zz F1) H1 (zz F2) H2) (h : unlockAll ρ2 locks = some ρ3) {b : Bool} {Q : VK} {d : Tk.D} (q : RQ L fr G σ' H F b Q d ρ3) : RQ L fr1 G1 σ' H2 F2 b Q d ρ2 := by
  refine ⟨fun v H' F' n e r rp => ?_, fun ds p vs H' F' ed e r hp nG hn rp => ?_⟩
  · obtain ⟨F3, r3, e3, inc⟩ := w.out hl r (xH.trans e) h
    exact q.val v H' F3 n e3 r3 (rp.less inc)
  · have h1 : H1 p = none := xH.none hn
    obtain ⟨F3, r3, e3, inc⟩ := w.unl (fun a => a = p) σ' H' _ F' ρ3 (fun a z => z ▸ h1) r (xH.trans e) h
    exact q.new ds p vs H' F3 ed e3 r3 hp (fun z => nG (w.gg p z)) (w.ext.none h1) (rp.less inc)
def tailF (locks : List Nat) : R Fl → R Fl
  | .ok f ρ2 => (ofO (unlockAll ρ2 locks) ρ2).bind fun ρ3 _ => .ok f ρ3
  | .err c d ρ2 => if locks.isEmpty then .err c d ρ2 else .stuck
  | .stuck => .stuck
theorem tail_fin {r : R Fl} {P : Fl → Env → Prop} {NN : Nat → Tk.D → Env → Prop} (h : Fin (tailF locks r) P NN) : Fin r (fun f ρ2 => ∃ ρ3, unlockAll ρ2 locks = some ρ3 ∧ P f ρ3) (fun c d ρ2 => locks = [] ∧ NN c d ρ2) := by
  cases r with
  | ok f ρ2 =>
    obtain ⟨ρ3, h2, q⟩ := Fin.ofO (Fin.bind.mp h)
    exact ⟨ρ3, h2, q⟩
  | err c d ρ2 =>
    have h : Fin (if locks.isEmpty = true then R.err c d ρ2 else R.stuck) P NN := h
    by_cases hl : locks.isEmpty = true
    · rw [if_pos hl] at h
      exact ⟨List.isEmpty_iff.mp hl, h⟩
    · rw [if_neg hl] at h
      exact h.elim
  | stuck => exact h.elim
theorem for_read {tg : Tg} {it : Tk.It} {body : Ss} (hn : nmIt it = true ∨ ∀ i, tg ≠ .name i) (q : specS L W C fb (.for_ tg it body) D σ H) : tFor (specIt L W C it) (gT L.K tg) (specSs L W C fb body) D σ H := by
  obtain ⟨fr, G, ρ, F, r, f⟩ := q
  simp only [denS] at f
  refine ⟨fr, G, ρ, F, r, (Fin.bind.mp f).mono (fun x ρ1 q J H1 fr1 G1 F1 w r1 => ?_) fun _ _ _ z => ecs z⟩
  have q : Fin (tailF x.2 (loopD (putT tg) (denSs C body) x.1 ρ1)) (Rst L fb D fr G H F) (ECS L W fr G H F) := by
    unfold tailF
    exact q
  have q := tail_fin q
  refine ⟨fun i m σ Hi => m = x.1.length - i ∧ i ≤ x.1.length ∧ ∃ ρi Fi, Rel L fr1 G1 σ Hi ρi Fi ∧ Ext (zz F1) H1 (zz Fi) Hi ∧
    Fin (loopD (putT tg) (denSs C body) (x.1.drop i) ρi) (fun f ρ2 => ∃ ρ3, unlockAll ρ2 x.2 = some ρ3 ∧ Rst L fb D fr G H F f ρ3) (fun c d ρ2 => x.2 = [] ∧ ECS L W fr G H F c d ρ2), ⟨x.1.length, by simp, Nat.zero_le _, ρ1, F1, r1, Ext.refl _ _, by rw [List.drop_zero]; exact q⟩, ?_⟩
  rintro i m σi Hi ⟨rfl, hi, ρi, Fi, ri, ei, f⟩
  have Y : Yields L (nmIt it) J x.1 (av Fi fun a => G1 a ∨ False) Hi i := w.src (fun _ => False) (fun _ => False) _ _ _ _ (fun _ z => z.elim) vol0 (ri.lessG (fun i a z => .inl (ri.lmG i a z)) fun a z => z.elim id fun z => z.elim) ei.or0 i
  by_cases hlt : i < x.1.length
  · right
    have hd : x.1.drop i = x.1[i] :: x.1.drop (i + 1) := List.drop_eq_getElem_cons hlt
    rw [hd] at f
    simp only [loopD] at f
    obtain ⟨hgo, hy⟩ := Y.2 x.1[i] (List.getElem?_eq_getElem hlt)
    refine ⟨hgo, fun σ' H' => i + 1 ≤ x.1.length ∧ ∃ ρi Fi, Rel L fr1 G1 σ' H' ρi Fi ∧ Ext (zz F1) H1 (zz Fi) H' ∧
      Fin (loopD (putT tg) (denSs C body) (x.1.drop (i + 1)) ρi) (fun f ρ2 => ∃ ρ3, unlockAll ρ2 x.2 = some ρ3 ∧ Rst L fb D fr G H F f ρ3) (fun c d ρ2 => x.2 = [] ∧ ECS L W fr G H F c d ρ2), fun σ' H' ⟨z1, z2⟩ => ⟨_, by omega, rfl, z1, z2⟩, fun v H' hyd => ?_⟩
    obtain ⟨kp, rp⟩ := hy v H' hyd
    have xk : Ext (zz Fi) Hi (zz Fi) H' := ⟨fun a o h _ => kp a o h, fun _ h => .inl h, fun a h => ne_keeps kp h⟩
    have ri' := ri.keeps kp
    cases ep : putT tg x.1[i] ρi with
    | none => rw [ep] at f; exact f.elim
    | some ρ2 =>
      rw [ep] at f
      refine put_tg ri' hn ep (rp.less fun a z => z.imp id .inl) fun σ2 F2 r2 zsub _ => ?_
      have e12 : Ext (zz F1) H1 (zz F2) H' := ei.trans (xk.less zsub)
      refine ⟨fr1, G1, ρ2, F2, r2, ?_⟩
      have again : ∀ {ρ4 : Env}, Fin (loopD (putT tg) (denSs C body) (x.1.drop (i + 1)) ρ4) (fun f ρ2 => ∃ ρ3, unlockAll ρ2 x.2 = some ρ3 ∧ Rst L fb D fr G H F f ρ3) (fun c d ρ2 => x.2 = [] ∧ ECS L W fr G H F c d ρ2) →
          ∀ σ' H'' F'', Ext (zz F2) H' (zz F'') H'' → Rel L fr1 G1 σ' H'' ρ4 F'' → i + 1 ≤ x.1.length ∧ ∃ ρi Fi, Rel L fr1 G1 σ' H'' ρi Fi ∧ Ext (zz F1) H1 (zz Fi) H'' ∧
            Fin (loopD (putT tg) (denSs C body) (x.1.drop (i + 1)) ρi) (fun f ρ2 => ∃ ρ3, unlockAll ρ2 x.2 = some ρ3 ∧ Rst L fb D fr G H F f ρ3) (fun c d ρ2 => x.2 = [] ∧ ECS L W fr G H F c d ρ2) := fun {ρ4} z σ' H'' F'' e' r' => ⟨hlt, ρ4, F'', r', e12.trans e', z⟩
      cases eb : denSs C body ρ2 with
      | stuck => simp only [eb] at f; exact f.elim
      | err c d ρ4 =>
        simp only [eb] at f
        obtain ⟨hx, z⟩ := f
        obtain ⟨e1, e2⟩ := w.same hx
        subst e1 e2
        exact z.shift (w.ext.trans e12)
      | ok fl ρ4 =>
        simp only [eb] at f
        cases fl with
        | nx => exact again f
        | ct => exact again f
        | bk =>
          obtain ⟨ρ3, hu, z⟩ := f
          intro σ' H'' F'' e' r'
          obtain ⟨F3, r3, e3, _⟩ := w.out r.lmG r' (e12.trans e') hu
          exact z σ' H'' F3 e3 r3
        | rt d =>
          obtain ⟨ρ3, hu, z⟩ := f
          exact fun σ' => w.rq r.lmG e12 hu (z σ')
  · left
    have e : i = x.1.length := by omega
    subst e
    rw [List.drop_length] at f
    simp only [loopD] at f
    obtain ⟨ρ3, hu, z⟩ := f
    obtain ⟨F3, r3, e3, _⟩ := w.out r.lmG ri ei hu
    exact ⟨Y.1 rfl, z σi Hi F3 e3 r3⟩
theorem while_read {c : E} {body : Ss} (q : specS L W C fb (.while_ c body) D σ H) : tWhile (specT L W C c) (specSs L W C fb body) D σ H := by
  obtain ⟨fr, G, ρ, F, r, f⟩ := q
  simp only [denS] at f
  refine ⟨fun m σi Hi => ∃ ρi Fi, Rel L fr G σi Hi ρi Fi ∧ Ext (zz F) H (zz Fi) Hi ∧ Fin (whileD (fun ρ => isB (denE C c ρ)) (denSs C body) m ρi) (Rst L fb D fr G H F) (ECS L W fr G H F), ⟨C.wf, ρ, F, r, Ext.refl _ _, f⟩, ?_⟩
  rintro m σi Hi ⟨ρi, Fi, ri, ei, f⟩
  cases m with
  | zero => exact f.elim
  | succ m =>
    simp only [whileD] at f
    refine ⟨fr, G, ρi, Fi, ri, ?_⟩
    cases et : isB (denE C c ρi) with
    | stuck => simp only [et] at f; exact f.elim
    | err cc d ρ1 => simp only [et] at f; exact nz ei f
    | ok b ρ1 =>
      simp only [et] at f
      intro H1 F1 e1 r1
      cases b with
      | false =>
        simp only [Bool.false_eq_true, if_false]
        exact f σi H1 F1 (ei.trans e1) r1
      | true =>
        simp only [if_true]
        have e01 := ei.trans e1
        refine ⟨fun σ' H' => ∃ ρi Fi, Rel L fr G σ' H' ρi Fi ∧ Ext (zz F) H (zz Fi) H' ∧ Fin (whileD (fun ρ => isB (denE C c ρ)) (denSs C body) m ρi) (Rst L fb D fr G H F) (ECS L W fr G H F), fun σ' H' z => ⟨m, Nat.lt_succ_self m, z⟩, fr, G, ρ1, F1, r1, ?_⟩
        cases eb : denSs C body ρ1 with
        | stuck => simp only [eb] at f; exact f.elim
        | err cc d ρ4 => simp only [eb] at f; exact f.shift e01
        | ok fl ρ4 =>
          simp only [eb] at f
          cases fl with
          | nx => exact fun σ' H' F' e' r' => ⟨ρ4, F', r', e01.trans e', f⟩
          | ct => exact fun σ' H' F' e' r' => ⟨ρ4, F', r', e01.trans e', f⟩
          | bk => exact fun σ' H' F' e' r' => f σ' H' F' (e01.trans e') r'
          | rt d => exact fun σ' => RQ.shift e01 (f σ')

/-! ### all statements -/
def VS (L : Lk) (t : Tx) (wf k : Nat) (N : List Str) (fb : Bool) (s : S) : Prop := ∀ sc W X p, GoodS L k N sc W X → mS t N sc fb s p = true → PS X p (specS L W (cl t wf k) fb s)
def VSs (L : Lk) (t : Tx) (wf k : Nat) (N : List Str) (fb : Bool) (s : Ss) : Prop := ∀ sc W X ps, GoodS L k N sc W X → mSs t N sc fb s ps = true → PSs X ps (specSs L W (cl t wf k) fb s)
theorem vs_ret (lk : LkOk L t) (fl : FnL L t wf k) {e : E} : VS L t wf k N fb (.ret e) := by
  intro sc W X p g m
  cases p <;> first | (simp [mS] at m; done) | skip
  rename_i o q
  cases o <;> first | (simp [mS] at m; done) | skip
  rename_i pe
  simp only [mS, Bool.and_eq_true, Bool.or_eq_true, Bool.not_eq_true'] at m
  refine (ps_ret (vE lk fl e sc W X pe g.toGood m.1).v).imp fun D σ H ⟨fr, G, ρ, F, r, f⟩ => ?_
  simp only [denS] at f
  refine ⟨fr, G, ρ, F, r, (Fin.bind.mp f).mono (fun d ρ1 q => ?_) fun _ _ _ z => ecs z⟩
  have q : ∀ σ', RQ L fr G σ' H F fb D.rt d ρ1 := q
  rcases m.2 with hf | hf
  · rw [hf] at q; exact (q σ).weak r.lmG
  · rw [hf]
    cases fb with
    | true => exact q σ
    | false => exact (q σ).weak r.lmG
theorem vs_retN : VS L t wf k N fb .retN := by
  intro sc W X p g m
  cases p <;> first | (simp [mS] at m; done) | skip
  rename_i o q
  cases o <;> first | (simp [mS] at m; done) | skip
  refine ps_retN.imp fun D σ H ⟨fr, G, ρ, F, r, f⟩ => ?_
  simp only [denS] at f
  exact (f σ).val .non H F (fun _ _ z => nomatch z) (Ext.refl _ _) r (by simp only [Rep])
theorem vs_expr (lk : LkOk L t) (fl : FnL L t wf k) {e : E} : VS L t wf k N fb (.expr e) := by
  intro sc W X p g m
  cases p <;> first | (simp [mS] at m; done) | skip
  simp only [mS, Bool.and_eq_true] at m
  refine (ps_expr (s_weak (vE lk fl e sc W X _ g.toGood m.1).v) (sw_non m.2)).imp fun D σ H ⟨fr, G, ρ, F, r, f⟩ => ?_
  simp only [denS] at f
  refine (show specG L W (cl t wf k) false e σ H _ from seqEN r (fun _ _ _ z => ecs z) f fun d v ρ1 H1 F1 e1 r1 rp f => f σ H1 F1 e1 r1)
theorem vs_asg (lk : LkOk L t) (fl : FnL L t wf k) {tg : Tg} {e : E} : VS L t wf k N fb (.asg tg e) := by
  intro sc W X p g m
  cases p <;> first | (simp [mS] at m; done) | skip
  rename_i tgs pe pos
  simp only [mS] at m
  obtain ⟨tx, et, m2⟩ := one_inv m
  subst et
  clear m
  have m := m2
  clear m2
  unfold mAsg at m
  split at m
  · rename_i i x px
    simp only [Bool.and_eq_true, Bool.or_eq_true, decide_eq_true_eq] at m
    obtain ⟨⟨⟨h1, h2⟩, h3⟩, h4⟩ := m
    exact ps_name (b := false) g lk fl h1 h2 h3 h4 (fun z => by cases z) (fun D σ H q => asg_read q) fun _ D σ H q => asg_read q
  · rename_i is es n q
    simp only [Bool.and_eq_true, Bool.or_eq_true] at m
    obtain ⟨h3, m⟩ := m
    rcases m with ⟨h1, h2⟩ | m
    · exact ps_tgt g lk fl h3 h1 h2
    · split at m
      · rename_i ns vs e1
        simp only [Bool.and_eq_true] at m
        cases pe <;> first | (simp [parVal] at e1; done) | skip
        simp only [parVal] at e1
        split at e1
        · rename_i ns' e2
          cases e1
          exact ps_parS g lk fl m.2 h3 e2 m.1.1 m.1.2
        · cases e1
      · cases m
  · cases m
theorem vs_asgO (lk : LkOk L t) (fl : FnL L t wf k) {i : Nat} {e : E} : VS L t wf k N fb (.asgO i e) := by
  intro sc W X p g m
  cases p <;> first | (simp [mS] at m; done) | skip
  rename_i tgs pe pos
  simp only [mS] at m
  obtain ⟨tx, et, m2⟩ := one_inv m
  subst et
  clear m
  have m := m2
  clear m2
  unfold mAsgO at m
  split at m
  · simp only [Bool.and_eq_true, Bool.or_eq_true, decide_eq_true_eq] at m
    obtain ⟨⟨⟨⟨h1, h2⟩, h3⟩, h4⟩, h5⟩ := m
    exact ps_name (b := true) g lk fl h1 h2 h3 h4 (fun _ => h5) (fun D σ H q => asgO_read q) fun z => by cases z
  · cases m
theorem vs_setI (lk : LkOk L t) (fl : FnL L t wf k) {i : Nat} {ix e : E} : VS L t wf k N fb (.setI i ix e) := by
  intro sc W X p g m
  cases p <;> first | (simp [mS] at m; done) | skip
  rename_i tgs pe pos
  simp only [mS] at m
  obtain ⟨tx, et, m2⟩ := one_inv m
  subst et
  clear m
  have m := m2
  clear m2
  unfold mSetI at m
  split at m
  · simp only [Bool.and_eq_true] at m
    exact ps_setI g lk fl m.1.1 m.1.2 m.2
  · cases m
theorem vs_setT (lk : LkOk L t) (fl : FnL L t wf k) {i j : Nat} {ix e : E} : VS L t wf k N fb (.setT i ix j e) := by
  intro sc W X p g m
  cases p <;> first | (simp [mS] at m; done) | skip
  rename_i tgs pe pos
  simp only [mS] at m
  obtain ⟨tx, et, m2⟩ := one_inv m
  subst et
  clear m
  have m := m2
  clear m2
  unfold mSetT at m
  split at m
  · simp only [Bool.and_eq_true, decide_eq_true_eq] at m
    obtain ⟨⟨⟨⟨⟨h1, h2⟩, h3⟩, h4⟩, h5⟩, h6⟩ := m
    exact ps_setT g lk fl h1 h2 h3 h4 h5 (by cases pe <;> first | exact ⟨rfl, rfl⟩ | cases h6)
  · cases m
theorem vs_par (lk : LkOk L t) (fl : FnL L t wf k) {is : List Nat} {bs : List Bool} {es : Es} : VS L t wf k N fb (.par is bs es) := by
  intro sc W X p g m
  cases p <;> first | (simp [mS] at m; done) | skip
  rename_i tgs pe pos
  simp only [mS] at m
  obtain ⟨tx, et, m2⟩ := one_inv m
  subst et
  clear m
  have m := m2
  clear m2
  unfold mPar at m
  split at m
  · simp only [Bool.and_eq_true, decide_eq_true_eq] at m
    obtain ⟨⟨⟨h1, h2⟩, h3⟩, h4⟩ := m
    split at h4
    · rename_i e
      exact ps_mixT g lk fl h1 h3 e h4
    · rename_i e
      exact ps_mixS g lk fl h1 h2 e h4
    · cases h4
  · cases m
theorem vs_ife (lk : LkOk L t) (fl : FnL L t wf k) {c : E} {a b : Ss} (ia : VSs L t wf k N fb a) (ib : VSs L t wf k N fb b) : VS L t wf k N fb (.ife c a b) := by
  intro sc W X p g m
  cases p <;> first | (simp [mS] at m; done) | skip
  simp only [mS, Bool.and_eq_true] at m
  refine (ps_if (vE lk fl c sc W X _ g.toGood m.1.1).b (ia sc W X _ g m.1.2) (ib sc W X _ g m.2)).imp fun D σ H ⟨fr, G, ρ, F, r, f⟩ => ?_
  simp only [denS] at f
  refine (show specT L W (cl t wf k) c σ H _ from seqTN r (fun _ _ _ z => ecs z) f fun b ρ1 H1 F1 e1 r1 f => ?_)
  cases b with
  | true => exact ⟨fr, G, ρ1, F1, r1, f.mono (fun _ _ z => z.shift e1) fun _ _ _ z => z.shift e1⟩
  | false => exact ⟨fr, G, ρ1, F1, r1, f.mono (fun _ _ z => z.shift e1) fun _ _ _ z => z.shift e1⟩
theorem vs_for (lk : LkOk L t) (fl : FnL L t wf k) {tg : Tg} {it : Tk.It} {b : Ss} (ib : VSs L t wf k N fb b) : VS L t wf k N fb (.for_ tg it b) := by
  intro sc W X p g m
  cases p <;> first | (simp [mS] at m; done) | skip
  rename_i ptg pit pb po pos
  cases po <;> first | (simp [mS] at m; done) | skip
  simp only [mS, Bool.and_eq_true] at m
  obtain ⟨⟨⟨⟨h1, h2⟩, h3⟩, h5⟩, h4⟩ := m
  exact (ps_for g.own g.calm (vIt lk fl it sc W X ptg pit g.toGood h2 h5) (g_tg g.toGood h1) (ib sc W X pb g h4) (fun x => by cases pit <;> first | rfl | cases h3)).imp fun D σ H q => for_read (nm_tup h1 h5) q
theorem vs_while (lk : LkOk L t) (fl : FnL L t wf k) {c : E} {b : Ss} (ib : VSs L t wf k N fb b) : VS L t wf k N fb (.while_ c b) := by
  intro sc W X p g m
  cases p <;> first | (simp [mS] at m; done) | skip
  rename_i pc pb po pos
  cases po <;> first | (simp [mS] at m; done) | skip
  simp only [mS, Bool.and_eq_true] at m
  exact (ps_while g.own (vE lk fl c sc W X pc g.toGood m.1).b (ib sc W X pb g m.2)).imp fun D σ H q => while_read q
theorem vs_brk : VS L t wf k N fb .brk := by
  intro sc W X p g m
  cases p <;> first | (simp [mS] at m; done) | skip
  refine ps_break.imp fun D σ H ⟨fr, G, ρ, F, r, f⟩ => ?_
  simp only [denS] at f
  exact f σ H F (Ext.refl _ _) r
theorem vs_cont : VS L t wf k N fb .cont := by
  intro sc W X p g m
  cases p <;> first | (simp [mS] at m; done) | skip
  refine ps_continue.imp fun D σ H ⟨fr, G, ρ, F, r, f⟩ => ?_
  simp only [denS] at f
  exact f σ H F (Ext.refl _ _) r
theorem vs_pass : VS L t wf k N fb .pass := by
  intro sc W X p g m
  cases p <;> first | (simp [mS] at m; done) | skip
  refine ps_pass.imp fun D σ H ⟨fr, G, ρ, F, r, f⟩ => ?_
  simp only [denS] at f
  exact f σ H F (Ext.refl _ _) r
theorem vs_cons {s : S} {ss : Ss} (i1 : VS L t wf k N fb s) (i2 : VSs L t wf k N fb ss) : VSs L t wf k N fb (.cons s ss) := by
  intro sc W X ps g m
  cases ps with
  | nil => simp [mSs] at m
  | cons p ps =>
    simp only [mSs, Bool.and_eq_true] at m
    refine (pss_cons (i1 sc W X p g m.1) (i2 sc W X ps g m.2)).imp fun D σ H ⟨fr, G, ρ, F, r, f⟩ => ?_
    simp only [denSs] at f
    refine ⟨fr, G, ρ, F, r, (Fin.bind.mp f).mono (fun fl ρ1 q => ?_) fun _ _ _ z => z⟩
    cases fl with
    | nx => exact fun σ' H' F' e' r' => ⟨fr, G, ρ1, F', r', Fin.mono q (fun _ _ z => z.shift e') fun _ _ _ z => z.shift e'⟩
    | bk => exact q
    | ct => exact q
    | rt d => exact q
theorem vs_nil : VSs L t wf k N fb .nil := by
  intro sc W X ps g m
  cases ps with
  | cons p ps => simp [mSs] at m
  | nil =>
    refine pss_nil.imp fun D σ H ⟨fr, G, ρ, F, r, f⟩ => ?_
    simp only [denSs] at f
    exact f σ H F (Ext.refl _ _) r
mutual
theorem vS (lk : LkOk L t) (fl : FnL L t wf k) : ∀ s : S, VS L t wf k N fb s
  | .asg tg e => vs_asg lk fl
  | .asgO i e => vs_asgO lk fl
  | .par is fl0 es => vs_par lk fl
  | .setI i ix e => vs_setI lk fl
  | .setT i ix j e => vs_setT lk fl
  | .expr e => vs_expr lk fl
  | .ret e => vs_ret lk fl
  | .retN => vs_retN
  | .ife c a b => vs_ife lk fl (vSs lk fl a) (vSs lk fl b)
  | .for_ tg it b => vs_for lk fl (vSs lk fl b)
  | .while_ c b => vs_while lk fl (vSs lk fl b)
  | .brk => vs_brk
  | .cont => vs_cont
  | .pass => vs_pass
  | .raise_ => fun sc W X p g m => ps_never.imp fun D σ H ⟨fr, G, ρ, F, r, f⟩ => by simp only [denS] at f; exact f
theorem vSs (lk : LkOk L t) (fl : FnL L t wf k) : ∀ s : Ss, VSs L t wf k N fb s
  | .nil => vs_nil
  | .cons s ss => vs_cons (vS lk fl s) (vSs lk fl ss)
end
end
end Tk

set_option Elab.async false
set_option linter.all false
set_option maxRecDepth 100000
set_option maxHeartbeats 2000000
namespace Tk
open PySem PySem.Spec PyProof.Rows L2
section
variable {L : Lk} {t : Tx} {wf k : Nat} {N : List Str} {sc : Scope} {W : WX} {X : Cx} {C : Cl} {fb : Bool}
variable {fr fr1 : Fr} {G G1 : Addr → Prop} {σ σ' : L2.St} {H H' H1 H2 : Hp} {ρ ρ' ρ1 ρ2 ρ3 : Env} {F F' F1 F2 : Fp}

/-- a def of the text, linked -/
structure FnD (L : Lk) (t : Tx) (f : Nat) (b : Tb) : Prop where
  ex : ∃ x qual params body scope fd, FunD L.K x qual params body scope [] [] (L.fa f) fd ∧ FnScope b.N (psOf b) scope ∧ mSs t b.N scope b.fr b.body body = true ∧ Binds L.K fd (psOf b) [] ∧
    ∀ ks, (f, ks) ∈ t.KW → KBinds L.K fd (psOf b) (ks.map fun p => (psOf b).getD p Str.empty) (kG b.np ks) (kG b.np ks)
  np : b.np ≤ b.N.length
theorem Rel.extend (r : Rel L fr G σ H ρ F) (m : Nat) : Rel L fr G (σ ++ List.replicate m none) H (ρ ++ List.replicate m .none) F := by
  refine ⟨by simp [r.len], fun i => ?_, r.apart, r.gap, r.home, r.kept, r.low, r.gin, r.lmG⟩
  have q := r.slot i
  by_cases hi : i < ρ.length
  · have e1 : getS (ρ ++ List.replicate m .none) i = getS ρ i := by
      unfold getS; simp [List.getD, List.getElem?_append_left hi]
    rw [e1, List.getElem?_append_left (by rw [← r.len]; exact hi)]
    exact q
  · have e0 : getS ρ i = .none := getS_out (Nat.le_of_not_lt hi)
    have e1 : getS (ρ ++ List.replicate m .none) i = .none := by
      unfold getS
      simp only [List.getD]
      rw [List.getElem?_append_right (Nat.le_of_not_lt hi), List.getElem?_replicate]
      split <;> rfl
    rw [e1]
    rw [e0] at q
    exact q
theorem fsp_len {f : Nat} {b : Tb} (hb : t.T[f]? = some b) (hn : b.np ≤ b.N.length) : ∀ vs H Q E, fsp L t wf k f vs H Q E → vs.length = (psOf b).length := fun vs H Q E h => by
  obtain ⟨fr, G, F, sl, b', h1, h2, h3, h4, r, _⟩ := h
  rw [hb] at h1; cases h1
  have := r.len
  simp at this
  unfold psOf
  rw [List.length_take, Nat.min_eq_left hn, ← this, h2]
theorem fn_step (lk : LkOk L t) (fl : FnL L t wf k) {f : Nat} {b : Tb} (hb : t.T[f]? = some b) {x qual : Str} {params : Arguments} {body : List Stmt} {scope : Scope} {fd : FuncData} (F : FunD L.K x qual params body scope [] [] (L.fa f) fd)
    (S : FnScope b.N (psOf b) scope) (m : mSs t b.N scope b.fr b.body body = true) (hn : b.np ≤ b.N.length) : FnG L.P L.w L.K L.mg L.base (k + 1) (L.fa f) fd (psOf b) (fsp L t wf (k + 1) f) := by
  refine g_def F S (fsp_len hb hn) fun cdv A outer s H vs Q hr hc h => ⟨specSs L (fun _ _ _ _ => False) (cl t wf k) b.fr b.body, vSs lk fl b.body scope _ _ body ⟨⟨rfl, rfl, rfl, rfl, rfl, rfl, S.nd, fun x h => h, fun x h => h, fun x h => h, fun x h => ⟨h, .inl rfl⟩, S.kind, rfl, hr, hc, takes_none5⟩, rfl, passes_of rfl⟩ m, ?_⟩
  obtain ⟨fr, G, F', sl, b', h1, h2, h3, h4, r, q⟩ := h
  rw [hb] at h1; cases h1
  have hl := r.len
  simp only [List.length_map] at hl
  refine ⟨fr, G, sl ++ List.replicate (b.N.length - b.np) .none, F', ?_, ?_⟩
  · unfold L2.start
    rw [← hl, h2]
    exact r.extend _
  · have eC : denSs ⟨run t.T t.G wf k, fun g => (t.G[g]?).map (·.2), fun f => ((t.T[f]?).map (·.np)).getD 0, fun f => (t.T[f]?).isSome, wf⟩ b.body (sl ++ List.replicate (b.N.length - b.np) .none) = denSs (cl t wf k) b.body (sl ++ List.replicate (b.N.length - b.np) .none) := rfl
    simp only [run, hb, h2, if_true, eC] at q
    cases er : denSs (cl t wf k) b.body (sl ++ List.replicate (b.N.length - b.np) .none) with
    | stuck => rw [er] at q; exact q.elim
    | err c d ρ1 => exact fun σ' H' F' _ _ cls od z => z.elim
    | ok fl' ρ1 =>
      rw [er] at q
      cases fl' with
      | bk => exact q.elim
      | ct => exact q.elim
      | rt d =>
        simp only at q
        split at q
        · rename_i d' out e
          split at e
          · cases e
            exact fun σ' => q σ' ρ1 rfl
          · cases e
        · rename_i c d' e
          split at e <;> cases e
        · exact q.elim
      | nx =>
        simp only at q
        split at q
        · rename_i d' out e
          split at e
          · cases e
            exact fun σ' H' F' e' r' => (q σ' ρ1 rfl).val .non H' F' (fun _ _ z => nomatch z) (by rw [← h3]; rw [h3]; exact e') r' (by simp only [Rep])
          · cases e
        · rename_i c d' e
          split at e <;> cases e
        · exact q.elim
theorem fnL_all (lk : LkOk L t) (h : ∀ f b, t.T[f]? = some b → FnD L t f b) : ∀ k, FnL L t wf k := by
  intro k
  induction k with
  | zero =>
    refine ⟨fun f b hb => ?_⟩
    obtain ⟨⟨x, qual, params, body, scope, fd, F, S, m, B, KB⟩, hn⟩ := h f b hb
    have no : ∀ vs H Q E, ¬ fsp L t wf 0 f vs H Q E := fun vs H Q E ⟨fr, G, F, sl, b', _, _, _, _, _, q⟩ => by
      simp only [run] at q
    exact ⟨fd, ⟨fun vs H Q E z => (no _ _ _ _ z).elim, fun A outer s H args us vs Q _ _ _ _ _ z => (no _ _ _ _ z).elim⟩, B, KB⟩
  | succ k ih =>
    refine ⟨fun f b hb => ?_⟩
    obtain ⟨⟨x, qual, params, body, scope, fd, F, S, m, B, KB⟩, hn⟩ := h f b hb
    exact ⟨fd, fn_step lk ih hb F S m hn, B, KB⟩

/-! ### keywords -/
theorem gather_vals {vs : List V} {us : List Value} (h : Vals vs us) : ∀ {is : List (Option Nat)} , (gather (is.map fun o => o.bind fun q => vs[q]?) = none ∧ gather (is.map fun o => o.bind fun q => us[q]?) = none) ∨
    ∃ ws xs, gather (is.map fun o => o.bind fun q => vs[q]?) = some ws ∧ gather (is.map fun o => o.bind fun q => us[q]?) = some xs ∧ Vals ws xs
  | [] => .inr ⟨[], [], rfl, rfl, .nil⟩
  | o :: is => by
    rcases gather_vals h (is := is) with ⟨e1, e2⟩ | ⟨ws, xs, e1, e2, r⟩
    · left
      constructor
      · simp only [List.map_cons, gather, e1, Option.map_none]
        cases (o.bind fun q => vs[q]?) <;> rfl
      · simp only [List.map_cons, gather, e2, Option.map_none]
        cases (o.bind fun q => us[q]?) <;> rfl
    · cases o with
      | none => left; exact ⟨rfl, rfl⟩
      | some q =>
        cases e : vs[q]? with
        | none =>
          left
          have hu : us[q]? = none := List.getElem?_eq_none (by rw [← h.length]; exact List.getElem?_eq_none_iff.mp e)
          constructor
          · simp only [List.map_cons, gather, Option.bind_some, e, Option.bind_none]
          · simp only [List.map_cons, gather, Option.bind_some, hu, Option.bind_none]
        | some v =>
          obtain ⟨u, hu, rv⟩ := h.get e
          right
          refine ⟨v :: ws, u :: xs, ?_, ?_, .cons rv r⟩
          · simp only [List.map_cons, gather, Option.bind_some, e, e1, Option.map_some]
          · simp only [List.map_cons, gather, Option.bind_some, hu, e2, Option.map_some]
theorem kG_rel {n : Nat} {ks : List Nat} {vs : List V} {us : List Value} {zs : List V} {ws : List Value} (h1 : Vals vs us) (h2 : Vals zs ws) : Vals (kG n ks vs zs) (kG n ks us ws) := by
  cases h1 with
  | cons _ _ => exact .nil
  | nil =>
    show Vals ((reoK n ks zs).getD []) ((reoK n ks ws).getD [])
    unfold reoK
    rw [h2.length]
    split
    · have := gather_vals h2 (is := (List.range n).map fun p => ks.findIdx? (· == p))
      rw [List.map_map, List.map_map] at this
      rcases this with ⟨e1, e2⟩ | ⟨ws, xs, e1, e2, r⟩
      · have e1 : gather ((List.range n).map fun p => (ks.findIdx? (· == p)).bind fun q => zs[q]?) = none := e1
        have e2 : gather ((List.range n).map fun p => (ks.findIdx? (· == p)).bind fun q => _[q]?) = none := e2
        rw [e1, e2]; exact .nil
      · have e1 : gather ((List.range n).map fun p => (ks.findIdx? (· == p)).bind fun q => zs[q]?) = some _ := e1
        have e2 : gather ((List.range n).map fun p => (ks.findIdx? (· == p)).bind fun q => _[q]?) = some _ := e2
        rw [e1, e2]; exact r
    · exact .nil
theorem kb_of {K : PySem.W.Frag} {x qual : Str} {params : Arguments} {body : List Stmt} {scope : Scope} {kws : List (Str × V)} {f : Addr} {fd : FuncData} {ps names : List Str} {n : Nat} {ks : List Nat} (F : FunD K x qual params body scope [] kws f fd) (hp : ps.length = n) (h0 : 0 < n)
    (h : ∀ (kV doc pm : Value) (an : Option Addr) (cdv ct : Value) (ws : List Value), ws.length = n → bindArgs (PySem.W.fnOf x qual params body scope .none kV doc pm an cdv ct) ⟨[], names.zip ws⟩ = pure (ps.zip ((reoK n ks ws).getD []))) :
    KBinds K fd ps names (kG n ks) (kG n ks) := by
  refine ⟨fun s us ws X hl => ?_, fun r1 r2 => kG_rel r1 r2⟩
  obtain ⟨oc, od, dV, kV, doc, pm, an, cdv, ct, osl, rfl, lk, hcd, hD, hK⟩ := F.ex
  rcases hD with ⟨_, rfl⟩ | ⟨e, _⟩
  · cases us with
    | cons u us =>
      have : ([] : List Value).length = ps.length := hl
      rw [hp] at this
      simp at this; omega
    | nil =>
      have hl : ((reoK n ks ws).getD []).length = ps.length := hl
      by_cases hw : ws.length = n
      · exact .of_eq (h kV doc pm an cdv ct ws hw)
      · exfalso
        unfold reoK at hl
        rw [if_neg (fun z => hw z.2), hp] at hl
        simp at hl; omega
  · exact absurd rfl e
end
end Tk

set_option Elab.async false
set_option linter.all false
set_option maxRecDepth 100000
set_option maxHeartbeats 2000000
namespace Tk
open PySem PySem.Spec PyProof.Rows L2

/-! ### the head's facts for a text -/
mutual
/-- a module's constant -/
def datB (K : PySem.W.Frag) (names : List Str) : D → Value → Bool
  | .non, .none => true
  | .bl b, .bool c => b == c
  | .int i, .int j _ => i == j
  | .str x, .str y _ => decide (x = y) && strGood x
  | .fn j, .ref a => match names[j]? with
    | some x => decide (He.ga K x = a)
    | none => false
  | .tup ds, .ref a => match K.lookup a with
    | some ⟨.type c, none, .seq its _, _⟩ => decide (c = "tuple") && decide (its.size ≤ sizeLine) && datBs K names ds its.toList
    | _ => false
  | _, _ => false
def datBs (K : PySem.W.Frag) (names : List Str) : List D → List Value → Bool
  | [], [] => true
  | d :: ds, u :: us => datB K names d u && datBs K names ds us
  | _, _ => false
end
def namesT (t : Tx) : List Str := t.T.map (·.name)
def lkOf (names : List Str) (P : Program) (w : World) (K : PySem.W.Frag) (mg : Str → Option Value) (base : Heap) : Lk := ⟨P, w, K, mg, base, fun f => match names[f]? with
  | some x => He.ga K x
  | none => 0⟩
def linkB (t : Tx) (K : PySem.W.Frag) : Bool :=
  (t.T.all fun b => He.eqO (PySem.W.nsIn K mainGlobals b.name) (some (some (.ref (He.ga K b.name))))) && (bnames.all fun x => He.eqO (PySem.W.nsIn K mainGlobals x) (some none)) &&
  (!t.gcd || He.eqO (PySem.W.nsIn K mainGlobals "gcd") (some (some (.builtin "math.gcd")))) && t.G.all fun q => match PySem.W.nsIn K mainGlobals q.1 with
    | some (some u) => datB K (namesT t) q.2 u
    | _ => false
def obsX (ex : PySem.W.Frag → Bool) (fn : List He.DefD) (K : PySem.W.Frag) : He.AlD := (ex K && fn.all fun d => d.ok K, fn.map fun d => He.fnW K d.at_)
def obsXG (n : Nat) (ex : PySem.W.Frag → Bool) (fn : List He.DefD) (g : Addr → Option Obj) : He.AlD := obsX ex fn (He.frG g (He.asD g n))
def hookX (n : Nat) (ex : PySem.W.Frag → Bool) (fn : List He.DefD) : PySem.W.Hook where
  α := He.AlD
  obs := fun s => obsXG n ex fn s.heap.get?
  val := fun _ => He.valD fn
  says := fun _ h => ∃ K : PySem.W.Frag, K.In h ∧ obsX ex fn K = He.valD fn
  of := fun _ _ e => ⟨_, He.frG_in, e⟩
  keeps := fun _ _ _ ⟨K, hK, c⟩ k => ⟨K, PySem.W.Frag.In.keeps hK k, c⟩
theorem obsXG_eq {n : Nat} {ex : PySem.W.Frag → Bool} {fn : List He.DefD} {g : Addr → Option Obj} {s : Shared} (h : ∀ a, g a = s.heap.get? a) : obsXG n ex fn g = (hookX n ex fn).obs s := by
  have e : g = s.heap.get? := funext h
  rw [e] <;> rfl
section
variable {ex : PySem.W.Frag → Bool} {fn : List He.DefD} {K : PySem.W.Frag} {t : Tx}
theorem saysX_ex (c : obsX ex fn K = He.valD fn) : ex K = true := (He.ba (show (ex K && fn.all fun d => d.ok K) = true from congrArg (fun z : He.AlD => z.1) c)).1
theorem saysX_def (c : obsX ex fn K = He.valD fn) (i : Nat) {d : He.DefD} (h : fn[i]? = some d) : ∃ fd, FunD K d.name d.qual d.params d.body d.scope (d.dvs K) (d.kws K) (He.fAd K d.at_) fd := by
  have c2 := (He.ba (show (ex K && fn.all fun d => d.ok K) = true from congrArg (fun z : He.AlD => z.1) c)).2
  have e : fn.map (fun d => He.fnW K d.at_) = fn.map He.DefD.val := congrArg (fun z : He.AlD => z.2) c
  have e2 : (fn.map fun d => He.fnW K d.at_)[i]? = (fn.map He.DefD.val)[i]? := by rw [e]
  rw [List.getElem?_map, List.getElem?_map, h] at e2
  exact He.DefD.funD (Option.some.inj e2) (List.all_eq_true.mp c2 d (List.mem_of_getElem? h))
mutual
theorem dat_rep {names : List Str} {P : Program} {w : World} {mg : Str → Option Value} {base : Heap} : ∀ {d : D} {u : Value}, datB K names d u = true → ∃ v, RelV v u ∧ ∀ A H, Rep (lkOf names P w K mg base) A H d v
  | .non, u, h => by cases u <;> first | (simp [datB] at h; done) | exact ⟨.non, rfl, fun A H => by simp only [Rep]⟩
  | .bl b, u, h => by
    cases u <;> first | (simp [datB] at h; done) | skip
    simp only [datB, beq_iff_eq] at h
    subst h
    exact ⟨.bl _, rfl, fun A H => by simp only [Rep]⟩
  | .int b, u, h => by
    cases u <;> first | (simp [datB] at h; done) | skip
    simp only [datB, beq_iff_eq] at h
    subst h
    exact ⟨.int _, ⟨_, rfl⟩, fun A H => by simp only [Rep]⟩
  | .str b, u, h => by
    cases u <;> first | (simp [datB] at h; done) | skip
    simp only [datB, Bool.and_eq_true, decide_eq_true_eq] at h
    obtain ⟨rfl, h⟩ := h
    exact ⟨.str _, ⟨_, rfl⟩, fun A H => by simp only [Rep]; exact ⟨trivial, h⟩⟩
  | .fn j, u, h => by
    cases u <;> first | (simp [datB] at h; done) | skip
    rename_i a
    simp only [datB] at h
    cases e : names[j]? with
    | none => rw [e] at h; cases h
    | some x =>
      rw [e] at h
      have h := of_decide_eq_true h
      refine ⟨.ref a, rfl, fun A H => ?_⟩
      simp only [Rep, lkOf, e, h]
  | .tup ds, u, h => by
    cases u <;> first | (simp [datB] at h; done) | skip
    rename_i a
    simp only [datB] at h
    split at h
    · rename_i c its n sl e
      simp only [Bool.and_eq_true, decide_eq_true_eq] at h
      obtain ⟨⟨rfl, h1⟩, h2⟩ := h
      obtain ⟨vs, r, rp⟩ := dats_rep h2
      refine ⟨.ref a, rfl, fun A H => ?_⟩
      simp only [Rep]
      exact ⟨a, vs, rfl, ⟨.inr ⟨_, its, n, e, rfl, rfl, h1, r⟩, .inr ⟨_, e, rfl⟩⟩, rp A H⟩
    · cases h
  | .lst ds, u, h => by cases u <;> (simp [datB] at h; done)
  | .scr ds, u, h => by cases u <;> (simp [datB] at h; done)
  | .dct, u, h => by cases u <;> (simp [datB] at h; done)
theorem dats_rep {names : List Str} {P : Program} {w : World} {mg : Str → Option Value} {base : Heap} : ∀ {ds : List D} {us : List Value}, datBs K names ds us = true → ∃ vs, Vals vs us ∧ ∀ A H, Reps (lkOf names P w K mg base) A H ds vs
  | [], us, h => by
    cases us with
    | nil => exact ⟨[], .nil, fun A H => .nil⟩
    | cons u us => simp [datBs] at h
  | d :: ds, us, h => by
    cases us with
    | nil => simp [datBs] at h
    | cons u us =>
      simp only [datBs, Bool.and_eq_true] at h
      obtain ⟨v, r1, p1⟩ := dat_rep (P := P) (w := w) (mg := mg) (base := base) h.1
      obtain ⟨vs, r2, p2⟩ := dats_rep (P := P) (w := w) (mg := mg) (base := base) h.2
      exact ⟨v :: vs, .cons r1 r2, fun A H => .cons (p1 A H) (p2 A H)⟩
end
theorem names_get {f : Nat} {b : Tb} (h : t.T[f]? = some b) : (namesT t)[f]? = some b.name := by
  unfold namesT
  rw [List.getElem?_map, h]; rfl
/-- the defs against the text -/
def okDef (t : Tx) (b : Tb) (d : He.DefD) : Bool := decide (d.at_ = (b.name, none)) && d.dfl.isEmpty && d.kwd.isEmpty && C8.scC b.N (psOf b) d.scope && mSs t b.N d.scope b.fr b.body d.body && decide (b.np ≤ b.N.length)
def okDefs (t : Tx) : List Tb → List He.DefD → Bool
  | [], [] => true
  | b :: bs, d :: ds => okDef t b d && okDefs t bs ds
  | _, _ => false
theorem okDefs_get : ∀ {bs : List Tb} {ds : List He.DefD} {f : Nat} {b : Tb}, okDefs t bs ds = true → bs[f]? = some b → ∃ d, ds[f]? = some d ∧ okDef t b d = true
  | [], ds, f, b, _, e => by simp at e
  | b :: bs, [], f, b', h, _ => by cases h
  | b :: bs, d :: ds, f, b', h, e => by
    simp only [okDefs, Bool.and_eq_true] at h
    cases f with
    | zero => simp at e; subst e; exact ⟨d, rfl, h.1⟩
    | succ f => simpa using okDefs_get (f := f) h.2 (by simpa using e)
def BOk (b : Tb) (d : He.DefD) : Prop := ∀ (kV doc pm : Value) (an : Option Addr) (cdv ct : Value) (us : List Value), us.length = (psOf b).length → bindArgs (PySem.W.fnOf d.name d.qual d.params d.body d.scope .none kV doc pm an cdv ct) ⟨us, []⟩ = pure ((psOf b).zip us)
def BOks : List Tb → List He.DefD → Prop
  | [], [] => True
  | b :: bs, d :: ds => BOk b d ∧ BOks bs ds
  | _, _ => False
theorem BOks_get : ∀ {bs : List Tb} {ds : List He.DefD} {f : Nat} {b : Tb} {d : He.DefD}, BOks bs ds → bs[f]? = some b → ds[f]? = some d → BOk b d
  | [], ds, f, b, d, _, e, _ => by simp at e
  | b :: bs, [], f, b', d', h, _, _ => h.elim
  | b :: bs, d :: ds, f, b', d', h, e, e2 => by
    cases f with
    | zero => simp at e e2; subst e e2; exact h.1
    | succ f => exact BOks_get (f := f) h.2 (by simpa using e) (by simpa using e2)
def KOk (t : Tx) (fn : List He.DefD) (q : Nat × List Nat) : Prop := ∀ b d, t.T[q.1]? = some b → fn[q.1]? = some d → (psOf b).length = b.np ∧ 0 < b.np ∧
  ∀ (kV doc pm : Value) (an : Option Addr) (cdv ct : Value) (ws : List Value), ws.length = b.np → bindArgs (PySem.W.fnOf d.name d.qual d.params d.body d.scope .none kV doc pm an cdv ct) ⟨[], (q.2.map fun p => (psOf b).getD p Str.empty).zip ws⟩ = pure ((psOf b).zip ((reoK b.np q.2 ws).getD []))
def KOks (t : Tx) (fn : List He.DefD) : List (Nat × List Nat) → Prop
  | [] => True
  | q :: qs => KOk t fn q ∧ KOks t fn qs
theorem KOks_get : ∀ {qs : List (Nat × List Nat)} {q : Nat × List Nat}, KOks t fn qs → q ∈ qs → KOk t fn q
  | [], q, _, h => by cases h
  | q' :: qs, q, h, e => by
    rcases List.mem_cons.mp e with e | e
    · subst e; exact h.1
    · exact KOks_get h.2 e
theorem dfl_nil {d : He.DefD} (h : d.dfl.isEmpty = true) : d.dvs K = [] := by
  unfold He.DefD.dvs
  rw [List.isEmpty_iff.mp h]; rfl
theorem kwd_nil {d : He.DefD} (h : d.kwd.isEmpty = true) : d.kws K = [] := by
  unfold He.DefD.kws
  rw [List.isEmpty_iff.mp h]; rfl
theorem fnD_of {P : Program} {w : World} {mg : Str → Option Value} {base : Heap} (chk : okDefs t t.T fn = true) (hB : BOks t.T fn) (hK : KOks t fn t.KW) (c : obsX (linkB t) fn K = He.valD fn) : ∀ f b, t.T[f]? = some b → FnD (lkOf (namesT t) P w K mg base) t f b := by
  intro f b hb
  obtain ⟨d, hd, o⟩ := okDefs_get chk hb
  unfold okDef at o
  simp only [Bool.and_eq_true, decide_eq_true_eq] at o
  obtain ⟨⟨⟨⟨⟨o1, o2⟩, o3⟩, o4⟩, o5⟩, o6⟩ := o
  obtain ⟨fd, F⟩ := saysX_def c f hd
  rw [dfl_nil o2, kwd_nil o3] at F
  have ea : (lkOf (namesT t) P w K mg base).fa f = He.fAd K d.at_ := by
    show (match (namesT t)[f]? with | some x => He.ga K x | none => 0) = _
    rw [names_get hb, o1]; rfl
  refine ⟨⟨d.name, d.qual, d.params, d.body, d.scope, fd, ?_, C8.fnScope_by o4, o5, F.bindsN (BOks_get hB hb hd), fun ks hks => ?_⟩, o6⟩
  · rw [ea]; exact F
  · obtain ⟨k1, k2, k3⟩ := KOks_get hK hks b d hb hd
    exact kb_of F k1 k2 k3
theorem lkOk_of {P : Program} {w : World} {mg : Str → Option Value} {base h : Heap} (X : K.In h) (G : h.Ns mainGlobals mg) (chk : okDefs t t.T fn = true) (c : obsX (linkB t) fn K = He.valD fn) : LkOk (lkOf (namesT t) P w K mg base) t := by
  have l := saysX_ex c
  unfold linkB at l
  simp only [Bool.and_eq_true, List.all_eq_true, Bool.or_eq_true, Bool.not_eq_true'] at l
  obtain ⟨⟨⟨l1, l2⟩, l3⟩, l4⟩ := l
  refine ⟨fun f b hb => ?_, fun g x d hg => ?_, fun x hx => ?_, fun hg => ?_⟩
  · have ea : (lkOf (namesT t) P w K mg base).fa f = He.ga K b.name := by
      show (match (namesT t)[f]? with | some x => He.ga K x | none => 0) = _
      rw [names_get hb]
    rw [ea]
    refine ⟨PySem.W.mg_of X G (He.eqO_ok (l1 b (List.mem_of_getElem? hb))), ?_⟩
    obtain ⟨d, hd, o⟩ := okDefs_get chk hb
    unfold okDef at o
    simp only [Bool.and_eq_true, decide_eq_true_eq] at o
    obtain ⟨fd, F⟩ := saysX_def c f hd
    have := F.kp
    rw [o.1.1.1.1.1] at this
    exact this
  · have := l4 (x, d) (List.mem_of_getElem? hg)
    simp only at this
    split at this
    · rename_i u e
      obtain ⟨v, r, rp⟩ := dat_rep (P := P) (w := w) (mg := mg) (base := base) this
      exact ⟨u, v, PySem.W.mg_of X G e, r, rp⟩
    · cases this
  · exact PySem.W.mg_none_of X G (He.eqO_ok (l2 x hx))
  · rcases l3 with l3 | l3
    · rw [hg] at l3; cases l3
    · exact PySem.W.mg_of X G (He.eqO_ok l3)

/-! ### the law -/
theorem law_fsp {wf k f : Nat} {b : Tb} {L : Lk} {H : Hp} {a : Addr} {ns : List Int} (hb : t.T[f]? = some b) (h1 : b.np = 1) (hO : Only H) (hS : SqL L.K H a (ns.map V.int)) {out : List Slot} (hr : run t.T t.G wf k f [.val (.scr ns)] = .ok (.bl true) out) :
    fsp L t wf k f [.ref a] H (fun v _ => v = .bl true) fun _ _ _ => False := by
  have hz : ∀ i a, a ∈ (fun _ => [] : Fp) i → False := fun i a z => by cases z
  refine ⟨⟨H, fun _ => False, fun _ => none, fun _ => none⟩, fun _ => False, fun _ => [], [.val (.scr ns)], b, hb, by rw [h1]; rfl, rfl, rfl, ⟨rfl, fun i => ?_, fun i j a z _ => (hz i a z).elim, fun i a z _ => hz i a z, fun i a z => (hz i a z).elim, fun a o h _ => h, fun a h => h, fun a z => z.elim, fun i a z => by cases z⟩, ?_⟩
  · cases i with
    | zero =>
      refine ⟨rfl, .ref a, rfl, ?_⟩
      simp only [Rep]
      refine ⟨a, rfl, ?_⟩
      rcases hS with (h | h) | h
      · rcases hO a with z | ⟨o, xs, z⟩
        · rw [h] at z; cases z
        · rw [h] at z; cases z
      · exact .inl h
      · exact .inr h
    | succ i => rfl
  · rw [hr]
    intro σ' ρ' _
    refine ⟨fun v H' F' _ _ _ rp => ?_, fun ds p vs H' F' ed => by cases ed⟩
    simpa only [Rep] using rp
theorem law_F {P : Program} {w : World} {wf k f n : Nat} {b : Tb} {d : He.DefD} {x : Str} (chk : okDefs t t.T fn = true) (hB : BOks t.T fn) (hK : KOks t fn t.KW) (hb : t.T[f]? = some b) (hd : fn[f]? = some d) (hx : psOf b = [x])
    (h1 : b.np = 1) (hr : ∀ ns : List Int, ns.length ≤ n → ∃ out, run t.T t.G wf (k + 1) f [.val (.scr ns)] = .ok (.bl true) out)
    {mg : Str → Option Value} {fa : Addr} {h : Heap} (Y : (hookX 4 (linkB t) fn).says w h) (G : h.Ns mainGlobals mg) (hmg : mg b.name = some (.ref fa)) :
    ∃ (K : PySem.W.Frag) (fd : FuncData) (sp : Sp), K.In h ∧ (∀ (s : Shared) (u : Value), BindsTo s fd ⟨[u], []⟩ [(x, u)]) ∧
      (∀ (H : Hp) (a : Addr) (ns : List Int), ns.length ≤ n → Only H → SqL K H a (ns.map V.int) → sp [.ref a] H (fun v _ => v = .bl true) fun _ _ _ => False) ∧
      ∀ base : Heap, K.In base → base.Ns mainGlobals mg → FnG P w K mg base (k + 1) fa fd [x] sp := by
  obtain ⟨K, KX, c⟩ := Y
  obtain ⟨d', hd', o⟩ := okDefs_get chk hb
  rw [hd] at hd'; cases hd'
  unfold okDef at o
  simp only [Bool.and_eq_true, decide_eq_true_eq] at o
  obtain ⟨⟨⟨⟨⟨o1, o2⟩, o3⟩, o4⟩, o5⟩, o6⟩ := o
  obtain ⟨fd, F⟩ := saysX_def c f hd
  rw [dfl_nil o2, kwd_nil o3] at F
  have hfa : fa = He.ga K b.name := by
    have l := saysX_ex c
    unfold linkB at l
    simp only [Bool.and_eq_true, List.all_eq_true, Bool.or_eq_true, Bool.not_eq_true'] at l
    have := PySem.W.mg_of KX G (He.eqO_ok (l.1.1.1 b (List.mem_of_getElem? hb)))
    rw [hmg] at this
    cases this; rfl
  have ea : ∀ base, (lkOf (namesT t) P w K mg base).fa f = fa := fun base => by
    show (match (namesT t)[f]? with | some x => He.ga K x | none => 0) = _
    rw [names_get hb, hfa]
  have eb : He.fAd K d.at_ = fa := by rw [o1, hfa]; rfl
  rw [eb] at F
  refine ⟨K, fd, fun vs H Q E => ∀ base, fsp (lkOf (namesT t) P w K mg base) t wf (k + 1) f vs H Q E, KX, fun s u => ?_, fun H a ns hl hO hS => ?_, fun base KB GB => ?_⟩
  · have := F.bindsA (ps := psOf b) (BOks_get hB hb hd) s [u] (by rw [hx]; rfl)
    rw [hx] at this
    exact this
  · obtain ⟨out, hr⟩ := hr ns hl
    exact fun base => law_fsp hb h1 hO hS hr
  · have lk : LkOk (lkOf (namesT t) P w K mg base) t := lkOk_of KB GB chk c
    have ok := fn_step lk (fnL_all (wf := wf) lk (fnD_of chk hB hK c) k) hb (by rw [ea]; exact F) (C8.fnScope_by o4) o5 o6
    rw [ea, hx] at ok
    exact FnG.imp ok fun vs H Q E z => z base
end
end Tk

set_option Elab.async false
set_option linter.all false
set_option maxRecDepth 100000
set_option maxHeartbeats 2000000
/-! the interpreter by hand: how a body is stepped -/
namespace Tk
open PySem
/-- a body's end -/
def finF (np : Nat) (sl : List Slot) : R Fl → CR
  | .ok (.rt d) ρ => if refsKept sl (ρ.take np) then .ok d (ρ.take np) else .stuck
  | .ok .nx ρ => if refsKept sl (ρ.take np) then .ok .non (ρ.take np) else .stuck
  | .ok _ _ => .stuck
  | .err c d _ => .err c d
  | .stuck => .stuck
/-- the callees -/
def cls (T : List Tb) (G : List (PySem.Str × D)) (wf k : Nat) : Cl := ⟨run T G wf k, fun g => (G[g]?).map (·.2), fun f => ((T[f]?).map (·.np)).getD 0, fun f => (T[f]?).isSome, wf⟩
theorem run_at {T : List Tb} {G : List (PySem.Str × D)} {wf k f : Nat} {sl : List Slot} (b : Tb) (hb : T[f]? = some b) (hl : sl.length = b.np) :
    run T G wf (k + 1) f sl = finF b.np sl (denSs (cls T G wf k) b.body (sl ++ List.replicate (b.N.length - b.np) .none)) := by
  simp only [run, hb, hl, if_true]
  rfl
theorem getS_z {a : Slot} {l : Env} : getS (a :: l) 0 = a := rfl
theorem getS_s {a : Slot} {l : Env} {n : Nat} : getS (a :: l) (n + 1) = getS l n := rfl
/-- a loop that goes on -/
theorem loopD_inv {put : D → Env → Option Env} {body : Env → R Fl} (I : Env → Prop) : ∀ {ds : List D} {ρ : Env}, I ρ → (∀ d ∈ ds, ∀ ρ, I ρ → ∃ ρ1 ρ2, put d ρ = some ρ1 ∧ (body ρ1 = .ok .nx ρ2 ∨ body ρ1 = .ok .ct ρ2) ∧ I ρ2) → ∃ ρ', loopD put body ds ρ = .ok .nx ρ' ∧ I ρ'
  | [], ρ, h, _ => ⟨ρ, rfl, h⟩
  | d :: ds, ρ, h, step => by
    obtain ⟨ρ1, ρ2, h1, h2, h3⟩ := step d List.mem_cons_self ρ h
    obtain ⟨ρ', h4, h5⟩ := loopD_inv I (ds := ds) h3 fun d hd => step d (List.mem_cons_of_mem _ hd)
    refine ⟨ρ', ?_, h5⟩
    rcases h2 with h2 | h2 <;> simp only [loopD, h1, h2, h4]
/-- a comprehension without a test: each item is made, the others stay as I says -/
theorem compD_inv {put : D → Env → Option Env} {own : List Nat} {test : Env → R Bool} {elt : Env → R D} (I : Env → Prop) (P : D → Prop) : ∀ {ds : List D} {acc : List D} {ρ : Env}, I ρ → acc.length + ds.length ≤ big →
    (∀ d ∈ ds, ∀ ρ, I ρ → ∃ ρ1 ρ2 y, put d (wipeS ρ own) = some ρ1 ∧ test ρ1 = .ok true ρ1 ∧ elt ρ1 = .ok y ρ2 ∧ P y ∧ I ρ2) → ∃ ys ρ', compD put own test elt acc ds ρ = .ok (acc ++ ys) ρ' ∧ ys.length = ds.length ∧ (∀ y ∈ ys, P y) ∧ I ρ'
  | [], acc, ρ, h, _, _ => ⟨[], ρ, by simp [compD], rfl, by simp, h⟩
  | d :: ds, acc, ρ, h, hl, step => by
    obtain ⟨ρ1, ρ2, y, h1, h2, h3, h4, h5⟩ := step d List.mem_cons_self ρ h
    simp only [List.length_cons] at hl
    obtain ⟨ys, ρ', g1, g2, g3, g4⟩ := compD_inv I P (ds := ds) (acc := acc ++ [y]) h5 (by simp; omega) fun d hd => step d (List.mem_cons_of_mem _ hd)
    refine ⟨y :: ys, ρ', ?_, by simp [g2], ?_, g4⟩
    · have hlt : acc.length < big := by omega
      simp only [compD, h1, h2, h3, noErr, R.bind, if_true, hlt, g1, List.append_assoc, List.singleton_append]
    · intro z hz
      rcases List.mem_cons.mp hz with e | e
      · exact e ▸ h4
      · exact g3 z e
/-- a loop that goes on, its state told by a fold -/
theorem loopD_fold {α : Type} {put : D → Env → Option Env} {body : Env → R Fl} (I : α → Env → Prop) (step : α → D → α) : ∀ {ds : List D} {a : α} {ρ : Env}, I a ρ →
    (∀ d ∈ ds, ∀ a ρ, I a ρ → ∃ ρ1 ρ2, put d ρ = some ρ1 ∧ (body ρ1 = .ok .nx ρ2 ∨ body ρ1 = .ok .ct ρ2) ∧ I (step a d) ρ2) → ∃ ρ', loopD put body ds ρ = .ok .nx ρ' ∧ I (ds.foldl step a) ρ'
  | [], a, ρ, h, _ => ⟨ρ, rfl, h⟩
  | d :: ds, a, ρ, h, st => by
    obtain ⟨ρ1, ρ2, h1, h2, h3⟩ := st d List.mem_cons_self a ρ h
    obtain ⟨ρ', h4, h5⟩ := loopD_fold I step (ds := ds) h3 fun d hd => st d (List.mem_cons_of_mem _ hd)
    refine ⟨ρ', ?_, h5⟩
    rcases h2 with h2 | h2 <;> simp only [loopD, h1, h2, h4]
/-- a comprehension that leaves all names as they are -/
theorem compD_fm {put : D → Env → Option Env} {own : List Nat} {test : Env → R Bool} {elt : Env → R D} (f : D → Option D) {w : Env} : ∀ {ds acc : List D} {ρ : Env}, wipeS ρ own = w → acc.length + ds.length ≤ big →
    (∀ d ∈ ds, ∃ ρ1, put d w = some ρ1 ∧ test ρ1 = .ok (f d).isSome ρ1 ∧ (∀ y, f d = some y → elt ρ1 = .ok y ρ1) ∧ wipeS ρ1 own = w) → ∃ ρ', compD put own test elt acc ds ρ = .ok (acc ++ ds.filterMap f) ρ' ∧ wipeS ρ' own = w
  | [], acc, ρ, h, _, _ => ⟨ρ, by simp [compD], h⟩
  | d :: ds, acc, ρ, h, hl, st => by
    obtain ⟨ρ1, h1, h2, h3, h4⟩ := st d List.mem_cons_self
    simp only [List.length_cons] at hl
    cases hf : f d with
    | none =>
      obtain ⟨ρ', g1, g2⟩ := compD_fm f (ds := ds) (acc := acc) h4 (by omega) fun d hd => st d (List.mem_cons_of_mem _ hd)
      refine ⟨ρ', ?_, g2⟩
      rw [hf] at h2
      simp only [compD, h, h1, h2, noErr, R.bind, Option.isSome_none, Bool.false_eq_true, if_false, g1, List.filterMap_cons, hf]
    | some y =>
      obtain ⟨ρ', g1, g2⟩ := compD_fm f (ds := ds) (acc := acc ++ [y]) h4 (by simp; omega) fun d hd => st d (List.mem_cons_of_mem _ hd)
      refine ⟨ρ', ?_, g2⟩
      have hlt : acc.length < big := by omega
      rw [hf] at h2
      simp only [compD, h, h1, h2, h3 y hf, noErr, R.bind, Option.isSome_some, if_true, hlt, g1, List.filterMap_cons, hf, List.append_assoc, List.singleton_append]
theorem env_ext {ρ ρ' : Env} (hl : ρ.length = ρ'.length) (h : ∀ i, getS ρ i = getS ρ' i) : ρ = ρ' := by
  refine List.ext_getElem hl fun i h1 h2 => ?_
  have := h i
  simpa [getS, List.getD, h1, h2] using this
theorem back_same {own : List Nat} {ρ ρ' : Env} (h : wipeS ρ' own = wipeS ρ own) : back ρ ρ' own = ρ := by
  have hl : ρ.length = ρ'.length := by have := congrArg List.length h; rw [wipeS_length, wipeS_length] at this; exact this.symm
  refine env_ext (by rw [back_length]; exact hl.symm) fun i => ?_
  rw [getS_back hl]
  by_cases hi : i ∈ own
  · rw [if_pos hi]
  · rw [if_neg hi]
    have := congrArg (fun r => getS r i) h
    simp only [getS_wipe, if_neg hi] at this
    exact this
theorem comp_fm {C : Cl} {elt : E} {tg : Tg} {it : It} {ifs : Eo} {own : List Nat} {ρ ρ1 ρ3 : Env} {ds : List D} {locks : List Nat} (f : D → Option D) (hi : denIt C it ρ = .ok (ds, locks) ρ1) (hp : (own.all fun i => plainS (getS ρ1 i)) = true) (hu : unlockAll ρ1 locks = some ρ3) (hl : ds.length ≤ 16777216)
    (h : ∀ d ∈ ds, ∃ ρ2, putT tg d (wipeS ρ1 own) = some ρ2 ∧ denIf C ifs ρ2 = .ok (f d).isSome ρ2 ∧ (∀ y, f d = some y → denE C elt ρ2 = .ok y ρ2) ∧ wipeS ρ2 own = wipeS ρ1 own) : denE C (.comp elt tg it ifs own) ρ = .ok (.lst (ds.filterMap f)) ρ3 := by
  obtain ⟨ρ', g1, g2⟩ := compD_fm (put := putT tg) (test := denIf C ifs) (elt := denE C elt) f (acc := []) rfl (by simpa [big] using hl) h
  have g3 := back_same g2
  simp only [denE, hi, R.bind, hp, if_true, g1, List.nil_append, g3, hu, ofO]
/-- items that are ints: some kept, each made another -/
def fmI (p : Int → Bool) (g : Int → D) : D → Option D
  | .int x => if p x then some (g x) else none
  | _ => none
theorem fmI_int {p : Int → Bool} {g : Int → D} {x : Int} : fmI p g (.int x) = if p x then some (g x) else none := rfl
theorem fm_I {p : Int → Bool} {g : Int → D} : ∀ ts : List Int, (ts.map D.int).filterMap (fmI p g) = (ts.filter p).map g
  | [] => rfl
  | x :: ts => by
    rw [List.map_cons, List.filterMap_cons, List.filter_cons, fmI_int, fm_I ts]
    cases p x <;> simp
theorem fm_I1 {g : Int → D} (ts : List Int) : (ts.map D.int).filterMap (fmI (fun _ => true) g) = ts.map g := by
  rw [fm_I, List.filter_eq_self.mpr fun _ _ => rfl]
end Tk
namespace Tk
open PySem
section
variable {T : List Tb} {G : List (PySem.Str × D)} {wf k : Nat}
theorem cls_call : (cls T G wf k).call = run T G wf k := rfl
theorem cls_glob : (cls T G wf k).glob = fun g => (G[g]?).map (·.2) := rfl
theorem cls_np : (cls T G wf k).np = fun f => ((T[f]?).map (·.np)).getD 0 := rfl
theorem cls_wf : (cls T G wf k).wf = wf := rfl
end
theorem mulOk_l {i j : Int} (h1 : -(2 ^ 64) < i) (h2 : i < 2 ^ 64) : mulOk i j = true := by
  unfold mulOk
  rw [decide_eq_true h1, decide_eq_true h2]; rfl
theorem mulOk_r {i j : Int} (h1 : -(2 ^ 64) < j) (h2 : j < 2 ^ 64) : mulOk i j = true := by
  unfold mulOk
  rw [decide_eq_true h1, decide_eq_true h2]
  simp
theorem divOk_s {j : Int} (h1 : 0 < j) (h2 : j < 1073741824) : divOk j = true := by
  unfold divOk
  rw [decide_eq_true h1, decide_eq_true h2]; rfl
theorem ofO_some {α : Type} {a : α} {ρ : Env} : ofO (some a) ρ = .ok a ρ := rfl
theorem ofO_none {α : Type} {ρ : Env} : ofO (none : Option α) ρ = .stuck := rfl
theorem bind_ok' {α β : Type} {a : α} {ρ : Env} {f : α → Env → R β} : (R.ok a ρ).bind f = f a ρ := rfl
theorem bind_st {α β : Type} {f : α → Env → R β} : (R.stuck : R α).bind f = .stuck := rfl
theorem bind_congr1 {α β : Type} {r r' : R α} {f : α → Env → R β} (h : r = r') : r.bind f = r'.bind f := by rw [h]
theorem cmp_is {a : D} : cmpF .is a .non = some (match a with | .non => true | _ => false) := by cases a <;> rfl
theorem cmp_isnot {a : D} : cmpF .isnot a .non = some (match a with | .non => false | _ => true) := by cases a <;> rfl
theorem isB_ok {b : Bool} {ρ : Env} : isB (.ok (.bl b) ρ) = .ok b ρ := rfl
theorem partD_ok {b : Int} {ρ : Env} : partD (.ok (.int b) ρ) = .ok (some b) ρ := rfl
theorem see_v {d : D} : seeD (.val d) = some d := rfl
theorem see_o {d : D} : seeD (.own d) = some d := rfl
theorem see_r {d : D} : seeD (.ref d) = some d := rfl
theorem see_l {d : D} {b : Bool} : seeD (.lock b d) = some d := rfl
theorem own_o {d : D} : ownD (.own d) = some d := rfl
theorem own_r {d : D} : ownD (.ref d) = some d := rfl
theorem rd_d {d : D} {ρ : Env} : rd ρ (.dat d) = some d := rfl
theorem rd_s {i : Nat} {ρ : Env} : rd ρ (.slot i) = seeD (getS ρ i) := rfl
theorem arg_d {d : D} {ρ : Env} : arg ρ (.dat d) = some (.val d) := rfl
theorem arg_s {i : Nat} {ρ : Env} : arg ρ (.slot i) = (ownD (getS ρ i)).map .ref := rfl
theorem free_n : Slot.none.free = true := rfl
theorem free_v {d : D} : (Slot.val d).free = true := rfl
theorem free_o {d : D} : (Slot.own d).free = true := rfl
theorem with_o {d e : D} : (Slot.own d).with e = .own e := rfl
theorem with_r {d e : D} : (Slot.ref d).with e = .ref e := rfl
theorem bin_add {i j : Int} : binF .add (.int i) (.int j) = some (.int (i + j)) := rfl
theorem bin_sub {i j : Int} : binF .sub (.int i) (.int j) = some (.int (i - j)) := rfl
theorem bin_mul {i j : Int} : binF .mul (.int i) (.int j) = if mulOk i j then some (.int (i * j)) else none := rfl
theorem bin_div {i j : Int} : binF .fdiv (.int i) (.int j) = if divOk j then some (.int (i / j)) else none := rfl
theorem bin_mod {i j : Int} : binF .mod (.int i) (.int j) = if 0 < j then some (.int (i % j)) else none := rfl
theorem bin_lst {xs ys : List D} : binF .add (.lst xs) (.lst ys) = if xs.length + ys.length ≤ big then some (.lst (xs ++ ys)) else none := rfl
theorem bin_tup {xs ys : List D} : binF .add (.tup xs) (.tup ys) = if xs.length + ys.length ≤ big then some (.tup (xs ++ ys)) else none := rfl
theorem cmp_eq {a b : D} : cmpF .eq a b = eqD a b := rfl
theorem cmp_ne {a b : D} : cmpF .ne a b = (eqD a b).map (!·) := rfl
theorem cmp_lt {i j : Int} : cmpF .lt (.int i) (.int j) = some (decide (i < j)) := rfl
theorem cmp_le {i j : Int} : cmpF .le (.int i) (.int j) = some (decide (i ≤ j)) := rfl
theorem cmp_gt {i j : Int} : cmpF .gt (.int i) (.int j) = some (decide (j < i)) := rfl
theorem cmp_ge {i j : Int} : cmpF .ge (.int i) (.int j) = some (decide (j ≤ i)) := rfl
theorem cmp_in {a b : D} : cmpF .inn a b = inD a b := rfl
theorem cmp_nin {a b : D} : cmpF .notin a b = (inD a b).map (!·) := rfl
theorem eq_int {i j : Int} : eqD (.int i) (.int j) = some (i == j) := by
  unfold eqD; simp [D.flat, D.beq]
theorem bi_lenl {xs : List D} : biF .len [.lst xs] = some (.int xs.length) := rfl
theorem bi_lent {xs : List D} : biF .len [.tup xs] = some (.int xs.length) := rfl
theorem bi_lens {xs : List Int} : biF .len [.scr xs] = some (.int xs.length) := rfl
theorem bi_abs {i : Int} : biF .abs [.int i] = some (.int (if i < 0 then -i else i)) := rfl
theorem bi_int {i : Int} : biF .int [.int i] = some (.int i) := rfl
theorem bi_intb {b : Bool} : biF .int [.bl b] = some (.int (if b then 1 else 0)) := rfl
theorem bi_gcd {a b : Int} : biF .gcd [.int a, .int b] = some (.int ((Nat.gcd a.natAbs b.natAbs : Nat) : Int)) := rfl
theorem bi_max {i j : Int} : biF .max2 [.int i, .int j] = some (.int (if j > i then j else i)) := rfl
theorem bi_min {i j : Int} : biF .min2 [.int i, .int j] = some (.int (if j < i then j else i)) := rfl
theorem bi_all {xs : List D} : biF .all [.lst xs] = (blsOf xs).map fun bs => .bl (bs.all id) := rfl
theorem ix_l {xs : List D} {i : Int} : ixF (.lst xs) (.int i) = (ixOf xs.length i).bind fun j => xs[j]? := rfl
theorem ix_t {xs : List D} {i : Int} : ixF (.tup xs) (.int i) = (ixOf xs.length i).bind fun j => xs[j]? := rfl
theorem ix_s {xs : List Int} {i : Int} : ixF (.scr xs) (.int i) = (ixOf xs.length i).bind fun j => (xs[j]?).map .int := rfl
theorem put_n {i : Nat} {d : D} {ρ : Env} : putT (.name i) d ρ = putS ρ i (.val d) := rfl
theorem put_t {is : List Nat} {ds : List D} {ρ : Env} : putT (.tup is) (.tup ds) ρ = putAll ρ is ds := rfl
theorem fin_rt {np : Nat} {sl : List Slot} {d : D} {ρ : Env} : finF np sl (.ok (.rt d) ρ) = if refsKept sl (ρ.take np) then .ok d (ρ.take np) else .stuck := rfl
theorem fin_nx {np : Nat} {sl : List Slot} {ρ : Env} : finF np sl (.ok .nx ρ) = if refsKept sl (ρ.take np) then .ok .non (ρ.take np) else .stuck := rfl
theorem bigE : big = 16777216 := rfl
theorem bi_suml {xs : List D} : biF .sum [.lst xs] = (intsOf xs).map fun ns => .int ns.sum := rfl
theorem bi_sumt {xs : List D} : biF .sum [.tup xs] = (intsOf xs).map fun ns => .int ns.sum := rfl
theorem bin_pow {i j : Int} : binF .pow (.int i) (.int j) = if decide (0 ≤ j) && decide (j ≤ 1000) && decide (i.natAbs < 2 ^ 64) then some (.int (i ^ j.toNat)) else none := rfl
theorem bin_repl {xs : List D} {k : Int} : binF .mul (.lst xs) (.int k) = if decide (-(2 ^ 63) ≤ k) && decide (k < 2 ^ 63) && decide (xs.length * k.toNat ≤ big) then some (.lst (List.replicate k.toNat xs).flatten) else none := rfl
theorem mt_app {xs : List D} {y : D} : mtF .append xs [y] = if xs.length < big then some (.non, xs ++ [y]) else none := rfl
theorem od_var {i r ρ} : odOf (.var i) r ρ = match seeD (getS ρ i) with | some _ => .ok (.slot i) ρ | none => .stuck := rfl
theorem od_con {d r ρ} : odOf (.con d) r ρ = r.bind fun d ρ1 => .ok (.dat d) ρ1 := rfl
theorem od_glob {g r ρ} : odOf (.glob g) r ρ = r.bind fun d ρ1 => .ok (.dat d) ρ1 := rfl
theorem od_bin {o a b r ρ} : odOf (.bin o a b) r ρ = r.bind fun d ρ1 => .ok (.dat d) ρ1 := rfl
theorem od_neg {a r ρ} : odOf (.neg a) r ρ = r.bind fun d ρ1 => .ok (.dat d) ρ1 := rfl
theorem od_cmp {o a b r ρ} : odOf (.cmp o a b) r ρ = r.bind fun d ρ1 => .ok (.dat d) ρ1 := rfl
theorem od_chain {o o' a b c r ρ} : odOf (.chain o o' a b c) r ρ = r.bind fun d ρ1 => .ok (.dat d) ρ1 := rfl
theorem od_and {es r ρ} : odOf (.and es) r ρ = r.bind fun d ρ1 => .ok (.dat d) ρ1 := rfl
theorem od_or {es r ρ} : odOf (.or es) r ρ = r.bind fun d ρ1 => .ok (.dat d) ρ1 := rfl
theorem od_not {a r ρ} : odOf (.not a) r ρ = r.bind fun d ρ1 => .ok (.dat d) ρ1 := rfl
theorem od_ife {c a b r ρ} : odOf (.ife c a b) r ρ = r.bind fun d ρ1 => .ok (.dat d) ρ1 := rfl
theorem od_tup {es r ρ} : odOf (.tup es) r ρ = r.bind fun d ρ1 => .ok (.dat d) ρ1 := rfl
theorem od_lst {es r ρ} : odOf (.lst es) r ρ = r.bind fun d ρ1 => .ok (.dat d) ρ1 := rfl
theorem od_idx {a b r ρ} : odOf (.idx a b) r ρ = r.bind fun d ρ1 => .ok (.dat d) ρ1 := rfl
theorem od_sl {a lo hi r ρ} : odOf (.sl a lo hi) r ρ = r.bind fun d ρ1 => .ok (.dat d) ρ1 := rfl
theorem od_rev {a r ρ} : odOf (.rev a) r ρ = r.bind fun d ρ1 => .ok (.dat d) ρ1 := rfl
theorem od_call {f as r ρ} : odOf (.call f as) r ρ = r.bind fun d ρ1 => .ok (.dat d) ρ1 := rfl
theorem od_calln {f e r ρ} : odOf (.calln f e) r ρ = r.bind fun d ρ1 => .ok (.dat d) ρ1 := rfl
theorem od_cnt {b a e r ρ} : odOf (.cnt b a e) r ρ = r.bind fun d ρ1 => .ok (.dat d) ρ1 := rfl
theorem od_tupS {a e r ρ} : odOf (.tupS a e) r ρ = r.bind fun d ρ1 => .ok (.dat d) ρ1 := rfl
theorem od_join {f e r ρ} : odOf (.join f e) r ρ = r.bind fun d ρ1 => .ok (.dat d) ρ1 := rfl
theorem bin_str {x y : Str} : binF .add (.str x) (.str y) = if x.length + y.length ≤ big then some (.str (x ++ y)) else none := rfl
theorem od_callk {f kw ks r ρ} : odOf (.callk f kw ks) r ρ = r.bind fun d ρ1 => .ok (.dat d) ρ1 := rfl
theorem od_callv {i as r ρ} : odOf (.callv i as) r ρ = r.bind fun d ρ1 => .ok (.dat d) ρ1 := rfl
theorem od_bi {b es r ρ} : odOf (.bi b es) r ρ = r.bind fun d ρ1 => .ok (.dat d) ρ1 := rfl
theorem od_isi {a ts r ρ} : odOf (.isi a ts) r ρ = r.bind fun d ρ1 => .ok (.dat d) ρ1 := rfl
theorem od_trange {hi r ρ} : odOf (.trange hi) r ρ = r.bind fun d ρ1 => .ok (.dat d) ρ1 := rfl
theorem od_lrange {lo hi r ρ} : odOf (.lrange lo hi) r ρ = r.bind fun d ρ1 => .ok (.dat d) ρ1 := rfl
theorem od_mt {m i es r ρ} : odOf (.mt m i es) r ρ = r.bind fun d ρ1 => .ok (.dat d) ρ1 := rfl
theorem od_comp {elt tg it ifs own r ρ} : odOf (.comp elt tg it ifs own) r ρ = r.bind fun d ρ1 => .ok (.dat d) ρ1 := rfl
theorem od_comp2 {elt tg it tg1 it1 ifs own r ρ} : odOf (.comp2 elt tg it tg1 it1 ifs own) r ρ = r.bind fun d ρ1 => .ok (.dat d) ρ1 := rfl
theorem ix0 {n : Nat} : ixOf (n + 1) 0 = some 0 := by unfold ixOf; simp <;> omega
theorem ix1 {n : Nat} : ixOf (n + 2) 1 = some 1 := by unfold ixOf; simp <;> omega
theorem gcdPos {n u : Int} (h : 0 < u) : (0 : Int) < ((Nat.gcd n.natAbs u.natAbs : Nat) : Int) := by
  have : 0 < Nat.gcd n.natAbs u.natAbs := Nat.gcd_pos_of_pos_right _ (by omega)
  omega
theorem gcdLe {n u : Int} (h : 0 < u) : ((Nat.gcd n.natAbs u.natAbs : Nat) : Int) ≤ u := by
  have : Nat.gcd n.natAbs u.natAbs ≤ u.natAbs := Nat.le_of_dvd (by omega) (Nat.gcd_dvd_right _ _)
  omega
end Tk
namespace Tk
section
variable {C : Cl} {s : S} {ss : Ss} {ρ ρ' : Env} {d : D}
theorem ss_nx (h : denS C s ρ = .ok .nx ρ') : denSs C (.cons s ss) ρ = denSs C ss ρ' := by rw [denSs, h]; rfl
theorem ss_rt (h : denS C s ρ = .ok (.rt d) ρ') : denSs C (.cons s ss) ρ = .ok (.rt d) ρ' := by rw [denSs, h]; rfl
end
end Tk

set_option Elab.async false
set_option linter.all false
set_option maxRecDepth 100000
set_option maxHeartbeats 2000000
namespace Tk
open PySem
/-! Plain facts that the laws share. -/
theorem sm62 {a : Int} (h0 : 0 ≤ a) (h : a < 16777216) : small62 a = true := by
  unfold small62
  rw [Bool.and_eq_true, decide_eq_true_eq, decide_eq_true_eq, show (2 : Int) ^ 62 = 4611686018427387904 from by decide +kernel]
  omega
abbrev nD (ks : List Nat) : List D := ks.map fun k => D.int (k : Nat)
theorem rg0 {n : Nat} (h : n < 16777216) : rgF none (.int n) = some (nD (List.range n)) := by
  have hc : (small62 ((none : Option Int).getD 0) && small62 (n : Int) && decide (((n : Int) - (none : Option Int).getD 0).toNat ≤ big)) = true := by
    rw [show ((none : Option Int).getD 0) = 0 from rfl, sm62 (by omega) (by omega), sm62 (by omega) (by omega)]
    exact decide_eq_true (show ((n : Int) - 0).toNat ≤ 16777216 from by omega)
  simp only [rgF]
  rw [if_pos hc]
  unfold rangeD
  rw [show ((none : Option Int).getD 0) = 0 from rfl, show ((n : Int) - 0).toNat = n from by omega]
  refine congrArg some (List.map_congr_left fun k _ => congrArg D.int ?_)
  omega
theorem rg0i {n : Int} (h0 : 0 ≤ n) (h : n < 16777216) : rgF none (.int n) = some (nD (List.range n.toNat)) := by
  have := rg0 (n := n.toNat) (by omega)
  rwa [Int.toNat_of_nonneg h0] at this
theorem cut_from {α : Type} (xs : List α) (a : Nat) (h : a ≤ xs.length) : cut xs (some (a : Int)) none = xs.drop a := by
  unfold cut
  have e1 : sIx xs.length 0 (some (a : Int)) = a := by
    simp only [sIx]
    rw [if_neg (by omega)]
    omega
  have e2 : sIx xs.length xs.length none = xs.length := rfl
  rw [e1, e2, List.take_of_length_le (by rw [List.length_drop]; exact Nat.le_refl _)]
theorem cut_to {α : Type} (xs : List α) (a : Nat) (h : a ≤ xs.length) : cut xs none (some (a : Int)) = xs.take a := by
  unfold cut
  have e1 : sIx xs.length xs.length (some (a : Int)) = a := by
    simp only [sIx]
    rw [if_neg (by omega)]
    omega
  have e2 : sIx xs.length 0 none = 0 := rfl
  rw [e1, e2, List.drop_zero, Nat.sub_zero]
theorem cut_toI {α : Type} (xs : List α) (a : Int) (h0 : 0 ≤ a) : cut xs none (some a) = xs.take a.toNat := by
  unfold cut
  have e2 : sIx xs.length 0 none = 0 := rfl
  have e1 : sIx xs.length xs.length (some a) = min a.toNat xs.length := by
    simp only [sIx]
    rw [if_neg (by omega)]
  rw [e1, e2, List.drop_zero, Nat.sub_zero]
  by_cases c : a.toNat ≤ xs.length
  · rw [Nat.min_eq_left c]
  · rw [Nat.min_eq_right (by omega), List.take_length, List.take_of_length_le (by omega)]
theorem ixOf_nat {n k : Nat} (h : k < n) : ixOf n (k : Int) = some k := by
  unfold ixOf
  rw [if_pos (by omega), if_pos (by omega)]; simp
def fmNf (p : Nat → Bool) : D → Option D
  | .int x => if p x.toNat then some (.int x) else none
  | _ => none
theorem fmNf_nat {p : Nat → Bool} {k : Nat} : fmNf p (.int k) = if p k then some (.int k) else none := by simp only [fmNf, Int.toNat_natCast]
theorem fm_Nf {p : Nat → Bool} (ks : List Nat) : (nD ks).filterMap (fmNf p) = nD (ks.filter p) := by
  unfold nD
  induction ks with
  | nil => rfl
  | cons k ks ih =>
    rw [List.map_cons, List.filterMap_cons, List.filter_cons]
    by_cases h : p k = true
    · simp only [fmNf, Int.toNat_natCast, ih, h, if_true, List.map_cons]
    · simp only [fmNf, Int.toNat_natCast, ih, h, if_false, Bool.false_eq_true]
/-- each of the numbers from 0 made something -/
def fmN (g : Nat → D) : D → Option D
  | .int x => some (g x.toNat)
  | _ => none
theorem fmN_nat {g : Nat → D} {k : Nat} : fmN g (.int k) = some (g k) := by simp only [fmN, Int.toNat_natCast]
theorem fm_N {g : Nat → D} (ks : List Nat) : (nD ks).filterMap (fmN g) = ks.map g := by
  unfold nD
  induction ks with
  | nil => rfl
  | cons k ks ih => simp only [List.map_cons, List.filterMap_cons, fmN_nat, ih]
/-- all made something -/
theorem fm_all {α : Type} {e : α → D} {g : D → D} {f : α → D} (xs : List α) (h : ∀ x ∈ xs, g (e x) = f x) : (xs.map e).filterMap (fun d => some (g d)) = xs.map f := by
  induction xs with
  | nil => rfl
  | cons x xs ih =>
    simp only [List.map_cons, List.filterMap_cons, h x List.mem_cons_self]
    rw [ih fun y hy => h y (List.mem_cons_of_mem _ hy)]
theorem flats_ints : ∀ (n : Nat) (xs : List Int), D.flats n (xs.map .int) = true
  | _, [] => by simp [D.flats]
  | n, x :: xs => by
    simp only [List.map_cons, D.flats, flats_ints n xs, Bool.and_true]
    cases n <;> rfl
theorem beqs_int : ∀ (ys xs : List Int), D.beqs (ys.map .int) (xs.map .int) = decide (ys = xs)
  | [], [] => by simp [D.beqs]
  | [], x :: xs => by simp [D.beqs]
  | y :: ys, [] => by simp [D.beqs]
  | y :: ys, x :: xs => by
    simp only [List.map_cons, D.beqs, beqs_int ys xs, D.beq]
    by_cases h : y = x <;> by_cases g : ys = xs <;> simp [h, g]
theorem eq_tups (ys xs : List Int) : eqD (.tup (ys.map .int)) (.tup (xs.map .int)) = some (decide (ys = xs)) := by
  unfold eqD
  have h : ∀ zs : List Int, D.flat 60 (.tup (zs.map .int)) = true := fun zs => by simp only [D.flat]; exact flats_ints _ zs
  rw [h, h]
  simp only [Bool.and_self, if_true, D.beq, beqs_int]
theorem eq_lsts (ys xs : List Int) : eqD (.lst (ys.map .int)) (.lst (xs.map .int)) = some (decide (ys = xs)) := by
  unfold eqD
  have h : ∀ zs : List Int, D.flat 60 (.lst (zs.map .int)) = true := fun zs => by simp only [D.flat]; exact flats_ints _ zs
  rw [h, h]
  simp only [Bool.and_self, if_true, D.beq, beqs_int]
theorem eq_pair (a b c d : Int) : eqD (.tup [.int a, .int b]) (.tup [.int c, .int d]) = some (decide (a = c ∧ b = d)) := by
  have := eq_tups [a, b] [c, d]
  simp only [List.map_cons, List.map_nil] at this
  rw [this]
  simp
theorem eq_str (s : PySem.Str) : eqD (.str s) (.str s) = some true := by
  unfold eqD
  simp [D.flat, D.beq]
theorem blsOf_map {α : Type} (g : α → Bool) : ∀ xs : List α, blsOf (xs.map fun x => D.bl (g x)) = some (xs.map g)
  | [] => rfl
  | x :: xs => by simp [blsOf, blsOf_map g xs]
theorem intsOf_map {α : Type} (g : α → Int) : ∀ xs : List α, intsOf (xs.map fun x => D.int (g x)) = some (xs.map g)
  | [] => rfl
  | x :: xs => by simp [intsOf, intsOf_map g xs]
theorem intsOf_ints (xs : List Int) : intsOf (xs.map .int) = some xs := by
  have := intsOf_map (fun x : Int => x) xs
  simpa using this
theorem bls_true : ∀ {ys : List D}, (∀ y ∈ ys, y = .bl true) → ∃ bs, blsOf ys = some bs ∧ bs.all id = true
  | [], _ => ⟨[], rfl, rfl⟩
  | y :: ys, h => by
    obtain ⟨bs, e1, e2⟩ := bls_true fun z hz => h z (List.mem_cons_of_mem _ hz)
    have := h y List.mem_cons_self
    subst this
    exact ⟨true :: bs, by simp [blsOf, e1], by simp [e2]⟩
/-! ### texts of values -/
theorem bi_reprl {xs : List D} : biF .repr [.lst xs] = reprF (.lst xs) := rfl
theorem bi_reprt {xs : List D} : biF .repr [.tup xs] = reprF (.tup xs) := rfl
theorem repr_ok {d : D} (h1 : D.flat 60 d = true) (h2 : rsm d = true) (h3 : rwt d ≤ 2 ^ 20) : ∃ s, reprF d = some (.str s) := by
  unfold reprF
  rw [h1, h2, decide_eq_true h3]
  exact ⟨_, rfl⟩
theorem rsms_ints : ∀ (xs : List Int), (∀ x ∈ xs, x.natAbs < 10 ^ 12) → rsms (xs.map .int) = true
  | [], _ => by simp [rsms]
  | x :: xs, h => by
    simp only [List.map_cons, rsms, rsm, Bool.and_eq_true, decide_eq_true_eq]
    exact ⟨h x List.mem_cons_self, rsms_ints xs fun y hy => h y (List.mem_cons_of_mem _ hy)⟩
theorem rwts_ints : ∀ (xs : List Int), rwts (xs.map .int) = 41 * xs.length
  | [] => by simp [rwts]
  | x :: xs => by
    simp only [List.map_cons, rwts, rwt, rwts_ints xs, List.length_cons]
    omega
/-- the text of [a, a] for a tuple a of ints -/
theorem repr_pair (xs : List Int) (h : ∀ x ∈ xs, x.natAbs < 10 ^ 12) (hl : xs.length ≤ 10000) : ∃ s, reprF (.lst [.tup (xs.map .int), .tup (xs.map .int)]) = some (.str s) := by
  refine repr_ok ?_ ?_ ?_
  · simp only [D.flat, D.flats, flats_ints, Bool.and_self]
  · simp only [rsm, rsms, rsms_ints xs h, Bool.and_self]
  · simp only [rwt, rwts, rwts_ints]
    omega
/-! ### a loop over the numbers from 0 -/
theorem loopD_from {put : D → Env → Option Env} {body : Env → R Fl} (I : Nat → Env → Prop) : ∀ {n s : Nat} {ρ : Env}, I s ρ →
    (∀ i, s ≤ i → i < s + n → ∀ ρ, I i ρ → ∃ ρ1 ρ2, put (.int i) ρ = some ρ1 ∧ (body ρ1 = .ok .nx ρ2 ∨ body ρ1 = .ok .ct ρ2) ∧ I (i + 1) ρ2) → ∃ ρ', loopD put body (nD (List.range' s n)) ρ = .ok .nx ρ' ∧ I (s + n) ρ'
  | 0, s, ρ, h, _ => ⟨ρ, rfl, h⟩
  | n + 1, s, ρ, h, st => by
    obtain ⟨ρ1, ρ2, h1, h2, h3⟩ := st s (Nat.le_refl _) (by omega) ρ h
    obtain ⟨ρ', h4, h5⟩ := loopD_from I (n := n) (s := s + 1) h3 fun i a b => st i (by omega) (by omega)
    refine ⟨ρ', ?_, by rw [show s + (n + 1) = s + 1 + n by omega]; exact h5⟩
    rw [List.range'_succ]
    show loopD put body (.int (s : Nat) :: nD (List.range' (s + 1) n)) ρ = _
    rcases h2 with h2 | h2 <;> simp only [loopD, h1, h2, h4]
theorem loopD_range {put : D → Env → Option Env} {body : Env → R Fl} (I : Nat → Env → Prop) {n : Nat} {ρ : Env} (h : I 0 ρ)
    (st : ∀ i, i < n → ∀ ρ, I i ρ → ∃ ρ1 ρ2, put (.int i) ρ = some ρ1 ∧ (body ρ1 = .ok .nx ρ2 ∨ body ρ1 = .ok .ct ρ2) ∧ I (i + 1) ρ2) : ∃ ρ', loopD put body (nD (List.range n)) ρ = .ok .nx ρ' ∧ I n ρ' := by
  obtain ⟨ρ', h1, h2⟩ := loopD_from I (n := n) (s := 0) h fun i _ b => st i (by omega)
  rw [Nat.zero_add] at h2
  exact ⟨ρ', by rw [List.range_eq_range']; exact h1, h2⟩
/-! ### while b > 0: a, b = b, int(a) % b at two names -/
theorem comp2_one {C : Cl} {elt : E} {tg tg1 : Tg} {it it1 : It} {ifs : Eo} {own : List Nat} {ρ ρ1 ρ2 : Env} {d : D} {ds : List D} (f : D → Option D) (hi : denIt C it ρ = .ok ([d], []) ρ1) (hp : (own.all fun i => plainS (getS ρ1 i)) = true)
    (h1 : putT tg d (wipeS ρ1 own) = some ρ2) (hi1 : denIt C it1 ρ2 = .ok (ds, []) ρ2) (hl : ds.length ≤ 16777216)
    (hw : wipeS ρ2 (tgIx tg1) = wipeS ρ2 (tgIx tg1)) (hu : ∀ ρ', wipeS ρ' (tgIx tg1) = wipeS ρ2 (tgIx tg1) → back ρ1 ρ' own = ρ1)
    (h : ∀ d ∈ ds, ∃ ρ4, putT tg1 d (wipeS ρ2 (tgIx tg1)) = some ρ4 ∧ denIf C ifs ρ4 = .ok (f d).isSome ρ4 ∧ (∀ y, f d = some y → denE C elt ρ4 = .ok y ρ4) ∧ wipeS ρ4 (tgIx tg1) = wipeS ρ2 (tgIx tg1)) :
    denE C (.comp2 elt tg it tg1 it1 ifs own) ρ = .ok (.lst (ds.filterMap f)) ρ1 := by
  obtain ⟨ρ', g1, g2⟩ := compD_fm (put := putT tg1) (test := denIf C ifs) (elt := denE C elt) f (acc := []) (ρ := ρ2) rfl (by simpa [big] using hl) h
  have ne : noErr (.ok (ds, ([] : List Nat)) ρ2) = .ok (ds, []) ρ2 := rfl
  simp only [denE, hi, R.bind, hp, if_true, compD2, h1, hi1, ne, List.isEmpty_nil, g1, List.nil_append, hu ρ' g2, unlockAll, ofO]
end Tk

set_option Elab.async false
set_option linter.all false
set_option maxRecDepth 100000
set_option maxHeartbeats 2000000
/-! The interpreter stepped without looking ahead: what comes behind a step is a named function, so that it is not touched ere its value is there. -/
namespace Tk
open PySem
section
variable (C : Cl)
def kVar (i : Nat) (ρ : Env) : Slot → R D
  | .val d => .ok d ρ
  | .own d => .ok d (ρ.set i (.val d))
  | _ => .stuck
theorem e_var (i : Nat) (ρ : Env) : denE C (.var i) ρ = kVar i ρ (getS ρ i) := by
  rw [denE]; cases getS ρ i <;> rfl
theorem kVar_v {i : Nat} {ρ : Env} {d : D} : kVar i ρ (.val d) = .ok d ρ := rfl
theorem kVar_o {i : Nat} {ρ : Env} {d : D} : kVar i ρ (.own d) = .ok d (ρ.set i (.val d)) := rfl
theorem e_con (d : D) (ρ : Env) : denE C (.con d) ρ = .ok d ρ := by rw [denE]
theorem e_glob (g : Nat) (ρ : Env) : denE C (.glob g) ρ = ofO (C.glob g) ρ := by rw [denE]
/-- an operand -/
def kOd (ρ : Env) (i : Nat) : Option D → R Od
  | some _ => .ok (.slot i) ρ
  | none => .stuck
def kDat (d : D) (ρ : Env) : R Od := .ok (.dat d) ρ
/-- an expression as an operand -/
def odE : E → Env → R Od
  | .var i, ρ => kOd ρ i (seeD (getS ρ i))
  | e, ρ => (denE C e ρ).bind kDat
theorem odOf_odE (e : E) (ρ : Env) : odOf e (denE C e ρ) ρ = odE C e ρ := by
  cases e <;> try rfl
def rd2 {α : Type} (f : D → D → Option α) (a b : Option D) : Option α := a.bind fun x => b.bind fun y => f x y
theorem rd2_s {α : Type} {f : D → D → Option α} {x y : D} : rd2 f (some x) (some y) = f x y := rfl
def kBin2 (o : Op) (x y : Od) (ρ : Env) : R D := ofO (rd2 (binF o) (rd ρ x) (rd ρ y)) ρ
def kBin2' (o : Op) (x : Od) : Od → Env → R D := kBin2 o x
def kBin1 (o : Op) (b : E) (x : Od) (ρ : Env) : R D := (odE C b ρ).bind (kBin2' o x)
theorem e_bin (o : Op) (a b : E) (ρ : Env) : denE C (.bin o a b) ρ = (odE C a ρ).bind (kBin1 C o b) := by
  rw [denE]; simp only [odOf_odE]; rfl
def kNeg : D → Env → R D
  | .int i, ρ => .ok (.int (-i)) ρ
  | _, _ => .stuck
theorem e_neg (a : E) (ρ : Env) : denE C (.neg a) ρ = (denE C a ρ).bind kNeg := by
  rw [denE]; congr 1; funext d ρ1; cases d <;> rfl
def kCmp2 (o : Cm) (x y : Od) (ρ : Env) : R D := ofO ((rd2 (cmpF o) (rd ρ x) (rd ρ y)).map .bl) ρ
def kCmp1 (o : Cm) (b : E) (x : Od) (ρ : Env) : R D := (odE C b ρ).bind (kCmp2 o x)
theorem e_cmp (o : Cm) (a b : E) (ρ : Env) : denE C (.cmp o a b) ρ = (odE C a ρ).bind (kCmp1 C o b) := by
  rw [denE]; simp only [odOf_odE]
  congr 1; funext x ρ1
  unfold kCmp1
  congr 1; funext y ρ2
  unfold kCmp2 rd2
  cases rd ρ2 x <;> cases rd ρ2 y <;> rfl
def kCh4 (o' : Cm) (y z : Od) (ρ : Env) : R D := ofO ((rd2 (cmpF o') (rd ρ y) (rd ρ z)).map .bl) ρ
def kCh3 (o' : Cm) (c : E) (y : Od) (ρ : Env) : Option Bool → R D
  | some b => if b then (odE C c ρ).bind (kCh4 o' y) else .ok (.bl false) ρ
  | none => .stuck
def kCh2 (o o' : Cm) (c : E) (x y : Od) (ρ : Env) : R D := kCh3 C o' c y ρ (rd2 (cmpF o) (rd ρ x) (rd ρ y))
def kCh1 (o o' : Cm) (b c : E) (x : Od) (ρ : Env) : R D := (odE C b ρ).bind (kCh2 C o o' c x)
theorem e_chain (o o' : Cm) (a b c : E) (ρ : Env) : denE C (.chain o o' a b c) ρ = (odE C a ρ).bind (kCh1 C o o' b c) := by
  rw [denE]; simp only [odOf_odE]
  congr 1; funext x ρ1
  unfold kCh1
  congr 1; funext y ρ2
  unfold kCh2 rd2
  cases hx : rd ρ2 x <;> cases hy : rd ρ2 y <;> try rfl
  simp only [Option.bind_some]
  cases cmpF o _ _ with
  | none => rfl
  | some b =>
    cases b with
    | false => rfl
    | true =>
      simp only [kCh3, if_true]
      congr 1; funext z ρ3
      unfold kCh4 rd2
      cases rd ρ3 y <;> cases rd ρ3 z <;> rfl
def kAnd (e' : E) (es : Es) (b : Bool) (ρ : Env) : R D := if b then denAnd C (.cons e' es) ρ else .ok (.bl false) ρ
def kOr (e' : E) (es : Es) (b : Bool) (ρ : Env) : R D := if b then .ok (.bl true) ρ else denOr C (.cons e' es) ρ
theorem e_and (es : Es) (ρ : Env) : denE C (.and es) ρ = denAnd C es ρ := by rw [denE]
theorem e_or (es : Es) (ρ : Env) : denE C (.or es) ρ = denOr C es ρ := by rw [denE]
theorem a_1 (e : E) (ρ : Env) : denAnd C (.cons e .nil) ρ = denE C e ρ := by rw [denAnd]
theorem a_2 (e e' : E) (es : Es) (ρ : Env) : denAnd C (.cons e (.cons e' es)) ρ = (isB (denE C e ρ)).bind (kAnd C e' es) := by rw [denAnd]; rfl
theorem o_1 (e : E) (ρ : Env) : denOr C (.cons e .nil) ρ = denE C e ρ := by rw [denOr]
theorem o_2 (e e' : E) (es : Es) (ρ : Env) : denOr C (.cons e (.cons e' es)) ρ = (isB (denE C e ρ)).bind (kOr C e' es) := by rw [denOr]; rfl
def kNot (b : Bool) (ρ : Env) : R D := .ok (.bl (!b)) ρ
theorem e_not (a : E) (ρ : Env) : denE C (.not a) ρ = (isB (denE C a ρ)).bind kNot := by rw [denE]; rfl
def kIfe (a b : E) (x : Bool) (ρ : Env) : R D := if x then denE C a ρ else denE C b ρ
theorem e_ife (c a b : E) (ρ : Env) : denE C (.ife c a b) ρ = (isB (denE C c ρ)).bind (kIfe C a b) := by rw [denE]; rfl
def kTup (ds : List D) (ρ : Env) : R D := if ds.length ≤ big then .ok (.tup ds) ρ else .stuck
def kLst (ds : List D) (ρ : Env) : R D := if ds.length ≤ big then .ok (.lst ds) ρ else .stuck
theorem e_tup (es : Es) (ρ : Env) : denE C (.tup es) ρ = (denEs C es ρ).bind kTup := by rw [denE]; rfl
theorem e_lst (es : Es) (ρ : Env) : denE C (.lst es) ρ = (denEs C es ρ).bind kLst := by rw [denE]; rfl
def kCons (d : D) (ds : List D) (ρ : Env) : R (List D) := .ok (d :: ds) ρ
def kEs (es : Es) (d : D) (ρ : Env) : R (List D) := (denEs C es ρ).bind (kCons d)
theorem es_0 (ρ : Env) : denEs C .nil ρ = .ok [] ρ := by rw [denEs]
theorem es_1 (e : E) (es : Es) (ρ : Env) : denEs C (.cons e es) ρ = (denE C e ρ).bind (kEs C es) := by rw [denEs]; rfl
def kOcons (d : Od) (ds : List Od) (ρ : Env) : R (List Od) := .ok (d :: ds) ρ
def kOs (es : Es) (d : Od) (ρ : Env) : R (List Od) := (denOs C es ρ).bind (kOcons d)
theorem os_0 (ρ : Env) : denOs C .nil ρ = .ok [] ρ := by rw [denOs]
theorem os_1 (e : E) (es : Es) (ρ : Env) : denOs C (.cons e es) ρ = (odE C e ρ).bind (kOs C es) := by rw [denOs, odOf_odE]; rfl
def kIdx2 (x : Od) (y : D) (ρ : Env) : R D := ofO (rd2 ixF (rd ρ x) (some y)) ρ
def kIdx1 (b : E) (x : Od) (ρ : Env) : R D := (denE C b ρ).bind (kIdx2 x)
theorem e_idx (a b : E) (ρ : Env) : denE C (.idx a b) ρ = (odE C a ρ).bind (kIdx1 C b) := by
  rw [denE]; simp only [odOf_odE]; rfl
def rd1 {α : Type} (f : D → Option α) (a : Option D) : Option α := a.bind f
theorem rd1_s {α : Type} {f : D → Option α} {x : D} : rd1 f (some x) = f x := rfl
def slG (l h : Option Int) (d : D) : Option D := slF d l h
def kSl3 (x : Od) (l h : Option Int) (ρ : Env) : R D := ofO (rd1 (slG l h) (rd ρ x)) ρ
def kSl2 (hi : Eo) (x : Od) (l : Option Int) (ρ : Env) : R D := (denPart C hi ρ).bind (kSl3 x l)
def kSl1 (lo hi : Eo) (x : Od) (ρ : Env) : R D := (denPart C lo ρ).bind (kSl2 C hi x)
theorem e_sl (a : E) (lo hi : Eo) (ρ : Env) : denE C (.sl a lo hi) ρ = (odE C a ρ).bind (kSl1 C lo hi) := by
  rw [denE]; simp only [odOf_odE]; rfl
theorem p_0 (ρ : Env) : denPart C .none ρ = .ok none ρ := by rw [denPart]
theorem p_1 (e : E) (ρ : Env) : denPart C (.some e) ρ = partD (denE C e ρ) := by rw [denPart]
def kRev (x : Od) (ρ : Env) : R D := ofO (rd1 revF (rd ρ x)) ρ
theorem e_rev (a : E) (ρ : Env) : denE C (.rev a) ρ = (odE C a ρ).bind kRev := by
  rw [denE]; simp only [odOf_odE]; rfl
/-- what comes behind a call -/
def kTk (d : D) (ρ : Env) : Option Env → R D
  | some ρ' => .ok d ρ'
  | none => .stuck
def kRes (os : List Od) (ρ : Env) : CR → R D
  | .ok d out => kTk d ρ (take os out ρ)
  | .err c d => if noSlot os then .err c d ρ else .stuck
  | .stuck => .stuck
theorem callF_eq (f : Nat) (os : List Od) (sl : List Slot) (ρ : Env) : callF C f os sl ρ = if nodupB (slotsOf os) then kRes os ρ (C.call f sl) else .stuck := by
  unfold callF
  split
  · cases C.call f sl with
    | ok d out => simp only [kRes]; cases take os out ρ <;> rfl
    | err c d => rfl
    | stuck => rfl
  · rfl
def kCall2 (f : Nat) (os : List Od) (ρ : Env) : Option (List Slot) → R D
  | some sl => if nodupB (slotsOf os) then kRes os ρ (C.call f sl) else .stuck
  | none => .stuck
def kCall1 (f : Nat) (os : List Od) (ρ : Env) : R D := kCall2 C f os ρ (args ρ os)
theorem e_call (f : Nat) (as : As) (ρ : Env) : denE C (.call f as) ρ = (denAs C as ρ).bind (kCall1 C f) := by
  rw [denE]; congr 1; funext os ρ1
  unfold kCall1
  cases args ρ1 os with
  | none => rfl
  | some sl => exact callF_eq C f os sl ρ1
def kAs2 (o : Od) (os : List Od) (ρ : Env) : R (List Od) := .ok (o :: os) ρ
def kAs1 (as : As) (d : D) (ρ : Env) : R (List Od) := (denAs C as ρ).bind (kAs2 (.dat d))
def kAsR (as : As) (i : Nat) (ρ : Env) : Option D → R (List Od)
  | some _ => (denAs C as ρ).bind (kAs2 (.slot i))
  | none => .stuck
theorem as_0 (ρ : Env) : denAs C .nil ρ = .ok [] ρ := by rw [denAs]
theorem as_1 (e : E) (as : As) (ρ : Env) : denAs C (.val e as) ρ = (denE C e ρ).bind (kAs1 C as) := by rw [denAs]; rfl
theorem as_2 (i : Nat) (as : As) (ρ : Env) : denAs C (.ref i as) ρ = kAsR C as i ρ (seeD (getS ρ i)) := by
  rw [denAs]; cases seeD (getS ρ i) <;> rfl
def kKw2 (f : Nat) (ρ : Env) : Option (List D) → R D
  | some all => if nodupB (slotsOf (all.map .dat)) then kRes (all.map .dat) ρ (C.call f (all.map .val)) else .stuck
  | none => .stuck
def kKw1 (f : Nat) (ks : List Nat) (ds : List D) (ρ : Env) : R D := kKw2 C f ρ (reoK (C.np f) ks ds)
theorem e_callk (f : Nat) (kw : Es) (ks : List Nat) (ρ : Env) : denE C (.callk f kw ks) ρ = (denEs C kw ρ).bind (kKw1 C f ks) := by
  rw [denE]; congr 1; funext ds ρ1
  unfold kKw1
  cases reoK (C.np f) ks ds with
  | none => rfl
  | some all => exact callF_eq C f _ _ ρ1
def kCv (as : As) (ρ : Env) : Slot → R D
  | .val (.fn f) => if C.has f then (denAs C as ρ).bind (kCall1 C f) else .stuck
  | _ => .stuck
theorem e_callv (i : Nat) (as : As) (ρ : Env) : denE C (.callv i as) ρ = kCv C as ρ (getS ρ i) := by
  rw [denE]
  cases h : getS ρ i <;> try rfl
  rename_i d
  cases d <;> try rfl
  rename_i f
  simp only [kCv]
  split
  · congr 1; funext os ρ1
    unfold kCall1
    cases args ρ1 os with
    | none => rfl
    | some sl => exact callF_eq C f os sl ρ1
  · rfl
def kN2 (ρ : Env) : CR → R D
  | .ok d' _ => .ok d' ρ
  | .err c d' => .err c d' ρ
  | .stuck => .stuck
def kN1 (f : Nat) : D → Env → R D
  | .lst xs, ρ => kN2 ρ (C.call f [.own (.lst xs)])
  | _, _ => .stuck
theorem e_calln (f : Nat) (e : E) (ρ : Env) : denE C (.calln f e) ρ = (denE C e ρ).bind (kN1 C f) := by
  rw [denE]; congr 1; funext d ρ1
  cases d <;> rfl
def kJoin (s : Str) (d : D) (ρ : Env) : R D := ofO (joinF s d) ρ
theorem e_join (s : Str) (e : E) (ρ : Env) : denE C (.join s e) ρ = (denE C e ρ).bind (kJoin s) := by rw [denE]; rfl
def kCnt2 (b : Bool) (d : D) (y : D) (ρ : Env) : R D := ofO (cntF b d y) ρ
def kCnt (b : Bool) (x : E) (d : D) (ρ : Env) : R D := if isSq b d then (denE C x ρ).bind (kCnt2 b d) else .stuck
theorem e_cnt (b : Bool) (a x : E) (ρ : Env) : denE C (.cnt b a x) ρ = (denE C a ρ).bind (kCnt C b x) := by rw [denE]; rfl
def kSta2 (d : D) (y : D) (ρ : Env) : R D := ofO (starF d y) ρ
def kSta (x : E) (d : D) (ρ : Env) : R D := if isSq true d then (denE C x ρ).bind (kSta2 d) else .stuck
theorem e_tupS (a x : E) (ρ : Env) : denE C (.tupS a x) ρ = (denE C a ρ).bind (kSta C x) := by rw [denE]; rfl
def rdB {α : Type} (f : List D → Option α) (a : Option (List D)) : Option α := a.bind f
theorem rdB_s {α : Type} {f : List D → Option α} {x : List D} : rdB f (some x) = f x := rfl
def kBi (b : Bi) (os : List Od) (ρ : Env) : R D := ofO (rdB (biF b) (rds ρ os)) ρ
theorem e_bi (b : Bi) (es : Es) (ρ : Env) : denE C (.bi b es) ρ = (denOs C es ρ).bind (kBi b) := by rw [denE]; rfl
def isiF (ts : List Ty) (d : D) : Option D := if tyOk d then some (.bl (ts.any (isTy d))) else none
def kIsi (ts : List Ty) (x : Od) (ρ : Env) : R D := ofO (rd1 (isiF ts) (rd ρ x)) ρ
theorem e_isi (a : E) (ts : List Ty) (ρ : Env) : denE C (.isi a ts) ρ = (odE C a ρ).bind (kIsi ts) := by
  rw [denE, odOf_odE]; rfl
def kLr2 (l : Option Int) (h : D) (ρ : Env) : R D := ofO ((rgF l h).map .lst) ρ
def kLr1 (hi : E) (l : Option Int) (ρ : Env) : R D := (denE C hi ρ).bind (kLr2 l)
def kTrg (h : D) (ρ : Env) : R D := ofO ((rgF none h).map .tup) ρ
theorem e_trange (hi : E) (ρ : Env) : denE C (.trange hi) ρ = (denE C hi ρ).bind kTrg := by rw [denE]; rfl
theorem e_lrange (lo : Eo) (hi : E) (ρ : Env) : denE C (.lrange lo hi) ρ = (denPart C lo ρ).bind (kLr1 C hi) := by rw [denE]; rfl
def kMt3 (i : Nat) (ρ : Env) : Option (D × List D) → R D
  | some (d, ys) => .ok d (ρ.set i ((getS ρ i).with (.lst ys)))
  | none => .stuck
def kMt2 (m : Mt) (i : Nat) (ds : List D) (ρ : Env) : Option D → R D
  | some (.lst xs) => kMt3 i ρ (mtF m xs ds)
  | _ => .stuck
def kMt1 (m : Mt) (i : Nat) (ds : List D) (ρ : Env) : R D := kMt2 m i ds ρ (ownD (getS ρ i))
def kMt0 (m : Mt) (i : Nat) (es : Es) (ρ : Env) : Option D → R D
  | some _ => (denEs C es ρ).bind (kMt1 m i)
  | none => .stuck
theorem e_mt (m : Mt) (i : Nat) (es : Es) (ρ : Env) : denE C (.mt m i es) ρ = kMt0 C m i es ρ (ownD (getS ρ i)) := by
  rw [denE]
  cases ownD (getS ρ i) with
  | none => rfl
  | some d0 => simp only [kMt0]; congr 1
/-! ### statements -/
def kSeq (ss : Ss) : Fl → Env → R Fl
  | .nx, ρ => denSs C ss ρ
  | f, ρ => .ok f ρ
theorem ss_0 (ρ : Env) : denSs C .nil ρ = .ok .nx ρ := by rw [denSs]
theorem ss_1 (s : S) (ss : Ss) (ρ : Env) : denSs C (.cons s ss) ρ = (denS C s ρ).bind (kSeq C ss) := by
  rw [denSs]; congr 1; funext f ρ1; cases f <;> rfl
theorem kSeq_nx {ss : Ss} {ρ : Env} : kSeq C ss .nx ρ = denSs C ss ρ := rfl
theorem kSeq_rt {ss : Ss} {ρ : Env} {d : D} : kSeq C ss (.rt d) ρ = .ok (.rt d) ρ := rfl
theorem kSeq_bk {ss : Ss} {ρ : Env} : kSeq C ss .bk ρ = .ok .bk ρ := rfl
theorem kSeq_ct {ss : Ss} {ρ : Env} : kSeq C ss .ct ρ = .ok .ct ρ := rfl
def kNx (_ : Env) : Option Env → R Fl
  | some ρ' => .ok .nx ρ'
  | none => .stuck
def kAsg (tg : Tg) (d : D) (ρ : Env) : R Fl := kNx ρ (putT tg d ρ)
theorem st_asg (tg : Tg) (e : E) (ρ : Env) : denS C (.asg tg e) ρ = (denE C e ρ).bind (kAsg tg) := by
  rw [denS]; congr 1; funext d ρ1; unfold kAsg; cases putT tg d ρ1 <;> rfl
def kAsgO (i : Nat) : D → Env → R Fl
  | .lst xs, ρ => kNx ρ (putS ρ i (.own (.lst xs)))
  | _, _ => .stuck
theorem st_asgO (i : Nat) (e : E) (ρ : Env) : denS C (.asgO i e) ρ = (denE C e ρ).bind (kAsgO i) := by
  rw [denS]; congr 1; funext d ρ1
  cases d <;> try rfl
  simp only [kAsgO]
  cases putS ρ1 i _ <;> rfl
def kPar (is : List Nat) (fl : List Bool) (ds : List D) (ρ : Env) : R Fl := kNx ρ (putMix is fl ds ρ)
theorem st_par (is : List Nat) (fl : List Bool) (es : Es) (ρ : Env) : denS C (.par is fl es) ρ = (denPs C fl es ρ).bind (kPar is fl) := by
  rw [denS]; congr 1; funext ds ρ1; unfold kPar; cases putMix is fl ds ρ1 <;> rfl
def kPs2 (d : D) (ds : List D) (ρ : Env) : R (List D) := .ok (d :: ds) ρ
def kPs1 (b : Bool) (bs : List Bool) (es : Es) (d : D) (ρ : Env) : R (List D) := if b && !isLst d then .stuck else (denPs C bs es ρ).bind (kPs2 d)
theorem ps_0 (ρ : Env) : denPs C [] .nil ρ = .ok [] ρ := by rw [denPs]
theorem ps_1 (b : Bool) (bs : List Bool) (e : E) (es : Es) (ρ : Env) : denPs C (b :: bs) (.cons e es) ρ = (denE C e ρ).bind (kPs1 C b bs es) := by rw [denPs]; rfl
def kSet3 (i : Nat) (d : D) (ρ : Env) (xs : List D) : Option Nat → R Fl
  | some j => .ok .nx (ρ.set i ((getS ρ i).with (.lst (xs.set j d))))
  | none => .stuck
def kSet2 (i : Nat) (d : D) (k : D) (ρ : Env) : Option D → R Fl
  | some (.lst xs) => match k with
    | .int k => kSet3 i d ρ xs (ixOf xs.length k)
    | _ => .stuck
  | _ => .stuck
def kSet1 (i : Nat) (d : D) (k : D) (ρ : Env) : R Fl := kSet2 i d k ρ (ownD (getS ρ i))
def kSet0' (i : Nat) (ix : E) (d : D) (ρ : Env) : Option D → R Fl
  | some _ => (denE C ix ρ).bind (kSet1 i d)
  | none => .stuck
def kSet0 (i : Nat) (ix : E) (d : D) (ρ : Env) : R Fl := kSet0' C i ix d ρ (ownD (getS ρ i))
theorem st_setI (i : Nat) (ix e : E) (ρ : Env) : denS C (.setI i ix e) ρ = (denE C e ρ).bind (kSet0 C i ix) := by
  rw [denS]; congr 1; funext d ρ1
  unfold kSet0
  cases ownD (getS ρ1 i) with
  | none => rfl
  | some d0 =>
    simp only [kSet0']
    congr 1; funext k ρ2
    unfold kSet1
    cases ownD (getS ρ2 i) with
    | none => rfl
    | some d1 =>
      cases d1 <;> try rfl
      cases k <;> rfl
theorem kSet2_l {i : Nat} {d : D} {k : Int} {ρ : Env} {xs : List D} : kSet2 i d (.int k) ρ (some (.lst xs)) = kSet3 i d ρ xs (ixOf xs.length k) := rfl
def kExpr (_ : D) (ρ : Env) : R Fl := .ok .nx ρ
theorem st_expr (e : E) (ρ : Env) : denS C (.expr e) ρ = (denE C e ρ).bind kExpr := by rw [denS]; rfl
def kRet (d : D) (ρ : Env) : R Fl := .ok (.rt d) ρ
theorem st_ret (e : E) (ρ : Env) : denS C (.ret e) ρ = (denE C e ρ).bind kRet := by rw [denS]; rfl
theorem st_retN (ρ : Env) : denS C .retN ρ = .ok (.rt .non) ρ := by rw [denS]
def kIf (a b : Ss) (x : Bool) (ρ : Env) : R Fl := if x then denSs C a ρ else denSs C b ρ
theorem st_ife (c : E) (a b : Ss) (ρ : Env) : denS C (.ife c a b) ρ = (isB (denE C c ρ)).bind (kIf C a b) := by rw [denS]; rfl
theorem st_brk (ρ : Env) : denS C .brk ρ = .ok .bk ρ := by rw [denS]
theorem st_cont (ρ : Env) : denS C .cont ρ = .ok .ct ρ := by rw [denS]
theorem st_pass (ρ : Env) : denS C .pass ρ = .ok .nx ρ := by rw [denS]
/-- a for loop over items -/
def forD (tg : Tg) (body : Ss) (ds : List D) (ρ : Env) : R Fl := loopD (putT tg) (denSs C body) ds ρ
def kUn (f : Fl) (_ : Env) : Option Env → R Fl
  | some ρ => .ok f ρ
  | none => .stuck
def kFor2 (ls : List Nat) : R Fl → R Fl
  | .ok f ρ => kUn f ρ (unlockAll ρ ls)
  | .err c d ρ => if ls.isEmpty then .err c d ρ else .stuck
  | .stuck => .stuck
def kFor (tg : Tg) (body : Ss) (x : List D × List Nat) (ρ : Env) : R Fl := kFor2 x.2 (forD C tg body x.1 ρ)
theorem st_for (tg : Tg) (it : It) (body : Ss) (ρ : Env) : denS C (.for_ tg it body) ρ = (denIt C it ρ).bind (kFor C tg body) := by
  rw [denS]; congr 1; funext x ρ1
  unfold kFor forD
  cases loopD (putT tg) (denSs C body) x.1 ρ1 with
  | ok f ρ2 => simp only [kFor2]; cases unlockAll ρ2 x.2 <;> rfl
  | err c d ρ2 => rfl
  | stuck => rfl
theorem kFor_eq {tg : Tg} {body : Ss} {ds : List D} {ls : List Nat} {ρ : Env} : kFor C tg body (ds, ls) ρ = kFor2 ls (forD C tg body ds ρ) := rfl
theorem kFor2_ok {f : Fl} {ρ : Env} : kFor2 [] (.ok f ρ) = .ok f ρ := rfl
theorem kFor2_ls {i : Nat} {ls : List Nat} {f : Fl} {ρ : Env} : kFor2 (i :: ls) (.ok f ρ) = kUn f ρ (unlockAll ρ (i :: ls)) := rfl
/-- a while loop -/
def whD (c : E) (body : Ss) (n : Nat) (ρ : Env) : R Fl := whileD (fun ρ => isB (denE C c ρ)) (denSs C body) n ρ
theorem st_while (c : E) (body : Ss) (ρ : Env) : denS C (.while_ c body) ρ = whD C c body C.wf ρ := by rw [denS]; rfl
/-! ### what is walked -/
def kItL (ls : List Nat) (ρ : Env) : Option (List D) → R (List D × List Nat)
  | some ds => .ok (ds, ls) ρ
  | none => .stuck
def kItS2 (ls : List Nat) : Option (List D × Env) → R (List D × List Nat)
  | some ([d], ρ) => kItL ls ρ (itD d)
  | _ => .stuck
def kItS (x : Od) (ρ : Env) : R (List D × List Nat) := kItS2 (held ρ [x]) (lockAll [x] ρ)
theorem it_seq (e : E) (ρ : Env) : denIt C (.seq e) ρ = (odE C e ρ).bind kItS := by
  rw [denIt, odOf_odE]; congr 1; funext x ρ1
  unfold kItS
  cases lockAll [x] ρ1 with
  | none => rfl
  | some z =>
    obtain ⟨ds, ρ2⟩ := z
    match ds with
    | [] => rfl
    | [d] => simp only [kItS2]; cases itD d <;> rfl
    | _ :: _ :: _ => rfl
theorem kItS2_s {ls : List Nat} {d : D} {ρ : Env} : kItS2 ls (some ([d], ρ)) = kItL ls ρ (itD d) := rfl
def kItR2 (l : Option Int) (h : D) (ρ : Env) : R (List D × List Nat) := kItL [] ρ (rgF l h)
def kItR (hi : E) (l : Option Int) (ρ : Env) : R (List D × List Nat) := (denE C hi ρ).bind (kItR2 l)
theorem it_rng (lo : Eo) (hi : E) (ρ : Env) : denIt C (.rng lo hi) ρ = (denPart C lo ρ).bind (kItR C hi) := by
  rw [denIt]; congr 1; funext l ρ1
  unfold kItR
  congr 1; funext h ρ2
  unfold kItR2
  cases rgF l h <;> rfl
def kItE2 (ρ : Env) : Option (List D) → R (List D × List Nat)
  | some ds => .ok (enumD ds, []) ρ
  | none => .stuck
def kItE (d : D) (ρ : Env) : R (List D × List Nat) := kItE2 ρ (itD d)
theorem it_enum (e : E) (ρ : Env) : denIt C (.enum e) ρ = (denE C e ρ).bind kItE := by
  rw [denIt]; congr 1; funext d ρ1
  unfold kItE
  cases itD d <;> rfl
def kItZ2 (x y : D) (ρ : Env) : R (List D × List Nat) := kItL [] ρ (zipF x y)
def kItZ (b : E) (x : D) (ρ : Env) : R (List D × List Nat) := (denE C b ρ).bind (kItZ2 x)
theorem it_zip (a b : E) (ρ : Env) : denIt C (.zip a b) ρ = (denE C a ρ).bind (kItZ C b) := by
  rw [denIt]; congr 1; funext x ρ1
  unfold kItZ
  congr 1; funext y ρ2
  unfold kItZ2
  cases zipF x y <;> rfl
theorem if_0 (ρ : Env) : denIf C .none ρ = .ok true ρ := by rw [denIf]
theorem if_1 (e : E) (ρ : Env) : denIf C (.some e) ρ = isB (denE C e ρ) := by rw [denIf]
end
/-! ### comprehensions item by item -/
open Classical in
/-- one item of a comprehension that leaves the names as they were -/
noncomputable def cV2 (own : List Nat) (w : Env) : R D → Option (Option D)
  | .ok y ρ => if wipeS ρ own = w then some (some y) else none
  | _ => none
open Classical in
noncomputable def cV1 (own : List Nat) (elt : Env → R D) (w : Env) : R Bool → Option (Option D)
  | .ok b ρ => if b then cV2 own w (elt ρ) else if wipeS ρ own = w then some none else none
  | _ => none
noncomputable def cV0 (own : List Nat) (test : Env → R Bool) (elt : Env → R D) (w : Env) : Option Env → Option (Option D)
  | some ρ => cV1 own elt w (test ρ)
  | none => none
noncomputable def cV (put : D → Env → Option Env) (own : List Nat) (test : Env → R Bool) (elt : Env → R D) (w : Env) (d : D) : Option (Option D) := cV0 own test elt w (put d w)
def catO : List (Option (Option D)) → Option (List D)
  | [] => some []
  | some (some y) :: os => (catO os).map (y :: ·)
  | some none :: os => catO os
  | none :: _ => none
theorem compD_cV {put : D → Env → Option Env} {own : List Nat} {test : Env → R Bool} {elt : Env → R D} {w : Env} : ∀ {ds acc : List D} {ρ : Env} {ys : List D}, wipeS ρ own = w → acc.length + ds.length ≤ big → catO (ds.map (cV put own test elt w)) = some ys →
    ∃ ρ', compD put own test elt acc ds ρ = .ok (acc ++ ys) ρ' ∧ wipeS ρ' own = w
  | [], acc, ρ, ys, h, _, e => by
    simp only [List.map_nil, catO, Option.some.injEq] at e
    subst e
    exact ⟨ρ, by simp [compD], h⟩
  | d :: ds, acc, ρ, ys, h, hl, e => by
    simp only [List.length_cons] at hl
    rw [List.map_cons] at e
    simp only [compD, h]
    unfold cV at e
    cases h1 : put d w with
    | none => rw [h1] at e; simp [cV0, catO] at e
    | some ρ1 =>
      rw [h1] at e
      simp only [cV0] at e ⊢
      cases h2 : test ρ1 with
      | err c d ρ => rw [h2] at e; simp [cV1, catO] at e
      | stuck => rw [h2] at e; simp [cV1, catO] at e
      | ok b ρ2 =>
        rw [h2] at e
        simp only [noErr, R.bind]
        cases b with
        | false =>
          simp only [cV1, Bool.false_eq_true, if_false] at e ⊢
          split at e
          case isTrue hw =>
            exact compD_cV (ds := ds) hw (by omega) e
          case isFalse => simp [catO] at e
        | true =>
          simp only [cV1, if_true] at e ⊢
          cases h3 : elt ρ2 with
          | err c d ρ => rw [h3] at e; simp [cV2, catO] at e
          | stuck => rw [h3] at e; simp [cV2, catO] at e
          | ok y ρ3 =>
            rw [h3] at e
            simp only [cV2] at e ⊢
            split at e
            case isFalse => simp [catO] at e
            case isTrue hw =>
              simp only [catO, Option.map_eq_some_iff] at e
              obtain ⟨zs, e1, rfl⟩ := e
              have hlt : acc.length < big := by omega
              rw [if_pos hlt]
              obtain ⟨ρ', g1, g2⟩ := compD_cV (ds := ds) (acc := acc ++ [y]) hw (by simp; omega) e1
              refine ⟨ρ', ?_, g2⟩
              rw [g1, List.append_assoc]
              rfl
section
variable (C : Cl)
/-- the comprehension's list, the names behind it -/
def kC3 (ys : List D) : Option Env → R D
  | some ρ => .ok (.lst ys) ρ
  | none => .stuck
/-- what a comprehension comes to where its items are not told -/
def oldC (elt : E) (tg : Tg) (ifs : Eo) (own : List Nat) (x : List D × List Nat) (ρ1 : Env) : R D :=
      if own.all fun i => plainS (getS ρ1 i) then
        (compD (putT tg) own (denIf C ifs) (denE C elt) [] x.1 ρ1).bind fun ds ρ2 => (ofO (unlockAll (back ρ1 ρ2 own) x.2) ρ2).bind fun ρ3 _ => .ok (.lst ds) ρ3
      else .stuck
noncomputable def kC2 (elt : E) (tg : Tg) (ifs : Eo) (own : List Nat) (x : List D × List Nat) (ρ : Env) : Option (List D) → R D
  | some ys => if x.1.length ≤ big then kC3 ys (unlockAll ρ x.2) else oldC C elt tg ifs own x ρ
  | none => oldC C elt tg ifs own x ρ
noncomputable def kC1 (elt : E) (tg : Tg) (ifs : Eo) (own : List Nat) (x : List D × List Nat) (ρ : Env) : R D :=
  if own.all fun i => plainS (getS ρ i) then kC2 C elt tg ifs own x ρ (catO (x.1.map (cV (putT tg) own (denIf C ifs) (denE C elt) (wipeS ρ own)))) else .stuck
theorem e_comp (elt : E) (tg : Tg) (it : It) (ifs : Eo) (own : List Nat) (ρ : Env) : denE C (.comp elt tg it ifs own) ρ = (denIt C it ρ).bind (kC1 C elt tg ifs own) := by
  have e : denE C (.comp elt tg it ifs own) ρ = (denIt C it ρ).bind (oldC C elt tg ifs own) := by rw [denE]; rfl
  rw [e]
  congr 1; funext x ρ1
  unfold kC1 
  split
  next hp =>
    cases h : catO (x.1.map (cV (putT tg) own (denIf C ifs) (denE C elt) (wipeS ρ1 own))) with
    | none => rfl
    | some ys =>
      simp only [kC2]
      split
      next hl =>
        obtain ⟨ρ', g1, g2⟩ := compD_cV (acc := []) (ρ := ρ1) rfl (by simpa using hl) h
        unfold oldC
        rw [if_pos hp, g1]
        simp only [R.bind, List.nil_append, back_same g2]
        cases unlockAll ρ1 x.2 <;> rfl
      next => rfl
  next hp =>
    unfold oldC
    rw [if_neg hp]
end
end Tk

set_option Elab.async false
set_option linter.all false
set_option maxRecDepth 100000
set_option maxHeartbeats 2000000
/-! Typed values, and the rules by which steps are taken. -/
namespace Tk
open PySem
/-- a tuple, a list of typed things -/
def tT {α : Type} (f : α → D) (xs : List α) : D := .tup (xs.map f)
def tL {α : Type} (f : α → D) (xs : List α) : D := .lst (xs.map f)
section
variable {α β : Type} {f : α → D} {xs ys : List α}
theorem lst_map : D.lst (xs.map f) = tL f xs := rfl
theorem tup_map : D.tup (xs.map f) = tT f xs := rfl
theorem itD_T : itD (tT f xs) = some (xs.map f) := rfl
theorem itD_L : itD (tL f xs) = some (xs.map f) := rfl
theorem itD_t {ds : List D} : itD (.tup ds) = some ds := rfl
theorem itD_l {ds : List D} : itD (.lst ds) = some ds := rfl
theorem len_T : biF .len [tT f xs] = some (.int xs.length) := by unfold tT; rw [bi_lent, List.length_map]
theorem len_L : biF .len [tL f xs] = some (.int xs.length) := by unfold tL; rw [bi_lenl, List.length_map]
theorem tup_L : biF .tuple [tL f xs] = some (tT f xs) := rfl
theorem tup_T : biF .tuple [tT f xs] = some (tT f xs) := rfl
theorem tup_l {ds : List D} : biF .tuple [.lst ds] = some (.tup ds) := rfl
theorem tup_t {ds : List D} : biF .tuple [.tup ds] = some (.tup ds) := rfl
theorem lst_T : biF .list [tT f xs] = some (tL f xs) := rfl
theorem lst_L : biF .list [tL f xs] = some (tL f xs) := rfl
theorem sum_L {f : α → Int} : biF .sum [tL (fun x => .int (f x)) xs] = some (.int (xs.map f).sum) := by
  unfold tL; rw [bi_suml, intsOf_map]; rfl
theorem sum_Li {xs : List Int} : biF .sum [tL .int xs] = some (.int xs.sum) := by
  unfold tL; rw [bi_suml, intsOf_ints]; rfl
theorem sum_T {f : α → Int} : biF .sum [tT (fun x => .int (f x)) xs] = some (.int (xs.map f).sum) := by
  unfold tT; rw [bi_sumt, intsOf_map]; rfl
theorem sum_Ti {xs : List Int} : biF .sum [tT .int xs] = some (.int xs.sum) := by
  unfold tT; rw [bi_sumt, intsOf_ints]; rfl
theorem all_L {f : α → Bool} : biF .all [tL (fun x => .bl (f x)) xs] = some (.bl (xs.all f)) := by
  unfold tL; rw [bi_all, blsOf_map]; simp [List.all_map]
theorem bi_any {xs : List D} : biF .any [.lst xs] = (blsOf xs).map fun bs => .bl (bs.any id) := rfl
theorem any_L {f : α → Bool} : biF .any [tL (fun x => .bl (f x)) xs] = some (.bl (xs.any f)) := by
  unfold tL; rw [bi_any, blsOf_map]; simp [List.any_map]
theorem all_l {xs : List D} : biF .all [.lst xs] = (blsOf xs).map fun bs => .bl (bs.all id) := rfl
theorem isT_T : isTy (tT f xs) .tuple = true := rfl
theorem isT_L : isTy (tL f xs) .list = true := rfl
theorem isi_T {ts : List Ty} : isiF ts (tT f xs) = some (.bl (ts.contains .tuple)) := by
  have h : (ts.any (isTy (tT f xs))) = ts.contains .tuple := by
    induction ts with
    | nil => rfl
    | cons t ts ih => rw [List.any_cons, List.contains_cons, ih]; cases t <;> rfl
  show (if tyOk (tT f xs) then some (D.bl (ts.any (isTy (tT f xs)))) else none) = _
  rw [h]; rfl
theorem isi_L {ts : List Ty} : isiF ts (tL f xs) = some (.bl (ts.contains .list)) := by
  have h : (ts.any (isTy (tL f xs))) = ts.contains .list := by
    induction ts with
    | nil => rfl
    | cons t ts ih => rw [List.any_cons, List.contains_cons, ih]; cases t <;> rfl
  show (if tyOk (tL f xs) then some (D.bl (ts.any (isTy (tL f xs)))) else none) = _
  rw [h]; rfl
theorem isi_int {ts : List Ty} {i : Int} : isiF ts (.int i) = some (.bl (ts.contains .int)) := by
  have h : (ts.any (isTy (.int i))) = ts.contains .int := by
    induction ts with
    | nil => rfl
    | cons t ts ih => rw [List.any_cons, List.contains_cons, ih]; cases t <;> rfl
  show (if tyOk (.int i) then some (D.bl (ts.any (isTy (.int i)))) else none) = _
  rw [h]; rfl
theorem isi_str {ts : List Ty} {i : Str} : isiF ts (.str i) = some (.bl (ts.contains .str)) := by
  have h : (ts.any (isTy (.str i))) = ts.contains .str := by
    induction ts with
    | nil => rfl
    | cons t ts ih => rw [List.any_cons, List.contains_cons, ih]; cases t <;> rfl
  show (if tyOk (.str i) then some (D.bl (ts.any (isTy (.str i)))) else none) = _
  rw [h]; rfl
theorem isi_tup {ts : List Ty} {ds : List D} : isiF ts (.tup ds) = some (.bl (ts.contains .tuple)) := by
  have := isi_T (f := fun d => d) (xs := ds) (ts := ts)
  unfold tT at this
  rwa [show ds.map (fun d : D => d) = ds from List.map_id' ds] at this
theorem isi_lst {ts : List Ty} {ds : List D} : isiF ts (.lst ds) = some (.bl (ts.contains .list)) := by
  have := isi_L (f := fun d => d) (xs := ds) (ts := ts)
  unfold tL at this
  rwa [show ds.map (fun d : D => d) = ds from List.map_id' ds] at this
theorem isi_bl {ts : List Ty} {b : Bool} : isiF ts (.bl b) = some (.bl (ts.any fun t => t == .int || t == .bool)) := by
  have h : (ts.any (isTy (.bl b))) = ts.any fun t => t == .int || t == .bool := by
    induction ts with
    | nil => rfl
    | cons t ts ih => rw [List.any_cons, List.any_cons, ih]; cases t <;> rfl
  show (if tyOk (.bl b) then some (D.bl (ts.any (isTy (.bl b)))) else none) = _
  rw [h]; rfl
theorem isi_non {ts : List Ty} : isiF ts .non = some (.bl false) := by
  have h : (ts.any (isTy .non)) = false := by
    induction ts with
    | nil => rfl
    | cons t ts ih => rw [List.any_cons, ih]; cases t <;> rfl
  show (if tyOk .non then some (D.bl (ts.any (isTy .non))) else none) = _
  rw [h]; rfl
/-! ### places -/
theorem ix_T {i : Int} : ixF (tT f xs) (.int i) = (ixOf xs.length i).bind fun j => (xs[j]?).map f := by
  unfold tT; rw [ix_t, List.length_map]; simp only [List.getElem?_map]
theorem ix_L {i : Int} : ixF (tL f xs) (.int i) = (ixOf xs.length i).bind fun j => (xs[j]?).map f := by
  unfold tL; rw [ix_l, List.length_map]; simp only [List.getElem?_map]
theorem ixT_nat {i : Nat} (h : i < xs.length) : ixF (tT f xs) (.int i) = some (f xs[i]) := by
  rw [ix_T, ixOf_nat h, Option.bind_some, List.getElem?_eq_getElem h]; rfl
theorem ixL_nat {i : Nat} (h : i < xs.length) : ixF (tL f xs) (.int i) = some (f xs[i]) := by
  rw [ix_L, ixOf_nat h, Option.bind_some, List.getElem?_eq_getElem h]; rfl
theorem ixT_int {i : Int} (h0 : 0 ≤ i) (h : i.toNat < xs.length) : ixF (tT f xs) (.int i) = some (f xs[i.toNat]) := by
  have := ixT_nat (f := f) h
  rwa [Int.toNat_of_nonneg h0] at this
theorem ixL_int {i : Int} (h0 : 0 ≤ i) (h : i.toNat < xs.length) : ixF (tL f xs) (.int i) = some (f xs[i.toNat]) := by
  have := ixL_nat (f := f) h
  rwa [Int.toNat_of_nonneg h0] at this
theorem sl_T {l h : Option Int} : slG l h (tT f xs) = some (tT f (cut xs l h)) := by
  unfold slG tT
  simp only [slF, cut, List.length_map, List.map_drop, List.map_take]
theorem sl_L {l h : Option Int} : slG l h (tL f xs) = some (tL f (cut xs l h)) := by
  unfold slG tL
  simp only [slF, cut, List.length_map, List.map_drop, List.map_take]
theorem rev_T : revF (tT f xs) = some (tT f xs.reverse) := by unfold tT; simp only [revF, List.map_reverse]
theorem rev_L : revF (tL f xs) = some (tL f xs.reverse) := by unfold tL; simp only [revF, List.map_reverse]
theorem cut_le {l : Option Int} {h : Option Int} : (cut xs l h).length ≤ xs.length := by
  unfold cut; rw [List.length_take, List.length_drop]; omega
/-! ### sums of sequences -/
theorem add_L (h : xs.length + ys.length ≤ 16777216) : binF .add (tL f xs) (tL f ys) = some (tL f (xs ++ ys)) := by
  unfold tL; rw [bin_lst, List.length_map, List.length_map, if_pos (by rw [bigE]; exact h), List.map_append]
theorem add_T (h : xs.length + ys.length ≤ 16777216) : binF .add (tT f xs) (tT f ys) = some (tT f (xs ++ ys)) := by
  unfold tT; rw [bin_tup, List.length_map, List.length_map, if_pos (by rw [bigE]; exact h), List.map_append]
theorem add_L1 {y : α} (h : xs.length + 1 ≤ 16777216) : binF .add (tL f xs) (.lst [f y]) = some (tL f (xs ++ [y])) := add_L (ys := [y]) h
theorem add_T1 {y : α} (h : xs.length + 1 ≤ 16777216) : binF .add (tT f xs) (.tup [f y]) = some (tT f (xs ++ [y])) := add_T (ys := [y]) h
theorem app_L {y : α} (h : xs.length < 16777216) : mtF .append (xs.map f) [f y] = some (.non, (xs ++ [y]).map f) := by
  rw [mt_app, List.length_map, if_pos (by rw [bigE]; exact h), List.map_append]; rfl
theorem app_nil {y : D} : mtF .append [] [y] = some (.non, [y]) := rfl
/-- appended to a list that a name holds alone -/
theorem kMt2_L {i : Nat} {y : α} {ρ : Env} (h : xs.length < 16777216) : kMt2 .append i [f y] ρ (some (tL f xs)) = .ok .non (ρ.set i ((getS ρ i).with (tL f (xs ++ [y])))) := by
  unfold tL; rw [kMt2, app_L h]; rfl
theorem kMt2_n {i : Nat} {y : D} {ρ : Env} : kMt2 .append i [y] ρ (some (.lst [])) = .ok .non (ρ.set i ((getS ρ i).with (.lst [y]))) := rfl
theorem kSet2_L {i : Nat} {y : α} {k : Nat} {ρ : Env} (h : k < xs.length) : kSet2 i (f y) (.int k) ρ (some (tL f xs)) = .ok .nx (ρ.set i ((getS ρ i).with (tL f (xs.set k y)))) := by
  unfold tL; rw [kSet2_l, List.length_map, ixOf_nat h, kSet3, List.map_set]
theorem kAsgO_L {i : Nat} {ρ : Env} : kAsgO i (tL f xs) ρ = kNx ρ (putS ρ i (.own (tL f xs))) := rfl
theorem kAsgO_l {i : Nat} {ρ : Env} {ds : List D} : kAsgO i (.lst ds) ρ = kNx ρ (putS ρ i (.own (.lst ds))) := rfl
theorem isLst_L : isLst (tL f xs) = true := rfl
theorem putT_T {is : List Nat} {ρ : Env} : putT (.tup is) (tT f xs) ρ = putAll ρ is (xs.map f) := rfl
/-! ### ranges, enumerations, pairs -/
theorem finRange_val (n : Nat) : (List.finRange n).map (fun i => i.val) = List.range n := by
  refine List.ext_getElem (by simp) fun i h1 h2 => by simp
theorem rgF_fin {n : Nat} (h : n < 16777216) : rgF none (.int n) = some ((List.finRange n).map fun i => .int (i.val : Int)) := by
  rw [rg0 h, ← finRange_val, nD, List.map_map]; rfl
theorem rgF_nat {n : Nat} (h : n < 16777216) : rgF none (.int n) = some ((List.range n).map fun i : Nat => .int (i : Int)) := rg0 h
theorem rgF_int {n : Int} (h0 : 0 ≤ n) (h : n < 16777216) : rgF none (.int n) = some ((List.range n.toNat).map fun i : Nat => .int (i : Int)) := rg0i h0 h
theorem rgF_2 {a b : Int} (h1 : 0 ≤ a) (h2 : a < 16777216) (h3 : 0 ≤ b) (h4 : b < 16777216) : rgF (some a) (.int b) = some ((List.range (b - a).toNat).map fun i : Nat => .int (a + i)) := by
  have hc : (small62 ((some a).getD 0) && small62 b && decide ((b - (some a).getD 0).toNat ≤ big)) = true := by
    rw [show ((some a).getD 0) = a from rfl, sm62 h1 h2, sm62 h3 h4]
    exact decide_eq_true (show (b - a).toNat ≤ 16777216 from by omega)
  simp only [rgF]
  rw [if_pos hc]
  rfl
theorem enumD_map {α : Type} {f : α → D} {xs : List α} : enumD (xs.map f) = (xs.zipIdx).map fun x => .tup [.int (x.2 : Int), f x.1] := by
  unfold enumD
  rw [List.mapIdx_eq_zipIdx_map]
  refine List.ext_getElem (by simp) fun i h1 h2 => by simp
theorem zipF_TT {α β : Type} {f : α → D} {g : β → D} {xs : List α} {ys : List β} : zipF (tT f xs) (tT g ys) = some ((xs.zip ys).map fun x => .tup [f x.1, g x.2]) := by
  show some (zipD (xs.map f) (ys.map g)) = _
  unfold zipD
  rw [List.zipWith_map, List.zip_eq_zipWith, List.map_zipWith]
theorem zipF_LL {α β : Type} {f : α → D} {g : β → D} {xs : List α} {ys : List β} : zipF (tL f xs) (tL g ys) = some ((xs.zip ys).map fun x => .tup [f x.1, g x.2]) := by
  show some (zipD (xs.map f) (ys.map g)) = _
  unfold zipD
  rw [List.zipWith_map, List.zip_eq_zipWith, List.map_zipWith]
theorem lrange_nat {n : Nat} (h : n < 16777216) : (rgF none (.int n)).map D.lst = some (tL (fun i : Nat => .int (i : Int)) (List.range n)) := by rw [rgF_nat h]; rfl
end
/-! ### branches -/
section
variable {c : Prop} [Decidable c]
theorem bind_ite {α β : Type} {a b : R α} {f : α → Env → R β} : (if c then a else b).bind f = if c then a.bind f else b.bind f := by split <;> rfl
theorem isB_ite {a b : R D} : isB (if c then a else b) = if c then isB a else isB b := by split <;> rfl
theorem partD_ite {a b : R D} : partD (if c then a else b) = if c then partD a else partD b := by split <;> rfl
theorem finF_ite {a b : R Fl} {n : Nat} {sl : List Slot} : finF n sl (if c then a else b) = if c then finF n sl a else finF n sl b := by split <;> rfl
theorem ok_ite {α : Type} {a b : α} {ρ : Env} : (if c then R.ok a ρ else R.ok b ρ) = R.ok (if c then a else b) ρ := by split <;> rfl
theorem cr_ite {a b : D} {o : List Slot} : (if c then CR.ok a o else CR.ok b o) = CR.ok (if c then a else b) o := by split <;> rfl
theorem rt_ite {a b : D} : (if c then Fl.rt a else Fl.rt b) = Fl.rt (if c then a else b) := by split <;> rfl
theorem dint_ite {a b : Int} : (if c then D.int a else D.int b) = D.int (if c then a else b) := by split <;> rfl
theorem dbl_ite {a b : Bool} : (if c then D.bl a else D.bl b) = D.bl (if c then a else b) := by split <;> rfl
theorem dtT_ite {α : Type} {f : α → D} {a b : List α} : (if c then tT f a else tT f b) = tT f (if c then a else b) := by split <;> rfl
theorem dtL_ite {α : Type} {f : α → D} {a b : List α} : (if c then tL f a else tL f b) = tL f (if c then a else b) := by split <;> rfl
theorem some_ite {α : Type} {a b : α} : (if c then some a else some b) = some (if c then a else b) := by split <;> rfl
theorem and_ite {b : Bool} : (if c then b else false) = (decide c && b) := by by_cases h : c <;> simp [h]
theorem or_ite {b : Bool} : (if c then true else b) = (decide c || b) := by by_cases h : c <;> simp [h]
theorem nand_ite {b : Bool} : (if c then false else b) = (!decide c && b) := by by_cases h : c <;> simp [h]
theorem kSeq_ite {C : Cl} {ss : Ss} {a b : Fl} {ρ : Env} : kSeq C ss (if c then a else b) ρ = if c then kSeq C ss a ρ else kSeq C ss b ρ := by split <;> rfl
theorem cV1_ite {own : List Nat} {elt : Env → R D} {w : Env} {a b : R Bool} : cV1 own elt w (if c then a else b) = if c then cV1 own elt w a else cV1 own elt w b := by split <;> rfl
theorem cV2_ite {own : List Nat} {w : Env} {a b : R D} : cV2 own w (if c then a else b) = if c then cV2 own w a else cV2 own w b := by split <;> rfl
theorem t_ite {α : Type} {a b : α} (h : c) : (if c then a else b) = a := if_pos h
theorem f_ite {α : Type} {a b : α} (h : ¬ c) : (if c then a else b) = b := if_neg h
theorem dec_t (h : c) : decide c = true := decide_eq_true h
theorem dec_f (h : ¬ c) : decide c = false := decide_eq_false h
theorem same_ite {α : Type} {a : α} : (if c then a else a) = a := by split <;> rfl
theorem not_ite {α : Type} {a b : α} : (if ¬ c then a else b) = if c then b else a := by by_cases h : c <;> simp [h]
end
section
variable {C : Cl} {ρ ρ' : Env} {d : D} {i : Nat}
theorem kOd_s : kOd ρ i (some d) = .ok (.slot i) ρ := rfl
theorem kNeg_i {j : Int} : kNeg (.int j) ρ = .ok (.int (-j)) ρ := rfl
theorem kTk_s : kTk d ρ (some ρ') = .ok d ρ' := rfl
theorem kRes_ok {os : List Od} {out : List Slot} : kRes os ρ (.ok d out) = kTk d ρ (take os out ρ) := rfl
theorem kRes_err {os : List Od} {c : Nat} : kRes os ρ (.err c d) = if noSlot os then .err c d ρ else .stuck := rfl
theorem kCall2_s {f : Nat} {os : List Od} {sl : List Slot} : kCall2 C f os ρ (some sl) = if nodupB (slotsOf os) = true then kRes os ρ (C.call f sl) else .stuck := rfl
theorem kAsR_s {as : As} : kAsR C as i ρ (some d) = (denAs C as ρ).bind (kAs2 (.slot i)) := rfl
theorem kKw2_s {f : Nat} {all : List D} : kKw2 C f ρ (some all) = if nodupB (slotsOf (all.map .dat)) = true then kRes (all.map .dat) ρ (C.call f (all.map .val)) else .stuck := rfl
theorem kCv_f {as : As} {f : Nat} : kCv C as ρ (.val (.fn f)) = if C.has f = true then (denAs C as ρ).bind (kCall1 C f) else .stuck := rfl
theorem kN2_ok {out : List Slot} : kN2 ρ (.ok d out) = .ok d ρ := rfl
theorem kN1_l {f : Nat} {xs : List D} : kN1 C f (.lst xs) ρ = kN2 ρ (C.call f [.own (.lst xs)]) := rfl
theorem kN1_L {f : Nat} {α : Type} {g : α → D} {xs : List α} : kN1 C f (tL g xs) ρ = kN2 ρ (C.call f [.own (tL g xs)]) := rfl
theorem kMt3_s {ys : List D} : kMt3 i ρ (some (d, ys)) = .ok d (ρ.set i ((getS ρ i).with (.lst ys))) := rfl
theorem kMt2_s {m : Mt} {ds xs : List D} : kMt2 m i ds ρ (some (.lst xs)) = kMt3 i ρ (mtF m xs ds) := rfl
theorem kMt0_s {m : Mt} {es : Es} : kMt0 C m i es ρ (some d) = (denEs C es ρ).bind (kMt1 m i) := rfl
theorem kNx_s : kNx ρ (some ρ') = .ok .nx ρ' := rfl
theorem kSet3_s {xs : List D} {j : Nat} : kSet3 i d ρ xs (some j) = .ok .nx (ρ.set i ((getS ρ i).with (.lst (xs.set j d)))) := rfl
theorem kSet0'_s {ix : E} {e : D} : kSet0' C i ix d ρ (some e) = (denE C ix ρ).bind (kSet1 i d) := rfl
theorem kUn_s {f : Fl} : kUn f ρ (some ρ') = .ok f ρ' := rfl
theorem kItL_s {ls : List Nat} {ds : List D} : kItL ls ρ (some ds) = .ok (ds, ls) ρ := rfl
theorem kItE2_s {ds : List D} : kItE2 ρ (some ds) = .ok (enumD ds, []) ρ := rfl
theorem cV0_s {own : List Nat} {test : Env → R Bool} {elt : Env → R D} {w : Env} : cV0 own test elt w (some ρ) = cV1 own elt w (test ρ) := rfl
theorem kC2_s {elt : E} {tg : Tg} {ifs : Eo} {own : List Nat} {x : List D × List Nat} {ys : List D} : kC2 C elt tg ifs own x ρ (some ys) = if x.1.length ≤ big then kC3 ys (unlockAll ρ x.2) else oldC C elt tg ifs own x ρ := rfl
theorem kC3_s {ys : List D} : kC3 ys (some ρ) = .ok (.lst ys) ρ := rfl
theorem lock_nil : lockAll [] ρ = some ([], ρ) := rfl
theorem lock_dat {os : List Od} : lockAll (.dat d :: os) ρ = (lockAll os ρ).map fun x => (d :: x.1, x.2) := rfl
def kLk (os : List Od) (i : Nat) (ρ : Env) : Option (D × Slot) → Option (List D × Env)
  | some (d, s) => (lockAll os (ρ.set i s)).map fun x => (d :: x.1, x.2)
  | none => none
theorem lock_slot {os : List Od} : lockAll (.slot i :: os) ρ = kLk os i ρ (lockS (getS ρ i)) := by
  rw [lockAll]; cases lockS (getS ρ i) with
  | none => rfl
  | some z => rfl
theorem kLk_s {os : List Od} {s : Slot} : kLk os i ρ (some (d, s)) = (lockAll os (ρ.set i s)).map fun x => (d :: x.1, x.2) := rfl
theorem lockS_v : lockS (.val d) = some (d, .val d) := rfl
theorem lockS_o : lockS (.own d) = some (d, .lock false d) := rfl
theorem lockS_r : lockS (.ref d) = some (d, .lock true d) := rfl
theorem lockS_l {b : Bool} : lockS (.lock b d) = some (d, .lock b d) := rfl
theorem held_nil : held ρ [] = [] := rfl
theorem held_dat {os : List Od} : held ρ (.dat d :: os) = held ρ os := rfl
def kHe (os : List Od) (i : Nat) (ρ : Env) : Slot → List Nat
  | .own _ => i :: held ρ os
  | .ref _ => i :: held ρ os
  | _ => held ρ os
theorem held_slot {os : List Od} : held ρ (.slot i :: os) = kHe os i ρ (getS ρ i) := by
  rw [held]; cases getS ρ i <;> rfl
theorem kHe_v {os : List Od} : kHe os i ρ (.val d) = held ρ os := rfl
theorem kHe_o {os : List Od} : kHe os i ρ (.own d) = i :: held ρ os := rfl
theorem kHe_r {os : List Od} : kHe os i ρ (.ref d) = i :: held ρ os := rfl
theorem kHe_l {os : List Od} {b : Bool} : kHe os i ρ (.lock b d) = held ρ os := rfl
theorem un_nil : unlockAll ρ [] = some ρ := rfl
def kUl (is : List Nat) (i : Nat) (ρ : Env) : Slot → Option Env
  | .lock r d => unlockAll (ρ.set i (if r then .ref d else .own d)) is
  | _ => none
theorem un_cons {is : List Nat} : unlockAll ρ (i :: is) = kUl is i ρ (getS ρ i) := by
  rw [unlockAll]; cases getS ρ i <;> rfl
theorem kUl_o {is : List Nat} : kUl is i ρ (.lock false d) = unlockAll (ρ.set i (.own d)) is := rfl
theorem kUl_r {is : List Nat} : kUl is i ρ (.lock true d) = unlockAll (ρ.set i (.ref d)) is := rfl
theorem pl_n : plainS .none = true := rfl
theorem pl_v : plainS (.val d) = true := rfl
theorem tk_nil {ss : List Slot} : Tk.take [] ss ρ = some ρ := by cases ss <;> rfl
theorem tk_dat {os : List Od} {s : Slot} {ss : List Slot} : Tk.take (.dat d :: os) (s :: ss) ρ = Tk.take os ss ρ := rfl
theorem tk_slot {os : List Od} {e : D} {ss : List Slot} : Tk.take (.slot i :: os) (.ref e :: ss) ρ = Tk.take os ss (ρ.set i ((getS ρ i).with e)) := rfl
theorem rk_nil : refsKept [] [] = true := rfl
theorem rk_val {o : Slot} {ss os : List Slot} : refsKept (.val d :: ss) (o :: os) = refsKept ss os := rfl
theorem rk_own {o : Slot} {ss os : List Slot} : refsKept (.own d :: ss) (o :: os) = refsKept ss os := rfl
theorem rk_ref {e : D} {ss os : List Slot} : refsKept (.ref d :: ss) (.ref e :: os) = refsKept ss os := rfl
end
theorem kIf_eq {C : Cl} {a b : Ss} {x : Bool} {ρ : Env} : kIf C a b x ρ = if x = true then denSs C a ρ else denSs C b ρ := rfl
theorem kIfe_eq {C : Cl} {a b : E} {x : Bool} {ρ : Env} : kIfe C a b x ρ = if x = true then denE C a ρ else denE C b ρ := rfl
theorem kAnd_eq {C : Cl} {e' : E} {es : Es} {b : Bool} {ρ : Env} : kAnd C e' es b ρ = if b = true then denAnd C (.cons e' es) ρ else .ok (.bl false) ρ := rfl
theorem kOr_eq {C : Cl} {e' : E} {es : Es} {b : Bool} {ρ : Env} : kOr C e' es b ρ = if b = true then .ok (.bl true) ρ else denOr C (.cons e' es) ρ := rfl
theorem kCh3_eq {C : Cl} {o' : Cm} {c : E} {y : Od} {ρ : Env} {b : Bool} : kCh3 C o' c y ρ (some b) = if b = true then (odE C c ρ).bind (kCh4 o' y) else .ok (.bl false) ρ := rfl
open Classical in
theorem cV1_eq {own : List Nat} {elt : Env → R D} {w : Env} {b : Bool} {ρ : Env} : cV1 own elt w (.ok b ρ) = if b = true then cV2 own w (elt ρ) else if wipeS ρ own = w then some none else none := by
  unfold cV1; rfl
open Classical in
theorem cV2_eq {own : List Nat} {w : Env} {y : D} {ρ : Env} : cV2 own w (.ok y ρ) = if wipeS ρ own = w then some (some y) else none := by
  unfold cV2; rfl
/-! ### a comprehension's items -/
section
variable {α : Type} {xs : List α} {f : α → D}
theorem cat_map {g : D → Option (Option D)} : catO ((xs.map f).map g) = catO (xs.map fun x => g (f x)) := by rw [List.map_map]; rfl
theorem cat_some : ∀ {xs : List α} {h : α → Option D}, catO (xs.map fun x => some (h x)) = some (xs.filterMap h)
  | [], _ => rfl
  | x :: xs, h => by
    rw [List.map_cons, List.filterMap_cons]
    cases e : h x with
    | none => rw [catO]; exact cat_some
    | some y => rw [catO, cat_some]; rfl
theorem cat_nil : catO [] = some [] := rfl
theorem fm_some {g : α → D} : xs.filterMap (fun x => some (g x)) = xs.map g := by
  induction xs with
  | nil => rfl
  | cons x xs ih => rw [List.filterMap_cons, List.map_cons, ih]
theorem fm_ite {p : α → Prop} [DecidablePred p] {g : α → D} : xs.filterMap (fun x => if p x then some (g x) else none) = (xs.filter fun x => decide (p x)).map g := by
  induction xs with
  | nil => rfl
  | cons x xs ih =>
    rw [List.filterMap_cons, List.filter_cons]
    by_cases h : p x
    · simp only [h, if_true, decide_true, List.map_cons, ih]
    · simp only [h, if_false, decide_false, Bool.false_eq_true, ih]
theorem fm_nite {p : α → Prop} [DecidablePred p] {g : α → D} : xs.filterMap (fun x => if p x then none else some (g x)) = (xs.filter fun x => !decide (p x)).map g := by
  induction xs with
  | nil => rfl
  | cons x xs ih =>
    rw [List.filterMap_cons, List.filter_cons]
    by_cases h : p x
    · simp only [h, if_true, decide_true, Bool.not_true, Bool.false_eq_true, if_false, ih]
    · simp only [h, if_false, decide_false, Bool.not_false, if_true, List.map_cons, ih]
theorem cat_congr {g : α → Option (Option D)} {h : α → Option D} (e : ∀ x ∈ xs, g x = some (h x)) : catO (xs.map g) = some (xs.filterMap h) := by
  rw [show xs.map g = xs.map fun x => some (h x) from List.map_congr_left e, cat_some]
end
/-! ### loops -/
section
variable {C : Cl} {tg : Tg} {body : Ss}
def kGo (body : Ss) : Option Env → R Fl
  | some ρ => denSs C body ρ
  | none => .stuck
theorem kGo_s {ρ : Env} : kGo (C := C) body (some ρ) = denSs C body ρ := rfl
/-- a turn of a loop goes on, with what P says -/
def OkI (P : Env → Prop) (r : R Fl) : Prop := ∃ ρ, (r = .ok .nx ρ ∨ r = .ok .ct ρ) ∧ P ρ
theorem okI_nx {P : Env → Prop} {ρ : Env} : OkI P (.ok .nx ρ) = P ρ := propext ⟨fun ⟨_, h, p⟩ => by rcases h with h | h <;> cases h; exact p, fun p => ⟨ρ, .inl rfl, p⟩⟩
theorem okI_ct {P : Env → Prop} {ρ : Env} : OkI P (.ok .ct ρ) = P ρ := propext ⟨fun ⟨_, h, p⟩ => by rcases h with h | h <;> cases h; exact p, fun p => ⟨ρ, .inr rfl, p⟩⟩
theorem okI_ite {P : Env → Prop} {c : Prop} [Decidable c] {a b : R Fl} : OkI P (if c then a else b) = if c then OkI P a else OkI P b := by split <;> rfl
theorem for_inv {α σ : Type} {f : α → D} {xs : List α} (I : σ → Env → Prop) (step : σ → α → σ) {s : σ} {ρ : Env} (h0 : I s ρ)
    (h : ∀ x ∈ xs, ∀ s ρ, I s ρ → OkI (I (step s x)) (kGo (C := C) body (putT tg (f x) ρ))) : ∃ ρ', forD C tg body (xs.map f) ρ = .ok .nx ρ' ∧ I (xs.foldl step s) ρ' := by
  unfold forD
  induction xs generalizing s ρ with
  | nil => exact ⟨ρ, rfl, h0⟩
  | cons x xs ih =>
    obtain ⟨ρ2, h2, h3⟩ := h x List.mem_cons_self s ρ h0
    obtain ⟨ρ', h4, h5⟩ := ih h3 fun y hy => h y (List.mem_cons_of_mem _ hy)
    refine ⟨ρ', ?_, h5⟩
    cases h1 : putT tg (f x) ρ with
    | none => rw [h1] at h2; rcases h2 with h2 | h2 <;> cases h2
    | some ρ1 =>
      rw [h1] at h2
      simp only [kGo] at h2
      rcases h2 with h2 | h2 <;> simp only [List.map_cons, loopD, h1, h2, h4]
/-- a loop with an exit: goes on as long as stop tells none -/
theorem for_exit {α σ : Type} {f : α → D} {xs : List α} (I : σ → Env → Prop) (step : σ → α → σ) (stop : σ → α → Option D) {s : σ} {ρ : Env} (h0 : I s ρ)
    (h : ∀ x ∈ xs, ∀ s ρ, I s ρ → ∃ ρ1 ρ2, putT tg (f x) ρ = some ρ1 ∧ match stop s x with
      | none => (denSs C body ρ1 = .ok .nx ρ2 ∨ denSs C body ρ1 = .ok .ct ρ2) ∧ I (step s x) ρ2
      | some d => denSs C body ρ1 = .ok (.rt d) ρ2 ∧ I s ρ2) : 
    ∃ ρ' s', I s' ρ' ∧ ((forD C tg body (xs.map f) ρ = .ok .nx ρ' ∧ s' = xs.foldl step s ∧ ∀ (i : Nat) (hi : i < xs.length), stop ((xs.take i).foldl step s) xs[i] = none) ∨
      ∃ (d : D) (i : Nat) (hi : i < xs.length), forD C tg body (xs.map f) ρ = .ok (.rt d) ρ' ∧ stop ((xs.take i).foldl step s) xs[i] = some d ∧ ∀ (j : Nat) (hj : j < i), stop ((xs.take j).foldl step s) (xs[j]'(by omega)) = none) := by
  unfold forD
  induction xs generalizing s ρ with
  | nil => exact ⟨ρ, s, h0, .inl ⟨rfl, rfl, fun i hi => absurd hi (Nat.not_lt_zero _)⟩⟩
  | cons x xs ih =>
    obtain ⟨ρ1, ρ2, h1, h2⟩ := h x List.mem_cons_self s ρ h0
    cases hs : stop s x with
    | some d =>
      rw [hs] at h2
      exact ⟨ρ2, s, h2.2, .inr ⟨d, 0, by simp, by simp only [List.map_cons, loopD, h1, h2.1], by simpa using hs, fun j hj => absurd hj (Nat.not_lt_zero _)⟩⟩
    | none =>
      rw [hs] at h2
      obtain ⟨ρ', s', i', h4⟩ := ih h2.2 fun y hy => h y (List.mem_cons_of_mem _ hy)
      refine ⟨ρ', s', i', ?_⟩
      have e : ∀ r, loopD (putT tg) (denSs C body) (xs.map f) ρ2 = r → loopD (putT tg) (denSs C body) ((x :: xs).map f) ρ = r := fun r e => by
        rcases h2.1 with h2 | h2 <;> simp only [List.map_cons, loopD, h1, h2, e]
      rcases h4 with ⟨h5, h6, h7⟩ | ⟨d, i, hi, h5, h6, h7⟩
      · refine .inl ⟨e _ h5, h6, fun i hi => ?_⟩
        cases i with
        | zero => simpa using hs
        | succ i => simpa using h7 i (by simpa using hi)
      · refine .inr ⟨d, i + 1, by simpa using hi, e _ h5, by simpa using h6, fun j hj => ?_⟩
        cases j with
        | zero => simpa using hs
        | succ j => simpa using h7 j (by omega)
end
end Tk
namespace Tk
theorem ixOf_i {n : Nat} {i : Int} (h0 : 0 ≤ i) (h : i < n) : ixOf n i = some i.toNat := by
  unfold ixOf; rw [if_pos h0, if_pos h]
theorem ixOf_neg {n : Nat} {i : Int} (h0 : i < 0) (h : -(n : Int) ≤ i) : ixOf n i = some (i + n).toNat := by
  unfold ixOf; rw [if_neg (by omega), if_pos h]
end Tk
namespace Tk
theorem toNat_lit {n : Nat} : Int.toNat (no_index (OfNat.ofNat n : Int)) = OfNat.ofNat n := rfl
end Tk
namespace Tk
section
variable {a b : Int} {m n : Nat}
theorem ilt_t (h : a < b) : (a < b) = True := eq_true h
theorem ilt_f (h : ¬ a < b) : (a < b) = False := eq_false h
theorem ile_t (h : a ≤ b) : (a ≤ b) = True := eq_true h
theorem ile_f (h : ¬ a ≤ b) : (a ≤ b) = False := eq_false h
theorem ieq_t (h : a = b) : (a = b) = True := eq_true h
theorem ieq_f (h : ¬ a = b) : (a = b) = False := eq_false h
theorem nlt_t (h : m < n) : (m < n) = True := eq_true h
theorem nlt_f (h : ¬ m < n) : (m < n) = False := eq_false h
theorem nle_t (h : m ≤ n) : (m ≤ n) = True := eq_true h
theorem nle_f (h : ¬ m ≤ n) : (m ≤ n) = False := eq_false h
theorem neq_t (h : m = n) : (m = n) = True := eq_true h
theorem neq_f (h : ¬ m = n) : (m = n) = False := eq_false h
theorem eq_intD : eqD (.int a) (.int b) = some (decide (a = b)) := by rw [eq_int]; rfl
theorem ty_beq (s t : Ty) : (s == t) = decide (s = t) := rfl
end
end Tk
namespace Tk
section
variable {a b c d e f : D} {l : List D}
theorem ixt0 : ixF (.tup (a :: l)) (.int 0) = some a := by rw [ix_t, ixOf_i (by omega) (by simp only [List.length_cons]; omega)]; rfl
theorem ixt1 : ixF (.tup (a :: b :: l)) (.int 1) = some b := by rw [ix_t, ixOf_i (by omega) (by simp only [List.length_cons]; omega)]; rfl
theorem ixt2 : ixF (.tup (a :: b :: c :: l)) (.int 2) = some c := by rw [ix_t, ixOf_i (by omega) (by simp only [List.length_cons]; omega)]; rfl
theorem ixt3 : ixF (.tup (a :: b :: c :: d :: l)) (.int 3) = some d := by rw [ix_t, ixOf_i (by omega) (by simp only [List.length_cons]; omega)]; rfl
theorem ixt4 : ixF (.tup (a :: b :: c :: d :: e :: l)) (.int 4) = some e := by rw [ix_t, ixOf_i (by omega) (by simp only [List.length_cons]; omega)]; rfl
theorem ixl0 : ixF (.lst (a :: l)) (.int 0) = some a := by rw [ix_l, ixOf_i (by omega) (by simp only [List.length_cons]; omega)]; rfl
theorem ixl1 : ixF (.lst (a :: b :: l)) (.int 1) = some b := by rw [ix_l, ixOf_i (by omega) (by simp only [List.length_cons]; omega)]; rfl
theorem ixl2 : ixF (.lst (a :: b :: c :: l)) (.int 2) = some c := by rw [ix_l, ixOf_i (by omega) (by simp only [List.length_cons]; omega)]; rfl
theorem ixl3 : ixF (.lst (a :: b :: c :: d :: l)) (.int 3) = some d := by rw [ix_l, ixOf_i (by omega) (by simp only [List.length_cons]; omega)]; rfl
end
end Tk

set_option Elab.async false
set_option linter.all false
set_option maxRecDepth 100000
set_option maxHeartbeats 2000000
/-! Fractions as rational numbers. -/
namespace Tk
open PySem
def eQ (q : Rat) : D := .tup [.int q.num, .int q.den]
theorem itD_Q {q : Rat} : itD (eQ q) = some [.int q.num, .int q.den] := rfl
theorem len_Q {q : Rat} : biF .len [eQ q] = some (.int 2) := rfl
theorem isi_Q {ts : List Ty} {q : Rat} : isiF ts (eQ q) = some (.bl (ts.contains .tuple)) := isi_tup
theorem ixQ_0 {q : Rat} : ixF (eQ q) (.int 0) = some (.int q.num) := rfl
theorem ixQ_1 {q : Rat} : ixF (eQ q) (.int 1) = some (.int q.den) := rfl
theorem putT_Q {is : List Nat} {q : Rat} {ρ : Env} : putT (.tup is) (eQ q) ρ = putAll ρ is [.int q.num, .int q.den] := rfl
theorem eq_Q {a b : Rat} : eqD (eQ a) (eQ b) = some (decide (a = b)) := by
  unfold eQ
  rw [eq_pair]
  congr 1
  refine decide_eq_decide.mpr ⟨fun h => Rat.ext h.1 (by have := h.2; omega), fun h => by rw [h]; exact ⟨rfl, rfl⟩⟩
/-- n // g, u // g by the greatest common divisor -/
theorem fr_eq (n u : Int) (h : 0 < u) : D.tup [.int (n / ((Nat.gcd n.natAbs u.natAbs : Nat) : Int)), .int (u / ((Nat.gcd n.natAbs u.natAbs : Nat) : Int))] = eQ (mkRat n u.toNat) := by
  have e : u.natAbs = u.toNat := by omega
  have z : ¬ u.toNat = 0 := by omega
  unfold eQ
  rw [Rat.num_mkRat, Rat.den_mkRat, if_neg z, if_neg z, e, Nat.gcd_comm]
  congr 4
  conv => lhs; arg 1; rw [show u = (u.toNat : Int) by omega]
  rfl
theorem mk_div (n u : Int) (h : 0 < u) : mkRat n u.toNat = (n : Rat) / (u : Rat) := by
  rw [Rat.mkRat_eq_div]
  congr 1
  have : ((u.toNat : Int) : Rat) = (u : Rat) := by rw [Int.toNat_of_nonneg (by omega)]
  exact this
theorem mk_nat (n : Int) (d : Nat) : mkRat n ((d : Int).toNat) = mkRat n d := by rw [Int.toNat_natCast]
theorem mk_sum (a b : Rat) : mkRat (a.num * (b.den : Int) + b.num * (a.den : Int)) ((a.den : Int) * (b.den : Int)).toNat = a + b := by
  rw [Rat.add_def', ← Int.natCast_mul, Int.toNat_natCast]
theorem mk_sub (a b : Rat) : mkRat (a.num * (b.den : Int) - b.num * (a.den : Int)) ((a.den : Int) * (b.den : Int)).toNat = a - b := by
  rw [Rat.sub_def', ← Int.natCast_mul, Int.toNat_natCast]
theorem mk_mul (a b : Rat) : mkRat (a.num * b.num) ((a.den : Int) * (b.den : Int)).toNat = a * b := by
  rw [Rat.mul_def', ← Int.natCast_mul, Int.toNat_natCast]
theorem den_pos' (q : Rat) : (0 : Int) < q.den := by have := q.den_pos; omega
theorem eQ_int (i : Int) : D.tup [.int i, .int 1] = eQ (i : Rat) := by
  unfold eQ; rw [Rat.num_intCast, Rat.den_intCast]; rfl
theorem eQ_abs (q : Rat) : D.tup [.int (if q.num < 0 then -q.num else q.num), .int q.den] = eQ q.abs := by
  unfold eQ Rat.abs
  by_cases h : 0 ≤ q
  · have h1 : 0 ≤ q.num := Rat.num_nonneg.mpr h
    rw [if_neg (by omega), if_pos h]
  · have h1 : ¬ 0 ≤ q.num := fun z => h (Rat.num_nonneg.mp z)
    rw [if_pos (by omega), if_neg h]
    rfl
theorem gcd_q (q : Rat) : biF .gcd [.int q.num, .int q.den] = some (.int 1) := by
  rw [bi_gcd]
  have : Nat.gcd q.num.natAbs (q.den : Int).natAbs = 1 := by rw [Int.natAbs_natCast]; exact q.reduced
  rw [this]; rfl
theorem ceil_eq (q : Rat) : -(-q.num / (q.den : Int)) = q.ceil := by
  rw [Rat.ceil_eq_neg_floor_neg, Rat.floor_def]; rfl
theorem floor_eq (q : Rat) : q.num / (q.den : Int) = q.floor := (Rat.floor_def q).symm
theorem lt_eq (a b : Rat) : (a.num * (b.den : Int) < b.num * (a.den : Int)) = (a < b) := propext (Rat.lt_iff a b).symm
theorem eQ_ite {c : Prop} [Decidable c] {a b : Rat} : (if c then eQ a else eQ b) = eQ (if c then a else b) := by split <;> rfl
theorem divOk_64 {j : Int} (h1 : 0 < j) (h2 : j < 18446744073709551616) : divOk j = true := by
  unfold divOk
  rw [decide_eq_true h1]
  have : j.natAbs.log2 < 64 := (Nat.log2_lt (by omega)).mpr (by have : (2 : Nat) ^ 64 = 18446744073709551616 := by decide +kernel
                                                                omega)
  rw [decide_eq_true (show j.natAbs.log2 < 9000 by omega)]
  simp
theorem eq_none_lst {ds : List D} {x : D} (h : D.flats 59 ds = true) (h1 : D.flat 59 x = true) : eqD (.lst ds) (.lst [x]) = some (D.beqs ds [x]) := by
  unfold eqD
  have e1 : D.flat 60 (.lst ds) = true := by simpa [D.flat] using h
  have e2 : D.flat 60 (.lst [x]) = true := by simp [D.flat, D.flats, h1]
  rw [e1, e2]; rfl
/-! ### what may be compared -/
theorem flat_mono : ∀ n : Nat, (∀ d, D.flat n d = true → D.flat (n + 1) d = true) ∧ ∀ ds, D.flats n ds = true → D.flats (n + 1) ds = true := by
  intro n
  induction n with
  | zero =>
    have a : ∀ d, D.flat 0 d = true → D.flat 1 d = true := fun d h => by cases d <;> simp_all [D.flat]
    refine ⟨a, fun ds => ?_⟩
    induction ds with
    | nil => intro; simp [D.flats]
    | cons d ds ih => intro h; simp only [D.flats, Bool.and_eq_true] at h ⊢; exact ⟨a d h.1, ih h.2⟩
  | succ n ih =>
    have a : ∀ d, D.flat (n + 1) d = true → D.flat (n + 2) d = true := fun d h => by
      cases d <;> simp_all [D.flat]
    refine ⟨a, fun ds => ?_⟩
    induction ds with
    | nil => intro; simp [D.flats]
    | cons d ds ih => intro h; simp only [D.flats, Bool.and_eq_true] at h ⊢; exact ⟨a d h.1, ih h.2⟩
theorem flat_le {n m : Nat} (h : n ≤ m) {d : D} (hd : D.flat n d = true) : D.flat m d = true := by
  induction h with
  | refl => exact hd
  | step _ ih => exact (flat_mono _).1 _ ih
theorem flats_all {n : Nat} {ds : List D} (h : ∀ d ∈ ds, D.flat n d = true) : D.flats n ds = true := by
  induction ds with
  | nil => simp [D.flats]
  | cons d ds ih => simp only [D.flats, Bool.and_eq_true]; exact ⟨h d List.mem_cons_self, ih fun e he => h e (List.mem_cons_of_mem _ he)⟩
theorem flat_int {n : Nat} {i : Int} : D.flat n (.int i) = true := by cases n <;> rfl
theorem flat_bl {n : Nat} {i : Bool} : D.flat n (.bl i) = true := by cases n <;> rfl
theorem flat_non {n : Nat} : D.flat n .non = true := by cases n <;> rfl
theorem flat_str {n : Nat} {s : Str} : D.flat n (.str s) = true := by cases n <;> rfl
theorem flat_tT {α : Type} {n : Nat} {f : α → D} {xs : List α} (h : ∀ x ∈ xs, D.flat n (f x) = true) : D.flat (n + 1) (tT f xs) = true := by
  unfold tT; rw [D.flat]; exact flats_all fun d hd => by obtain ⟨x, hx, rfl⟩ := List.mem_map.mp hd; exact h x hx
theorem flat_tL {α : Type} {n : Nat} {f : α → D} {xs : List α} (h : ∀ x ∈ xs, D.flat n (f x) = true) : D.flat (n + 1) (tL f xs) = true := by
  unfold tL; rw [D.flat]; exact flats_all fun d hd => by obtain ⟨x, hx, rfl⟩ := List.mem_map.mp hd; exact h x hx
theorem flat_Q {n : Nat} {q : Rat} : D.flat (n + 1) (eQ q) = true := by
  unfold eQ; simp only [D.flat, D.flats, flat_int, Bool.and_self]
/-- a way to make values such that == tells whether they are the same -/
structure Inj {α : Type} (n : Nat) (f : α → D) : Prop where
  flat : ∀ x, D.flat n (f x) = true
  eq : ∀ x y, D.beq (f x) (f y) = true ↔ x = y
theorem Inj.int : Inj 0 D.int := ⟨fun x => flat_int, fun x y => by simp [D.beq]⟩
theorem Inj.nat : Inj 0 (fun n : Nat => D.int (n : Int)) := ⟨fun x => flat_int, fun x y => by simp only [D.beq, beq_iff_eq]; omega⟩
theorem Inj.str : Inj 0 D.str := ⟨fun x => flat_str, fun x y => by simp [D.beq]⟩
theorem Inj.bl : Inj 0 D.bl := ⟨fun x => flat_bl, fun x y => by simp [D.beq]⟩
theorem beqs_map {α : Type} {n : Nat} {f : α → D} (I : Inj n f) : ∀ xs ys : List α, D.beqs (xs.map f) (ys.map f) = true ↔ xs = ys
  | [], [] => by simp [D.beqs]
  | [], _ :: _ => by simp [D.beqs]
  | _ :: _, [] => by simp [D.beqs]
  | x :: xs, y :: ys => by simp only [List.map_cons, D.beqs, Bool.and_eq_true, I.eq, beqs_map I xs ys, List.cons.injEq]
theorem Inj.tT {α : Type} {n : Nat} {f : α → D} (I : Inj n f) : Inj (n + 1) (tT f) := ⟨fun xs => flat_tT fun x _ => I.flat x, fun xs ys => by unfold Tk.tT; rw [D.beq]; exact beqs_map I xs ys⟩
theorem Inj.tL {α : Type} {n : Nat} {f : α → D} (I : Inj n f) : Inj (n + 1) (tL f) := ⟨fun xs => flat_tL fun x _ => I.flat x, fun xs ys => by unfold Tk.tL; rw [D.beq]; exact beqs_map I xs ys⟩
theorem Inj.Q : Inj 1 eQ := ⟨fun q => flat_Q, fun a b => by
  have := eq_Q (a := a) (b := b)
  unfold eqD at this
  rw [flat_le (n := 1) (by omega) flat_Q, flat_le (n := 1) (by omega) flat_Q] at this
  simp only [Bool.and_self, if_true, Option.some.injEq] at this
  rw [this, decide_eq_true_eq]⟩
theorem eq_inj {α : Type} [DecidableEq α] {n : Nat} {f : α → D} (I : Inj n f) (hn : n ≤ 60) (x y : α) : eqD (f x) (f y) = some (decide (x = y)) := by
  unfold eqD
  rw [flat_le hn (I.flat x), flat_le hn (I.flat y)]
  simp only [Bool.and_self, if_true, Option.some.injEq]
  by_cases h : x = y
  · rw [decide_eq_true h]; exact (I.eq x y).mpr h
  · rw [decide_eq_false h]; exact Bool.eq_false_iff.mpr fun z => h ((I.eq x y).mp z)
theorem in_inj {α : Type} [DecidableEq α] {n : Nat} {f : α → D} (I : Inj n f) (hn : n ≤ 59) (x : α) (ys : List α) : inD (f x) (tT f ys) = some (decide (x ∈ ys)) ∧ inD (f x) (tL f ys) = some (decide (x ∈ ys)) := by
  have a : ∀ ys : List α, anyEq (f x) (ys.map f) = decide (x ∈ ys) := fun ys => by
    induction ys with
    | nil => rfl
    | cons y ys ih =>
      rw [List.map_cons, anyEq, ih]
      by_cases h : y = x
      · subst h; rw [(I.eq y y).mpr rfl]; simp
      · rw [Bool.eq_false_iff.mpr fun z => h ((I.eq y x).mp z), Bool.false_or]
        have : (x ∈ y :: ys) = (x ∈ ys) := by
          rw [List.mem_cons]; exact propext ⟨fun z => z.resolve_left fun e => h e.symm, .inr⟩
        simp only [this]
  have b : D.flats 59 (ys.map f) = true := flats_all fun d hd => by obtain ⟨z, _, rfl⟩ := List.mem_map.mp hd; exact flat_le hn (I.flat z)
  have c : D.flat 60 (f x) = true := flat_le (n := n) (by omega) (I.flat x)
  constructor
  · unfold tT; simp only [inD, c, b, Bool.and_self, if_true, a]
  · unfold tL; simp only [inD, c, b, Bool.and_self, if_true, a]
theorem in_Ti {x : Int} {ys : List Int} : inD (.int x) (tT .int ys) = some (decide (x ∈ ys)) := (in_inj Inj.int (by omega) x ys).1
theorem in_Li {x : Int} {ys : List Int} : inD (.int x) (tL .int ys) = some (decide (x ∈ ys)) := (in_inj Inj.int (by omega) x ys).2
theorem in_Tn {x : Nat} {ys : List Nat} : inD (.int (x : Int)) (tT (fun n : Nat => .int (n : Int)) ys) = some (decide (x ∈ ys)) := (in_inj Inj.nat (by omega) x ys).1
theorem in_Ln {x : Nat} {ys : List Nat} : inD (.int (x : Int)) (tL (fun n : Nat => .int (n : Int)) ys) = some (decide (x ∈ ys)) := (in_inj Inj.nat (by omega) x ys).2
theorem eq_nilL {α : Type} {f : α → D} {xs : List α} {n : Nat} (h : ∀ x ∈ xs, D.flat n (f x) = true) (hn : n ≤ 59) : eqD (tL f xs) (.lst []) = some xs.isEmpty := by
  unfold eqD
  rw [flat_le (n := n + 1) (by omega) (flat_tL h)]
  cases xs <;> rfl
/-! ### denominators -/
def DN (P : Nat) (q : Rat) : Prop := q.den ∣ P
theorem den_mk_dvd {n : Int} {d : Nat} (h : d ≠ 0) : (mkRat n d).den ∣ d := by
  rw [Rat.den_mkRat, if_neg h]; exact Nat.div_dvd_of_dvd (Nat.gcd_dvd_left _ _)
theorem DN.mk {n : Int} {P : Nat} (h : P ≠ 0) : DN P (mkRat n P) := den_mk_dvd h
theorem DN.eq {q : Rat} {P : Nat} (hP : P ≠ 0) (h : DN P q) : ∃ n : Int, q = mkRat n P := by
  obtain ⟨c, hc⟩ := h
  subst hc
  have hz : c ≠ 0 := fun z => hP (by rw [z, Nat.mul_zero])
  exact ⟨q.num * c, by rw [Rat.mkRat_mul_right hz, Rat.mkRat_self]⟩
theorem DN.add {a b : Rat} {P : Nat} (hP : P ≠ 0) (ha : DN P a) (hb : DN P b) : DN P (a + b) := by
  obtain ⟨m, rfl⟩ := ha.eq hP
  obtain ⟨n, rfl⟩ := hb.eq hP
  rw [Rat.mkRat_add_mkRat _ _ hP hP, ← Int.add_mul, Rat.mkRat_mul_right hP]
  exact DN.mk hP
theorem DN.neg {a : Rat} {P : Nat} (ha : DN P a) : DN P (-a) := ha
theorem DN.sub {a b : Rat} {P : Nat} (hP : P ≠ 0) (ha : DN P a) (hb : DN P b) : DN P (a - b) := by
  rw [Rat.sub_eq_add_neg]; exact DN.add hP ha hb.neg
theorem DN.int {i : Int} {P : Nat} : DN P (i : Rat) := by unfold DN; rw [Rat.den_intCast]; exact Nat.one_dvd P
theorem DN.mulI {a : Rat} {i : Int} {P : Nat} (hP : P ≠ 0) (ha : DN P a) : DN P (a * i) := by
  obtain ⟨m, rfl⟩ := ha.eq hP
  have : (i : Rat) = mkRat i 1 := by conv => lhs; rw [← Rat.mkRat_self (i : Rat), Rat.num_intCast, Rat.den_intCast]
  rw [this, Rat.mkRat_mul_mkRat, Nat.mul_one]
  exact DN.mk hP
theorem DN.le {q : Rat} {P : Nat} (hP : P ≠ 0) (h : DN P q) : q.den ≤ P := Nat.le_of_dvd (Nat.pos_of_ne_zero hP) h
theorem DN.abs {q : Rat} {P : Nat} (h : DN P q) : DN P q.abs := by unfold Rat.abs; split <;> exact h
/-! ### rounding -/
theorem floor_mk (a : Int) (b : Nat) (h : 0 < b) : (mkRat a b).floor = a / (b : Int) := by
  have hz : ¬ b = 0 := by omega
  rw [Rat.floor_def, Rat.num_mkRat, Rat.den_mkRat, if_neg hz, if_neg hz]
  have g0 : 0 < Nat.gcd b a.natAbs := Nat.gcd_pos_of_pos_left _ h
  have d1 : ((Nat.gcd b a.natAbs : Nat) : Int) ∣ a := Int.ofNat_dvd_left.mpr (Nat.gcd_dvd_right ..)
  obtain ⟨y, hy⟩ := Nat.gcd_dvd_left b a.natAbs
  obtain ⟨x, hx⟩ := d1
  generalize Nat.gcd b a.natAbs = g at *
  subst hy
  rw [hx, Int.mul_ediv_cancel_left _ (by omega), Nat.mul_div_cancel_left _ g0, Int.natCast_mul, Int.mul_ediv_mul_of_pos _ _ (by omega)]
theorem ceil_mk (a : Int) (b : Nat) (h : 0 < b) : (mkRat a b).ceil = (a + b - 1) / (b : Int) := by
  rw [Rat.ceil_eq_neg_floor_neg, Rat.neg_mkRat, floor_mk _ _ h]
  have e1 := Int.emod_add_mul_ediv (-a) b
  have e2 := Int.emod_nonneg (-a) (show (b : Int) ≠ 0 by omega)
  have e3 := Int.emod_lt_of_pos (-a) (show (0 : Int) < b by omega)
  generalize (-a) / (b : Int) = q at *
  generalize (-a) % (b : Int) = r at *
  rw [show a + b - 1 = (b - 1 - (r - 0)) + b * (-q) by rw [Int.mul_neg]; omega, Int.add_mul_ediv_left _ _ (by omega), Int.ediv_eq_zero_of_lt (by omega) (by omega)]
  omega
end Tk

set_option Elab.async false
set_option linter.all false
set_option maxRecDepth 100000
set_option maxHeartbeats 2000000
/-! Works, plans. -/
namespace Tk
open PySem
structure Shr where
  q : Rat
  pos : 0 < q
  le1 : q ≤ 1
  d12 : q.den ≤ 12
abbrev eS (s : Shr) : D := eQ s.q
theorem Shr.n1 (s : Shr) : 1 ≤ s.q.num := by
  have h := s.pos
  rw [Rat.lt_iff] at h
  simp only [show (0 : Rat).num = 0 from rfl, show (0 : Rat).den = 1 from rfl] at h
  omega
theorem Shr.nd (s : Shr) : s.q.num ≤ s.q.den := by
  have h := s.le1
  rw [Rat.le_iff] at h
  simp only [show (1 : Rat).num = 1 from rfl, show (1 : Rat).den = 1 from rfl] at h
  omega
theorem Shr.d1 (s : Shr) : 1 ≤ s.q.den := s.q.den_pos
def perL (l : List Shr) : Nat := l.foldl (fun a s => Nat.lcm a s.q.den) 1
def sumL (l : List Shr) : Rat := (l.map (·.q)).foldl (· + ·) 0
theorem lcm_all : ∀ (l : List Shr) (a : Nat), 0 < a → 0 < l.foldl (fun a s => Nat.lcm a s.q.den) a ∧ a ∣ l.foldl (fun a s => Nat.lcm a s.q.den) a ∧ ∀ s ∈ l, s.q.den ∣ l.foldl (fun a s => Nat.lcm a s.q.den) a
  | [], a, h => ⟨h, Nat.dvd_refl a, fun _ z => nomatch z⟩
  | s :: l, a, h => by
    obtain ⟨h1, h2, h3⟩ := lcm_all l (Nat.lcm a s.q.den) (Nat.lcm_pos h s.q.den_pos)
    refine ⟨h1, Nat.dvd_trans (Nat.dvd_lcm_left ..) h2, fun t ht => ?_⟩
    rcases List.mem_cons.mp ht with rfl | ht
    · exact Nat.dvd_trans (Nat.dvd_lcm_right ..) h2
    · exact h3 t ht
theorem perL_pos (l : List Shr) : 0 < perL l := (lcm_all l 1 (by omega)).1
theorem perL_dvd {l : List Shr} {s : Shr} (h : s ∈ l) : s.q.den ∣ perL l := (lcm_all l 1 (by omega)).2.2 s h
theorem lcm_min {P : Nat} : ∀ (l : List Shr) (a : Nat), a ∣ P → (∀ s ∈ l, s.q.den ∣ P) → l.foldl (fun a s => Nat.lcm a s.q.den) a ∣ P
  | [], a, h, _ => h
  | s :: l, a, h, g => lcm_min l _ (Nat.lcm_dvd h (g s List.mem_cons_self)) fun t ht => g t (List.mem_cons_of_mem _ ht)
theorem perL_min {P : Nat} {l : List Shr} (h : ∀ s ∈ l, s.q.den ∣ P) : perL l ∣ P := lcm_min l 1 (Nat.one_dvd P) h
theorem perL_take (l : List Shr) (n : Nat) : perL (l.take n) ≤ perL l := Nat.le_of_dvd (perL_pos l) (perL_min fun s hs => perL_dvd (List.mem_of_mem_take hs))
theorem sum_DN {P : Nat} (hP : P ≠ 0) : ∀ (l : List Rat) (a : Rat), DN P a → (∀ q ∈ l, DN P q) → DN P (l.foldl (· + ·) a)
  | [], a, h, _ => h
  | q :: l, a, h, g => sum_DN hP l _ (h.add hP (g q List.mem_cons_self)) fun t ht => g t (List.mem_cons_of_mem _ ht)
theorem sumL_DN (l : List Shr) : DN (perL l) (sumL l) := by
  refine sum_DN (by have := perL_pos l; omega) _ _ (DN.int (i := 0)) fun q hq => ?_
  obtain ⟨s, hs, rfl⟩ := List.mem_map.mp hq
  exact perL_dvd hs
/-- works -/
structure Wks where
  l : List Shr
  n1 : 1 ≤ l.length
  n5 : l.length ≤ 5
  per : perL l ≤ 30
abbrev eW (w : Wks) : D := tT eS w.l
abbrev eN (n : Nat) : D := .int (n : Int)
abbrev eLot (l : List Nat) : D := tT eN l
abbrev ePlan (p : List (List Nat)) : D := tT eLot p
theorem rgF_finP {n : Nat} (h : n + 1 < 16777216) : rgF none (.int ((n : Int) + 1)) = some ((List.finRange (n + 1)).map fun i => .int (i.val : Int)) := by
  have := rgF_fin (n := n + 1) (by omega)
  rwa [Int.natCast_succ] at this
theorem rgF_fin2 {a b : Int} (h1 : 0 ≤ a) (h2 : a < 16777216) (h3 : 0 ≤ b) (h4 : b < 16777216) : rgF (some a) (.int b) = some ((List.finRange (b - a).toNat).map fun i => .int (a + (i.val : Int))) := by
  rw [rgF_2 h1 h2 h3 h4, ← finRange_val, List.map_map]; rfl
theorem lr_fin {n : Nat} (h : n < 16777216) : (rgF none (.int n)).map D.lst = some (tL (fun i : _root_.Fin n => .int (i.val : Int)) (List.finRange n)) := by rw [rgF_fin h]; rfl
theorem cut_t {α : Type} {xs : List α} {a : Int} (h : 0 ≤ a) : cut xs none (some a) = xs.take a.toNat := cut_toI xs a h
theorem cut_f {α : Type} {xs : List α} {a : Int} (h : 0 ≤ a) : cut xs (some a) none = xs.drop a.toNat := by
  unfold cut
  have e1 : sIx xs.length 0 (some a) = min a.toNat xs.length := by simp only [sIx]; rw [if_neg (by omega)]
  have e2 : sIx xs.length xs.length none = xs.length := rfl
  rw [e1, e2, List.take_of_length_le (by rw [List.length_drop]; exact Nat.le_refl _)]
  by_cases c : a.toNat ≤ xs.length
  · rw [Nat.min_eq_left c]
  · rw [Nat.min_eq_right (by omega), List.drop_length, List.drop_of_length_le (by omega)]
theorem lcm_int (a b : Nat) : (a : Int) * (b : Int) / ((Nat.gcd (a : Int).natAbs (b : Int).natAbs : Nat) : Int) = ((Nat.lcm a b : Nat) : Int) := by
  rw [Int.natAbs_natCast, Int.natAbs_natCast]; unfold Nat.lcm; rw [Int.natCast_ediv, Int.natCast_mul]
theorem finMap {α : Type} {l : List α} {β : Type} (g : α → β) : (List.finRange l.length).map (fun i => g l[i.val]) = l.map g := by
  refine List.ext_getElem (by simp) fun i h1 h2 => by simp
theorem fmNil {α β : Type} (xs : List α) : xs.filterMap (fun _ => (none : Option β)) = [] := by
  induction xs with
  | nil => rfl
  | cons x xs ih => rw [List.filterMap_cons]; exact ih
theorem tL_nil {α : Type} {f : α → D} : tL f [] = .lst [] := rfl
theorem tT_nil {α : Type} {f : α → D} : tT f [] = .tup [] := rfl
theorem eq_nil_nil : eqD (.lst []) (.lst []) = some true := by decide +kernel
theorem eq_nil_non : eqD (.lst []) (.lst [.non]) = some false := by decide +kernel
theorem sl_nil {l h : Option Int} : slG l h (.lst []) = some (.lst []) := by
  unfold slG; simp only [slF, cut, List.drop_nil, List.take_nil]
end Tk
namespace Tk
theorem tT_finR {n m : Nat} (e : n = m) (g : Nat → D) : tT (fun x : _root_.Fin n => g x.val) (List.finRange n) = tT g (List.range m) := by
  subst e
  unfold tT
  rw [← finRange_val, List.map_map]; rfl
theorem tL_finR {n m : Nat} (e : n = m) (g : Nat → D) : tL (fun x : _root_.Fin n => g x.val) (List.finRange n) = tL g (List.range m) := by
  subst e
  unfold tL
  rw [← finRange_val, List.map_map]; rfl
theorem tT_finM {α : Type} {l : List α} (g : α → D) : tT (fun x : _root_.Fin l.length => g l[x.val]) (List.finRange l.length) = tT g l := by
  unfold tT; rw [finMap]
theorem tL_finM {α : Type} {l : List α} (g : α → D) : tL (fun x : _root_.Fin l.length => g l[x.val]) (List.finRange l.length) = tL g l := by
  unfold tL; rw [finMap]
theorem crok {a b : D} {o : List Slot} (h : a = b) : CR.ok a o = CR.ok b o := by rw [h]
end Tk

set_option Elab.async false
set_option linter.all false
set_option maxRecDepth 100000
set_option maxHeartbeats 2000000
/-! Texts; values that are alike. -/
namespace Tk
open PySem
theorem sum_len (c : Nat) : ∀ ys : List PySem.Str, (∀ y ∈ ys, y.length ≤ c) → (ys.map (·.length)).sum ≤ c * ys.length
  | [], _ => by simp
  | y :: ys, h => by
    have h1 := h y List.mem_cons_self
    have h2 := sum_len c ys fun z hz => h z (List.mem_cons_of_mem _ hz)
    simp only [List.map_cons, List.sum_cons, List.length_cons, Nat.mul_add, Nat.mul_one]
    omega
theorem strsOf_map {α : Type} (g : α → PySem.Str) : ∀ xs : List α, strsOf (xs.map fun x => D.str (g x)) = some (xs.map g)
  | [] => rfl
  | x :: xs => by simp [strsOf, strsOf_map g xs]
theorem join_L {α : Type} (g : α → PySem.Str) (c : Nat) (xs : List α) (h : ∀ x ∈ xs, (g x).length ≤ c) (hc : c * xs.length ≤ 16777216) : joinF "" (tL (fun x => D.str (g x)) xs) = some (.str (PySem.Str.join "" (xs.map g))) := by
  have l := sum_len c (xs.map g) fun y hy => by
    obtain ⟨x, hx, rfl⟩ := List.mem_map.mp hy
    exact h x hx
  rw [List.length_map] at l
  unfold tL
  simp only [joinF, joinS, strsOf_map, Option.bind_some]
  have z : ("" : PySem.Str).length = 0 := rfl
  rw [if_pos]
  show _ ≤ 16777216
  rw [z, Nat.mul_zero, Nat.add_zero]
  exact Nat.le_trans l hc
theorem join_le {α : Type} (g : α → PySem.Str) (c : Nat) (xs : List α) (h : ∀ x ∈ xs, (g x).length ≤ c) : (PySem.Str.join "" (xs.map g)).length ≤ c * xs.length := by
  have l := sum_len c (xs.map g) fun y hy => by
    obtain ⟨x, hx, rfl⟩ := List.mem_map.mp hy
    exact h x hx
  rw [List.length_map] at l
  refine Nat.le_trans (StrLaws.join_length_le "" _) ?_
  have z : ("" : PySem.Str).length = 0 := rfl
  rw [z, Nat.mul_zero, Nat.add_zero]
  exact l
theorem dstr_ite {c : Prop} [Decidable c] {a b : PySem.Str} : (if c then D.str a else D.str b) = D.str (if c then a else b) := by split <;> rfl
/-- data that are alike to themselves: n deep, no longer than a million -/
inductive Alk : Nat → D → Prop where
  | int {n i} : Alk n (.int i)
  | bl {n b} : Alk n (.bl b)
  | str {n s} : Alk n (.str s)
  | non {n} : Alk n .non
  | tup {n ds} (h : ∀ d ∈ ds, Alk n d) (hl : ds.length ≤ 1000000) : Alk (n + 1) (.tup ds)
  | lst {n ds} (h : ∀ d ∈ ds, Alk n d) (hl : ds.length ≤ 1000000) : Alk (n + 1) (.lst ds)
theorem Alk.Q {n : Nat} {q : Rat} : Alk (n + 1) (eQ q) := .tup (fun d hd => by
  rcases List.mem_cons.mp hd with rfl | hd
  · exact .int
  · rcases List.mem_cons.mp hd with rfl | hd
    · exact .int
    · cases hd) (by simp)
theorem Alk.tT {α : Type} {n : Nat} {f : α → D} {xs : List α} (h : ∀ x ∈ xs, Alk n (f x)) (hl : xs.length ≤ 1000000) : Alk (n + 1) (tT f xs) := .tup (fun d hd => by
  obtain ⟨x, hx, rfl⟩ := List.mem_map.mp hd; exact h x hx) (by rw [List.length_map]; exact hl)
theorem Alk.tL {α : Type} {n : Nat} {f : α → D} {xs : List α} (h : ∀ x ∈ xs, Alk n (f x)) (hl : xs.length ≤ 1000000) : Alk (n + 1) (tL f xs) := .lst (fun d hd => by
  obtain ⟨x, hx, rfl⟩ := List.mem_map.mp hd; exact h x hx) (by rw [List.length_map]; exact hl)
theorem Alk.t1 {n : Nat} {a : D} (h : Alk n a) : Alk (n + 1) (.tup [a]) := .tup (fun d hd => by
  rcases List.mem_cons.mp hd with rfl | hd
  · exact h
  · cases hd) (by simp)
theorem Alk.t2 {n : Nat} {a b : D} (h : Alk n a) (h2 : Alk n b) : Alk (n + 1) (.tup [a, b]) := .tup (fun d hd => by
  rcases List.mem_cons.mp hd with rfl | hd
  · exact h
  · rcases List.mem_cons.mp hd with rfl | hd
    · exact h2
    · cases hd) (by simp)
theorem Alk.t3 {n : Nat} {a b c : D} (h : Alk n a) (h2 : Alk n b) (h3 : Alk n c) : Alk (n + 1) (.tup [a, b, c]) := .tup (fun d hd => by
  rcases List.mem_cons.mp hd with rfl | hd
  · exact h
  · rcases List.mem_cons.mp hd with rfl | hd
    · exact h2
    · rcases List.mem_cons.mp hd with rfl | hd
      · exact h3
      · cases hd) (by simp)
theorem Alk.t4 {n : Nat} {a b c e : D} (h : Alk n a) (h2 : Alk n b) (h3 : Alk n c) (h4 : Alk n e) : Alk (n + 1) (.tup [a, b, c, e]) := .tup (fun d hd => by
  rcases List.mem_cons.mp hd with rfl | hd
  · exact h
  · rcases List.mem_cons.mp hd with rfl | hd
    · exact h2
    · rcases List.mem_cons.mp hd with rfl | hd
      · exact h3
      · rcases List.mem_cons.mp hd with rfl | hd
        · exact h4
        · cases hd) (by simp)
theorem cmpL {b c : Bool} : eqD (.bl b) (.bl c) = some (b == c) := by cases b <;> cases c <;> decide +kernel
theorem finRange_all {n : Nat} {p : Nat → D} : tL (fun i : _root_.Fin n => p i.val) (List.finRange n) = tL p (List.range n) := tL_finR rfl p
end Tk

set_option Elab.async false
set_option linter.all false
set_option maxRecDepth 100000
set_option maxHeartbeats 2000000
/-! while loops -/
namespace Tk
open PySem
section
variable {C : Cl} {c : E} {body : Ss} {ρ : Env} {n : Nat}
def kW3 (C : Cl) (c : E) (body : Ss) (n : Nat) : Fl → Env → R Fl
  | .nx, ρ => whD C c body n ρ
  | .ct, ρ => whD C c body n ρ
  | .bk, ρ => .ok .nx ρ
  | .rt d, ρ => .ok (.rt d) ρ
def kW1 (C : Cl) (c : E) (body : Ss) (n : Nat) (b : Bool) (ρ : Env) : R Fl := if b then (denSs C body ρ).bind (kW3 C c body n) else .ok .nx ρ
theorem wh_step : whD C c body (n + 1) ρ = (isB (denE C c ρ)).bind (kW1 C c body n) := by
  unfold whD
  rw [whileD]
  cases isB (denE C c ρ) with
  | stuck => rfl
  | err _ _ _ => rfl
  | ok b ρ1 =>
    cases b with
    | false => rfl
    | true =>
      simp only [R.bind, kW1, if_true]
      cases denSs C body ρ1 with
      | stuck => rfl
      | err _ _ _ => rfl
      | ok f ρ2 => cases f <;> rfl
theorem kW1_eq {b : Bool} : kW1 C c body n b ρ = if b = true then (denSs C body ρ).bind (kW3 C c body n) else .ok .nx ρ := rfl
theorem kW3_nx : kW3 C c body n .nx ρ = whD C c body n ρ := rfl
theorem kW3_ct : kW3 C c body n .ct ρ = whD C c body n ρ := rfl
theorem kW3_bk : kW3 C c body n .bk ρ = .ok .nx ρ := rfl
theorem kW3_rt {d : D} : kW3 C c body n (.rt d) ρ = .ok (.rt d) ρ := rfl
/-- while b > 0: a, b = b, a % b -/
theorem wh_gcd (st : Int → Int → Env) (ht : ∀ a b, 0 ≤ a → 0 ≤ b → isB (denE C c (st a b)) = .ok (decide (0 < b)) (st a b)) (hb : ∀ a b, 0 ≤ a → 0 < b → denSs C body (st a b) = .ok .nx (st b (a % b))) :
    ∀ (n fuel : Nat) (a b : Int), 0 ≤ a → 0 ≤ b → b < 2 ^ n → 2 * n + 1 ≤ fuel → whD C c body fuel (st a b) = .ok .nx (st ((Nat.gcd a.natAbs b.natAbs : Nat) : Int) 0) := by
  have z : ∀ (fuel : Nat) (a : Int), 0 ≤ a → 1 ≤ fuel → whD C c body fuel (st a 0) = .ok .nx (st ((Nat.gcd a.natAbs (0 : Int).natAbs : Nat) : Int) 0) := fun fuel a ha hf => by
    obtain ⟨f, rfl⟩ : ∃ f, fuel = f + 1 := ⟨fuel - 1, by omega⟩
    have e : ((Nat.gcd a.natAbs (0 : Int).natAbs : Nat) : Int) = a := by rw [Int.natAbs_zero, Nat.gcd_zero_right]; omega
    rw [wh_step, ht a 0 ha (by omega), e]
    rfl
  have s : ∀ (fuel : Nat) (a b : Int), 0 ≤ a → 0 < b → whD C c body (fuel + 1) (st a b) = whD C c body fuel (st b (a % b)) := fun fuel a b ha h => by
    rw [wh_step, ht a b ha (by omega), decide_eq_true h]
    simp only [R.bind, kW1, if_true, hb a b ha h, kW3]
  have g : ∀ a b : Int, 0 ≤ a → 0 ≤ b → Nat.gcd b.natAbs (a % b).natAbs = Nat.gcd a.natAbs b.natAbs := fun a b ha h => by
    rw [Int.natAbs_emod_of_nonneg ha, Nat.gcd_comm a.natAbs, Nat.gcd_rec b.natAbs a.natAbs, Nat.gcd_comm]
  intro n
  induction n with
  | zero =>
    intro fuel a b ha h1 h2 hf
    have : b = 0 := by omega
    subst this
    exact z fuel a ha (by omega)
  | succ n ih =>
    intro fuel a b ha h1 h2 hf
    by_cases hb0 : b = 0
    · subst hb0; exact z fuel a ha (by omega)
    have hb1 : 0 < b := by omega
    obtain ⟨f, rfl⟩ : ∃ f, fuel = f + 2 := ⟨fuel - 2, by omega⟩
    have m0 := Int.emod_nonneg a hb0
    have m1 := Int.emod_lt_of_pos a hb1
    rw [s _ a b ha hb1, ← g a b ha h1]
    by_cases hr : a % b = 0
    · rw [hr]; exact z _ b h1 (by omega)
    have hr1 : 0 < a % b := by omega
    have k0 := Int.emod_nonneg b hr
    have k1 : 2 * (b % (a % b)) < b := by
      have e := Int.emod_add_mul_ediv b (a % b)
      have k2 := Int.emod_lt_of_pos b hr1
      have k3 : 1 ≤ b / (a % b) := by
        rw [Int.le_ediv_iff_mul_le hr1]; omega
      have k4 : (a % b) * 1 ≤ (a % b) * (b / (a % b)) := Int.mul_le_mul_of_nonneg_left k3 (by omega)
      omega
    rw [s _ b (a % b) h1 hr1, ← g b (a % b) h1 m0]
    exact ih f _ _ m0 k0 (by rw [Int.pow_succ] at h2; omega) (by omega)
end
/-! ### a pool of draws -/
def ePool (p : Int × Int) : D := .lst [.int p.1, .int p.2]
theorem pool_fold {a b : Int} : D.lst [.int a, .int b] = ePool (a, b) := rfl
theorem ixP_0 {p : Int × Int} : ixF (ePool p) (.int 0) = some (.int p.1) := rfl
theorem ixP_1 {p : Int × Int} : ixF (ePool p) (.int 1) = some (.int p.2) := rfl
theorem setP_0 {p : Int × Int} {i : Nat} {v : Int} {ρ : Env} : kSet2 i (.int v) (.int 0) ρ (some (ePool p)) = .ok .nx (ρ.set i ((getS ρ i).with (ePool (v, p.2)))) := rfl
theorem setP_1 {p : Int × Int} {i : Nat} {v : Int} {ρ : Env} : kSet2 i (.int v) (.int 1) ρ (some (ePool p)) = .ok .nx (ρ.set i ((getS ρ i).with (ePool (p.1, v)))) := rfl
theorem kAsgO_P {i : Nat} {ρ : Env} {p : Int × Int} : kAsgO i (ePool p) ρ = kNx ρ (putS ρ i (.own (ePool p))) := rfl
def nx1 (b : Int) : Int := (b * 6364136223846793005 + 1442695040888963407) % 18446744073709551616
def tkR (p : Int × Int) (m : Int) : Int := if 1 < p.1 then p.1 % m else if m = 1 then (nx1 p.2 / 1099511627776) % m else (nx1 p.2 / 1099511627776 * 16777216 + nx1 (nx1 p.2) / 1099511627776) % m
def tkP (p : Int × Int) (m : Int) : Int × Int := if 1 < p.1 then (p.1 / m, p.2) else if m = 1 then (p.1, nx1 p.2) else (p.1, nx1 (nx1 p.2))
theorem tkR_lt {m : Int} (p : Int × Int) (h : 1 ≤ m) : 0 ≤ tkR p m ∧ tkR p m < m := by
  unfold tkR
  split
  · exact ⟨Int.emod_nonneg _ (by omega), Int.emod_lt_of_pos _ (by omega)⟩
  · split <;> exact ⟨Int.emod_nonneg _ (by omega), Int.emod_lt_of_pos _ (by omega)⟩
theorem ixt_int {ds : List D} {i : Int} (h0 : 0 ≤ i) (h : i.toNat < ds.length) : ixF (.tup ds) (.int i) = some ds[i.toNat] := by
  rw [ix_t, ixOf_i h0 (by omega), Option.bind_some, List.getElem?_eq_getElem h]
theorem ixl_int {ds : List D} {i : Int} (h0 : 0 ≤ i) (h : i.toNat < ds.length) : ixF (.lst ds) (.int i) = some ds[i.toNat] := by
  rw [ix_l, ixOf_i h0 (by omega), Option.bind_some, List.getElem?_eq_getElem h]
theorem ixs_int {ns : List Int} {i : Int} (h0 : 0 ≤ i) (h : i.toNat < ns.length) : ixF (.scr ns) (.int i) = some (.int ns[i.toNat]) := by
  rw [ix_s, ixOf_i h0 (by omega), Option.bind_some, List.getElem?_eq_getElem h]; rfl
end Tk
namespace Tk
theorem mkShr (t l : Int) (h1 : 1 ≤ t) (h2 : t ≤ l) (h3 : l ≤ 12) : ∃ s : Shr, mkRat t l.toNat = s.q := by
  have hz : ¬ l.toNat = 0 := by omega
  refine ⟨⟨mkRat t l.toNat, ?_, ?_, ?_⟩, rfl⟩
  · rw [Rat.lt_iff, Rat.num_mkRat, Rat.den_mkRat, if_neg hz, if_neg hz]
    simp only [show (0 : Rat).num = 0 from rfl, show (0 : Rat).den = 1 from rfl]
    have g0 : 0 < Nat.gcd l.toNat t.natAbs := Nat.gcd_pos_of_pos_left _ (by omega)
    have g1 : ((Nat.gcd l.toNat t.natAbs : Nat) : Int) ∣ t := Int.ofNat_dvd_left.mpr (Nat.gcd_dvd_right ..)
    obtain ⟨c, hc⟩ := g1
    generalize Nat.gcd l.toNat t.natAbs = g at *
    have : 0 < c := Int.pos_of_mul_pos_right (a := (g : Int)) (by omega) (by omega)
    rw [hc, Int.mul_ediv_cancel_left _ (by omega)]
    omega
  · rw [show (1 : Rat) = mkRat l l.toNat by
      rw [mk_div _ _ (by omega), Rat.div_def, Rat.mul_inv_cancel]
      intro z
      have : (l : Rat) = ((0 : Int) : Rat) := z
      have := Rat.intCast_inj.mp this
      omega]
    rw [mk_div _ _ (by omega), mk_div _ _ (by omega), Rat.div_def, Rat.div_def]
    refine Rat.mul_le_mul_of_nonneg_right (Rat.intCast_le_intCast.mpr h2) (Rat.le_of_lt (Rat.inv_pos.mpr (Rat.intCast_pos.mpr (by omega))))
  · have := Nat.le_of_dvd (by omega) (den_mk_dvd (n := t) hz)
    omega
theorem perL_snoc (l : List Shr) (s : Shr) : perL (l ++ [s]) = Nat.lcm (perL l) s.q.den := by
  unfold perL; rw [List.foldl_append]; rfl
theorem fold_count {α : Type} : ∀ (xs : List α) (n : Nat), xs.foldl (fun s _ => s + 1) n = n + xs.length
  | [], n => rfl
  | _ :: xs, n => by rw [List.foldl_cons, fold_count xs, List.length_cons]; omega
end Tk
namespace Tk
section
variable {i : Nat} {ρ : Env}
theorem kMt2_S {s : Shr} {xs : List Shr} (h : xs.length < 16777216) : kMt2 .append i [eS s] ρ (some (tL eS xs)) = .ok .non (ρ.set i ((getS ρ i).with (tL eS (xs ++ [s])))) := kMt2_L h
theorem kMt2_i {s : Int} {xs : List Int} (h : xs.length < 16777216) : kMt2 .append i [.int s] ρ (some (tL .int xs)) = .ok .non (ρ.set i ((getS ρ i).with (tL .int (xs ++ [s])))) := kMt2_L h
theorem kMt2_N {s : Nat} {xs : List Nat} (h : xs.length < 16777216) : kMt2 .append i [.int (s : Int)] ρ (some (tL eN xs)) = .ok .non (ρ.set i ((getS ρ i).with (tL eN (xs ++ [s])))) := kMt2_L (f := eN) (y := s) h
end
end Tk
namespace Tk
section
variable {C : Cl} {tg : Tg} {body : Ss}
/-- a loop whose state is told by how many turns were made -/
theorem for_idx {α : Type} {f : α → D} {xs : List α} (I : Nat → Env → Prop) {ρ : Env} (h0 : I 0 ρ)
    (h : ∀ (i : Nat) (hi : i < xs.length) ρ, I i ρ → OkI (I (i + 1)) (kGo (C := C) body (putT tg (f xs[i]) ρ))) : ∃ ρ', forD C tg body (xs.map f) ρ = .ok .nx ρ' ∧ I xs.length ρ' := by
  have g : ∀ (n s : Nat) (ρ : Env), s + n = xs.length → I s ρ → ∃ ρ', loopD (putT tg) (denSs C body) ((xs.drop s).map f) ρ = .ok .nx ρ' ∧ I xs.length ρ' := by
    intro n
    induction n with
    | zero =>
      intro s ρ e p
      rw [List.drop_of_length_le (by omega)]
      exact ⟨ρ, rfl, by rw [← e]; exact p⟩
    | succ n ih =>
      intro s ρ e p
      have hs : s < xs.length := by omega
      obtain ⟨ρ2, h2, h3⟩ := h s hs ρ p
      obtain ⟨ρ', h4, h5⟩ := ih (s + 1) ρ2 (by omega) h3
      refine ⟨ρ', ?_, h5⟩
      rw [List.drop_eq_getElem_cons hs, List.map_cons]
      cases h1 : putT tg (f xs[s]) ρ with
      | none => rw [h1] at h2; rcases h2 with h2 | h2 <;> cases h2
      | some ρ1 =>
        rw [h1] at h2
        simp only [kGo] at h2
        rcases h2 with h2 | h2 <;> simp only [loopD, h1, h2, h4]
  exact g xs.length 0 ρ (by omega) h0
theorem for_rng {n : Nat} {g : _root_.Fin n → D} (I : Nat → Env → Prop) {ρ : Env} (h0 : I 0 ρ)
    (h : ∀ (i : _root_.Fin n) ρ, I i.val ρ → OkI (I (i.val + 1)) (kGo (C := C) body (putT tg (g i) ρ))) : ∃ ρ', forD C tg body ((List.finRange n).map g) ρ = .ok .nx ρ' ∧ I n ρ' := by
  have := for_idx (C := C) (tg := tg) (body := body) (f := g) (xs := List.finRange n) I h0 fun i hi ρ p => by
    rw [List.length_finRange] at hi
    have e := h ⟨i, hi⟩ ρ p
    rwa [show (List.finRange n)[i] = ⟨i, hi⟩ by simp]
  rwa [List.length_finRange] at this
end
end Tk
namespace Tk
theorem eQ_one {l : Int} (h : 0 < l) : D.tup [.int 1, .int l] = eQ (mkRat 1 l.toNat) := by
  have e := fr_eq 1 l h
  have g : Nat.gcd (1 : Int).natAbs l.natAbs = 1 := Nat.gcd_one_left _
  rw [g] at e
  rw [← e]
  simp
theorem rgF_I {n : Int} (h0 : 0 ≤ n) (h : n < 16777216) : rgF none (.int n) = some ((List.finRange n.toNat).map fun i => .int (i.val : Int)) := by
  have := rgF_fin (n := n.toNat) (by omega)
  rwa [Int.toNat_of_nonneg h0] at this
theorem eq_nilS {l : List Shr} : eqD (tL eS l) (.lst []) = some (decide (l = [])) := by
  rw [eq_nilL (n := 1) (fun _ _ => flat_Q) (by omega)]
  cases l <;> rfl
theorem eq_nili {l : List Int} : eqD (tL .int l) (.lst []) = some (decide (l = [])) := by
  rw [eq_nilL (n := 1) (fun _ _ => flat_int) (by omega)]
  cases l <;> rfl
end Tk

set_option Elab.async false
set_option linter.all false
set_option maxRecDepth 100000
set_option maxHeartbeats 2000000
/-! Windows of units. -/
namespace Tk
open PySem
def st (q : Rat) (n : Int) : Int := (((n : Rat) - 1) / q).floor
def en (q : Rat) (n : Int) : Int := ((n : Rat) / q).ceil
theorem share_over (s : Shr) (n : Int) : mkRat (n * (s.q.den : Int)) s.q.num.toNat = (n : Rat) / s.q := by
  have h1 := s.n1
  have h := mk_div (n * (s.q.den : Int)) s.q.num (by omega)
  rw [h]
  have e : s.q = (s.q.num : Rat) / ((s.q.den : Int) : Rat) := by
    have := mk_div s.q.num (s.q.den : Int) (by have := s.d1; omega)
    rw [Int.toNat_natCast, Rat.mkRat_self] at this
    exact this
  have z1 : (s.q.num : Rat) ≠ 0 := fun z => by
    have : (s.q.num : Rat) = ((0 : Int) : Rat) := z
    have := Rat.intCast_inj.mp this
    omega
  have z2 : ((s.q.den : Int) : Rat) ≠ 0 := fun z => by
    have : ((s.q.den : Int) : Rat) = ((0 : Int) : Rat) := z
    have := Rat.intCast_inj.mp this
    have := s.d1
    omega
  conv => rhs; rw [e]
  rw [Rat.intCast_mul]
  generalize (s.q.num : Rat) = a at *
  generalize ((s.q.den : Int) : Rat) = b at *
  rw [Rat.div_def, Rat.div_def, Rat.div_def, Rat.inv_mul_rev, Rat.inv_inv, Rat.mul_assoc]
theorem den_over (s : Shr) (n : Int) : ((n : Rat) / s.q).den ≤ 12 := by
  have h1 := s.n1
  have h2 := s.nd
  have h3 := s.d12
  rw [← share_over]
  have := Nat.le_of_dvd (by omega) (den_mk_dvd (n := n * (s.q.den : Int)) (d := s.q.num.toNat) (by omega))
  omega
def unI (q : Rat) (P : Int) : Int := q.num * P / q.den
abbrev winD (q : Rat) (j : Nat) : D := .tup [.int (st q (1 + (j : Int))), .int (en q (1 + (j : Int)) - 1)]
theorem st_eq (s : Shr) (n : Int) : st s.q n = (n - 1) * s.q.den / s.q.num := by
  have h1 := s.n1
  have h := share_over s (n - 1)
  rw [st, show ((n : Rat) - 1) = ((n - 1 : Int) : Rat) by rw [Rat.intCast_sub]; rfl, ← h, floor_mk _ _ (by omega), Int.toNat_of_nonneg (by omega)]
theorem en_eq (s : Shr) (n : Int) : en s.q n = (n * s.q.den + s.q.num - 1) / s.q.num := by
  have h1 := s.n1
  have h := share_over s n
  rw [en, ← h, ceil_mk _ _ (by omega), Int.toNat_of_nonneg (by omega)]
theorem unI_le (w : Wks) (i : Nat) (h : i < w.l.length) : (unI w.l[i].q (perL w.l)).toNat ≤ perL w.l := by
  have h1 := w.l[i].n1
  have h2 := w.l[i].nd
  have h4 := w.l[i].d1
  have h8 : w.l[i].q.num * perL w.l / w.l[i].q.den ≤ perL w.l := Int.ediv_le_of_le_mul (by omega) (by rw [Int.mul_comm]; exact Int.mul_le_mul_of_nonneg_left (by omega) (by omega))
  unfold unI; omega
theorem un_ex (s : Shr) {P : Nat} (hP : 0 < P) (h : s.q.den ∣ P) : ∃ u : Nat, unI s.q P = u ∧ s.q.num * P = u * s.q.den ∧ 1 ≤ u ∧ u ≤ P := by
  obtain ⟨c, hc⟩ := h
  have n1 := s.n1
  have nd := s.nd
  have d1 := s.d1
  have c1 : 1 ≤ c := by
    rcases Nat.eq_zero_or_pos c with z | z
    · rw [z] at hc; omega
    · exact z
  have e : s.q.num * (P : Int) = ((s.q.num * (c : Int)).toNat : Int) * s.q.den := by
    have : 0 ≤ s.q.num * (c : Int) := Int.mul_nonneg (by omega) (by omega)
    rw [Int.toNat_of_nonneg this, hc, Int.natCast_mul, Int.mul_assoc, Int.mul_comm (c : Int)]
  have p1 : 1 * 1 ≤ s.q.num * (c : Int) := Int.mul_le_mul (by omega) (by omega) (by omega) (by omega)
  have p2 : s.q.num * (c : Int) ≤ (s.q.den : Int) * (c : Int) := Int.mul_le_mul_of_nonneg_right nd (by omega)
  have p3 : (P : Int) = (s.q.den : Int) * (c : Int) := by rw [hc, Int.natCast_mul]
  refine ⟨(s.q.num * (c : Int)).toNat, ?_, e, by omega, by omega⟩
  unfold unI
  rw [e, Int.mul_ediv_cancel _ (by omega)]
theorem st_le (s : Shr) (j t : Int) : st s.q j ≤ t ↔ (j - 1) * s.q.den < (t + 1) * s.q.num := by
  have n1 := s.n1
  rw [st_eq, ← Int.lt_add_one_iff, Int.ediv_lt_iff_lt_mul (by omega)]
theorem le_en (s : Shr) (j t : Int) : t ≤ en s.q j - 1 ↔ t * s.q.num < j * s.q.den := by
  have n1 := s.n1
  rw [en_eq, show t ≤ (j * s.q.den + s.q.num - 1) / s.q.num - 1 ↔ t + 1 ≤ (j * s.q.den + s.q.num - 1) / s.q.num by omega, Int.le_ediv_iff_mul_le (by omega), Int.add_mul]
  omega
theorem st_one (s : Shr) : st s.q 1 = 0 := by rw [st_eq]; simp
theorem en_last (s : Shr) {P u : Nat} (h : s.q.num * P = u * s.q.den) : en s.q u = P := by
  have n1 := s.n1
  rw [en_eq, ← h, show s.q.num * (P : Int) + s.q.num - 1 = (s.q.num - 1) + s.q.num * P by omega, Int.add_mul_ediv_left _ _ (by omega), Int.ediv_eq_zero_of_lt (by omega) (by omega)]
  omega
theorem st_shift (s : Shr) {P u : Nat} (h : s.q.num * P = u * s.q.den) (j : Int) : st s.q (j + u) = st s.q j + P := by
  have n1 := s.n1
  rw [st_eq, st_eq, show (j + (u : Int) - 1) * (s.q.den : Int) = (j - 1) * s.q.den + u * s.q.den by rw [← Int.add_mul]; congr 1; omega, ← h, Int.add_mul_ediv_left _ _ (by omega)]
theorem en_shift (s : Shr) {P u : Nat} (h : s.q.num * P = u * s.q.den) (j : Int) : en s.q (j + u) = en s.q j + P := by
  have n1 := s.n1
  rw [en_eq, en_eq, show (j + (u : Int)) * (s.q.den : Int) + s.q.num - 1 = (j * s.q.den + s.q.num - 1) + u * s.q.den by rw [Int.add_mul]; omega, ← h, Int.add_mul_ediv_left _ _ (by omega)]
/-- each tick is in a window -/
theorem win_cover (s : Shr) {P u : Nat} (h : s.q.num * P = u * s.q.den) {t : Nat} (ht : t < P) : ∃ j : Nat, j < u ∧ st s.q (1 + (j : Int)) ≤ t ∧ (t : Int) ≤ en s.q (1 + (j : Int)) - 1 := by
  have n1 := s.n1
  have d1 := s.d1
  have e0 := Int.emod_add_mul_ediv ((t : Int) * s.q.num) s.q.den
  have e1 := Int.emod_nonneg ((t : Int) * s.q.num) (show (s.q.den : Int) ≠ 0 by omega)
  have e2 := Int.emod_lt_of_pos ((t : Int) * s.q.num) (show (0 : Int) < s.q.den by omega)
  have e3 : 0 ≤ (t : Int) * s.q.num / s.q.den := Int.ediv_nonneg (Int.mul_nonneg (by omega) (by omega)) (by omega)
  have e4 : (t : Int) * s.q.num / s.q.den < u := by
    rw [Int.ediv_lt_iff_lt_mul (by omega), ← h, Int.mul_comm]
    exact Int.mul_lt_mul_of_pos_left (by omega) (by omega)
  have e5 : (((t : Int) * s.q.num / s.q.den).toNat : Int) = (t : Int) * s.q.num / s.q.den := Int.toNat_of_nonneg e3
  refine ⟨((t : Int) * s.q.num / s.q.den).toNat, by omega, ?_, ?_⟩
  · rw [st_le, e5]
    generalize (t : Int) * s.q.num / s.q.den = a at *
    rw [show (1 + a - 1) * (s.q.den : Int) = s.q.den * a by rw [Int.mul_comm]; congr 1; omega, Int.add_mul]
    omega
  · rw [le_en, e5]
    generalize (t : Int) * s.q.num / s.q.den = a at *
    rw [Int.add_mul, Int.mul_comm a]
    omega
/-- the windows with a tick are two neighbours at most -/
theorem win_two (s : Shr) (t : Nat) : ∃ a : Nat, ∀ j : Nat, st s.q (1 + (j : Int)) ≤ t → (t : Int) ≤ en s.q (1 + (j : Int)) - 1 → j = a ∨ j = a + 1 := by
  have n1 := s.n1
  have nd := s.nd
  have d1 := s.d1
  have e0 := Int.emod_add_mul_ediv ((t : Int) * s.q.num) s.q.den
  have e1 := Int.emod_nonneg ((t : Int) * s.q.num) (show (s.q.den : Int) ≠ 0 by omega)
  have e2 := Int.emod_lt_of_pos ((t : Int) * s.q.num) (show (0 : Int) < s.q.den by omega)
  have e3 : 0 ≤ (t : Int) * s.q.num / s.q.den := Int.ediv_nonneg (Int.mul_nonneg (by omega) (by omega)) (by omega)
  have e5 : (((t : Int) * s.q.num / s.q.den).toNat : Int) = (t : Int) * s.q.num / s.q.den := Int.toNat_of_nonneg e3
  refine ⟨((t : Int) * s.q.num / s.q.den).toNat, fun j h1 h2 => ?_⟩
  rw [st_le] at h1
  rw [le_en] at h2
  generalize (t : Int) * s.q.num / s.q.den = a at *
  rw [show (1 + (j : Int) - 1) = j by omega, Int.add_mul] at h1
  rw [Int.add_mul] at h2
  have k1 : a < (j : Int) + 1 := by
    refine Int.lt_of_mul_lt_mul_left (a := (s.q.den : Int)) ?_ (by omega)
    rw [Int.mul_add, Int.mul_comm _ (j : Int)]
    omega
  have k2 : (j : Int) < a + 2 := by
    refine Int.lt_of_mul_lt_mul_left (a := (s.q.den : Int)) ?_ (by omega)
    rw [Int.mul_add, Int.mul_comm _ (j : Int)]
    omega
  omega
theorem filt_two {p : Nat → Bool} {a : Nat} : ∀ u : Nat, (∀ j, p j = true → j = a ∨ j = a + 1) → ((List.range u).filter p).length ≤ (if a < u then 1 else 0) + (if a + 1 < u then 1 else 0)
  | 0, _ => by simp
  | u + 1, h => by
    have ih := filt_two u h
    rw [List.range_succ, List.filter_append, List.length_append]
    cases hp : p u with
    | false => 
      simp only [List.filter_cons, hp, List.filter_nil, Bool.false_eq_true, if_false, List.length_nil]
      split <;> split <;> split at ih <;> split at ih <;> omega
    | true =>
      simp only [List.filter_cons, hp, List.filter_nil, if_true, List.length_cons, List.length_nil]
      rcases h u hp with e | e <;> split <;> split <;> split at ih <;> split at ih <;> omega
/-- windows do not go back -/
theorem win_order (s : Shr) (j : Int) : en s.q j - 1 ≤ st s.q (j + 1) := by
  have n1 := s.n1
  rw [st_eq, Int.le_ediv_iff_mul_le (by omega), show (j + 1 - 1) = j by omega]
  exact Int.le_of_lt ((le_en s j _).mp (Int.le_refl _))
end Tk
namespace Tk
theorem rgF_1 {n : Nat} (h : n < 16777215) : rgF (some 1) (.int ((n : Int) + 1)) = some ((List.finRange n).map fun i => .int (1 + (i.val : Int))) := by
  rw [rgF_2 (by omega) (by omega) (by omega) (by omega), show ((n : Int) + 1 - 1).toNat = n by omega, ← finRange_val, List.map_map]; rfl
theorem rgF_1n {n : Nat} (h : n < 16777215) : rgF (some 1) (.int (n : Int)) = some ((List.finRange (n - 1)).map fun i => .int (1 + (i.val : Int))) := by
  rw [rgF_2 (by omega) (by omega) (by omega) (by omega), show ((n : Int) - 1).toNat = n - 1 by omega, ← finRange_val, List.map_map]; rfl
end Tk
namespace Tk
theorem ixT_rng {f : Nat → D} {n : Nat} {i : Int} (h0 : 0 ≤ i) (h : i < n) : ixF (tT f (List.range n)) (.int i) = some (f i.toNat) := by
  rw [ixT_int h0 (by rw [List.length_range]; omega), List.getElem_range]
theorem ixL_rng {f : Nat → D} {n : Nat} {i : Int} (h0 : 0 ≤ i) (h : i < n) : ixF (tL f (List.range n)) (.int i) = some (f i.toNat) := by
  rw [ixL_int h0 (by rw [List.length_range]; omega), List.getElem_range]
end Tk
namespace Tk
section
variable {C : Cl} {tg : Tg} {body : Ss}
/-- a turn made: on with the rest -/
def kLo (C : Cl) (tg : Tg) (body : Ss) (ds : List D) : R Fl → R Fl
  | .ok .nx ρ => forD C tg body ds ρ
  | .ok .ct ρ => forD C tg body ds ρ
  | .ok .bk ρ => .ok .nx ρ
  | .ok (.rt d) ρ => .ok (.rt d) ρ
  | .err c d ρ => .err c d ρ
  | .stuck => .stuck
theorem for_nil {ρ : Env} : forD C tg body [] ρ = .ok .nx ρ := rfl
theorem for_cons {d : D} {ds : List D} {ρ : Env} : forD C tg body (d :: ds) ρ = kLo C tg body ds (kGo (C := C) body (putT tg d ρ)) := by
  unfold forD
  rw [loopD]
  cases putT tg d ρ with
  | none => rfl
  | some ρ1 =>
    simp only [kGo]
    cases denSs C body ρ1 with
    | stuck => rfl
    | err _ _ _ => rfl
    | ok f ρ2 => cases f <;> rfl
theorem kLo_nx {ds : List D} {ρ : Env} : kLo C tg body ds (.ok .nx ρ) = forD C tg body ds ρ := rfl
theorem kLo_ct {ds : List D} {ρ : Env} : kLo C tg body ds (.ok .ct ρ) = forD C tg body ds ρ := rfl
theorem kLo_bk {ds : List D} {ρ : Env} : kLo C tg body ds (.ok .bk ρ) = .ok .nx ρ := rfl
theorem kLo_rt {ds : List D} {d : D} {ρ : Env} : kLo C tg body ds (.ok (.rt d) ρ) = .ok (.rt d) ρ := rfl
theorem kLo_ite {c : Prop} [Decidable c] {ds : List D} {a b : R Fl} : kLo C tg body ds (if c then a else b) = if c then kLo C tg body ds a else kLo C tg body ds b := by split <;> rfl
end
theorem bin_strC {x y : PySem.Str} (h : x.length + y.length ≤ 16777216) : binF .add (.str x) (.str y) = some (.str (x ++ y)) := by
  rw [bin_str, if_pos (by rw [bigE]; exact h)]
theorem any_no {α : Type} {xs : List α} {p : α → Bool} (h : ∀ x ∈ xs, p x = false) : xs.any p = false := by
  rw [List.any_eq_false]; intro x hx; rw [h x hx]; simp
theorem all_yes {α : Type} {xs : List α} {p : α → Bool} (h : ∀ x ∈ xs, p x = true) : xs.all p = true := by
  rw [List.all_eq_true]; exact h
end Tk

set_option Elab.async false
set_option linter.all false
set_option maxRecDepth 100000
set_option maxHeartbeats 2000000
/-! Plans. -/
namespace Tk
open PySem
/-- a lot of m works, of h at most -/
structure Lot (m : Nat) (h : Int) where
  l : List Nat
  up : l.Pairwise (· < ·)
  lt : ∀ x ∈ l, x < m
  len : (l.length : Int) ≤ h
abbrev eO {m : Nat} {h : Int} (x : Lot m h) : D := tT eN x.l
structure Pln (m : Nat) (h : Int) where
  p : List (Lot m h)
  n1 : 1 ≤ p.length
  n60 : p.length ≤ 60
abbrev eP {m : Nat} {h : Int} (p : Pln m h) : D := tT eO p.p
/-- how many lots have a work -/
def cnt {m : Nat} {h : Int} (p : List (Lot m h)) (w : Nat) : Nat := (p.filter fun x => decide (w ∈ x.l)).length
theorem cnt_le {m : Nat} {h : Int} (p : List (Lot m h)) (w : Nat) : cnt p w ≤ p.length := List.length_filter_le ..
theorem cnt_def {m : Nat} {h : Int} (p : List (Lot m h)) (w : Nat) : (p.filter fun x => decide (w ∈ x.l)).length = cnt p w := rfl
theorem Lot.len_le {m : Nat} {h : Int} (x : Lot m h) : ((x.l.length : Int) ≤ h) = True := eq_true x.len
theorem Lot.length_le {m : Nat} {h : Int} (x : Lot m h) : x.l.length ≤ m := by
  have up := x.up
  have lt := x.lt
  generalize x.l = l at *
  have g : ∀ (l : List Nat) (a : Nat), l.Pairwise (· < ·) → (∀ x ∈ l, a ≤ x ∧ x < m) → l.length ≤ m - a := by
    intro l
    induction l with
    | nil => intros; simp
    | cons x l ih =>
      intro a p q
      have p' := List.pairwise_cons.mp p
      have := ih (x + 1) p'.2 fun y hy => ⟨p'.1 y hy, (q y (List.mem_cons_of_mem _ hy)).2⟩
      have := q x List.mem_cons_self
      rw [List.length_cons]
      omega
  have := g l 0 up fun x hx => ⟨Nat.zero_le _, lt x hx⟩
  omega
theorem bi_divmod {i j : Int} (h1 : 0 < j) (h2 : j < 1073741824) : biF .divmod [.int i, .int j] = some (.tup [.int (i / j), .int (i % j)]) := by
  simp only [biF]; rw [if_pos ⟨h1, h2⟩]
/-- how many of so many first ticks serve a work, the plan being done again and again -/
def cntT {m : Nat} {h : Int} (p : Pln m h) (w : Nat) (t : Int) : Int := t / (p.p.length : Int) * (cnt p.p w : Int) + (cnt (p.p.take (t % (p.p.length : Int)).toNat) w : Int)
theorem cntT_small {m : Nat} {h : Int} (p : Pln m h) (w : Nat) {t : Nat} (ht : t ≤ p.p.length) : cntT p w t = cnt (p.p.take t) w := by
  have n1 := p.n1
  unfold cntT
  by_cases e : t = p.p.length
  · rw [e, Int.ediv_self (by omega), Int.emod_self, List.take_length]; simp [cnt]
  · rw [Int.ediv_eq_zero_of_lt (by omega) (by omega), Int.emod_eq_of_lt (by omega) (by omega)]; simp
/-- the lag of a work at a time -/
def lagT {m : Nat} {h : Int} (w : Wks) (p : Pln m h) (i : Nat) (hi : i < w.l.length) (t : Int) : Rat := w.l[i].q * (t : Rat) - ((cntT p i t : Int) : Rat)
theorem lagT_DN {m : Nat} {h : Int} (w : Wks) (p : Pln m h) (i : Nat) (hi : i < w.l.length) (t : Int) : DN w.l[i].q.den (lagT w p i hi t) :=
  DN.sub w.l[i].q.den_nz (DN.mulI w.l[i].q.den_nz (Nat.dvd_refl _)) DN.int
theorem lagT_den {m : Nat} {h : Int} (w : Wks) (p : Pln m h) (i : Nat) (hi : i < w.l.length) (t : Int) : (lagT w p i hi t).den ≤ 12 :=
  Nat.le_trans ((lagT_DN w p i hi t).le w.l[i].q.den_nz) w.l[i].d12
theorem mulT_den (s : Shr) (t : Int) : (s.q * (t : Rat)).den ≤ 12 := Nat.le_trans ((DN.mulI s.q.den_nz (Nat.dvd_refl _)).le s.q.den_nz) s.d12
theorem abs_den {q : Rat} : q.abs.den = q.den := by unfold Rat.abs; split <;> rfl
theorem int_den {i : Int} : (i : Rat).den = 1 := Rat.den_intCast i
theorem eO_flat {m : Nat} {h : Int} {n : Nat} (x : Lot m h) : D.flat (n + 1) (eO x) = true := flat_tT fun _ _ => flat_int
end Tk

set_option Elab.async false
set_option linter.all false
set_option maxRecDepth 100000
set_option maxHeartbeats 2000000
/-! Loops with an exit. -/
namespace Tk
open PySem
section
variable {C : Cl} {tg : Tg} {body : Ss}
def OkR (d : D) (P : Env → Prop) (r : R Fl) : Prop := ∃ ρ, r = .ok (.rt d) ρ ∧ P ρ
theorem okR_rt {P : Env → Prop} {d e : D} {ρ : Env} : OkR d P (.ok (.rt e) ρ) = (e = d ∧ P ρ) := propext ⟨fun ⟨_, h, p⟩ => by cases h; exact ⟨rfl, p⟩, fun ⟨h, p⟩ => ⟨ρ, by rw [h], p⟩⟩
/-- a turn goes on, or ends the loop with a value -/
def OkT (o : Option D) (P : Env → Prop) (r : R Fl) : Prop := match o with
  | none => OkI P r
  | some d => OkR d P r
theorem okT_none {P : Env → Prop} {r : R Fl} : OkT none P r = OkI P r := rfl
theorem okT_some {P : Env → Prop} {d : D} {r : R Fl} : OkT (some d) P r = OkR d P r := rfl
theorem for_find {α : Type} {f : α → D} {xs : List α} (q : α → Option D) (I : Env → Prop) {ρ : Env} (h0 : I ρ)
    (h : ∀ x ∈ xs, ∀ ρ, I ρ → OkT (q x) I (kGo (C := C) body (putT tg (f x) ρ))) : ∃ ρ', I ρ' ∧ match xs.findSome? q with
      | none => forD C tg body (xs.map f) ρ = .ok .nx ρ'
      | some d => forD C tg body (xs.map f) ρ = .ok (.rt d) ρ' := by
  unfold forD
  induction xs generalizing ρ with
  | nil => exact ⟨ρ, h0, rfl⟩
  | cons x xs ih =>
    have hx := h x List.mem_cons_self ρ h0
    rw [List.findSome?_cons]
    cases hq : q x with
    | some d =>
      rw [hq] at hx
      obtain ⟨ρ2, h2, h3⟩ := hx
      refine ⟨ρ2, h3, ?_⟩
      cases h1 : putT tg (f x) ρ with
      | none => rw [h1] at h2; cases h2
      | some ρ1 =>
        rw [h1] at h2
        simp only [kGo] at h2
        simp only [List.map_cons, loopD, h1, h2]
    | none =>
      rw [hq] at hx
      obtain ⟨ρ2, h2, h3⟩ := hx
      obtain ⟨ρ', h4, h5⟩ := ih h3 fun y hy => h y (List.mem_cons_of_mem _ hy)
      refine ⟨ρ', h4, ?_⟩
      cases h1 : putT tg (f x) ρ with
      | none => rw [h1] at h2; rcases h2 with h2 | h2 <;> cases h2
      | some ρ1 =>
        rw [h1] at h2
        simp only [kGo] at h2
        have e : ∀ r, loopD (putT tg) (denSs C body) (xs.map f) ρ2 = r → loopD (putT tg) (denSs C body) ((x :: xs).map f) ρ = r := fun r e => by
          rcases h2 with h2 | h2 <;> simp only [List.map_cons, loopD, h1, h2, e]
        simp only
        split at h5 <;> exact e _ h5
/-- a while loop that counts: turn t goes on to t + 1, until it ends of itself or with a value -/
theorem wh_count {c : E} {I : Nat → Env → Prop} (T : Nat) (ht : ∀ t, t < T → ∀ ρ, I t ρ → ∃ ρ1, isB (denE C c ρ) = .ok true ρ1 ∧ OkI (I (t + 1)) (denSs C body ρ1)) :
    ∀ (n t fuel : Nat) (ρ : Env), t + n = T → n < fuel → I t ρ → ∃ ρ', I T ρ' ∧ whD C c body fuel ρ = whD C c body (fuel - n) ρ' := by
  intro n
  induction n with
  | zero => intro t fuel ρ e _ hi; exact ⟨ρ, by rw [← e]; exact hi, rfl⟩
  | succ n ih =>
    intro t fuel ρ e hf hi
    obtain ⟨ρ1, h1, ρ2, h2, h3⟩ := ht t (by omega) ρ hi
    obtain ⟨f, rfl⟩ : ∃ f, fuel = f + 1 := ⟨fuel - 1, by omega⟩
    obtain ⟨ρ', h4, h5⟩ := ih (t + 1) f ρ2 (by omega) (by omega) h3
    refine ⟨ρ', h4, ?_⟩
    rw [wh_step, h1]
    simp only [R.bind, kW1, if_true]
    rw [show f + 1 - (n + 1) = f - n by omega, ← h5]
    rcases h2 with h2 | h2 <;> rw [h2] <;> rfl
end
end Tk

set_option Elab.async false
set_option linter.all false
set_option maxRecDepth 100000
set_option maxHeartbeats 2000000
/-! Sorted lists. -/
namespace Tk
open PySem
theorem leD_int (a b : Int) : leD (.int a) (.int b) = decide (a ≤ b) := by
  have := congrFun (congrFun (PySem.W.dataLe_int (fun x : Int => x)) a) b
  exact this
theorem leD_pair (a b c d : Int) : leD (.tup [.int a, .int b]) (.tup [.int c, .int d]) = decide (a < c ∨ (a = c ∧ b ≤ d)) := by
  have := congrFun (congrFun (PySem.W.dataLe_ii (fun x : Int × Int => x.1) (fun x => x.2)) (a, b)) (c, d)
  exact this
section
variable {α : Type} {f : α → D} {xs : List α}
theorem ok_sort {n : Nat} (hl : xs.length ≤ 16777216) (hf : ∀ x, D.flat n (f x) = true) (hn : n ≤ 59) (ha : ∀ x y, PySem.W.alike (toP (f x)) (toP (f y)) = true) (ht : (∀ x, neTup (f x) = true) ∨ ∀ x, noTup (f x) = true) : okSort (xs.map f) = true := by
  unfold okSort
  simp only [Bool.and_eq_true, decide_eq_true_eq, Bool.or_eq_true, List.length_map, List.all_map, List.all_eq_true, Function.comp_apply]
  refine ⟨⟨⟨flats_all fun d hd => ?_, hl⟩, fun x _ y _ => ha x y⟩, ?_⟩
  · obtain ⟨x, _, rfl⟩ := List.mem_map.mp hd; exact flat_le hn (hf x)
  · rcases ht with ht | ht
    · exact .inl fun x _ => ht x
    · exact .inr fun x _ => ht x
theorem sort_T (le : α → α → Bool) (ok : okSort (xs.map f) = true) (hle : ∀ a ∈ xs, ∀ b ∈ xs, le a b = leD (f a) (f b)) : biF .sorted [tL f xs] = some (tL f (xs.mergeSort le)) := by
  show sortF (xs.map f) = _
  unfold sortF
  rw [if_pos ok]
  unfold tL
  rw [List.map_mergeSort hle]
end
theorem sort_i {xs : List Int} (hl : xs.length ≤ 16777216) : biF .sorted [tL .int xs] = some (tL .int (xs.mergeSort fun a b => decide (a ≤ b))) :=
  sort_T _ (ok_sort (n := 0) hl (fun _ => flat_int) (by omega) (fun _ _ => by simp [toP, PySem.W.alike]) (.inr fun _ => rfl)) fun a _ b _ => (leD_int a b).symm
theorem sort_n {xs : List Nat} (hl : xs.length ≤ 16777216) : biF .sorted [tL eN xs] = some (tL eN (xs.mergeSort fun a b => decide (a ≤ b))) :=
  sort_T _ (ok_sort (n := 0) hl (fun _ => flat_int) (by omega) (fun _ _ => by simp [toP, PySem.W.alike]) (.inr fun _ => rfl)) fun a _ b _ => by
    rw [leD_int]; exact decide_eq_decide.mpr (by omega)
theorem sort_p {α : Type} {f g : α → Int} {xs : List α} (hl : xs.length ≤ 16777216) : biF .sorted [tL (fun x => .tup [.int (f x), .int (g x)]) xs] = some (tL (fun x => .tup [.int (f x), .int (g x)]) (xs.mergeSort fun a b => decide (f a < f b ∨ (f a = f b ∧ g a ≤ g b)))) :=
  sort_T _ (ok_sort (n := 1) hl (fun _ => by simp only [D.flat, D.flats, Bool.and_self]) (by omega) (fun _ _ => by simp [toP, toPs, PySem.W.alike, PySem.W.alikeAll]) (.inl fun _ => rfl)) fun a _ b _ => (leD_pair _ _ _ _).symm
theorem sort_nil : biF .sorted [.lst []] = some (.lst []) := by
  show sortF [] = _
  unfold sortF
  rw [if_pos (by decide +kernel)]
  rw [List.mergeSort_nil]
/-! ### works by their lags: the greatest first, of several the least -/
def rkB (lg : Nat → Rat) (a b : Nat) : Bool := decide (lg b < lg a ∨ (lg a = lg b ∧ a ≤ b))
theorem rkB_t {lg : Nat → Rat} {a b : Nat} : rkB lg a b = true ↔ lg b < lg a ∨ (lg a = lg b ∧ a ≤ b) := decide_eq_true_iff
theorem rkB_trans (lg : Nat → Rat) (a b c : Nat) : rkB lg a b = true → rkB lg b c = true → rkB lg a c = true := by
  rw [rkB_t, rkB_t, rkB_t]
  rintro (h | ⟨h, g⟩) (h' | ⟨h', g'⟩)
  · exact .inl (by grind)
  · exact .inl (by grind)
  · exact .inl (by grind)
  · exact .inr ⟨by grind, by omega⟩
theorem rkB_total (lg : Nat → Rat) (a b : Nat) : (rkB lg a b || rkB lg b a) = true := by
  rw [Bool.or_eq_true, rkB_t, rkB_t]
  by_cases h1 : lg a < lg b
  · exact .inr (.inl h1)
  · by_cases h2 : lg b < lg a
    · exact .inl (.inl h2)
    · have e : lg a = lg b := by grind
      rcases Nat.le_total a b with g | g
      · exact .inl (.inr ⟨e, g⟩)
      · exact .inr (.inr ⟨e.symm, g⟩)
theorem rkB_anti (lg : Nat → Rat) (a b : Nat) : rkB lg a b = true → rkB lg b a = true → a = b := by
  rw [rkB_t, rkB_t]
  rintro (h | ⟨h, g⟩) (h' | ⟨h', g'⟩)
  · grind
  · grind
  · grind
  · omega
def selB (lg : Nat → Rat) (x : Nat) (xs : List Nat) : Nat := xs.foldl (fun b y => if lg b < lg y then y else b) x
theorem sel_best (lg : Nat → Rat) : ∀ (xs seen : List Nat) (b : Nat), b ∈ seen → (∀ z ∈ seen, rkB lg b z = true) → (∀ z ∈ seen, ∀ y ∈ xs, z < y) → xs.Pairwise (· < ·) →
    selB lg b xs ∈ seen ++ xs ∧ ∀ y ∈ seen ++ xs, rkB lg (selB lg b xs) y = true
  | [], seen, b, hb, h, _, _ => by simpa [selB] using ⟨hb, h⟩
  | y :: ys, seen, b, hb, h, hs, hp => by
    have hp' := List.pairwise_cons.mp hp
    have e : selB lg b (y :: ys) = selB lg (if lg b < lg y then y else b) ys := rfl
    rw [e]
    have := sel_best lg ys (seen ++ [y]) (if lg b < lg y then y else b) (by split <;> simp [hb]) (fun z hz => by
      rcases List.mem_append.mp hz with hz | hz
      · have h1 := rkB_t.mp (h z hz)
        split
        · rw [rkB_t]; left; rcases h1 with h1 | h1 <;> grind
        · exact h z hz
      · have hz' : z = y := by simpa using hz
        subst hz'
        split
        · rw [rkB_t]; exact .inr ⟨rfl, Nat.le_refl _⟩
        · rename_i c
          have lt := hs b hb z List.mem_cons_self
          rw [rkB_t]
          by_cases c2 : lg z < lg b
          · exact .inl c2
          · exact .inr ⟨by grind, by omega⟩) (fun z hz w hw => by
      rcases List.mem_append.mp hz with hz | hz
      · exact hs z hz w (List.mem_cons_of_mem _ hw)
      · have hz' : z = y := by simpa using hz
        subst hz'
        exact hp'.1 w hw) hp'.2
    simpa using this
/-- on the way: f told, l left -/
structure Rk (lg : Nat → Rat) (n t : Nat) (l f : List Nat) : Prop where
  len : l.length + t = n
  up : l.Pairwise (· < ·)
  perm : (f ++ l).Perm (List.range n)
  srt : f.Pairwise fun a b => rkB lg a b = true
  ahead : ∀ a ∈ f, ∀ b ∈ l, rkB lg a b = true
theorem Rk.zero (lg : Nat → Rat) (n : Nat) : Rk lg n 0 (List.range n) [] := ⟨by simp, List.pairwise_lt_range, by simp, .nil, by simp⟩
theorem Rk.step {lg : Nat → Rat} {n t : Nat} {x : Nat} {xs f : List Nat} (r : Rk lg n t (x :: xs) f) : Rk lg n (t + 1) ((x :: xs).filter fun y => !decide (y = selB lg x xs)) (f ++ [selB lg x xs]) := by
  have hp := List.pairwise_cons.mp r.up
  obtain ⟨h1, h2⟩ := sel_best lg xs [x] x (by simp) (by simp [rkB]) (by simpa using hp.1) hp.2
  simp only [List.singleton_append] at h1 h2
  generalize selB lg x xs = b at *
  have nd : (x :: xs).Nodup := r.up.imp fun h => Nat.ne_of_lt h
  have pm : (b :: (x :: xs).filter fun y => !decide (y = b)).Perm (x :: xs) := by
    have e : ((x :: xs).filter fun y => !decide (y = b)) = (x :: xs).erase b := by
      rw [nd.erase_eq_filter]
      refine List.filter_congr fun y _ => ?_
      by_cases c : y = b <;> simp [c]
    rw [e]
    exact (List.perm_cons_erase h1).symm
  have ln := pm.length_eq
  simp only [List.length_cons] at ln
  refine ⟨?_, r.up.filter _, ?_, ?_, ?_⟩
  · have := r.len
    simp only [List.length_cons] at this
    omega
  · rw [List.append_assoc, List.singleton_append]
    exact (pm.append_left f).trans r.perm
  · rw [List.pairwise_append]
    exact ⟨r.srt, List.pairwise_singleton _ _, fun a ha c hc => by
      have : c = b := by simpa using hc
      subst this
      exact r.ahead a ha c h1⟩
  · intro a ha c hc
    have hc' := (List.mem_filter.mp hc).1
    rcases List.mem_append.mp ha with ha | ha
    · exact r.ahead a ha c hc'
    · have : a = b := by simpa using ha
      subst this
      exact h2 c hc'
theorem Rk.done {lg : Nat → Rat} {n : Nat} {l f : List Nat} (r : Rk lg n n l f) : l = [] ∧ f = (List.range n).mergeSort (rkB lg) := by
  have e : l = [] := List.length_eq_zero_iff.mp (by have := r.len; omega)
  subst e
  refine ⟨rfl, List.Perm.eq_of_pairwise (fun a b _ _ => rkB_anti lg a b) r.srt (List.pairwise_mergeSort (rkB_trans lg) (rkB_total lg) _) ?_⟩
  have := r.perm
  rw [List.append_nil] at this
  exact this.trans (List.mergeSort_perm _ _).symm
end Tk

set_option Elab.async false
set_option linter.all false
set_option maxRecDepth 100000
set_option maxHeartbeats 2000000
/-! Comprehensions that change something (draws); more steps. -/
namespace Tk
open PySem
inductive All2 {α β : Type} (R : α → β → Prop) : List α → List β → Prop where
  | nil : All2 R [] []
  | cons {a b as bs} (h : R a b) (t : All2 R as bs) : All2 R (a :: as) (b :: bs)
section
variable {C : Cl}
def kT2 (y : D) (ρ : Env) : R (Option D) := .ok (some y) ρ
def kT (elt : E) (b : Bool) (ρ : Env) : R (Option D) := if b then (denE C elt ρ).bind kT2 else .ok none ρ
def cGo (elt : E) (ifs : Eo) : Option Env → R (Option D)
  | some ρ => (denIf C ifs ρ).bind (kT (C := C) elt)
  | none => .stuck
theorem cGo_s {elt : E} {ifs : Eo} {ρ : Env} : cGo (C := C) elt ifs (some ρ) = (denIf C ifs ρ).bind (kT (C := C) elt) := rfl
theorem kT_eq {elt : E} {b : Bool} {ρ : Env} : kT (C := C) elt b ρ = if b = true then (denE C elt ρ).bind kT2 else .ok none ρ := rfl
def OkC (Q : Option D → Prop) (P : Env → Prop) (r : R (Option D)) : Prop := ∃ o ρ, r = .ok o ρ ∧ Q o ∧ P ρ
theorem okC_ok {Q : Option D → Prop} {P : Env → Prop} {o : Option D} {ρ : Env} : OkC Q P (.ok o ρ) = (Q o ∧ P ρ) := propext ⟨fun ⟨_, _, h, q, p⟩ => by cases h; exact ⟨q, p⟩, fun ⟨q, p⟩ => ⟨o, ρ, rfl, q, p⟩⟩
theorem okC_ite {Q : Option D → Prop} {P : Env → Prop} {c : Prop} [Decidable c] {a b : R (Option D)} : OkC Q P (if c then a else b) = if c then OkC Q P a else OkC Q P b := by split <;> rfl
theorem compD_fx {elt : E} {ifs : Eo} {tg : Tg} {own : List Nat} {α : Type} {f : α → D} (Q : α → Option D → Prop) (I : Env → Prop) : ∀ {xs : List α} {acc : List D} {ρ : Env}, I ρ → acc.length + xs.length ≤ big →
    (∀ x ∈ xs, ∀ ρ, I ρ → OkC (Q x) I (cGo (C := C) elt ifs (putT tg (f x) (wipeS ρ own)))) → ∃ (os : List (Option D)) (ρ' : Env), All2 Q xs os ∧ I ρ' ∧ compD (putT tg) own (denIf C ifs) (denE C elt) acc (xs.map f) ρ = .ok (acc ++ os.filterMap id) ρ'
  | [], acc, ρ, h, _, _ => ⟨[], ρ, .nil, h, by simp [compD]⟩
  | x :: xs, acc, ρ, h, hl, st => by
    obtain ⟨o, ρ2, h1, h2, h3⟩ := st x List.mem_cons_self ρ h
    simp only [List.length_cons] at hl
    rw [List.map_cons, compD]
    cases hp : putT tg (f x) (wipeS ρ own) with
    | none => rw [hp] at h1; cases h1
    | some ρ1 =>
      rw [hp] at h1
      simp only [cGo] at h1 ⊢
      cases ht : denIf C ifs ρ1 with
      | stuck => rw [ht] at h1; cases h1
      | err _ _ _ => rw [ht] at h1; cases h1
      | ok b ρ3 =>
        rw [ht] at h1
        simp only [R.bind, noErr] at h1 ⊢
        cases b with
        | false =>
          simp only [kT, Bool.false_eq_true, if_false] at h1 ⊢
          cases h1
          obtain ⟨os, ρ', g1, g2, g3⟩ := compD_fx Q I (xs := xs) (acc := acc) h3 (by omega) fun y hy => st y (List.mem_cons_of_mem _ hy)
          exact ⟨none :: os, ρ', .cons h2 g1, g2, by rw [g3]; rfl⟩
        | true =>
          simp only [kT, if_true] at h1 ⊢
          cases he : denE C elt ρ3 with
          | stuck => rw [he] at h1; cases h1
          | err _ _ _ => rw [he] at h1; cases h1
          | ok y ρ4 =>
            rw [he] at h1
            simp only [R.bind, kT2] at h1 ⊢
            cases h1
            have hlt : acc.length < big := by omega
            rw [if_pos hlt]
            obtain ⟨os, ρ', g1, g2, g3⟩ := compD_fx Q I (xs := xs) (acc := acc ++ [y]) h3 (by simp; omega) fun z hz => st z (List.mem_cons_of_mem _ hz)
            exact ⟨some y :: os, ρ', .cons h2 g1, g2, by rw [g3, List.append_assoc]; rfl⟩
theorem e_comp_fx {elt : E} {tg : Tg} {it : It} {ifs : Eo} {own : List Nat} {ρ ρ1 : Env} {α : Type} {f : α → D} {xs : List α} (Q : α → Option D → Prop) (I : Env → Prop) (hi : denIt C it ρ = .ok (xs.map f, []) ρ1) (hp : (own.all fun i => plainS (getS ρ1 i)) = true) (hl : xs.length ≤ 16777216) (h0 : I ρ1)
    (st : ∀ x ∈ xs, ∀ ρ, I ρ → OkC (Q x) I (cGo (C := C) elt ifs (putT tg (f x) (wipeS ρ own)))) : ∃ (os : List (Option D)) (ρ2 : Env), All2 Q xs os ∧ I ρ2 ∧ denE C (.comp elt tg it ifs own) ρ = .ok (.lst (os.filterMap id)) (back ρ1 ρ2 own) := by
  obtain ⟨os, ρ2, g1, g2, g3⟩ := compD_fx Q I (acc := []) h0 (by simpa [big] using hl) st
  refine ⟨os, ρ2, g1, g2, ?_⟩
  simp only [denE, hi, R.bind, hp, if_true, g3, List.nil_append, unlockAll, ofO]
/-- some of the items are kept -/
theorem fx_some {α : Type} {g : α → D} : ∀ {xs : List α} {os : List (Option D)}, All2 (fun x o => o = none ∨ o = some (g x)) xs os → ∃ ys : List α, ys.Sublist xs ∧ os.filterMap id = ys.map g
  | _, _, .nil => ⟨[], .refl _, rfl⟩
  | x :: xs, _, .cons h t => by
    obtain ⟨ys, h1, h2⟩ := fx_some t
    rcases h with rfl | rfl
    · exact ⟨ys, h1.cons x, by simpa using h2⟩
    · exact ⟨x :: ys, h1.cons₂ x, by simpa using h2⟩
/-- each item is made something with P -/
theorem fx_all {α β : Type} {e : β → D} {P : β → Prop} : ∀ {xs : List α} {os : List (Option D)}, All2 (fun _ o => ∃ v, o = some (e v) ∧ P v) xs os → ∃ vs : List β, vs.length = xs.length ∧ (∀ v ∈ vs, P v) ∧ os.filterMap id = vs.map e
  | _, _, .nil => ⟨[], rfl, by simp, rfl⟩
  | x :: xs, _, .cons h t => by
    obtain ⟨vs, h1, h2, h3⟩ := fx_all t
    obtain ⟨v, rfl, hv⟩ := h
    refine ⟨v :: vs, by simp [h1], ?_, by simpa using h3⟩
    intro z hz
    rcases List.mem_cons.mp hz with rfl | hz
    · exact hv
    · exact h2 z hz
end
section
variable {i : Nat} {ρ : Env}
theorem kMt2_popN {l : List Nat} {j : Int} (h0 : 0 ≤ j) (h : j < l.length) (h2 : l.length < 1000000) : kMt2 .popAt i [.int j] ρ (some (tL eN l)) = .ok (eN (l[j.toNat]'(by omega))) (ρ.set i ((getS ρ i).with (tL eN (l.eraseIdx j.toNat)))) := by
  unfold tL
  have e : mtF .popAt (l.map eN) [.int j] = some (eN (l[j.toNat]'(by omega)), (l.eraseIdx j.toNat).map eN) := by
    simp only [mtF]
    rw [if_pos (by omega), List.length_map, ixOf_i h0 h, Option.bind_some, List.getElem?_eq_getElem (by rw [List.length_map]; omega)]
    simp [List.eraseIdx_eq_take_drop_succ, List.map_take, List.map_drop]
  rw [kMt2, e]; rfl
theorem kSet2_i {y : Int} {k : Int} {xs : List Int} (h0 : 0 ≤ k) (h : k < xs.length) : kSet2 i (.int y) (.int k) ρ (some (tL .int xs)) = .ok .nx (ρ.set i ((getS ρ i).with (tL .int (xs.set k.toNat y)))) := by
  have := kSet2_L (i := i) (ρ := ρ) (f := D.int) (y := y) (k := k.toNat) (xs := xs) (by omega)
  rwa [Int.toNat_of_nonneg h0] at this
theorem kMt2_O {m : Nat} {h : Int} {s : Lot m h} {xs : List (Lot m h)} (hl : xs.length < 16777216) : kMt2 .append i [eO s] ρ (some (tL eO xs)) = .ok .non (ρ.set i ((getS ρ i).with (tL eO (xs ++ [s])))) := kMt2_L hl
theorem kSet2_O {m : Nat} {h : Int} {y : Lot m h} {k : Int} {xs : List (Lot m h)} (h0 : 0 ≤ k) (hl : k < xs.length) : kSet2 i (eO y) (.int k) ρ (some (tL eO xs)) = .ok .nx (ρ.set i ((getS ρ i).with (tL eO (xs.set k.toNat y)))) := by
  have := kSet2_L (i := i) (ρ := ρ) (f := eO) (y := y) (k := k.toNat) (xs := xs) (by omega)
  rwa [Int.toNat_of_nonneg h0] at this
theorem put_nfQ {is : List Nat} {j : Nat} {e : D} {q : Rat} : putT (.nest false is j) (.tup [e, eQ q]) ρ = (putS ρ j (.val e)).bind fun ρ1 => putAll ρ1 is [.int q.num, .int q.den] := rfl
theorem put_ntQ {is : List Nat} {j : Nat} {e : D} {q : Rat} : putT (.nest true is j) (.tup [eQ q, e]) ρ = (putAll ρ is [.int q.num, .int q.den]).bind fun ρ1 => putS ρ1 j (.val e) := rfl
end
theorem enumD_fin {α : Type} {f : α → D} {xs : List α} : enumD (xs.map f) = (List.finRange xs.length).map fun i => .tup [.int (i.val : Int), f xs[i.val]] := by
  unfold enumD
  refine List.ext_getElem (by simp) fun i h1 h2 => by simp
theorem mk_lot {m : Nat} {h : Int} {l : List Nat} (nd : l.Nodup) (lt : ∀ x ∈ l, x < m) (hl : (l.length : Int) ≤ h) : ∃ x : Lot m h, l.mergeSort (fun a b => decide (a ≤ b)) = x.l := by
  have pm := List.mergeSort_perm l (fun a b => decide (a ≤ b))
  have up := List.pairwise_mergeSort (le := fun a b : Nat => decide (a ≤ b)) (fun a b c => by simp only [decide_eq_true_eq]; omega) (fun a b => by simp only [Bool.or_eq_true, decide_eq_true_eq]; omega) l
  generalize l.mergeSort (fun a b => decide (a ≤ b)) = s at *
  refine ⟨⟨s, ?_, fun x hx => lt x (pm.mem_iff.mp hx), by rw [pm.length_eq]; exact hl⟩, rfl⟩
  have nd2 : s.Nodup := pm.nodup_iff.mpr nd
  refine (up.and nd2).imp ?_
  rintro a b ⟨h1, h2⟩
  have := of_decide_eq_true h1
  omega
def Lot.tail {m : Nat} {h : Int} (x : Lot m h) : Lot m h := ⟨x.l.drop 1, x.up.sublist (List.drop_sublist ..), fun y hy => x.lt y (List.mem_of_mem_drop hy), by have := x.len; rw [List.length_drop]; omega⟩
end Tk
namespace Tk
theorem repl0 {n : Nat} (h : n < 1000000) : binF .mul (.lst [.int 0]) (.int (n : Int)) = some (tL .int (List.replicate n 0)) := by
  have z : big = 16777216 := rfl
  rw [bin_repl, if_pos (by simp only [Bool.and_eq_true, decide_eq_true_eq, List.length_singleton]; omega)]
  have e : ∀ m : Nat, (List.replicate m [D.int 0]).flatten = (List.replicate m (0 : Int)).map .int := fun m => by
    induction m with
    | zero => rfl
    | succ m ih => rw [List.replicate_succ, List.flatten_cons, ih, List.replicate_succ]; rfl
  rw [Int.toNat_natCast, e]; rfl
end Tk
namespace Tk
theorem isLst_l {ds : List D} : isLst (.lst ds) = true := rfl
theorem isLst_P {p : Int × Int} : isLst (ePool p) = true := rfl
end Tk

set_option Elab.async false
set_option linter.all false
set_option maxRecDepth 100000
set_option maxHeartbeats 2000000
/-! Counts and lags: plain facts. -/
namespace Tk
open PySem
section
variable {m : Nat} {h : Int}
theorem cnt_append (p q : List (Lot m h)) (i : Nat) : cnt (p ++ q) i = cnt p i + cnt q i := by unfold cnt; rw [List.filter_append, List.length_append]
theorem cnt_take_succ (p : List (Lot m h)) (i r : Nat) (hr : r < p.length) : cnt (p.take (r + 1)) i = cnt (p.take r) i + if i ∈ p[r].l then 1 else 0 := by
  rw [List.take_succ_eq_append_getElem hr, cnt_append]
  congr 1
  unfold cnt
  by_cases c : i ∈ p[r].l <;> simp [c]
theorem cntT_nat (p : Pln m h) (i t : Nat) : cntT p i t = ((t / p.p.length * cnt p.p i + cnt (p.p.take (t % p.p.length)) i : Nat) : Int) := by
  unfold cntT
  rw [Int.natCast_add, Int.natCast_mul, Int.natCast_ediv]
  congr 3
theorem cntT_zero (p : Pln m h) (i : Nat) : cntT p i 0 = 0 := by
  have := cntT_nat p i 0
  simpa [cnt] using this
theorem cntT_succ (p : Pln m h) (i t : Nat) : cntT p i ((t : Int) + 1) = cntT p i t + if i ∈ (p.p[t % p.p.length]'(Nat.mod_lt _ p.n1)).l then 1 else 0 := by
  have e : ((t : Int) + 1) = ((t + 1 : Nat) : Int) := by omega
  have n1 := p.n1
  have hr := Nat.mod_lt t p.n1
  rw [e, cntT_nat, cntT_nat]
  have c := cnt_take_succ p.p i (t % p.p.length) hr
  have d := Nat.div_add_mod t p.p.length
  by_cases g : t % p.p.length + 1 < p.p.length
  · have e1 : (t + 1) / p.p.length = t / p.p.length := by
      rw [show t + 1 = (t % p.p.length + 1) + p.p.length * (t / p.p.length) by omega, Nat.add_mul_div_left _ _ (by omega), Nat.div_eq_of_lt g, Nat.zero_add]
    have e2 : (t + 1) % p.p.length = t % p.p.length + 1 := by
      rw [show t + 1 = (t % p.p.length + 1) + p.p.length * (t / p.p.length) by omega, Nat.add_mul_mod_self_left, Nat.mod_eq_of_lt g]
    rw [e1, e2, c]
    split <;> omega
  · have g' : t % p.p.length + 1 = p.p.length := by omega
    have e1 : (t + 1) / p.p.length = t / p.p.length + 1 := by
      rw [show t + 1 = 0 + p.p.length * (t / p.p.length + 1) by rw [Nat.mul_add]; omega, Nat.add_mul_div_left _ _ (by omega), Nat.zero_div, Nat.zero_add]
    have e2 : (t + 1) % p.p.length = 0 := by
      rw [show t + 1 = 0 + p.p.length * (t / p.p.length + 1) by rw [Nat.mul_add]; omega, Nat.add_mul_mod_self_left, Nat.zero_mod]
    rw [g', List.take_length] at c
    rw [e1, e2, List.take_zero, Nat.add_mul]
    have z : cnt ([] : List (Lot m h)) i = 0 := rfl
    rw [z]
    by_cases hi : i ∈ (p.p[t % p.p.length]'(Nat.mod_lt _ p.n1)).l
    · simp only [hi, if_true] at c ⊢; omega
    · simp only [hi, if_false] at c ⊢; omega
/-- all counts together are all places -/
def szs (p : List (Lot m h)) : Nat := (p.map fun x => x.l.length).sum
theorem sum_ind (n : Nat) : ∀ l : List Nat, l.Nodup → (∀ x ∈ l, x < n) → ((List.range n).map fun i => if i ∈ l then 1 else 0).sum = l.length := by
  intro l nd lt
  have e : ((List.range n).map fun i => if i ∈ l then 1 else 0).sum = ((List.range n).filter fun i => decide (i ∈ l)).length := by
    generalize List.range n = r
    induction r with
    | nil => rfl
    | cons x r ih =>
      rw [List.map_cons, List.sum_cons, ih, List.filter_cons]
      by_cases c : x ∈ l <;> simp [c] <;> omega
  rw [e]
  refine List.Perm.length_eq ?_
  rw [List.perm_ext_iff_of_nodup (List.nodup_range.filter _) nd]
  intro x
  rw [List.mem_filter, List.mem_range, decide_eq_true_eq]
  exact ⟨fun z => z.2, fun z => ⟨lt x z, z⟩⟩
theorem sum_add {α : Type} (f g : α → Nat) (l : List α) : (l.map fun x => f x + g x).sum = (l.map f).sum + (l.map g).sum := by
  induction l with
  | nil => rfl
  | cons x l ih => simp only [List.map_cons, List.sum_cons, ih]; omega
theorem sum_cnt : ∀ p : List (Lot m h), ((List.range m).map fun i => cnt p i).sum = szs p
  | [] => by
    have : (fun i => cnt ([] : List (Lot m h)) i) = fun _ => 0 := rfl
    rw [this]
    generalize List.range m = r
    induction r with
    | nil => rfl
    | cons x r ih => rw [List.map_cons, List.sum_cons, ih]; rfl
  | x :: p => by
    have e : (fun i => cnt (x :: p) i) = fun i => (if i ∈ x.l then 1 else 0) + cnt p i := by
      funext i
      unfold cnt
      rw [List.filter_cons]
      by_cases c : i ∈ x.l <;> simp [c]
      omega
    rw [e, sum_add, sum_cnt p, sum_ind m x.l (x.up.imp fun h => Nat.ne_of_lt h) x.lt]
    rfl
theorem szs_le {p : List (Lot m h)} (hh : 0 ≤ h) : (szs p : Int) ≤ p.length * h := by
  induction p with
  | nil => simp [szs]
  | cons x p ih =>
    have := x.len
    unfold szs at ih ⊢
    rw [List.map_cons, List.sum_cons, List.length_cons]
    have e : ((p.length + 1 : Nat) : Int) * h = p.length * h + h := by rw [Int.natCast_add, Int.add_mul]; simp
    rw [e]
    omega
end
theorem mk_eq (n : Int) {d : Nat} (hd : 0 < d) : mkRat n d = (n : Rat) / ((d : Int) : Rat) := by
  have := mk_div n (d : Int) (by omega)
  rwa [Int.toNat_natCast] at this
theorem cast_ne {d : Nat} (hd : 0 < d) : ((d : Int) : Rat) ≠ 0 := fun z => by
  have : ((d : Int) : Rat) = ((0 : Int) : Rat) := z
  have := Rat.intCast_inj.mp this
  omega
/-- a rational number times its lower number -/
theorem mul_den (q : Rat) : q * ((q.den : Int) : Rat) = (q.num : Rat) := by
  have e := mk_eq q.num q.den_pos
  rw [Rat.mkRat_self] at e
  conv => lhs; arg 1; rw [e]
  exact Rat.div_mul_cancel (cast_ne q.den_pos)
theorem mk_mul_den (n : Int) {d : Nat} (hd : 0 < d) : mkRat n d * ((d : Int) : Rat) = (n : Rat) := by
  rw [mk_eq n hd]; exact Rat.div_mul_cancel (cast_ne hd)
theorem eq_of_mul {a b : Rat} {d : Nat} (hd : 0 < d) (h : a * ((d : Int) : Rat) = b * ((d : Int) : Rat)) : a = b := by
  have e := Rat.mul_div_cancel (a := a) (cast_ne hd)
  rw [h, Rat.mul_div_cancel (cast_ne hd)] at e
  exact e.symm
theorem lag_mk (q : Rat) (t c : Int) : mkRat (q.num * t - (q.den : Int) * c) q.den = q * (t : Rat) - (c : Rat) := by
  refine eq_of_mul q.den_pos ?_
  rw [mk_mul_den _ q.den_pos, Rat.intCast_sub, Rat.intCast_mul, Rat.intCast_mul, ← mul_den q]
  grind
def lgN (w : Wks) {m : Nat} {h : Int} (p : Pln m h) (t : Int) (i : Nat) : Rat := if hi : i < w.l.length then lagT w p i hi t else 0
theorem lgN_den (w : Wks) {m : Nat} {h : Int} (p : Pln m h) (t : Int) (i : Nat) : (lgN w p t i).den ≤ 12 := by
  unfold lgN; split
  · exact lagT_den ..
  · show 1 ≤ 12; omega
theorem lgN_fold (w : Wks) {m : Nat} {h : Int} (p : Pln m h) (t : Int) : tL (fun x : _root_.Fin w.l.length => eQ (lagT w p x.val x.isLt t)) (List.finRange w.l.length) = tL (fun i : Nat => eQ (lgN w p t i)) (List.range w.l.length) := by
  rw [← tL_finR rfl (fun i : Nat => eQ (lgN w p t i))]
  refine congrArg (fun g => tL g _) (funext fun x => ?_)
  simp only [lgN, x.isLt, dif_pos]
theorem eq_niln {l : List Nat} : eqD (tL eN l) (.lst []) = some (decide (l = [])) := by
  rw [eq_nilL (n := 1) (fun _ _ => flat_int) (by omega)]
  cases l <;> rfl
theorem foldl_sum : ∀ (l : List Rat) (a : Rat), l.foldl (· + ·) a = a + l.sum
  | [], a => by simp only [List.foldl_nil, List.sum_nil]; grind
  | x :: l, a => by rw [List.foldl_cons, foldl_sum l, List.sum_cons]; grind
theorem sumL_sum (l : List Shr) : sumL l = (l.map (·.q)).sum := by unfold sumL; rw [foldl_sum]; grind
theorem sum_lin {α : Type} (f : α → Rat) (g : α → Int) (t : Rat) : ∀ l : List α, (l.map fun x => f x * t - ((g x : Int) : Rat)).sum = (l.map f).sum * t - (((l.map g).sum : Int) : Rat)
  | [] => by simp; grind
  | x :: l => by
    simp only [List.map_cons, List.sum_cons, sum_lin f g t l, Rat.intCast_add]
    grind
theorem sum_cast {α : Type} (g : α → Nat) : ∀ l : List α, (l.map fun x => ((g x : Nat) : Int)).sum = ((l.map g).sum : Nat)
  | [] => rfl
  | x :: l => by simp only [List.map_cons, List.sum_cons, sum_cast g l]; omega
theorem sum_le {α : Type} {f : α → Rat} {b : Rat} : ∀ {l : List α}, (∀ x ∈ l, f x < b) → l ≠ [] → b ≤ 0 → (l.map f).sum < 0
  | [], _, h, _ => absurd rfl h
  | [x], h, _, hb => by
    have := h x List.mem_cons_self
    simp only [List.map_cons, List.map_nil, List.sum_cons, List.sum_nil]
    grind
  | x :: y :: l, h, _, hb => by
    have h1 := h x List.mem_cons_self
    have h2 := sum_le (l := y :: l) (fun z hz => h z (List.mem_cons_of_mem _ hz)) (by simp) hb
    rw [List.map_cons, List.sum_cons]
    grind
section
variable (w : Wks) {h : Int} (p : Pln w.l.length h)
/-- all lags together -/
theorem lag_sum {t : Nat} (ht : t ≤ p.p.length) : ((List.range w.l.length).map (lgN w p t)).sum = sumL w.l * (t : Int) - ((szs (p.p.take t) : Nat) : Int) := by
  have e : (List.range w.l.length).map (lgN w p t) = (List.finRange w.l.length).map fun i => w.l[i.val].q * (((t : Int)) : Rat) - ((((cnt (p.p.take t) i.val : Nat) : Int)) : Rat) := by
    rw [← finRange_val, List.map_map]
    refine List.map_congr_left fun i _ => ?_
    simp only [Function.comp_apply, lgN, i.isLt, dif_pos, lagT]
    rw [cntT_small p i.val ht]
  rw [e, sum_lin (fun i : _root_.Fin w.l.length => w.l[i.val].q) (fun i => ((cnt (p.p.take t) i.val : Nat) : Int)) _ _, sumL_sum]
  congr 2
  · congr 1
    exact finMap (fun s : Shr => s.q)
  · rw [sum_cast (fun i : _root_.Fin w.l.length => cnt (p.p.take t) i.val), ← sum_cnt, ← finRange_val, List.map_map]
    rfl
/-- with one hand and a sum of 1 the foremost work is not ahead -/
theorem lag_first (hs : sumL w.l = 1) (hh : h = 1) {t : Nat} (ht : t ≤ p.p.length) {x : Nat} {l : List Nat} (hl : (List.range w.l.length).mergeSort (rkB (lgN w p t)) = x :: l) : ¬ lgN w p t x < 0 := by
  intro hx
  subst hh
  have pw := List.pairwise_mergeSort (rkB_trans (lgN w p t)) (rkB_total (lgN w p t)) (List.range w.l.length)
  have pm := List.mergeSort_perm (List.range w.l.length) (rkB (lgN w p t))
  rw [hl] at pw pm
  have top : ∀ y ∈ List.range w.l.length, lgN w p t y < 0 := fun y hy => by
    have := pm.mem_iff.mpr hy
    rcases List.mem_cons.mp this with rfl | hy
    · exact hx
    · have := rkB_t.mp ((List.pairwise_cons.mp pw).1 y hy)
      rcases this with h | h <;> grind
  have ne : List.range w.l.length ≠ [] := by
    have := w.n1
    rw [Ne, List.range_eq_nil]; omega
  have s1 := sum_le top ne (by grind)
  rw [lag_sum w p ht, hs] at s1
  have s2 := szs_le (p := p.p.take t) (by omega)
  rw [List.length_take, Int.mul_one] at s2
  have s3 : ((szs (p.p.take t) : Nat) : Int) ≤ (t : Int) := by omega
  have s4 : (((szs (p.p.take t) : Nat) : Int) : Rat) ≤ ((t : Int) : Rat) := Rat.intCast_le_intCast.mpr s3
  grind
/-- the law's own numbers for the order -/
def farI (t i : Nat) : Int := if hi : i < w.l.length then 0 - (w.l[i].q.num * t * 27720 / w.l[i].q.den - 27720 * (cnt (p.p.take t) i : Int)) else 0
theorem far_lag {t : Nat} (ht : t ≤ p.p.length) {i : Nat} (hi : i < w.l.length) : ((farI w p t i : Int) : Rat) = -27720 * lgN w p t i := by
  have d1 := w.l[i].d1
  have d12 := w.l[i].d12
  have dv : w.l[i].q.den ∣ 27720 := by
    generalize w.l[i].q.den = d at *
    have : d = 1 ∨ d = 2 ∨ d = 3 ∨ d = 4 ∨ d = 5 ∨ d = 6 ∨ d = 7 ∨ d = 8 ∨ d = 9 ∨ d = 10 ∨ d = 11 ∨ d = 12 := by omega
    rcases this with rfl | rfl | rfl | rfl | rfl | rfl | rfl | rfl | rfl | rfl | rfl | rfl <;> decide
  obtain ⟨e, he⟩ := dv
  have z : w.l[i].q.num * t * 27720 / w.l[i].q.den = w.l[i].q.num * t * e := by
    rw [show (27720 : Int) = (w.l[i].q.den : Int) * (e : Int) by rw [← Int.natCast_mul, ← he]; rfl, Int.mul_left_comm, Int.mul_ediv_cancel_left _ (by omega)]
  unfold farI lgN lagT
  rw [dif_pos hi, dif_pos hi, z, cntT_small p i ht]
  have md := mul_den w.l[i].q
  have he2 : (27720 : Rat) = ((w.l[i].q.den : Int) : Rat) * ((e : Int) : Rat) := by
    rw [← Rat.intCast_mul, ← Int.natCast_mul, ← he]; rfl
  simp only [Rat.intCast_sub, Rat.intCast_mul, ← md]
  have z0 : ((0 : Int) : Rat) = 0 := rfl
  have z1 : ((27720 : Int) : Rat) = 27720 := rfl
  rw [z0, z1]
  generalize ((w.l[i].q.den : Int) : Rat) = dd at *
  generalize w.l[i].q = q at *
  generalize (((cnt (p.p.take t) i : Nat) : Int) : Rat) = c at *
  generalize ((t : Int) : Rat) = tt at *
  generalize ((e : Int) : Rat) = ee at *
  grind
theorem far_sort {t : Nat} (ht : t ≤ p.p.length) : ((List.range w.l.length).map fun i => (farI w p t i, (i : Int))).mergeSort (fun a b => decide (a.1 < b.1 ∨ (a.1 = b.1 ∧ a.2 ≤ b.2))) = ((List.range w.l.length).mergeSort (rkB (lgN w p t))).map fun i => (farI w p t i, (i : Int)) := by
  refine (List.map_mergeSort fun a ha b hb => ?_).symm
  have ha' := List.mem_range.mp ha
  have hb' := List.mem_range.mp hb
  have e1 := far_lag w p ht ha'
  have e2 := far_lag w p ht hb'
  unfold rkB
  refine decide_eq_decide.mpr ?_
  simp only
  have k1 : farI w p t a < farI w p t b ↔ lgN w p t b < lgN w p t a := by
    rw [← Rat.intCast_lt_intCast, e1, e2]; constructor <;> intro <;> grind
  have k2 : farI w p t a = farI w p t b ↔ lgN w p t a = lgN w p t b := by
    rw [← Rat.intCast_inj, e1, e2]; constructor <;> intro <;> grind
  rw [k1, k2]
  constructor
  · rintro (g | ⟨g1, g2⟩)
    · exact .inl g
    · exact .inr ⟨g1, by omega⟩
  · rintro (g | ⟨g1, g2⟩)
    · exact .inl g
    · exact .inr ⟨g1, by omega⟩
end
end Tk
namespace Tk
abbrev eII (x : Int × Int) : D := .tup [.int x.1, .int x.2]
theorem kMt2_II {i : Nat} {ρ : Env} {a b : Int} {xs : List (Int × Int)} (h : xs.length < 16777216) : kMt2 .append i [.tup [.int a, .int b]] ρ (some (tL eII xs)) = .ok .non (ρ.set i ((getS ρ i).with (tL eII (xs ++ [(a, b)])))) := kMt2_L (f := eII) (y := (a, b)) h
theorem num_neg {q : Rat} (h : ¬ q < 0) : ¬ q.num < 0 := by
  have : 0 ≤ q.num := Rat.num_nonneg.mpr (by grind)
  omega
section
variable (w : Wks) {h : Int} (p : Pln w.l.length h)
theorem far_order {t : Nat} (ht : t ≤ p.p.length) : tT (fun x : Int × Int => D.int x.2) (((List.range w.l.length).map fun i => (farI w p t i, (i : Int))).mergeSort (fun a b => decide (a.1 < b.1 ∨ (a.1 = b.1 ∧ a.2 ≤ b.2)))) = tT eN ((List.range w.l.length).mergeSort (rkB (lgN w p t))) := by
  rw [far_sort w p ht]
  unfold tT
  rw [List.map_map]; rfl
theorem cnt_total {t : Nat} (ht : t ≤ p.p.length) : ((List.finRange w.l.length).map fun i => cntT p i.val (t : Int)).sum = ((p.p.take t).map fun x => (x.l.length : Int)).sum := by
  have e : ((List.finRange w.l.length).map fun i => cntT p i.val (t : Int)) = (List.finRange w.l.length).map fun i => ((cnt (p.p.take t) i.val : Nat) : Int) := List.map_congr_left fun i _ => cntT_small p i.val ht
  rw [e, sum_cast (fun i : _root_.Fin w.l.length => cnt (p.p.take t) i.val), sum_cast (fun x : Lot w.l.length h => x.l.length)]
  have := sum_cnt (p.p.take t)
  rw [← finRange_val, List.map_map] at this
  exact congrArg _ this
end
end Tk
namespace Tk
theorem sort_II {xs : List (Int × Int)} (hl : xs.length ≤ 16777216) : biF .sorted [tL eII xs] = some (tL eII (xs.mergeSort fun a b => decide (a.1 < b.1 ∨ (a.1 = b.1 ∧ a.2 ≤ b.2)))) := sort_p (f := fun x : Int × Int => x.1) (g := fun x => x.2) hl
end Tk

set_option Elab.async false
set_option linter.all false
set_option maxRecDepth 100000
set_option maxHeartbeats 2000000
/-! What the laws from k60 on share: the urn of draws; greatest and least. -/
namespace Tk
open PySem
section
variable (C : Cl)
def kTe (i j : Nat) (x y : D) (ρ : Env) (xs : List D) : Option Nat → R Fl
  | some n => kNx ρ (putS (ρ.set i ((getS ρ i).with (.lst (xs.set n x)))) j (.val y))
  | none => .stuck
def kTd (i j : Nat) (x y k : D) (ρ : Env) : Option D → R Fl
  | some (.lst xs) => match k with
    | .int k => kTe i j x y ρ xs (ixOf xs.length k)
    | _ => .stuck
  | _ => .stuck
def kTc (i j : Nat) (x y k : D) (ρ : Env) : R Fl := kTd i j x y k ρ (ownD (getS ρ i))
def kTb (i : Nat) (ix : E) (j : Nat) (x y : D) (ρ : Env) : Option D → R Fl
  | some _ => (denE C ix ρ).bind (kTc i j x y)
  | none => .stuck
def kTa (i : Nat) (ix : E) (j : Nat) : D → Env → R Fl
  | .tup [x, y], ρ => kTb C i ix j x y ρ (ownD (getS ρ i))
  | _, _ => .stuck
theorem st_setT (i : Nat) (ix : E) (j : Nat) (e : E) (ρ : Env) : denS C (.setT i ix j e) ρ = (denE C e ρ).bind (kTa C i ix j) := by
  rw [denS]; congr 1; funext d ρ1
  cases d <;> try rfl
  rename_i ds
  match ds with
  | [] => rfl
  | [_] => rfl
  | _ :: _ :: _ :: _ => rfl
  | [x, y] =>
    simp only [kTa]
    cases ownD (getS ρ1 i) with
    | none => rfl
    | some d0 =>
      simp only [kTb]
      congr 1; funext k ρ2
      unfold kTc
      cases ownD (getS ρ2 i) with
      | none => rfl
      | some d1 =>
        cases d1 <;> try rfl
        cases k <;> try rfl
        rename_i xs k
        simp only [kTd]
        cases ixOf xs.length k with
        | none => rfl
        | some n =>
          simp only [kTe]
          cases putS _ _ _ <;> rfl
theorem kTa_t {i : Nat} {ix : E} {j : Nat} {x y : D} {ρ : Env} : kTa C i ix j (.tup [x, y]) ρ = kTb C i ix j x y ρ (ownD (getS ρ i)) := rfl
theorem kTb_s {i : Nat} {ix : E} {j : Nat} {x y d : D} {ρ : Env} : kTb C i ix j x y ρ (some d) = (denE C ix ρ).bind (kTc i j x y) := rfl
end
def eUrn (u : Int × Int × Int) : D := .lst [.int u.1, .int u.2.1, .int u.2.2]
section
variable {u : Int × Int × Int} {i j : Nat} {v : Int} {y : D} {ρ : Env}
theorem urn_fold {a b c : Int} : D.lst [.int a, .int b, .int c] = eUrn (a, b, c) := rfl
theorem ixU_0 : ixF (eUrn u) (.int 0) = some (.int u.1) := rfl
theorem ixU_1 : ixF (eUrn u) (.int 1) = some (.int u.2.1) := rfl
theorem ixU_2 : ixF (eUrn u) (.int 2) = some (.int u.2.2) := rfl
theorem setU_1 : kSet2 i (.int v) (.int 1) ρ (some (eUrn u)) = .ok .nx (ρ.set i ((getS ρ i).with (eUrn (u.1, v, u.2.2)))) := rfl
theorem setU_2 : kSet2 i (.int v) (.int 2) ρ (some (eUrn u)) = .ok .nx (ρ.set i ((getS ρ i).with (eUrn (u.1, u.2.1, v)))) := rfl
theorem setU_0T : kTd i j (.int v) y (.int 0) ρ (some (eUrn u)) = kNx ρ (putS (ρ.set i ((getS ρ i).with (eUrn (v, u.2)))) j (.val y)) := rfl
theorem kAsgO_U : kAsgO i (eUrn u) ρ = kNx ρ (putS ρ i (.own (eUrn u))) := rfl
theorem kN1_U {C : Cl} {f : Nat} : kN1 C f (eUrn u) ρ = kN2 ρ (C.call f [.own (eUrn u)]) := rfl
end
def lapN (u : Int × Int × Int) : Int := (u.2.1 * 41299 + (u.2.2 + 1) * 50951 + 23) % 2147483423
def nN (u : Int × Int × Int) : Int := (lapN u * (2 * (lapN u / 37) + 20011) + (u.2.2 + 1)) % 2147483423
def nipR (u : Int × Int × Int) (m : Int) : Int := if 0 < u.1 then u.1 % m else nN u / 103 % m
def nipU (u : Int × Int × Int) (m : Int) : Int × Int × Int := if 0 < u.1 then (u.1 / m, u.2) else (u.1, nN u, u.2.2 + 1)
theorem nipR_lt {m : Int} (u : Int × Int × Int) (h : 1 ≤ m) : 0 ≤ nipR u m ∧ nipR u m < m := by
  unfold nipR
  split <;> exact ⟨Int.emod_nonneg _ (by omega), Int.emod_lt_of_pos _ (by omega)⟩
theorem sl_scr {ns : List Int} {l h : Option Int} : slG l h (.scr ns) = some (tL .int (cut ns l h)) := rfl
theorem pow60 : binF .pow (.int 10) (.int 60) = some (.int 1000000000000000000000000000000000000000000000000000000000000) := by kernel_rfl
theorem pow18 : binF .pow (.int 10) (.int 18) = some (.int 1000000000000000000) := by kernel_rfl
/-! ### the greatest -/
def mxI : List Int → Int
  | [] => 0
  | x :: xs => maxI x xs
theorem maxI_le : ∀ (xs : List Int) (m t : Int), maxI m xs ≤ t ↔ ∀ y ∈ m :: xs, y ≤ t
  | [], m, t => by simp [maxI]
  | x :: xs, m, t => by
    rw [maxI, maxI_le xs]
    simp only [List.mem_cons, forall_eq_or_imp]
    split <;> constructor <;> rintro ⟨h1, h2⟩
    · exact ⟨by omega, h1, h2⟩
    · exact ⟨h2.1, h2.2⟩
    · exact ⟨h1, by omega, h2⟩
    · exact ⟨h1, h2.2⟩
theorem mxI_le {xs : List Int} (h : xs ≠ []) {t : Int} : mxI xs ≤ t ↔ ∀ y ∈ xs, y ≤ t := by
  cases xs with
  | nil => exact absurd rfl h
  | cons x xs => exact maxI_le xs x t
theorem max_L {α : Type} {f : α → Int} {xs : List α} (h : 0 < xs.length) : biF .max1 [tL (fun x => .int (f x)) xs] = some (.int (mxI (xs.map f))) := by
  unfold tL
  simp only [biF, intsOf_map]
  cases xs with
  | nil => simp at h
  | cons x xs => rfl
end Tk
namespace Tk
theorem eq_non : eqD .non .non = some true := by decide +kernel
theorem in_Lbl {α : Type} {f : α → Bool} {xs : List α} {b : Bool} : inD (.bl b) (tL (fun x => .bl (f x)) xs) = some (decide (b ∈ xs.map f)) := by
  have := (in_inj Inj.bl (by omega) b (xs.map f)).2
  unfold tL at this ⊢
  rwa [List.map_map] at this
theorem in_Tbl {α : Type} {f : α → Bool} {xs : List α} {b : Bool} : inD (.bl b) (tT (fun x => .bl (f x)) xs) = some (decide (b ∈ xs.map f)) := by
  have := (in_inj Inj.bl (by omega) b (xs.map f)).1
  unfold tT at this ⊢
  rwa [List.map_map] at this
theorem zip_self_t {ds : List D} : zipF (.tup ds) (.tup ds) = some ((List.finRange ds.length).map fun i => .tup [ds[i.val], ds[i.val]]) := by
  show some (zipD ds ds) = _
  congr 1
  unfold zipD
  refine List.ext_getElem (by simp) fun i h1 h2 => by simp
theorem zip_self_l {ds : List D} : zipF (.lst ds) (.lst ds) = some ((List.finRange ds.length).map fun i => .tup [ds[i.val], ds[i.val]]) := by
  show some (zipD ds ds) = _
  congr 1
  unfold zipD
  refine List.ext_getElem (by simp) fun i h1 h2 => by simp
theorem no_false {α : Type} {xs : List α} {f : α → Bool} (h : ∀ x ∈ xs, f x = true) : (false ∈ xs.map f) = False := eq_false (fun z => by
  obtain ⟨x, hx, e⟩ := List.mem_map.mp z
  rw [h x hx] at e; cases e)
end Tk

set_option Elab.async false
set_option linter.all false
set_option maxRecDepth 100000
set_option maxHeartbeats 2000000
/-! Lost ticks. -/
namespace Tk
open PySem
/-- what a share asks for at a time -/
def ndS (s : Shr) (T : Int) : Int := s.q.num * T / s.q.den
def madeUp (w : Wks) (h N t : Int) : Prop := (∀ s ∈ w.l, ndS s (N + t) ≤ t) ∧ (w.l.map fun s => ndS s (N + t)).sum ≤ h * t
open Classical in
noncomputable def rcv (w : Wks) (h N : Int) (B : Nat) : Option Nat := (List.range B).find? fun t => decide (madeUp w h N t)
def rcD : Option Nat → D
  | none => .non
  | some t => .int (t : Int)
section
variable (w : Wks) {h N : Int}
theorem nd_le (s : Shr) {P u : Nat} (hu : s.q.num * P = u * s.q.den) {T : Int} (hT : 0 ≤ T) : ndS s T * P ≤ u * T := by
  have d1 := s.d1
  unfold ndS
  have e : s.q.num * T / s.q.den * (s.q.den : Int) ≤ s.q.num * T := Int.ediv_mul_le _ (by omega)
  refine Int.le_of_mul_le_mul_right (a := (s.q.den : Int)) ?_ (by omega)
  have e2 : s.q.num * T / s.q.den * P * s.q.den = s.q.num * T / s.q.den * s.q.den * P := by rw [Int.mul_assoc, Int.mul_comm (P : Int), ← Int.mul_assoc]
  have e3 : (u : Int) * T * s.q.den = s.q.num * T * P := by
    rw [Int.mul_assoc, Int.mul_comm T, ← Int.mul_assoc, ← hu, Int.mul_assoc, Int.mul_assoc, Int.mul_comm T]
  rw [e2, e3]
  exact Int.mul_le_mul_of_nonneg_right e (by omega)
theorem nd_shift (s : Shr) {P u : Nat} (hu : s.q.num * P = u * s.q.den) (T : Int) : ndS s (T + P) = ndS s T + u := by
  have d1 := s.d1
  unfold ndS
  rw [Int.mul_add, hu, Int.add_mul_ediv_right _ _ (by omega)]
theorem nd_small (s : Shr) (h1 : s.q.num < s.q.den) {N t : Int} (hN : 0 ≤ N) (hN2 : N ≤ 12) (ht : 200 ≤ t) : ndS s (N + t) ≤ t := by
  have d1 := s.d1
  have d12 := s.d12
  have n1 := s.n1
  unfold ndS
  refine Int.ediv_le_of_le_mul (by omega) ?_
  have e1 : s.q.num * (N + t) ≤ ((s.q.den : Int) - 1) * (N + t) := Int.mul_le_mul_of_nonneg_right (by omega) (by omega)
  have e2 : ((s.q.den : Int) - 1) * (N + t) = (s.q.den : Int) * N + (s.q.den : Int) * t - (N + t) := by rw [Int.sub_mul, Int.mul_add]; omega
  have e3 : (s.q.den : Int) * N ≤ 12 * N := Int.mul_le_mul_of_nonneg_right (by omega) hN
  have e4 : t * (s.q.den : Int) = (s.q.den : Int) * t := Int.mul_comm _ _
  omega
theorem un_w {s : Shr} (hs : s ∈ w.l) : s.q.num * (perL w.l : Int) = ((unI s.q (perL w.l)).toNat : Int) * s.q.den ∧ unI s.q (perL w.l) = ((unI s.q (perL w.l)).toNat : Int) ∧ (unI s.q (perL w.l)).toNat ≤ perL w.l := by
  obtain ⟨u, h1, h2, h3, h4⟩ := un_ex s (perL_pos w.l) (perL_dvd hs)
  rw [h1, Int.toNat_natCast]
  exact ⟨h2, rfl, h4⟩
def unS (l : List Shr) (P : Nat) : Int := (l.map fun s => unI s.q P).sum
theorem sumnd_le {T : Int} (hT : 0 ≤ T) : ∀ l : List Shr, (∀ s ∈ l, s ∈ w.l) → (l.map fun s => ndS s T).sum * perL w.l ≤ unS l (perL w.l) * T
  | [], _ => by simp [unS]
  | s :: l, hl => by
    have ih := sumnd_le hT l fun x hx => hl x (List.mem_cons_of_mem _ hx)
    obtain ⟨h1, h2, h3⟩ := un_w w (hl s List.mem_cons_self)
    have := nd_le s h1 hT
    unfold unS at ih ⊢
    rw [List.map_cons, List.sum_cons, List.map_cons, List.sum_cons, Int.add_mul, Int.add_mul, h2]
    omega
theorem sumnd_shift (T : Int) : ∀ l : List Shr, (∀ s ∈ l, s ∈ w.l) → (l.map fun s => ndS s (T + perL w.l)).sum = (l.map fun s => ndS s T).sum + unS l (perL w.l)
  | [], _ => by simp [unS]
  | s :: l, hl => by
    have ih := sumnd_shift T l fun x hx => hl x (List.mem_cons_of_mem _ hx)
    obtain ⟨h1, h2, h3⟩ := un_w w (hl s List.mem_cons_self)
    have := nd_shift s h1 T
    unfold unS at ih ⊢
    rw [List.map_cons, List.sum_cons, List.map_cons, List.sum_cons, List.map_cons, List.sum_cons, ih, this, h2]
    omega
theorem unS_le : ∀ l : List Shr, (∀ s ∈ l, s ∈ w.l) → 0 ≤ unS l (perL w.l) ∧ unS l (perL w.l) ≤ l.length * perL w.l
  | [], _ => by simp [unS]
  | s :: l, hl => by
    have ih := unS_le l fun x hx => hl x (List.mem_cons_of_mem _ hx)
    obtain ⟨h1, h2, h3⟩ := un_w w (hl s List.mem_cons_self)
    unfold unS at ih ⊢
    rw [List.map_cons, List.sum_cons, List.length_cons, Int.natCast_add, Int.add_mul, h2]
    omega
/-- little time is enough if less than all hands is wanted and no share is 1 -/
theorem made_free (hP : perL w.l ≤ 12) (hN : 0 ≤ N) (hN2 : N ≤ 12) (hU : unS w.l (perL w.l) < h * perL w.l) (h1 : ∀ s ∈ w.l, s.q.num < s.q.den) {t : Int} (ht : 1000 ≤ t) : madeUp w h N t := by
  have P0 := perL_pos w.l
  refine ⟨fun s hs => nd_small s (h1 s hs) hN hN2 (by omega), ?_⟩
  have e1 := sumnd_le w (T := N + t) (by omega) w.l fun s hs => hs
  obtain ⟨u0, u1⟩ := unS_le w w.l fun s hs => hs
  have w5 := w.n5
  have u2 : unS w.l (perL w.l) ≤ 60 := by
    have : (w.l.length : Int) * perL w.l ≤ 5 * 12 := Int.mul_le_mul (by omega) (by omega) (by omega) (by omega)
    omega
  refine Int.le_of_mul_le_mul_right (a := (perL w.l : Int)) ?_ (by omega)
  have e2 : unS w.l (perL w.l) * (N + t) ≤ 60 * 12 + unS w.l (perL w.l) * t := by
    rw [Int.mul_add]
    have : unS w.l (perL w.l) * N ≤ 60 * 12 := Int.mul_le_mul u2 hN2 hN (by omega)
    omega
  have e3 : unS w.l (perL w.l) * t ≤ (h * perL w.l - 1) * t := Int.mul_le_mul_of_nonneg_right (by omega) (by omega)
  have e4 : (h * perL w.l - 1) * t = h * t * perL w.l - t := by rw [Int.sub_mul, Int.mul_assoc, Int.mul_comm (perL w.l : Int), ← Int.mul_assoc]; omega
  omega
/-- a late time goes back by a period -/
theorem made_back (hP : perL w.l ≤ 12) (hN : 0 ≤ N) (hN2 : N ≤ 12) {t : Int} (ht : 1100 ≤ t) (m : madeUp w h N t) : madeUp w h N (t - perL w.l) := by
  have P0 := perL_pos w.l
  obtain ⟨m1, m2⟩ := m
  have one : ∀ s ∈ w.l, ndS s (N + (t - perL w.l)) ≤ t - perL w.l := fun s hs => by
    have n1 := s.n1
    have nd := s.nd
    by_cases c : s.q.num < s.q.den
    · exact nd_small s c hN hN2 (by omega)
    · have e : s.q.num = s.q.den := by omega
      have d1 := s.d1
      have z : ∀ T, ndS s T = T := fun T => by unfold ndS; rw [e, Int.mul_ediv_cancel_left _ (by omega)]
      have := m1 s hs
      rw [z] at this ⊢
      omega
  refine ⟨one, ?_⟩
  by_cases hU : unS w.l (perL w.l) < h * perL w.l
  · have e1 := sumnd_le w (T := N + (t - perL w.l)) (by omega) w.l fun s hs => hs
    obtain ⟨u0, u1⟩ := unS_le w w.l fun s hs => hs
    have w5 := w.n5
    have u2 : unS w.l (perL w.l) ≤ 60 := by
      have : (w.l.length : Int) * perL w.l ≤ 5 * 12 := Int.mul_le_mul (by omega) (by omega) (by omega) (by omega)
      omega
    refine Int.le_of_mul_le_mul_right (a := (perL w.l : Int)) ?_ (by omega)
    generalize ht' : t - (perL w.l : Int) = t' at *
    have e2 : unS w.l (perL w.l) * (N + t') ≤ 60 * 12 + unS w.l (perL w.l) * t' := by
      rw [Int.mul_add]
      have : unS w.l (perL w.l) * N ≤ 60 * 12 := Int.mul_le_mul u2 hN2 hN (by omega)
      omega
    have e3 : unS w.l (perL w.l) * t' ≤ (h * perL w.l - 1) * t' := Int.mul_le_mul_of_nonneg_right (by omega) (by omega)
    have e4 : (h * perL w.l - 1) * t' = h * t' * perL w.l - t' := by rw [Int.sub_mul, Int.mul_assoc, Int.mul_comm (perL w.l : Int), ← Int.mul_assoc]; omega
    omega
  · have e := sumnd_shift w (N + (t - perL w.l)) w.l fun s hs => hs
    rw [show N + (t - (perL w.l : Int)) + (perL w.l : Int) = N + t by omega] at e
    rw [Int.mul_sub]
    omega
theorem made_early (hP : perL w.l ≤ 12) (hN : 0 ≤ N) (hN2 : N ≤ 12) : ∀ (n t : Nat), t ≤ n → madeUp w h N t → ∃ t' : Nat, t' < 2000 ∧ madeUp w h N t'
  | 0, t, hn, m => ⟨t, by omega, m⟩
  | n + 1, t, hn, m => by
    by_cases c : t < 2000
    · exact ⟨t, c, m⟩
    · have P0 := perL_pos w.l
      have := made_back w hP hN hN2 (t := (t : Int)) (by omega) m
      rw [show (t : Int) - (perL w.l : Int) = ((t - perL w.l : Nat) : Int) by omega] at this
      exact made_early hP hN hN2 n (t - perL w.l) (by omega) this
theorem rcv_none {B : Nat} : rcv w h N B = none ↔ ∀ t : Nat, t < B → ¬ madeUp w h N t := by
  unfold rcv
  rw [List.find?_eq_none]
  simp only [List.mem_range, decide_eq_true_eq]
theorem rcv_some {B t : Nat} : rcv w h N B = some t ↔ t < B ∧ madeUp w h N t ∧ ∀ t' : Nat, t' < t → ¬ madeUp w h N t' := by
  unfold rcv
  rw [List.find?_range_eq_some]
  simp only [decide_eq_true_eq, Bool.not_eq_true', decide_eq_false_iff_not, List.mem_range]
  constructor
  · rintro ⟨a, b, c⟩; exact ⟨b, a, c⟩
  · rintro ⟨a, b, c⟩; exact ⟨b, a, c⟩
/-- looking farther finds no more -/
theorem rcv_eq (hP : perL w.l ≤ 12) (hN : 0 ≤ N) (hN2 : N ≤ 12) : rcv w h N 2200 = rcv w h N 2000 := by
  cases e : rcv w h N 2000 with
  | some t =>
    obtain ⟨a, b, c⟩ := (rcv_some w).mp e
    exact (rcv_some w).mpr ⟨by omega, b, c⟩
  | none =>
    rw [rcv_none] at e ⊢
    intro t _ m
    obtain ⟨t', h1, h2⟩ := made_early w hP hN hN2 t t (Nat.le_refl _) m
    exact e t' h1 h2
theorem rcv_zero : rcv w h 0 2000 = some 0 := by
  refine (rcv_some w).mpr ⟨by omega, ⟨fun s _ => ?_, ?_⟩, fun t' ht => absurd ht (Nat.not_lt_zero _)⟩
  · unfold ndS; simp
  · have : (fun s : Shr => ndS s (0 + ((0 : Nat) : Int))) = fun _ => 0 := by funext s; unfold ndS; simp
    rw [this]
    generalize w.l = l
    induction l with
    | nil => simp
    | cons x l ih => rw [List.map_cons, List.sum_cons]; omega
/-- with more hands never more -/
theorem rcv_mono {h' : Int} (hh : h ≤ h') {t : Nat} (e : rcv w h N 2000 = some t) : ∃ t', rcv w h' N 2000 = some t' ∧ t' ≤ t := by
  obtain ⟨a, b, c⟩ := (rcv_some w).mp e
  have m : madeUp w h' N t := ⟨b.1, by
    have := b.2
    have : h * (t : Int) ≤ h' * t := Int.mul_le_mul_of_nonneg_right hh (by omega)
    omega⟩
  cases e2 : rcv w h' N 2000 with
  | none => exact absurd m ((rcv_none w).mp e2 t a)
  | some t' =>
    refine ⟨t', rfl, ?_⟩
    obtain ⟨a', b', c'⟩ := (rcv_some w).mp e2
    rcases Nat.lt_or_ge t t' with g | g
    · exact absurd m (c' t g)
    · exact g
theorem rcv_free (hP : perL w.l ≤ 12) (hN : 0 ≤ N) (hN2 : N ≤ 12) (hU : unS w.l (perL w.l) < h * perL w.l) (h1 : ∀ s ∈ w.l, s.q.num < s.q.den) : rcv w h N 2000 ≠ none := by
  intro e
  exact (rcv_none w).mp e 1000 (by omega) (made_free w hP hN hN2 hU h1 (by omega))
end
end Tk
namespace Tk
theorem findSome_list {α : Type} {v : α → Nat} {p : Nat → Prop} [DecidablePred p] {g : Nat → D} : ∀ l : List α, l.findSome? (fun i => if p (v i) then some (g (v i)) else none) = ((l.map v).find? fun i => decide (p i)).map g
  | [] => rfl
  | x :: l => by
    rw [List.findSome?_cons, List.map_cons, List.find?_cons]
    by_cases h : p (v x)
    · simp only [h, if_true, decide_true, Option.map_some]
    · simp only [h, if_false, decide_false]
      exact findSome_list l
theorem findSome_range {n : Nat} {p : Nat → Prop} [DecidablePred p] {g : Nat → D} : (List.finRange n).findSome? (fun i => if p i.val then some (g i.val) else none) = ((List.range n).find? fun i => decide (p i)).map g := by
  rw [findSome_list (List.finRange n), finRange_val]
end Tk
namespace Tk
theorem cmp_isb {a b : Bool} : cmpF .is (.bl a) (.bl b) = some (a == b) := rfl
theorem in_TQ {q : Rat} {l : List Shr} : inD (eQ q) (tT eS l) = some (decide (q ∈ l.map (·.q))) := by
  have := (in_inj Inj.Q (by omega) q (l.map (·.q))).1
  unfold tT at this ⊢
  rwa [List.map_map] at this
theorem rcD_flat {o : Option Nat} {n : Nat} : D.flat n (rcD o) = true := by cases o <;> first | exact flat_non | exact flat_int
open Classical in
theorem in_rc {α : Type} {f : α → Option Nat} {xs : List α} : inD .non (tL (fun x => rcD (f x)) xs) = some (decide (∃ x ∈ xs, f x = none)) := by
  have b : D.flats 59 (xs.map fun x => rcD (f x)) = true := flats_all fun d hd => by obtain ⟨x, _, rfl⟩ := List.mem_map.mp hd; exact rcD_flat
  have c : D.flat 60 .non = true := flat_non
  unfold tL
  simp only [inD, b, c, Bool.and_self, if_true, Option.some.injEq]
  rw [Bool.eq_iff_iff, decide_eq_true_eq]
  induction xs with
  | nil => simp [anyEq]
  | cons x xs ih =>
    have b' : D.flats 59 (xs.map fun x => rcD (f x)) = true := flats_all fun d hd => by obtain ⟨x, _, rfl⟩ := List.mem_map.mp hd; exact rcD_flat
    rw [List.map_cons, anyEq, Bool.or_eq_true, ih b']
    simp only [List.mem_cons, exists_eq_or_imp]
    cases f x <;> simp [rcD, D.beq]
end Tk

set_option Elab.async false
set_option linter.all false
set_option maxRecDepth 100000
set_option maxHeartbeats 2000000
/-! count, (*a, b); goods. -/
namespace Tk
open PySem
section
variable {C : Cl} {ρ : Env}
theorem kCnt_T {α : Type} {x : E} {f : α → D} {xs : List α} : kCnt C true x (tT f xs) ρ = (denE C x ρ).bind (kCnt2 true (tT f xs)) := rfl
theorem kCnt_t {x : E} {xs : List D} : kCnt C true x (.tup xs) ρ = (denE C x ρ).bind (kCnt2 true (.tup xs)) := rfl
theorem kCnt_L {α : Type} {x : E} {f : α → D} {xs : List α} : kCnt C false x (tL f xs) ρ = (denE C x ρ).bind (kCnt2 false (tL f xs)) := rfl
theorem cnt_inj {α : Type} [DecidableEq α] {n : Nat} {f : α → D} (I : Inj n f) (hn : n ≤ 58) (x : α) (ys : List α) : cntF true (tT f ys) (f x) = some (.int ((ys.count x : Nat) : Int)) ∧ cntF false (tL f ys) (f x) = some (.int ((ys.count x : Nat) : Int)) := by
  have b : D.flats 58 (ys.map f) = true := flats_all fun d hd => by obtain ⟨z, _, rfl⟩ := List.mem_map.mp hd; exact flat_le hn (I.flat z)
  have c : D.flat 59 (f x) = true := flat_le (n := n) (by omega) (I.flat x)
  have e : ((ys.map f).countP fun z => D.beq z (f x)) = ys.count x := by
    rw [List.countP_map]
    unfold List.count
    congr 1
    funext z
    show D.beq (f z) (f x) = (z == x)
    rw [Bool.eq_iff_iff, I.eq, beq_iff_eq]
  constructor
  · unfold tT; simp only [cntF, b, c, Bool.and_self, if_true, e]
  · unfold tL; simp only [cntF, b, c, Bool.not_false, Bool.and_self, if_true, e]
theorem kCnt2_n {r : List Nat} {s : Nat} : kCnt2 true (tT eN r) (.int (s : Int)) ρ = .ok (.int ((r.count s : Nat) : Int)) ρ := by
  unfold kCnt2
  rw [show cntF true (tT eN r) (.int (s : Int)) = some (.int ((r.count s : Nat) : Int)) from (cnt_inj Inj.nat (by omega) s r).1]; rfl
theorem kSta_T {α : Type} {x : E} {f : α → D} {xs : List α} : kSta C x (tT f xs) ρ = (denE C x ρ).bind (kSta2 (tT f xs)) := rfl
theorem kSta_t {x : E} {xs : List D} : kSta C x (.tup xs) ρ = (denE C x ρ).bind (kSta2 (.tup xs)) := rfl
theorem kSta2_N {xs : List Nat} {y : Nat} (h : xs.length < 16777216) : kSta2 (tT eN xs) (.int (y : Int)) ρ = .ok (tT eN (xs ++ [y])) ρ := by
  have e : starF (tT eN xs) (.int (y : Int)) = some (tT eN (xs ++ [y])) := by
    unfold tT
    show (if (xs.map eN).length < big then some (D.tup (xs.map eN ++ [eN y])) else none) = _
    rw [if_pos (by rw [List.length_map]; exact h), List.map_append]; rfl
  unfold kSta2
  rw [e]; rfl
theorem kSta2_nil {y : D} : kSta2 (.tup []) y ρ = .ok (.tup [y]) ρ := rfl
end
theorem sum_Tn {xs : List Nat} : biF .sum [tT eN xs] = some (.int ((xs.sum : Nat) : Int)) := by
  show biF .sum [tT (fun n : Nat => .int (n : Int)) xs] = _
  rw [sum_T]
  congr 2
  induction xs with
  | nil => rfl
  | cons x xs ih => rw [List.map_cons, List.sum_cons, List.sum_cons, ih]; omega
theorem sum_castN {xs : List Nat} : (List.map (Nat.cast : Nat → Int) xs).sum = ((xs.sum : Nat) : Int) := by
  induction xs with
  | nil => rfl
  | cons x xs ih => rw [List.map_cons, List.sum_cons, List.sum_cons, ih]; omega
theorem repT0 {n : Nat} (h1 : 1 ≤ n) (h : n < 1000) : binF .mul (.tup [.int 0]) (.int (n : Int)) = some (tT eN (List.replicate n 0)) := by
  unfold tT
  have e : (List.replicate (n : Int).toNat [D.int 0]).flatten = (List.replicate n 0).map eN := by
    rw [Int.toNat_natCast]
    induction n with
    | zero => rfl
    | succ n ih =>
      rw [List.replicate_succ, List.flatten_cons, List.replicate_succ, List.map_cons]
      cases n with
      | zero => rfl
      | succ n => rw [ih (by omega) (by omega)]; rfl
  simp only [binF, e]
  rw [if_pos]
  simp only [List.length_cons, List.length_nil, Bool.and_eq_true, decide_eq_true_eq]
  omega
theorem zip_finT {α β : Type} {f : α → D} {g : β → D} {xs : List α} {ys : List β} (h : ys.length = xs.length) : zipF (tT f xs) (tT g ys) = some ((List.finRange xs.length).map fun i => .tup [f xs[i.val], g (ys[i.val]'(by rw [h]; exact i.isLt))]) := by
  rw [zipF_TT]
  congr 1
  refine List.ext_getElem (by simp [h]) fun i h1 h2 => by simp
theorem mxI_congr {xs ys : List Int} (hx : xs ≠ []) (hy : ys ≠ []) (h1 : ∀ x ∈ xs, x ≤ mxI ys) (h2 : ∀ y ∈ ys, y ≤ mxI xs) : mxI xs = mxI ys :=
  Int.le_antisymm ((mxI_le hx).mpr h1) ((mxI_le hy).mpr h2)
theorem le_mxI {xs : List Int} {x : Int} (h : x ∈ xs) : x ≤ mxI xs := (mxI_le (by intro e; subst e; cases h)).mp (Int.le_refl _) x h
/-! ### demands, rows -/
structure Dms where
  l : List Nat
  n1 : 1 ≤ l.length
  n5 : l.length ≤ 5
  pos : ∀ x ∈ l, 1 ≤ x
  s12 : l.sum ≤ 12
abbrev eDm (d : Dms) : D := tT eN d.l
structure Row (l : List Nat) where
  r : List Nat
  lt : ∀ x ∈ r, x < l.length
  cnt : ∀ s (h : s < l.length), r.count s = l[s]
theorem le_sum : ∀ {l : List Nat} {x : Nat}, x ∈ l → x ≤ l.sum
  | y :: l, x, h => by
    rw [List.sum_cons]
    rcases List.mem_cons.mp h with rfl | h
    · omega
    · have := le_sum h; omega
theorem cnt_len : ∀ (n : Nat) (r : List Nat), (∀ x ∈ r, x < n) → ((List.range n).map fun s => r.count s).sum = r.length
  | n, [], _ => by
    simp only [List.count_nil, List.length_nil]
    generalize List.range n = l
    induction l with
    | nil => rfl
    | cons a l ih => rw [List.map_cons, List.sum_cons, ih]
  | n, x :: r, h => by
    have ih := cnt_len n r fun y hy => h y (List.mem_cons_of_mem _ hy)
    have hx := h x List.mem_cons_self
    have one : ((List.range n).map fun s => if x = s then 1 else 0).sum = 1 := by
      clear ih h
      induction n with
      | zero => omega
      | succ n ih =>
        rw [List.range_succ, List.map_append, List.sum_append]
        by_cases c : x = n
        · subst c
          have z : ((List.range x).map fun s => if x = s then 1 else 0) = (List.range x).map fun _ => 0 := List.map_congr_left fun s hs => if_neg (by have := List.mem_range.mp hs; omega)
          rw [z]
          have : ((List.range x).map fun _ => 0).sum = 0 := by
            generalize List.range x = l
            induction l with
            | nil => rfl
            | cons a l ih => rw [List.map_cons, List.sum_cons, ih]
          rw [this]; simp
        · rw [ih (by omega)]; simp [c]
    have e : (fun s => (x :: r).count s) = fun s => (if x = s then 1 else 0) + r.count s := by
      funext s
      rw [List.count_cons]
      by_cases c : x = s
      · simp [c]; omega
      · simp [c]
    rw [e, sum_add, one, ih, List.length_cons]; omega
theorem Row.len {l : List Nat} (r : Row l) : r.r.length = l.sum := by
  rw [← cnt_len l.length r.r r.lt]
  congr 1
  refine List.ext_getElem (by simp) fun i h1 h2 => ?_
  simp only [List.getElem_map, List.getElem_range]
  exact r.cnt i h2
/-- how many of each sort are made -/
def stG (n : Nat) (r : List Nat) (t : Nat) : List Nat := (List.range n).map fun s => (r.take t).count s
theorem stG_len {n : Nat} {r : List Nat} {t : Nat} : (stG n r t).length = n := by unfold stG; simp
theorem stG_get {n : Nat} {r : List Nat} {t s : Nat} (h : s < n) : (stG n r t)[s]'(by rw [stG_len]; exact h) = (r.take t).count s := by unfold stG; simp
theorem stG_zero {n : Nat} {r : List Nat} : stG n r 0 = List.replicate n 0 := by
  unfold stG
  refine List.ext_getElem (by simp) fun i h1 h2 => by simp
theorem stG_sum {n : Nat} {r : List Nat} {t : Nat} (h : ∀ x ∈ r, x < n) (ht : t ≤ r.length) : (stG n r t).sum = t := by
  unfold stG
  rw [cnt_len n (r.take t) fun x hx => h x (List.mem_of_mem_take hx), List.length_take]; omega
theorem stG_succ {n : Nat} {r : List Nat} {t : Nat} (ht : t < r.length) : stG n r (t + 1) = (stG n r t).set r[t] ((stG n r t).getD r[t] 0 + 1) := by
  refine List.ext_getElem (by rw [List.length_set, stG_len, stG_len]) fun i h1 h2 => ?_
  rw [stG_len] at h1
  rw [stG_get h1, List.getElem_set, List.take_succ_eq_append_getElem ht, List.count_append]
  by_cases c : r[t] = i
  · rw [if_pos c, List.getD_eq_getElem?_getD, List.getElem?_eq_getElem (by rw [stG_len]; omega), Option.getD_some]
    have := stG_get (n := n) (r := r) (t := t) (s := i) h1
    simp only [c] at this ⊢
    rw [this]; simp
  · rw [if_neg c, stG_get h1]
    have : [r[t]].count i = 0 := by simp [c]
    omega
/-- the lag of a sort at a time, times the sum -/
def lgG (l r : List Nat) (t s : Nat) : Int := (l.getD s 0 : Int) * (t : Int) - ((r.take t).count s : Int) * (l.sum : Int)
def grG (l r : List Nat) : Int := mxI ((List.range r.length).map fun t => mxI ((List.range l.length).map fun s => if lgG l r (t + 1) s < 0 then -lgG l r (t + 1) s else lgG l r (t + 1) s))
def unG (l r : List Nat) : Int := ((List.range r.length).map fun t => ((List.range l.length).map fun s => lgG l r (t + 1) s * lgG l r (t + 1) s).sum).sum
theorem lgG_small {l r : List Nat} {t s : Nat} (h : l.sum ≤ 12) (ht : t ≤ r.length) (hr : r.length ≤ 12) : -1000 < lgG l r t s ∧ lgG l r t s < 1000 := by
  have h1 : l.getD s 0 ≤ 12 := by
    rw [List.getD_eq_getElem?_getD]
    by_cases c : s < l.length
    · rw [List.getElem?_eq_getElem c, Option.getD_some]
      exact Nat.le_trans (le_sum (List.getElem_mem c)) h
    · rw [List.getElem?_eq_none (by omega)]; simp
  have h2 : (r.take t).count s ≤ 12 := by
    have := List.count_le_length (a := s) (l := r.take t)
    rw [List.length_take] at this
    omega
  unfold lgG
  have e1 : l.getD s 0 * t ≤ 12 * 12 := Nat.mul_le_mul h1 (by omega)
  have e2 : (r.take t).count s * l.sum ≤ 12 * 12 := Nat.mul_le_mul h2 h
  have e3 : (l.getD s 0 : Int) * (t : Int) = ((l.getD s 0 * t : Nat) : Int) := by rw [Int.natCast_mul]
  have e4 : ((r.take t).count s : Int) * (l.sum : Int) = (((r.take t).count s * l.sum : Nat) : Int) := by rw [Int.natCast_mul]
  rw [e3, e4]
  omega
/-! read from behind -/
theorem lgG_end {l : List Nat} (r : Row l) (s : Nat) (hs : s < l.length) : lgG l r.r r.r.length s = 0 := by
  unfold lgG
  rw [List.take_length, r.cnt s hs, r.len, List.getD_eq_getElem?_getD, List.getElem?_eq_getElem hs, Option.getD_some]
  omega
theorem lgG_zero (l r : List Nat) (s : Nat) : lgG l r 0 s = 0 := by unfold lgG; simp
def Row.rev {l : List Nat} (r : Row l) : Row l := ⟨r.r.reverse, fun x hx => r.lt x (List.mem_reverse.mp hx), fun s h => by rw [List.count_reverse]; exact r.cnt s h⟩
theorem lgG_rev {l : List Nat} (r : Row l) {t : Nat} (ht : t ≤ r.r.length) (s : Nat) (hs : s < l.length) : lgG l r.rev.r t s = - lgG l r.r (r.r.length - t) s := by
  have e := r.cnt s hs
  have e2 : r.rev.r.take t = (r.r.drop (r.r.length - t)).reverse := by
    show r.r.reverse.take t = _
    rw [List.take_reverse]
  have e3 : (r.r.take (r.r.length - t)).count s + (r.r.drop (r.r.length - t)).count s = r.r.count s := by rw [← List.count_append, List.take_append_drop]
  have g : l.getD s 0 = l[s] := by rw [List.getD_eq_getElem?_getD, List.getElem?_eq_getElem hs, Option.getD_some]
  have rl := r.len
  unfold lgG
  rw [e2, List.count_reverse, g]
  rw [e] at e3
  have e4 : ((r.r.drop (r.r.length - t)).count s : Int) = (l[s] : Int) - ((r.r.take (r.r.length - t)).count s : Int) := by omega
  rw [e4, Int.natCast_sub ht, rl, Int.sub_mul, Int.mul_sub]
  omega
theorem sum_rng_rev (f : Nat → Int) : ∀ n : Nat, ((List.range n).map fun t => f (n - 1 - t)).sum = ((List.range n).map f).sum := fun n => by
  have e : (List.range n).map (fun t => f (n - 1 - t)) = ((List.range n).map f).reverse := by
    refine List.ext_getElem (by simp) fun i h1 h2 => ?_
    simp
  rw [e]
  generalize (List.range n).map f = l
  induction l with
  | nil => rfl
  | cons x l ih => rw [List.reverse_cons, List.sum_append, ih, List.sum_cons]; simp; omega
theorem sum_shift (f : Nat → Int) : ∀ n : Nat, f 0 = 0 → f n = 0 → ((List.range n).map fun t => f (t + 1)).sum = ((List.range n).map f).sum := fun n h0 hn => by
  have g : ∀ n : Nat, ((List.range n).map fun t => f (t + 1)).sum + f 0 = ((List.range n).map f).sum + f n := fun n => by
    induction n with
    | zero => simp
    | succ n ih =>
      rw [List.range_succ, List.map_append, List.sum_append, List.map_append, List.sum_append]
      simp only [List.map_cons, List.map_nil, List.sum_cons, List.sum_nil]
      omega
  have := g n
  omega
theorem unG_rev {l : List Nat} (r : Row l) : unG l r.rev.r = unG l r.r := by
  unfold unG
  have hl : r.rev.r.length = r.r.length := List.length_reverse
  rw [hl]
  have e : (List.range r.r.length).map (fun t => ((List.range l.length).map fun s => lgG l r.rev.r (t + 1) s * lgG l r.rev.r (t + 1) s).sum) = (List.range r.r.length).map fun t => (fun u => ((List.range l.length).map fun s => lgG l r.r u s * lgG l r.r u s).sum) (r.r.length - 1 - t) := by
    refine List.map_congr_left fun t ht => ?_
    have ht := List.mem_range.mp ht
    show _ = ((List.range l.length).map fun s => lgG l r.r (r.r.length - 1 - t) s * lgG l r.r (r.r.length - 1 - t) s).sum
    congr 1
    refine List.map_congr_left fun s hs => ?_
    rw [lgG_rev r (by omega) s (List.mem_range.mp hs), Int.neg_mul_neg, show r.r.length - (t + 1) = r.r.length - 1 - t by omega]
  rw [e, sum_rng_rev (fun u => ((List.range l.length).map fun s => lgG l r.r u s * lgG l r.r u s).sum)]
  refine (sum_shift _ _ ?_ ?_).symm
  · simp only [lgG_zero]
    generalize List.range l.length = z
    induction z with
    | nil => rfl
    | cons x z ih => rw [List.map_cons, List.sum_cons, ih]; rfl
  · have : (List.range l.length).map (fun s => lgG l r.r r.r.length s * lgG l r.r r.r.length s) = (List.range l.length).map fun _ => 0 := List.map_congr_left fun s hs => by rw [lgG_end r s (List.mem_range.mp hs)]; rfl
    rw [this]
    generalize List.range l.length = z
    induction z with
    | nil => rfl
    | cons x z ih => rw [List.map_cons, List.sum_cons, ih]; rfl
def abG (l r : List Nat) (t s : Nat) : Int := if lgG l r t s < 0 then -lgG l r t s else lgG l r t s
theorem abG_nn (l r : List Nat) (t s : Nat) : 0 ≤ abG l r t s := by unfold abG; split <;> omega
theorem grG_le {l r : List Nat} (hl : 1 ≤ l.length) (hr : 1 ≤ r.length) {b : Int} : grG l r ≤ b ↔ ∀ t, t < r.length → ∀ s, s < l.length → abG l r (t + 1) s ≤ b := by
  unfold grG
  rw [mxI_le (by intro e; have := congrArg List.length e; rw [List.length_map, List.length_range] at this; simp only [List.length_nil] at this; omega)]
  simp only [List.mem_map, List.mem_range, forall_exists_index, and_imp, forall_apply_eq_imp_iff₂]
  have : ∀ t, (mxI ((List.range l.length).map fun s => if lgG l r (t + 1) s < 0 then -lgG l r (t + 1) s else lgG l r (t + 1) s) ≤ b) ↔ ∀ s, s < l.length → abG l r (t + 1) s ≤ b := fun t => by
    rw [mxI_le (by intro e; have := congrArg List.length e; rw [List.length_map, List.length_range] at this; simp only [List.length_nil] at this; omega)]
    simp only [List.mem_map, List.mem_range, forall_exists_index, and_imp, forall_apply_eq_imp_iff₂]
    rfl
  simp only [this]
theorem grG_ge {l r : List Nat} (hl : 1 ≤ l.length) (hr : 1 ≤ r.length) {t s : Nat} (ht : t < r.length) (hs : s < l.length) : abG l r (t + 1) s ≤ grG l r := (grG_le hl hr).mp (Int.le_refl _) t ht s hs
theorem grG_nn {l r : List Nat} (hl : 1 ≤ l.length) (hr : 1 ≤ r.length) : 0 ≤ grG l r := Int.le_trans (abG_nn l r 1 0) (grG_ge hl hr (t := 0) (s := 0) (by omega) (by omega))
theorem grG_rev_le {l : List Nat} (r : Row l) (hl : 1 ≤ l.length) (hr : 1 ≤ r.r.length) : grG l r.rev.r ≤ grG l r.r := by
  have hrl : r.rev.r.length = r.r.length := List.length_reverse
  rw [grG_le hl (by omega)]
  intro t ht s hs
  rw [hrl] at ht
  have e : abG l r.rev.r (t + 1) s = abG l r.r (r.r.length - (t + 1)) s := by
    unfold abG
    rw [lgG_rev r (by omega) s hs]
    split <;> split <;> omega
  rw [e]
  by_cases c : r.r.length - (t + 1) = 0
  · rw [c]
    unfold abG
    rw [lgG_zero]
    exact grG_nn hl hr
  · have := grG_ge (l := l) (r := r.r) hl hr (t := r.r.length - (t + 1) - 1) (s := s) (by omega) hs
    rwa [show r.r.length - (t + 1) - 1 + 1 = r.r.length - (t + 1) by omega] at this
theorem Row.rev_rev {l : List Nat} (r : Row l) : r.rev.rev = r := by
  unfold Row.rev
  cases r
  simp
theorem grG_rev {l : List Nat} (r : Row l) (hl : 1 ≤ l.length) (hr : 1 ≤ r.r.length) : grG l r.rev.r = grG l r.r := by
  refine Int.le_antisymm (grG_rev_le r hl hr) ?_
  have := grG_rev_le r.rev hl (by rw [show r.rev.r.length = r.r.length from List.length_reverse]; exact hr)
  rwa [r.rev_rev] at this
/-! sorts told in another order -/
theorem count_back {n : Nat} (r : List Nat) (h : ∀ x ∈ r, x < n) {s : Nat} (hs : s < n) : (r.map fun x => n - 1 - x).count s = r.count (n - 1 - s) := by
  induction r with
  | nil => rfl
  | cons x r ih =>
    have hx := h x List.mem_cons_self
    rw [List.map_cons, List.count_cons, List.count_cons, ih fun y hy => h y (List.mem_cons_of_mem _ hy)]
    congr 1
    by_cases c : n - 1 - x = s
    · have : x = n - 1 - s := by omega
      subst this
      have : n - 1 - (n - 1 - s) = s := by omega
      simp [this]
    · have : ¬ x = n - 1 - s := by omega
      simp [c, this]
def Row.back {l : List Nat} (r : Row l) : Row l.reverse := ⟨r.r.map fun x => l.length - 1 - x, fun x hx => by
    obtain ⟨y, hy, rfl⟩ := List.mem_map.mp hx
    have := r.lt y hy
    rw [List.length_reverse]; omega, fun s hs => by
    rw [List.length_reverse] at hs
    rw [count_back r.r r.lt hs, r.cnt _ (by omega), List.getElem_reverse]⟩
theorem sum_revN : ∀ l : List Nat, l.reverse.sum = l.sum
  | [] => rfl
  | x :: l => by rw [List.reverse_cons, List.sum_append, sum_revN l, List.sum_cons]; simp; omega
theorem lgG_back {l : List Nat} (r : Row l) (t s : Nat) (hs : s < l.length) : lgG l.reverse r.back.r t s = lgG l r.r t (l.length - 1 - s) := by
  unfold lgG
  rw [sum_revN]
  have e : (r.back.r.take t).count s = (r.r.take t).count (l.length - 1 - s) := by
    show ((r.r.map fun x => l.length - 1 - x).take t).count s = _
    rw [← List.map_take, count_back _ (fun x hx => r.lt x (List.mem_of_mem_take hx)) hs]
  have g : l.reverse.getD s 0 = l.getD (l.length - 1 - s) 0 := by
    rw [List.getD_eq_getElem?_getD, List.getD_eq_getElem?_getD, List.getElem?_eq_getElem (by rw [List.length_reverse]; exact hs), List.getElem?_eq_getElem (by omega), List.getElem_reverse]
  rw [e, g]
theorem unG_back {l : List Nat} (r : Row l) : unG l.reverse r.back.r = unG l r.r := by
  unfold unG
  have hl : r.back.r.length = r.r.length := by show (r.r.map _).length = _; rw [List.length_map]
  rw [hl, List.length_reverse]
  congr 1
  refine List.map_congr_left fun t _ => ?_
  rw [← sum_rng_rev (fun s => lgG l r.r (t + 1) s * lgG l r.r (t + 1) s) l.length]
  congr 1
  refine List.map_congr_left fun s hs => ?_
  rw [lgG_back r (t + 1) s (List.mem_range.mp hs)]
theorem grG_back {l : List Nat} (r : Row l) (h1 : 1 ≤ l.length) (hr : 1 ≤ r.r.length) : grG l.reverse r.back.r = grG l r.r := by
  have hl : r.back.r.length = r.r.length := by show (r.r.map _).length = _; rw [List.length_map]
  have e : ∀ t s, s < l.length → abG l.reverse r.back.r t s = abG l r.r t (l.length - 1 - s) := fun t s hs => by unfold abG; rw [lgG_back r t s hs]
  refine Int.le_antisymm ((grG_le (by rw [List.length_reverse]; exact h1) (by omega)).mpr fun t ht s hs => ?_) ((grG_le h1 hr).mpr fun t ht s hs => ?_)
  · rw [List.length_reverse] at hs
    rw [e _ s hs]
    exact grG_ge h1 hr (by omega) (by omega)
  · have := grG_ge (l := l.reverse) (r := r.back.r) (by rw [List.length_reverse]; exact h1) (by omega) (t := t) (s := l.length - 1 - s) (by omega) (by rw [List.length_reverse]; omega)
    rwa [e _ _ (by omega), show l.length - 1 - (l.length - 1 - s) = s by omega] at this
end Tk
namespace Tk
open PySem
/-- a state's lag, times the sum -/
def lgS (l st : List Nat) (i : Nat) : Int := (l.getD i 0 : Int) * (st.sum : Int) - (st.getD i 0 : Int) * (l.sum : Int)
theorem getD_le {l : List Nat} {i : Nat} : l.getD i 0 ≤ l.sum := by
  rw [List.getD_eq_getElem?_getD]
  by_cases c : i < l.length
  · rw [List.getElem?_eq_getElem c, Option.getD_some]; exact le_sum (List.getElem_mem c)
  · rw [List.getElem?_eq_none (by omega)]; simp
theorem getD_at {l : List Nat} {i : Nat} (h : i < l.length) : l.getD i 0 = l[i] := by
  rw [List.getD_eq_getElem?_getD, List.getElem?_eq_getElem h, Option.getD_some]
theorem lgS_small {l st : List Nat} (h1 : l.sum ≤ 12) (h2 : st.sum ≤ 12) (i : Nat) : -1000 < lgS l st i ∧ lgS l st i < 1000 := by
  have a := getD_le (l := l) (i := i)
  have b := getD_le (l := st) (i := i)
  have e1 : l.getD i 0 * st.sum ≤ 12 * 12 := Nat.mul_le_mul (by omega) h2
  have e2 : st.getD i 0 * l.sum ≤ 12 * 12 := Nat.mul_le_mul (by omega) h1
  unfold lgS
  rw [← Int.natCast_mul, ← Int.natCast_mul]
  omega
theorem lgS_stG {l r : List Nat} {t s : Nat} (hr : ∀ x ∈ r, x < l.length) (ht : t ≤ r.length) (hs : s < l.length) : lgS l (stG l.length r t) s = lgG l r t s := by
  unfold lgS lgG
  rw [stG_sum hr ht, getD_at (l := stG l.length r t) (by rw [stG_len]; exact hs), stG_get hs]
theorem sum_take_le : ∀ (l : List Nat) (n : Nat), (l.take n).sum ≤ l.sum
  | [], n => by simp
  | x :: l, 0 => by simp
  | x :: l, n + 1 => by
    have := sum_take_le l n
    rw [List.take_succ_cons, List.sum_cons, List.sum_cons]; omega
theorem kMt2_TN {i : Nat} {ρ : Env} {s : List Nat} {xs : List (List Nat)} (h : xs.length < 16777216) : kMt2 .append i [tT eN s] ρ (some (tL (tT eN) xs)) = .ok .non (ρ.set i ((getS ρ i).with (tL (tT eN) (xs ++ [s])))) := kMt2_L h
theorem rep1 {s k : Nat} (h : k < 1000) : binF .mul (.lst [.int (s : Int)]) (.int (k : Int)) = some (tL eN (List.replicate k s)) := by
  unfold tL
  have e : (List.replicate (k : Int).toNat [D.int (s : Int)]).flatten = (List.replicate k s).map eN := by
    rw [Int.toNat_natCast]
    induction k with
    | zero => rfl
    | succ n ih => rw [List.replicate_succ, List.flatten_cons, List.replicate_succ, List.map_cons, ih (by omega)]; rfl
  simp only [binF, e]
  rw [if_pos]
  have z : (k : Int).toNat = k := Int.toNat_natCast k
  simp only [List.length_cons, List.length_nil, Bool.and_eq_true, decide_eq_true_eq, big, z]
  omega
section
variable {u : Int × Int × Int} {i j : Nat} {ρ : Env}
theorem setU_0 {v : Int} : kSet2 i (.int v) (.int 0) ρ (some (eUrn u)) = .ok .nx (ρ.set i ((getS ρ i).with (eUrn (v, u.2.1, u.2.2)))) := rfl
theorem setU_1T {v : Int} {y : D} : kTd i j (.int v) y (.int 1) ρ (some (eUrn u)) = kNx ρ (putS (ρ.set i ((getS ρ i).with (eUrn (u.1, v, u.2.2)))) j (.val y)) := rfl
end
theorem repr_small {d : D} (h1 : D.flat 60 d = true) (h2 : rsm d = true) (h3 : rwt d ≤ 2 ^ 20) : reprF d = some (.str (toP d).shown) := by
  unfold reprF
  rw [h1, h2, decide_eq_true h3]; rfl
theorem repr_QQ {a b : Rat} (h1 : a.num.natAbs < 10 ^ 12) (h2 : b.num.natAbs < 10 ^ 12) (h3 : a.den < 10 ^ 12) (h4 : b.den < 10 ^ 12) : biF .repr [.lst [eQ a, eQ b]] = some (.str (toP (.lst [eQ a, eQ b])).shown) := by
  show reprF _ = _
  refine repr_small ?_ ?_ ?_
  · unfold eQ; simp only [D.flat, D.flats, Bool.and_self]
  · unfold eQ
    simp only [rsm, rsms, decide_eq_true h1, decide_eq_true h2, Int.natAbs_natCast, decide_eq_true h3, decide_eq_true h4, Bool.and_self]
  · unfold eQ; simp only [rwt, rwts]; omega
theorem eq_strS {s : PySem.Str} : eqD (.str s) (.str s) = some true := by
  unfold eqD
  simp only [flat_str, Bool.and_self, if_true, D.beq, beq_self_eq_true]
theorem sum_bd {α : Type} {f : α → Nat} {c : Nat} : ∀ z : List α, (∀ s ∈ z, f s ≤ c) → (z.map f).sum ≤ c * z.length
  | [], _ => by simp
  | a :: z, h => by
    have h1 := h a List.mem_cons_self
    have h2 := sum_bd z fun s hs => h s (List.mem_cons_of_mem _ hs)
    rw [List.map_cons, List.sum_cons, List.length_cons, Nat.mul_add]; omega
theorem erase_perm {α : Type} : ∀ (l : List α) (i : Nat) (h : i < l.length), (l[i] :: l.eraseIdx i).Perm l
  | x :: l, 0, h => by simp
  | x :: l, i + 1, h => by
    rw [List.getElem_cons_succ, List.eraseIdx_cons_succ]
    exact (List.Perm.swap x _ _).trans ((erase_perm l i (by simpa using h)).cons x)
def Dms.rev (d : Dms) : Dms := ⟨d.l.reverse, by rw [List.length_reverse]; exact d.n1, by rw [List.length_reverse]; exact d.n5, fun x hx => d.pos x (List.mem_reverse.mp hx), by rw [sum_revN]; exact d.s12⟩
theorem grG_small {d : Dms} (r : Row d.l) : 0 ≤ grG d.l r.r ∧ grG d.l r.r ≤ 1000 := by
  have n1 := d.n1
  have s12 := d.s12
  have rl := r.len
  have s1 := Nat.le_trans (d.pos _ (List.getElem_mem (show 0 < d.l.length by omega))) (le_sum (List.getElem_mem (show 0 < d.l.length by omega)))
  refine ⟨grG_nn n1 (by omega), (grG_le n1 (by omega)).mpr fun t ht s hs => ?_⟩
  have b := lgG_small (l := d.l) (r := r.r) (t := t + 1) (s := s) s12 (by omega) (by omega)
  unfold abG
  split <;> omega
theorem unG_small {d : Dms} (r : Row d.l) : 0 ≤ unG d.l r.r ∧ unG d.l r.r ≤ 1000000000 := by
  have n5 := d.n5
  have s12 := d.s12
  have rl := r.len
  have one : ∀ t, t < r.r.length → ∀ s, 0 ≤ lgG d.l r.r (t + 1) s * lgG d.l r.r (t + 1) s ∧ lgG d.l r.r (t + 1) s * lgG d.l r.r (t + 1) s ≤ 1000000 := fun t ht s => by
    have b := lgG_small (l := d.l) (r := r.r) (t := t + 1) (s := s) s12 (by omega) (by omega)
    refine ⟨by rw [← Int.natAbs_mul_self]; omega, ?_⟩
    generalize lgG d.l r.r (t + 1) s = x at *
    have : x * x = (x.natAbs * x.natAbs : Nat) := by rw [Int.natAbs_mul_self]
    rw [this]
    have : x.natAbs * x.natAbs ≤ 1000 * 1000 := Nat.mul_le_mul (by omega) (by omega)
    omega
  have two : ∀ (c : Int) (f : Nat → Int) (z : List Nat), (∀ s ∈ z, 0 ≤ f s ∧ f s ≤ c) → 0 ≤ (z.map f).sum ∧ (z.map f).sum ≤ c * z.length := fun c f z => by
    induction z with
    | nil => intro _; simp
    | cons a z ih =>
      intro h
      have h1 := h a List.mem_cons_self
      have h2 := ih fun s hs => h s (List.mem_cons_of_mem _ hs)
      rw [List.map_cons, List.sum_cons, List.length_cons, Int.natCast_add, Int.mul_add]
      omega
  have thr : ∀ t ∈ List.range r.r.length, 0 ≤ ((List.range d.l.length).map fun s => lgG d.l r.r (t + 1) s * lgG d.l r.r (t + 1) s).sum ∧ ((List.range d.l.length).map fun s => lgG d.l r.r (t + 1) s * lgG d.l r.r (t + 1) s).sum ≤ 5000000 := fun t ht => by
    have := two 1000000 (fun s => lgG d.l r.r (t + 1) s * lgG d.l r.r (t + 1) s) (List.range d.l.length) fun s _ => one t (List.mem_range.mp ht) s
    rw [List.length_range] at this
    omega
  have := two 5000000 _ (List.range r.r.length) thr
  rw [List.length_range] at this
  unfold unG
  omega
theorem num_small {n : Int} {c : Nat} (hc : 0 < c) (h0 : 0 ≤ n) (h : n ≤ 1000000000) : (mkRat n c).num.natAbs < 10 ^ 12 ∧ (mkRat n c).den ≤ c := by
  rw [Rat.num_mkRat, Rat.den_mkRat, if_neg (by omega), if_neg (by omega)]
  refine ⟨?_, Nat.div_le_self ..⟩
  have h1 : (n / ((Nat.gcd c n.natAbs : Nat) : Int)) ≤ n := Int.ediv_le_self _ h0
  have h2 : 0 ≤ (n / ((Nat.gcd c n.natAbs : Nat) : Int)) := Int.ediv_nonneg h0 (by omega)
  omega
end Tk

set_option Elab.async false
set_option linter.all false
set_option maxRecDepth 100000
set_option maxHeartbeats 2000000
/-! Seats by rests. -/
namespace Tk
open PySem
def flS (s : Shr) (N : Int) : Int := s.q.num * N / s.q.den
def rsS (s : Shr) (N : Int) : Rat := mkRat (s.q.num * N % s.q.den) s.q.den
theorem rsS_eq (s : Shr) (N : Int) : rsS s N = s.q * (N : Rat) - ((flS s N : Int) : Rat) := by
  have d1 := s.q.den_pos
  refine eq_of_mul d1 ?_
  unfold rsS flS
  rw [mk_mul_den _ d1]
  have e := Int.emod_add_mul_ediv (s.q.num * N) s.q.den
  have m := mul_den s.q
  have e2 : ((s.q.num * N : Int) : Rat) = ((s.q.num * N % (s.q.den : Int) : Int) : Rat) + ((s.q.den : Int) : Rat) * ((s.q.num * N / (s.q.den : Int) : Int) : Rat) := by
    rw [← Rat.intCast_mul, ← Rat.intCast_add, e]
  rw [Rat.intCast_mul] at e2
  generalize s.q.num * N / (s.q.den : Int) = f at *
  generalize s.q.num * N % (s.q.den : Int) = g at *
  grind
theorem rsS_nn (s : Shr) (N : Int) : 0 ≤ rsS s N := by
  have d1 := s.d1
  have := Int.emod_nonneg (s.q.num * N) (show (s.q.den : Int) ≠ 0 by omega)
  have e := mk_mul_den (s.q.num * N % (s.q.den : Int)) s.q.den_pos
  have h1 : (0 : Rat) ≤ ((s.q.num * N % (s.q.den : Int) : Int) : Rat) := by
    rw [show (0 : Rat) = ((0 : Int) : Rat) from rfl, Rat.intCast_le_intCast]; exact this
  have h2 : (0 : Rat) < ((s.q.den : Int) : Rat) := by
    rw [show (0 : Rat) = ((0 : Int) : Rat) from rfl, Rat.intCast_lt_intCast]; omega
  unfold rsS
  generalize ((s.q.num * N % (s.q.den : Int) : Int) : Rat) = g at *
  refine Classical.byContradiction fun c => ?_
  have := Rat.mul_lt_mul_of_pos_right (show mkRat (s.q.num * N % (s.q.den : Int)) s.q.den < 0 by grind) h2
  grind
theorem rsS_lt (s : Shr) (N : Int) : rsS s N < 1 := by
  have d1 := s.d1
  have := Int.emod_lt_of_pos (s.q.num * N) (show (0 : Int) < s.q.den by omega)
  have e := mk_mul_den (s.q.num * N % (s.q.den : Int)) s.q.den_pos
  have h2 : (0 : Rat) < ((s.q.den : Int) : Rat) := by
    rw [show (0 : Rat) = ((0 : Int) : Rat) from rfl, Rat.intCast_lt_intCast]; omega
  have h3 : ((s.q.num * N % (s.q.den : Int) : Int) : Rat) < ((s.q.den : Int) : Rat) := by rw [Rat.intCast_lt_intCast]; exact this
  unfold rsS
  generalize ((s.q.num * N % (s.q.den : Int) : Int) : Rat) = g at *
  refine Rat.lt_of_mul_lt_mul_right (c := ((s.q.den : Int) : Rat)) ?_ (by grind)
  rw [e]; grind
section
variable (l : List Shr) (N : Int)
def flR (i : Nat) : Int := if hi : i < l.length then flS l[i] N else 0
def lgR (i : Nat) : Rat := if hi : i < l.length then rsS l[i] N else 0
def kR : Int := N - ((List.range l.length).map (flR l N)).sum
def ordS : List Nat := (List.range l.length).mergeSort (rkB (lgR l N))
def seat (i : Nat) : Int := flR l N i + if i ∈ (ordS l N).take (kR l N).toNat then 1 else 0
def stS : List Int := (List.range l.length).map (seat l N)
variable {l N}
theorem lgR_at {i : Nat} (h : i < l.length) : lgR l N i = rsS l[i] N := dif_pos h
theorem flR_at {i : Nat} (h : i < l.length) : flR l N i = flS l[i] N := dif_pos h
theorem lgR_nn (i : Nat) : 0 ≤ lgR l N i := by
  unfold lgR
  split
  · exact rsS_nn ..
  · exact Rat.le_refl
theorem lgR_le (i : Nat) : lgR l N i ≤ 1 := by
  unfold lgR
  split
  · rename_i h
    have := rsS_lt l[i] N
    grind
  · grind
theorem rng_map {α β : Type} {l : List α} {f : Nat → β} {g : α → β} (h : ∀ i (hi : i < l.length), f i = g l[i]) : (List.range l.length).map f = l.map g := by
  refine List.ext_getElem (by simp) fun i h1 h2 => ?_
  simp only [List.getElem_map, List.getElem_range]
  exact h i (by simpa using h1)
theorem kR_rat (h1 : sumL l = 1) : ((kR l N : Int) : Rat) = ((List.range l.length).map (lgR l N)).sum := by
  have e1 : (List.range l.length).map (lgR l N) = l.map fun s => rsS s N := rng_map fun i hi => lgR_at hi
  have e2 : (List.range l.length).map (flR l N) = l.map fun s => flS s N := rng_map fun i hi => flR_at hi
  have e3 : (l.map fun s => rsS s N) = l.map fun s => s.q * (N : Rat) - ((flS s N : Int) : Rat) := List.map_congr_left fun s _ => rsS_eq s N
  unfold kR
  rw [e1, e2, e3, sum_lin (fun s : Shr => s.q) (fun s => flS s N) (N : Rat) l, ← sumL_sum, h1, Rat.intCast_sub]
  grind
theorem rsum_nn {f : Nat → Rat} (h : ∀ i, 0 ≤ f i) : ∀ z : List Nat, 0 ≤ (z.map f).sum
  | [] => by simp
  | a :: z => by
    have := rsum_nn h z
    have := h a
    rw [List.map_cons, List.sum_cons]; grind
theorem rsum_le {f : Nat → Rat} (h : ∀ i, f i ≤ 1) : ∀ z : List Nat, (z.map f).sum ≤ ((z.length : Int) : Rat)
  | [] => by simp
  | a :: z => by
    have := rsum_le h z
    have := h a
    rw [List.map_cons, List.sum_cons, List.length_cons, Int.natCast_add, Rat.intCast_add]
    have : ((((1 : Nat) : Int)) : Rat) = 1 := rfl
    grind
theorem rsum_z {f : Nat → Rat} : ∀ z : List Nat, (∀ i ∈ z, f i ≤ 0) → (z.map f).sum ≤ 0
  | [], _ => by simp
  | a :: z, h => by
    have := rsum_z z fun i hi => h i (List.mem_cons_of_mem _ hi)
    have := h a List.mem_cons_self
    rw [List.map_cons, List.sum_cons]; grind
theorem rsum_perm {f : Nat → Rat} {a b : List Nat} (h : a.Perm b) : (a.map f).sum = (b.map f).sum := by
  induction h with
  | nil => rfl
  | cons x _ ih => rw [List.map_cons, List.sum_cons, ih, List.map_cons, List.sum_cons]
  | swap x y z => simp only [List.map_cons, List.sum_cons]; grind
  | trans _ _ h1 h2 => exact h1.trans h2
theorem kR_bd (h1 : sumL l = 1) : 0 ≤ kR l N ∧ kR l N ≤ l.length := by
  have e := kR_rat (N := N) h1
  have a := rsum_nn (lgR_nn (l := l) (N := N)) (List.range l.length)
  have b := rsum_le (lgR_le (l := l) (N := N)) (List.range l.length)
  rw [← e] at a b
  rw [List.length_range] at b
  rw [show (0 : Rat) = ((0 : Int) : Rat) from rfl, Rat.intCast_le_intCast] at a
  rw [Rat.intCast_le_intCast] at b
  exact ⟨a, b⟩
theorem ord_perm : (ordS l N).Perm (List.range l.length) := List.mergeSort_perm ..
theorem ord_srt : (ordS l N).Pairwise fun a b => rkB (lgR l N) a b = true := List.pairwise_mergeSort (rkB_trans _) (rkB_total _) _
theorem ord_nodup : (ordS l N).Nodup := (ord_perm (l := l) (N := N)).nodup_iff.mpr List.nodup_range
theorem ord_len : (ordS l N).length = l.length := by rw [ord_perm.length_eq, List.length_range]
theorem ord_lt {i : Nat} (h : i ∈ ordS l N) : i < l.length := List.mem_range.mp (ord_perm.mem_iff.mp h)
theorem sum_indI (n : Nat) (z : List Nat) (nd : z.Nodup) (h : ∀ x ∈ z, x < n) : ((List.range n).map fun i => (if i ∈ z then (1 : Int) else 0)).sum = z.length := by
  have := sum_ind n z nd h
  have e : ((List.range n).map fun i => (if i ∈ z then (1 : Int) else 0)) = (List.range n).map fun i => (((if i ∈ z then 1 else 0 : Nat)) : Int) := List.map_congr_left fun i _ => by split <;> rfl
  rw [e, sum_cast fun i => (if i ∈ z then 1 else 0 : Nat), this]
theorem sumI_add {α : Type} (f g : α → Int) : ∀ z : List α, (z.map fun x => f x + g x).sum = (z.map f).sum + (z.map g).sum
  | [] => rfl
  | a :: z => by
    rw [List.map_cons, List.sum_cons, sumI_add f g z, List.map_cons, List.sum_cons, List.map_cons, List.sum_cons]; omega
theorem stS_sum (h1 : sumL l = 1) : (stS l N).sum = N := by
  unfold stS seat
  obtain ⟨k0, k1⟩ := kR_bd (N := N) h1
  rw [sumI_add, sum_indI l.length ((ordS l N).take (kR l N).toNat) (ord_nodup.sublist (List.take_sublist ..)) fun x hx => ord_lt (List.mem_of_mem_take hx), List.length_take, ord_len]
  unfold kR at *
  omega
theorem seat_pos (h1 : sumL l = 1) {i : Nat} (h : i ∈ (ordS l N).take (kR l N).toNat) : 0 < lgR l N i := by
  refine Classical.byContradiction fun c => ?_
  have z : lgR l N i ≤ 0 := by grind
  obtain ⟨j, hj, e⟩ := List.mem_iff_getElem.mp h
  rw [List.length_take] at hj
  rw [List.getElem_take] at e
  obtain ⟨k0, k1⟩ := kR_bd (N := N) h1
  have srt := ord_srt (l := l) (N := N)
  have dr : ∀ x ∈ (ordS l N).drop j, lgR l N x ≤ 0 := fun x hx => by
    obtain ⟨m, hm, em⟩ := List.mem_iff_getElem.mp hx
    rw [List.getElem_drop] at em
    rw [List.length_drop] at hm
    by_cases m0 : m = 0
    · subst m0
      have : x = i := by rw [← em, ← e]; simp
      rw [this]; exact z
    · have := List.pairwise_iff_getElem.mp srt j (j + m) (by omega) (by omega) (by omega)
      rw [e, em, rkB_t] at this
      rcases this with g | ⟨g, _⟩ <;> grind
  have s1 := rsum_le (lgR_le (l := l) (N := N)) ((ordS l N).take j)
  have s2 := rsum_z ((ordS l N).drop j) dr
  have s3 : ((ordS l N).map (lgR l N)).sum = ((kR l N : Int) : Rat) := by rw [rsum_perm ord_perm, kR_rat h1]
  rw [← List.take_append_drop j (ordS l N), List.map_append, List.sum_append] at s3
  rw [List.length_take] at s1
  have : ((kR l N : Int) : Rat) ≤ (((min j (ordS l N).length : Nat) : Int) : Rat) := by grind
  rw [Rat.intCast_le_intCast] at this
  omega
theorem seat_bd (h1 : sumL l = 1) {i : Nat} (hi : i < l.length) : (l[i].q * (N : Rat)).floor ≤ seat l N i ∧ seat l N i ≤ (l[i].q * (N : Rat)).ceil := by
  have f : (l[i].q * (N : Rat)).floor = flR l N i := by
    rw [flR_at hi]
    have := rsS_eq l[i] N
    have a := rsS_nn l[i] N
    have b := rsS_lt l[i] N
    refine Int.le_antisymm ?_ ?_
    · rw [← Int.lt_add_one_iff, Rat.floor_lt_iff, Rat.intCast_add]
      have : ((1 : Int) : Rat) = 1 := rfl
      grind
    · rw [Rat.le_floor_iff]; grind
  unfold seat
  by_cases c : i ∈ (ordS l N).take (kR l N).toNat
  · rw [if_pos c]
    have p := seat_pos h1 c
    rw [lgR_at hi, rsS_eq] at p
    refine ⟨by omega, ?_⟩
    rw [Int.add_one_le_iff, Rat.lt_ceil_iff, flR_at hi]
    grind
  · rw [if_neg c]
    refine ⟨by omega, ?_⟩
    rw [← f, Int.add_zero]
    have h1 := Rat.floor_le (l[i].q * (N : Rat))
    have h2 : (l[i].q * (N : Rat)) ≤ (((l[i].q * (N : Rat)).ceil : Int) : Rat) := Rat.le_ceil
    rw [← Rat.intCast_le_intCast]
    grind
end
/-! the order by inserting one behind another -/
theorem filt_pre (lg : Nat → Rat) (x : Rat) : ∀ z : List Nat, z.Pairwise (fun a b => rkB lg a b = true) → (∀ e ∈ z.take (z.filter fun e => !decide (lg e < x)).length, ¬ lg e < x) ∧ ∀ e ∈ z.drop (z.filter fun e => !decide (lg e < x)).length, lg e < x
  | [], _ => by simp
  | a :: z, h => by
    have h' := List.pairwise_cons.mp h
    obtain ⟨i1, i2⟩ := filt_pre lg x z h'.2
    by_cases c : lg a < x
    · have all : ∀ e ∈ z, lg e < x := fun e he => by
        have := rkB_t.mp (h'.1 e he)
        rcases this with g | ⟨g, _⟩ <;> grind
      have : ((a :: z).filter fun e => !decide (lg e < x)) = [] := List.filter_eq_nil_iff.mpr fun e he => by
        rcases List.mem_cons.mp he with rfl | he
        · simp [c]
        · simp [all e he]
      rw [this]
      refine ⟨by simp, fun e he => ?_⟩
      rcases List.mem_cons.mp (by simpa using he) with rfl | he
      · exact c
      · exact all e he
    · have : ((a :: z).filter fun e => !decide (lg e < x)) = a :: z.filter fun e => !decide (lg e < x) := List.filter_cons_of_pos (by simp [c])
      rw [this, List.length_cons, List.take_succ_cons, List.drop_succ_cons]
      refine ⟨fun e he => ?_, i2⟩
      rcases List.mem_cons.mp he with rfl | he
      · exact c
      · exact i1 e he
theorem ins_sort (lg : Nat → Rat) (t : Nat) : ∀ z : List Nat, z = (List.range t).mergeSort (rkB lg) → z.take (z.filter fun e => !decide (lg e < lg t)).length ++ [t] ++ z.drop (z.filter fun e => !decide (lg e < lg t)).length = (List.range (t + 1)).mergeSort (rkB lg) := by
  intro z hz
  have pm : z.Perm (List.range t) := hz ▸ List.mergeSort_perm ..
  have srt : z.Pairwise fun a b => rkB lg a b = true := hz ▸ List.pairwise_mergeSort (rkB_trans lg) (rkB_total lg) _
  have lt : ∀ e ∈ z, e < t := fun e he => List.mem_range.mp (pm.mem_iff.mp he)
  obtain ⟨h1, h2⟩ := filt_pre lg (lg t) z srt
  generalize (z.filter fun e => !decide (lg e < lg t)).length = c at *
  have td := List.take_append_drop c z
  refine List.Perm.eq_of_pairwise (fun a b _ _ => rkB_anti lg a b) ?_ (List.pairwise_mergeSort (rkB_trans lg) (rkB_total lg) _) ?_
  · rw [← td] at srt
    obtain ⟨p1, p2, p3⟩ := List.pairwise_append.mp srt
    rw [List.append_assoc, List.pairwise_append]
    refine ⟨p1, ?_, fun a ha b hb => ?_⟩
    · rw [List.singleton_append, List.pairwise_cons]
      exact ⟨fun b hb => rkB_t.mpr (.inl (h2 b hb)), p2⟩
    · rcases List.mem_append.mp hb with hb | hb
      · have : b = t := by simpa using hb
        subst this
        have := h1 a ha
        have := lt a (List.mem_of_mem_take ha)
        rw [rkB_t]
        by_cases g : lg b < lg a
        · exact .inl g
        · exact .inr ⟨by grind, by omega⟩
      · exact p3 a ha b hb
  · refine List.Perm.trans ?_ (List.mergeSort_perm ..).symm
    rw [List.range_succ]
    refine List.Perm.trans ?_ (List.Perm.append_right [t] pm)
    conv => rhs; rw [← td]
    rw [List.append_assoc, List.append_assoc]
    exact List.Perm.append_left _ List.perm_append_comm
theorem far_gen {n : Nat} {f : Nat → Int} {lg : Nat → Rat} {c : Rat} (hc : 0 < c) (h : ∀ i, i < n → ((f i : Int) : Rat) = -c * lg i) : ((List.range n).map fun i => (f i, (i : Int))).mergeSort (fun a b => decide (a.1 < b.1 ∨ (a.1 = b.1 ∧ a.2 ≤ b.2))) = ((List.range n).mergeSort (rkB lg)).map fun i => (f i, (i : Int)) := by
  refine (List.map_mergeSort fun a ha b hb => ?_).symm
  have e1 := h a (List.mem_range.mp ha)
  have e2 := h b (List.mem_range.mp hb)
  unfold rkB
  refine decide_eq_decide.mpr ?_
  simp only
  have k1 : f a < f b ↔ lg b < lg a := by
    rw [← Rat.intCast_lt_intCast, e1, e2]
    constructor
    · intro z
      refine Classical.byContradiction fun w => ?_
      have : lg a ≤ lg b := by grind
      have := Rat.mul_le_mul_of_nonneg_left this (show 0 ≤ c by grind)
      grind
    · intro z
      have := Rat.mul_lt_mul_of_pos_left z hc
      grind
  have k2 : f a = f b ↔ lg a = lg b := by
    rw [← Rat.intCast_inj, e1, e2]
    constructor
    · intro z
      refine Classical.byContradiction fun w => ?_
      rcases (show lg a < lg b ∨ lg b < lg a by grind) with w | w
      · have := Rat.mul_lt_mul_of_pos_left w hc; grind
      · have := Rat.mul_lt_mul_of_pos_left w hc; grind
    · intro z; rw [z]
  rw [k1, k2]
  constructor
  · rintro (g | ⟨g1, g2⟩)
    · exact .inl g
    · exact .inr ⟨g1, by omega⟩
  · rintro (g | ⟨g1, g2⟩)
    · exact .inl g
    · exact .inr ⟨g1, by omega⟩
end Tk
namespace Tk
open PySem
theorem kMt2_insF {i : Nat} {ρ : Env} {n : Nat} {y : _root_.Fin n} {c : Nat} {fs : List (_root_.Fin n)} (h : fs.length < 16777216) (hc : c ≤ 16777216) :
    kMt2 .insert i [.int (c : Int), .int (y.val : Int)] ρ (some (tL (fun i : _root_.Fin n => .int (i.val : Int)) fs)) = .ok .non (ρ.set i ((getS ρ i).with (tL (fun i : _root_.Fin n => .int (i.val : Int)) (fs.take c ++ [y] ++ fs.drop c)))) := by
  unfold tL
  have e : mtF .insert (fs.map fun i : _root_.Fin n => D.int (i.val : Int)) [.int (c : Int), .int (y.val : Int)] = some (.non, (fs.take c ++ [y] ++ fs.drop c).map fun i : _root_.Fin n => D.int (i.val : Int)) := by
    simp only [mtF]
    rw [if_pos (by rw [List.length_map]; simp only [big]; omega), Int.toNat_natCast, List.map_append, List.map_append, List.map_take, List.map_drop]; rfl
  rw [kMt2, e]; rfl
section
variable (l : List Shr)
def losB (N : Int) : Bool := (List.range l.length).any fun i => decide (seat l N i < seat l (N - 1) i)
def losL (m : Nat) : List Int := ((List.range m).map fun i : Nat => 1 + (i : Int)).filter fun N => losB l N
end
theorem stS_get {l : List Shr} {N : Int} {i : Nat} (h : i < l.length) : (stS l N)[i]'(by unfold stS; simpa using h) = seat l N i := by unfold stS; simp
theorem stS_len {l : List Shr} {N : Int} : (stS l N).length = l.length := by unfold stS; simp
/-- shares of a whole -/
theorem mk_shares {W : Int} (h1 : 1 ≤ W) (h2 : W ≤ 12) : ∀ ps : List Int, (∀ p ∈ ps, 1 ≤ p) → ps.sum ≤ W → ∃ l : List Shr, l.map (·.q) = ps.map (fun p => mkRat p W.toNat) ∧ (∀ s ∈ l, s.q.den ∣ W.toNat)
  | [], _, _ => ⟨[], rfl, by simp⟩
  | p :: ps, hp, hs => by
    have nn : ∀ z : List Int, (∀ p ∈ z, 1 ≤ p) → 0 ≤ z.sum := fun z => by
      induction z with
      | nil => intro _; simp
      | cons a z ih => intro h; have := ih fun p hp => h p (List.mem_cons_of_mem _ hp); have := h a List.mem_cons_self; rw [List.sum_cons]; omega
    have p1 := hp p List.mem_cons_self
    have := nn ps fun q hq => hp q (List.mem_cons_of_mem _ hq)
    rw [List.sum_cons] at hs
    obtain ⟨l, e1, e2⟩ := mk_shares h1 h2 ps (fun q hq => hp q (List.mem_cons_of_mem _ hq)) (by omega)
    obtain ⟨s, es⟩ := mkShr p W p1 (by omega) h2
    refine ⟨s :: l, by rw [List.map_cons, List.map_cons, e1, es], fun z hz => ?_⟩
    rcases List.mem_cons.mp hz with rfl | hz
    · rw [← es]; exact den_mk_dvd (by omega)
    · exact e2 z hz
theorem sum_mk {W : Nat} (hW : 0 < W) : ∀ ps : List Int, (ps.map fun p => mkRat p W).sum = mkRat ps.sum W
  | [] => by simp
  | p :: ps => by
    rw [List.map_cons, List.sum_cons, sum_mk hW ps, List.sum_cons, Rat.mkRat_add_mkRat _ _ (by omega) (by omega), ← Int.add_mul, Rat.mkRat_mul_right (by omega)]
theorem mk_self {W : Nat} (hW : 0 < W) : mkRat (W : Int) W = 1 := by
  have := Rat.mkRat_mul_right (n := 1) (d := 1) (a := W) (by omega)
  rw [Int.one_mul, Nat.one_mul] at this
  rw [this]; rfl
theorem repr_TT {xs ys : List Int} (h1 : ∀ x ∈ xs, x.natAbs < 10 ^ 12) (h2 : ∀ x ∈ ys, x.natAbs < 10 ^ 12) (h3 : xs.length ≤ 1000) (h4 : ys.length ≤ 1000) : biF .repr [.lst [tT .int xs, tT .int ys]] = some (.str (toP (.lst [tT .int xs, tT .int ys])).shown) := by
  have a : ∀ zs : List Int, (∀ x ∈ zs, x.natAbs < 10 ^ 12) → rsms (zs.map D.int) = true ∧ rwts (zs.map D.int) ≤ 41 * zs.length ∧ ∀ n, D.flats n (zs.map D.int) = true := fun zs => by
    induction zs with
    | nil => intro _; exact ⟨rfl, by simp [rwts], fun n => by simp [D.flats]⟩
    | cons z zs ih =>
      intro h
      obtain ⟨i1, i2, i3⟩ := ih fun x hx => h x (List.mem_cons_of_mem _ hx)
      have := h z List.mem_cons_self
      refine ⟨by simp only [List.map_cons, rsms, rsm, i1, decide_eq_true this, Bool.and_self], ?_, fun n => by simp only [List.map_cons, D.flats, flat_int, i3 n, Bool.and_self]⟩
      simp only [List.map_cons, rwts, rwt, List.length_cons]; omega
  obtain ⟨a1, a2, a3⟩ := a xs h1
  obtain ⟨b1, b2, b3⟩ := a ys h2
  show reprF _ = _
  refine repr_small ?_ ?_ ?_
  · unfold tT; simp only [D.flat, D.flats, a3, b3, Bool.and_self]
  · unfold tT; simp only [rsm, rsms, a1, b1, Bool.and_self]
  · unfold tT; simp only [rwt, rwts]; omega
end Tk

set_option Elab.async false
set_option linter.all false
set_option maxRecDepth 100000
set_option maxHeartbeats 2000000
namespace Tk
open PySem
theorem evB0 : (type_of% @ss_0) ∧ (type_of% @ss_1) ∧ (type_of% @kSeq_nx) ∧ (type_of% @kSeq_rt) ∧ (type_of% @kSeq_bk) ∧ (type_of% @kSeq_ct) ∧ (type_of% @kSeq_ite) ∧ (type_of% @st_asg) ∧ (type_of% @kAsg.eq_1) ∧ (type_of% @st_asgO) ∧ (type_of% @kAsgO_L) ∧ (type_of% @kAsgO_l) ∧ (type_of% @st_par) ∧ (type_of% @kPar.eq_1) ∧ (type_of% @ps_0) ∧ (type_of% @ps_1) ∧ (type_of% @kPs1.eq_1) ∧ (type_of% @kPs2.eq_1) ∧ (type_of% @isLst_L) ∧ (type_of% @st_setI) ∧ (type_of% @kSet0.eq_1) ∧ (type_of% @kSet1.eq_1) ∧ (type_of% @kSet2_l) ∧ (type_of% @kSet2_L) := ⟨@ss_0, @ss_1, @kSeq_nx, @kSeq_rt, @kSeq_bk, @kSeq_ct, @kSeq_ite, @st_asg, @kAsg.eq_1, @st_asgO, @kAsgO_L, @kAsgO_l, @st_par, @kPar.eq_1, @ps_0, @ps_1, @kPs1.eq_1, @kPs2.eq_1, @isLst_L, @st_setI, @kSet0.eq_1, @kSet1.eq_1, @kSet2_l, @kSet2_L⟩
theorem evB1 : (type_of% @st_expr) ∧ (type_of% @kExpr.eq_1) ∧ (type_of% @st_ret) ∧ (type_of% @kRet.eq_1) ∧ (type_of% @st_retN) ∧ (type_of% @st_ife) ∧ (type_of% @kIf_eq) ∧ (type_of% @st_brk) ∧ (type_of% @st_cont) ∧ (type_of% @st_pass) ∧ (type_of% @st_for) ∧ (type_of% @kFor_eq) ∧ (type_of% @kFor2_ok) ∧ (type_of% @kFor2_ls) ∧ (type_of% @st_while) ∧ (type_of% @e_var) ∧ (type_of% @kVar_v) ∧ (type_of% @kVar_o) ∧ (type_of% @e_con) ∧ (type_of% @e_glob) ∧ (type_of% @kDat.eq_1) ∧ (type_of% @rd2_s) ∧ (type_of% @e_bin) ∧ (type_of% @kBin1.eq_1) := ⟨@st_expr, @kExpr.eq_1, @st_ret, @kRet.eq_1, @st_retN, @st_ife, @kIf_eq, @st_brk, @st_cont, @st_pass, @st_for, @kFor_eq, @kFor2_ok, @kFor2_ls, @st_while, @e_var, @kVar_v, @kVar_o, @e_con, @e_glob, @kDat.eq_1, @rd2_s, @e_bin, @kBin1.eq_1⟩
theorem evB2 : (type_of% @kBin2'.eq_1) ∧ (type_of% @kBin2.eq_1) ∧ (type_of% @e_neg) ∧ (type_of% @e_cmp) ∧ (type_of% @kCmp1.eq_1) ∧ (type_of% @kCmp2.eq_1) ∧ (type_of% @e_chain) ∧ (type_of% @kCh1.eq_1) ∧ (type_of% @kCh2.eq_1) ∧ (type_of% @kCh3_eq) ∧ (type_of% @kCh4.eq_1) ∧ (type_of% @e_and) ∧ (type_of% @e_or) ∧ (type_of% @a_1) ∧ (type_of% @a_2) ∧ (type_of% @o_1) ∧ (type_of% @o_2) ∧ (type_of% @kAnd_eq) ∧ (type_of% @kOr_eq) ∧ (type_of% @e_not) ∧ (type_of% @kNot.eq_1) ∧ (type_of% @e_ife) ∧ (type_of% @kIfe_eq) ∧ (type_of% @e_tup) := ⟨@kBin2'.eq_1, @kBin2.eq_1, @e_neg, @e_cmp, @kCmp1.eq_1, @kCmp2.eq_1, @e_chain, @kCh1.eq_1, @kCh2.eq_1, @kCh3_eq, @kCh4.eq_1, @e_and, @e_or, @a_1, @a_2, @o_1, @o_2, @kAnd_eq, @kOr_eq, @e_not, @kNot.eq_1, @e_ife, @kIfe_eq, @e_tup⟩
theorem evB3 : (type_of% @e_lst) ∧ (type_of% @kTup.eq_1) ∧ (type_of% @kLst.eq_1) ∧ (type_of% @es_0) ∧ (type_of% @es_1) ∧ (type_of% @kEs.eq_1) ∧ (type_of% @kCons.eq_1) ∧ (type_of% @os_0) ∧ (type_of% @os_1) ∧ (type_of% @kOs.eq_1) ∧ (type_of% @kOcons.eq_1) ∧ (type_of% @e_idx) ∧ (type_of% @kIdx1.eq_1) ∧ (type_of% @kIdx2.eq_1) ∧ (type_of% @rd1_s) ∧ (type_of% @e_sl) ∧ (type_of% @kSl1.eq_1) ∧ (type_of% @kSl2.eq_1) ∧ (type_of% @kSl3.eq_1) ∧ (type_of% @p_0) ∧ (type_of% @p_1) ∧ (type_of% @e_rev) ∧ (type_of% @kRev.eq_1) ∧ (type_of% @e_call) := ⟨@e_lst, @kTup.eq_1, @kLst.eq_1, @es_0, @es_1, @kEs.eq_1, @kCons.eq_1, @os_0, @os_1, @kOs.eq_1, @kOcons.eq_1, @e_idx, @kIdx1.eq_1, @kIdx2.eq_1, @rd1_s, @e_sl, @kSl1.eq_1, @kSl2.eq_1, @kSl3.eq_1, @p_0, @p_1, @e_rev, @kRev.eq_1, @e_call⟩
theorem evB4 : (type_of% @kCall1.eq_1) ∧ (type_of% @as_0) ∧ (type_of% @as_1) ∧ (type_of% @as_2) ∧ (type_of% @kAs1.eq_1) ∧ (type_of% @kAs2.eq_1) ∧ (type_of% @e_callk) ∧ (type_of% @kKw1.eq_1) ∧ (type_of% @e_callv) ∧ (type_of% @e_calln) ∧ (type_of% @e_join) ∧ (type_of% @kJoin.eq_1) ∧ (type_of% @rdB_s) ∧ (type_of% @e_bi) ∧ (type_of% @kBi.eq_1) ∧ (type_of% @e_isi) ∧ (type_of% @kIsi.eq_1) ∧ (type_of% @e_trange) ∧ (type_of% @kTrg.eq_1) ∧ (type_of% @e_lrange) ∧ (type_of% @kLr1.eq_1) ∧ (type_of% @kLr2.eq_1) ∧ (type_of% @e_mt) ∧ (type_of% @kMt1.eq_1) := ⟨@kCall1.eq_1, @as_0, @as_1, @as_2, @kAs1.eq_1, @kAs2.eq_1, @e_callk, @kKw1.eq_1, @e_callv, @e_calln, @e_join, @kJoin.eq_1, @rdB_s, @e_bi, @kBi.eq_1, @e_isi, @kIsi.eq_1, @e_trange, @kTrg.eq_1, @e_lrange, @kLr1.eq_1, @kLr2.eq_1, @e_mt, @kMt1.eq_1⟩
theorem evB5 : (type_of% @kMt2_L) ∧ (type_of% @kMt2_n) ∧ (type_of% @it_seq) ∧ (type_of% @kItS.eq_1) ∧ (type_of% @kItS2_s) ∧ (type_of% @it_rng) ∧ (type_of% @kItR.eq_1) ∧ (type_of% @kItR2.eq_1) ∧ (type_of% @it_enum) ∧ (type_of% @kItE.eq_1) ∧ (type_of% @it_zip) ∧ (type_of% @kItZ.eq_1) ∧ (type_of% @kItZ2.eq_1) ∧ (type_of% @if_0) ∧ (type_of% @if_1) ∧ (type_of% @kC1.eq_1) ∧ (type_of% @cV1_eq) ∧ (type_of% @cV2_eq) ∧ (type_of% @cV1_ite) ∧ (type_of% @cV2_ite) ∧ (type_of% @tup_map) ∧ (type_of% @bind_ok') ∧ (type_of% @bind_st) ∧ (type_of% @bind_ite) := ⟨@kMt2_L, @kMt2_n, @it_seq, @kItS.eq_1, @kItS2_s, @it_rng, @kItR.eq_1, @kItR2.eq_1, @it_enum, @kItE.eq_1, @it_zip, @kItZ.eq_1, @kItZ2.eq_1, @if_0, @if_1, @kC1.eq_1, @cV1_eq, @cV2_eq, @cV1_ite, @cV2_ite, @tup_map, @bind_ok', @bind_st, @bind_ite⟩
theorem evB6 : (type_of% @isB_ok) ∧ (type_of% @isB_ite) ∧ (type_of% @partD_ok) ∧ (type_of% @partD_ite) ∧ (type_of% @finF_ite) ∧ (type_of% @ok_ite) ∧ (type_of% @cr_ite) ∧ (type_of% @rt_ite) ∧ (type_of% @dint_ite) ∧ (type_of% @dbl_ite) ∧ (type_of% @dtT_ite) ∧ (type_of% @dtL_ite) ∧ (type_of% @some_ite) ∧ (type_of% @and_ite) ∧ (type_of% @or_ite) ∧ (type_of% @nand_ite) ∧ (type_of% @same_ite) ∧ (type_of% @not_ite) ∧ (type_of% @ofO_some) ∧ (type_of% @ofO_none) ∧ (type_of% @rd_d) ∧ (type_of% @rd_s) ∧ (type_of% @arg_d) ∧ (type_of% @arg_s) := ⟨@isB_ok, @isB_ite, @partD_ok, @partD_ite, @finF_ite, @ok_ite, @cr_ite, @rt_ite, @dint_ite, @dbl_ite, @dtT_ite, @dtL_ite, @some_ite, @and_ite, @or_ite, @nand_ite, @same_ite, @not_ite, @ofO_some, @ofO_none, @rd_d, @rd_s, @arg_d, @arg_s⟩
theorem evB7 : (type_of% @getS_z) ∧ (type_of% @getS_s) ∧ (type_of% @see_v) ∧ (type_of% @see_o) ∧ (type_of% @see_r) ∧ (type_of% @see_l) ∧ (type_of% @own_o) ∧ (type_of% @own_r) ∧ (type_of% @free_v) ∧ (type_of% @free_o) ∧ (type_of% @free_n) ∧ (type_of% @with_o) ∧ (type_of% @with_r) ∧ (type_of% @bin_add) ∧ (type_of% @bin_sub) ∧ (type_of% @bin_mul) ∧ (type_of% @bin_div) ∧ (type_of% @bin_mod) ∧ (type_of% @bin_lst) ∧ (type_of% @bin_tup) ∧ (type_of% @mulOk_l) ∧ (type_of% @mulOk_r) ∧ (type_of% @divOk_s) ∧ (type_of% @cmp_eq) := ⟨@getS_z, @getS_s, @see_v, @see_o, @see_r, @see_l, @own_o, @own_r, @free_v, @free_o, @free_n, @with_o, @with_r, @bin_add, @bin_sub, @bin_mul, @bin_div, @bin_mod, @bin_lst, @bin_tup, @mulOk_l, @mulOk_r, @divOk_s, @cmp_eq⟩
theorem evB8 : (type_of% @cmp_ne) ∧ (type_of% @cmp_lt) ∧ (type_of% @cmp_le) ∧ (type_of% @cmp_gt) ∧ (type_of% @cmp_ge) ∧ (type_of% @cmp_in) ∧ (type_of% @cmp_nin) ∧ (type_of% @cmp_is) ∧ (type_of% @cmp_isnot) ∧ (type_of% @eq_pair) ∧ (type_of% @bi_lenl) ∧ (type_of% @bi_lent) ∧ (type_of% @bi_lens) ∧ (type_of% @bi_abs) ∧ (type_of% @bi_int) ∧ (type_of% @bi_intb) ∧ (type_of% @bi_max) ∧ (type_of% @bi_min) ∧ (type_of% @bi_gcd) ∧ (type_of% @len_T) ∧ (type_of% @len_L) ∧ (type_of% @tup_L) ∧ (type_of% @tup_T) ∧ (type_of% @tup_l) := ⟨@cmp_ne, @cmp_lt, @cmp_le, @cmp_gt, @cmp_ge, @cmp_in, @cmp_nin, @cmp_is, @cmp_isnot, @eq_pair, @bi_lenl, @bi_lent, @bi_lens, @bi_abs, @bi_int, @bi_intb, @bi_max, @bi_min, @bi_gcd, @len_T, @len_L, @tup_L, @tup_T, @tup_l⟩
theorem evB9 : (type_of% @tup_t) ∧ (type_of% @lst_T) ∧ (type_of% @lst_L) ∧ (type_of% @sum_L) ∧ (type_of% @sum_Li) ∧ (type_of% @sum_T) ∧ (type_of% @sum_Ti) ∧ (type_of% @all_L) ∧ (type_of% @any_L) ∧ (type_of% @isi_T) ∧ (type_of% @isi_L) ∧ (type_of% @isi_int) ∧ (type_of% @isi_str) ∧ (type_of% @isi_tup) ∧ (type_of% @isi_lst) ∧ (type_of% @isi_bl) ∧ (type_of% @isi_non) ∧ (type_of% @ixT_nat) ∧ (type_of% @ixL_nat) ∧ (type_of% @ixOf_nat) ∧ (type_of% @sl_T) ∧ (type_of% @sl_L) ∧ (type_of% @rev_T) ∧ (type_of% @rev_L) := ⟨@tup_t, @lst_T, @lst_L, @sum_L, @sum_Li, @sum_T, @sum_Ti, @all_L, @any_L, @isi_T, @isi_L, @isi_int, @isi_str, @isi_tup, @isi_lst, @isi_bl, @isi_non, @ixT_nat, @ixL_nat, @ixOf_nat, @sl_T, @sl_L, @rev_T, @rev_L⟩
theorem evB10 : (type_of% @add_L) ∧ (type_of% @add_T) ∧ (type_of% @add_L1) ∧ (type_of% @add_T1) ∧ (type_of% @zipF_TT) ∧ (type_of% @zipF_LL) ∧ (type_of% @itD_T) ∧ (type_of% @itD_L) ∧ (type_of% @itD_t) ∧ (type_of% @itD_l) ∧ (type_of% @put_n) ∧ (type_of% @put_t) ∧ (type_of% @putT_T) ∧ (type_of% @Bool.and_true) ∧ (type_of% @Bool.true_and) ∧ (type_of% @Bool.and_false) ∧ (type_of% @Bool.false_and) ∧ (type_of% @Bool.or_false) ∧ (type_of% @Bool.or_true) ∧ (type_of% @Bool.false_or) ∧ (type_of% @Bool.true_or) ∧ (type_of% @Bool.false_eq_true) ∧ (type_of% @Bool.not_true) ∧ (type_of% @Bool.not_false) := ⟨@add_L, @add_T, @add_L1, @add_T1, @zipF_TT, @zipF_LL, @itD_T, @itD_L, @itD_t, @itD_l, @put_n, @put_t, @putT_T, @Bool.and_true, @Bool.true_and, @Bool.and_false, @Bool.false_and, @Bool.or_false, @Bool.or_true, @Bool.false_or, @Bool.true_or, @Bool.false_eq_true, @Bool.not_true, @Bool.not_false⟩
theorem evB11 : (type_of% @Bool.not_not) ∧ (type_of% @decide_true) ∧ (type_of% @decide_false) ∧ (type_of% @decide_eq_true_eq) ∧ (type_of% @decide_not) ∧ (type_of% @Bool.decide_eq_true) ∧ (type_of% @not_true) ∧ (type_of% @not_false) ∧ (type_of% @Bool.not_eq_true') ∧ (type_of% @Bool.and_eq_true) ∧ (type_of% @Bool.or_eq_true) ∧ (type_of% @fin_rt) ∧ (type_of% @fin_nx) ∧ (type_of% @cls_glob) ∧ (type_of% @cls_wf) ∧ (type_of% @Nat.zero_add) ∧ (type_of% @bigE) ∧ (type_of% @Int.toNat_zero) ∧ (type_of% @Int.mul_one) ∧ (type_of% @Int.one_mul) ∧ (type_of% @itD_Q) ∧ (type_of% @len_Q) ∧ (type_of% @isi_Q) ∧ (type_of% @ixQ_0) := ⟨@Bool.not_not, @decide_true, @decide_false, @decide_eq_true_eq, @decide_not, @Bool.decide_eq_true, @not_true, @not_false, @Bool.not_eq_true', @Bool.and_eq_true, @Bool.or_eq_true, @fin_rt, @fin_nx, @cls_glob, @cls_wf, @Nat.zero_add, @bigE, @Int.toNat_zero, @Int.mul_one, @Int.one_mul, @itD_Q, @len_Q, @isi_Q, @ixQ_0⟩
theorem evB12 : (type_of% @ixQ_1) ∧ (type_of% @putT_Q) ∧ (type_of% @eq_Q) ∧ (type_of% @eQ_ite) ∧ (type_of% @divOk_64) ∧ (type_of% @in_Ti) ∧ (type_of% @in_Li) ∧ (type_of% @in_Tn) ∧ (type_of% @in_Ln) ∧ (type_of% @rgF_finP) ∧ (type_of% @lr_fin) ∧ (type_of% @cut_t) ∧ (type_of% @cut_f) ∧ (type_of% @fmNil) ∧ (type_of% @tL_nil) ∧ (type_of% @tT_nil) ∧ (type_of% @eq_nil_nil) ∧ (type_of% @eq_nil_non) ∧ (type_of% @sl_nil) ∧ (type_of% @kOd_s) ∧ (type_of% @kNeg_i) ∧ (type_of% @kTk_s) ∧ (type_of% @kRes_ok) ∧ (type_of% @kRes_err) := ⟨@ixQ_1, @putT_Q, @eq_Q, @eQ_ite, @divOk_64, @in_Ti, @in_Li, @in_Tn, @in_Ln, @rgF_finP, @lr_fin, @cut_t, @cut_f, @fmNil, @tL_nil, @tT_nil, @eq_nil_nil, @eq_nil_non, @sl_nil, @kOd_s, @kNeg_i, @kTk_s, @kRes_ok, @kRes_err⟩
theorem evB13 : (type_of% @kCall2_s) ∧ (type_of% @kAsR_s) ∧ (type_of% @kKw2_s) ∧ (type_of% @kCv_f) ∧ (type_of% @kN2_ok) ∧ (type_of% @kN1_l) ∧ (type_of% @kN1_L) ∧ (type_of% @kMt3_s) ∧ (type_of% @kMt2_s) ∧ (type_of% @kMt0_s) ∧ (type_of% @kNx_s) ∧ (type_of% @kSet3_s) ∧ (type_of% @kSet0'_s) ∧ (type_of% @kUn_s) ∧ (type_of% @kItL_s) ∧ (type_of% @kItE2_s) ∧ (type_of% @cV0_s) ∧ (type_of% @kC2_s) ∧ (type_of% @kC3_s) ∧ (type_of% @lock_nil) ∧ (type_of% @lock_dat) ∧ (type_of% @lock_slot) ∧ (type_of% @kLk_s) ∧ (type_of% @lockS_v) := ⟨@kCall2_s, @kAsR_s, @kKw2_s, @kCv_f, @kN2_ok, @kN1_l, @kN1_L, @kMt3_s, @kMt2_s, @kMt0_s, @kNx_s, @kSet3_s, @kSet0'_s, @kUn_s, @kItL_s, @kItE2_s, @cV0_s, @kC2_s, @kC3_s, @lock_nil, @lock_dat, @lock_slot, @kLk_s, @lockS_v⟩
theorem evB14 : (type_of% @lockS_o) ∧ (type_of% @lockS_r) ∧ (type_of% @lockS_l) ∧ (type_of% @held_nil) ∧ (type_of% @held_dat) ∧ (type_of% @held_slot) ∧ (type_of% @kHe_v) ∧ (type_of% @kHe_o) ∧ (type_of% @kHe_r) ∧ (type_of% @kHe_l) ∧ (type_of% @un_nil) ∧ (type_of% @un_cons) ∧ (type_of% @kUl_o) ∧ (type_of% @kUl_r) ∧ (type_of% @pl_n) ∧ (type_of% @pl_v) ∧ (type_of% @tk_nil) ∧ (type_of% @tk_dat) ∧ (type_of% @tk_slot) ∧ (type_of% @rk_nil) ∧ (type_of% @rk_val) ∧ (type_of% @rk_own) ∧ (type_of% @rk_ref) ∧ (type_of% @decide_eq_false_iff_not) := ⟨@lockS_o, @lockS_r, @lockS_l, @held_nil, @held_dat, @held_slot, @kHe_v, @kHe_o, @kHe_r, @kHe_l, @un_nil, @un_cons, @kUl_o, @kUl_r, @pl_n, @pl_v, @tk_nil, @tk_dat, @tk_slot, @rk_nil, @rk_val, @rk_own, @rk_ref, @decide_eq_false_iff_not⟩
theorem evB15 : (type_of% @Decidable.not_not) ∧ (type_of% @and_true) ∧ (type_of% @true_and) ∧ (type_of% @and_false) ∧ (type_of% @false_and) ∧ (type_of% @or_true) ∧ (type_of% @true_or) ∧ (type_of% @or_false) ∧ (type_of% @false_or) ∧ (type_of% @kGo_s) ∧ (type_of% @okI_nx) ∧ (type_of% @okI_ct) ∧ (type_of% @okI_ite) ∧ (type_of% @Int.toNat_natCast) ∧ (type_of% @dstr_ite) ∧ (type_of% @eq_str) ∧ (type_of% @ixOf_i) ∧ (type_of% @ixOf_neg) ∧ (type_of% @Int.toNat_one) ∧ (type_of% @toNat_lit) ∧ (type_of% @kW1_eq) ∧ (type_of% @kW3_nx) ∧ (type_of% @kW3_ct) ∧ (type_of% @kW3_bk) := ⟨@Decidable.not_not, @and_true, @true_and, @and_false, @false_and, @or_true, @true_or, @or_false, @false_or, @kGo_s, @okI_nx, @okI_ct, @okI_ite, @Int.toNat_natCast, @dstr_ite, @eq_str, @ixOf_i, @ixOf_neg, @Int.toNat_one, @toNat_lit, @kW1_eq, @kW3_nx, @kW3_ct, @kW3_bk⟩
theorem evB16 : (type_of% @kW3_rt) ∧ (type_of% @pool_fold) ∧ (type_of% @ixP_0) ∧ (type_of% @ixP_1) ∧ (type_of% @setP_0) ∧ (type_of% @setP_1) ∧ (type_of% @kAsgO_P) ∧ (type_of% @ixt_int) ∧ (type_of% @ixl_int) ∧ (type_of% @ixs_int) ∧ (type_of% @cmpL) ∧ (type_of% @ilt_t) ∧ (type_of% @ilt_f) ∧ (type_of% @ile_t) ∧ (type_of% @ile_f) ∧ (type_of% @ieq_t) ∧ (type_of% @ieq_f) ∧ (type_of% @nlt_t) ∧ (type_of% @nlt_f) ∧ (type_of% @nle_t) ∧ (type_of% @nle_f) ∧ (type_of% @neq_t) ∧ (type_of% @neq_f) ∧ (type_of% @eq_intD) := ⟨@kW3_rt, @pool_fold, @ixP_0, @ixP_1, @setP_0, @setP_1, @kAsgO_P, @ixt_int, @ixl_int, @ixs_int, @cmpL, @ilt_t, @ilt_f, @ile_t, @ile_f, @ieq_t, @ieq_f, @nlt_t, @nlt_f, @nle_t, @nle_f, @neq_t, @neq_f, @eq_intD⟩
theorem evB17 : (type_of% @ty_beq) ∧ (type_of% @Int.zero_mul) ∧ (type_of% @Int.zero_add) ∧ (type_of% @ixt0) ∧ (type_of% @ixt1) ∧ (type_of% @ixt2) ∧ (type_of% @ixt3) ∧ (type_of% @ixt4) ∧ (type_of% @ixl0) ∧ (type_of% @ixl1) ∧ (type_of% @ixl2) ∧ (type_of% @ixl3) ∧ (type_of% @kMt2_S) ∧ (type_of% @kMt2_i) ∧ (type_of% @kMt2_N) ∧ (type_of% @eq_nilS) ∧ (type_of% @eq_nili) ∧ (type_of% @rgF_1) ∧ (type_of% @rgF_1n) ∧ (type_of% @ixT_rng) ∧ (type_of% @ixL_rng) ∧ (type_of% @for_nil) ∧ (type_of% @for_cons) ∧ (type_of% @kLo_nx) := ⟨@ty_beq, @Int.zero_mul, @Int.zero_add, @ixt0, @ixt1, @ixt2, @ixt3, @ixt4, @ixl0, @ixl1, @ixl2, @ixl3, @kMt2_S, @kMt2_i, @kMt2_N, @eq_nilS, @eq_nili, @rgF_1, @rgF_1n, @ixT_rng, @ixL_rng, @for_nil, @for_cons, @kLo_nx⟩
theorem evB18 : (type_of% @kLo_ct) ∧ (type_of% @kLo_bk) ∧ (type_of% @kLo_rt) ∧ (type_of% @kLo_ite) ∧ (type_of% @bi_divmod) ∧ (type_of% @okR_rt) ∧ (type_of% @okT_none) ∧ (type_of% @okT_some) ∧ (type_of% @sort_i) ∧ (type_of% @sort_n) ∧ (type_of% @sort_nil) ∧ (type_of% @Int.natCast_inj) ∧ (type_of% @enumD_fin) ∧ (type_of% @cGo_s) ∧ (type_of% @kT_eq) ∧ (type_of% @kT2.eq_1) ∧ (type_of% @okC_ok) ∧ (type_of% @okC_ite) ∧ (type_of% @kMt2_popN) ∧ (type_of% @kSet2_i) ∧ (type_of% @kMt2_O) ∧ (type_of% @kSet2_O) ∧ (type_of% @put_nfQ) ∧ (type_of% @put_ntQ) := ⟨@kLo_ct, @kLo_bk, @kLo_rt, @kLo_ite, @bi_divmod, @okR_rt, @okT_none, @okT_some, @sort_i, @sort_n, @sort_nil, @Int.natCast_inj, @enumD_fin, @cGo_s, @kT_eq, @kT2.eq_1, @okC_ok, @okC_ite, @kMt2_popN, @kSet2_i, @kMt2_O, @kSet2_O, @put_nfQ, @put_ntQ⟩
theorem evB19 : (type_of% @repl0) ∧ (type_of% @isLst_l) ∧ (type_of% @isLst_P) ∧ (type_of% @kMt2_II) ∧ (type_of% @st_setT) ∧ (type_of% @kTa_t) ∧ (type_of% @kTb_s) ∧ (type_of% @kTc.eq_1) ∧ (type_of% @urn_fold) ∧ (type_of% @ixU_0) ∧ (type_of% @ixU_1) ∧ (type_of% @ixU_2) ∧ (type_of% @setU_1) ∧ (type_of% @setU_2) ∧ (type_of% @setU_0T) ∧ (type_of% @kAsgO_U) ∧ (type_of% @kN1_U) ∧ (type_of% @sl_scr) ∧ (type_of% @pow60) ∧ (type_of% @pow18) ∧ (type_of% @max_L) ∧ (type_of% @eq_non) ∧ (type_of% @in_Lbl) ∧ (type_of% @in_Tbl) := ⟨@repl0, @isLst_l, @isLst_P, @kMt2_II, @st_setT, @kTa_t, @kTb_s, @kTc.eq_1, @urn_fold, @ixU_0, @ixU_1, @ixU_2, @setU_1, @setU_2, @setU_0T, @kAsgO_U, @kN1_U, @sl_scr, @pow60, @pow18, @max_L, @eq_non, @in_Lbl, @in_Tbl⟩
theorem evB20 : (type_of% @cmp_isb) ∧ (type_of% @in_TQ) ∧ (type_of% @e_cnt) ∧ (type_of% @kCnt_T) ∧ (type_of% @kCnt_t) ∧ (type_of% @kCnt_L) ∧ (type_of% @kCnt2_n) ∧ (type_of% @e_tupS) ∧ (type_of% @kSta_T) ∧ (type_of% @kSta_t) ∧ (type_of% @kSta2_N) ∧ (type_of% @kSta2_nil) ∧ (type_of% @sum_Tn) ∧ (type_of% @setU_0) ∧ (type_of% @setU_1T) ∧ (type_of% @kMt2_TN) ∧ (type_of% @sum_castN) := ⟨@cmp_isb, @in_TQ, @e_cnt, @kCnt_T, @kCnt_t, @kCnt_L, @kCnt2_n, @e_tupS, @kSta_T, @kSta_t, @kSta2_N, @kSta2_nil, @sum_Tn, @setU_0, @setU_1T, @kMt2_TN, @sum_castN⟩
end Tk

set_option Elab.async false
set_option linter.all false
set_option maxRecDepth 100000
set_option maxHeartbeats 0
namespace TkLaw
open PySem Tk
def b_is_whole : Ss := (.cons (.ret (.and (.cons (.isi (.var 0) [.int]) (.cons (.not (.isi (.var 0) [.bool])) .nil)))) .nil)
def b_is_between : Ss := (.cons (.ret (.and (.cons (.call 0 (.val (.var 0) .nil)) (.cons (.chain .le .le (.var 1) (.var 0) (.var 2)) .nil)))) .nil)
def b_is_tuple_of : Ss := (.cons (.ret (.and (.cons (.isi (.var 0) [.tuple]) (.cons (.cmp .eq (.bi .len (.cons (.var 0) .nil)) (.var 1)) .nil)))) .nil)
def b_first_wrong : Ss := (.cons (.ife (.or (.cons (.not (.isi (.var 0) [.tuple])) (.cons (.not (.chain .le .le (.var 1) (.bi .len (.cons (.var 0) .nil)) (.var 2))) .nil))) (.cons (.ret (.lst (.cons (.con .non) .nil))) .nil) .nil) (.cons (.ret (.sl (.comp (.var 4) (.tup [4, 5]) (.enum (.var 0)) (.some (.not (.callv 3 (.val (.var 5) .nil)))) [4, 5]) .none (.some (.con (.int 1))))) .nil))
def b_fraction : Ss := (.cons (.asg (.name 2) (.bin .mul (.bi .gcd (.cons (.var 0) (.cons (.var 1) .nil))) (.ife (.cmp .gt (.var 1) (.con (.int 0))) (.con (.int 1)) (.neg (.con (.int 1)))))) (.cons (.ret (.tup (.cons (.bin .fdiv (.var 0) (.var 2)) (.cons (.bin .fdiv (.var 1) (.var 2)) .nil)))) .nil))
def b_is_fraction_by : Ss := (.cons (.ife (.or (.cons (.not (.call 2 (.val (.var 0) (.val (.con (.int 2)) .nil)))) (.cons (.not (.call 0 (.val (.idx (.var 0) (.con (.int 0))) .nil))) (.cons (.not (.call 0 (.val (.idx (.var 0) (.con (.int 1))) .nil))) (.cons (.cmp .le (.idx (.var 0) (.con (.int 1))) (.con (.int 0))) .nil))))) (.cons (.ret (.con (.bl false))) .nil) .nil) (.cons (.ret (.cmp .eq (.bi .gcd (.cons (.idx (.var 0) (.con (.int 0))) (.cons (.idx (.var 0) (.con (.int 1))) .nil))) (.con (.int 1)))) .nil))
def b_whole : Ss := (.cons (.ret (.tup (.cons (.var 0) (.cons (.con (.int 1)) .nil)))) .nil)
def b_sum_of : Ss := (.cons (.ret (.call 4 (.val (.bin .add (.bin .mul (.idx (.var 0) (.con (.int 0))) (.idx (.var 1) (.con (.int 1)))) (.bin .mul (.idx (.var 1) (.con (.int 0))) (.idx (.var 0) (.con (.int 1))))) (.val (.bin .mul (.idx (.var 0) (.con (.int 1))) (.idx (.var 1) (.con (.int 1)))) .nil)))) .nil)
def b_times : Ss := (.cons (.ret (.call 4 (.val (.bin .mul (.idx (.var 0) (.con (.int 0))) (.idx (.var 1) (.con (.int 0)))) (.val (.bin .mul (.idx (.var 0) (.con (.int 1))) (.idx (.var 1) (.con (.int 1)))) .nil)))) .nil)
def b_is_less : Ss := (.cons (.ret (.cmp .lt (.bin .mul (.idx (.var 0) (.con (.int 0))) (.idx (.var 1) (.con (.int 1)))) (.bin .mul (.idx (.var 1) (.con (.int 0))) (.idx (.var 0) (.con (.int 1)))))) .nil)
def b_total_1 : Ss := (.cons (.asg (.name 1) (.call 7 (.val (.var 1) (.val (.var 2) .nil)))) .nil)
def b_total : Ss := (.cons (.asg (.name 1) (.glob 0)) (.cons (.for_ (.name 2) (.seq (.var 0)) b_total_1) (.cons (.ret (.var 1)) .nil)))
def b_rounded_down : Ss := (.cons (.ret (.bin .fdiv (.idx (.var 0) (.con (.int 0))) (.idx (.var 0) (.con (.int 1))))) .nil)
def b_rounded_up : Ss := (.cons (.ret (.neg (.bin .fdiv (.neg (.idx (.var 0) (.con (.int 0)))) (.idx (.var 0) (.con (.int 1)))))) .nil)
def b_is_share_by : Ss := (.cons (.ife (.or (.cons (.not (.call 5 (.val (.var 0) .nil))) (.cons (.not (.chain .lt .le (.con (.int 0)) (.idx (.var 0) (.con (.int 0))) (.idx (.var 0) (.con (.int 1))))) .nil))) (.cons (.ret (.con (.bl false))) .nil) .nil) (.cons (.ret (.cmp .le (.idx (.var 0) (.con (.int 1))) (.glob 1))) .nil))
def b_period_by_1 : Ss := (.cons (.asg (.name 1) (.bin .fdiv (.bin .mul (.var 1) (.idx (.var 2) (.con (.int 1)))) (.bi .gcd (.cons (.var 1) (.cons (.idx (.var 2) (.con (.int 1))) .nil))))) .nil)
def b_period_by : Ss := (.cons (.asg (.name 1) (.con (.int 1))) (.cons (.for_ (.name 2) (.seq (.var 0)) b_period_by_1) (.cons (.ret (.var 1)) .nil)))
def b_wrong_in_works : Ss := (.cons (.asg (.name 1) (.call 3 (.val (.var 0) (.val (.con (.int 1)) (.val (.glob 4) (.val (.glob 3) .nil)))))) (.cons (.ife (.cmp .eq (.var 1) (.lst (.cons (.con .non) .nil))) (.cons (.ret (.var 1)) .nil) .nil) (.cons (.asg (.name 2) (.ife (.cmp .eq (.var 1) (.lst .nil)) (.var 0) (.sl (.var 0) .none (.some (.idx (.var 1) (.con (.int 0))))))) (.cons (.asg (.name 3) (.comp (.var 4) (.name 4) (.rng .none (.bi .len (.cons (.var 2) .nil))) (.some (.cmp .gt (.call 14 (.val (.sl (.var 2) .none (.some (.bin .add (.var 4) (.con (.int 1))))) .nil)) (.glob 2))) [4])) (.cons (.ret (.ife (.cmp .ne (.var 3) (.lst .nil)) (.sl (.var 3) .none (.some (.con (.int 1)))) (.var 1))) .nil)))))
def b_check_works_1 : Ss := (.cons .raise_ .nil)
def b_check_works : Ss := (.cons (.for_ (.name 1) (.seq (.call 15 (.val (.var 0) .nil))) b_check_works_1) .nil)
def b_check_number : Ss := (.cons (.ife (.not (.call 1 (.val (.var 0) (.val (.var 1) (.val (.var 2) .nil))))) (.cons .raise_ .nil) .nil) .nil)
def b_check_share : Ss := (.cons (.ife (.not (.call 13 (.val (.var 0) .nil))) (.cons .raise_ .nil) .nil) .nil)
def b_is_one_house : Ss := (.cons (.ret (.cmp .eq (.call 10 (.val (.var 0) .nil)) (.glob 5))) .nil)
def b_rest_of : Ss := (.cons (.ret (.call 4 (.val (.bin .mod (.bi .int (.cons (.bin .mul (.idx (.var 0) (.con (.int 0))) (.var 1)) .nil)) (.idx (.var 0) (.con (.int 1)))) (.val (.idx (.var 0) (.con (.int 1))) .nil)))) .nil)
def b_greatest_rests_1 : Ss := (.cons (.expr (.mt .insert 3 (.cons (.bi .len (.cons (.comp (.var 7) (.name 7) (.seq (.var 3)) (.some (.not (.call 9 (.val (.idx (.var 2) (.var 7)) (.val (.var 5) .nil))))) [7]) .nil)) (.cons (.var 4) .nil)))) .nil)
def b_greatest_rests : Ss := (.cons (.asg (.name 2) (.comp (.call 20 (.val (.var 6) (.val (.var 1) .nil))) (.name 6) (.seq (.var 0)) .none [6])) (.cons (.asgO 3 (.lst .nil)) (.cons (.for_ (.tup [4, 5]) (.enum (.var 2)) b_greatest_rests_1) (.cons (.ret (.var 3)) .nil))))
def b_rest_seats_by_1 : Ss := (.cons (.setI 2 (.var 3) (.bin .add (.idx (.var 2) (.var 3)) (.con (.int 1)))) .nil)
def b_rest_seats_by : Ss := (.cons (.asgO 2 (.comp (.bin .fdiv (.bin .mul (.idx (.var 4) (.con (.int 0))) (.var 1)) (.idx (.var 4) (.con (.int 1)))) (.name 4) (.seq (.var 0)) .none [4])) (.cons (.for_ (.name 3) (.seq (.sl (.call 21 (.val (.var 0) (.val (.var 1) .nil))) .none (.some (.bin .sub (.var 1) (.bi .sum (.cons (.var 2) .nil)))))) b_rest_seats_by_1) (.cons (.ret (.bi .tuple (.cons (.var 2) .nil))) .nil)))
def b_does_some_lose : Ss := (.cons (.ret (.bi .any (.cons (.comp (.cmp .lt (.var 2) (.var 3)) (.tup [2, 3]) (.zip (.call 22 (.val (.var 0) (.val (.var 1) .nil))) (.call 22 (.val (.var 0) (.val (.bin .sub (.var 1) (.con (.int 1))) .nil)))) .none [2, 3]) .nil))) .nil)
def b_losing_houses_by : Ss := (.cons (.ret (.bi .tuple (.cons (.comp (.var 2) (.name 2) (.rng (.some (.con (.int 1))) (.bin .add (.var 1) (.con (.int 1)))) (.some (.call 23 (.val (.var 0) (.val (.var 2) .nil)))) [2]) .nil))) .nil)
def b_check_house : Ss := (.cons (.expr (.call 16 (.val (.var 0) .nil))) (.cons (.expr (.call 17 (.val (.var 1) (.val (.var 2) (.val (.var 3) .nil))))) (.cons (.ife (.not (.call 19 (.val (.var 0) .nil))) (.cons .raise_ .nil) .nil) .nil)))
def b_rest_seats : Ss := (.cons (.expr (.call 25 (.val (.var 0) (.val (.var 1) (.val (.con (.int 0)) (.val (.glob 6) .nil)))))) (.cons (.ret (.call 22 (.val (.var 0) (.val (.var 1) .nil)))) .nil))
def b_losing_houses : Ss := (.cons (.expr (.call 25 (.val (.var 0) (.val (.var 1) (.val (.con (.int 1)) (.val (.glob 7) .nil)))))) (.cons (.ret (.call 24 (.val (.var 0) (.val (.var 1) .nil)))) .nil))
def b_quota_by : Ss := (.cons (.asg (.name 2) (.call 8 (.val (.var 0) (.val (.call 6 (.val (.var 1) .nil)) .nil)))) (.cons (.ret (.tup (.cons (.call 11 (.val (.var 2) .nil)) (.cons (.call 12 (.val (.var 2) .nil)) .nil)))) .nil))
def b_quota : Ss := (.cons (.expr (.call 18 (.val (.var 0) .nil))) (.cons (.expr (.call 17 (.val (.var 1) (.val (.con (.int 0)) (.val (.glob 8) .nil))))) (.cons (.ret (.call 28 (.val (.var 0) (.val (.var 1) .nil)))) .nil)))
def b__law_pool_1 : Ss := (.cons (.asg (.name 4) (.bin .mod (.bi .int (.cons (.bin .add (.bin .add (.bin .mul (.var 4) (.con (.int 48271))) (.bin .mod (.bi .int (.cons (.var 2) .nil)) (.con (.int 2147483563)))) (.con (.int 505))) .nil)) (.con (.int 2147483563)))) .nil)
def b__law_pool : Ss := (.cons (.asg (.tup [3, 4]) (.tup (.cons (.ife (.cmp .lt (.var 1) (.bi .len (.cons (.var 0) .nil))) (.bi .int (.cons (.idx (.var 0) (.var 1)) .nil)) (.bin .add (.bin .mul (.con (.int 70001)) (.var 1)) (.con (.int 3226)))) (.cons (.bin .add (.con (.int 971297)) (.bin .mul (.con (.int 5087)) (.var 1))) .nil)))) (.cons (.for_ (.name 2) (.seq (.sl (.var 0) .none (.some (.con (.int 63))))) b__law_pool_1) (.cons (.ret (.lst (.cons (.bin .mod (.bi .int (.cons (.bin .add (.var 4) (.bin .mul (.var 3) (.con (.int 1013)))) .nil)) (.con (.int 2147483563))) (.cons (.ife (.or (.cons (.cmp .lt (.var 3) (.con (.int 0))) (.cons (.cmp .ge (.var 3) (.bin .pow (.con (.int 10)) (.con (.int 18)))) .nil))) (.bi .abs (.cons (.var 3) .nil)) (.con (.int 0))) (.cons (.con (.int 0)) .nil))))) .nil)))
def b__law_draw : Ss := (.cons (.ife (.cmp .gt (.idx (.var 0) (.con (.int 1))) (.con (.int 0))) (.cons (.setT 0 (.con (.int 1)) 3 (.bi .divmod (.cons (.idx (.var 0) (.con (.int 1))) (.cons (.var 1) .nil)))) (.cons (.ret (.var 3)) .nil)) .nil) (.cons (.setI 0 (.con (.int 2)) (.bin .add (.idx (.var 0) (.con (.int 2))) (.con (.int 1)))) (.cons (.asg (.name 2) (.bi .int (.cons (.idx (.var 0) (.con (.int 0))) .nil))) (.cons (.setI 0 (.con (.int 0)) (.bin .mod (.bi .int (.cons (.bin .add (.bin .add (.bin .mul (.var 2) (.bin .add (.bin .mod (.var 2) (.con (.int 20011))) (.con (.int 30011)))) (.bin .mul (.con (.int 70001)) (.idx (.var 0) (.con (.int 2))))) (.con (.int 9))) .nil)) (.con (.int 2147483563)))) (.cons (.ret (.bin .mod (.bi .int (.cons (.bin .fdiv (.idx (.var 0) (.con (.int 0))) (.con (.int 128))) .nil)) (.var 1))) .nil)))))
def b__law_pick : Ss := (.cons (.ret (.idx (.var 1) (.call 31 (.ref 0 (.val (.bi .len (.cons (.var 1) .nil)) .nil))))) .nil)
def b__law_f_1 : Ss := (.cons (.asg (.tup [2, 3]) (.tup (.cons (.var 3) (.cons (.bin .mod (.bi .int (.cons (.var 2) .nil)) (.var 3)) .nil)))) .nil)
def b__law_f : Ss := (.cons (.asg (.tup [2, 3]) (.tup (.cons (.bi .abs (.cons (.var 0) .nil)) (.cons (.var 1) .nil)))) (.cons (.while_ (.cmp .gt (.var 3) (.con (.int 0))) b__law_f_1) (.cons (.ret (.tup (.cons (.bin .fdiv (.var 0) (.var 2)) (.cons (.bin .fdiv (.var 1) (.var 2)) .nil)))) .nil)))
def b__law_period_1 : Ss := (.cons (.asg (.tup [4, 5]) (.tup (.cons (.var 5) (.cons (.bin .mod (.bi .int (.cons (.var 4) .nil)) (.var 5)) .nil)))) .nil)
def b__law_period_2 : Ss := (.cons (.asg (.tup [4, 5]) (.tup (.cons (.var 1) (.cons (.var 3) .nil)))) (.cons (.while_ (.cmp .gt (.var 5) (.con (.int 0))) b__law_period_1) (.cons (.asg (.name 1) (.bin .fdiv (.bin .mul (.var 1) (.var 3)) (.var 4))) .nil)))
def b__law_period : Ss := (.cons (.asg (.name 1) (.con (.int 1))) (.cons (.for_ (.tup [2, 3]) (.seq (.var 0)) b__law_period_2) (.cons (.ret (.var 1)) .nil)))
def b__law_units : Ss := (.cons (.asg (.name 1) (.call 34 (.val (.var 0) .nil))) (.cons (.ret (.bi .tuple (.cons (.comp (.bin .fdiv (.bin .mul (.var 2) (.var 1)) (.var 3)) (.tup [2, 3]) (.seq (.var 0)) .none [2, 3]) .nil))) .nil))
def b__law_ones_1 : Ss := (.cons (.ife (.cmp .gt (.var 6) (.con (.int 1))) (.cons (.asg (.name 7) (.bin .add (.con (.int 1)) (.call 31 (.ref 0 (.val (.bin .sub (.var 6) (.con (.int 1))) .nil))))) (.cons (.expr (.mt .append 5 (.cons (.var 7) .nil))) (.cons (.asg (.name 6) (.bin .sub (.var 6) (.var 7))) .nil))) .nil) .nil)
def b__law_ones : Ss := (.cons (.asg (.name 3) (.call 32 (.ref 0 (.val (.var 2) .nil)))) (.cons (.par [5, 6] [true, false] (.cons (.lst .nil) (.cons (.var 3) .nil))) (.cons (.for_ (.name 4) (.rng .none (.call 31 (.ref 0 (.val (.var 1) .nil)))) b__law_ones_1) (.cons (.ret (.bi .tuple (.cons (.comp (.call 33 (.val (.var 7) (.val (.var 3) .nil))) (.name 7) (.seq (.bin .add (.var 5) (.lst (.cons (.var 6) .nil)))) .none [7]) .nil))) .nil))))
def b__law_seats_1 : Ss := (.cons (.setI 2 (.var 7) (.bin .add (.idx (.var 2) (.var 7)) (.con (.int 1)))) .nil)
def b__law_seats : Ss := (.cons (.asg (.tup [4, 5]) (.tup (.cons (.call 34 (.val (.var 0) .nil)) (.cons (.call 35 (.val (.var 0) .nil)) .nil)))) (.cons (.asgO 2 (.comp (.bin .fdiv (.bin .mul (.var 8) (.var 1)) (.var 4)) (.name 8) (.seq (.var 5)) .none [8])) (.cons (.asg (.name 3) (.bi .sorted (.cons (.comp (.tup (.cons (.bin .sub (.bin .mul (.idx (.var 2) (.var 7)) (.var 4)) (.bin .mul (.idx (.var 5) (.var 7)) (.var 1))) (.cons (.var 7) .nil))) (.name 7) (.rng .none (.bi .len (.cons (.var 0) .nil))) .none [7]) .nil))) (.cons (.for_ (.tup [6, 7]) (.seq (.sl (.var 3) .none (.some (.bin .sub (.var 1) (.bi .sum (.cons (.var 2) .nil)))))) b__law_seats_1) (.cons (.ret (.bi .tuple (.cons (.var 2) .nil))) .nil)))))
def b__law_losing_1 : Ss := (.cons (.asg (.name 5) (.call 37 (.val (.var 0) (.val (.var 2) .nil)))) (.cons (.ife (.cmp .ne (.comp (.var 6) (.name 6) (.rng .none (.bi .len (.cons (.var 0) .nil))) (.some (.cmp .lt (.idx (.var 5) (.var 6)) (.idx (.var 4) (.var 6)))) [6]) (.lst .nil)) (.cons (.expr (.mt .append 3 (.cons (.var 2) .nil))) .nil) .nil) (.cons (.asg (.name 4) (.var 5)) .nil)))
def b__law_losing : Ss := (.cons (.par [3, 4] [true, false] (.cons (.lst .nil) (.cons (.call 37 (.val (.var 0) (.val (.con (.int 0)) .nil))) .nil))) (.cons (.for_ (.name 2) (.rng (.some (.con (.int 1))) (.bin .add (.var 1) (.con (.int 1)))) b__law_losing_1) (.cons (.ret (.bi .tuple (.cons (.var 3) .nil))) .nil)))
def b__law_works_right_1 : Ss := (.cons (.asg (.tup [6, 7]) (.call 29 (.val (.idx (.var 1) (.var 5)) (.val (.var 2) .nil)))) (.cons (.ife (.not (.chain .le .le (.var 6) (.idx (.var 4) (.var 5)) (.var 7))) (.cons (.ret (.con (.bl false))) .nil) .nil) .nil))
def b__law_works_right_2 : Ss := (.cons (.asg (.name 4) (.call 37 (.val (.var 1) (.val (.var 2) .nil)))) (.cons (.ife (.or (.cons (.cmp .ne (.bi .repr (.cons (.lst (.cons (.call 26 (.val (.var 1) (.val (.var 2) .nil))) (.cons (.callk 26 (.cons (.var 2) (.cons (.var 1) .nil)) [1, 0]) .nil))) .nil)) (.bi .repr (.cons (.lst (.cons (.var 4) (.cons (.var 4) .nil))) .nil))) (.cons (.cmp .ne (.bi .sum (.cons (.var 4) .nil)) (.var 2)) .nil))) (.cons (.ret (.con (.bl false))) .nil) .nil) (.cons (.for_ (.name 5) (.rng .none (.bi .len (.cons (.var 1) .nil))) b__law_works_right_1) .nil)))
def b__law_works_right : Ss := (.cons (.for_ (.name 2) (.seq (.lst (.cons (.call 31 (.ref 0 (.val (.con (.int 20)) .nil))) (.cons (.call 31 (.ref 0 (.val (.con (.int 1000)) .nil))) (.cons (.con (.int 0)) (.cons (.con (.int 999)) .nil)))))) b__law_works_right_2) (.cons (.asg (.name 3) (.bin .add (.con (.int 1)) (.call 31 (.ref 0 (.val (.con (.int 60)) .nil))))) (.cons (.asg (.name 4) (.call 38 (.val (.var 1) (.val (.var 3) .nil)))) (.cons (.ife (.cmp .ne (.bi .repr (.cons (.lst (.cons (.call 27 (.val (.var 1) (.val (.var 3) .nil))) (.cons (.callk 27 (.cons (.var 3) (.cons (.var 1) .nil)) [1, 0]) .nil))) .nil)) (.bi .repr (.cons (.lst (.cons (.var 4) (.cons (.var 4) .nil))) .nil))) (.cons (.ret (.con (.bl false))) .nil) .nil) (.cons (.ret (.cmp .eq (.call 27 (.val (.var 1) (.val (.bin .fdiv (.bin .add (.var 3) (.con (.int 1))) (.con (.int 2))) .nil))) (.bi .tuple (.cons (.comp (.var 8) (.name 8) (.seq (.var 4)) (.some (.cmp .le (.var 8) (.bin .fdiv (.bin .add (.var 3) (.con (.int 1))) (.con (.int 2))))) [8]) .nil)))) .nil)))))
def b__law_right_1 : Ss := (.cons (.ife (.not (.call 39 (.ref 0 (.val (.call 36 (.ref 0 (.val (.con (.int 4)) (.val (.lst (.cons (.con (.int 2)) (.cons (.con (.int 3)) (.cons (.con (.int 5)) (.cons (.con (.int 6)) (.cons (.con (.int 8)) (.cons (.con (.int 10)) (.cons (.con (.int 12)) .nil)))))))) .nil)))) .nil)))) (.cons (.ret (.con (.bl false))) .nil) .nil) .nil)
def b__law_right : Ss := (.cons (.for_ (.name 1) (.rng .none (.con (.int 6))) b__law_right_1) (.cons (.asg (.name 2) (.tup (.cons (.tup (.cons (.con (.int 2)) (.cons (.con (.int 3)) .nil))) (.cons (.tup (.cons (.con (.int 1)) (.cons (.con (.int 3)) .nil))) .nil)))) (.cons (.ret (.and (.cons (.cmp .eq (.call 26 (.val (.var 2) (.val (.con (.int 4)) .nil))) (.tup (.cons (.con (.int 3)) (.cons (.con (.int 1)) .nil)))) (.cons (.cmp .eq (.call 27 (.val (.var 2) (.val (.con (.int 10)) .nil))) (.tup .nil)) (.cons (.call 39 (.ref 0 (.val (.tup (.cons (.tup (.cons (.con (.int 1)) (.cons (.con (.int 2)) .nil))) (.cons (.tup (.cons (.con (.int 5)) (.cons (.con (.int 12)) .nil))) (.cons (.tup (.cons (.con (.int 1)) (.cons (.con (.int 12)) .nil))) .nil)))) .nil))) .nil))))) .nil)))
def b_law_1 : Ss := (.cons (.ife (.not (.calln 40 (.call 30 (.val (.var 0) (.val (.var 1) .nil))))) (.cons (.ret (.con (.bl false))) .nil) .nil) .nil)
def b_law : Ss := (.cons (.for_ (.name 1) (.rng .none (.bi .max2 (.cons (.con (.int 2)) (.cons (.bi .min2 (.cons (.bi .len (.cons (.var 0) .nil)) (.cons (.con (.int 3)) .nil))) .nil)))) b_law_1) (.cons (.ret (.con (.bl true))) .nil))
def tbs : List Tb := ([⟨"is_whole", "is_whole", 1, false, ["value"], b_is_whole⟩, ⟨"is_between", "is_between", 3, false, ["value", "low", "high"], b_is_between⟩, ⟨"is_tuple_of", "is_tuple_of", 2, false, ["value", "many"], b_is_tuple_of⟩, ⟨"first_wrong", "first_wrong", 4, true, ["value", "fewest", "most", "is_right", "index", "each"], b_first_wrong⟩, ⟨"fraction", "fraction", 2, false, ["number", "under", "part"], b_fraction⟩, ⟨"is_fraction_by", "is_fraction_by", 1, false, ["value"], b_is_fraction_by⟩, ⟨"whole", "whole", 1, false, ["number"], b_whole⟩, ⟨"sum_of", "sum_of", 2, false, ["one", "two"], b_sum_of⟩] : List Tb) ++ ([⟨"times", "times", 2, false, ["one", "two"], b_times⟩, ⟨"is_less", "is_less", 2, false, ["one", "two"], b_is_less⟩, ⟨"total", "total", 1, false, ["some", "found", "each"], b_total⟩, ⟨"rounded_down", "rounded_down", 1, true, ["one"], b_rounded_down⟩, ⟨"rounded_up", "rounded_up", 1, false, ["one"], b_rounded_up⟩, ⟨"is_share_by", "is_share_by", 1, false, ["value"], b_is_share_by⟩, ⟨"period_by", "period_by", 1, false, ["works", "found", "share"], b_period_by⟩, ⟨"wrong_in_works", "wrong_in_works", 1, false, ["value", "found", "right", "far", "at"], b_wrong_in_works⟩] : List Tb) ++ ([⟨"check_works", "check_works", 1, false, ["value", "index"], b_check_works⟩, ⟨"check_number", "check_number", 3, false, ["value", "low", "high"], b_check_number⟩, ⟨"check_share", "check_share", 1, false, ["value"], b_check_share⟩, ⟨"is_one_house", "is_one_house", 1, false, ["works"], b_is_one_house⟩, ⟨"rest_of", "rest_of", 2, false, ["share", "seats"], b_rest_of⟩, ⟨"greatest_rests", "greatest_rests", 2, false, ["works", "seats", "rests", "found", "party", "rest", "share", "each"], b_greatest_rests⟩, ⟨"rest_seats_by", "rest_seats_by", 2, true, ["works", "seats", "found", "party", "share"], b_rest_seats_by⟩, ⟨"does_some_lose", "does_some_lose", 2, true, ["works", "seats", "now", "then"], b_does_some_lose⟩] : List Tb) ++ ([⟨"losing_houses_by", "losing_houses_by", 2, true, ["works", "most", "seats"], b_losing_houses_by⟩, ⟨"check_house", "check_house", 4, false, ["works", "number", "low", "high"], b_check_house⟩, ⟨"rest_seats", "rest_seats", 2, true, ["works", "number"], b_rest_seats⟩, ⟨"losing_houses", "losing_houses", 2, true, ["works", "number"], b_losing_houses⟩, ⟨"quota_by", "quota_by", 2, false, ["share", "time", "due"], b_quota_by⟩, ⟨"quota", "quota", 2, false, ["share", "number"], b_quota⟩, ⟨"_law_pool", "_law_pool", 2, true, ["script", "turn", "cell", "own", "stirred"], b__law_pool⟩, ⟨"_law_draw", "_law_draw", 2, false, ["pool", "many", "held", "figure"], b__law_draw⟩] : List Tb) ++ ([⟨"_law_pick", "_law_pick", 2, false, ["pool", "some"], b__law_pick⟩, ⟨"_law_f", "_law_f", 2, false, ["top", "bottom", "a", "b"], b__law_f⟩, ⟨"_law_period", "_law_period", 1, false, ["works", "found", "top", "bottom", "a", "b"], b__law_period⟩, ⟨"_law_units", "_law_units", 1, true, ["works", "whole_v", "top", "bottom"], b__law_units⟩, ⟨"_law_ones", "_law_ones", 3, true, ["pool", "most", "wholes", "whole_v", "work", "parts", "left", "part"], b__law_ones⟩, ⟨"_law_seats", "_law_seats", 2, true, ["works", "number", "found", "line", "whole_v", "units", "rest", "work", "unit"], b__law_seats⟩, ⟨"_law_losing", "_law_losing", 2, true, ["works", "number", "time", "found", "ahead", "here", "work"], b__law_losing⟩, ⟨"_law_works_right", "_law_works_right", 2, false, ["pool", "works", "number", "most", "due", "work", "low", "high", "time"], b__law_works_right⟩] : List Tb) ++ ([⟨"_law_right", "_law_right", 1, false, ["pool", "turn", "uneven"], b__law_right⟩, ⟨"law", "law", 1, false, ["script", "turn"], b_law⟩] : List Tb)
def tx : Tx := ⟨tbs, [("NOUGHT", (.tup [(.int 0), (.int 1)])), ("MOST_UNDER", (.int 12)), ("MOST_PERIOD", (.int 30)), ("is_share_by", (.fn 13)), ("MOST_WORKS", (.int 5)), ("UNIT", (.tup [(.int 1), (.int 1)])), ("MOST_SEATS", (.int 999)), ("MOST_HOUSE", (.int 60)), ("MOST_TIME", (.int 999))], [(27, [1, 0]), (26, [1, 0])], true⟩
end TkLaw
namespace TkLaw
open PySem Tk
abbrev RN (k f : Nat) (sl : List Slot) : CR := run tx.T tx.G 100000 k f sl
abbrev CN (k : Nat) : Cl := cls tx.T tx.G 100000 k
theorem call_eq {k f : Nat} {sl : List Tk.Slot} {r : CR} (h : run tx.T tx.G 100000 k f sl = r) : (CN k).call f sl = r := h
theorem g_0 {k : Nat} : (CN k).glob 0 = some (.tup [(.int 0), (.int 1)]) := rfl
theorem g_1 {k : Nat} : (CN k).glob 1 = some (.int 12) := rfl
theorem g_2 {k : Nat} : (CN k).glob 2 = some (.int 30) := rfl
theorem g_3 {k : Nat} : (CN k).glob 3 = some (.fn 13) := rfl
theorem g_4 {k : Nat} : (CN k).glob 4 = some (.int 5) := rfl
theorem g_5 {k : Nat} : (CN k).glob 5 = some (.tup [(.int 1), (.int 1)]) := rfl
theorem g_6 {k : Nat} : (CN k).glob 6 = some (.int 999) := rfl
theorem g_7 {k : Nat} : (CN k).glob 7 = some (.int 60) := rfl
theorem g_8 {k : Nat} : (CN k).glob 8 = some (.int 999) := rfl
theorem has_0 {k : Nat} : (CN k).has 0 = true := rfl
theorem has_1 {k : Nat} : (CN k).has 1 = true := rfl
theorem has_2 {k : Nat} : (CN k).has 2 = true := rfl
theorem has_3 {k : Nat} : (CN k).has 3 = true := rfl
theorem has_4 {k : Nat} : (CN k).has 4 = true := rfl
theorem has_5 {k : Nat} : (CN k).has 5 = true := rfl
theorem has_6 {k : Nat} : (CN k).has 6 = true := rfl
theorem has_7 {k : Nat} : (CN k).has 7 = true := rfl
theorem has_8 {k : Nat} : (CN k).has 8 = true := rfl
theorem has_9 {k : Nat} : (CN k).has 9 = true := rfl
theorem has_10 {k : Nat} : (CN k).has 10 = true := rfl
theorem has_11 {k : Nat} : (CN k).has 11 = true := rfl
theorem has_12 {k : Nat} : (CN k).has 12 = true := rfl
theorem has_13 {k : Nat} : (CN k).has 13 = true := rfl
theorem has_14 {k : Nat} : (CN k).has 14 = true := rfl
theorem has_15 {k : Nat} : (CN k).has 15 = true := rfl
theorem has_16 {k : Nat} : (CN k).has 16 = true := rfl
theorem has_17 {k : Nat} : (CN k).has 17 = true := rfl
theorem has_18 {k : Nat} : (CN k).has 18 = true := rfl
theorem has_19 {k : Nat} : (CN k).has 19 = true := rfl
theorem has_20 {k : Nat} : (CN k).has 20 = true := rfl
theorem has_21 {k : Nat} : (CN k).has 21 = true := rfl
theorem has_22 {k : Nat} : (CN k).has 22 = true := rfl
theorem has_23 {k : Nat} : (CN k).has 23 = true := rfl
theorem has_24 {k : Nat} : (CN k).has 24 = true := rfl
theorem has_25 {k : Nat} : (CN k).has 25 = true := rfl
theorem has_26 {k : Nat} : (CN k).has 26 = true := rfl
theorem has_27 {k : Nat} : (CN k).has 27 = true := rfl
theorem has_28 {k : Nat} : (CN k).has 28 = true := rfl
theorem has_29 {k : Nat} : (CN k).has 29 = true := rfl
theorem has_30 {k : Nat} : (CN k).has 30 = true := rfl
theorem has_31 {k : Nat} : (CN k).has 31 = true := rfl
theorem has_32 {k : Nat} : (CN k).has 32 = true := rfl
theorem has_33 {k : Nat} : (CN k).has 33 = true := rfl
theorem has_34 {k : Nat} : (CN k).has 34 = true := rfl
theorem has_35 {k : Nat} : (CN k).has 35 = true := rfl
theorem has_36 {k : Nat} : (CN k).has 36 = true := rfl
theorem has_37 {k : Nat} : (CN k).has 37 = true := rfl
theorem has_38 {k : Nat} : (CN k).has 38 = true := rfl
theorem has_39 {k : Nat} : (CN k).has 39 = true := rfl
theorem has_40 {k : Nat} : (CN k).has 40 = true := rfl
theorem has_41 {k : Nat} : (CN k).has 41 = true := rfl
theorem kw_0 {k : Nat} {a0 a1 : D} : reoK ((CN k).np 27) [1, 0] [a0, a1] = some [a1, a0] := rfl
theorem kw_1 {k : Nat} {a0 a1 : D} : reoK ((CN k).np 26) [1, 0] [a0, a1] = some [a1, a0] := rfl
end TkLaw

set_option Elab.async false
set_option linter.all false
set_option maxRecDepth 100000
set_option maxHeartbeats 0
namespace TkLaw
open PySem Tk
theorem s_is_whole {k : Nat} (hk : 1 ≤ k) (i : Int) : (CN k).call 0 [.val (.int i)] = .ok (.bl true) [.val (.int i)] := by
  obtain ⟨k, rfl⟩ : ∃ j, k = j + 1 := ⟨k - 1, by omega⟩
  refine call_eq ?_
  rw [run_at (tx.T.getD 0 default) rfl rfl]
  show finF 1 [.val (.int i)] (denSs (CN k) b_is_whole [.val (.int i)]) = _
  unfold b_is_whole
  simp (implicitDefEqProofs := false) (disch := first | omega | assumption | (simp only [List.length_map, List.length_range, List.length_finRange, List.length_take, List.length_drop, List.length_replicate, List.length_append, List.length_cons, List.length_nil, List.length_reverse, List.length_set]; omega)) only [evB0, evB1, evB2, evB3, evB4, evB5, evB6, evB7, evB8, evB9, evB10, evB11, evB12, evB13, evB14, evB15, evB16, evB17, evB18, evB19, evB20, putMix, odE, e_comp, cV, cat_map, cat_some, fm_some, fm_ite, lst_map, rds, args, noSlot, slotsOf, nodupB, bin_repl, ixT_int, ixL_int, putS, putAll, List.set_cons_zero, List.set_cons_succ, List.length_cons, List.length_nil, List.cons_append, List.nil_append, Option.bind_some, Option.map_some, Option.bind_none, Option.map_none, List.take_succ_cons, List.take_zero, List.take_nil, if_true, if_false, ite_true, ite_false, reduceIte, eq_self, List.any_cons, List.any_nil, List.all_cons, List.all_nil, List.contains_nil, List.contains_cons, List.elem_nil, List.elem_cons, beq_self_eq_true, List.map_cons, List.map_nil, Nat.reduceAdd, Nat.reduceLT, Nat.reduceLeDiff, List.isEmpty_nil, List.isEmpty_cons, wipeS, List.length_map, List.length_range, List.getElem?_cons_zero, List.getElem?_cons_succ, List.length_zipIdx, rgF_fin, List.length_finRange, List.length_take, List.length_drop, List.length_append, reduceCtorEq, List.getElem_cons_zero, List.getElem_cons_succ, List.cons_ne_nil, bin_strC, sort_p, fm_nite, List.length_mergeSort, sort_II] <;> rfl

theorem s_is_between {k : Nat} (hk : 2 ≤ k) (v l h : Int) : (CN k).call 1 [.val (.int v), .val (.int l), .val (.int h)] = .ok (.bl (decide (l ≤ v) && decide (v ≤ h))) [.val (.int v), .val (.int l), .val (.int h)] := by
  obtain ⟨k, rfl⟩ : ∃ j, k = j + 1 := ⟨k - 1, by omega⟩
  refine call_eq ?_
  rw [run_at (tx.T.getD 1 default) rfl rfl]
  show finF 3 [.val (.int v), .val (.int l), .val (.int h)] (denSs (CN k) b_is_between [.val (.int v), .val (.int l), .val (.int h)]) = _
  unfold b_is_between
  simp (implicitDefEqProofs := false) (disch := first | omega | assumption | (simp only [List.length_map, List.length_range, List.length_finRange, List.length_take, List.length_drop, List.length_replicate, List.length_append, List.length_cons, List.length_nil, List.length_reverse, List.length_set]; omega)) only [evB0, evB1, evB2, evB3, evB4, evB5, evB6, evB7, evB8, evB9, evB10, evB11, evB12, evB13, evB14, evB15, evB16, evB17, evB18, evB19, evB20, putMix, odE, e_comp, cV, cat_map, cat_some, fm_some, fm_ite, lst_map, rds, args, noSlot, slotsOf, nodupB, bin_repl, ixT_int, ixL_int, putS, putAll, List.set_cons_zero, List.set_cons_succ, List.length_cons, List.length_nil, List.cons_append, List.nil_append, Option.bind_some, Option.map_some, Option.bind_none, Option.map_none, List.take_succ_cons, List.take_zero, List.take_nil, if_true, if_false, ite_true, ite_false, reduceIte, eq_self, List.any_cons, List.any_nil, List.all_cons, List.all_nil, List.contains_nil, List.contains_cons, List.elem_nil, List.elem_cons, beq_self_eq_true, List.map_cons, List.map_nil, Nat.reduceAdd, Nat.reduceLT, Nat.reduceLeDiff, List.isEmpty_nil, List.isEmpty_cons, wipeS, List.length_map, List.length_range, List.getElem?_cons_zero, List.getElem?_cons_succ, List.length_zipIdx, rgF_fin, List.length_finRange, List.length_take, List.length_drop, List.length_append, reduceCtorEq, List.getElem_cons_zero, List.getElem_cons_succ, List.cons_ne_nil, bin_strC, sort_p, fm_nite, List.length_mergeSort, sort_II, s_is_whole]

theorem s_is_tuple_of {k : Nat} (hk : 1 ≤ k) (ds : List D) (n : Int) : (CN k).call 2 [.val (.tup ds), .val (.int n)] = .ok (.bl (decide ((ds.length : Int) = n))) [.val (.tup ds), .val (.int n)] := by
  obtain ⟨k, rfl⟩ : ∃ j, k = j + 1 := ⟨k - 1, by omega⟩
  refine call_eq ?_
  rw [run_at (tx.T.getD 2 default) rfl rfl]
  show finF 2 [.val (.tup ds), .val (.int n)] (denSs (CN k) b_is_tuple_of [.val (.tup ds), .val (.int n)]) = _
  unfold b_is_tuple_of
  simp (implicitDefEqProofs := false) (disch := first | omega | assumption | (simp only [List.length_map, List.length_range, List.length_finRange, List.length_take, List.length_drop, List.length_replicate, List.length_append, List.length_cons, List.length_nil, List.length_reverse, List.length_set]; omega)) only [evB0, evB1, evB2, evB3, evB4, evB5, evB6, evB7, evB8, evB9, evB10, evB11, evB12, evB13, evB14, evB15, evB16, evB17, evB18, evB19, evB20, putMix, odE, e_comp, cV, cat_map, cat_some, fm_some, fm_ite, lst_map, rds, args, noSlot, slotsOf, nodupB, bin_repl, ixT_int, ixL_int, putS, putAll, List.set_cons_zero, List.set_cons_succ, List.length_cons, List.length_nil, List.cons_append, List.nil_append, Option.bind_some, Option.map_some, Option.bind_none, Option.map_none, List.take_succ_cons, List.take_zero, List.take_nil, if_true, if_false, ite_true, ite_false, reduceIte, eq_self, List.any_cons, List.any_nil, List.all_cons, List.all_nil, List.contains_nil, List.contains_cons, List.elem_nil, List.elem_cons, beq_self_eq_true, List.map_cons, List.map_nil, Nat.reduceAdd, Nat.reduceLT, Nat.reduceLeDiff, List.isEmpty_nil, List.isEmpty_cons, wipeS, List.length_map, List.length_range, List.getElem?_cons_zero, List.getElem?_cons_succ, List.length_zipIdx, rgF_fin, List.length_finRange, List.length_take, List.length_drop, List.length_append, reduceCtorEq, List.getElem_cons_zero, List.getElem_cons_succ, List.cons_ne_nil, bin_strC, sort_p, fm_nite, List.length_mergeSort, sort_II] <;> rfl
theorem s_is_tuple_ofQ {k : Nat} (hk : 1 ≤ k) (q : Rat) : (CN k).call 2 [.val (eQ q), .val (.int 2)] = .ok (.bl true) [.val (eQ q), .val (.int 2)] := by
  obtain ⟨k, rfl⟩ : ∃ j, k = j + 1 := ⟨k - 1, by omega⟩
  refine call_eq ?_
  rw [run_at (tx.T.getD 2 default) rfl rfl]
  show finF 2 [.val (eQ q), .val (.int 2)] (denSs (CN k) b_is_tuple_of [.val (eQ q), .val (.int 2)]) = _
  unfold b_is_tuple_of
  simp (implicitDefEqProofs := false) (disch := first | omega | assumption | (simp only [List.length_map, List.length_range, List.length_finRange, List.length_take, List.length_drop, List.length_replicate, List.length_append, List.length_cons, List.length_nil, List.length_reverse, List.length_set]; omega)) only [evB0, evB1, evB2, evB3, evB4, evB5, evB6, evB7, evB8, evB9, evB10, evB11, evB12, evB13, evB14, evB15, evB16, evB17, evB18, evB19, evB20, putMix, odE, e_comp, cV, cat_map, cat_some, fm_some, fm_ite, lst_map, rds, args, noSlot, slotsOf, nodupB, bin_repl, ixT_int, ixL_int, putS, putAll, List.set_cons_zero, List.set_cons_succ, List.length_cons, List.length_nil, List.cons_append, List.nil_append, Option.bind_some, Option.map_some, Option.bind_none, Option.map_none, List.take_succ_cons, List.take_zero, List.take_nil, if_true, if_false, ite_true, ite_false, reduceIte, eq_self, List.any_cons, List.any_nil, List.all_cons, List.all_nil, List.contains_nil, List.contains_cons, List.elem_nil, List.elem_cons, beq_self_eq_true, List.map_cons, List.map_nil, Nat.reduceAdd, Nat.reduceLT, Nat.reduceLeDiff, List.isEmpty_nil, List.isEmpty_cons, wipeS, List.length_map, List.length_range, List.getElem?_cons_zero, List.getElem?_cons_succ, List.length_zipIdx, rgF_fin, List.length_finRange, List.length_take, List.length_drop, List.length_append, reduceCtorEq, List.getElem_cons_zero, List.getElem_cons_succ, List.cons_ne_nil, bin_strC, sort_p, fm_nite, List.length_mergeSort, sort_II]

theorem s_first_wrong_ok {k : Nat} (hk : 1 ≤ k) {α : Type} {f : α → D} {xs : List α} {F : Nat} {a b : Int} (c : Nat) (hc : c < k) (hF : ∀ j, (CN j).has F = true) (h : ∀ j x, c ≤ j → (CN j).call F [.val (f x)] = .ok (.bl true) [.val (f x)]) (h1 : a ≤ xs.length) (h2 : xs.length ≤ b) (h3 : b < 1000000) : (CN k).call 3 [.val (tT f xs), .val (.int a), .val (.int b), .val (.fn F)] = .ok (.lst []) [.val (tT f xs), .val (.int a), .val (.int b), .val (.fn F)] := by
  obtain ⟨k, rfl⟩ : ∃ j, k = j + 1 := ⟨k - 1, by omega⟩
  refine call_eq ?_
  rw [run_at (tx.T.getD 3 default) rfl rfl]
  show finF 4 [.val (tT f xs), .val (.int a), .val (.int b), .val (.fn F)] (denSs (CN k) b_first_wrong [.val (tT f xs), .val (.int a), .val (.int b), .val (.fn F), .none, .none]) = _
  unfold b_first_wrong
  have e : ∀ x, (CN k).call F [.val (f x)] = .ok (.bl true) [.val (f x)] := fun x => h k x (by omega)
  have hk' := hF k
  simp (implicitDefEqProofs := false) (disch := first | omega | assumption | (simp only [List.length_map, List.length_range, List.length_finRange, List.length_take, List.length_drop, List.length_replicate, List.length_append, List.length_cons, List.length_nil, List.length_reverse, List.length_set]; omega)) only [evB0, evB1, evB2, evB3, evB4, evB5, evB6, evB7, evB8, evB9, evB10, evB11, evB12, evB13, evB14, evB15, evB16, evB17, evB18, evB19, evB20, putMix, odE, e_comp, cV, cat_map, cat_some, fm_some, fm_ite, lst_map, rds, args, noSlot, slotsOf, nodupB, bin_repl, ixT_int, ixL_int, putS, putAll, List.set_cons_zero, List.set_cons_succ, List.length_cons, List.length_nil, List.cons_append, List.nil_append, Option.bind_some, Option.map_some, Option.bind_none, Option.map_none, List.take_succ_cons, List.take_zero, List.take_nil, if_true, if_false, ite_true, ite_false, reduceIte, eq_self, List.any_cons, List.any_nil, List.all_cons, List.all_nil, List.contains_nil, List.contains_cons, List.elem_nil, List.elem_cons, beq_self_eq_true, List.map_cons, List.map_nil, Nat.reduceAdd, Nat.reduceLT, Nat.reduceLeDiff, List.isEmpty_nil, List.isEmpty_cons, wipeS, List.length_map, List.length_range, List.getElem?_cons_zero, List.getElem?_cons_succ, List.length_zipIdx, rgF_fin, List.length_finRange, List.length_take, List.length_drop, List.length_append, reduceCtorEq, List.getElem_cons_zero, List.getElem_cons_succ, List.cons_ne_nil, bin_strC, sort_p, fm_nite, List.length_mergeSort, sort_II, has_0, has_1, has_2, has_3, has_4, has_5, has_6, has_7, has_8, has_9, has_10, has_11, has_12, has_13, has_14, has_15, has_16, has_17, has_18, has_19, has_20, has_21, has_22, has_23, has_24, has_25, has_26, has_27, has_28, has_29, has_30, has_31, has_32, has_33, has_34, has_35, has_36, has_37, has_38, has_39, has_40, has_41, e, hk', fmNil, tL_nil, sl_nil]

theorem s_fraction {k : Nat} (hk : 1 ≤ k) (n u : Int) (h : 0 < u) (h2 : u < 18446744073709551616) : (CN k).call 4 [.val (.int n), .val (.int u)] = .ok (eQ (mkRat n u.toNat)) [.val (.int n), .val (.int u)] := by
  obtain ⟨k, rfl⟩ : ∃ j, k = j + 1 := ⟨k - 1, by omega⟩
  refine call_eq ?_
  rw [run_at (tx.T.getD 4 default) rfl rfl]
  show finF 2 [.val (.int n), .val (.int u)] (denSs (CN k) b_fraction [.val (.int n), .val (.int u), .none]) = _
  unfold b_fraction
  have g1 : (0 : Int) < ((Nat.gcd n.natAbs u.natAbs : Nat) : Int) := gcdPos h
  have g2 : ((Nat.gcd n.natAbs u.natAbs : Nat) : Int) ≤ u := gcdLe h
  have e := fr_eq n u h
  simp (implicitDefEqProofs := false) (disch := first | omega | assumption | (simp only [List.length_map, List.length_range, List.length_finRange, List.length_take, List.length_drop, List.length_replicate, List.length_append, List.length_cons, List.length_nil, List.length_reverse, List.length_set]; omega)) only [evB0, evB1, evB2, evB3, evB4, evB5, evB6, evB7, evB8, evB9, evB10, evB11, evB12, evB13, evB14, evB15, evB16, evB17, evB18, evB19, evB20, putMix, odE, e_comp, cV, cat_map, cat_some, fm_some, fm_ite, lst_map, rds, args, noSlot, slotsOf, nodupB, bin_repl, ixT_int, ixL_int, putS, putAll, List.set_cons_zero, List.set_cons_succ, List.length_cons, List.length_nil, List.cons_append, List.nil_append, Option.bind_some, Option.map_some, Option.bind_none, Option.map_none, List.take_succ_cons, List.take_zero, List.take_nil, if_true, if_false, ite_true, ite_false, reduceIte, eq_self, List.any_cons, List.any_nil, List.all_cons, List.all_nil, List.contains_nil, List.contains_cons, List.elem_nil, List.elem_cons, beq_self_eq_true, List.map_cons, List.map_nil, Nat.reduceAdd, Nat.reduceLT, Nat.reduceLeDiff, List.isEmpty_nil, List.isEmpty_cons, wipeS, List.length_map, List.length_range, List.getElem?_cons_zero, List.getElem?_cons_succ, List.length_zipIdx, rgF_fin, List.length_finRange, List.length_take, List.length_drop, List.length_append, reduceCtorEq, List.getElem_cons_zero, List.getElem_cons_succ, List.cons_ne_nil, bin_strC, sort_p, fm_nite, List.length_mergeSort, sort_II]
  rw [← e]

theorem s_is_fraction_byQ {k : Nat} (hk : 2 ≤ k) (q : Rat) : (CN k).call 5 [.val (eQ q)] = .ok (.bl true) [.val (eQ q)] := by
  obtain ⟨k, rfl⟩ : ∃ j, k = j + 1 := ⟨k - 1, by omega⟩
  refine call_eq ?_
  rw [run_at (tx.T.getD 5 default) rfl rfl]
  show finF 1 [.val (eQ q)] (denSs (CN k) b_is_fraction_by [.val (eQ q)]) = _
  unfold b_is_fraction_by
  have h := den_pos' q
  have e : Nat.gcd q.num.natAbs (q.den : Int).natAbs = 1 := by rw [Int.natAbs_natCast]; exact q.reduced
  simp (implicitDefEqProofs := false) (disch := first | omega | assumption | (simp only [List.length_map, List.length_range, List.length_finRange, List.length_take, List.length_drop, List.length_replicate, List.length_append, List.length_cons, List.length_nil, List.length_reverse, List.length_set]; omega)) only [evB0, evB1, evB2, evB3, evB4, evB5, evB6, evB7, evB8, evB9, evB10, evB11, evB12, evB13, evB14, evB15, evB16, evB17, evB18, evB19, evB20, putMix, odE, e_comp, cV, cat_map, cat_some, fm_some, fm_ite, lst_map, rds, args, noSlot, slotsOf, nodupB, bin_repl, ixT_int, ixL_int, putS, putAll, List.set_cons_zero, List.set_cons_succ, List.length_cons, List.length_nil, List.cons_append, List.nil_append, Option.bind_some, Option.map_some, Option.bind_none, Option.map_none, List.take_succ_cons, List.take_zero, List.take_nil, if_true, if_false, ite_true, ite_false, reduceIte, eq_self, List.any_cons, List.any_nil, List.all_cons, List.all_nil, List.contains_nil, List.contains_cons, List.elem_nil, List.elem_cons, beq_self_eq_true, List.map_cons, List.map_nil, Nat.reduceAdd, Nat.reduceLT, Nat.reduceLeDiff, List.isEmpty_nil, List.isEmpty_cons, wipeS, List.length_map, List.length_range, List.getElem?_cons_zero, List.getElem?_cons_succ, List.length_zipIdx, rgF_fin, List.length_finRange, List.length_take, List.length_drop, List.length_append, reduceCtorEq, List.getElem_cons_zero, List.getElem_cons_succ, List.cons_ne_nil, bin_strC, sort_p, fm_nite, List.length_mergeSort, sort_II, s_is_tuple_of, s_is_tuple_ofQ, s_is_whole, e] <;> rfl

theorem s_whole {k : Nat} (hk : 1 ≤ k) (n : Int) : (CN k).call 6 [.val (.int n)] = .ok (eQ (n : Rat)) [.val (.int n)] := by
  obtain ⟨k, rfl⟩ : ∃ j, k = j + 1 := ⟨k - 1, by omega⟩
  refine call_eq ?_
  rw [run_at (tx.T.getD 6 default) rfl rfl]
  show finF 1 [.val (.int n)] (denSs (CN k) b_whole [.val (.int n)]) = _
  unfold b_whole
  simp (implicitDefEqProofs := false) (disch := first | omega | assumption | (simp only [List.length_map, List.length_range, List.length_finRange, List.length_take, List.length_drop, List.length_replicate, List.length_append, List.length_cons, List.length_nil, List.length_reverse, List.length_set]; omega)) only [evB0, evB1, evB2, evB3, evB4, evB5, evB6, evB7, evB8, evB9, evB10, evB11, evB12, evB13, evB14, evB15, evB16, evB17, evB18, evB19, evB20, putMix, odE, e_comp, cV, cat_map, cat_some, fm_some, fm_ite, lst_map, rds, args, noSlot, slotsOf, nodupB, bin_repl, ixT_int, ixL_int, putS, putAll, List.set_cons_zero, List.set_cons_succ, List.length_cons, List.length_nil, List.cons_append, List.nil_append, Option.bind_some, Option.map_some, Option.bind_none, Option.map_none, List.take_succ_cons, List.take_zero, List.take_nil, if_true, if_false, ite_true, ite_false, reduceIte, eq_self, List.any_cons, List.any_nil, List.all_cons, List.all_nil, List.contains_nil, List.contains_cons, List.elem_nil, List.elem_cons, beq_self_eq_true, List.map_cons, List.map_nil, Nat.reduceAdd, Nat.reduceLT, Nat.reduceLeDiff, List.isEmpty_nil, List.isEmpty_cons, wipeS, List.length_map, List.length_range, List.getElem?_cons_zero, List.getElem?_cons_succ, List.length_zipIdx, rgF_fin, List.length_finRange, List.length_take, List.length_drop, List.length_append, reduceCtorEq, List.getElem_cons_zero, List.getElem_cons_succ, List.cons_ne_nil, bin_strC, sort_p, fm_nite, List.length_mergeSort, sort_II, ← eQ_int]

theorem s_sum_of {k : Nat} (hk : 2 ≤ k) (a b : Rat) (ha : a.den < 1000000000) (hb : b.den < 1000000000) : (CN k).call 7 [.val (eQ a), .val (eQ b)] = .ok (eQ (a + b)) [.val (eQ a), .val (eQ b)] := by
  obtain ⟨k, rfl⟩ : ∃ j, k = j + 1 := ⟨k - 1, by omega⟩
  refine call_eq ?_
  rw [run_at (tx.T.getD 7 default) rfl rfl]
  show finF 2 [.val (eQ a), .val (eQ b)] (denSs (CN k) b_sum_of [.val (eQ a), .val (eQ b)]) = _
  unfold b_sum_of
  have h1 := a.den_pos
  have h2 := b.den_pos
  have h3 : (0 : Int) < (a.den : Int) * (b.den : Int) := Int.mul_pos (by omega) (by omega)
  have h4 : (a.den : Int) * (b.den : Int) ≤ 1000000000 * 1000000000 := Int.mul_le_mul (by omega) (by omega) (by omega) (by omega)
  simp (implicitDefEqProofs := false) (disch := first | omega | assumption | (simp only [List.length_map, List.length_range, List.length_finRange, List.length_take, List.length_drop, List.length_replicate, List.length_append, List.length_cons, List.length_nil, List.length_reverse, List.length_set]; omega)) only [evB0, evB1, evB2, evB3, evB4, evB5, evB6, evB7, evB8, evB9, evB10, evB11, evB12, evB13, evB14, evB15, evB16, evB17, evB18, evB19, evB20, putMix, odE, e_comp, cV, cat_map, cat_some, fm_some, fm_ite, lst_map, rds, args, noSlot, slotsOf, nodupB, bin_repl, ixT_int, ixL_int, putS, putAll, List.set_cons_zero, List.set_cons_succ, List.length_cons, List.length_nil, List.cons_append, List.nil_append, Option.bind_some, Option.map_some, Option.bind_none, Option.map_none, List.take_succ_cons, List.take_zero, List.take_nil, if_true, if_false, ite_true, ite_false, reduceIte, eq_self, List.any_cons, List.any_nil, List.all_cons, List.all_nil, List.contains_nil, List.contains_cons, List.elem_nil, List.elem_cons, beq_self_eq_true, List.map_cons, List.map_nil, Nat.reduceAdd, Nat.reduceLT, Nat.reduceLeDiff, List.isEmpty_nil, List.isEmpty_cons, wipeS, List.length_map, List.length_range, List.getElem?_cons_zero, List.getElem?_cons_succ, List.length_zipIdx, rgF_fin, List.length_finRange, List.length_take, List.length_drop, List.length_append, reduceCtorEq, List.getElem_cons_zero, List.getElem_cons_succ, List.cons_ne_nil, bin_strC, sort_p, fm_nite, List.length_mergeSort, sort_II, s_fraction, mk_sum]

end TkLaw

set_option Elab.async false
set_option linter.all false
set_option maxRecDepth 100000
set_option maxHeartbeats 0
namespace TkLaw
open PySem Tk
theorem s_times {k : Nat} (hk : 2 ≤ k) (a b : Rat) (ha : a.den < 1000000000) (hb : b.den < 1000000000) (hc : mulOk a.num b.num = true) : (CN k).call 8 [.val (eQ a), .val (eQ b)] = .ok (eQ (a * b)) [.val (eQ a), .val (eQ b)] := by
  obtain ⟨k, rfl⟩ : ∃ j, k = j + 1 := ⟨k - 1, by omega⟩
  refine call_eq ?_
  rw [run_at (tx.T.getD 8 default) rfl rfl]
  show finF 2 [.val (eQ a), .val (eQ b)] (denSs (CN k) b_times [.val (eQ a), .val (eQ b)]) = _
  unfold b_times
  have h1 := a.den_pos
  have h2 := b.den_pos
  have h3 : (0 : Int) < (a.den : Int) * (b.den : Int) := Int.mul_pos (by omega) (by omega)
  have h4 : (a.den : Int) * (b.den : Int) ≤ 1000000000 * 1000000000 := Int.mul_le_mul (by omega) (by omega) (by omega) (by omega)
  simp (implicitDefEqProofs := false) (disch := first | omega | assumption | (simp only [List.length_map, List.length_range, List.length_finRange, List.length_take, List.length_drop, List.length_replicate, List.length_append, List.length_cons, List.length_nil, List.length_reverse, List.length_set]; omega)) only [evB0, evB1, evB2, evB3, evB4, evB5, evB6, evB7, evB8, evB9, evB10, evB11, evB12, evB13, evB14, evB15, evB16, evB17, evB18, evB19, evB20, putMix, odE, e_comp, cV, cat_map, cat_some, fm_some, fm_ite, lst_map, rds, args, noSlot, slotsOf, nodupB, bin_repl, ixT_int, ixL_int, putS, putAll, List.set_cons_zero, List.set_cons_succ, List.length_cons, List.length_nil, List.cons_append, List.nil_append, Option.bind_some, Option.map_some, Option.bind_none, Option.map_none, List.take_succ_cons, List.take_zero, List.take_nil, if_true, if_false, ite_true, ite_false, reduceIte, eq_self, List.any_cons, List.any_nil, List.all_cons, List.all_nil, List.contains_nil, List.contains_cons, List.elem_nil, List.elem_cons, beq_self_eq_true, List.map_cons, List.map_nil, Nat.reduceAdd, Nat.reduceLT, Nat.reduceLeDiff, List.isEmpty_nil, List.isEmpty_cons, wipeS, List.length_map, List.length_range, List.getElem?_cons_zero, List.getElem?_cons_succ, List.length_zipIdx, rgF_fin, List.length_finRange, List.length_take, List.length_drop, List.length_append, reduceCtorEq, List.getElem_cons_zero, List.getElem_cons_succ, List.cons_ne_nil, bin_strC, sort_p, fm_nite, List.length_mergeSort, sort_II, s_fraction, mk_mul, hc]

theorem s_is_less {k : Nat} (hk : 1 ≤ k) (a b : Rat) (ha : a.den < 1000000000) (hb : b.den < 1000000000) : (CN k).call 9 [.val (eQ a), .val (eQ b)] = .ok (.bl (decide (a < b))) [.val (eQ a), .val (eQ b)] := by
  obtain ⟨k, rfl⟩ : ∃ j, k = j + 1 := ⟨k - 1, by omega⟩
  refine call_eq ?_
  rw [run_at (tx.T.getD 9 default) rfl rfl]
  show finF 2 [.val (eQ a), .val (eQ b)] (denSs (CN k) b_is_less [.val (eQ a), .val (eQ b)]) = _
  unfold b_is_less
  simp (implicitDefEqProofs := false) (disch := first | omega | assumption | (simp only [List.length_map, List.length_range, List.length_finRange, List.length_take, List.length_drop, List.length_replicate, List.length_append, List.length_cons, List.length_nil, List.length_reverse, List.length_set]; omega)) only [evB0, evB1, evB2, evB3, evB4, evB5, evB6, evB7, evB8, evB9, evB10, evB11, evB12, evB13, evB14, evB15, evB16, evB17, evB18, evB19, evB20, putMix, odE, e_comp, cV, cat_map, cat_some, fm_some, fm_ite, lst_map, rds, args, noSlot, slotsOf, nodupB, bin_repl, ixT_int, ixL_int, putS, putAll, List.set_cons_zero, List.set_cons_succ, List.length_cons, List.length_nil, List.cons_append, List.nil_append, Option.bind_some, Option.map_some, Option.bind_none, Option.map_none, List.take_succ_cons, List.take_zero, List.take_nil, if_true, if_false, ite_true, ite_false, reduceIte, eq_self, List.any_cons, List.any_nil, List.all_cons, List.all_nil, List.contains_nil, List.contains_cons, List.elem_nil, List.elem_cons, beq_self_eq_true, List.map_cons, List.map_nil, Nat.reduceAdd, Nat.reduceLT, Nat.reduceLeDiff, List.isEmpty_nil, List.isEmpty_cons, wipeS, List.length_map, List.length_range, List.getElem?_cons_zero, List.getElem?_cons_succ, List.length_zipIdx, rgF_fin, List.length_finRange, List.length_take, List.length_drop, List.length_append, reduceCtorEq, List.getElem_cons_zero, List.getElem_cons_succ, List.cons_ne_nil, bin_strC, sort_p, fm_nite, List.length_mergeSort, sort_II, lt_eq]

theorem s_total {k : Nat} (hk : 3 ≤ k) {P : Nat} (hP : 0 < P) (hP2 : P < 1000000000) {α : Type} (f : α → Rat) (xs : List α) (h : ∀ x ∈ xs, DN P (f x)) : (CN k).call 10 [.val (tT (fun x => eQ (f x)) xs)] = .ok (eQ ((xs.map f).foldl (· + ·) 0)) [.val (tT (fun x => eQ (f x)) xs)] := by
  obtain ⟨k, rfl⟩ : ∃ j, k = j + 1 := ⟨k - 1, by omega⟩
  refine call_eq ?_
  rw [run_at (tx.T.getD 10 default) rfl rfl]
  show finF 1 [.val (tT (fun x => eQ (f x)) xs)] (denSs (CN k) b_total [.val (tT (fun x => eQ (f x)) xs), .none, .none]) = _
  unfold b_total
  have l : ∃ s, forD (CN k) (.name 2) b_total_1 (xs.map fun x => eQ (f x)) [.val (tT (fun x => eQ (f x)) xs), .val (eQ 0), .none] = .ok .nx [.val (tT (fun x => eQ (f x)) xs), .val (eQ ((xs.map f).foldl (· + ·) 0)), s] := by
    obtain ⟨ρ', e, ⟨s, hs, rfl⟩, _⟩ := for_inv (C := CN k) (tg := .name 2) (body := b_total_1) (f := fun x => eQ (f x)) (xs := xs) (σ := Rat)
      (fun a ρ => (∃ s : Slot, s.free = true ∧ ρ = [.val (tT (fun x => eQ (f x)) xs), .val (eQ a), s]) ∧ DN P a) (fun a x => a + f x) (s := 0) (ρ := [.val (tT (fun x => eQ (f x)) xs), .val (eQ 0), .none]) ⟨⟨_, rfl, rfl⟩, DN.int (i := 0)⟩ (by
        rintro x hx a _ ⟨⟨s, hs, rfl⟩, hd⟩
        have d1 := hd.le (by omega)
        have d2 := (h x hx).le (by omega)
        simp (implicitDefEqProofs := false) (disch := first | omega | assumption | (simp only [List.length_map, List.length_range, List.length_finRange, List.length_take, List.length_drop, List.length_replicate, List.length_append, List.length_cons, List.length_nil, List.length_reverse, List.length_set]; omega)) only [evB0, evB1, evB2, evB3, evB4, evB5, evB6, evB7, evB8, evB9, evB10, evB11, evB12, evB13, evB14, evB15, evB16, evB17, evB18, evB19, evB20, putMix, odE, e_comp, cV, cat_map, cat_some, fm_some, fm_ite, lst_map, rds, args, noSlot, slotsOf, nodupB, bin_repl, ixT_int, ixL_int, putS, putAll, List.set_cons_zero, List.set_cons_succ, List.length_cons, List.length_nil, List.cons_append, List.nil_append, Option.bind_some, Option.map_some, Option.bind_none, Option.map_none, List.take_succ_cons, List.take_zero, List.take_nil, if_true, if_false, ite_true, ite_false, reduceIte, eq_self, List.any_cons, List.any_nil, List.all_cons, List.all_nil, List.contains_nil, List.contains_cons, List.elem_nil, List.elem_cons, beq_self_eq_true, List.map_cons, List.map_nil, Nat.reduceAdd, Nat.reduceLT, Nat.reduceLeDiff, List.isEmpty_nil, List.isEmpty_cons, wipeS, List.length_map, List.length_range, List.getElem?_cons_zero, List.getElem?_cons_succ, List.length_zipIdx, rgF_fin, List.length_finRange, List.length_take, List.length_drop, List.length_append, reduceCtorEq, List.getElem_cons_zero, List.getElem_cons_succ, List.cons_ne_nil, bin_strC, sort_p, fm_nite, List.length_mergeSort, sort_II, s_sum_of, g_0, hs, b_total_1]
        exact ⟨⟨_, rfl, rfl⟩, hd.add (by omega) (h x hx)⟩)
    refine ⟨s, ?_⟩
    rw [e, List.foldl_map]
  obtain ⟨s, l⟩ := l
  have z : D.tup [.int 0, .int 1] = eQ 0 := rfl
  simp (implicitDefEqProofs := false) (disch := first | omega | assumption | (simp only [List.length_map, List.length_range, List.length_finRange, List.length_take, List.length_drop, List.length_replicate, List.length_append, List.length_cons, List.length_nil, List.length_reverse, List.length_set]; omega)) only [evB0, evB1, evB2, evB3, evB4, evB5, evB6, evB7, evB8, evB9, evB10, evB11, evB12, evB13, evB14, evB15, evB16, evB17, evB18, evB19, evB20, putMix, odE, e_comp, cV, cat_map, cat_some, fm_some, fm_ite, lst_map, rds, args, noSlot, slotsOf, nodupB, bin_repl, ixT_int, ixL_int, putS, putAll, List.set_cons_zero, List.set_cons_succ, List.length_cons, List.length_nil, List.cons_append, List.nil_append, Option.bind_some, Option.map_some, Option.bind_none, Option.map_none, List.take_succ_cons, List.take_zero, List.take_nil, if_true, if_false, ite_true, ite_false, reduceIte, eq_self, List.any_cons, List.any_nil, List.all_cons, List.all_nil, List.contains_nil, List.contains_cons, List.elem_nil, List.elem_cons, beq_self_eq_true, List.map_cons, List.map_nil, Nat.reduceAdd, Nat.reduceLT, Nat.reduceLeDiff, List.isEmpty_nil, List.isEmpty_cons, wipeS, List.length_map, List.length_range, List.getElem?_cons_zero, List.getElem?_cons_succ, List.length_zipIdx, rgF_fin, List.length_finRange, List.length_take, List.length_drop, List.length_append, reduceCtorEq, List.getElem_cons_zero, List.getElem_cons_succ, List.cons_ne_nil, bin_strC, sort_p, fm_nite, List.length_mergeSort, sort_II, s_sum_of, g_0, l, z]

theorem s_rounded_down {k : Nat} (hk : 1 ≤ k) (a : Rat) (h : a.den < 1000000000) : (CN k).call 11 [.val (eQ a)] = .ok (.int a.floor) [.val (eQ a)] := by
  obtain ⟨k, rfl⟩ : ∃ j, k = j + 1 := ⟨k - 1, by omega⟩
  refine call_eq ?_
  rw [run_at (tx.T.getD 11 default) rfl rfl]
  show finF 1 [.val (eQ a)] (denSs (CN k) b_rounded_down [.val (eQ a)]) = _
  unfold b_rounded_down
  have h1 := a.den_pos
  simp (implicitDefEqProofs := false) (disch := first | omega | assumption | (simp only [List.length_map, List.length_range, List.length_finRange, List.length_take, List.length_drop, List.length_replicate, List.length_append, List.length_cons, List.length_nil, List.length_reverse, List.length_set]; omega)) only [evB0, evB1, evB2, evB3, evB4, evB5, evB6, evB7, evB8, evB9, evB10, evB11, evB12, evB13, evB14, evB15, evB16, evB17, evB18, evB19, evB20, putMix, odE, e_comp, cV, cat_map, cat_some, fm_some, fm_ite, lst_map, rds, args, noSlot, slotsOf, nodupB, bin_repl, ixT_int, ixL_int, putS, putAll, List.set_cons_zero, List.set_cons_succ, List.length_cons, List.length_nil, List.cons_append, List.nil_append, Option.bind_some, Option.map_some, Option.bind_none, Option.map_none, List.take_succ_cons, List.take_zero, List.take_nil, if_true, if_false, ite_true, ite_false, reduceIte, eq_self, List.any_cons, List.any_nil, List.all_cons, List.all_nil, List.contains_nil, List.contains_cons, List.elem_nil, List.elem_cons, beq_self_eq_true, List.map_cons, List.map_nil, Nat.reduceAdd, Nat.reduceLT, Nat.reduceLeDiff, List.isEmpty_nil, List.isEmpty_cons, wipeS, List.length_map, List.length_range, List.getElem?_cons_zero, List.getElem?_cons_succ, List.length_zipIdx, rgF_fin, List.length_finRange, List.length_take, List.length_drop, List.length_append, reduceCtorEq, List.getElem_cons_zero, List.getElem_cons_succ, List.cons_ne_nil, bin_strC, sort_p, fm_nite, List.length_mergeSort, sort_II, floor_eq]

theorem s_rounded_up {k : Nat} (hk : 1 ≤ k) (a : Rat) (h : a.den < 1000000000) : (CN k).call 12 [.val (eQ a)] = .ok (.int a.ceil) [.val (eQ a)] := by
  obtain ⟨k, rfl⟩ : ∃ j, k = j + 1 := ⟨k - 1, by omega⟩
  refine call_eq ?_
  rw [run_at (tx.T.getD 12 default) rfl rfl]
  show finF 1 [.val (eQ a)] (denSs (CN k) b_rounded_up [.val (eQ a)]) = _
  unfold b_rounded_up
  have h1 := a.den_pos
  simp (implicitDefEqProofs := false) (disch := first | omega | assumption | (simp only [List.length_map, List.length_range, List.length_finRange, List.length_take, List.length_drop, List.length_replicate, List.length_append, List.length_cons, List.length_nil, List.length_reverse, List.length_set]; omega)) only [evB0, evB1, evB2, evB3, evB4, evB5, evB6, evB7, evB8, evB9, evB10, evB11, evB12, evB13, evB14, evB15, evB16, evB17, evB18, evB19, evB20, putMix, odE, e_comp, cV, cat_map, cat_some, fm_some, fm_ite, lst_map, rds, args, noSlot, slotsOf, nodupB, bin_repl, ixT_int, ixL_int, putS, putAll, List.set_cons_zero, List.set_cons_succ, List.length_cons, List.length_nil, List.cons_append, List.nil_append, Option.bind_some, Option.map_some, Option.bind_none, Option.map_none, List.take_succ_cons, List.take_zero, List.take_nil, if_true, if_false, ite_true, ite_false, reduceIte, eq_self, List.any_cons, List.any_nil, List.all_cons, List.all_nil, List.contains_nil, List.contains_cons, List.elem_nil, List.elem_cons, beq_self_eq_true, List.map_cons, List.map_nil, Nat.reduceAdd, Nat.reduceLT, Nat.reduceLeDiff, List.isEmpty_nil, List.isEmpty_cons, wipeS, List.length_map, List.length_range, List.getElem?_cons_zero, List.getElem?_cons_succ, List.length_zipIdx, rgF_fin, List.length_finRange, List.length_take, List.length_drop, List.length_append, reduceCtorEq, List.getElem_cons_zero, List.getElem_cons_succ, List.cons_ne_nil, bin_strC, sort_p, fm_nite, List.length_mergeSort, sort_II, ceil_eq]

theorem s_is_share_by {k : Nat} (hk : 3 ≤ k) (s : Shr) : (CN k).call 13 [.val (eS s)] = .ok (.bl true) [.val (eS s)] := by
  obtain ⟨k, rfl⟩ : ∃ j, k = j + 1 := ⟨k - 1, by omega⟩
  refine call_eq ?_
  rw [run_at (tx.T.getD 13 default) rfl rfl]
  show finF 1 [.val (eS s)] (denSs (CN k) b_is_share_by [.val (eS s)]) = _
  unfold b_is_share_by
  have h1 := s.n1
  have h2 := s.nd
  have h3 := s.d12
  simp (implicitDefEqProofs := false) (disch := first | omega | assumption | (simp only [List.length_map, List.length_range, List.length_finRange, List.length_take, List.length_drop, List.length_replicate, List.length_append, List.length_cons, List.length_nil, List.length_reverse, List.length_set]; omega)) only [evB0, evB1, evB2, evB3, evB4, evB5, evB6, evB7, evB8, evB9, evB10, evB11, evB12, evB13, evB14, evB15, evB16, evB17, evB18, evB19, evB20, putMix, odE, e_comp, cV, cat_map, cat_some, fm_some, fm_ite, lst_map, rds, args, noSlot, slotsOf, nodupB, bin_repl, ixT_int, ixL_int, putS, putAll, List.set_cons_zero, List.set_cons_succ, List.length_cons, List.length_nil, List.cons_append, List.nil_append, Option.bind_some, Option.map_some, Option.bind_none, Option.map_none, List.take_succ_cons, List.take_zero, List.take_nil, if_true, if_false, ite_true, ite_false, reduceIte, eq_self, List.any_cons, List.any_nil, List.all_cons, List.all_nil, List.contains_nil, List.contains_cons, List.elem_nil, List.elem_cons, beq_self_eq_true, List.map_cons, List.map_nil, Nat.reduceAdd, Nat.reduceLT, Nat.reduceLeDiff, List.isEmpty_nil, List.isEmpty_cons, wipeS, List.length_map, List.length_range, List.getElem?_cons_zero, List.getElem?_cons_succ, List.length_zipIdx, rgF_fin, List.length_finRange, List.length_take, List.length_drop, List.length_append, reduceCtorEq, List.getElem_cons_zero, List.getElem_cons_succ, List.cons_ne_nil, bin_strC, sort_p, fm_nite, List.length_mergeSort, sort_II, s_is_fraction_byQ, g_1]

theorem s_period_by {k : Nat} (hk : 1 ≤ k) (l : List Shr) : (CN k).call 14 [.val (tT eS l)] = .ok (.int ((perL l : Nat) : Int)) [.val (tT eS l)] := by
  obtain ⟨k, rfl⟩ : ∃ j, k = j + 1 := ⟨k - 1, by omega⟩
  refine call_eq ?_
  rw [run_at (tx.T.getD 14 default) rfl rfl]
  show finF 1 [.val (tT eS l)] (denSs (CN k) b_period_by [.val (tT eS l), .none, .none]) = _
  unfold b_period_by
  have lp : ∃ s, forD (CN k) (.name 2) b_period_by_1 (l.map eS) [.val (tT eS l), .val (.int 1), .none] = .ok .nx [.val (tT eS l), .val (.int ((perL l : Nat) : Int)), s] := by
    obtain ⟨ρ', e, s, hs, rfl⟩ := for_inv (C := CN k) (tg := .name 2) (body := b_period_by_1) (f := eS) (xs := l) (σ := Nat)
      (fun a ρ => ∃ s : Slot, s.free = true ∧ ρ = [.val (tT eS l), .val (.int ((a : Nat) : Int)), s]) (fun a x => Nat.lcm a x.q.den) (s := 1) (ρ := [.val (tT eS l), .val (.int 1), .none]) ⟨_, rfl, rfl⟩ (by
        rintro x hx a _ ⟨s, hs, rfl⟩
        have h3 := x.d12
        have h4 := x.d1
        have g1 := gcdPos (n := (a : Int)) (u := (x.q.den : Int)) (by omega)
        have g2 := gcdLe (n := (a : Int)) (u := (x.q.den : Int)) (by omega)
        simp (implicitDefEqProofs := false) (disch := first | omega | assumption | (simp only [List.length_map, List.length_range, List.length_finRange, List.length_take, List.length_drop, List.length_replicate, List.length_append, List.length_cons, List.length_nil, List.length_reverse, List.length_set]; omega)) only [evB0, evB1, evB2, evB3, evB4, evB5, evB6, evB7, evB8, evB9, evB10, evB11, evB12, evB13, evB14, evB15, evB16, evB17, evB18, evB19, evB20, putMix, odE, e_comp, cV, cat_map, cat_some, fm_some, fm_ite, lst_map, rds, args, noSlot, slotsOf, nodupB, bin_repl, ixT_int, ixL_int, putS, putAll, List.set_cons_zero, List.set_cons_succ, List.length_cons, List.length_nil, List.cons_append, List.nil_append, Option.bind_some, Option.map_some, Option.bind_none, Option.map_none, List.take_succ_cons, List.take_zero, List.take_nil, if_true, if_false, ite_true, ite_false, reduceIte, eq_self, List.any_cons, List.any_nil, List.all_cons, List.all_nil, List.contains_nil, List.contains_cons, List.elem_nil, List.elem_cons, beq_self_eq_true, List.map_cons, List.map_nil, Nat.reduceAdd, Nat.reduceLT, Nat.reduceLeDiff, List.isEmpty_nil, List.isEmpty_cons, wipeS, List.length_map, List.length_range, List.getElem?_cons_zero, List.getElem?_cons_succ, List.length_zipIdx, rgF_fin, List.length_finRange, List.length_take, List.length_drop, List.length_append, reduceCtorEq, List.getElem_cons_zero, List.getElem_cons_succ, List.cons_ne_nil, bin_strC, sort_p, fm_nite, List.length_mergeSort, sort_II, hs, b_period_by_1, lcm_int]
        exact ⟨_, rfl, rfl⟩)
    exact ⟨s, e⟩
  obtain ⟨s, lp⟩ := lp
  simp (implicitDefEqProofs := false) (disch := first | omega | assumption | (simp only [List.length_map, List.length_range, List.length_finRange, List.length_take, List.length_drop, List.length_replicate, List.length_append, List.length_cons, List.length_nil, List.length_reverse, List.length_set]; omega)) only [evB0, evB1, evB2, evB3, evB4, evB5, evB6, evB7, evB8, evB9, evB10, evB11, evB12, evB13, evB14, evB15, evB16, evB17, evB18, evB19, evB20, putMix, odE, e_comp, cV, cat_map, cat_some, fm_some, fm_ite, lst_map, rds, args, noSlot, slotsOf, nodupB, bin_repl, ixT_int, ixL_int, putS, putAll, List.set_cons_zero, List.set_cons_succ, List.length_cons, List.length_nil, List.cons_append, List.nil_append, Option.bind_some, Option.map_some, Option.bind_none, Option.map_none, List.take_succ_cons, List.take_zero, List.take_nil, if_true, if_false, ite_true, ite_false, reduceIte, eq_self, List.any_cons, List.any_nil, List.all_cons, List.all_nil, List.contains_nil, List.contains_cons, List.elem_nil, List.elem_cons, beq_self_eq_true, List.map_cons, List.map_nil, Nat.reduceAdd, Nat.reduceLT, Nat.reduceLeDiff, List.isEmpty_nil, List.isEmpty_cons, wipeS, List.length_map, List.length_range, List.getElem?_cons_zero, List.getElem?_cons_succ, List.length_zipIdx, rgF_fin, List.length_finRange, List.length_take, List.length_drop, List.length_append, reduceCtorEq, List.getElem_cons_zero, List.getElem_cons_succ, List.cons_ne_nil, bin_strC, sort_p, fm_nite, List.length_mergeSort, sort_II, lp]

theorem s_wrong_in_works_ok {k : Nat} (hk : 7 ≤ k) (w : Wks) : (CN k).call 15 [.val (eW w)] = .ok (.lst []) [.val (eW w)] := by
  obtain ⟨k, rfl⟩ : ∃ j, k = j + 1 := ⟨k - 1, by omega⟩
  refine call_eq ?_
  rw [run_at (tx.T.getD 15 default) rfl rfl]
  show finF 1 [.val (eW w)] (denSs (CN k) b_wrong_in_works [.val (eW w), .none, .none, .none, .none]) = _
  unfold b_wrong_in_works
  have h1 := w.n1
  have h2 := w.n5
  have h3 := w.per
  have e := s_first_wrong_ok (k := k) (by omega) (f := eS) (xs := w.l) (F := 13) (a := 1) (b := 5) 3 (by omega) (fun j => rfl) (fun j x hj => s_is_share_by hj x) (by omega) (by omega) (by omega)
  have p : ∀ n, ¬ (30 < ((perL (w.l.take n) : Nat) : Int)) := fun n => by have := perL_take w.l n; omega
  simp (implicitDefEqProofs := false) (disch := first | omega | assumption | (simp only [List.length_map, List.length_range, List.length_finRange, List.length_take, List.length_drop, List.length_replicate, List.length_append, List.length_cons, List.length_nil, List.length_reverse, List.length_set]; omega)) only [evB0, evB1, evB2, evB3, evB4, evB5, evB6, evB7, evB8, evB9, evB10, evB11, evB12, evB13, evB14, evB15, evB16, evB17, evB18, evB19, evB20, putMix, odE, e_comp, cV, cat_map, cat_some, fm_some, fm_ite, lst_map, rds, args, noSlot, slotsOf, nodupB, bin_repl, ixT_int, ixL_int, putS, putAll, List.set_cons_zero, List.set_cons_succ, List.length_cons, List.length_nil, List.cons_append, List.nil_append, Option.bind_some, Option.map_some, Option.bind_none, Option.map_none, List.take_succ_cons, List.take_zero, List.take_nil, if_true, if_false, ite_true, ite_false, reduceIte, eq_self, List.any_cons, List.any_nil, List.all_cons, List.all_nil, List.contains_nil, List.contains_cons, List.elem_nil, List.elem_cons, beq_self_eq_true, List.map_cons, List.map_nil, Nat.reduceAdd, Nat.reduceLT, Nat.reduceLeDiff, List.isEmpty_nil, List.isEmpty_cons, wipeS, List.length_map, List.length_range, List.getElem?_cons_zero, List.getElem?_cons_succ, List.length_zipIdx, rgF_fin, List.length_finRange, List.length_take, List.length_drop, List.length_append, reduceCtorEq, List.getElem_cons_zero, List.getElem_cons_succ, List.cons_ne_nil, bin_strC, sort_p, fm_nite, List.length_mergeSort, sort_II, s_first_wrong_ok, s_is_share_by, s_period_by, g_2, g_3, g_4, e, p]

end TkLaw

set_option Elab.async false
set_option linter.all false
set_option maxRecDepth 100000
set_option maxHeartbeats 0
namespace TkLaw
open PySem Tk
theorem s_check_works {k : Nat} (hk : 8 ≤ k) (w : Wks) : (CN k).call 16 [.val (eW w)] = .ok (.non) [.val (eW w)] := by
  obtain ⟨k, rfl⟩ : ∃ j, k = j + 1 := ⟨k - 1, by omega⟩
  refine call_eq ?_
  rw [run_at (tx.T.getD 16 default) rfl rfl]
  show finF 1 [.val (eW w)] (denSs (CN k) b_check_works [.val (eW w), .none]) = _
  unfold b_check_works
  have l : ∀ ρ, forD (CN k) (.name 1) b_check_works_1 [] ρ = .ok .nx ρ := fun ρ => rfl
  simp (implicitDefEqProofs := false) (disch := first | omega | assumption | (simp only [List.length_map, List.length_range, List.length_finRange, List.length_take, List.length_drop, List.length_replicate, List.length_append, List.length_cons, List.length_nil, List.length_reverse, List.length_set]; omega)) only [evB0, evB1, evB2, evB3, evB4, evB5, evB6, evB7, evB8, evB9, evB10, evB11, evB12, evB13, evB14, evB15, evB16, evB17, evB18, evB19, evB20, putMix, odE, e_comp, cV, cat_map, cat_some, fm_some, fm_ite, lst_map, rds, args, noSlot, slotsOf, nodupB, bin_repl, ixT_int, ixL_int, putS, putAll, List.set_cons_zero, List.set_cons_succ, List.length_cons, List.length_nil, List.cons_append, List.nil_append, Option.bind_some, Option.map_some, Option.bind_none, Option.map_none, List.take_succ_cons, List.take_zero, List.take_nil, if_true, if_false, ite_true, ite_false, reduceIte, eq_self, List.any_cons, List.any_nil, List.all_cons, List.all_nil, List.contains_nil, List.contains_cons, List.elem_nil, List.elem_cons, beq_self_eq_true, List.map_cons, List.map_nil, Nat.reduceAdd, Nat.reduceLT, Nat.reduceLeDiff, List.isEmpty_nil, List.isEmpty_cons, wipeS, List.length_map, List.length_range, List.getElem?_cons_zero, List.getElem?_cons_succ, List.length_zipIdx, rgF_fin, List.length_finRange, List.length_take, List.length_drop, List.length_append, reduceCtorEq, List.getElem_cons_zero, List.getElem_cons_succ, List.cons_ne_nil, bin_strC, sort_p, fm_nite, List.length_mergeSort, sort_II, s_wrong_in_works_ok, l]

theorem s_check_number {k : Nat} (hk : 3 ≤ k) (v l h : Int) (h1 : l ≤ v) (h2 : v ≤ h) : (CN k).call 17 [.val (.int v), .val (.int l), .val (.int h)] = .ok (.non) [.val (.int v), .val (.int l), .val (.int h)] := by
  obtain ⟨k, rfl⟩ : ∃ j, k = j + 1 := ⟨k - 1, by omega⟩
  refine call_eq ?_
  rw [run_at (tx.T.getD 17 default) rfl rfl]
  show finF 3 [.val (.int v), .val (.int l), .val (.int h)] (denSs (CN k) b_check_number [.val (.int v), .val (.int l), .val (.int h)]) = _
  unfold b_check_number
  simp (implicitDefEqProofs := false) (disch := first | omega | assumption | (simp only [List.length_map, List.length_range, List.length_finRange, List.length_take, List.length_drop, List.length_replicate, List.length_append, List.length_cons, List.length_nil, List.length_reverse, List.length_set]; omega)) only [evB0, evB1, evB2, evB3, evB4, evB5, evB6, evB7, evB8, evB9, evB10, evB11, evB12, evB13, evB14, evB15, evB16, evB17, evB18, evB19, evB20, putMix, odE, e_comp, cV, cat_map, cat_some, fm_some, fm_ite, lst_map, rds, args, noSlot, slotsOf, nodupB, bin_repl, ixT_int, ixL_int, putS, putAll, List.set_cons_zero, List.set_cons_succ, List.length_cons, List.length_nil, List.cons_append, List.nil_append, Option.bind_some, Option.map_some, Option.bind_none, Option.map_none, List.take_succ_cons, List.take_zero, List.take_nil, if_true, if_false, ite_true, ite_false, reduceIte, eq_self, List.any_cons, List.any_nil, List.all_cons, List.all_nil, List.contains_nil, List.contains_cons, List.elem_nil, List.elem_cons, beq_self_eq_true, List.map_cons, List.map_nil, Nat.reduceAdd, Nat.reduceLT, Nat.reduceLeDiff, List.isEmpty_nil, List.isEmpty_cons, wipeS, List.length_map, List.length_range, List.getElem?_cons_zero, List.getElem?_cons_succ, List.length_zipIdx, rgF_fin, List.length_finRange, List.length_take, List.length_drop, List.length_append, reduceCtorEq, List.getElem_cons_zero, List.getElem_cons_succ, List.cons_ne_nil, bin_strC, sort_p, fm_nite, List.length_mergeSort, sort_II, s_is_between]

theorem s_check_share {k : Nat} (hk : 4 ≤ k) (s : Shr) : (CN k).call 18 [.val (eS s)] = .ok (.non) [.val (eS s)] := by
  obtain ⟨k, rfl⟩ : ∃ j, k = j + 1 := ⟨k - 1, by omega⟩
  refine call_eq ?_
  rw [run_at (tx.T.getD 18 default) rfl rfl]
  show finF 1 [.val (eS s)] (denSs (CN k) b_check_share [.val (eS s)]) = _
  unfold b_check_share
  simp (implicitDefEqProofs := false) (disch := first | omega | assumption | (simp only [List.length_map, List.length_range, List.length_finRange, List.length_take, List.length_drop, List.length_replicate, List.length_append, List.length_cons, List.length_nil, List.length_reverse, List.length_set]; omega)) only [evB0, evB1, evB2, evB3, evB4, evB5, evB6, evB7, evB8, evB9, evB10, evB11, evB12, evB13, evB14, evB15, evB16, evB17, evB18, evB19, evB20, putMix, odE, e_comp, cV, cat_map, cat_some, fm_some, fm_ite, lst_map, rds, args, noSlot, slotsOf, nodupB, bin_repl, ixT_int, ixL_int, putS, putAll, List.set_cons_zero, List.set_cons_succ, List.length_cons, List.length_nil, List.cons_append, List.nil_append, Option.bind_some, Option.map_some, Option.bind_none, Option.map_none, List.take_succ_cons, List.take_zero, List.take_nil, if_true, if_false, ite_true, ite_false, reduceIte, eq_self, List.any_cons, List.any_nil, List.all_cons, List.all_nil, List.contains_nil, List.contains_cons, List.elem_nil, List.elem_cons, beq_self_eq_true, List.map_cons, List.map_nil, Nat.reduceAdd, Nat.reduceLT, Nat.reduceLeDiff, List.isEmpty_nil, List.isEmpty_cons, wipeS, List.length_map, List.length_range, List.getElem?_cons_zero, List.getElem?_cons_succ, List.length_zipIdx, rgF_fin, List.length_finRange, List.length_take, List.length_drop, List.length_append, reduceCtorEq, List.getElem_cons_zero, List.getElem_cons_succ, List.cons_ne_nil, bin_strC, sort_p, fm_nite, List.length_mergeSort, sort_II, s_is_share_by]

theorem s_is_one_house {k : Nat} (hk : 4 ≤ k) (w : Wks) (h : sumL w.l = 1) : (CN k).call 19 [.val (eW w)] = .ok (.bl true) [.val (eW w)] := by
  obtain ⟨k, rfl⟩ : ∃ j, k = j + 1 := ⟨k - 1, by omega⟩
  refine call_eq ?_
  rw [run_at (tx.T.getD 19 default) rfl rfl]
  show finF 1 [.val (eW w)] (denSs (CN k) b_is_one_house [.val (eW w)]) = _
  unfold b_is_one_house
  have e := s_total (k := k) (by omega) (perL_pos w.l) (by have := w.per; omega) (fun s : Shr => s.q) w.l fun s hs => perL_dvd hs
  change (CN k).call _ _ = .ok (eQ (sumL w.l)) _ at e
  have z : D.tup [.int 1, .int 1] = eQ 1 := rfl
  simp (implicitDefEqProofs := false) (disch := first | omega | assumption | (simp only [List.length_map, List.length_range, List.length_finRange, List.length_take, List.length_drop, List.length_replicate, List.length_append, List.length_cons, List.length_nil, List.length_reverse, List.length_set]; omega)) only [evB0, evB1, evB2, evB3, evB4, evB5, evB6, evB7, evB8, evB9, evB10, evB11, evB12, evB13, evB14, evB15, evB16, evB17, evB18, evB19, evB20, putMix, odE, e_comp, cV, cat_map, cat_some, fm_some, fm_ite, lst_map, rds, args, noSlot, slotsOf, nodupB, bin_repl, ixT_int, ixL_int, putS, putAll, List.set_cons_zero, List.set_cons_succ, List.length_cons, List.length_nil, List.cons_append, List.nil_append, Option.bind_some, Option.map_some, Option.bind_none, Option.map_none, List.take_succ_cons, List.take_zero, List.take_nil, if_true, if_false, ite_true, ite_false, reduceIte, eq_self, List.any_cons, List.any_nil, List.all_cons, List.all_nil, List.contains_nil, List.contains_cons, List.elem_nil, List.elem_cons, beq_self_eq_true, List.map_cons, List.map_nil, Nat.reduceAdd, Nat.reduceLT, Nat.reduceLeDiff, List.isEmpty_nil, List.isEmpty_cons, wipeS, List.length_map, List.length_range, List.getElem?_cons_zero, List.getElem?_cons_succ, List.length_zipIdx, rgF_fin, List.length_finRange, List.length_take, List.length_drop, List.length_append, reduceCtorEq, List.getElem_cons_zero, List.getElem_cons_succ, List.cons_ne_nil, bin_strC, sort_p, fm_nite, List.length_mergeSort, sort_II, s_total, g_5, e, z, h]

theorem s_rest_of {k : Nat} (hk : 2 ≤ k) (s : Shr) (N : Int) : (CN k).call 20 [.val (eS s), .val (.int N)] = .ok (eQ (rsS s N)) [.val (eS s), .val (.int N)] := by
  obtain ⟨k, rfl⟩ : ∃ j, k = j + 1 := ⟨k - 1, by omega⟩
  refine call_eq ?_
  rw [run_at (tx.T.getD 20 default) rfl rfl]
  show finF 2 [.val (eS s), .val (.int N)] (denSs (CN k) b_rest_of [.val (eS s), .val (.int N)]) = _
  unfold b_rest_of
  have h1 := s.n1
  have h2 := s.nd
  have h3 := s.d12
  simp (implicitDefEqProofs := false) (disch := first | omega | assumption | (simp only [List.length_map, List.length_range, List.length_finRange, List.length_take, List.length_drop, List.length_replicate, List.length_append, List.length_cons, List.length_nil, List.length_reverse, List.length_set]; omega)) only [evB0, evB1, evB2, evB3, evB4, evB5, evB6, evB7, evB8, evB9, evB10, evB11, evB12, evB13, evB14, evB15, evB16, evB17, evB18, evB19, evB20, putMix, odE, e_comp, cV, cat_map, cat_some, fm_some, fm_ite, lst_map, rds, args, noSlot, slotsOf, nodupB, bin_repl, ixT_int, ixL_int, putS, putAll, List.set_cons_zero, List.set_cons_succ, List.length_cons, List.length_nil, List.cons_append, List.nil_append, Option.bind_some, Option.map_some, Option.bind_none, Option.map_none, List.take_succ_cons, List.take_zero, List.take_nil, if_true, if_false, ite_true, ite_false, reduceIte, eq_self, List.any_cons, List.any_nil, List.all_cons, List.all_nil, List.contains_nil, List.contains_cons, List.elem_nil, List.elem_cons, beq_self_eq_true, List.map_cons, List.map_nil, Nat.reduceAdd, Nat.reduceLT, Nat.reduceLeDiff, List.isEmpty_nil, List.isEmpty_cons, wipeS, List.length_map, List.length_range, List.getElem?_cons_zero, List.getElem?_cons_succ, List.length_zipIdx, rgF_fin, List.length_finRange, List.length_take, List.length_drop, List.length_append, reduceCtorEq, List.getElem_cons_zero, List.getElem_cons_succ, List.cons_ne_nil, bin_strC, sort_p, fm_nite, List.length_mergeSort, sort_II, s_fraction]
  rfl

theorem s_greatest_rests {k : Nat} (hk : 3 ≤ k) (w : Wks) (N : Int) : (CN k).call 21 [.val (eW w), .val (.int N)] = .ok (tL eN (ordS w.l N)) [.val (eW w), .val (.int N)] := by
  obtain ⟨k, rfl⟩ : ∃ j, k = j + 1 := ⟨k - 1, by omega⟩
  refine call_eq ?_
  rw [run_at (tx.T.getD 21 default) rfl rfl]
  show finF 2 [.val (eW w), .val (.int N)] (denSs (CN k) b_greatest_rests [.val (eW w), .val (.int N), .none, .none, .none, .none, .none, .none]) = _
  unfold b_greatest_rests
  have w1 := w.n1
  have w5 := w.n5
  have rd : ∀ s : Shr, (rsS s N).den < 1000000000 := fun s => by
    have := Nat.le_of_dvd s.q.den_pos (den_mk_dvd (n := s.q.num * N % s.q.den) (d := s.q.den) (by have := s.q.den_pos; omega))
    have := s.d12
    show (mkRat _ _).den < _
    omega
  obtain ⟨ρ', lp, fs, s, t, hs, ht, hf, rfl⟩ := for_rng (C := CN k) (tg := .tup [4, 5]) (body := b_greatest_rests_1) (n := w.l.length) (g := fun i => .tup [.int (i.val : Int), eQ (rsS w.l[i.val] N)])
    (fun n ρ => ∃ (fs : List (_root_.Fin w.l.length)) (s t : Slot), s.free = true ∧ t.free = true ∧ fs.map (·.val) = (List.range n).mergeSort (rkB (lgR w.l N)) ∧ ρ = [.val (eW w), .val (.int N), .val (tL (fun s => eQ (rsS s N)) w.l), .own (tL (fun i : _root_.Fin w.l.length => .int (i.val : Int)) fs), s, t, .none, .none])
    (ρ := [.val (eW w), .val (.int N), .val (tL (fun s => eQ (rsS s N)) w.l), .own (.lst []), .none, .none, .none, .none]) ⟨[], .none, .none, rfl, rfl, by simp, rfl⟩ (by
      rintro x _ ⟨fs, s, t, hs, ht, hf, rfl⟩
      have xl := x.isLt
      have fl : fs.length = x.val := by
        have := congrArg List.length hf
        rw [List.length_map, List.length_mergeSort, List.length_range] at this
        exact this
      have rx := rd w.l[x.val]
      have il : ∀ i : _root_.Fin w.l.length, (CN k).call 9 [.val (eQ (rsS w.l[i.val] N)), .val (eQ (rsS w.l[x.val] N))] = .ok (.bl (decide (rsS w.l[i.val] N < rsS w.l[x.val] N))) [.val (eQ (rsS w.l[i.val] N)), .val (eQ (rsS w.l[x.val] N))] := fun i => s_is_less (k := k) (by omega) _ _ (rd w.l[i.val]) rx
      have c : (fs.filter fun e => !decide (rsS w.l[e.val] N < rsS w.l[x.val] N)).length = ((fs.map (·.val)).filter fun e => !decide (lgR w.l N e < lgR w.l N x.val)).length := by
        rw [List.filter_map, List.length_map]
        congr 1
        refine List.filter_congr fun e _ => ?_
        simp only [Function.comp_apply]
        rw [lgR_at e.isLt, lgR_at xl]
      have cl : (fs.filter fun e => !decide (rsS w.l[e.val] N < rsS w.l[x.val] N)).length ≤ fs.length := List.length_filter_le ..
      simp (implicitDefEqProofs := false) (disch := first | omega | assumption | (simp only [List.length_map, List.length_range, List.length_finRange, List.length_take, List.length_drop, List.length_replicate, List.length_append, List.length_cons, List.length_nil, List.length_reverse, List.length_set]; omega)) only [evB0, evB1, evB2, evB3, evB4, evB5, evB6, evB7, evB8, evB9, evB10, evB11, evB12, evB13, evB14, evB15, evB16, evB17, evB18, evB19, evB20, putMix, odE, e_comp, cV, cat_map, cat_some, fm_some, fm_ite, lst_map, rds, args, noSlot, slotsOf, nodupB, bin_repl, ixT_int, ixL_int, putS, putAll, List.set_cons_zero, List.set_cons_succ, List.length_cons, List.length_nil, List.cons_append, List.nil_append, Option.bind_some, Option.map_some, Option.bind_none, Option.map_none, List.take_succ_cons, List.take_zero, List.take_nil, if_true, if_false, ite_true, ite_false, reduceIte, eq_self, List.any_cons, List.any_nil, List.all_cons, List.all_nil, List.contains_nil, List.contains_cons, List.elem_nil, List.elem_cons, beq_self_eq_true, List.map_cons, List.map_nil, Nat.reduceAdd, Nat.reduceLT, Nat.reduceLeDiff, List.isEmpty_nil, List.isEmpty_cons, wipeS, List.length_map, List.length_range, List.getElem?_cons_zero, List.getElem?_cons_succ, List.length_zipIdx, rgF_fin, List.length_finRange, List.length_take, List.length_drop, List.length_append, reduceCtorEq, List.getElem_cons_zero, List.getElem_cons_succ, List.cons_ne_nil, bin_strC, sort_p, fm_nite, List.length_mergeSort, sort_II, s_rest_of, s_is_less, hs, ht, b_greatest_rests_1, il, kMt2_insF]
      refine ⟨fs.take (fs.filter fun e => !decide (rsS w.l[e.val] N < rsS w.l[x.val] N)).length ++ [x] ++ fs.drop (fs.filter fun e => !decide (rsS w.l[e.val] N < rsS w.l[x.val] N)).length, .val (.int (x.val : Int)), .val (eQ (rsS w.l[x.val] N)), rfl, rfl, ?_, rfl⟩
      rw [c, List.map_append, List.map_append, List.map_take, List.map_drop]
      exact ins_sort (lgR w.l N) x.val _ hf)
  have e : tL (fun i : _root_.Fin w.l.length => D.int (i.val : Int)) fs = tL eN (ordS w.l N) := by
    unfold ordS tL
    rw [← hf, List.map_map]; rfl
  rw [e] at lp
  simp (implicitDefEqProofs := false) (disch := first | omega | assumption | (simp only [List.length_map, List.length_range, List.length_finRange, List.length_take, List.length_drop, List.length_replicate, List.length_append, List.length_cons, List.length_nil, List.length_reverse, List.length_set]; omega)) only [evB0, evB1, evB2, evB3, evB4, evB5, evB6, evB7, evB8, evB9, evB10, evB11, evB12, evB13, evB14, evB15, evB16, evB17, evB18, evB19, evB20, putMix, odE, e_comp, cV, cat_map, cat_some, fm_some, fm_ite, lst_map, rds, args, noSlot, slotsOf, nodupB, bin_repl, ixT_int, ixL_int, putS, putAll, List.set_cons_zero, List.set_cons_succ, List.length_cons, List.length_nil, List.cons_append, List.nil_append, Option.bind_some, Option.map_some, Option.bind_none, Option.map_none, List.take_succ_cons, List.take_zero, List.take_nil, if_true, if_false, ite_true, ite_false, reduceIte, eq_self, List.any_cons, List.any_nil, List.all_cons, List.all_nil, List.contains_nil, List.contains_cons, List.elem_nil, List.elem_cons, beq_self_eq_true, List.map_cons, List.map_nil, Nat.reduceAdd, Nat.reduceLT, Nat.reduceLeDiff, List.isEmpty_nil, List.isEmpty_cons, wipeS, List.length_map, List.length_range, List.getElem?_cons_zero, List.getElem?_cons_succ, List.length_zipIdx, rgF_fin, List.length_finRange, List.length_take, List.length_drop, List.length_append, reduceCtorEq, List.getElem_cons_zero, List.getElem_cons_succ, List.cons_ne_nil, bin_strC, sort_p, fm_nite, List.length_mergeSort, sort_II, s_rest_of, s_is_less, lp]

theorem s_rest_seats_by {k : Nat} (hk : 4 ≤ k) (w : Wks) (h : sumL w.l = 1) (N : Int) (h1 : 0 ≤ N) (h2 : N ≤ 1000) : (CN k).call 22 [.val (eW w), .val (.int N)] = .ok (tT .int (stS w.l N)) [.val (eW w), .val (.int N)] := by
  obtain ⟨k, rfl⟩ : ∃ j, k = j + 1 := ⟨k - 1, by omega⟩
  refine call_eq ?_
  rw [run_at (tx.T.getD 22 default) rfl rfl]
  show finF 2 [.val (eW w), .val (.int N)] (denSs (CN k) b_rest_seats_by [.val (eW w), .val (.int N), .none, .none, .none]) = _
  unfold b_rest_seats_by
  have w1 := w.n1
  have w5 := w.n5
  obtain ⟨k0, k1⟩ := kR_bd (N := N) h
  have g2 : ∀ x : Shr, divOk (x.q.den : Int) = true := fun x => divOk_s (by have := x.d1; omega) (by have := x.d12; omega)
  have e0 : tL (fun s : Shr => D.int (s.q.num * N / (s.q.den : Int))) w.l = tL .int ((List.range w.l.length).map fun i => flR w.l N i) := by
    unfold tL
    rw [rng_map (g := fun s : Shr => flS s N) fun i hi => flR_at hi, List.map_map]; rfl
  have ek : N - ((List.range w.l.length).map fun i => flR w.l N i).sum = kR w.l N := rfl
  obtain ⟨ρ', lp, s, hs, rfl⟩ := for_idx (C := CN k) (tg := .name 3) (body := b_rest_seats_by_1) (f := eN) (xs := (ordS w.l N).take (kR w.l N).toNat)
    (fun n ρ => ∃ s : Slot, s.free = true ∧ ρ = [.val (eW w), .val (.int N), .own (tL .int ((List.range w.l.length).map fun i => flR w.l N i + if i ∈ ((ordS w.l N).take (kR w.l N).toNat).take n then 1 else 0)), s, .none])
    (ρ := [.val (eW w), .val (.int N), .own (tL .int ((List.range w.l.length).map fun i => flR w.l N i)), .none, .none]) ⟨.none, rfl, by simp⟩ (by
      rintro j hj _ ⟨s, hs, rfl⟩
      have nd : ((ordS w.l N).take (kR w.l N).toNat).Nodup := ord_nodup.sublist (List.take_sublist ..)
      have lt : ((ordS w.l N).take (kR w.l N).toNat)[j] < w.l.length := ord_lt (List.mem_of_mem_take (List.getElem_mem hj))
      generalize (ordS w.l N).take (kR w.l N).toNat = z at *
      have ix : ixF (tL .int ((List.range w.l.length).map fun i => flR w.l N i + if i ∈ z.take j then 1 else 0)) (.int (z[j] : Int)) = some (.int (flR w.l N z[j] + if z[j] ∈ z.take j then 1 else 0)) := by
        rw [ixL_nat (by simpa using lt)]; simp
      have ni : ¬ z[j] ∈ z.take j := fun m => by
        obtain ⟨i, hi, e⟩ := List.mem_iff_getElem.mp m
        rw [List.length_take] at hi
        rw [List.getElem_take] at e
        have := (List.getElem_inj nd).mp e
        omega
      have m2 : ∀ i, i ∈ z.take (j + 1) ↔ i ∈ z.take j ∨ i = z[j] := fun i => by rw [List.take_succ_eq_append_getElem hj, List.mem_append, List.mem_singleton]
      have st : ((List.range w.l.length).map fun i => flR w.l N i + if i ∈ z.take j then 1 else 0).set z[j] (flR w.l N z[j] + 0 + 1) = (List.range w.l.length).map fun i => flR w.l N i + if i ∈ z.take (j + 1) then 1 else 0 := by
        refine List.ext_getElem (by simp) fun i h1 h2 => ?_
        rw [List.getElem_set]
        simp only [List.getElem_map, List.getElem_range]
        by_cases c : z[j] = i
        · rw [if_pos c, ← c, if_pos ((m2 _).mpr (.inr rfl))]; omega
        · rw [if_neg c]
          have : (i ∈ z.take (j + 1)) = (i ∈ z.take j) := propext ((m2 i).trans ⟨fun h => h.resolve_right fun e => c e.symm, .inl⟩)
          simp only [this]
      have sl : ((List.range w.l.length).map fun i => flR w.l N i + if i ∈ z.take j then 1 else 0).length = w.l.length := by simp
      have ks : kSet2 2 (.int (flR w.l N z[j] + 0 + 1)) (.int (z[j] : Int)) [.val (eW w), .val (.int N), .own (tL .int ((List.range w.l.length).map fun i => flR w.l N i + if i ∈ z.take j then 1 else 0)), .val (.int (z[j] : Int)), .none] (some (tL .int ((List.range w.l.length).map fun i => flR w.l N i + if i ∈ z.take j then 1 else 0)))
          = .ok .nx [.val (eW w), .val (.int N), .own (tL .int ((List.range w.l.length).map fun i => flR w.l N i + if i ∈ z.take (j + 1) then 1 else 0)), .val (.int (z[j] : Int)), .none] := by
        rw [kSet2_i (by omega) (by rw [sl]; omega), Int.toNat_natCast, st]; rfl
      simp (implicitDefEqProofs := false) (disch := first | omega | assumption | (simp only [List.length_map, List.length_range, List.length_finRange, List.length_take, List.length_drop, List.length_replicate, List.length_append, List.length_cons, List.length_nil, List.length_reverse, List.length_set]; omega)) only [evB0, evB1, evB2, evB3, evB4, evB5, evB6, evB7, evB8, evB9, evB10, evB11, evB12, evB13, evB14, evB15, evB16, evB17, evB18, evB19, evB20, putMix, odE, e_comp, cV, cat_map, cat_some, fm_some, fm_ite, lst_map, rds, args, noSlot, slotsOf, nodupB, bin_repl, ixT_int, ixL_int, putS, putAll, List.set_cons_zero, List.set_cons_succ, List.length_cons, List.length_nil, List.cons_append, List.nil_append, Option.bind_some, Option.map_some, Option.bind_none, Option.map_none, List.take_succ_cons, List.take_zero, List.take_nil, if_true, if_false, ite_true, ite_false, reduceIte, eq_self, List.any_cons, List.any_nil, List.all_cons, List.all_nil, List.contains_nil, List.contains_cons, List.elem_nil, List.elem_cons, beq_self_eq_true, List.map_cons, List.map_nil, Nat.reduceAdd, Nat.reduceLT, Nat.reduceLeDiff, List.isEmpty_nil, List.isEmpty_cons, wipeS, List.length_map, List.length_range, List.getElem?_cons_zero, List.getElem?_cons_succ, List.length_zipIdx, rgF_fin, List.length_finRange, List.length_take, List.length_drop, List.length_append, reduceCtorEq, List.getElem_cons_zero, List.getElem_cons_succ, List.cons_ne_nil, bin_strC, sort_p, fm_nite, List.length_mergeSort, sort_II, s_greatest_rests, hs, b_rest_seats_by_1, ix, ni, ks]
      exact ⟨.val (eN z[j]), rfl, rfl⟩)
  rw [List.take_length] at lp
  simp (implicitDefEqProofs := false) (disch := first | omega | assumption | (simp only [List.length_map, List.length_range, List.length_finRange, List.length_take, List.length_drop, List.length_replicate, List.length_append, List.length_cons, List.length_nil, List.length_reverse, List.length_set]; omega)) only [evB0, evB1, evB2, evB3, evB4, evB5, evB6, evB7, evB8, evB9, evB10, evB11, evB12, evB13, evB14, evB15, evB16, evB17, evB18, evB19, evB20, putMix, odE, e_comp, cV, cat_map, cat_some, fm_some, fm_ite, lst_map, rds, args, noSlot, slotsOf, nodupB, bin_repl, ixT_int, ixL_int, putS, putAll, List.set_cons_zero, List.set_cons_succ, List.length_cons, List.length_nil, List.cons_append, List.nil_append, Option.bind_some, Option.map_some, Option.bind_none, Option.map_none, List.take_succ_cons, List.take_zero, List.take_nil, if_true, if_false, ite_true, ite_false, reduceIte, eq_self, List.any_cons, List.any_nil, List.all_cons, List.all_nil, List.contains_nil, List.contains_cons, List.elem_nil, List.elem_cons, beq_self_eq_true, List.map_cons, List.map_nil, Nat.reduceAdd, Nat.reduceLT, Nat.reduceLeDiff, List.isEmpty_nil, List.isEmpty_cons, wipeS, List.length_map, List.length_range, List.getElem?_cons_zero, List.getElem?_cons_succ, List.length_zipIdx, rgF_fin, List.length_finRange, List.length_take, List.length_drop, List.length_append, reduceCtorEq, List.getElem_cons_zero, List.getElem_cons_succ, List.cons_ne_nil, bin_strC, sort_p, fm_nite, List.length_mergeSort, sort_II, s_greatest_rests, g2, e0, ek, lp]
  rfl

theorem s_does_some_lose {k : Nat} (hk : 5 ≤ k) (w : Wks) (h : sumL w.l = 1) (N : Int) (h1 : 1 ≤ N) (h2 : N ≤ 1000) : (CN k).call 23 [.val (eW w), .val (.int N)] = .ok (.bl (losB w.l N)) [.val (eW w), .val (.int N)] := by
  obtain ⟨k, rfl⟩ : ∃ j, k = j + 1 := ⟨k - 1, by omega⟩
  refine call_eq ?_
  rw [run_at (tx.T.getD 23 default) rfl rfl]
  show finF 2 [.val (eW w), .val (.int N)] (denSs (CN k) b_does_some_lose [.val (eW w), .val (.int N), .none, .none]) = _
  unfold b_does_some_lose
  have w5 := w.n5
  have es : ∀ M : Int, tT D.int (stS w.l M) = tT (fun i : Nat => D.int (seat w.l M i)) (List.range w.l.length) := fun M => by
    unfold tT stS
    rw [List.map_map]; rfl
  have z : zipF (tT (fun i : Nat => D.int (seat w.l N i)) (List.range w.l.length)) (tT (fun i : Nat => D.int (seat w.l (N - 1) i)) (List.range w.l.length)) = some ((List.range w.l.length).map fun i => .tup [.int (seat w.l N i), .int (seat w.l (N - 1) i)]) := by
    rw [zipF_TT]
    congr 1
    refine List.ext_getElem (by simp) fun i h1 h2 => by simp
  simp (implicitDefEqProofs := false) (disch := first | omega | assumption | (simp only [List.length_map, List.length_range, List.length_finRange, List.length_take, List.length_drop, List.length_replicate, List.length_append, List.length_cons, List.length_nil, List.length_reverse, List.length_set]; omega)) only [evB0, evB1, evB2, evB3, evB4, evB5, evB6, evB7, evB8, evB9, evB10, evB11, evB12, evB13, evB14, evB15, evB16, evB17, evB18, evB19, evB20, putMix, odE, e_comp, cV, cat_map, cat_some, fm_some, fm_ite, lst_map, rds, args, noSlot, slotsOf, nodupB, bin_repl, ixT_int, ixL_int, putS, putAll, List.set_cons_zero, List.set_cons_succ, List.length_cons, List.length_nil, List.cons_append, List.nil_append, Option.bind_some, Option.map_some, Option.bind_none, Option.map_none, List.take_succ_cons, List.take_zero, List.take_nil, if_true, if_false, ite_true, ite_false, reduceIte, eq_self, List.any_cons, List.any_nil, List.all_cons, List.all_nil, List.contains_nil, List.contains_cons, List.elem_nil, List.elem_cons, beq_self_eq_true, List.map_cons, List.map_nil, Nat.reduceAdd, Nat.reduceLT, Nat.reduceLeDiff, List.isEmpty_nil, List.isEmpty_cons, wipeS, List.length_map, List.length_range, List.getElem?_cons_zero, List.getElem?_cons_succ, List.length_zipIdx, rgF_fin, List.length_finRange, List.length_take, List.length_drop, List.length_append, reduceCtorEq, List.getElem_cons_zero, List.getElem_cons_succ, List.cons_ne_nil, bin_strC, sort_p, fm_nite, List.length_mergeSort, sort_II, s_rest_seats_by, es, z]
  rfl

end TkLaw

set_option Elab.async false
set_option linter.all false
set_option maxRecDepth 100000
set_option maxHeartbeats 0
namespace TkLaw
open PySem Tk
theorem s_losing_houses_by {k : Nat} (hk : 6 ≤ k) (w : Wks) (h : sumL w.l = 1) (m : Nat) (h2 : m ≤ 900) : (CN k).call 24 [.val (eW w), .val (.int (m : Int))] = .ok (tT .int (losL w.l m)) [.val (eW w), .val (.int (m : Int))] := by
  obtain ⟨k, rfl⟩ : ∃ j, k = j + 1 := ⟨k - 1, by omega⟩
  refine call_eq ?_
  rw [run_at (tx.T.getD 24 default) rfl rfl]
  show finF 2 [.val (eW w), .val (.int (m : Int))] (denSs (CN k) b_losing_houses_by [.val (eW w), .val (.int (m : Int)), .none]) = _
  unfold b_losing_houses_by
  simp (implicitDefEqProofs := false) (disch := first | omega | assumption | (simp only [List.length_map, List.length_range, List.length_finRange, List.length_take, List.length_drop, List.length_replicate, List.length_append, List.length_cons, List.length_nil, List.length_reverse, List.length_set]; omega)) only [evB0, evB1, evB2, evB3, evB4, evB5, evB6, evB7, evB8, evB9, evB10, evB11, evB12, evB13, evB14, evB15, evB16, evB17, evB18, evB19, evB20, putMix, odE, e_comp, cV, cat_map, cat_some, fm_some, fm_ite, lst_map, rds, args, noSlot, slotsOf, nodupB, bin_repl, ixT_int, ixL_int, putS, putAll, List.set_cons_zero, List.set_cons_succ, List.length_cons, List.length_nil, List.cons_append, List.nil_append, Option.bind_some, Option.map_some, Option.bind_none, Option.map_none, List.take_succ_cons, List.take_zero, List.take_nil, if_true, if_false, ite_true, ite_false, reduceIte, eq_self, List.any_cons, List.any_nil, List.all_cons, List.all_nil, List.contains_nil, List.contains_cons, List.elem_nil, List.elem_cons, beq_self_eq_true, List.map_cons, List.map_nil, Nat.reduceAdd, Nat.reduceLT, Nat.reduceLeDiff, List.isEmpty_nil, List.isEmpty_cons, wipeS, List.length_map, List.length_range, List.getElem?_cons_zero, List.getElem?_cons_succ, List.length_zipIdx, rgF_fin, List.length_finRange, List.length_take, List.length_drop, List.length_append, reduceCtorEq, List.getElem_cons_zero, List.getElem_cons_succ, List.cons_ne_nil, bin_strC, sort_p, fm_nite, List.length_mergeSort, sort_II, s_does_some_lose]
  refine crok ?_
  unfold losL tT
  congr 1
  rw [← finRange_val, List.map_map, List.filter_map, List.map_map]
  refine congrArg (fun z => List.map _ z) (List.filter_congr fun i _ => ?_)
  simp

theorem s_check_house {k : Nat} (hk : 9 ≤ k) (w : Wks) (h : sumL w.l = 1) (N lo hi : Int) (h1 : lo ≤ N) (h2 : N ≤ hi) : (CN k).call 25 [.val (eW w), .val (.int N), .val (.int lo), .val (.int hi)] = .ok (.non) [.val (eW w), .val (.int N), .val (.int lo), .val (.int hi)] := by
  obtain ⟨k, rfl⟩ : ∃ j, k = j + 1 := ⟨k - 1, by omega⟩
  refine call_eq ?_
  rw [run_at (tx.T.getD 25 default) rfl rfl]
  show finF 4 [.val (eW w), .val (.int N), .val (.int lo), .val (.int hi)] (denSs (CN k) b_check_house [.val (eW w), .val (.int N), .val (.int lo), .val (.int hi)]) = _
  unfold b_check_house
  simp (implicitDefEqProofs := false) (disch := first | omega | assumption | (simp only [List.length_map, List.length_range, List.length_finRange, List.length_take, List.length_drop, List.length_replicate, List.length_append, List.length_cons, List.length_nil, List.length_reverse, List.length_set]; omega)) only [evB0, evB1, evB2, evB3, evB4, evB5, evB6, evB7, evB8, evB9, evB10, evB11, evB12, evB13, evB14, evB15, evB16, evB17, evB18, evB19, evB20, putMix, odE, e_comp, cV, cat_map, cat_some, fm_some, fm_ite, lst_map, rds, args, noSlot, slotsOf, nodupB, bin_repl, ixT_int, ixL_int, putS, putAll, List.set_cons_zero, List.set_cons_succ, List.length_cons, List.length_nil, List.cons_append, List.nil_append, Option.bind_some, Option.map_some, Option.bind_none, Option.map_none, List.take_succ_cons, List.take_zero, List.take_nil, if_true, if_false, ite_true, ite_false, reduceIte, eq_self, List.any_cons, List.any_nil, List.all_cons, List.all_nil, List.contains_nil, List.contains_cons, List.elem_nil, List.elem_cons, beq_self_eq_true, List.map_cons, List.map_nil, Nat.reduceAdd, Nat.reduceLT, Nat.reduceLeDiff, List.isEmpty_nil, List.isEmpty_cons, wipeS, List.length_map, List.length_range, List.getElem?_cons_zero, List.getElem?_cons_succ, List.length_zipIdx, rgF_fin, List.length_finRange, List.length_take, List.length_drop, List.length_append, reduceCtorEq, List.getElem_cons_zero, List.getElem_cons_succ, List.cons_ne_nil, bin_strC, sort_p, fm_nite, List.length_mergeSort, sort_II, s_check_works, s_check_number, s_is_one_house]

theorem s_rest_seats {k : Nat} (hk : 10 ≤ k) (w : Wks) (h : sumL w.l = 1) (N : Int) (h1 : 0 ≤ N) (h2 : N ≤ 999) : (CN k).call 26 [.val (eW w), .val (.int N)] = .ok (tT .int (stS w.l N)) [.val (eW w), .val (.int N)] := by
  obtain ⟨k, rfl⟩ : ∃ j, k = j + 1 := ⟨k - 1, by omega⟩
  refine call_eq ?_
  rw [run_at (tx.T.getD 26 default) rfl rfl]
  show finF 2 [.val (eW w), .val (.int N)] (denSs (CN k) b_rest_seats [.val (eW w), .val (.int N)]) = _
  unfold b_rest_seats
  simp (implicitDefEqProofs := false) (disch := first | omega | assumption | (simp only [List.length_map, List.length_range, List.length_finRange, List.length_take, List.length_drop, List.length_replicate, List.length_append, List.length_cons, List.length_nil, List.length_reverse, List.length_set]; omega)) only [evB0, evB1, evB2, evB3, evB4, evB5, evB6, evB7, evB8, evB9, evB10, evB11, evB12, evB13, evB14, evB15, evB16, evB17, evB18, evB19, evB20, putMix, odE, e_comp, cV, cat_map, cat_some, fm_some, fm_ite, lst_map, rds, args, noSlot, slotsOf, nodupB, bin_repl, ixT_int, ixL_int, putS, putAll, List.set_cons_zero, List.set_cons_succ, List.length_cons, List.length_nil, List.cons_append, List.nil_append, Option.bind_some, Option.map_some, Option.bind_none, Option.map_none, List.take_succ_cons, List.take_zero, List.take_nil, if_true, if_false, ite_true, ite_false, reduceIte, eq_self, List.any_cons, List.any_nil, List.all_cons, List.all_nil, List.contains_nil, List.contains_cons, List.elem_nil, List.elem_cons, beq_self_eq_true, List.map_cons, List.map_nil, Nat.reduceAdd, Nat.reduceLT, Nat.reduceLeDiff, List.isEmpty_nil, List.isEmpty_cons, wipeS, List.length_map, List.length_range, List.getElem?_cons_zero, List.getElem?_cons_succ, List.length_zipIdx, rgF_fin, List.length_finRange, List.length_take, List.length_drop, List.length_append, reduceCtorEq, List.getElem_cons_zero, List.getElem_cons_succ, List.cons_ne_nil, bin_strC, sort_p, fm_nite, List.length_mergeSort, sort_II, s_check_house, s_rest_seats_by, g_6]

theorem s_losing_houses {k : Nat} (hk : 10 ≤ k) (w : Wks) (h : sumL w.l = 1) (m : Nat) (h1 : 1 ≤ m) (h2 : m ≤ 60) : (CN k).call 27 [.val (eW w), .val (.int (m : Int))] = .ok (tT .int (losL w.l m)) [.val (eW w), .val (.int (m : Int))] := by
  obtain ⟨k, rfl⟩ : ∃ j, k = j + 1 := ⟨k - 1, by omega⟩
  refine call_eq ?_
  rw [run_at (tx.T.getD 27 default) rfl rfl]
  show finF 2 [.val (eW w), .val (.int (m : Int))] (denSs (CN k) b_losing_houses [.val (eW w), .val (.int (m : Int))]) = _
  unfold b_losing_houses
  simp (implicitDefEqProofs := false) (disch := first | omega | assumption | (simp only [List.length_map, List.length_range, List.length_finRange, List.length_take, List.length_drop, List.length_replicate, List.length_append, List.length_cons, List.length_nil, List.length_reverse, List.length_set]; omega)) only [evB0, evB1, evB2, evB3, evB4, evB5, evB6, evB7, evB8, evB9, evB10, evB11, evB12, evB13, evB14, evB15, evB16, evB17, evB18, evB19, evB20, putMix, odE, e_comp, cV, cat_map, cat_some, fm_some, fm_ite, lst_map, rds, args, noSlot, slotsOf, nodupB, bin_repl, ixT_int, ixL_int, putS, putAll, List.set_cons_zero, List.set_cons_succ, List.length_cons, List.length_nil, List.cons_append, List.nil_append, Option.bind_some, Option.map_some, Option.bind_none, Option.map_none, List.take_succ_cons, List.take_zero, List.take_nil, if_true, if_false, ite_true, ite_false, reduceIte, eq_self, List.any_cons, List.any_nil, List.all_cons, List.all_nil, List.contains_nil, List.contains_cons, List.elem_nil, List.elem_cons, beq_self_eq_true, List.map_cons, List.map_nil, Nat.reduceAdd, Nat.reduceLT, Nat.reduceLeDiff, List.isEmpty_nil, List.isEmpty_cons, wipeS, List.length_map, List.length_range, List.getElem?_cons_zero, List.getElem?_cons_succ, List.length_zipIdx, rgF_fin, List.length_finRange, List.length_take, List.length_drop, List.length_append, reduceCtorEq, List.getElem_cons_zero, List.getElem_cons_succ, List.cons_ne_nil, bin_strC, sort_p, fm_nite, List.length_mergeSort, sort_II, s_check_house, s_losing_houses_by, g_7]

theorem s_quota_by {k : Nat} (hk : 3 ≤ k) (s : Shr) (N : Int) : (CN k).call 28 [.val (eS s), .val (.int N)] = .ok (.tup [.int (s.q * (N : Rat)).floor, .int (s.q * (N : Rat)).ceil]) [.val (eS s), .val (.int N)] := by
  obtain ⟨k, rfl⟩ : ∃ j, k = j + 1 := ⟨k - 1, by omega⟩
  refine call_eq ?_
  rw [run_at (tx.T.getD 28 default) rfl rfl]
  show finF 2 [.val (eS s), .val (.int N)] (denSs (CN k) b_quota_by [.val (eS s), .val (.int N), .none]) = _
  unfold b_quota_by
  have h1 := s.n1
  have h2 := s.nd
  have h3 := s.d12
  have h4 := mulT_den s N
  have h5 := int_den (i := N)
  have h7 : mulOk s.q.num (N : Rat).num = true := mulOk_l (by omega) (by omega)
  simp (implicitDefEqProofs := false) (disch := first | omega | assumption | (simp only [List.length_map, List.length_range, List.length_finRange, List.length_take, List.length_drop, List.length_replicate, List.length_append, List.length_cons, List.length_nil, List.length_reverse, List.length_set]; omega)) only [evB0, evB1, evB2, evB3, evB4, evB5, evB6, evB7, evB8, evB9, evB10, evB11, evB12, evB13, evB14, evB15, evB16, evB17, evB18, evB19, evB20, putMix, odE, e_comp, cV, cat_map, cat_some, fm_some, fm_ite, lst_map, rds, args, noSlot, slotsOf, nodupB, bin_repl, ixT_int, ixL_int, putS, putAll, List.set_cons_zero, List.set_cons_succ, List.length_cons, List.length_nil, List.cons_append, List.nil_append, Option.bind_some, Option.map_some, Option.bind_none, Option.map_none, List.take_succ_cons, List.take_zero, List.take_nil, if_true, if_false, ite_true, ite_false, reduceIte, eq_self, List.any_cons, List.any_nil, List.all_cons, List.all_nil, List.contains_nil, List.contains_cons, List.elem_nil, List.elem_cons, beq_self_eq_true, List.map_cons, List.map_nil, Nat.reduceAdd, Nat.reduceLT, Nat.reduceLeDiff, List.isEmpty_nil, List.isEmpty_cons, wipeS, List.length_map, List.length_range, List.getElem?_cons_zero, List.getElem?_cons_succ, List.length_zipIdx, rgF_fin, List.length_finRange, List.length_take, List.length_drop, List.length_append, reduceCtorEq, List.getElem_cons_zero, List.getElem_cons_succ, List.cons_ne_nil, bin_strC, sort_p, fm_nite, List.length_mergeSort, sort_II, s_times, s_whole, s_rounded_down, s_rounded_up]

theorem s_quota {k : Nat} (hk : 5 ≤ k) (s : Shr) (N : Int) (h1 : 0 ≤ N) (h2 : N ≤ 999) : (CN k).call 29 [.val (eS s), .val (.int N)] = .ok (.tup [.int (s.q * (N : Rat)).floor, .int (s.q * (N : Rat)).ceil]) [.val (eS s), .val (.int N)] := by
  obtain ⟨k, rfl⟩ : ∃ j, k = j + 1 := ⟨k - 1, by omega⟩
  refine call_eq ?_
  rw [run_at (tx.T.getD 29 default) rfl rfl]
  show finF 2 [.val (eS s), .val (.int N)] (denSs (CN k) b_quota [.val (eS s), .val (.int N)]) = _
  unfold b_quota
  simp (implicitDefEqProofs := false) (disch := first | omega | assumption | (simp only [List.length_map, List.length_range, List.length_finRange, List.length_take, List.length_drop, List.length_replicate, List.length_append, List.length_cons, List.length_nil, List.length_reverse, List.length_set]; omega)) only [evB0, evB1, evB2, evB3, evB4, evB5, evB6, evB7, evB8, evB9, evB10, evB11, evB12, evB13, evB14, evB15, evB16, evB17, evB18, evB19, evB20, putMix, odE, e_comp, cV, cat_map, cat_some, fm_some, fm_ite, lst_map, rds, args, noSlot, slotsOf, nodupB, bin_repl, ixT_int, ixL_int, putS, putAll, List.set_cons_zero, List.set_cons_succ, List.length_cons, List.length_nil, List.cons_append, List.nil_append, Option.bind_some, Option.map_some, Option.bind_none, Option.map_none, List.take_succ_cons, List.take_zero, List.take_nil, if_true, if_false, ite_true, ite_false, reduceIte, eq_self, List.any_cons, List.any_nil, List.all_cons, List.all_nil, List.contains_nil, List.contains_cons, List.elem_nil, List.elem_cons, beq_self_eq_true, List.map_cons, List.map_nil, Nat.reduceAdd, Nat.reduceLT, Nat.reduceLeDiff, List.isEmpty_nil, List.isEmpty_cons, wipeS, List.length_map, List.length_range, List.getElem?_cons_zero, List.getElem?_cons_succ, List.length_zipIdx, rgF_fin, List.length_finRange, List.length_take, List.length_drop, List.length_append, reduceCtorEq, List.getElem_cons_zero, List.getElem_cons_succ, List.cons_ne_nil, bin_strC, sort_p, fm_nite, List.length_mergeSort, sort_II, s_check_share, s_check_number, s_quota_by, g_8]

theorem s_law_pool {k : Nat} (hk : 1 ≤ k) (ns : List Int) (j : Nat) (hj : j < 1000000) : ∃ u : Int × Int × Int, (CN k).call 30 [.val (.scr ns), .val (.int (j : Int))] = .ok (eUrn u) [.val (.scr ns), .val (.int (j : Int))] := by
  obtain ⟨k, rfl⟩ : ∃ j, k = j + 1 := ⟨k - 1, by omega⟩
  have lp : ∀ (own stir : Int) (xs : List Int), ∃ (s : Int) (e : Slot), forD (CN k) (.name 2) b__law_pool_1 (xs.map .int) [.val (.scr ns), .val (.int (j : Int)), .none, .val (.int own), .val (.int stir)] = .ok .nx [.val (.scr ns), .val (.int (j : Int)), e, .val (.int own), .val (.int s)] := by
    intro own stir xs
    obtain ⟨ρ', e, s, z, hz, rfl⟩ := for_inv (C := CN k) (tg := .name 2) (body := b__law_pool_1) (f := D.int) (xs := xs) (σ := Unit)
      (fun _ ρ => ∃ (s : Int) (z : Slot), z.free = true ∧ ρ = [.val (.scr ns), .val (.int (j : Int)), z, .val (.int own), .val (.int s)]) (fun _ _ => ()) (s := ())
      (ρ := [.val (.scr ns), .val (.int (j : Int)), .none, .val (.int own), .val (.int stir)]) ⟨_, _, rfl, rfl⟩ (by
        rintro x hx _ _ ⟨s, z, hz, rfl⟩
        simp (implicitDefEqProofs := false) (disch := first | omega | assumption | (simp only [List.length_map, List.length_range, List.length_finRange, List.length_take, List.length_drop, List.length_replicate, List.length_append, List.length_cons, List.length_nil, List.length_reverse, List.length_set]; omega)) only [evB0, evB1, evB2, evB3, evB4, evB5, evB6, evB7, evB8, evB9, evB10, evB11, evB12, evB13, evB14, evB15, evB16, evB17, evB18, evB19, evB20, putMix, odE, e_comp, cV, cat_map, cat_some, fm_some, fm_ite, lst_map, rds, args, noSlot, slotsOf, nodupB, bin_repl, ixT_int, ixL_int, putS, putAll, List.set_cons_zero, List.set_cons_succ, List.length_cons, List.length_nil, List.cons_append, List.nil_append, Option.bind_some, Option.map_some, Option.bind_none, Option.map_none, List.take_succ_cons, List.take_zero, List.take_nil, if_true, if_false, ite_true, ite_false, reduceIte, eq_self, List.any_cons, List.any_nil, List.all_cons, List.all_nil, List.contains_nil, List.contains_cons, List.elem_nil, List.elem_cons, beq_self_eq_true, List.map_cons, List.map_nil, Nat.reduceAdd, Nat.reduceLT, Nat.reduceLeDiff, List.isEmpty_nil, List.isEmpty_cons, wipeS, List.length_map, List.length_range, List.getElem?_cons_zero, List.getElem?_cons_succ, List.length_zipIdx, rgF_fin, List.length_finRange, List.length_take, List.length_drop, List.length_append, reduceCtorEq, List.getElem_cons_zero, List.getElem_cons_succ, List.cons_ne_nil, bin_strC, sort_p, fm_nite, List.length_mergeSort, sort_II, hz, b__law_pool_1]
        exact ⟨_, _, rfl, rfl⟩)
    exact ⟨s, z, e⟩
  have fin : ∀ own s : Int, ∃ u : Int × Int × Int, D.lst [.int ((s + own * 1013) % 2147483563), (if own < 0 then D.int (if own < 0 then -own else own) else if 1000000000000000000 ≤ own then D.int (if own < 0 then -own else own) else D.int 0), .int 0] = eUrn u := fun own s => by
    by_cases c1 : own < 0
    · exact ⟨(_, _, _), by simp only [c1, if_true]; rfl⟩
    · by_cases c2 : 1000000000000000000 ≤ own
      · exact ⟨(_, _, _), by simp only [c1, c2, if_true, if_false]; rfl⟩
      · exact ⟨(_, _, _), by simp only [c1, c2, if_false]; rfl⟩
  by_cases h : j < ns.length
  · obtain ⟨s, e, l⟩ := lp ns[j] (971297 + 5087 * (j : Int)) (ns.take 63)
    obtain ⟨u, hu⟩ := fin ns[j] s
    refine ⟨u, ?_⟩
    rw [← hu]
    by_cases c1 : ns[j] < 0
    · refine call_eq ?_
      rw [run_at (tx.T.getD 30 default) rfl rfl]
      show finF 2 [.val (.scr ns), .val (.int (j : Int))] (denSs (CN k) b__law_pool [.val (.scr ns), .val (.int (j : Int)), .none, .none, .none]) = _
      unfold b__law_pool
      simp (implicitDefEqProofs := false) (disch := first | omega | assumption | (simp only [List.length_map, List.length_range, List.length_finRange, List.length_take, List.length_drop, List.length_replicate, List.length_append, List.length_cons, List.length_nil, List.length_reverse, List.length_set]; omega)) only [evB0, evB1, evB2, evB3, evB4, evB5, evB6, evB7, evB8, evB9, evB10, evB11, evB12, evB13, evB14, evB15, evB16, evB17, evB18, evB19, evB20, putMix, odE, e_comp, cV, cat_map, cat_some, fm_some, fm_ite, lst_map, rds, args, noSlot, slotsOf, nodupB, bin_repl, ixT_int, ixL_int, putS, putAll, List.set_cons_zero, List.set_cons_succ, List.length_cons, List.length_nil, List.cons_append, List.nil_append, Option.bind_some, Option.map_some, Option.bind_none, Option.map_none, List.take_succ_cons, List.take_zero, List.take_nil, if_true, if_false, ite_true, ite_false, reduceIte, eq_self, List.any_cons, List.any_nil, List.all_cons, List.all_nil, List.contains_nil, List.contains_cons, List.elem_nil, List.elem_cons, beq_self_eq_true, List.map_cons, List.map_nil, Nat.reduceAdd, Nat.reduceLT, Nat.reduceLeDiff, List.isEmpty_nil, List.isEmpty_cons, wipeS, List.length_map, List.length_range, List.getElem?_cons_zero, List.getElem?_cons_succ, List.length_zipIdx, rgF_fin, List.length_finRange, List.length_take, List.length_drop, List.length_append, reduceCtorEq, List.getElem_cons_zero, List.getElem_cons_succ, List.cons_ne_nil, bin_strC, sort_p, fm_nite, List.length_mergeSort, sort_II, l, c1]
    · by_cases c2 : 1000000000000000000 ≤ ns[j]
      · refine call_eq ?_
        rw [run_at (tx.T.getD 30 default) rfl rfl]
        show finF 2 [.val (.scr ns), .val (.int (j : Int))] (denSs (CN k) b__law_pool [.val (.scr ns), .val (.int (j : Int)), .none, .none, .none]) = _
        unfold b__law_pool
        simp (implicitDefEqProofs := false) (disch := first | omega | assumption | (simp only [List.length_map, List.length_range, List.length_finRange, List.length_take, List.length_drop, List.length_replicate, List.length_append, List.length_cons, List.length_nil, List.length_reverse, List.length_set]; omega)) only [evB0, evB1, evB2, evB3, evB4, evB5, evB6, evB7, evB8, evB9, evB10, evB11, evB12, evB13, evB14, evB15, evB16, evB17, evB18, evB19, evB20, putMix, odE, e_comp, cV, cat_map, cat_some, fm_some, fm_ite, lst_map, rds, args, noSlot, slotsOf, nodupB, bin_repl, ixT_int, ixL_int, putS, putAll, List.set_cons_zero, List.set_cons_succ, List.length_cons, List.length_nil, List.cons_append, List.nil_append, Option.bind_some, Option.map_some, Option.bind_none, Option.map_none, List.take_succ_cons, List.take_zero, List.take_nil, if_true, if_false, ite_true, ite_false, reduceIte, eq_self, List.any_cons, List.any_nil, List.all_cons, List.all_nil, List.contains_nil, List.contains_cons, List.elem_nil, List.elem_cons, beq_self_eq_true, List.map_cons, List.map_nil, Nat.reduceAdd, Nat.reduceLT, Nat.reduceLeDiff, List.isEmpty_nil, List.isEmpty_cons, wipeS, List.length_map, List.length_range, List.getElem?_cons_zero, List.getElem?_cons_succ, List.length_zipIdx, rgF_fin, List.length_finRange, List.length_take, List.length_drop, List.length_append, reduceCtorEq, List.getElem_cons_zero, List.getElem_cons_succ, List.cons_ne_nil, bin_strC, sort_p, fm_nite, List.length_mergeSort, sort_II, l, c1, c2]
      · refine call_eq ?_
        rw [run_at (tx.T.getD 30 default) rfl rfl]
        show finF 2 [.val (.scr ns), .val (.int (j : Int))] (denSs (CN k) b__law_pool [.val (.scr ns), .val (.int (j : Int)), .none, .none, .none]) = _
        unfold b__law_pool
        simp (implicitDefEqProofs := false) (disch := first | omega | assumption | (simp only [List.length_map, List.length_range, List.length_finRange, List.length_take, List.length_drop, List.length_replicate, List.length_append, List.length_cons, List.length_nil, List.length_reverse, List.length_set]; omega)) only [evB0, evB1, evB2, evB3, evB4, evB5, evB6, evB7, evB8, evB9, evB10, evB11, evB12, evB13, evB14, evB15, evB16, evB17, evB18, evB19, evB20, putMix, odE, e_comp, cV, cat_map, cat_some, fm_some, fm_ite, lst_map, rds, args, noSlot, slotsOf, nodupB, bin_repl, ixT_int, ixL_int, putS, putAll, List.set_cons_zero, List.set_cons_succ, List.length_cons, List.length_nil, List.cons_append, List.nil_append, Option.bind_some, Option.map_some, Option.bind_none, Option.map_none, List.take_succ_cons, List.take_zero, List.take_nil, if_true, if_false, ite_true, ite_false, reduceIte, eq_self, List.any_cons, List.any_nil, List.all_cons, List.all_nil, List.contains_nil, List.contains_cons, List.elem_nil, List.elem_cons, beq_self_eq_true, List.map_cons, List.map_nil, Nat.reduceAdd, Nat.reduceLT, Nat.reduceLeDiff, List.isEmpty_nil, List.isEmpty_cons, wipeS, List.length_map, List.length_range, List.getElem?_cons_zero, List.getElem?_cons_succ, List.length_zipIdx, rgF_fin, List.length_finRange, List.length_take, List.length_drop, List.length_append, reduceCtorEq, List.getElem_cons_zero, List.getElem_cons_succ, List.cons_ne_nil, bin_strC, sort_p, fm_nite, List.length_mergeSort, sort_II, l, c1, c2]
  · obtain ⟨s, e, l⟩ := lp (70001 * (j : Int) + 3226) (971297 + 5087 * (j : Int)) (ns.take 63)
    obtain ⟨u, hu⟩ := fin (70001 * (j : Int) + 3226) s
    refine ⟨u, ?_⟩
    rw [← hu]
    have c1 : ¬ (70001 * (j : Int) + 3226 < 0) := by omega
    have c2 : ¬ (1000000000000000000 ≤ 70001 * (j : Int) + 3226) := by omega
    refine call_eq ?_
    rw [run_at (tx.T.getD 30 default) rfl rfl]
    show finF 2 [.val (.scr ns), .val (.int (j : Int))] (denSs (CN k) b__law_pool [.val (.scr ns), .val (.int (j : Int)), .none, .none, .none]) = _
    unfold b__law_pool
    simp (implicitDefEqProofs := false) (disch := first | omega | assumption | (simp only [List.length_map, List.length_range, List.length_finRange, List.length_take, List.length_drop, List.length_replicate, List.length_append, List.length_cons, List.length_nil, List.length_reverse, List.length_set]; omega)) only [evB0, evB1, evB2, evB3, evB4, evB5, evB6, evB7, evB8, evB9, evB10, evB11, evB12, evB13, evB14, evB15, evB16, evB17, evB18, evB19, evB20, putMix, odE, e_comp, cV, cat_map, cat_some, fm_some, fm_ite, lst_map, rds, args, noSlot, slotsOf, nodupB, bin_repl, ixT_int, ixL_int, putS, putAll, List.set_cons_zero, List.set_cons_succ, List.length_cons, List.length_nil, List.cons_append, List.nil_append, Option.bind_some, Option.map_some, Option.bind_none, Option.map_none, List.take_succ_cons, List.take_zero, List.take_nil, if_true, if_false, ite_true, ite_false, reduceIte, eq_self, List.any_cons, List.any_nil, List.all_cons, List.all_nil, List.contains_nil, List.contains_cons, List.elem_nil, List.elem_cons, beq_self_eq_true, List.map_cons, List.map_nil, Nat.reduceAdd, Nat.reduceLT, Nat.reduceLeDiff, List.isEmpty_nil, List.isEmpty_cons, wipeS, List.length_map, List.length_range, List.getElem?_cons_zero, List.getElem?_cons_succ, List.length_zipIdx, rgF_fin, List.length_finRange, List.length_take, List.length_drop, List.length_append, reduceCtorEq, List.getElem_cons_zero, List.getElem_cons_succ, List.cons_ne_nil, bin_strC, sort_p, fm_nite, List.length_mergeSort, sort_II, l, c1, c2]

def drN (u : Int × Int × Int) : Int := (u.1 * (u.1 % 20011 + 30011) + 70001 * (u.2.2 + 1) + 9) % 2147483563
def drR (u : Int × Int × Int) (m : Int) : Int := if 0 < u.2.1 then u.2.1 % m else drN u / 128 % m
def drU (u : Int × Int × Int) (m : Int) : Int × Int × Int := if 0 < u.2.1 then (u.1, u.2.1 / m, u.2.2) else (drN u, u.2.1, u.2.2 + 1)
theorem drR_lt {m : Int} (u : Int × Int × Int) (h : 1 ≤ m) : 0 ≤ drR u m ∧ drR u m < m := by
  unfold drR
  split <;> exact ⟨Int.emod_nonneg _ (by omega), Int.emod_lt_of_pos _ (by omega)⟩
theorem s_law_draw {k : Nat} (hk : 1 ≤ k) (u : Int × Int × Int) (m : Int) (h1 : 1 ≤ m) (h2 : m ≤ 1000000) : (CN k).call 31 [.ref (eUrn u), .val (.int m)] = .ok (.int (drR u m)) [.ref (eUrn (drU u m)), .val (.int m)] := by
  obtain ⟨k, rfl⟩ : ∃ j, k = j + 1 := ⟨k - 1, by omega⟩
  refine call_eq ?_
  rw [run_at (tx.T.getD 31 default) rfl rfl]
  show finF 2 [.ref (eUrn u), .val (.int m)] (denSs (CN k) b__law_draw [.ref (eUrn u), .val (.int m), .none, .none]) = _
  unfold b__law_draw
  unfold drR drU
  by_cases h : 0 < u.2.1
  · simp (implicitDefEqProofs := false) (disch := first | omega | assumption | (simp only [List.length_map, List.length_range, List.length_finRange, List.length_take, List.length_drop, List.length_replicate, List.length_append, List.length_cons, List.length_nil, List.length_reverse, List.length_set]; omega)) only [evB0, evB1, evB2, evB3, evB4, evB5, evB6, evB7, evB8, evB9, evB10, evB11, evB12, evB13, evB14, evB15, evB16, evB17, evB18, evB19, evB20, putMix, odE, e_comp, cV, cat_map, cat_some, fm_some, fm_ite, lst_map, rds, args, noSlot, slotsOf, nodupB, bin_repl, ixT_int, ixL_int, putS, putAll, List.set_cons_zero, List.set_cons_succ, List.length_cons, List.length_nil, List.cons_append, List.nil_append, Option.bind_some, Option.map_some, Option.bind_none, Option.map_none, List.take_succ_cons, List.take_zero, List.take_nil, if_true, if_false, ite_true, ite_false, reduceIte, eq_self, List.any_cons, List.any_nil, List.all_cons, List.all_nil, List.contains_nil, List.contains_cons, List.elem_nil, List.elem_cons, beq_self_eq_true, List.map_cons, List.map_nil, Nat.reduceAdd, Nat.reduceLT, Nat.reduceLeDiff, List.isEmpty_nil, List.isEmpty_cons, wipeS, List.length_map, List.length_range, List.getElem?_cons_zero, List.getElem?_cons_succ, List.length_zipIdx, rgF_fin, List.length_finRange, List.length_take, List.length_drop, List.length_append, reduceCtorEq, List.getElem_cons_zero, List.getElem_cons_succ, List.cons_ne_nil, bin_strC, sort_p, fm_nite, List.length_mergeSort, sort_II]
  · unfold drN
    simp (implicitDefEqProofs := false) (disch := first | omega | assumption | (simp only [List.length_map, List.length_range, List.length_finRange, List.length_take, List.length_drop, List.length_replicate, List.length_append, List.length_cons, List.length_nil, List.length_reverse, List.length_set]; omega)) only [evB0, evB1, evB2, evB3, evB4, evB5, evB6, evB7, evB8, evB9, evB10, evB11, evB12, evB13, evB14, evB15, evB16, evB17, evB18, evB19, evB20, putMix, odE, e_comp, cV, cat_map, cat_some, fm_some, fm_ite, lst_map, rds, args, noSlot, slotsOf, nodupB, bin_repl, ixT_int, ixL_int, putS, putAll, List.set_cons_zero, List.set_cons_succ, List.length_cons, List.length_nil, List.cons_append, List.nil_append, Option.bind_some, Option.map_some, Option.bind_none, Option.map_none, List.take_succ_cons, List.take_zero, List.take_nil, if_true, if_false, ite_true, ite_false, reduceIte, eq_self, List.any_cons, List.any_nil, List.all_cons, List.all_nil, List.contains_nil, List.contains_cons, List.elem_nil, List.elem_cons, beq_self_eq_true, List.map_cons, List.map_nil, Nat.reduceAdd, Nat.reduceLT, Nat.reduceLeDiff, List.isEmpty_nil, List.isEmpty_cons, wipeS, List.length_map, List.length_range, List.getElem?_cons_zero, List.getElem?_cons_succ, List.length_zipIdx, rgF_fin, List.length_finRange, List.length_take, List.length_drop, List.length_append, reduceCtorEq, List.getElem_cons_zero, List.getElem_cons_succ, List.cons_ne_nil, bin_strC, sort_p, fm_nite, List.length_mergeSort, sort_II]

end TkLaw

set_option Elab.async false
set_option linter.all false
set_option maxRecDepth 100000
set_option maxHeartbeats 0
namespace TkLaw
open PySem Tk
theorem s_law_pick {k : Nat} (hk : 2 ≤ k) (u : Int × Int × Int) (ds : List D) (h1 : 1 ≤ ds.length) (h2 : ds.length ≤ 1000) : (CN k).call 32 [.ref (eUrn u), .val (.lst ds)] = .ok (ds.getD (drR u ds.length).toNat .non) [.ref (eUrn (drU u ds.length)), .val (.lst ds)] := by
  obtain ⟨k, rfl⟩ : ∃ j, k = j + 1 := ⟨k - 1, by omega⟩
  refine call_eq ?_
  rw [run_at (tx.T.getD 32 default) rfl rfl]
  show finF 2 [.ref (eUrn u), .val (.lst ds)] (denSs (CN k) b__law_pick [.ref (eUrn u), .val (.lst ds)]) = _
  unfold b__law_pick
  have n := drR_lt u (m := (ds.length : Int)) (by omega)
  have e : ds[(drR u ds.length).toNat]'(by omega) = ds.getD (drR u ds.length).toNat .non := by
    rw [List.getD_eq_getElem?_getD, List.getElem?_eq_getElem (by omega)]; rfl
  simp (implicitDefEqProofs := false) (disch := first | omega | assumption | (simp only [List.length_map, List.length_range, List.length_finRange, List.length_take, List.length_drop, List.length_replicate, List.length_append, List.length_cons, List.length_nil, List.length_reverse, List.length_set]; omega)) only [evB0, evB1, evB2, evB3, evB4, evB5, evB6, evB7, evB8, evB9, evB10, evB11, evB12, evB13, evB14, evB15, evB16, evB17, evB18, evB19, evB20, putMix, odE, e_comp, cV, cat_map, cat_some, fm_some, fm_ite, lst_map, rds, args, noSlot, slotsOf, nodupB, bin_repl, ixT_int, ixL_int, putS, putAll, List.set_cons_zero, List.set_cons_succ, List.length_cons, List.length_nil, List.cons_append, List.nil_append, Option.bind_some, Option.map_some, Option.bind_none, Option.map_none, List.take_succ_cons, List.take_zero, List.take_nil, if_true, if_false, ite_true, ite_false, reduceIte, eq_self, List.any_cons, List.any_nil, List.all_cons, List.all_nil, List.contains_nil, List.contains_cons, List.elem_nil, List.elem_cons, beq_self_eq_true, List.map_cons, List.map_nil, Nat.reduceAdd, Nat.reduceLT, Nat.reduceLeDiff, List.isEmpty_nil, List.isEmpty_cons, wipeS, List.length_map, List.length_range, List.getElem?_cons_zero, List.getElem?_cons_succ, List.length_zipIdx, rgF_fin, List.length_finRange, List.length_take, List.length_drop, List.length_append, reduceCtorEq, List.getElem_cons_zero, List.getElem_cons_succ, List.cons_ne_nil, bin_strC, sort_p, fm_nite, List.length_mergeSort, sort_II, s_law_draw]
  rw [← e]

theorem s_law_f {k : Nat} (hk : 1 ≤ k) (n u : Int) (h : 0 < u) (h2 : u < 18446744073709551616) : (CN k).call 33 [.val (.int n), .val (.int u)] = .ok (eQ (mkRat n u.toNat)) [.val (.int n), .val (.int u)] := by
  obtain ⟨k, rfl⟩ : ∃ j, k = j + 1 := ⟨k - 1, by omega⟩
  refine call_eq ?_
  rw [run_at (tx.T.getD 33 default) rfl rfl]
  show finF 2 _ (denSs (CN k) b__law_f [.val (.int n), .val (.int u), .none, .none]) = _
  have g1 : (0 : Int) < ((Nat.gcd n.natAbs u.natAbs : Nat) : Int) := gcdPos h
  have g2 : ((Nat.gcd n.natAbs u.natAbs : Nat) : Int) ≤ u := gcdLe h
  have e := fr_eq n u h
  have e1 : (if n < 0 then -n else n) = (n.natAbs : Int) := by split <;> omega
  have w := wh_gcd (C := CN k) (c := .cmp .gt (.var 3) (.con (.int 0))) (body := b__law_f_1) (fun a b => [.val (.int n), .val (.int u), .val (.int a), .val (.int b)]) (fun a b ha hb => by simp (implicitDefEqProofs := false) (disch := first | omega | assumption | (simp only [List.length_map, List.length_range, List.length_finRange, List.length_take, List.length_drop, List.length_replicate, List.length_append, List.length_cons, List.length_nil, List.length_reverse, List.length_set]; omega)) only [evB0, evB1, evB2, evB3, evB4, evB5, evB6, evB7, evB8, evB9, evB10, evB11, evB12, evB13, evB14, evB15, evB16, evB17, evB18, evB19, evB20, putMix, odE, e_comp, cV, cat_map, cat_some, fm_some, fm_ite, lst_map, rds, args, noSlot, slotsOf, nodupB, bin_repl, ixT_int, ixL_int, putS, putAll, List.set_cons_zero, List.set_cons_succ, List.length_cons, List.length_nil, List.cons_append, List.nil_append, Option.bind_some, Option.map_some, Option.bind_none, Option.map_none, List.take_succ_cons, List.take_zero, List.take_nil, if_true, if_false, ite_true, ite_false, reduceIte, eq_self, List.any_cons, List.any_nil, List.all_cons, List.all_nil, List.contains_nil, List.contains_cons, List.elem_nil, List.elem_cons, beq_self_eq_true, List.map_cons, List.map_nil, Nat.reduceAdd, Nat.reduceLT, Nat.reduceLeDiff, List.isEmpty_nil, List.isEmpty_cons, wipeS, List.length_map, List.length_range, List.getElem?_cons_zero, List.getElem?_cons_succ, List.length_zipIdx, rgF_fin, List.length_finRange, List.length_take, List.length_drop, List.length_append, reduceCtorEq, List.getElem_cons_zero, List.getElem_cons_succ, List.cons_ne_nil, bin_strC, sort_p, fm_nite, List.length_mergeSort, sort_II]) (fun a b ha hb => by unfold b__law_f_1; simp (implicitDefEqProofs := false) (disch := first | omega | assumption | (simp only [List.length_map, List.length_range, List.length_finRange, List.length_take, List.length_drop, List.length_replicate, List.length_append, List.length_cons, List.length_nil, List.length_reverse, List.length_set]; omega)) only [evB0, evB1, evB2, evB3, evB4, evB5, evB6, evB7, evB8, evB9, evB10, evB11, evB12, evB13, evB14, evB15, evB16, evB17, evB18, evB19, evB20, putMix, odE, e_comp, cV, cat_map, cat_some, fm_some, fm_ite, lst_map, rds, args, noSlot, slotsOf, nodupB, bin_repl, ixT_int, ixL_int, putS, putAll, List.set_cons_zero, List.set_cons_succ, List.length_cons, List.length_nil, List.cons_append, List.nil_append, Option.bind_some, Option.map_some, Option.bind_none, Option.map_none, List.take_succ_cons, List.take_zero, List.take_nil, if_true, if_false, ite_true, ite_false, reduceIte, eq_self, List.any_cons, List.any_nil, List.all_cons, List.all_nil, List.contains_nil, List.contains_cons, List.elem_nil, List.elem_cons, beq_self_eq_true, List.map_cons, List.map_nil, Nat.reduceAdd, Nat.reduceLT, Nat.reduceLeDiff, List.isEmpty_nil, List.isEmpty_cons, wipeS, List.length_map, List.length_range, List.getElem?_cons_zero, List.getElem?_cons_succ, List.length_zipIdx, rgF_fin, List.length_finRange, List.length_take, List.length_drop, List.length_append, reduceCtorEq, List.getElem_cons_zero, List.getElem_cons_succ, List.cons_ne_nil, bin_strC, sort_p, fm_nite, List.length_mergeSort, sort_II]) 64 100000 (n.natAbs : Int) u (by omega) (by omega) h2 (by omega)
  rw [Int.natAbs_natCast] at w
  unfold b__law_f
  simp (implicitDefEqProofs := false) (disch := first | omega | assumption | (simp only [List.length_map, List.length_range, List.length_finRange, List.length_take, List.length_drop, List.length_replicate, List.length_append, List.length_cons, List.length_nil, List.length_reverse, List.length_set]; omega)) only [evB0, evB1, evB2, evB3, evB4, evB5, evB6, evB7, evB8, evB9, evB10, evB11, evB12, evB13, evB14, evB15, evB16, evB17, evB18, evB19, evB20, putMix, odE, e_comp, cV, cat_map, cat_some, fm_some, fm_ite, lst_map, rds, args, noSlot, slotsOf, nodupB, bin_repl, ixT_int, ixL_int, putS, putAll, List.set_cons_zero, List.set_cons_succ, List.length_cons, List.length_nil, List.cons_append, List.nil_append, Option.bind_some, Option.map_some, Option.bind_none, Option.map_none, List.take_succ_cons, List.take_zero, List.take_nil, if_true, if_false, ite_true, ite_false, reduceIte, eq_self, List.any_cons, List.any_nil, List.all_cons, List.all_nil, List.contains_nil, List.contains_cons, List.elem_nil, List.elem_cons, beq_self_eq_true, List.map_cons, List.map_nil, Nat.reduceAdd, Nat.reduceLT, Nat.reduceLeDiff, List.isEmpty_nil, List.isEmpty_cons, wipeS, List.length_map, List.length_range, List.getElem?_cons_zero, List.getElem?_cons_succ, List.length_zipIdx, rgF_fin, List.length_finRange, List.length_take, List.length_drop, List.length_append, reduceCtorEq, List.getElem_cons_zero, List.getElem_cons_succ, List.cons_ne_nil, bin_strC, sort_p, fm_nite, List.length_mergeSort, sort_II, w, e1]
  rw [← e]

theorem s_law_period {k : Nat} (hk : 1 ≤ k) (l : List Shr) : (CN k).call 34 [.val (tT eS l)] = .ok (.int ((perL l : Nat) : Int)) [.val (tT eS l)] := by
  obtain ⟨k, rfl⟩ : ∃ j, k = j + 1 := ⟨k - 1, by omega⟩
  refine call_eq ?_
  rw [run_at (tx.T.getD 34 default) rfl rfl]
  show finF 1 [.val (tT eS l)] (denSs (CN k) b__law_period [.val (tT eS l), .none, .none, .none, .none, .none]) = _
  unfold b__law_period
  have lp : ∃ s t a b, forD (CN k) (.tup [2, 3]) b__law_period_2 (l.map eS) [.val (tT eS l), .val (.int 1), .none, .none, .none, .none] = .ok .nx [.val (tT eS l), .val (.int ((perL l : Nat) : Int)), s, t, a, b] := by
    obtain ⟨ρ', e, s, t, a, b, hs, ht, ha, hb, rfl⟩ := for_inv (C := CN k) (tg := .tup [2, 3]) (body := b__law_period_2) (f := eS) (xs := l) (σ := Nat)
      (fun p ρ => ∃ s t a b : Slot, s.free = true ∧ t.free = true ∧ a.free = true ∧ b.free = true ∧ ρ = [.val (tT eS l), .val (.int ((p : Nat) : Int)), s, t, a, b]) (fun a x => Nat.lcm a x.q.den) (s := 1) (ρ := [.val (tT eS l), .val (.int 1), .none, .none, .none, .none]) ⟨.none, .none, .none, .none, rfl, rfl, rfl, rfl, rfl⟩ (by
        rintro x hx p _ ⟨s, t, a, b, hs, ht, ha, hb, rfl⟩
        have h3 := x.d12
        have h4 := x.d1
        have g1 := gcdPos (n := (p : Int)) (u := (x.q.den : Int)) (by omega)
        have g2 := gcdLe (n := (p : Int)) (u := (x.q.den : Int)) (by omega)
        have w := wh_gcd (C := CN k) (c := .cmp .gt (.var 5) (.con (.int 0))) (body := b__law_period_1) (fun a b => [.val (tT eS l), .val (.int (p : Int)), .val (.int x.q.num), .val (.int (x.q.den : Int)), .val (.int a), .val (.int b)]) (fun a b ha hb => by simp (implicitDefEqProofs := false) (disch := first | omega | assumption | (simp only [List.length_map, List.length_range, List.length_finRange, List.length_take, List.length_drop, List.length_replicate, List.length_append, List.length_cons, List.length_nil, List.length_reverse, List.length_set]; omega)) only [evB0, evB1, evB2, evB3, evB4, evB5, evB6, evB7, evB8, evB9, evB10, evB11, evB12, evB13, evB14, evB15, evB16, evB17, evB18, evB19, evB20, putMix, odE, e_comp, cV, cat_map, cat_some, fm_some, fm_ite, lst_map, rds, args, noSlot, slotsOf, nodupB, bin_repl, ixT_int, ixL_int, putS, putAll, List.set_cons_zero, List.set_cons_succ, List.length_cons, List.length_nil, List.cons_append, List.nil_append, Option.bind_some, Option.map_some, Option.bind_none, Option.map_none, List.take_succ_cons, List.take_zero, List.take_nil, if_true, if_false, ite_true, ite_false, reduceIte, eq_self, List.any_cons, List.any_nil, List.all_cons, List.all_nil, List.contains_nil, List.contains_cons, List.elem_nil, List.elem_cons, beq_self_eq_true, List.map_cons, List.map_nil, Nat.reduceAdd, Nat.reduceLT, Nat.reduceLeDiff, List.isEmpty_nil, List.isEmpty_cons, wipeS, List.length_map, List.length_range, List.getElem?_cons_zero, List.getElem?_cons_succ, List.length_zipIdx, rgF_fin, List.length_finRange, List.length_take, List.length_drop, List.length_append, reduceCtorEq, List.getElem_cons_zero, List.getElem_cons_succ, List.cons_ne_nil, bin_strC, sort_p, fm_nite, List.length_mergeSort, sort_II]) (fun a b ha hb => by unfold b__law_period_1; simp (implicitDefEqProofs := false) (disch := first | omega | assumption | (simp only [List.length_map, List.length_range, List.length_finRange, List.length_take, List.length_drop, List.length_replicate, List.length_append, List.length_cons, List.length_nil, List.length_reverse, List.length_set]; omega)) only [evB0, evB1, evB2, evB3, evB4, evB5, evB6, evB7, evB8, evB9, evB10, evB11, evB12, evB13, evB14, evB15, evB16, evB17, evB18, evB19, evB20, putMix, odE, e_comp, cV, cat_map, cat_some, fm_some, fm_ite, lst_map, rds, args, noSlot, slotsOf, nodupB, bin_repl, ixT_int, ixL_int, putS, putAll, List.set_cons_zero, List.set_cons_succ, List.length_cons, List.length_nil, List.cons_append, List.nil_append, Option.bind_some, Option.map_some, Option.bind_none, Option.map_none, List.take_succ_cons, List.take_zero, List.take_nil, if_true, if_false, ite_true, ite_false, reduceIte, eq_self, List.any_cons, List.any_nil, List.all_cons, List.all_nil, List.contains_nil, List.contains_cons, List.elem_nil, List.elem_cons, beq_self_eq_true, List.map_cons, List.map_nil, Nat.reduceAdd, Nat.reduceLT, Nat.reduceLeDiff, List.isEmpty_nil, List.isEmpty_cons, wipeS, List.length_map, List.length_range, List.getElem?_cons_zero, List.getElem?_cons_succ, List.length_zipIdx, rgF_fin, List.length_finRange, List.length_take, List.length_drop, List.length_append, reduceCtorEq, List.getElem_cons_zero, List.getElem_cons_succ, List.cons_ne_nil, bin_strC, sort_p, fm_nite, List.length_mergeSort, sort_II]) 64 100000 (p : Int) (x.q.den : Int) (by omega) (by omega) (by omega) (by omega)
        simp (implicitDefEqProofs := false) (disch := first | omega | assumption | (simp only [List.length_map, List.length_range, List.length_finRange, List.length_take, List.length_drop, List.length_replicate, List.length_append, List.length_cons, List.length_nil, List.length_reverse, List.length_set]; omega)) only [evB0, evB1, evB2, evB3, evB4, evB5, evB6, evB7, evB8, evB9, evB10, evB11, evB12, evB13, evB14, evB15, evB16, evB17, evB18, evB19, evB20, putMix, odE, e_comp, cV, cat_map, cat_some, fm_some, fm_ite, lst_map, rds, args, noSlot, slotsOf, nodupB, bin_repl, ixT_int, ixL_int, putS, putAll, List.set_cons_zero, List.set_cons_succ, List.length_cons, List.length_nil, List.cons_append, List.nil_append, Option.bind_some, Option.map_some, Option.bind_none, Option.map_none, List.take_succ_cons, List.take_zero, List.take_nil, if_true, if_false, ite_true, ite_false, reduceIte, eq_self, List.any_cons, List.any_nil, List.all_cons, List.all_nil, List.contains_nil, List.contains_cons, List.elem_nil, List.elem_cons, beq_self_eq_true, List.map_cons, List.map_nil, Nat.reduceAdd, Nat.reduceLT, Nat.reduceLeDiff, List.isEmpty_nil, List.isEmpty_cons, wipeS, List.length_map, List.length_range, List.getElem?_cons_zero, List.getElem?_cons_succ, List.length_zipIdx, rgF_fin, List.length_finRange, List.length_take, List.length_drop, List.length_append, reduceCtorEq, List.getElem_cons_zero, List.getElem_cons_succ, List.cons_ne_nil, bin_strC, sort_p, fm_nite, List.length_mergeSort, sort_II, hs, ht, ha, hb, b__law_period_2, w, lcm_int]
        exact ⟨_, _, _, _, rfl, rfl, rfl, rfl, rfl⟩)
    exact ⟨s, t, a, b, e⟩
  obtain ⟨s, t, a, b, lp⟩ := lp
  simp (implicitDefEqProofs := false) (disch := first | omega | assumption | (simp only [List.length_map, List.length_range, List.length_finRange, List.length_take, List.length_drop, List.length_replicate, List.length_append, List.length_cons, List.length_nil, List.length_reverse, List.length_set]; omega)) only [evB0, evB1, evB2, evB3, evB4, evB5, evB6, evB7, evB8, evB9, evB10, evB11, evB12, evB13, evB14, evB15, evB16, evB17, evB18, evB19, evB20, putMix, odE, e_comp, cV, cat_map, cat_some, fm_some, fm_ite, lst_map, rds, args, noSlot, slotsOf, nodupB, bin_repl, ixT_int, ixL_int, putS, putAll, List.set_cons_zero, List.set_cons_succ, List.length_cons, List.length_nil, List.cons_append, List.nil_append, Option.bind_some, Option.map_some, Option.bind_none, Option.map_none, List.take_succ_cons, List.take_zero, List.take_nil, if_true, if_false, ite_true, ite_false, reduceIte, eq_self, List.any_cons, List.any_nil, List.all_cons, List.all_nil, List.contains_nil, List.contains_cons, List.elem_nil, List.elem_cons, beq_self_eq_true, List.map_cons, List.map_nil, Nat.reduceAdd, Nat.reduceLT, Nat.reduceLeDiff, List.isEmpty_nil, List.isEmpty_cons, wipeS, List.length_map, List.length_range, List.getElem?_cons_zero, List.getElem?_cons_succ, List.length_zipIdx, rgF_fin, List.length_finRange, List.length_take, List.length_drop, List.length_append, reduceCtorEq, List.getElem_cons_zero, List.getElem_cons_succ, List.cons_ne_nil, bin_strC, sort_p, fm_nite, List.length_mergeSort, sort_II, lp]

def unL (l : List Shr) : List Int := l.map fun s => unI s.q (perL l)
theorem s_law_units {k : Nat} (hk : 2 ≤ k) (l : List Shr) (hl : l.length < 1000000) : (CN k).call 35 [.val (tT eS l)] = .ok (tT .int (unL l)) [.val (tT eS l)] := by
  obtain ⟨k, rfl⟩ : ∃ j, k = j + 1 := ⟨k - 1, by omega⟩
  refine call_eq ?_
  rw [run_at (tx.T.getD 35 default) rfl rfl]
  show finF 1 [.val (tT eS l)] (denSs (CN k) b__law_units [.val (tT eS l), .none, .none, .none]) = _
  unfold b__law_units
  have h1 : ∀ x : Shr, mulOk x.q.num (perL l : Int) = true := fun x => mulOk_l (by have := x.n1; omega) (by have := x.nd; have := x.d12; omega)
  have h2 : ∀ x : Shr, divOk (x.q.den : Int) = true := fun x => divOk_s (by have := x.d1; omega) (by have := x.d12; omega)
  simp (implicitDefEqProofs := false) (disch := first | omega | assumption | (simp only [List.length_map, List.length_range, List.length_finRange, List.length_take, List.length_drop, List.length_replicate, List.length_append, List.length_cons, List.length_nil, List.length_reverse, List.length_set]; omega)) only [evB0, evB1, evB2, evB3, evB4, evB5, evB6, evB7, evB8, evB9, evB10, evB11, evB12, evB13, evB14, evB15, evB16, evB17, evB18, evB19, evB20, putMix, odE, e_comp, cV, cat_map, cat_some, fm_some, fm_ite, lst_map, rds, args, noSlot, slotsOf, nodupB, bin_repl, ixT_int, ixL_int, putS, putAll, List.set_cons_zero, List.set_cons_succ, List.length_cons, List.length_nil, List.cons_append, List.nil_append, Option.bind_some, Option.map_some, Option.bind_none, Option.map_none, List.take_succ_cons, List.take_zero, List.take_nil, if_true, if_false, ite_true, ite_false, reduceIte, eq_self, List.any_cons, List.any_nil, List.all_cons, List.all_nil, List.contains_nil, List.contains_cons, List.elem_nil, List.elem_cons, beq_self_eq_true, List.map_cons, List.map_nil, Nat.reduceAdd, Nat.reduceLT, Nat.reduceLeDiff, List.isEmpty_nil, List.isEmpty_cons, wipeS, List.length_map, List.length_range, List.getElem?_cons_zero, List.getElem?_cons_succ, List.length_zipIdx, rgF_fin, List.length_finRange, List.length_take, List.length_drop, List.length_append, reduceCtorEq, List.getElem_cons_zero, List.getElem_cons_succ, List.cons_ne_nil, bin_strC, sort_p, fm_nite, List.length_mergeSort, sort_II, s_law_period, h1, h2]
  exact crok (by unfold tT unL; rw [List.map_map]; rfl)

theorem s_law_ones {k : Nat} (hk : 3 ≤ k) (u : Int × Int × Int) (most : Int) (h1 : 1 ≤ most) (h2 : most ≤ 4) (ws : List Int) (h3 : 1 ≤ ws.length) (h4 : ws.length ≤ 100) (h5 : ∀ x ∈ ws, 2 ≤ x ∧ x ≤ 12) : ∃ (w : Wks) (u' : Int × Int × Int), (CN k).call 36 [.ref (eUrn u), .val (.int most), .val (tL .int ws)] = .ok (eW w) [.ref (eUrn u'), .val (.int most), .val (tL .int ws)] ∧ sumL w.l = 1 ∧ (w.l.length : Int) ≤ most := by
  obtain ⟨k, rfl⟩ : ∃ j, k = j + 1 := ⟨k - 1, by omega⟩
  have n0 := drR_lt u (m := (ws.length : Int)) (by omega)
  have pk := s_law_pick (k := k) (by omega) u (ws.map .int) (by rw [List.length_map]; omega) (by rw [List.length_map]; omega)
  obtain ⟨W, eW, W1, W2⟩ : ∃ W : Int, (ws.map D.int).getD (drR u ((ws.map D.int).length : Nat)).toNat .non = .int W ∧ 2 ≤ W ∧ W ≤ 12 := by
    rw [List.length_map]
    have : (drR u (ws.length : Int)).toNat < ws.length := by omega
    refine ⟨ws[(drR u (ws.length : Int)).toNat], ?_, h5 _ (List.getElem_mem this)⟩
    rw [List.getD_eq_getElem?_getD, List.getElem?_map, List.getElem?_eq_getElem this]; rfl
  rw [eW] at pk
  change (CN k).call 32 [.ref (eUrn u), .val (tL .int ws)] = .ok (.int W) [.ref (eUrn (drU u ((ws.map D.int).length : Nat))), .val (tL .int ws)] at pk
  generalize drU u ((ws.map D.int).length : Nat) = u1 at *
  have e1 := s_law_draw (k := k) (by omega) u1 most h1 (by omega)
  obtain ⟨r0, r1⟩ := drR_lt u1 h1
  generalize drR u1 most = r at *
  generalize drU u1 most = u2 at *
  obtain ⟨n, rfl⟩ : ∃ n : Nat, r = (n : Int) := ⟨r.toNat, by omega⟩
  obtain ⟨ρ', lp, u3, ps, left, s, t, hs, ht, hl, hp, hw, hlen, rfl⟩ := for_rng (C := CN k) (tg := .name 4) (body := b__law_ones_1) (n := n) (g := fun i => .int (i.val : Int))
    (fun n ρ => ∃ (u : Int × Int × Int) (ps : List Int) (left : Int) (s t : Slot), s.free = true ∧ (t.free = true ∧ plainS t = true) ∧ 1 ≤ left ∧ (∀ p ∈ ps, 1 ≤ p) ∧ ps.sum + left = W ∧ ps.length ≤ n ∧ ρ = [.ref (eUrn u), .val (.int most), .val (tL .int ws), .val (.int W), s, .own (tL .int ps), .val (.int left), t])
    (ρ := [.ref (eUrn u2), .val (.int most), .val (tL .int ws), .val (.int W), .none, .own (.lst []), .val (.int W), .none]) ⟨u2, [], W, .none, .none, rfl, ⟨rfl, rfl⟩, by omega, by simp, by simp, by simp, rfl⟩ (by
      rintro x _ ⟨u, ps, left, s, t, hs, ht, hl, hp, hw, hlen, rfl⟩
      have xl := x.isLt
      by_cases c : 1 < left
      · have nn : ∀ z : List Int, (∀ p ∈ z, 1 ≤ p) → 0 ≤ z.sum := fun z => by
          induction z with
          | nil => intro _; simp
          | cons a z ih => intro h; have := ih fun p hp => h p (List.mem_cons_of_mem _ hp); have := h a List.mem_cons_self; rw [List.sum_cons]; omega
        have := nn ps hp
        have e2 := s_law_draw (k := k) (by omega) u (left - 1) (by omega) (by omega)
        obtain ⟨r0, r1⟩ := drR_lt u (m := left - 1) (by omega)
        generalize drR u (left - 1) = r at *
        generalize drU u (left - 1) = u2 at *
        simp (implicitDefEqProofs := false) (disch := first | omega | assumption | (simp only [List.length_map, List.length_range, List.length_finRange, List.length_take, List.length_drop, List.length_replicate, List.length_append, List.length_cons, List.length_nil, List.length_reverse, List.length_set]; omega)) only [evB0, evB1, evB2, evB3, evB4, evB5, evB6, evB7, evB8, evB9, evB10, evB11, evB12, evB13, evB14, evB15, evB16, evB17, evB18, evB19, evB20, putMix, odE, e_comp, cV, cat_map, cat_some, fm_some, fm_ite, lst_map, rds, args, noSlot, slotsOf, nodupB, bin_repl, ixT_int, ixL_int, putS, putAll, List.set_cons_zero, List.set_cons_succ, List.length_cons, List.length_nil, List.cons_append, List.nil_append, Option.bind_some, Option.map_some, Option.bind_none, Option.map_none, List.take_succ_cons, List.take_zero, List.take_nil, if_true, if_false, ite_true, ite_false, reduceIte, eq_self, List.any_cons, List.any_nil, List.all_cons, List.all_nil, List.contains_nil, List.contains_cons, List.elem_nil, List.elem_cons, beq_self_eq_true, List.map_cons, List.map_nil, Nat.reduceAdd, Nat.reduceLT, Nat.reduceLeDiff, List.isEmpty_nil, List.isEmpty_cons, wipeS, List.length_map, List.length_range, List.getElem?_cons_zero, List.getElem?_cons_succ, List.length_zipIdx, rgF_fin, List.length_finRange, List.length_take, List.length_drop, List.length_append, reduceCtorEq, List.getElem_cons_zero, List.getElem_cons_succ, List.cons_ne_nil, bin_strC, sort_p, fm_nite, List.length_mergeSort, sort_II, s_law_pick, s_law_draw, s_law_f, hs, ht.1, b__law_ones_1, e2]
        refine ⟨u2, ps ++ [1 + r], left - (1 + r), .val (.int (x.val : Int)), .val (.int (1 + r)), rfl, ⟨rfl, rfl⟩, by omega, fun p hq => ?_, ?_, ?_, rfl⟩
        · rcases List.mem_append.mp hq with hq | hq
          · exact hp p hq
          · have : p = 1 + r := by simpa using hq
            omega
        · rw [List.sum_append]; simp; omega
        · rw [List.length_append]; simp; omega
      · simp (implicitDefEqProofs := false) (disch := first | omega | assumption | (simp only [List.length_map, List.length_range, List.length_finRange, List.length_take, List.length_drop, List.length_replicate, List.length_append, List.length_cons, List.length_nil, List.length_reverse, List.length_set]; omega)) only [evB0, evB1, evB2, evB3, evB4, evB5, evB6, evB7, evB8, evB9, evB10, evB11, evB12, evB13, evB14, evB15, evB16, evB17, evB18, evB19, evB20, putMix, odE, e_comp, cV, cat_map, cat_some, fm_some, fm_ite, lst_map, rds, args, noSlot, slotsOf, nodupB, bin_repl, ixT_int, ixL_int, putS, putAll, List.set_cons_zero, List.set_cons_succ, List.length_cons, List.length_nil, List.cons_append, List.nil_append, Option.bind_some, Option.map_some, Option.bind_none, Option.map_none, List.take_succ_cons, List.take_zero, List.take_nil, if_true, if_false, ite_true, ite_false, reduceIte, eq_self, List.any_cons, List.any_nil, List.all_cons, List.all_nil, List.contains_nil, List.contains_cons, List.elem_nil, List.elem_cons, beq_self_eq_true, List.map_cons, List.map_nil, Nat.reduceAdd, Nat.reduceLT, Nat.reduceLeDiff, List.isEmpty_nil, List.isEmpty_cons, wipeS, List.length_map, List.length_range, List.getElem?_cons_zero, List.getElem?_cons_succ, List.length_zipIdx, rgF_fin, List.length_finRange, List.length_take, List.length_drop, List.length_append, reduceCtorEq, List.getElem_cons_zero, List.getElem_cons_succ, List.cons_ne_nil, bin_strC, sort_p, fm_nite, List.length_mergeSort, sort_II, s_law_pick, s_law_draw, s_law_f, hs, ht.1, b__law_ones_1, c]
        exact ⟨u, ps, left, .val (.int (x.val : Int)), t, rfl, ht, hl, hp, hw, by omega, rfl⟩)
  have ap : ∀ p ∈ ps ++ [left], 1 ≤ p := fun p hq => by
    rcases List.mem_append.mp hq with hq | hq
    · exact hp p hq
    · have : p = left := by simpa using hq
      omega
  have as : (ps ++ [left]).sum = W := by rw [List.sum_append]; simp; omega
  obtain ⟨l, l1, l2⟩ := mk_shares (W := W) (by omega) W2 (ps ++ [left]) ap (by omega)
  have ll : l.length = ps.length + 1 := by
    have := congrArg List.length l1
    rw [List.length_map, List.length_map, List.length_append] at this
    simpa using this
  have pl : perL l ≤ W.toNat := Nat.le_of_dvd (by omega) (perL_min l2)
  have hi : tT (fun p => eQ (mkRat p W.toNat)) (ps ++ [left]) = tT eS l := by
    unfold tT
    congr 1
    have := congrArg (List.map eQ) l1
    rw [List.map_map, List.map_map] at this
    exact this.symm
  have ad : binF .add (tL .int ps) (.lst [.int left]) = some (tL .int (ps ++ [left])) := add_L1 (by omega)
  have ht2 := ht.2
  refine ⟨⟨l, by omega, by omega, by omega⟩, u3, ?_, ?_, by show (l.length : Int) ≤ most; omega⟩
  · refine call_eq ?_
    rw [run_at (tx.T.getD 36 default) rfl rfl]
    show finF 3 [.ref (eUrn u), .val (.int most), .val (tL .int ws)] (denSs (CN k) b__law_ones [.ref (eUrn u), .val (.int most), .val (tL .int ws), .none, .none, .none, .none, .none]) = _
    unfold b__law_ones
    simp (implicitDefEqProofs := false) (disch := first | omega | assumption | (simp only [List.length_map, List.length_range, List.length_finRange, List.length_take, List.length_drop, List.length_replicate, List.length_append, List.length_cons, List.length_nil, List.length_reverse, List.length_set]; omega)) only [evB0, evB1, evB2, evB3, evB4, evB5, evB6, evB7, evB8, evB9, evB10, evB11, evB12, evB13, evB14, evB15, evB16, evB17, evB18, evB19, evB20, putMix, odE, e_comp, cV, cat_map, cat_some, fm_some, fm_ite, lst_map, rds, args, noSlot, slotsOf, nodupB, bin_repl, ixT_int, ixL_int, putS, putAll, List.set_cons_zero, List.set_cons_succ, List.length_cons, List.length_nil, List.cons_append, List.nil_append, Option.bind_some, Option.map_some, Option.bind_none, Option.map_none, List.take_succ_cons, List.take_zero, List.take_nil, if_true, if_false, ite_true, ite_false, reduceIte, eq_self, List.any_cons, List.any_nil, List.all_cons, List.all_nil, List.contains_nil, List.contains_cons, List.elem_nil, List.elem_cons, beq_self_eq_true, List.map_cons, List.map_nil, Nat.reduceAdd, Nat.reduceLT, Nat.reduceLeDiff, List.isEmpty_nil, List.isEmpty_cons, wipeS, List.length_map, List.length_range, List.getElem?_cons_zero, List.getElem?_cons_succ, List.length_zipIdx, rgF_fin, List.length_finRange, List.length_take, List.length_drop, List.length_append, reduceCtorEq, List.getElem_cons_zero, List.getElem_cons_succ, List.cons_ne_nil, bin_strC, sort_p, fm_nite, List.length_mergeSort, sort_II, s_law_pick, s_law_draw, s_law_f, pk, e1, lp, ad, ht2, hi]
  · show sumL l = 1
    rw [sumL_sum, l1, sum_mk (by omega), as]
    have : W = ((W.toNat : Nat) : Int) := by omega
    conv => lhs; arg 1; rw [this]
    exact mk_self (by omega)

theorem s_law_seats {k : Nat} (hk : 3 ≤ k) (w : Wks) (h : sumL w.l = 1) (N : Int) (h1 : 0 ≤ N) (h2 : N ≤ 1000) : (CN k).call 37 [.val (eW w), .val (.int N)] = .ok (tT .int (stS w.l N)) [.val (eW w), .val (.int N)] := by
  obtain ⟨k, rfl⟩ : ∃ j, k = j + 1 := ⟨k - 1, by omega⟩
  refine call_eq ?_
  rw [run_at (tx.T.getD 37 default) rfl rfl]
  show finF 2 [.val (eW w), .val (.int N)] (denSs (CN k) b__law_seats [.val (eW w), .val (.int N), .none, .none, .none, .none, .none, .none, .none]) = _
  unfold b__law_seats
  have w1 := w.n1
  have w5 := w.n5
  have wp := w.per
  have P0 := perL_pos w.l
  obtain ⟨k0, k1⟩ := kR_bd (N := N) h
  have g1 : ∀ x : Int, mulOk x N = true := fun x => mulOk_r (by omega) (by omega)
  have un : ∀ s ∈ w.l, unI s.q (perL w.l) * N / (perL w.l : Int) = flS s N := fun s hs => by
    obtain ⟨u, e1, e2, _, _⟩ := un_ex s P0 (perL_dvd hs)
    have d1 := s.d1
    rw [e1]
    unfold flS
    have : s.q.num * N / (s.q.den : Int) = (s.q.num * N * (perL w.l : Int)) / ((s.q.den : Int) * (perL w.l : Int)) := (Int.mul_ediv_mul_of_pos_left _ _ (by omega)).symm
    rw [this, show s.q.num * N * (perL w.l : Int) = ((u : Int) * N) * (s.q.den : Int) by rw [Int.mul_assoc, Int.mul_comm N, ← Int.mul_assoc, e2, Int.mul_assoc, Int.mul_comm (s.q.den : Int), ← Int.mul_assoc], Int.mul_comm (s.q.den : Int), Int.mul_ediv_mul_of_pos_left _ _ (by omega)]
  have e0 : tL (fun x : Int => D.int (x * N / (perL w.l : Int))) (unL w.l) = tL .int ((List.range w.l.length).map fun i => flR w.l N i) := by
    unfold tL unL
    rw [rng_map (g := fun s : Shr => flS s N) fun i hi => flR_at hi, List.map_map, List.map_map]
    congr 1
    refine List.map_congr_left fun s hs => ?_
    simp only [Function.comp_apply]
    rw [un s hs]
  have ek : N - ((List.range w.l.length).map fun i => flR w.l N i).sum = kR w.l N := rfl
  have ul : (unL w.l).length = w.l.length := by unfold unL; simp
  have ix : ∀ i : _root_.Fin w.l.length, ixF (tL .int ((List.range w.l.length).map fun i => flR w.l N i)) (.int (i.val : Int)) = some (.int (flR w.l N i.val)) := fun i => by
    rw [ixL_nat (by simp)]; simp
  have ix2 : ∀ i : _root_.Fin w.l.length, ixF (tT .int (unL w.l)) (.int (i.val : Int)) = some (.int (unI w.l[i.val].q (perL w.l))) := fun i => by
    rw [ixT_nat (by rw [ul]; exact i.isLt)]
    unfold unL; simp
  have m1 : ∀ x : Int, mulOk x (perL w.l : Int) = true := fun x => mulOk_r (by omega) (by omega)
  have pe : tL (fun i : _root_.Fin w.l.length => .tup [.int (flR w.l N i.val * (perL w.l : Int) - unI w.l[i.val].q (perL w.l) * N), .int (i.val : Int)]) (List.finRange w.l.length) = tL eII ((List.range w.l.length).map fun i => ((fun i => if hi : i < w.l.length then flR w.l N i * (perL w.l : Int) - unI w.l[i].q (perL w.l) * N else 0) i, (i : Int))) := by
    unfold tL
    rw [← finRange_val, List.map_map, List.map_map]
    congr 1
    refine List.map_congr_left fun i _ => ?_
    simp only [Function.comp_apply]
    rw [dif_pos i.isLt]
  have fg := far_gen (n := w.l.length) (f := fun i => if hi : i < w.l.length then flR w.l N i * (perL w.l : Int) - unI w.l[i].q (perL w.l) * N else 0) (lg := lgR w.l N) (c := ((perL w.l : Int) : Rat)) (by
    rw [show (0 : Rat) = ((0 : Int) : Rat) from rfl, Rat.intCast_lt_intCast]; omega) fun i hi => by
      simp only [dif_pos hi]
      rw [lgR_at hi, flR_at hi, rsS_eq]
      obtain ⟨u, e1, e2, _, _⟩ := un_ex w.l[i] P0 (perL_dvd (List.getElem_mem hi))
      have e3 : w.l[i].q * ((perL w.l : Int) : Rat) = ((u : Int) : Rat) := by
        refine eq_of_mul w.l[i].q.den_pos ?_
        have m := mul_den w.l[i].q
        have e4 : ((w.l[i].q.num * (perL w.l : Int) : Int) : Rat) = (((u : Int) * (w.l[i].q.den : Int) : Int) : Rat) := by rw [e2]
        rw [Rat.intCast_mul, Rat.intCast_mul] at e4
        grind
      rw [e1, Rat.intCast_sub, Rat.intCast_mul, Rat.intCast_mul]
      grind
  have so : biF .sorted [tL eII ((List.range w.l.length).map fun i => ((fun i => if hi : i < w.l.length then flR w.l N i * (perL w.l : Int) - unI w.l[i].q (perL w.l) * N else 0) i, (i : Int)))] = some (tL (fun i : Nat => .tup [.int (if hi : i < w.l.length then flR w.l N i * (perL w.l : Int) - unI w.l[i].q (perL w.l) * N else 0), .int (i : Int)]) (ordS w.l N)) := by
    rw [sort_II (by simp; omega), fg]
    unfold tL ordS
    rw [List.map_map]; rfl
  obtain ⟨ρ', lp, s, t, hs, ht, rfl⟩ := for_idx (C := CN k) (tg := .tup [6, 7]) (body := b__law_seats_1) (f := fun i : Nat => .tup [.int (if hi : i < w.l.length then flR w.l N i * (perL w.l : Int) - unI w.l[i].q (perL w.l) * N else 0), .int (i : Int)]) (xs := (ordS w.l N).take (kR w.l N).toNat)
    (fun n ρ => ∃ s t : Slot, s.free = true ∧ t.free = true ∧ ρ = [.val (eW w), .val (.int N), .own (tL .int ((List.range w.l.length).map fun i => flR w.l N i + if i ∈ ((ordS w.l N).take (kR w.l N).toNat).take n then 1 else 0)), .val (tL (fun i : Nat => .tup [.int (if hi : i < w.l.length then flR w.l N i * (perL w.l : Int) - unI w.l[i].q (perL w.l) * N else 0), .int (i : Int)]) (ordS w.l N)), .val (.int (perL w.l : Int)), .val (tT .int (unL w.l)), s, t, .none])
    (ρ := [.val (eW w), .val (.int N), .own (tL .int ((List.range w.l.length).map fun i => flR w.l N i)), .val (tL (fun i : Nat => .tup [.int (if hi : i < w.l.length then flR w.l N i * (perL w.l : Int) - unI w.l[i].q (perL w.l) * N else 0), .int (i : Int)]) (ordS w.l N)), .val (.int (perL w.l : Int)), .val (tT .int (unL w.l)), .none, .none, .none]) ⟨.none, .none, rfl, rfl, by simp⟩ (by
      rintro j hj _ ⟨s, t, hs, ht, rfl⟩
      have nd : ((ordS w.l N).take (kR w.l N).toNat).Nodup := ord_nodup.sublist (List.take_sublist ..)
      have lt : ((ordS w.l N).take (kR w.l N).toNat)[j] < w.l.length := ord_lt (List.mem_of_mem_take (List.getElem_mem hj))
      generalize tL (fun i : Nat => D.tup [.int (if hi : i < w.l.length then flR w.l N i * (perL w.l : Int) - unI w.l[i].q (perL w.l) * N else 0), .int (i : Int)]) (ordS w.l N) = ln at *
      generalize (ordS w.l N).take (kR w.l N).toNat = z at *
      have ix : ixF (tL .int ((List.range w.l.length).map fun i => flR w.l N i + if i ∈ z.take j then 1 else 0)) (.int (z[j] : Int)) = some (.int (flR w.l N z[j] + if z[j] ∈ z.take j then 1 else 0)) := by
        rw [ixL_nat (by simpa using lt)]; simp
      have ni : ¬ z[j] ∈ z.take j := fun m => by
        obtain ⟨i, hi, e⟩ := List.mem_iff_getElem.mp m
        rw [List.length_take] at hi
        rw [List.getElem_take] at e
        have := (List.getElem_inj nd).mp e
        omega
      have m2 : ∀ i, i ∈ z.take (j + 1) ↔ i ∈ z.take j ∨ i = z[j] := fun i => by rw [List.take_succ_eq_append_getElem hj, List.mem_append, List.mem_singleton]
      have st : ((List.range w.l.length).map fun i => flR w.l N i + if i ∈ z.take j then 1 else 0).set z[j] (flR w.l N z[j] + 0 + 1) = (List.range w.l.length).map fun i => flR w.l N i + if i ∈ z.take (j + 1) then 1 else 0 := by
        refine List.ext_getElem (by simp) fun i h1 h2 => ?_
        rw [List.getElem_set]
        simp only [List.getElem_map, List.getElem_range]
        by_cases c : z[j] = i
        · rw [if_pos c, ← c, if_pos ((m2 _).mpr (.inr rfl))]; omega
        · rw [if_neg c]
          have : (i ∈ z.take (j + 1)) = (i ∈ z.take j) := propext ((m2 i).trans ⟨fun h => h.resolve_right fun e => c e.symm, .inl⟩)
          simp only [this]
      have sl : ((List.range w.l.length).map fun i => flR w.l N i + if i ∈ z.take j then 1 else 0).length = w.l.length := by simp
      have ks : ∀ ρ, kSet2 2 (.int (flR w.l N z[j] + 0 + 1)) (.int (z[j] : Int)) ρ (some (tL .int ((List.range w.l.length).map fun i => flR w.l N i + if i ∈ z.take j then 1 else 0)))
          = .ok .nx (ρ.set 2 ((getS ρ 2).with (tL .int ((List.range w.l.length).map fun i => flR w.l N i + if i ∈ z.take (j + 1) then 1 else 0)))) := fun ρ => by
        rw [kSet2_i (by omega) (by rw [sl]; omega), Int.toNat_natCast, st]
      simp (implicitDefEqProofs := false) (disch := first | omega | assumption | (simp only [List.length_map, List.length_range, List.length_finRange, List.length_take, List.length_drop, List.length_replicate, List.length_append, List.length_cons, List.length_nil, List.length_reverse, List.length_set]; omega)) only [evB0, evB1, evB2, evB3, evB4, evB5, evB6, evB7, evB8, evB9, evB10, evB11, evB12, evB13, evB14, evB15, evB16, evB17, evB18, evB19, evB20, putMix, odE, e_comp, cV, cat_map, cat_some, fm_some, fm_ite, lst_map, rds, args, noSlot, slotsOf, nodupB, bin_repl, ixT_int, ixL_int, putS, putAll, List.set_cons_zero, List.set_cons_succ, List.length_cons, List.length_nil, List.cons_append, List.nil_append, Option.bind_some, Option.map_some, Option.bind_none, Option.map_none, List.take_succ_cons, List.take_zero, List.take_nil, if_true, if_false, ite_true, ite_false, reduceIte, eq_self, List.any_cons, List.any_nil, List.all_cons, List.all_nil, List.contains_nil, List.contains_cons, List.elem_nil, List.elem_cons, beq_self_eq_true, List.map_cons, List.map_nil, Nat.reduceAdd, Nat.reduceLT, Nat.reduceLeDiff, List.isEmpty_nil, List.isEmpty_cons, wipeS, List.length_map, List.length_range, List.getElem?_cons_zero, List.getElem?_cons_succ, List.length_zipIdx, rgF_fin, List.length_finRange, List.length_take, List.length_drop, List.length_append, reduceCtorEq, List.getElem_cons_zero, List.getElem_cons_succ, List.cons_ne_nil, bin_strC, sort_p, fm_nite, List.length_mergeSort, sort_II, s_law_period, s_law_units, hs, ht, b__law_seats_1, ix, ni, ks]
      exact ⟨_, _, rfl, rfl, rfl⟩)
  rw [List.take_length] at lp
  simp (implicitDefEqProofs := false) (disch := first | omega | assumption | (simp only [List.length_map, List.length_range, List.length_finRange, List.length_take, List.length_drop, List.length_replicate, List.length_append, List.length_cons, List.length_nil, List.length_reverse, List.length_set]; omega)) only [evB0, evB1, evB2, evB3, evB4, evB5, evB6, evB7, evB8, evB9, evB10, evB11, evB12, evB13, evB14, evB15, evB16, evB17, evB18, evB19, evB20, putMix, odE, e_comp, cV, cat_map, cat_some, fm_some, fm_ite, lst_map, rds, args, noSlot, slotsOf, nodupB, bin_repl, ixT_int, ixL_int, putS, putAll, List.set_cons_zero, List.set_cons_succ, List.length_cons, List.length_nil, List.cons_append, List.nil_append, Option.bind_some, Option.map_some, Option.bind_none, Option.map_none, List.take_succ_cons, List.take_zero, List.take_nil, if_true, if_false, ite_true, ite_false, reduceIte, eq_self, List.any_cons, List.any_nil, List.all_cons, List.all_nil, List.contains_nil, List.contains_cons, List.elem_nil, List.elem_cons, beq_self_eq_true, List.map_cons, List.map_nil, Nat.reduceAdd, Nat.reduceLT, Nat.reduceLeDiff, List.isEmpty_nil, List.isEmpty_cons, wipeS, List.length_map, List.length_range, List.getElem?_cons_zero, List.getElem?_cons_succ, List.length_zipIdx, rgF_fin, List.length_finRange, List.length_take, List.length_drop, List.length_append, reduceCtorEq, List.getElem_cons_zero, List.getElem_cons_succ, List.cons_ne_nil, bin_strC, sort_p, fm_nite, List.length_mergeSort, sort_II, s_law_period, s_law_units, g1, e0, ek, ul, ix, ix2, m1, pe, so, lp]
  rfl

theorem s_law_losing {k : Nat} (hk : 4 ≤ k) (w : Wks) (h : sumL w.l = 1) (m : Nat) (h2 : m ≤ 900) : (CN k).call 38 [.val (eW w), .val (.int (m : Int))] = .ok (tT .int (losL w.l m)) [.val (eW w), .val (.int (m : Int))] := by
  obtain ⟨k, rfl⟩ : ∃ j, k = j + 1 := ⟨k - 1, by omega⟩
  refine call_eq ?_
  rw [run_at (tx.T.getD 38 default) rfl rfl]
  show finF 2 [.val (eW w), .val (.int (m : Int))] (denSs (CN k) b__law_losing [.val (eW w), .val (.int (m : Int)), .none, .none, .none, .none, .none]) = _
  unfold b__law_losing
  have w5 := w.n5
  have es : ∀ M : Int, tT D.int (stS w.l M) = tT (fun i : Nat => D.int (seat w.l M i)) (List.range w.l.length) := fun M => by
    unfold tT stS
    rw [List.map_map]; rfl
  have sl : ∀ M : Int, (stS w.l M).length = w.l.length := fun M => stS_len
  have ix : ∀ (M : Int) (i : _root_.Fin w.l.length), ixF (tT D.int (stS w.l M)) (.int (i.val : Int)) = some (.int (seat w.l M i.val)) := fun M i => by
    rw [es, ixT_nat (by simp)]; simp
  obtain ⟨ρ', lp, t, h5, ht, hh, rfl⟩ := for_rng (C := CN k) (tg := .name 2) (body := b__law_losing_1) (n := m) (g := fun i => .int (1 + (i.val : Int)))
    (fun n ρ => ∃ t h5 : Slot, t.free = true ∧ h5.free = true ∧ ρ = [.val (eW w), .val (.int (m : Int)), t, .own (tL .int (losL w.l n)), .val (tT D.int (stS w.l (n : Int))), h5, .none])
    (ρ := [.val (eW w), .val (.int (m : Int)), .none, .own (.lst []), .val (tT D.int (stS w.l 0)), .none, .none]) ⟨.none, .none, rfl, rfl, rfl⟩ (by
      rintro x _ ⟨t, h5, ht, hh, rfl⟩
      have xl := x.isLt
      have ls := s_law_seats (k := k) (by omega) w h (1 + (x.val : Int)) (by omega) (by omega)
      have lb : losB w.l (1 + (x.val : Int)) = (List.range w.l.length).any fun i => decide (seat w.l (1 + (x.val : Int)) i < seat w.l (x.val : Int) i) := by
        unfold losB
        rw [show (1 + (x.val : Int) - 1) = (x.val : Int) by omega]
      have xs : losL w.l (x.val + 1) = losL w.l x.val ++ if losB w.l (1 + (x.val : Int)) = true then [1 + (x.val : Int)] else [] := by
        unfold losL
        rw [List.range_succ, List.map_append, List.filter_append]
        congr 1
        by_cases c : losB w.l (1 + (x.val : Int)) = true
        · rw [if_pos c]; simp [c]
        · rw [if_neg c]; simp [c]
      have ll : (losL w.l x.val).length ≤ x.val := by
        unfold losL
        exact Nat.le_trans (List.length_filter_le ..) (by simp)
      have em : eqD (tL (fun i : _root_.Fin w.l.length => .int (i.val : Int)) ((List.finRange w.l.length).filter fun i => decide (seat w.l (1 + (x.val : Int)) i.val < seat w.l (x.val : Int) i.val))) (.lst []) = some (!losB w.l (1 + (x.val : Int))) := by
        rw [eq_nilL (n := 0) (fun _ _ => flat_int) (by omega), lb]
        congr 1
        rw [Bool.eq_iff_iff, List.isEmpty_iff, List.filter_eq_nil_iff]
        simp only [Bool.not_eq_true', List.any_eq_false]
        constructor
        · intro z i hi
          exact z ⟨i, List.mem_range.mp hi⟩ (List.mem_finRange _)
        · intro z i _
          exact z i.val (List.mem_range.mpr i.isLt)
      have t1 : (1 + (x.val : Int)) = ((x.val + 1 : Nat) : Int) := by omega
      by_cases c : losB w.l (1 + (x.val : Int)) = true
      · rw [if_pos c] at xs
        simp (implicitDefEqProofs := false) (disch := first | omega | assumption | (simp only [List.length_map, List.length_range, List.length_finRange, List.length_take, List.length_drop, List.length_replicate, List.length_append, List.length_cons, List.length_nil, List.length_reverse, List.length_set]; omega)) only [evB0, evB1, evB2, evB3, evB4, evB5, evB6, evB7, evB8, evB9, evB10, evB11, evB12, evB13, evB14, evB15, evB16, evB17, evB18, evB19, evB20, putMix, odE, e_comp, cV, cat_map, cat_some, fm_some, fm_ite, lst_map, rds, args, noSlot, slotsOf, nodupB, bin_repl, ixT_int, ixL_int, putS, putAll, List.set_cons_zero, List.set_cons_succ, List.length_cons, List.length_nil, List.cons_append, List.nil_append, Option.bind_some, Option.map_some, Option.bind_none, Option.map_none, List.take_succ_cons, List.take_zero, List.take_nil, if_true, if_false, ite_true, ite_false, reduceIte, eq_self, List.any_cons, List.any_nil, List.all_cons, List.all_nil, List.contains_nil, List.contains_cons, List.elem_nil, List.elem_cons, beq_self_eq_true, List.map_cons, List.map_nil, Nat.reduceAdd, Nat.reduceLT, Nat.reduceLeDiff, List.isEmpty_nil, List.isEmpty_cons, wipeS, List.length_map, List.length_range, List.getElem?_cons_zero, List.getElem?_cons_succ, List.length_zipIdx, rgF_fin, List.length_finRange, List.length_take, List.length_drop, List.length_append, reduceCtorEq, List.getElem_cons_zero, List.getElem_cons_succ, List.cons_ne_nil, bin_strC, sort_p, fm_nite, List.length_mergeSort, sort_II, s_law_seats, hh, ht, b__law_losing_1, ls, ix, em, c]
        exact ⟨.val (.int (1 + (x.val : Int))), .val (tT D.int (stS w.l (1 + (x.val : Int)))), rfl, rfl, by rw [xs, ← t1]⟩
      · rw [if_neg c, List.append_nil] at xs
        have c := Bool.eq_false_iff.mpr c
        simp (implicitDefEqProofs := false) (disch := first | omega | assumption | (simp only [List.length_map, List.length_range, List.length_finRange, List.length_take, List.length_drop, List.length_replicate, List.length_append, List.length_cons, List.length_nil, List.length_reverse, List.length_set]; omega)) only [evB0, evB1, evB2, evB3, evB4, evB5, evB6, evB7, evB8, evB9, evB10, evB11, evB12, evB13, evB14, evB15, evB16, evB17, evB18, evB19, evB20, putMix, odE, e_comp, cV, cat_map, cat_some, fm_some, fm_ite, lst_map, rds, args, noSlot, slotsOf, nodupB, bin_repl, ixT_int, ixL_int, putS, putAll, List.set_cons_zero, List.set_cons_succ, List.length_cons, List.length_nil, List.cons_append, List.nil_append, Option.bind_some, Option.map_some, Option.bind_none, Option.map_none, List.take_succ_cons, List.take_zero, List.take_nil, if_true, if_false, ite_true, ite_false, reduceIte, eq_self, List.any_cons, List.any_nil, List.all_cons, List.all_nil, List.contains_nil, List.contains_cons, List.elem_nil, List.elem_cons, beq_self_eq_true, List.map_cons, List.map_nil, Nat.reduceAdd, Nat.reduceLT, Nat.reduceLeDiff, List.isEmpty_nil, List.isEmpty_cons, wipeS, List.length_map, List.length_range, List.getElem?_cons_zero, List.getElem?_cons_succ, List.length_zipIdx, rgF_fin, List.length_finRange, List.length_take, List.length_drop, List.length_append, reduceCtorEq, List.getElem_cons_zero, List.getElem_cons_succ, List.cons_ne_nil, bin_strC, sort_p, fm_nite, List.length_mergeSort, sort_II, s_law_seats, hh, ht, b__law_losing_1, ls, ix, em, c]
        exact ⟨.val (.int (1 + (x.val : Int))), .val (tT D.int (stS w.l (1 + (x.val : Int)))), rfl, rfl, by rw [xs, ← t1]⟩)
  have l0 := s_law_seats (k := k) (by omega) w h 0 (by omega) (by omega)
  simp (implicitDefEqProofs := false) (disch := first | omega | assumption | (simp only [List.length_map, List.length_range, List.length_finRange, List.length_take, List.length_drop, List.length_replicate, List.length_append, List.length_cons, List.length_nil, List.length_reverse, List.length_set]; omega)) only [evB0, evB1, evB2, evB3, evB4, evB5, evB6, evB7, evB8, evB9, evB10, evB11, evB12, evB13, evB14, evB15, evB16, evB17, evB18, evB19, evB20, putMix, odE, e_comp, cV, cat_map, cat_some, fm_some, fm_ite, lst_map, rds, args, noSlot, slotsOf, nodupB, bin_repl, ixT_int, ixL_int, putS, putAll, List.set_cons_zero, List.set_cons_succ, List.length_cons, List.length_nil, List.cons_append, List.nil_append, Option.bind_some, Option.map_some, Option.bind_none, Option.map_none, List.take_succ_cons, List.take_zero, List.take_nil, if_true, if_false, ite_true, ite_false, reduceIte, eq_self, List.any_cons, List.any_nil, List.all_cons, List.all_nil, List.contains_nil, List.contains_cons, List.elem_nil, List.elem_cons, beq_self_eq_true, List.map_cons, List.map_nil, Nat.reduceAdd, Nat.reduceLT, Nat.reduceLeDiff, List.isEmpty_nil, List.isEmpty_cons, wipeS, List.length_map, List.length_range, List.getElem?_cons_zero, List.getElem?_cons_succ, List.length_zipIdx, rgF_fin, List.length_finRange, List.length_take, List.length_drop, List.length_append, reduceCtorEq, List.getElem_cons_zero, List.getElem_cons_succ, List.cons_ne_nil, bin_strC, sort_p, fm_nite, List.length_mergeSort, sort_II, s_law_seats, l0, lp]

theorem losL_bd {l : List Shr} {m : Nat} : ∀ x ∈ losL l m, 1 ≤ x ∧ x ≤ m := fun x hx => by
  unfold losL at hx
  obtain ⟨h1, _⟩ := List.mem_filter.mp hx
  obtain ⟨i, hi, rfl⟩ := List.mem_map.mp h1
  have := List.mem_range.mp hi
  omega
theorem losL_len {l : List Shr} {m : Nat} : (losL l m).length ≤ m := by
  unfold losL
  exact Nat.le_trans (List.length_filter_le ..) (by simp)
theorem losL_cut {l : List Shr} {m c : Nat} (h : c ≤ m) : (losL l m).filter (fun x => decide (x ≤ (c : Int))) = losL l c := by
  unfold losL
  rw [List.filter_filter]
  obtain ⟨d, rfl⟩ : ∃ d, m = c + d := ⟨m - c, by omega⟩
  rw [List.range_add, List.map_append, List.filter_append]
  have e2 : ((List.map (fun x => c + x) (List.range d)).map fun i : Nat => 1 + (i : Int)).filter (fun a => decide (a ≤ (c : Int)) && losB l a) = [] := List.filter_eq_nil_iff.mpr fun a ha => by
    obtain ⟨i, hi, rfl⟩ := List.mem_map.mp ha
    obtain ⟨j, hj, rfl⟩ := List.mem_map.mp hi
    simp only [Bool.and_eq_true, decide_eq_true_eq, not_and]
    intro z; omega
  rw [e2, List.append_nil]
  refine List.filter_congr fun a ha => ?_
  obtain ⟨i, hi, rfl⟩ := List.mem_map.mp ha
  have := List.mem_range.mp hi
  rw [decide_eq_true (by omega), Bool.true_and]
theorem eq_TI {xs ys : List Int} : eqD (tT .int xs) (tT .int ys) = some (decide (xs = ys)) := eq_inj (Inj.tT Inj.int) (by omega) xs ys
theorem s_law_works_right {k : Nat} (hk : 11 ≤ k) (u : Int × Int × Int) (w : Wks) (h : sumL w.l = 1) : ∃ u', (CN k).call 39 [.ref (eUrn u), .val (eW w)] = .ok (.bl true) [.ref (eUrn u'), .val (eW w)] := by
  obtain ⟨k, rfl⟩ : ∃ j, k = j + 1 := ⟨k - 1, by omega⟩
  have w1 := w.n1
  have w5 := w.n5
  have seats : ∀ N : Int, 0 ≤ N → N ≤ 999 → ∀ i (hi : i < w.l.length), 0 ≤ seat w.l N i ∧ seat w.l N i ≤ 1000 := fun N h0 h1 i hi => by
    have b := seat_bd (N := N) h hi
    have n1 := w.l[i].n1
    have d1 := w.l[i].d1
    have nd := w.l[i].nd
    have f0 : 0 ≤ flR w.l N i := by rw [flR_at hi]; exact Int.ediv_nonneg (Int.mul_nonneg (by omega) h0) (by omega)
    have f1 : flR w.l N i ≤ N := by
      rw [flR_at hi]
      refine Int.ediv_le_of_le_mul (by omega) ?_
      rw [Int.mul_comm]
      exact Int.mul_le_mul_of_nonneg_left nd h0
    unfold seat
    split <;> omega
  have one : ∀ (N : Int) (u : Int × Int × Int) (s2 s4 s5 s6 s7 : Slot), 0 ≤ N → N ≤ 999 → s2.free = true → s4.free = true → s5.free = true → s6.free = true → s7.free = true → ∃ z4 z5 z6 z7 : Slot, z4.free = true ∧ z5.free = true ∧ z6.free = true ∧ z7.free = true ∧
      kGo (C := CN k) b__law_works_right_2 (putT (.name 2) (.int N) [.ref (eUrn u), .val (eW w), s2, .none, s4, s5, s6, s7, .none]) = .ok .nx [.ref (eUrn u), .val (eW w), .val (.int N), .none, z4, z5, z6, z7, .none] := by
    intro N u s2 s4 s5 s6 s7 h0 h1 f2 f4 f5 f6 f7
    have ls := s_law_seats (k := k) (by omega) w h N h0 (by omega)
    have rs := s_rest_seats (k := k) (by omega) w h N h0 h1
    have sl := stS_len (l := w.l) (N := N)
    have sm : ∀ x ∈ stS w.l N, x.natAbs < 10 ^ 12 := fun x hx => by
      unfold stS at hx
      obtain ⟨i, hi, rfl⟩ := List.mem_map.mp hx
      have := seats N h0 h1 i (List.mem_range.mp hi)
      omega
    have rp := repr_TT (xs := stS w.l N) (ys := stS w.l N) sm sm (by omega) (by omega)
    have ss := stS_sum (N := N) h
    obtain ⟨ρ', lp, z5, z6, z7, g5, g6, g7, rfl⟩ := for_rng (C := CN k) (tg := .name 5) (body := b__law_works_right_1) (n := w.l.length) (g := fun i => .int (i.val : Int))
      (fun n ρ => ∃ z5 z6 z7 : Slot, z5.free = true ∧ z6.free = true ∧ z7.free = true ∧ ρ = [.ref (eUrn u), .val (eW w), .val (.int N), .none, .val (tT .int (stS w.l N)), z5, z6, z7, .none])
      (ρ := [.ref (eUrn u), .val (eW w), .val (.int N), .none, .val (tT .int (stS w.l N)), s5, s6, s7, .none]) ⟨s5, s6, s7, f5, f6, f7, rfl⟩ (by
        rintro x _ ⟨z5, z6, z7, g5, g6, g7, rfl⟩
        have xl := x.isLt
        have b := seat_bd (N := N) h x.isLt
        have ix : ixF (tT .int (stS w.l N)) (.int (x.val : Int)) = some (.int (seat w.l N x.val)) := by
          rw [ixT_nat (by rw [stS_len]; exact x.isLt), stS_get x.isLt]
        obtain ⟨b1, b2⟩ := b
        simp (implicitDefEqProofs := false) (disch := first | omega | assumption | (simp only [List.length_map, List.length_range, List.length_finRange, List.length_take, List.length_drop, List.length_replicate, List.length_append, List.length_cons, List.length_nil, List.length_reverse, List.length_set]; omega)) only [evB0, evB1, evB2, evB3, evB4, evB5, evB6, evB7, evB8, evB9, evB10, evB11, evB12, evB13, evB14, evB15, evB16, evB17, evB18, evB19, evB20, putMix, odE, e_comp, cV, cat_map, cat_some, fm_some, fm_ite, lst_map, rds, args, noSlot, slotsOf, nodupB, bin_repl, ixT_int, ixL_int, putS, putAll, List.set_cons_zero, List.set_cons_succ, List.length_cons, List.length_nil, List.cons_append, List.nil_append, Option.bind_some, Option.map_some, Option.bind_none, Option.map_none, List.take_succ_cons, List.take_zero, List.take_nil, if_true, if_false, ite_true, ite_false, reduceIte, eq_self, List.any_cons, List.any_nil, List.all_cons, List.all_nil, List.contains_nil, List.contains_cons, List.elem_nil, List.elem_cons, beq_self_eq_true, List.map_cons, List.map_nil, Nat.reduceAdd, Nat.reduceLT, Nat.reduceLeDiff, List.isEmpty_nil, List.isEmpty_cons, wipeS, List.length_map, List.length_range, List.getElem?_cons_zero, List.getElem?_cons_succ, List.length_zipIdx, rgF_fin, List.length_finRange, List.length_take, List.length_drop, List.length_append, reduceCtorEq, List.getElem_cons_zero, List.getElem_cons_succ, List.cons_ne_nil, bin_strC, sort_p, fm_nite, List.length_mergeSort, sort_II, s_law_losing, s_law_draw, s_law_seats, s_losing_houses, s_quota, s_rest_seats, kw_0, kw_1, g5, g6, g7, b__law_works_right_1, ix, b1, b2]
        exact ⟨_, _, _, rfl, rfl, rfl, rfl⟩)
    refine ⟨.val (tT .int (stS w.l N)), z5, z6, z7, rfl, g5, g6, g7, ?_⟩
    simp (implicitDefEqProofs := false) (disch := first | omega | assumption | (simp only [List.length_map, List.length_range, List.length_finRange, List.length_take, List.length_drop, List.length_replicate, List.length_append, List.length_cons, List.length_nil, List.length_reverse, List.length_set]; omega)) only [evB0, evB1, evB2, evB3, evB4, evB5, evB6, evB7, evB8, evB9, evB10, evB11, evB12, evB13, evB14, evB15, evB16, evB17, evB18, evB19, evB20, putMix, odE, e_comp, cV, cat_map, cat_some, fm_some, fm_ite, lst_map, rds, args, noSlot, slotsOf, nodupB, bin_repl, ixT_int, ixL_int, putS, putAll, List.set_cons_zero, List.set_cons_succ, List.length_cons, List.length_nil, List.cons_append, List.nil_append, Option.bind_some, Option.map_some, Option.bind_none, Option.map_none, List.take_succ_cons, List.take_zero, List.take_nil, if_true, if_false, ite_true, ite_false, reduceIte, eq_self, List.any_cons, List.any_nil, List.all_cons, List.all_nil, List.contains_nil, List.contains_cons, List.elem_nil, List.elem_cons, beq_self_eq_true, List.map_cons, List.map_nil, Nat.reduceAdd, Nat.reduceLT, Nat.reduceLeDiff, List.isEmpty_nil, List.isEmpty_cons, wipeS, List.length_map, List.length_range, List.getElem?_cons_zero, List.getElem?_cons_succ, List.length_zipIdx, rgF_fin, List.length_finRange, List.length_take, List.length_drop, List.length_append, reduceCtorEq, List.getElem_cons_zero, List.getElem_cons_succ, List.cons_ne_nil, bin_strC, sort_p, fm_nite, List.length_mergeSort, sort_II, s_law_losing, s_law_draw, s_law_seats, s_losing_houses, s_quota, s_rest_seats, kw_0, kw_1, f2, f4, b__law_works_right_2, ls, rs, rp, ss, lp, eq_strS]
  have e1 := s_law_draw (k := k) (by omega) u 20 (by omega) (by omega)
  obtain ⟨a0, a1⟩ := drR_lt u (m := 20) (by omega)
  generalize drR u 20 = na at *
  generalize drU u 20 = u1 at *
  have e2 := s_law_draw (k := k) (by omega) u1 1000 (by omega) (by omega)
  obtain ⟨c0, c1⟩ := drR_lt u1 (m := 1000) (by omega)
  generalize drR u1 1000 = nb at *
  generalize drU u1 1000 = u2 at *
  have e3 := s_law_draw (k := k) (by omega) u2 60 (by omega) (by omega)
  obtain ⟨m0, m1⟩ := drR_lt u2 (m := 60) (by omega)
  generalize drR u2 60 = r at *
  generalize drU u2 60 = u3 at *
  obtain ⟨m, rfl⟩ : ∃ m : Nat, r = (m : Int) := ⟨r.toNat, by omega⟩
  obtain ⟨ρ', lp, z2, z4, z5, z6, z7, g2, g4, g5, g6, g7, rfl⟩ := for_idx (C := CN k) (tg := .name 2) (body := b__law_works_right_2) (f := D.int) (xs := [na, nb, 0, 999])
    (fun _ ρ => ∃ z2 z4 z5 z6 z7 : Slot, z2.free = true ∧ z4.free = true ∧ z5.free = true ∧ z6.free = true ∧ z7.free = true ∧ ρ = [.ref (eUrn u2), .val (eW w), z2, .none, z4, z5, z6, z7, .none])
    (ρ := [.ref (eUrn u2), .val (eW w), .none, .none, .none, .none, .none, .none, .none]) ⟨.none, .none, .none, .none, .none, rfl, rfl, rfl, rfl, rfl, rfl⟩ (by
      rintro i hi _ ⟨z2, z4, z5, z6, z7, g2, g4, g5, g6, g7, rfl⟩
      have bd : 0 ≤ ([na, nb, 0, 999] : List Int)[i] ∧ ([na, nb, 0, 999] : List Int)[i] ≤ 999 := by
        have hi' : i < 4 := hi
        have : i = 0 ∨ i = 1 ∨ i = 2 ∨ i = 3 := by omega
        rcases this with rfl | rfl | rfl | rfl <;> simp <;> omega
      obtain ⟨y4, y5, y6, y7, f4, f5, f6, f7, e⟩ := one ([na, nb, 0, 999] : List Int)[i] u2 z2 z4 z5 z6 z7 bd.1 bd.2 g2 g4 g5 g6 g7
      rw [e, okI_nx]
      exact ⟨_, _, _, _, _, rfl, f4, f5, f6, f7, rfl⟩)
  have t1 : (1 + (m : Int)) = ((m + 1 : Nat) : Int) := by omega
  have t2 : (((m + 1 : Nat) : Int) + 1) / 2 = (((m + 1 + 1) / 2 : Nat) : Int) := by omega
  have lo := s_law_losing (k := k) (by omega) w h (m + 1) (by omega)
  have pl := s_losing_houses (k := k) (by omega) w h (m + 1) (by omega) (by omega)
  have pl2 := s_losing_houses (k := k) (by omega) w h ((m + 1 + 1) / 2) (by omega) (by omega)
  have ll := losL_len (l := w.l) (m := m + 1)
  have sm : ∀ x ∈ losL w.l (m + 1), x.natAbs < 10 ^ 12 := fun x hx => by
    have := losL_bd x hx
    omega
  have rp := repr_TT (xs := losL w.l (m + 1)) (ys := losL w.l (m + 1)) sm sm (by omega) (by omega)
  have ct := losL_cut (l := w.l) (m := m + 1) (c := (m + 1 + 1) / 2) (by omega)
  have it : D.lst [.int na, .int nb, .int 0, .int 999] = tL D.int [na, nb, 0, 999] := rfl
  have lp' : forD (CN k) (.name 2) b__law_works_right_2 [.int na, .int nb, .int 0, .int 999] [.ref (eUrn u2), .val (eW w), .none, .none, .none, .none, .none, .none, .none] = .ok .nx [.ref (eUrn u2), .val (eW w), z2, .none, z4, z5, z6, z7, .none] := lp
  refine ⟨u3, ?_⟩
  refine call_eq ?_
  rw [run_at (tx.T.getD 39 default) rfl rfl]
  show finF 2 [.ref (eUrn u), .val (eW w)] (denSs (CN k) b__law_works_right [.ref (eUrn u), .val (eW w), .none, .none, .none, .none, .none, .none, .none]) = _
  unfold b__law_works_right
  simp (implicitDefEqProofs := false) (disch := first | omega | assumption | (simp only [List.length_map, List.length_range, List.length_finRange, List.length_take, List.length_drop, List.length_replicate, List.length_append, List.length_cons, List.length_nil, List.length_reverse, List.length_set]; omega)) only [evB0, evB1, evB2, evB3, evB4, evB5, evB6, evB7, evB8, evB9, evB10, evB11, evB12, evB13, evB14, evB15, evB16, evB17, evB18, evB19, evB20, putMix, odE, e_comp, cV, cat_map, cat_some, fm_some, fm_ite, lst_map, rds, args, noSlot, slotsOf, nodupB, bin_repl, ixT_int, ixL_int, putS, putAll, List.set_cons_zero, List.set_cons_succ, List.length_cons, List.length_nil, List.cons_append, List.nil_append, Option.bind_some, Option.map_some, Option.bind_none, Option.map_none, List.take_succ_cons, List.take_zero, List.take_nil, if_true, if_false, ite_true, ite_false, reduceIte, eq_self, List.any_cons, List.any_nil, List.all_cons, List.all_nil, List.contains_nil, List.contains_cons, List.elem_nil, List.elem_cons, beq_self_eq_true, List.map_cons, List.map_nil, Nat.reduceAdd, Nat.reduceLT, Nat.reduceLeDiff, List.isEmpty_nil, List.isEmpty_cons, wipeS, List.length_map, List.length_range, List.getElem?_cons_zero, List.getElem?_cons_succ, List.length_zipIdx, rgF_fin, List.length_finRange, List.length_take, List.length_drop, List.length_append, reduceCtorEq, List.getElem_cons_zero, List.getElem_cons_succ, List.cons_ne_nil, bin_strC, sort_p, fm_nite, List.length_mergeSort, sort_II, s_law_losing, s_law_draw, s_law_seats, s_losing_houses, s_quota, s_rest_seats, kw_0, kw_1, e1, e2, e3, lp', g2, g4, g5, g6, g7, t1, t2, lo, pl, pl2, rp, ct, eq_strS, eq_TI]

end TkLaw

set_option Elab.async false
set_option linter.all false
set_option maxRecDepth 100000
set_option maxHeartbeats 0
namespace TkLaw
open PySem Tk
def shr (a b : Nat) (h : 0 < a) (h2 : a ≤ b) (h3 : b ≤ 12) (c : Nat.Coprime a b) : Shr := ⟨⟨(a : Int), b, by omega, c⟩, by rw [Rat.lt_iff]; simp only [show (0 : Rat).num = 0 from rfl, show (0 : Rat).den = 1 from rfl]; omega, by rw [Rat.le_iff]; simp only [show (1 : Rat).num = 1 from rfl, show (1 : Rat).den = 1 from rfl]; omega, h3⟩
def wsA : Wks := ⟨[shr 2 3 (by omega) (by omega) (by omega) (by decide), shr 1 3 (by omega) (by omega) (by omega) (by decide)], by decide, by decide, by decide +kernel⟩
def wsB : Wks := ⟨[shr 1 2 (by omega) (by omega) (by omega) (by decide), shr 5 12 (by omega) (by omega) (by omega) (by decide), shr 1 12 (by omega) (by omega) (by omega) (by decide)], by decide, by decide, by decide +kernel⟩
theorem wsA_sum : sumL wsA.l = 1 := by decide +kernel
theorem wsB_sum : sumL wsB.l = 1 := by decide +kernel
theorem ms2 (le : Nat → Nat → Bool) (a b : Nat) : [a, b].mergeSort le = if le a b then [a, b] else [b, a] := by
  unfold List.mergeSort
  simp [List.MergeSort.Internal.splitInTwo, List.merge]
theorem ordA (N : Int) : ordS wsA.l N = if rkB (lgR wsA.l N) 0 1 then [0, 1] else [1, 0] := ms2 ..
theorem stA : stS wsA.l 4 = [3, 1] := by
  unfold stS seat
  simp only [ordA]
  decide +kernel
theorem losA : losL wsA.l 10 = [] := by
  unfold losL losB seat
  simp only [ordA]
  decide +kernel
theorem s_law_right {k : Nat} (hk : 12 ≤ k) (u : Int × Int × Int) : ∃ u', (CN k).call 40 [.own (eUrn u)] = .ok (.bl true) [.own (eUrn u')] := by
  obtain ⟨k, rfl⟩ : ∃ j, k = j + 1 := ⟨k - 1, by omega⟩
  have r6 : rgF none (.int 6) = some ((List.finRange 6).map fun i : _root_.Fin 6 => .int (i.val : Int)) := rgF_fin (n := 6) (by omega)
  obtain ⟨ρ', lp, u', s, hs, rfl⟩ := for_rng (C := CN k) (tg := .name 1) (body := b__law_right_1) (n := 6) (g := fun i => .int (i.val : Int))
    (fun n ρ => ∃ (u : Int × Int × Int) (s : Slot), s.free = true ∧ ρ = [.own (eUrn u), s, .none]) (ρ := [.own (eUrn u), .none, .none]) ⟨u, .none, rfl, rfl⟩ (by
      rintro x _ ⟨u, s, hs, rfl⟩
      obtain ⟨w, u1, e1, hw, _⟩ := s_law_ones (k := k) (by omega) u 4 (by omega) (by omega) [2, 3, 5, 6, 8, 10, 12] (by decide) (by decide) (by decide)
      obtain ⟨u2, e2⟩ := s_law_works_right (k := k) (by omega) u1 w hw
      have li : D.lst [.int 2, .int 3, .int 5, .int 6, .int 8, .int 10, .int 12] = tL .int [2, 3, 5, 6, 8, 10, 12] := rfl
      simp (implicitDefEqProofs := false) (disch := first | omega | assumption | (simp only [List.length_map, List.length_range, List.length_finRange, List.length_take, List.length_drop, List.length_replicate, List.length_append, List.length_cons, List.length_nil, List.length_reverse, List.length_set]; omega)) only [evB0, evB1, evB2, evB3, evB4, evB5, evB6, evB7, evB8, evB9, evB10, evB11, evB12, evB13, evB14, evB15, evB16, evB17, evB18, evB19, evB20, putMix, odE, e_comp, cV, cat_map, cat_some, fm_some, fm_ite, lst_map, rds, args, noSlot, slotsOf, nodupB, bin_repl, ixT_int, ixL_int, putS, putAll, List.set_cons_zero, List.set_cons_succ, List.length_cons, List.length_nil, List.cons_append, List.nil_append, Option.bind_some, Option.map_some, Option.bind_none, Option.map_none, List.take_succ_cons, List.take_zero, List.take_nil, if_true, if_false, ite_true, ite_false, reduceIte, eq_self, List.any_cons, List.any_nil, List.all_cons, List.all_nil, List.contains_nil, List.contains_cons, List.elem_nil, List.elem_cons, beq_self_eq_true, List.map_cons, List.map_nil, Nat.reduceAdd, Nat.reduceLT, Nat.reduceLeDiff, List.isEmpty_nil, List.isEmpty_cons, wipeS, List.length_map, List.length_range, List.getElem?_cons_zero, List.getElem?_cons_succ, List.length_zipIdx, rgF_fin, List.length_finRange, List.length_take, List.length_drop, List.length_append, reduceCtorEq, List.getElem_cons_zero, List.getElem_cons_succ, List.cons_ne_nil, bin_strC, sort_p, fm_nite, List.length_mergeSort, sort_II, s_law_works_right, s_rest_seats, s_losing_houses, s_law_ones, hs, b__law_right_1, li, e1, e2]
      exact ⟨u2, .val (.int (x.val : Int)), rfl, rfl⟩)
  have wa : (.tup [.tup [.int 2, .int 3], .tup [.int 1, .int 3]] : D) = eW wsA := rfl
  have wb : (.tup [.tup [.int 1, .int 2], .tup [.int 5, .int 12], .tup [.int 1, .int 12]] : D) = eW wsB := rfl
  have m1 : (CN k).call 26 [.val (.tup [.tup [.int 2, .int 3], .tup [.int 1, .int 3]]), .val (.int 4)] = .ok (.tup [.int 3, .int 1]) [.val (.tup [.tup [.int 2, .int 3], .tup [.int 1, .int 3]]), .val (.int 4)] := by
    rw [wa]
    refine (s_rest_seats (k := k) (by omega) wsA wsA_sum 4 (by omega) (by omega)).trans ?_
    rw [stA]; rfl
  have m2 : (CN k).call 27 [.val (.tup [.tup [.int 2, .int 3], .tup [.int 1, .int 3]]), .val (.int 10)] = .ok (.tup []) [.val (.tup [.tup [.int 2, .int 3], .tup [.int 1, .int 3]]), .val (.int 10)] := by
    rw [wa]
    refine (s_losing_houses (k := k) (by omega) wsA wsA_sum 10 (by omega) (by omega)).trans ?_
    rw [losA]; rfl
  obtain ⟨u2, m3⟩ := s_law_works_right (k := k) (by omega) u' wsB wsB_sum
  rw [← wb] at m3
  refine ⟨u2, ?_⟩
  refine call_eq ?_
  rw [run_at (tx.T.getD 40 default) rfl rfl]
  show finF 1 [.own (eUrn u)] (denSs (CN k) b__law_right [.own (eUrn u), .none, .none]) = _
  unfold b__law_right
  have q0 : eqD (.tup []) (.tup []) = some true := by kernel_rfl
  simp (implicitDefEqProofs := false) (disch := first | omega | assumption | (simp only [List.length_map, List.length_range, List.length_finRange, List.length_take, List.length_drop, List.length_replicate, List.length_append, List.length_cons, List.length_nil, List.length_reverse, List.length_set]; omega)) only [evB0, evB1, evB2, evB3, evB4, evB5, evB6, evB7, evB8, evB9, evB10, evB11, evB12, evB13, evB14, evB15, evB16, evB17, evB18, evB19, evB20, putMix, odE, e_comp, cV, cat_map, cat_some, fm_some, fm_ite, lst_map, rds, args, noSlot, slotsOf, nodupB, bin_repl, ixT_int, ixL_int, putS, putAll, List.set_cons_zero, List.set_cons_succ, List.length_cons, List.length_nil, List.cons_append, List.nil_append, Option.bind_some, Option.map_some, Option.bind_none, Option.map_none, List.take_succ_cons, List.take_zero, List.take_nil, if_true, if_false, ite_true, ite_false, reduceIte, eq_self, List.any_cons, List.any_nil, List.all_cons, List.all_nil, List.contains_nil, List.contains_cons, List.elem_nil, List.elem_cons, beq_self_eq_true, List.map_cons, List.map_nil, Nat.reduceAdd, Nat.reduceLT, Nat.reduceLeDiff, List.isEmpty_nil, List.isEmpty_cons, wipeS, List.length_map, List.length_range, List.getElem?_cons_zero, List.getElem?_cons_succ, List.length_zipIdx, rgF_fin, List.length_finRange, List.length_take, List.length_drop, List.length_append, reduceCtorEq, List.getElem_cons_zero, List.getElem_cons_succ, List.cons_ne_nil, bin_strC, sort_p, fm_nite, List.length_mergeSort, sort_II, s_law_works_right, s_rest_seats, s_losing_houses, s_law_ones, r6, lp, m1, m2, m3, q0]

theorem law_true (ns : List Int) (h : ns.length ≤ 63) : ∃ out, run tx.T tx.G 100000 30 41 [.val (.scr ns)] = .ok (.bl true) out := by
  have lp : ∀ n : Nat, n ≤ 3 → ∃ a, Slot.free a = true ∧ forD (CN 29) (.name 1) b_law_1 ((List.finRange n).map fun i => .int (i.val : Int)) [.val (.scr ns), .none] = .ok .nx [.val (.scr ns), a] := by
    intro n hn
    obtain ⟨ρ', e, a, ha, rfl⟩ := for_rng (C := CN 29) (tg := .name 1) (body := b_law_1) (g := fun i : _root_.Fin n => .int (i.val : Int))
      (fun i ρ => ∃ a, Slot.free a = true ∧ ρ = [.val (.scr ns), a]) (ρ := [.val (.scr ns), .none]) ⟨.none, rfl, rfl⟩ (by
        rintro i _ ⟨a, ha, rfl⟩
        have il := i.isLt
        obtain ⟨u, e1⟩ := s_law_pool (k := 29) (by omega) ns i.val (by omega)
        obtain ⟨u', e2⟩ := s_law_right (k := 29) (by omega) u
        simp (implicitDefEqProofs := false) (disch := first | omega | assumption | (simp only [List.length_map, List.length_range, List.length_finRange, List.length_take, List.length_drop, List.length_replicate, List.length_append, List.length_cons, List.length_nil, List.length_reverse, List.length_set]; omega)) only [evB0, evB1, evB2, evB3, evB4, evB5, evB6, evB7, evB8, evB9, evB10, evB11, evB12, evB13, evB14, evB15, evB16, evB17, evB18, evB19, evB20, putMix, odE, e_comp, cV, cat_map, cat_some, fm_some, fm_ite, lst_map, rds, args, noSlot, slotsOf, nodupB, bin_repl, ixT_int, ixL_int, putS, putAll, List.set_cons_zero, List.set_cons_succ, List.length_cons, List.length_nil, List.cons_append, List.nil_append, Option.bind_some, Option.map_some, Option.bind_none, Option.map_none, List.take_succ_cons, List.take_zero, List.take_nil, if_true, if_false, ite_true, ite_false, reduceIte, eq_self, List.any_cons, List.any_nil, List.all_cons, List.all_nil, List.contains_nil, List.contains_cons, List.elem_nil, List.elem_cons, beq_self_eq_true, List.map_cons, List.map_nil, Nat.reduceAdd, Nat.reduceLT, Nat.reduceLeDiff, List.isEmpty_nil, List.isEmpty_cons, wipeS, List.length_map, List.length_range, List.getElem?_cons_zero, List.getElem?_cons_succ, List.length_zipIdx, rgF_fin, List.length_finRange, List.length_take, List.length_drop, List.length_append, reduceCtorEq, List.getElem_cons_zero, List.getElem_cons_succ, List.cons_ne_nil, bin_strC, sort_p, fm_nite, List.length_mergeSort, sort_II, s_law_right, s_law_pool, ha, b_law_1, e1, e2]
        exact ⟨.val (.int (i.val : Int)), rfl, rfl⟩)
    exact ⟨a, ha, e⟩
  have r : ∃ n : Nat, n ≤ 3 ∧ ∀ x : Int, x = (if (if 3 < (ns.length : Int) then 3 else (ns.length : Int)) > 2 then (if 3 < (ns.length : Int) then 3 else (ns.length : Int)) else 2) → rgF none (.int x) = some ((List.finRange n).map fun i => .int (i.val : Int)) := by
    refine ⟨((if (if 3 < (ns.length : Int) then 3 else (ns.length : Int)) > 2 then (if 3 < (ns.length : Int) then 3 else (ns.length : Int)) else 2) : Int).toNat, ?_, fun x hx => ?_⟩
    · split <;> split <;> omega
    · rw [← hx]
      refine rgF_I ?_ ?_ <;> (rw [hx]; split <;> split <;> omega)
  obtain ⟨n, hn, r⟩ := r
  obtain ⟨a, ha, lp⟩ := lp n hn
  refine ⟨[.val (.scr ns)], ?_⟩
  rw [run_at (tx.T.getD 41 default) rfl rfl]
  show finF 1 [.val (.scr ns)] (denSs (CN 29) b_law [.val (.scr ns), .none]) = _
  unfold b_law
  simp (implicitDefEqProofs := false) (disch := first | omega | assumption | (simp only [List.length_map, List.length_range, List.length_finRange, List.length_take, List.length_drop, List.length_replicate, List.length_append, List.length_cons, List.length_nil, List.length_reverse, List.length_set]; omega)) only [evB0, evB1, evB2, evB3, evB4, evB5, evB6, evB7, evB8, evB9, evB10, evB11, evB12, evB13, evB14, evB15, evB16, evB17, evB18, evB19, evB20, putMix, odE, e_comp, cV, cat_map, cat_some, fm_some, fm_ite, lst_map, rds, args, noSlot, slotsOf, nodupB, bin_repl, ixT_int, ixL_int, putS, putAll, List.set_cons_zero, List.set_cons_succ, List.length_cons, List.length_nil, List.cons_append, List.nil_append, Option.bind_some, Option.map_some, Option.bind_none, Option.map_none, List.take_succ_cons, List.take_zero, List.take_nil, if_true, if_false, ite_true, ite_false, reduceIte, eq_self, List.any_cons, List.any_nil, List.all_cons, List.all_nil, List.contains_nil, List.contains_cons, List.elem_nil, List.elem_cons, beq_self_eq_true, List.map_cons, List.map_nil, Nat.reduceAdd, Nat.reduceLT, Nat.reduceLeDiff, List.isEmpty_nil, List.isEmpty_cons, wipeS, List.length_map, List.length_range, List.getElem?_cons_zero, List.getElem?_cons_succ, List.length_zipIdx, rgF_fin, List.length_finRange, List.length_take, List.length_drop, List.length_append, reduceCtorEq, List.getElem_cons_zero, List.getElem_cons_succ, List.cons_ne_nil, bin_strC, sort_p, fm_nite, List.length_mergeSort, sort_II, s_law_right, s_law_pool, r _ rfl, ha, lp]

end TkLaw

set_option Elab.async false
set_option linter.all false
set_option maxRecDepth 100000
set_option maxHeartbeats 0
namespace TkLaw
open PySem PySem.Spec PyProof.Rows L2 Tk
def top (i : Nat) : Stmt := PySem.Challenge.pw_tickhands_k38_whole_seats_by_rests.main.body.getD i (.Pass ⟨0, 0, 0, 0⟩)
def dOf (y x : PySem.Str) (i : Nat) : He.DefD := ⟨(y, none), x, x, defArgs (top i), defBody (top i), defScope (top i), [], []⟩
def fn : List He.DefD := ([dOf "is_whole" "is_whole" 9, dOf "is_between" "is_between" 10, dOf "is_tuple_of" "is_tuple_of" 11, dOf "first_wrong" "first_wrong" 12, dOf "fraction" "fraction" 13, dOf "is_fraction_by" "is_fraction_by" 14, dOf "whole" "whole" 15, dOf "sum_of" "sum_of" 16, dOf "times" "times" 17, dOf "is_less" "is_less" 18, dOf "total" "total" 19, dOf "rounded_down" "rounded_down" 20, dOf "rounded_up" "rounded_up" 21, dOf "is_share_by" "is_share_by" 26, dOf "period_by" "period_by" 27, dOf "wrong_in_works" "wrong_in_works" 28] : List He.DefD) ++ ([dOf "check_works" "check_works" 30, dOf "check_number" "check_number" 31, dOf "check_share" "check_share" 32, dOf "is_one_house" "is_one_house" 35, dOf "rest_of" "rest_of" 36, dOf "greatest_rests" "greatest_rests" 37, dOf "rest_seats_by" "rest_seats_by" 38, dOf "does_some_lose" "does_some_lose" 39, dOf "losing_houses_by" "losing_houses_by" 40, dOf "check_house" "check_house" 44, dOf "rest_seats" "rest_seats" 45, dOf "losing_houses" "losing_houses" 46, dOf "quota_by" "quota_by" 48, dOf "quota" "quota" 51, dOf "_law_pool" "_law_pool" 53, dOf "_law_draw" "_law_draw" 54] : List He.DefD) ++ ([dOf "_law_pick" "_law_pick" 55, dOf "_law_f" "_law_f" 56, dOf "_law_period" "_law_period" 57, dOf "_law_units" "_law_units" 58, dOf "_law_ones" "_law_ones" 59, dOf "_law_seats" "_law_seats" 60, dOf "_law_losing" "_law_losing" 61, dOf "_law_works_right" "_law_works_right" 62, dOf "_law_right" "_law_right" 63, dOf "law" "law" 64] : List He.DefD)
abbrev R : PySem.W.OpenRow := PySem.W.OpenLaw.row PySem.Challenge.rw_tickhands_k38_whole_seats_by_rests
abbrev hk : PySem.W.Hook := hookX 4 (linkB tx) fn
def ob (s : PySem.W.SharedT) : He.AlD := obsXG 4 (linkB tx) fn (HandSHeadRun.getT s)
theorem ob_eq (s : PySem.W.SharedT) : ob s = hk.obs s.abs := obsXG_eq (HandSHeadRun.getT_eq s)
def loose : List PySem.Str := (["TickError", "NotNow", "InvalidNumber", "InvalidShare", "InvalidWorks", "NOUGHT", "is_whole", "is_between", "is_tuple_of", "first_wrong", "fraction", "is_fraction_by", "whole", "sum_of", "times", "is_less"] : List PySem.Str) ++ (["total", "rounded_down", "rounded_up", "MOST_WORKS", "MOST_UNDER", "MOST_PERIOD", "is_share_by", "period_by", "wrong_in_works", "check_works", "check_number", "check_share", "UNIT", "is_one_house", "rest_of", "greatest_rests"] : List PySem.Str) ++ (["rest_seats_by", "does_some_lose", "losing_houses_by", "MOST_SEATS", "MOST_HOUSE", "check_house", "rest_seats", "losing_houses", "quota_by", "MOST_TIME", "quota", "_law_pool", "_law_draw", "_law_pick", "_law_f", "_law_period"] : List PySem.Str) ++ (["_law_units", "_law_ones", "_law_seats", "_law_losing", "_law_works_right", "_law_right"] : List PySem.Str)
theorem run_eq (w : World) : HandSHeadRun.RunEqI R (PySem.W.view R.prog [0, 64]) hk ob 3000 loose w := by
  unfold HandSHeadRun.RunEqI
  kernel_rfl
theorem chk : okDefs tx tx.T fn = true := by decide +kernel
theorem bok_0 : BOk (tbs.getD 0 default) (fn.getD 0 (dOf "" "" 0)) := fun kV doc pm an cdv ct us hl => match us, hl with | [_], _ => rfl
theorem bok_1 : BOk (tbs.getD 1 default) (fn.getD 1 (dOf "" "" 0)) := fun kV doc pm an cdv ct us hl => match us, hl with | [_, _, _], _ => rfl
theorem bok_2 : BOk (tbs.getD 2 default) (fn.getD 2 (dOf "" "" 0)) := fun kV doc pm an cdv ct us hl => match us, hl with | [_, _], _ => rfl
theorem bok_3 : BOk (tbs.getD 3 default) (fn.getD 3 (dOf "" "" 0)) := fun kV doc pm an cdv ct us hl => match us, hl with | [_, _, _, _], _ => rfl
theorem bok_4 : BOk (tbs.getD 4 default) (fn.getD 4 (dOf "" "" 0)) := fun kV doc pm an cdv ct us hl => match us, hl with | [_, _], _ => rfl
theorem bok_5 : BOk (tbs.getD 5 default) (fn.getD 5 (dOf "" "" 0)) := fun kV doc pm an cdv ct us hl => match us, hl with | [_], _ => rfl
theorem bok_6 : BOk (tbs.getD 6 default) (fn.getD 6 (dOf "" "" 0)) := fun kV doc pm an cdv ct us hl => match us, hl with | [_], _ => rfl
theorem bok_7 : BOk (tbs.getD 7 default) (fn.getD 7 (dOf "" "" 0)) := fun kV doc pm an cdv ct us hl => match us, hl with | [_, _], _ => rfl
theorem bok_8 : BOk (tbs.getD 8 default) (fn.getD 8 (dOf "" "" 0)) := fun kV doc pm an cdv ct us hl => match us, hl with | [_, _], _ => rfl
theorem bok_9 : BOk (tbs.getD 9 default) (fn.getD 9 (dOf "" "" 0)) := fun kV doc pm an cdv ct us hl => match us, hl with | [_, _], _ => rfl
theorem bok_10 : BOk (tbs.getD 10 default) (fn.getD 10 (dOf "" "" 0)) := fun kV doc pm an cdv ct us hl => match us, hl with | [_], _ => rfl
theorem bok_11 : BOk (tbs.getD 11 default) (fn.getD 11 (dOf "" "" 0)) := fun kV doc pm an cdv ct us hl => match us, hl with | [_], _ => rfl
theorem bok_12 : BOk (tbs.getD 12 default) (fn.getD 12 (dOf "" "" 0)) := fun kV doc pm an cdv ct us hl => match us, hl with | [_], _ => rfl
theorem bok_13 : BOk (tbs.getD 13 default) (fn.getD 13 (dOf "" "" 0)) := fun kV doc pm an cdv ct us hl => match us, hl with | [_], _ => rfl
theorem bok_14 : BOk (tbs.getD 14 default) (fn.getD 14 (dOf "" "" 0)) := fun kV doc pm an cdv ct us hl => match us, hl with | [_], _ => rfl
theorem bok_15 : BOk (tbs.getD 15 default) (fn.getD 15 (dOf "" "" 0)) := fun kV doc pm an cdv ct us hl => match us, hl with | [_], _ => rfl
theorem bok_16 : BOk (tbs.getD 16 default) (fn.getD 16 (dOf "" "" 0)) := fun kV doc pm an cdv ct us hl => match us, hl with | [_], _ => rfl
theorem bok_17 : BOk (tbs.getD 17 default) (fn.getD 17 (dOf "" "" 0)) := fun kV doc pm an cdv ct us hl => match us, hl with | [_, _, _], _ => rfl
theorem bok_18 : BOk (tbs.getD 18 default) (fn.getD 18 (dOf "" "" 0)) := fun kV doc pm an cdv ct us hl => match us, hl with | [_], _ => rfl
theorem bok_19 : BOk (tbs.getD 19 default) (fn.getD 19 (dOf "" "" 0)) := fun kV doc pm an cdv ct us hl => match us, hl with | [_], _ => rfl
theorem bok_20 : BOk (tbs.getD 20 default) (fn.getD 20 (dOf "" "" 0)) := fun kV doc pm an cdv ct us hl => match us, hl with | [_, _], _ => rfl
theorem bok_21 : BOk (tbs.getD 21 default) (fn.getD 21 (dOf "" "" 0)) := fun kV doc pm an cdv ct us hl => match us, hl with | [_, _], _ => rfl
theorem bok_22 : BOk (tbs.getD 22 default) (fn.getD 22 (dOf "" "" 0)) := fun kV doc pm an cdv ct us hl => match us, hl with | [_, _], _ => rfl
theorem bok_23 : BOk (tbs.getD 23 default) (fn.getD 23 (dOf "" "" 0)) := fun kV doc pm an cdv ct us hl => match us, hl with | [_, _], _ => rfl
theorem bok_24 : BOk (tbs.getD 24 default) (fn.getD 24 (dOf "" "" 0)) := fun kV doc pm an cdv ct us hl => match us, hl with | [_, _], _ => rfl
theorem bok_25 : BOk (tbs.getD 25 default) (fn.getD 25 (dOf "" "" 0)) := fun kV doc pm an cdv ct us hl => match us, hl with | [_, _, _, _], _ => rfl
theorem bok_26 : BOk (tbs.getD 26 default) (fn.getD 26 (dOf "" "" 0)) := fun kV doc pm an cdv ct us hl => match us, hl with | [_, _], _ => rfl
theorem bok_27 : BOk (tbs.getD 27 default) (fn.getD 27 (dOf "" "" 0)) := fun kV doc pm an cdv ct us hl => match us, hl with | [_, _], _ => rfl
theorem bok_28 : BOk (tbs.getD 28 default) (fn.getD 28 (dOf "" "" 0)) := fun kV doc pm an cdv ct us hl => match us, hl with | [_, _], _ => rfl
theorem bok_29 : BOk (tbs.getD 29 default) (fn.getD 29 (dOf "" "" 0)) := fun kV doc pm an cdv ct us hl => match us, hl with | [_, _], _ => rfl
theorem bok_30 : BOk (tbs.getD 30 default) (fn.getD 30 (dOf "" "" 0)) := fun kV doc pm an cdv ct us hl => match us, hl with | [_, _], _ => rfl
theorem bok_31 : BOk (tbs.getD 31 default) (fn.getD 31 (dOf "" "" 0)) := fun kV doc pm an cdv ct us hl => match us, hl with | [_, _], _ => rfl
theorem bok_32 : BOk (tbs.getD 32 default) (fn.getD 32 (dOf "" "" 0)) := fun kV doc pm an cdv ct us hl => match us, hl with | [_, _], _ => rfl
theorem bok_33 : BOk (tbs.getD 33 default) (fn.getD 33 (dOf "" "" 0)) := fun kV doc pm an cdv ct us hl => match us, hl with | [_, _], _ => rfl
theorem bok_34 : BOk (tbs.getD 34 default) (fn.getD 34 (dOf "" "" 0)) := fun kV doc pm an cdv ct us hl => match us, hl with | [_], _ => rfl
theorem bok_35 : BOk (tbs.getD 35 default) (fn.getD 35 (dOf "" "" 0)) := fun kV doc pm an cdv ct us hl => match us, hl with | [_], _ => rfl
theorem bok_36 : BOk (tbs.getD 36 default) (fn.getD 36 (dOf "" "" 0)) := fun kV doc pm an cdv ct us hl => match us, hl with | [_, _, _], _ => rfl
theorem bok_37 : BOk (tbs.getD 37 default) (fn.getD 37 (dOf "" "" 0)) := fun kV doc pm an cdv ct us hl => match us, hl with | [_, _], _ => rfl
theorem bok_38 : BOk (tbs.getD 38 default) (fn.getD 38 (dOf "" "" 0)) := fun kV doc pm an cdv ct us hl => match us, hl with | [_, _], _ => rfl
theorem bok_39 : BOk (tbs.getD 39 default) (fn.getD 39 (dOf "" "" 0)) := fun kV doc pm an cdv ct us hl => match us, hl with | [_, _], _ => rfl
theorem bok_40 : BOk (tbs.getD 40 default) (fn.getD 40 (dOf "" "" 0)) := fun kV doc pm an cdv ct us hl => match us, hl with | [_], _ => rfl
theorem bok_41 : BOk (tbs.getD 41 default) (fn.getD 41 (dOf "" "" 0)) := fun kV doc pm an cdv ct us hl => match us, hl with | [_], _ => rfl
theorem boks : BOks tx.T fn := ⟨bok_0, bok_1, bok_2, bok_3, bok_4, bok_5, bok_6, bok_7, bok_8, bok_9, bok_10, bok_11, bok_12, bok_13, bok_14, bok_15, bok_16, bok_17, bok_18, bok_19, bok_20, bok_21, bok_22, bok_23, bok_24, bok_25, bok_26, bok_27, bok_28, bok_29, bok_30, bok_31, bok_32, bok_33, bok_34, bok_35, bok_36, bok_37, bok_38, bok_39, bok_40, bok_41, trivial⟩
theorem kok_0 : KOk tx fn (27, [1, 0]) := by
  intro b d hb hd
  cases hb; cases hd
  exact ⟨rfl, by decide, fun kV doc pm an cdv ct ws hw => match ws, hw with | [_, _], _ => rfl⟩
theorem kok_1 : KOk tx fn (26, [1, 0]) := by
  intro b d hb hd
  cases hb; cases hd
  exact ⟨rfl, by decide, fun kV doc pm an cdv ct ws hw => match ws, hw with | [_, _], _ => rfl⟩
theorem koks : KOks tx fn tx.KW := ⟨kok_0, kok_1, trivial⟩
end TkLaw
set_option Elab.async false
set_option linter.all false
set_option maxRecDepth 100000
set_option maxHeartbeats 0
open PySem PySem.W PySem.Calls PyProof.Rows
theorem PySem.Challenge.cw_tickhands_k38_whole_seats_by_rests_holds : PySem.Challenge.rw_tickhands_k38_whole_seats_by_rests.Holds := by
  w_on; o_law
  refine HandSHeadRun.head_imp (r := OpenLaw.row PySem.Challenge.rw_tickhands_k38_whole_seats_by_rests) (q := view (OpenLaw.row PySem.Challenge.rw_tickhands_k38_whole_seats_by_rests).prog [0, 64]) (H := TkLaw.hk) (ob := TkLaw.ob) (M := 3000) (loose := TkLaw.loose) (d := HandSHeadRun.topDef (OpenLaw.row PySem.Challenge.rw_tickhands_k38_whole_seats_by_rests).prog 64) (kwd := []) TkLaw.ob_eq TkLaw.run_eq
    (by kernel_rfl) (by kernel_rfl) (by kernel_rfl) (by rfl) (by first | assumption | decide +kernel) (by decide +kernel) ⟨rfl, rfl, rfl, rfl, rfl, by decide +kernel⟩ ?hw ?hc
  case hw => w_witness2
  case hc =>
    refine L2.g_walk (l := PySem.Challenge.rw_tickhands_k38_whole_seats_by_rests) (n := 63) (k := 30) (x := "script") rfl (by decide) (by kernel_rfl) ⟨rfl, by decide, by decide⟩ ?F
    intro w mg fa h Y G hmg0
    have hmg : mg ("law" : PySem.Str) = some (.ref fa) := by
      have e : (HandSHeadRun.topDef (OpenLaw.row PySem.Challenge.rw_tickhands_k38_whole_seats_by_rests).prog 64).name = ("law" : PySem.Str) := by kernel_rfl
      rw [← e]
      exact hmg0
    exact Tk.law_F (wf := 100000) (f := 41) (b := TkLaw.tbs.getD 41 default) (d := TkLaw.fn.getD 41 (TkLaw.dOf "" "" 0)) TkLaw.chk TkLaw.boks TkLaw.koks rfl rfl rfl rfl TkLaw.law_true Y G hmg
