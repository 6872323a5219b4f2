import PyProof.Rows.All
import Wide.All
import OpenK.AllK
import Wide.FinOn
import PySem.Challenge.RW_kindbags_k03_open_names_and_lifted
import HandS.ForMost
import HandS.ForExc
import HandS.IsInst
import HandS.More
import HandS.Wide
import HandS.Flow
import HandS.CallSlots
import KE.DataEq
import KE.DataFind
import HandS.TupAny
import HandS.TupMul
import HandS.SortInts
import KE.LtData
import KE.KSortTupAny
import HandS.SortOrd
import KE.LtSeq
import KE.KSortTup
import HandS.SetFor
import HandS.Walk
import HandS.Zip
import HandS.Rev
import KE.GoesEnum
import KE.DataMinMax
import HandS.SortKw
import HandS.Style
import HandS.Strs
import PyProof.Rows.SetFrom
import HandS.Dict
import HandS.Ends
import HandS.Words
import HandS.WordsExc
import HandS.Defaults
import KE.KStateDown
import Lean
import HandS.Head0
import HandS.Head1
import HandS.Head2
import HandS.HeadEnd
import HandS.HeadHook1
import HandS.HeadHook2
import HandS.HeadHook3
import HandS.Text
set_option Elab.async false
set_option linter.all false
set_option maxRecDepth 100000
/-! Ly0: values, states, the small language and its evaluator. -/
namespace Ly
open PySem

/-- values: tuples and lists by what they hold; ref: an object of the store -/
inductive D where
  | non | bl (b : Bool) | int (i : Int) | str (s : Str) | tup (xs : List D) | lst (xs : List D) | dct (ks vs : List D) | ref (n : Nat) | scr (ns : List Int)
  deriving Inhabited

mutual
def D.beq : D → D → Bool
  | .non, .non => true
  | .bl a, .bl b => a == b
  | .int a, .int b => decide (a = b)
  | .str a, .str b => decide (a = b)
  | .tup a, .tup b => D.beqs a b
  | .lst a, .lst b => D.beqs a b
  | .dct a c, .dct b d => D.beqs a b && D.beqs c d
  | .ref a, .ref b => decide (a = b)
  | _, _ => false
def D.beqs : List D → List D → Bool
  | [], [] => true
  | a :: as, b :: bs => D.beq a b && D.beqs as bs
  | _, _ => false
end
def b2i (b : Bool) : Int := if b then 1 else 0
mutual
def D.eqv : D → D → Bool
  | .non, .non => true
  | .bl a, .bl b => a == b
  | .bl a, .int b => decide (b2i a = b)
  | .int a, .bl b => decide (a = b2i b)
  | .int a, .int b => decide (a = b)
  | .str a, .str b => decide (a = b)
  | .tup a, .tup b => D.eqvs a b
  | .lst a, .lst b => D.eqvs a b
  | _, _ => false
def D.eqvs : List D → List D → Bool
  | [], [] => true
  | a :: as, b :: bs => D.eqv a b && D.eqvs as bs
  | _, _ => false
end
mutual
def D.pl : D → Bool
  | .tup a => D.pls a
  | .lst a => D.pls a
  | .dct _ _ => false
  | .ref _ => false
  | .scr _ => false
  | _ => true
def D.pls : List D → Bool
  | [] => true
  | a :: as => D.pl a && D.pls as
end
mutual
def D.dep : D → Nat
  | .tup a => D.deps a + 1
  | .lst a => D.deps a + 1
  | _ => 0
def D.deps : List D → Nat
  | [] => 0
  | a :: as => max (D.dep a) (D.deps as)
end
mutual
def D.nb : D → Bool
  | .bl _ => false
  | .tup a => D.nbs a
  | .lst a => D.nbs a
  | .dct a b => D.nbs a && D.nbs b
  | _ => true
def D.nbs : List D → Bool
  | [] => true
  | a :: as => D.nb a && D.nbs as
end

def D.rk : D → Nat
  | .non => 0 | .bl _ => 1 | .int _ => 2 | .str _ => 3 | .tup _ => 4 | .lst _ => 5 | .dct _ _ => 6 | .ref _ => 7 | .scr _ => 8
def ci (a b : Int) : Ordering := if a < b then .lt else if a = b then .eq else .gt
def cn (a b : Nat) : Ordering := if a < b then .lt else if a = b then .eq else .gt
def cs (a b : Str) : Ordering := if a = b then .eq else if a.cps.toList < b.cps.toList then .lt else .gt
mutual
/-- as Python's < tells, where it tells -/
def D.ord : D → D → Ordering
  | .int a, .int b => ci a b
  | .str a, .str b => cs a b
  | .tup a, .tup b => D.ords a b
  | a, b => cn a.rk b.rk
def D.ords : List D → List D → Ordering
  | [], [] => .eq
  | [], _ :: _ => .lt
  | _ :: _, [] => .gt
  | x :: xs, y :: ys => match D.ord x y with
    | .eq => D.ords xs ys
    | .lt => .lt
    | .gt => .gt
end
mutual
def D.sd : D → Bool
  | .int _ => true
  | .str _ => true
  | .tup xs => D.sds xs
  | _ => false
def D.sds : List D → Bool
  | [] => true
  | x :: xs => D.sd x && D.sds xs
end
mutual
/-- < tells of the two -/
def D.cok : D → D → Bool
  | .int _, .int _ => true
  | .str _, .str _ => true
  | .tup a, .tup b => D.coks a b
  | _, _ => false
def D.coks : List D → List D → Bool
  | [], _ => true
  | _ :: _, [] => true
  | x :: xs, y :: ys => bif D.eqv x y then D.coks xs ys else D.cok x y
end
def D.lt (x y : D) : Bool := D.ord x y == .lt
def D.lts (x y : List D) : Bool := D.ords x y == .lt
/-- how a tuple begins -/
def hdI : D → Bool
  | .tup (.int _ :: _) => true
  | _ => false
def hdS : D → Bool
  | .tup (.str _ :: _) => true
  | _ => false
/-- tuples that sort: all begin with a whole number, or all with a text, and any two compare -/
def srtOk (xs : List D) : Bool := (xs.all hdI || xs.all hdS) && D.sds xs && decide (D.deps xs ≤ 200) && xs.all fun x => xs.all fun y => D.cok x y
def insD (x : D) : List D → List D
  | [] => [x]
  | y :: ys => if D.ord x y = .gt then y :: insD x ys else x :: y :: ys
def sortD : List D → List D
  | [] => []
  | x :: xs => insD x (sortD xs)
/-- objects of the store -/
inductive MO where
  | lst (xs : List D) | dct (ks vs : List D) | ins (c : Str) (fs : List (Str × D))
  deriving Inhabited
abbrev Mem := List MO
abbrev Env := List (Option (D × Bool))
/-- a state within a def's body: slots (with «the slot alone holds this list»), the store -/
structure S where
  env : Env
  mem : Mem
inductive R (α : Type) where
  | ok (a : α) (s : S)
  | exc (c : Str) (fs : List D) (s : S)
  | no
/-- no exception leaves a comprehension -/
def R.noX {α : Type} : R α → R α
  | .ok a s => .ok a s
  | _ => .no
def R.bind {α β : Type} : R α → (α → S → R β) → R β
  | .ok a s, f => f a s
  | .exc c fs s, _ => .exc c fs s
  | .no, _ => .no
/-- a call's end -/
inductive CR where
  | ok (d : D) (fr : Bool) (m : Mem)
  | exc (c : Str) (fs : List D) (m : Mem)
  | no

inductive Op2 where | add | sub | mul | fdiv | mod | pow
  deriving DecidableEq
inductive Cm where | eq | ne | lt | le | gt | ge | is_ | isn | in_ | nin
  deriving DecidableEq
inductive Ty where | int | bool | str | tuple | list | dict
  deriving DecidableEq
/-- what a loop walks -/
inductive IK where | seq | rng | enm | zip | itm | rev
  deriving DecidableEq
/-- built-in functions -/
inductive Bf where | len | int | str | tuple | list | max | min | abs | sum | all | sorted | ssorted | maxd (d : Int)
  deriving DecidableEq
/-- methods that read -/
inductive Mr where | count | index | join | startswith | get | upper
  deriving DecidableEq
/-- methods that change their object -/
inductive Mw where | append | extend | pop | clear | reverse | insert
  deriving DecidableEq
/-- targets -/
inductive T where | v (i : Nat) | tup (is : List Nat)
  deriving DecidableEq

inductive E where
  | c (d : D)
  | v (i : Nat)
  | g (x : Str) (d : D)
  | tup (es : List E) | lst (es : List E) | dct (ks vs : List E)
  | bin (op : Op2) (a b : E)
  | neg (a : E) | not (a : E) | and (a b : E) | or (a b : E)
  | cmp (op : Cm) (a b : E)
  | chn (op op' : Cm) (a b c : E)
  | ife (c a b : E)
  | ix (a b : E)
  | sl (a lo hi : E)
  | isi (a : E) (t : Ty)
  | call (f : Str) (es : List E)
  | blt (f : Bf) (es : List E)
  | mr (m : Mr) (a : E) (es : List E)
  | mw (m : Mw) (a : E) (es : List E)
  | lc (elt : E) (tg : T) (k : IK) (its : List E) (ifs : List E) (own : List Nat)
  | lcR (elt : E) (tg : T) (e : E) (ifs : List E) (own : List Nat)
  | mxd (a : E) (d : Int)
  | slr (a : E)
  | dctK | dctT
  | sset (a : E)
  | dead
  | nil
  deriving Inhabited

inductive St where
  | ex (e : E)
  | asg (t : T) (e : E)
  | seti (a i e : E)
  | setd (a i e : E)
  | aug (i : Nat) (op : Op2) (e : E)
  | ret (e : E) | retn
  | ife (c : E) (a b : List St)
  | for_ (t : T) (k : IK) (es : List E) (body : List St)
  | forR (t : T) (e : E) (body : List St)
  | whl (c : E) (body : List St)
  | pass | brk | cont
  | dead
  deriving Inhabited

/-- a def: how many parameters, slots, which slots hold objects of the store -/
structure Fn where
  ps : Nat
  ns : Nat
  sh : List Nat
  body : List St
inductive Fl where
  | nx | rt (d : D) (fr : Bool) | br | ct

/-! ### operations by values -/
def inB (i : Int) : Bool := decide (-(2 ^ 64) < i) && decide (i < 2 ^ 64)
def opBin : Op2 → D → D → Option (D × Bool)
  | .add, .int i, .int j => some (.int (i + j), false)
  | .add, .str x, .str y => if x.length + y.length ≤ sizeLine then some (.str (x ++ y), false) else none
  | .add, .tup xs, .tup ys => if xs.length + ys.length ≤ sizeLine then some (.tup (xs ++ ys), false) else none
  | .add, .lst xs, .lst ys => if xs.length + ys.length ≤ sizeLine then some (.lst (xs ++ ys), true) else none
  | .sub, .int i, .int j => some (.int (i - j), false)
  | .mul, .int i, .int j => if inB j || inB i then some (.int (i * j), false) else none
  | .mul, .lst xs, .int k => if decide (-(2 ^ 62) ≤ k) && decide (k < 2 ^ 62) && decide (xs.length * k.toNat ≤ sizeLine) then some (.lst (List.replicate k.toNat xs).flatten, true) else none
  | .mul, .tup xs, .int k => if !xs.isEmpty && decide (2 ≤ k) && decide (k ≤ 1000) && decide (xs.length ≤ 1000) then some (.tup (List.replicate k.toNat xs).flatten, false) else none
  | .fdiv, .int i, .int j => if decide (0 < j) && decide (j < 2 ^ 64) then some (.int (i / j), false) else none
  | .mod, .int i, .int j => if decide (0 < j) then some (.int (i % j), false) else none
  | .pow, .int i, .int j => if decide (0 ≤ j) && decide (j ≤ 1000) && inB i then some (.int (i ^ j.toNat), false) else none
  | _, _, _ => none
def eqOk (a b : D) : Bool := D.pl a && D.pl b && decide (min (D.dep a) (D.dep b) ≤ 200)
def opEq : D → D → Option Bool
  | .str x, .str y => some (decide (x = y))
  | .int i, .int j => some (decide (i = j))
  | a, b => if eqOk a b then some (D.eqv a b) else none
/-- in a dict: keys are whole numbers, texts, tuples of these -/
def D.k1 : D → Bool
  | .int _ => true
  | .str _ => true
  | _ => false
def D.ktup : D → Bool
  | .tup xs => xs.all D.k1
  | _ => false
def D.kI : D → Bool
  | .int _ => true
  | _ => false
def D.kS : D → Bool
  | .str _ => true
  | _ => false
/-- tuples of whole numbers, of first and second: they may be keys -/
def D.rw : D → Bool
  | .str s => decide (s = "first") || decide (s = "second")
  | _ => false
def D.trk (xs : List D) : Bool := xs.all D.kI || xs.all D.rw
def D.kT : D → Bool
  | .tup xs => D.trk xs
  | _ => false
/-- the key is of the keys' sort (the empty dict for tuples holds one None more) -/
def kfit (k : D) (ks vs : List D) : Bool := if vs.length = ks.length then (D.kS k && ks.all D.kS) || (D.kI k && ks.all D.kI) || (D.kT k && ks.all D.kT && !ks.isEmpty) else ks.isEmpty && D.kT k
def dLook (k : D) : List D → List D → Option D
  | k' :: ks, v :: vs => if D.beq k k' then some v else dLook k ks vs
  | _, _ => none
def dPutV (k v : D) : List D → List D → List D
  | k' :: ks, v' :: vs => if D.beq k k' then v :: vs else v' :: dPutV k v ks vs
  | _, _ => [v]
def dPutK (k : D) : List D → List D
  | k' :: ks => if D.beq k k' then k' :: ks else k' :: dPutK k ks
  | [] => [k]
def anyEq (a : D) (xs : List D) : Option Bool := if D.pl a && D.pls xs && decide (D.dep a ≤ 200) then some (xs.any fun x => D.eqv x a) else none
def opIn : D → D → Option Bool
  | a, .tup xs => anyEq a xs
  | a, .lst xs => anyEq a xs
  | .str x, .str z => if x.length = 1 then some (decide (x.cps.getD 0 0 ∈ z.cps.toList)) else none
  | a, .dct ks vs => if kfit a ks vs then some (dLook a ks vs).isSome else none
  | _, _ => none
def D.isNon : D → Bool
  | .non => true
  | _ => false
def opCmp : Cm → D → D → Option Bool
  | .eq, a, b => opEq a b
  | .ne, a, b => (opEq a b).map (!·)
  | .lt, .int i, .int j => some (decide (i < j))
  | .lt, .tup xs, .tup ys => if D.sds xs && D.sds ys && decide (D.deps xs < 200) && D.coks xs ys then some (D.lts xs ys) else none
  | .le, .int i, .int j => some (decide (i ≤ j))
  | .gt, .int i, .int j => some (decide (j < i))
  | .ge, .int i, .int j => some (decide (j ≤ i))
  | .is_, a, .non => some (D.isNon a)
  | .isn, a, .non => some (!D.isNon a)
  | .is_, .bl a, .bl b => some (a == b)
  | .isn, .bl a, .bl b => some (!(a == b))
  | .in_, a, b => opIn a b
  | .nin, a, b => (opIn a b).map (!·)
  | _, _, _ => none
def D.at (xs : List D) (i : Int) : Option D := L2.atI xs i
def opIx : D → D → Option D
  | .tup xs, .int i => D.at xs i
  | .lst xs, .int i => D.at xs i
  | .scr ns, .int i => (L2.atI ns i).map D.int
  | .str z, .int i => if z.length ≤ sizeLine then (L2.atI z.cps.toList i).map fun c => .str ⟨#[c]⟩ else none
  | .dct ks vs, k => if kfit k ks vs then dLook k ks vs else none
  | _, _ => none
/-- a part of a slice -/
def partI : E → D → Option (Option Int)
  | .nil, _ => some none
  | _, .int i => some (some i)
  | _, _ => none
def cutD (xs : List D) (lo hi : Option Int) : List D := (xs.drop (HT.sIx xs.length 0 lo)).take (HT.sIx xs.length xs.length hi - HT.sIx xs.length 0 lo)
def opSl : D → Option Int → Option Int → Option (D × Bool)
  | .tup xs, lo, hi => some (.tup (cutD xs lo hi), false)
  | .lst xs, lo, hi => some (.lst (cutD xs lo hi), true)
  | .scr ns, lo, hi => some (.lst (cutD (ns.map D.int) lo hi), true)
  | .str z, lo, hi => if z.length ≤ sizeLine then some (.str (L2.cutS z lo hi), false) else none
  | _, _, _ => none
def isTy : D → Ty → Bool
  | .int _, .int => true
  | .bl _, .int => true
  | .bl _, .bool => true
  | .str _, .str => true
  | .tup _, .tuple => true
  | .lst _, .list => true
  | .scr _, .list => true
  | .dct _ _, .dict => true
  | _, _ => false
def D.typed : D → Bool
  | .ref _ => false
  | _ => true
def D.ints? : List D → Option (List Int)
  | [] => some []
  | .int i :: r => (D.ints? r).map (i :: ·)
  | _ :: _ => none
def D.bls? : List D → Option (List Bool)
  | [] => some []
  | .bl i :: r => (D.bls? r).map (i :: ·)
  | _ :: _ => none
def D.strs? : List D → Option (List Str)
  | [] => some []
  | .str i :: r => (D.strs? r).map (i :: ·)
  | _ :: _ => none
def maxL : List Int → Option Int
  | [] => none
  | i :: r => match maxL r with | none => some i | some j => some (max i j)
def insI (i : Int) : List Int → List Int
  | [] => [i]
  | j :: r => if i ≤ j then i :: j :: r else j :: insI i r
def sortI : List Int → List Int
  | [] => []
  | i :: r => insI i (sortI r)
def dedupI : List Int → List Int
  | [] => []
  | i :: r => if i ∈ r then dedupI r else i :: dedupI r
def bfn : Bf → List D → Option (D × Bool)
  | .len, [.tup xs] => some (.int xs.length, false)
  | .len, [.lst xs] => some (.int xs.length, false)
  | .len, [.scr ns] => some (.int ns.length, false)
  | .len, [.str z] => if z.length ≤ sizeLine then some (.int z.length, false) else none
  | .int, [.int i] => some (.int i, false)
  | .int, [.bl b] => some (.int (if b then 1 else 0), false)
  | .int, [.str z] => if z.length ≤ 640 then (PySem.intText? z).map fun n => (.int n, false) else none
  | .str, [.int i] => if decide (-(2 ^ 64) < i) && decide (i < 2 ^ 64) then some (.str (Str.ofString (toString i)), false) else none
  | .tuple, [.tup xs] => some (.tup xs, false)
  | .tuple, [.lst xs] => some (.tup xs, false)
  | .list, [.tup xs] => some (.lst xs, true)
  | .list, [.lst xs] => some (.lst xs, true)
  | .max, [.int i, .int j] => some (.int (if j > i then j else i), false)
  | .min, [.int i, .int j] => some (.int (if j < i then j else i), false)
  | .max, [.lst xs] => (D.ints? xs).bind fun ns => (maxL ns).map fun n => (.int n, false)
  | .maxd d, [.lst xs] => (D.ints? xs).bind fun ns => match maxL ns with | none => some (.int d, false) | some n => some (.int n, false)
  | .abs, [.int i] => some (.int (if i < 0 then -i else i), false)
  | .sum, [.lst xs] => (D.ints? xs).map fun ns => (.int ns.sum, false)
  | .all, [.lst xs] => (D.bls? xs).map fun bs => (.bl (bs.all id), false)
  | .sorted, [.lst xs] => match D.ints? xs with
    | some ns => some (.lst ((sortI ns).map D.int), true)
    | none => if srtOk xs then some (.lst (sortD xs), true) else none
  | .sorted, [.tup xs] => match D.ints? xs with
    | some ns => some (.lst ((sortI ns).map D.int), true)
    | none => if srtOk xs then some (.lst (sortD xs), true) else none
  | .sorted, [.dct ks vs] => if ks.length < 64 ∧ vs.length = ks.length then (D.ints? ks).map fun ns => (.lst ((sortI ns).map D.int), true) else none
  | .ssorted, [.lst xs] => (D.ints? xs).map fun ns => (.lst ((sortI (dedupI ns)).map D.int), true)
  | _, _ => none
def mrd : Mr → D → List D → Option D
  | .count, .lst xs, [a] => if D.pl a && D.pls xs && decide (D.dep a ≤ 200) then some (.int (xs.countP fun x => D.eqv x a)) else none
  | .index, .lst xs, [a] => if D.pl a && D.pls xs && decide (D.dep a ≤ 200) then (if xs.any (fun x => D.eqv x a) then some (.int (xs.findIdx fun x => D.eqv x a)) else none) else none
  | .join, .str z, [.lst xs] => (D.strs? xs).bind fun ys => if (ys.map (·.length)).sum + ys.length * z.length ≤ 16777216 then some (.str (Txt.join z ys)) else none
  | .startswith, .str z, [.str y] => some (.bl (Txt.startswith z y))
  | .get, .dct ks vs, [k] => if kfit k ks vs then some ((dLook k ks vs).getD .non) else none
  | .get, .dct ks vs, [k, x] => if kfit k ks vs then some ((dLook k ks vs).getD x) else none
  | .upper, .str z, [] => if z.length ≤ 5592405 then some (.str (Txt.upper z)) else none
  | _, _, _ => none
/-- what the method tells, what the object then holds -/
def mwr : Mw → D → List D → Option (D × D)
  | .append, .lst xs, [a] => if xs.length < sizeLine then some (.non, .lst (xs ++ [a])) else none
  | .extend, .lst xs, [.lst ys] => if xs.length + ys.length ≤ sizeLine then some (.non, .lst (xs ++ ys)) else none
  | .extend, .lst xs, [.tup ys] => if xs.length + ys.length ≤ sizeLine then some (.non, .lst (xs ++ ys)) else none
  | .pop, .lst xs, [] => match xs[xs.length - 1]? with | some y => some (y, .lst xs.dropLast) | none => none
  | .clear, .lst _, [] => some (.non, .lst [])
  | .reverse, .lst xs, [] => some (.non, .lst xs.reverse)
  | _, _, _ => none

def setD : D → D → D → Option D
  | .lst xs, .int k, v => match L2.ixN xs.length k with | some j => some (.lst (xs.set j v)) | none => none
  | _, _, _ => none
def setM : D → D → D → Option D
  | .dct ks vs, k, v => if kfit k ks vs && decide (ks.length < sizeLine) then some (.dct (dPutK k ks) (dPutV k v ks vs)) else none
  | _, _, _ => none
def augD : Op2 → D → D → Option D
  | .add, .int i, .int j => some (.int (i + j))
  | .sub, .int i, .int j => some (.int (i - j))
  | _, _, _ => none

/-- whose method it is -/
def recvR : Mr → D → Bool
  | .count, .lst _ => true
  | .index, .lst _ => true
  | .join, .str _ => true
  | .startswith, .str _ => true
  | .get, .dct _ _ => true
  | .upper, .str _ => true
  | _, _ => false
def recvW : D → Bool
  | .lst _ => true
  | _ => false
def guardO (b : Bool) : Option Unit := if b then some () else none

/-! ### the store -/
def MO.d : MO → Option D
  | .lst xs => some (.lst xs)
  | .dct ks vs => some (.dct ks vs)
  | .ins _ _ => none
/-- what stands, an object of the store looked into -/
def deref (m : Mem) : D → Option D
  | .ref n => (m[n]?).bind MO.d
  | d => some d
def D.mo : D → Option MO
  | .lst xs => some (.lst xs)
  | .dct ks vs => some (.dct ks vs)
  | _ => none
/-- a fresh value is laid into the store -/
def alloc (m : Mem) (d : D) : Option (D × Mem) := (D.mo d).map fun o => (.ref m.length, m ++ [o])
def slot (s : S) (i : Nat) : Option (D × Bool) := (s.env[i]?).join
def lookV (s : S) (i : Nat) : Option D := (slot s i).bind fun p => deref s.mem p.1
/-- the operand of a reading operation: a name is read when the operation is done -/
def seeE (s : S) : E → D → Option D
  | .v i, _ => lookV s i
  | _, d => deref s.mem d
def setSlot (s : S) (i : Nat) (p : D × Bool) : S := { s with env := s.env.set i (some p) }
/-- the object that a name or a value stands for is changed -/
def putM (m : Mem) (n : Nat) (d : D) : Option Mem := match m[n]?, D.mo d with
  | some (.lst _), some o => some (m.set n o)
  | some (.dct _ _), some o => some (m.set n o)
  | _, _ => none
def putV (s : S) (i : Nat) (d' : D) : Option (D × Bool) → Option S
  | some (.ref n, _) => (putM s.mem n d').map fun m => { s with mem := m }
  | some (_, true) => some (setSlot s i (d', true))
  | _ => none
def putE (s : S) : E → D → D → Option S
  | .v i, _, d' => putV s i d' (slot s i)
  | _, .ref n, d' => (putM s.mem n d').map fun m => { s with mem := m }
  | _, _, _ => none
/-- a bare name: what the slot held alone is shared from here on -/
def readV (s : S) (i : Nat) : R (D × Bool) := match slot s i with
  | some (d, true) => .ok (d, false) (setSlot s i (d, false))
  | some (d, false) => .ok (d, false) s
  | none => .no
def liftO {α : Type} (s : S) : Option α → R α
  | some a => .ok a s
  | none => .no
def asgV (sh : List Nat) (i : Nat) (d : D) (fr : Bool) (s : S) : R Unit :=
  if fr && sh.contains i then match alloc s.mem d with
    | some (r, m) => .ok () { env := s.env.set i (some (r, false)), mem := m }
    | none => .no
  else .ok () (setSlot s i (d, fr))
def asgs : List Nat → List D → S → Option S
  | [], [], s => some s
  | i :: is, d :: ds, s => asgs is ds (setSlot s i (d, false))
  | _, _, _ => none
def asgT (sh : List Nat) (t : T) (d : D) (fr : Bool) (s : S) : R Unit := match t with
  | .v i => asgV sh i d fr s
  | .tup is => match d with
    | .tup xs => liftO s (asgs is xs s) |>.bind fun s' _ => .ok () s'
    | _ => .no
def rngL (lo : Int) (n : Nat) : List D := (List.range n).map fun k => .int (lo + (k : Nat))
def rngD (lo : Int) (n : Nat) (c : Int) : List D := (List.range n).map fun k => .int (lo + (k : Nat) * c)
def small62 (i : Int) : Bool := decide (-(2 ^ 62) ≤ i) && decide (i < 2 ^ 62)
def zipD : List D → List D → List D
  | x :: xs, y :: ys => .tup [x, y] :: zipD xs ys
  | _, _ => []
def enmD : Nat → List D → List D
  | _, [] => []
  | k, x :: xs => .tup [.int k, x] :: enmD (k + 1) xs
def walkD : IK → List D → Option (List D)
  | .seq, [.lst xs] => some xs
  | .seq, [.tup xs] => some xs
  | .seq, [.str z] => if z.length ≤ sizeLine then some (z.cps.toList.map fun c => .str ⟨#[c]⟩) else none
  | .rng, [.int n] => if small62 n then some (rngL 0 n.toNat) else none
  | .rng, [.int a, .int b] => if small62 a && small62 b then some (rngL a (b - a).toNat) else none
  | .rng, [.int a, .int b, .int (-1)] => if small62 a && small62 b then some (rngD a (a - b).toNat (-1)) else none
  | .enm, [.lst xs] => some (enmD 0 xs)
  | .enm, [.tup xs] => some (enmD 0 xs)
  | .zip, [.lst xs, .lst ys] => some (zipD xs ys)
  | .zip, [.tup xs, .tup ys] => some (zipD xs ys)
  | .itm, [.dct ks vs] => some (zipD ks vs)
  | .rev, [.lst xs] => some xs.reverse
  | _, _ => none
def wipeE (env : Env) : List Nat → Env
  | [] => env
  | v :: vs => (wipeE env vs).set v none
/-- behind a comprehension: its own names as they were -/
def backE (old : Env) (new : Env) : List Nat → Env
  | [] => new
  | v :: vs => (backE old new vs).set v ((old[v]?).join)
def ownFree (env : Env) (own : List Nat) : Bool := own.all fun i => match (env[i]?).join with
  | some (_, true) => false
  | _ => true
def lcLoop (f : S → R (Option D)) (tg : T) (own : List Nat) : List D → List D → S → R (List D)
  | [], acc, s => .ok acc s
  | x :: xs, acc, s => (asgT [] tg x false { s with env := wipeE s.env own }).bind fun _ s1 => (f s1).bind fun o s2 => match o with
    | none => lcLoop f tg own xs acc s2
    | some d => if acc.length < sizeLine then lcLoop f tg own xs (acc ++ [d]) s2 else .no
/-- over a list of the store -/
def lcRL (f : S → R (Option D)) (tg : T) (own : List Nat) (n : Nat) : Nat → Nat → List D → S → R (List D)
  | 0, _, _, _ => .no
  | k + 1, i, acc, s => match s.mem[n]? with
    | some (.lst xs) => match xs[i]? with
      | some x => (asgT [] tg x false { s with env := wipeE s.env own }).bind fun _ s1 => (f s1).bind fun o s2 => match o with
        | none => lcRL f tg own n k (i + 1) acc s2
        | some d => if acc.length < sizeLine then lcRL f tg own n k (i + 1) (acc ++ [d]) s2 else .no
      | none => .ok acc s
    | _ => .no
def slrO : D → Option (D × Bool)
  | .lst xs => some (.lst xs.reverse, true)
  | .tup xs => some (.tup xs.reverse, false)
  | _ => none
def ssetO : D → Option (D × Bool)
  | .lst xs => (D.ints? xs).bind fun ns => if ns.length < 64 then some (.lst ((sortI (dedupI ns)).map D.int), true) else none
  | _ => none
def mxdO : D → Int → Option (D × Bool)
  | .lst xs, d => (D.ints? xs).map fun ns => (.int ((maxL ns).getD d), false)
  | _, _ => none
def whFuel : Nat := 1048576
def isV : E → Option Nat
  | .v i => some i
  | _ => none

section
variable (ft : Str → Option Fn) (cf : Str → List D → Mem → CR)
/-- a call's values: what is fresh and wanted as an object is laid into the store -/
def argIn (sh : List Nat) (j : Nat) (p : D × Bool) (s : S) : R D :=
  if p.2 && sh.contains j then match alloc s.mem p.1 with
    | some (r, m) => .ok r { s with mem := m }
    | none => .no
  else .ok p.1 s
def ofCR (s : S) : CR → R (D × Bool)
  | .ok d fr m => .ok (d, fr) { s with mem := m }
  | .exc c fs m => .exc c fs { s with mem := m }
  | .no => .no

def toB (r : R (D × Bool)) : R Bool := r.bind fun p s => match p.1 with
  | .bl b => .ok b s
  | _ => .no
/-- an operand: a name is left to the operation -/
def opO (e : E) (r : R (D × Bool)) (s : S) : R D := match e with
  | .v i => match slot s i with
    | some _ => .ok .non s
    | none => .no
  | _ => r.bind fun p s => .ok p.1 s
def seeEs : S → List E → List D → Option (List D)
  | _, [], [] => some []
  | s, e :: es, d :: ds => (seeE s e d).bind fun d => (seeEs s es ds).map (d :: ·)
  | _, _, _ => none
mutual
def evE : E → S → R (D × Bool)
  | .c d, s => .ok (d, false) s
  | .v i, s => readV s i
  | .g _ d, s => .ok (d, false) s
  | .tup es, s => (evEs es s).bind fun ds s => if ds.length ≤ sizeLine then .ok (.tup ds, false) s else .no
  | .lst es, s => (evEs es s).bind fun ds s => if ds.length ≤ sizeLine then .ok (.lst ds, true) s else .no
  | .dct ks vs, s => (evEs ks s).bind fun dk s => (evEs vs s).bind fun dv s => .ok (.dct dk dv, true) s
  | .bin op a b, s => (opO a (evE a s) s).bind fun x s => (opO b (evE b s) s).bind fun y s =>
      liftO s ((seeE s a x).bind fun x => (seeE s b y).bind fun y => opBin op x y)
  | .neg a, s => (evE a s).bind fun x s => match x.1 with
    | .int i => .ok (.int (-i), false) s
    | _ => .no
  | .not a, s => (toB (evE a s)).bind fun b s => .ok (.bl (!b), false) s
  | .and a b, s => (toB (evE a s)).bind fun k s => if k then evE b s else .ok (.bl false, false) s
  | .or a b, s => (toB (evE a s)).bind fun k s => if k then .ok (.bl true, false) s else evE b s
  | .cmp op a b, s => (opO a (evE a s) s).bind fun x s => (opO b (evE b s) s).bind fun y s =>
      liftO s ((seeE s a x).bind fun x => (seeE s b y).bind fun y => (opCmp op x y).map fun k => (.bl k, false))
  | .chn op op' a b c, s => (evE a s).bind fun x s => (evE b s).bind fun y s => (liftO s (opCmp op x.1 y.1)).bind fun k s =>
      if k then (evE c s).bind fun z s => liftO s ((opCmp op' y.1 z.1).map fun k => (.bl k, false)) else .ok (.bl false, false) s
  | .ife c a b, s => (toB (evE c s)).bind fun k s => if k then evE a s else evE b s
  | .ix a b, s => (opO a (evE a s) s).bind fun x s => (evE b s).bind fun i s =>
      liftO s ((seeE s a x).bind fun x => (opIx x i.1).map fun d => (d, false))
  | .sl a lo hi, s => (opO a (evE a s) s).bind fun x s => (evE lo s).bind fun l s => (liftO s (partI lo l.1)).bind fun l s =>
      (evE hi s).bind fun h s => (liftO s (partI hi h.1)).bind fun h s => liftO s ((seeE s a x).bind fun x => opSl x l h)
  | .isi a t, s => (opO a (evE a s) s).bind fun x s => liftO s ((seeE s a x).bind fun x => if D.typed x then some (.bl (isTy x t), false) else none)
  | .call f es, s => match ft f with
    | none => .no
    | some F => (evAs F.sh 0 es s).bind fun ds s => if ds.length = F.ps then ofCR s (cf f ds s.mem) else .no
  | .blt f es, s => (evOs es s).bind fun ds s => liftO s ((seeEs s es ds).bind fun ds => bfn f ds)
  | .mr m a es, s => (opO a (evE a s) s).bind fun x s => (liftO s ((seeE s a x).bind fun x => guardO (recvR m x))).bind fun _ s => (evEs es s).bind fun ds s =>
      liftO s ((seeE s a x).bind fun x => (mrd m x ds).map fun d => (d, false))
  | .mw m a es, s => (opO a (evE a s) s).bind fun x s => (liftO s ((seeE s a x).bind fun x => guardO (recvW x))).bind fun _ s => (evEs es s).bind fun ds s =>
      (liftO s ((seeE s a x).bind fun y => (mwr m y ds).bind fun p => (putE s a x p.2).map fun s' => (p.1, s'))).bind fun p _ => .ok (p.1, false) p.2
  | .lc elt tg k its ifs own, s => ((evEs its s).bind fun ds s => liftO s (walkD k ds)).bind fun xs s => if ownFree s.env own then
        (lcLoop (fun s => (evTs ifs s).bind fun b s => if b then (evE elt s).bind fun p s => .ok (some p.1) s else .ok none s) tg own xs [] s).noX.bind fun ys s' =>
          .ok (.lst ys, true) { s' with env := backE s.env s'.env own } else .no
  | .lcR elt tg e ifs own, s => (evE e s).bind fun p s => match p.1 with
    | .ref n => if ownFree s.env own then
        (lcRL (fun s => (evTs ifs s).bind fun b s => if b then (evE elt s).bind fun p s => .ok (some p.1) s else .ok none s) tg own n whFuel 0 [] s).noX.bind fun ys s' =>
          .ok (.lst ys, true) { s' with env := backE s.env s'.env own } else .no
    | d => (liftO s (walkD .seq [d])).bind fun xs s => if ownFree s.env own then
        (lcLoop (fun s => (evTs ifs s).bind fun b s => if b then (evE elt s).bind fun p s => .ok (some p.1) s else .ok none s) tg own xs [] s).noX.bind fun ys s' =>
          .ok (.lst ys, true) { s' with env := backE s.env s'.env own } else .no
  | .mxd a d, s => (opO a (evE a s) s).bind fun x s => liftO s ((seeE s a x).bind fun x => mxdO x d)
  | .slr a, s => (opO a (evE a s) s).bind fun x s => liftO s ((seeE s a x).bind slrO)
  | .sset a, s => (opO a (evE a s) s).bind fun x s => liftO s ((seeE s a x).bind ssetO)
  | .dead, _ => .no
  | .dctK, s => .ok (.dct [] [], true) s
  | .dctT, s => .ok (.dct [] [.non], true) s
  | .nil, s => .ok (.non, false) s
def evOs : List E → S → R (List D)
  | [], s => .ok [] s
  | e :: es, s => (opO e (evE e s) s).bind fun d s => (evOs es s).bind fun ds s => .ok (d :: ds) s
def evEs : List E → S → R (List D)
  | [], s => .ok [] s
  | e :: es, s => (evE e s).bind fun p s => (evEs es s).bind fun ds s => .ok (p.1 :: ds) s
def evAs (sh : List Nat) : Nat → List E → S → R (List D)
  | _, [], s => .ok [] s
  | j, e :: es, s => (evE e s).bind fun p s => (argIn sh j p s).bind fun d s => (evAs sh (j + 1) es s).bind fun ds s => .ok (d :: ds) s
def evTs : List E → S → R Bool
  | [], s => .ok true s
  | e :: es, s => (toB (evE e s)).bind fun b s => if b then evTs es s else .ok false s
end
/-- while, by at most so many turns -/
def whL (c : S → R Bool) (body : S → R Fl) : Nat → S → R Fl
  | 0, _ => .no
  | n + 1, s => (c s).bind fun b s => if b then (body s).bind fun f s => match f with
      | .nx => whL c body n s
      | .ct => whL c body n s
      | .br => .ok .nx s
      | .rt d fr => .ok (.rt d fr) s
    else .ok .nx s
def forL (tgt : D → S → R Unit) (body : S → R Fl) : List D → S → R Fl
  | [], s => .ok .nx s
  | x :: xs, s => (tgt x s).bind fun _ s => (body s).bind fun f s => match f with
      | .nx => forL tgt body xs s
      | .ct => forL tgt body xs s
      | .br => .ok .nx s
      | .rt d fr => .ok (.rt d fr) s
/-- over a list of the store, looked into at each turn -/
def forR (tgt : D → S → R Unit) (body : S → R Fl) (n : Nat) : Nat → Nat → S → R Fl
  | 0, _, _ => .no
  | k + 1, i, s => match s.mem[n]? with
    | some (.lst xs) => match xs[i]? with
      | some x => (tgt x s).bind fun _ s => (body s).bind fun f s => match f with
        | .nx => forR tgt body n k (i + 1) s
        | .ct => forR tgt body n k (i + 1) s
        | .br => .ok .nx s
        | .rt d fr => .ok (.rt d fr) s
      | none => .ok .nx s
    | _ => .no
def retV (e : E) (r : R (D × Bool)) (s : S) : R (D × Bool) := match e with
  | .v i => match slot s i with
    | some p => .ok p s
    | none => .no
  | _ => r
variable (sh : List Nat)
mutual
def evS : St → S → R Fl
  | .ex e, s => (evE ft cf e s).bind fun _ s => .ok .nx s
  | .asg t e, s => (evE ft cf e s).bind fun p s => (asgT sh t p.1 p.2 s).bind fun _ s => .ok .nx s
  | .seti a i e, s => (evE ft cf e s).bind fun p s => (opO a (evE ft cf a s) s).bind fun x s => (evE ft cf i s).bind fun k s =>
      (liftO s ((seeE s a x).bind fun y => (setD y k.1 p.1).bind fun y' => putE s a x y')).bind fun s' _ => .ok .nx s'
  | .setd a i e, s => (evE ft cf e s).bind fun p s => (opO a (evE ft cf a s) s).bind fun x s => (evE ft cf i s).bind fun k s =>
      (liftO s ((seeE s a x).bind fun y => (setM y k.1 p.1).bind fun y' => putE s a x y')).bind fun s' _ => .ok .nx s'
  | .aug i op e, s => match slot s i with
    | some (x, _) => (evE ft cf e s).bind fun p s => (liftO s (augD op x p.1)).bind fun z s => .ok .nx (setSlot s i (z, false))
    | none => .no
  | .ret e, s => (retV e (evE ft cf e s) s).bind fun p s => .ok (.rt p.1 p.2) s
  | .retn, s => .ok (.rt .non false) s
  | .ife c a b, s => (toB (evE ft cf c s)).bind fun k s => if k then evSs a s else evSs b s
  | .for_ t k es body, s => ((evEs ft cf es s).bind fun ds s => liftO s (walkD k ds)).bind fun xs s =>
      forL (fun x s => asgT sh t x false s) (fun s => evSs body s) xs s
  | .forR t e body, s => (evE ft cf e s).bind fun p s => match p.1 with
    | .ref n => forR (fun x s => asgT sh t x false s) (fun s => evSs body s) n whFuel 0 s
    | d => (liftO s (walkD .seq [d])).bind fun xs s => forL (fun x s => asgT sh t x false s) (fun s => evSs body s) xs s
  | .whl c body, s => whL (fun s => toB (evE ft cf c s)) (fun s => evSs body s) whFuel s
  | .pass, s => .ok .nx s
  | .brk, s => .ok .br s
  | .cont, s => .ok .ct s
  | .dead, _ => .no
def evSs : List St → S → R Fl
  | [], s => .ok .nx s
  | st :: sts, s => (evS st s).bind fun f s => match f with
    | .nx => evSs sts s
    | .br => .ok .br s
    | .ct => .ok .ct s
    | .rt d fr => .ok (.rt d fr) s
end
end
/-- a def's body at its values -/
def env0 (F : Fn) (ds : List D) : Env := ds.map (fun d => some (d, false)) ++ List.replicate (F.ns - F.ps) none
def runF (ft : Str → Option Fn) (cf : Str → List D → Mem → CR) (F : Fn) (ds : List D) (m : Mem) : CR :=
  match evSs ft cf F.sh F.body ⟨env0 F ds, m⟩ with
  | .ok (.rt d fr) s => .ok d fr s.mem
  | .ok .nx s => .ok .non false s.mem
  | .ok _ _ => .no
  | .exc c fs s => .exc c fs s.mem
  | .no => .no
/-- calls, n deep -/
def cfN (ft : Str → Option Fn) : Nat → Str → List D → Mem → CR
  | 0, _, _, _ => .no
  | n + 1, f, ds, m => match ft f with
    | some F => if ds.length = F.ps then runF ft (cfN ft n) F ds m else .no
    | none => .no
end Ly
set_option Elab.async false
set_option linter.all false
set_option maxRecDepth 100000
set_option maxHeartbeats 2000000
/-! Ly1: how values and states of the evaluator lie in the heap. -/
namespace Ly
open PySem PySem.Spec PyProof.Rows L2

/-! ### outcomes -/
def R.wp {α : Type} (m : R α) (W : α → S → Prop) (Z : Str → List D → S → Prop) : Prop := match m with
  | .ok a s => W a s
  | .exc c fs s => Z c fs s
  | .no => False
theorem wp_bind {α β : Type} {m : R α} {g : α → S → R β} {W : β → S → Prop} {Z : Str → List D → S → Prop} : (m.bind g).wp W Z ↔ m.wp (fun a s => (g a s).wp W Z) Z := by
  cases m <;> exact Iff.rfl
theorem wp_liftO {α : Type} {s : S} {o : Option α} {W : α → S → Prop} {Z : Str → List D → S → Prop} (h : (liftO s o).wp W Z) : ∃ a, o = some a ∧ W a s := by
  cases o with
  | none => exact h.elim
  | some a => exact ⟨a, rfl, h⟩
theorem obind {α β : Type} {o : Option α} {f : α → Option β} {b : β} (h : o.bind f = some b) : ∃ a, o = some a ∧ f a = some b := by
  cases o with
  | none => cases h
  | some a => exact ⟨a, rfl, h⟩
theorem omap {α β : Type} {o : Option α} {f : α → β} {b : β} (h : o.map f = some b) : ∃ a, o = some a ∧ f a = b := by
  cases o with
  | none => cases h
  | some a => exact ⟨a, rfl, Option.some.inj h⟩

/-! ### values in the heap -/
def kD : Key → D
  | .inl i => .int i
  | .inr x => .str x
/-- the written part, the world -/
structure KW where
  f : PySem.W.Frag
  w : World
abbrev _root_.L2.Cx.kw (X : L2.Cx) : KW := ⟨X.K, X.w⟩
/-- a dict of the module's top, its keys texts -/
def WDct (K : KW) (a : Addr) (ks : List D) (vs : List V) : Prop := ∃ (es : Array DictEntry) (n : Nat) (kk : List Str), KDict K.f K.w a es n ∧ kk ≠ [] ∧ ks = kk.map D.str ∧ kk.length = vs.length ∧
  Paired (fun (e : DictEntry) (p : Str × V) => (∃ t, e.key = .str p.1 t) ∧ RelV p.2 e.val) es.toList (kk.zip vs)
/-- a dict that may change -/
def DctM (H : Hp) (a : Addr) (ks : List D) (vs : List V) : Prop :=
  (∃ kk : List Key, ks = kk.map kD ∧ kk.length = vs.length ∧ kk.Nodup ∧ H a = some (.dK (kk.zip vs))) ∨
  (∃ kk : List (List Key), kk ≠ [] ∧ ks = kk.map (fun k => D.tup (k.map kD)) ∧ kk.length = vs.length ∧ kk.Nodup ∧ H a = some (.dT (kk.zip vs))) ∨
  (ks = [] ∧ vs = [.non] ∧ H a = some (.dT []))
/-- a dict that never changes -/
def DctAt (K : KW) (Φ : Hp) (a : Addr) (ks : List D) (vs : List V) : Prop :=
  WDct K a ks vs ∨
  (∃ kk : List Key, ks = kk.map kD ∧ kk.length = vs.length ∧ kk.Nodup ∧ Rd Φ a (.dK (kk.zip vs))) ∨
  (∃ kk : List (List Key), kk ≠ [] ∧ ks = kk.map (fun k => D.tup (k.map kD)) ∧ kk.length = vs.length ∧ kk.Nodup ∧ Φ a = some (.dT (kk.zip vs))) ∨
  (ks = [] ∧ vs = [.non] ∧ Φ a = some (.dT []))
section
variable (K : KW) (Φ : Hp) (ρ : List Addr)
mutual
def Rep : D → V → Prop
  | .non, v => v = .non
  | .bl b, v => v = .bl b
  | .int i, v => v = .int i
  | .str x, v => v = .str x
  | .tup xs, v => ∃ a vs, v = .ref a ∧ SqT K.f Φ a vs ∧ Reps xs vs ∧ (D.trk xs = true → Φ a = some (.tup vs))
  | .lst xs, v => ∃ a vs, v = .ref a ∧ Φ a = some (.lst vs) ∧ Reps xs vs
  | .dct ks ds, v => ∃ a vs, v = .ref a ∧ DctAt K Φ a ks vs ∧ Reps ds vs
  | .ref n, v => ∃ a, v = .ref a ∧ ρ[n]? = some a
  | .scr ns, v => ∃ a, v = .ref a ∧ SqL K.f Φ a (ns.map V.int)
def Reps : List D → List V → Prop
  | [], vs => vs = []
  | d :: ds, vs => ∃ v ws, vs = v :: ws ∧ Rep d v ∧ Reps ds ws
end
end
section
variable {K : KW} {Φ Φ' H H' : Hp} {ρ ρ' : List Addr}
theorem rd_mono (h : Same Φ Φ') {a : Addr} {u : HO} (r : Rd Φ a u) : Rd Φ' a u := by
  rcases r with r | ⟨o, r⟩
  · exact .inl (h _ _ r)
  · exact .inr ⟨o, h _ _ r⟩
theorem sqT_mono (h : Same Φ Φ') {a : Addr} {xs : List V} (r : SqT K.f Φ a xs) : SqT K.f Φ' a xs := by
  rcases r with r | r
  · exact .inl (rd_mono h r)
  · exact .inr r
theorem sqL_mono (h : Same Φ Φ') {a : Addr} {xs : List V} (r : SqL K.f Φ a xs) : SqL K.f Φ' a xs := by
  rcases r with r | r
  · exact .inl (rd_mono h r)
  · exact .inr r
theorem dct_mono (h : Same Φ Φ') {a : Addr} {ks : List D} {vs : List V} (r : DctAt K Φ a ks vs) : DctAt K Φ' a ks vs := by
  rcases r with r | ⟨kk, h1, h2, h4, h3⟩ | ⟨kk, h0, h1, h2, h4, h3⟩ | ⟨h1, h2, h3⟩
  · exact .inl r
  · exact .inr (.inl ⟨kk, h1, h2, h4, rd_mono h h3⟩)
  · exact .inr (.inr (.inl ⟨kk, h0, h1, h2, h4, h _ _ h3⟩))
  · exact .inr (.inr (.inr ⟨h1, h2, h _ _ h3⟩))
theorem pre_get (h : ρ <+: ρ') {n : Nat} {a : Addr} (e : ρ[n]? = some a) : ρ'[n]? = some a := by
  obtain ⟨t, rfl⟩ := h
  rw [List.getElem?_append_left (List.getElem?_eq_some_iff.mp e).1]
  exact e
mutual
theorem rep_mono (h : Same Φ Φ') (hp : ρ <+: ρ') : ∀ (d : D) (v : V), Rep K Φ ρ d v → Rep K Φ' ρ' d v
  | .non, _, r => r
  | .bl _, _, r => r
  | .int _, _, r => r
  | .str _, _, r => r
  | .tup xs, _, ⟨a, vs, e, q, rs, tk⟩ => ⟨a, vs, e, sqT_mono h q, reps_mono h hp xs vs rs, fun z => h _ _ (tk z)⟩
  | .lst xs, _, ⟨a, vs, e, q, rs⟩ => ⟨a, vs, e, h _ _ q, reps_mono h hp xs vs rs⟩
  | .dct ks ds, _, ⟨a, vs, e, q, rs⟩ => ⟨a, vs, e, dct_mono h q, reps_mono h hp ds vs rs⟩
  | .ref n, _, ⟨a, e, q⟩ => ⟨a, e, pre_get hp q⟩
  | .scr ns, _, ⟨a, e, q⟩ => ⟨a, e, sqL_mono h q⟩
theorem reps_mono (h : Same Φ Φ') (hp : ρ <+: ρ') : ∀ (ds : List D) (vs : List V), Reps K Φ ρ ds vs → Reps K Φ' ρ' ds vs
  | [], _, r => r
  | d :: ds, _, ⟨v, ws, e, r, rs⟩ => ⟨v, ws, e, rep_mono h hp d v r, reps_mono h hp ds ws rs⟩
end
theorem reps_len : ∀ {ds : List D} {vs : List V}, Reps K Φ ρ ds vs → vs.length = ds.length
  | [], _, r => by cases r; rfl
  | _ :: _, _, ⟨v, ws, e, _, rs⟩ => by cases e; exact congrArg Nat.succ (reps_len rs)
theorem reps_app : ∀ {ds es : List D} {vs ws : List V}, Reps K Φ ρ ds vs → Reps K Φ ρ es ws → Reps K Φ ρ (ds ++ es) (vs ++ ws)
  | [], _, _, _, r, q => by cases r; exact q
  | _ :: _, _, _, _, ⟨v, ws', e, r, rs⟩, q => by cases e; exact ⟨v, _, rfl, r, reps_app rs q⟩
theorem reps_one {d : D} {v : V} (r : Rep K Φ ρ d v) : Reps K Φ ρ [d] [v] := ⟨v, [], rfl, r, rfl⟩
theorem reps_get : ∀ {ds : List D} {vs : List V} {i : Nat} {d : D}, Reps K Φ ρ ds vs → ds[i]? = some d → ∃ v, vs[i]? = some v ∧ Rep K Φ ρ d v
  | [], _, _, _, _, e => by cases e
  | _ :: _, _, 0, _, ⟨v, ws, e, r, rs⟩, h => by cases e; cases h; exact ⟨v, rfl, r⟩
  | _ :: _, _, i + 1, _, ⟨v, ws, e, r, rs⟩, h => by cases e; exact reps_get (i := i) rs h
theorem reps_take : ∀ {ds : List D} {vs : List V} (n : Nat), Reps K Φ ρ ds vs → Reps K Φ ρ (ds.take n) (vs.take n)
  | _, _, 0, _ => rfl
  | [], _, _ + 1, r => by cases r; exact rfl
  | _ :: _, _, n + 1, ⟨v, ws, e, r, rs⟩ => by cases e; exact ⟨v, _, rfl, r, reps_take n rs⟩
theorem reps_drop : ∀ {ds : List D} {vs : List V} (n : Nat), Reps K Φ ρ ds vs → Reps K Φ ρ (ds.drop n) (vs.drop n)
  | _, _, 0, r => r
  | [], _, _ + 1, r => by cases r; exact rfl
  | _ :: _, _, n + 1, ⟨v, ws, e, r, rs⟩ => by cases e; exact reps_drop n rs
theorem reps_set : ∀ {ds : List D} {vs : List V} (i : Nat) {d : D} {v : V}, Reps K Φ ρ ds vs → Rep K Φ ρ d v → Reps K Φ ρ (ds.set i d) (vs.set i v)
  | [], _, _, _, _, r, _ => by cases r; exact rfl
  | _ :: _, _, 0, _, _, ⟨v, ws, e, r, rs⟩, q => by cases e; exact ⟨_, _, rfl, q, rs⟩
  | _ :: _, _, i + 1, _, _, ⟨v, ws, e, r, rs⟩, q => by cases e; exact ⟨_, _, rfl, r, reps_set i rs q⟩
theorem reps_rep {ds : List D} {vs : List V} (r : Reps K Φ ρ ds vs) : ∀ n : Nat, Reps K Φ ρ (List.replicate n ds).flatten (List.replicate n vs).flatten
  | 0 => rfl
  | n + 1 => by
    rw [List.replicate_succ, List.replicate_succ, List.flatten_cons, List.flatten_cons]
    exact reps_app r (reps_rep r n)
theorem reps_rev : ∀ {ds : List D} {vs : List V}, Reps K Φ ρ ds vs → Reps K Φ ρ ds.reverse vs.reverse
  | [], _, r => by cases r; exact rfl
  | _ :: _, _, ⟨v, ws, e, r, rs⟩ => by
    cases e
    rw [List.reverse_cons, List.reverse_cons]
    exact reps_app (reps_rev rs) (reps_one r)
theorem reps_dropLast {ds : List D} {vs : List V} (r : Reps K Φ ρ ds vs) : Reps K Φ ρ ds.dropLast vs.dropLast := by
  rw [List.dropLast_eq_take, List.dropLast_eq_take, reps_len r]
  exact reps_take _ r
theorem reps_nil : Reps K Φ ρ [] [] := rfl
theorem reps_cons {d : D} {ds : List D} {v : V} {vs : List V} (r : Rep K Φ ρ d v) (rs : Reps K Φ ρ ds vs) : Reps K Φ ρ (d :: ds) (v :: vs) := ⟨v, vs, rfl, r, rs⟩
end

/-- the ground of a def's body: the heap at its entry, what never changes there, the store's places -/
structure Bs where
  H : Hp
  Φ : Hp
  ρ : List Addr
section
variable (K : KW)
/-- a list that nothing else holds -/
def Fresh (b : Bs) (Φ : Hp) (ρ : List Addr) (H : Hp) : D → V → Prop
  | .lst xs, v => ∃ a vs, v = .ref a ∧ H a = some (.lst vs) ∧ Reps K Φ ρ xs vs ∧ Φ a = none ∧ a ∉ ρ ∧ b.H a = none
  | .dct ks ds, v => ∃ a vs, v = .ref a ∧ DctM H a ks vs ∧ Reps K Φ ρ ds vs ∧ Φ a = none ∧ a ∉ ρ ∧ b.H a = none
  | _, _ => False
/-- an object of the store -/
def MOk (Φ : Hp) (ρ : List Addr) (H : Hp) : MO → Addr → Prop
  | .lst xs, a => ∃ vs, H a = some (.lst vs) ∧ Reps K Φ ρ xs vs
  | .dct ks ds, a => ∃ vs, DctM H a ks vs ∧ Reps K Φ ρ ds vs
  | .ins _ _, _ => False
structure MemOk (Φ : Hp) (ρ : List Addr) (H : Hp) (m : Mem) : Prop where
  len : m.length = ρ.length
  nd : ρ.Nodup
  off : ∀ a ∈ ρ, Φ a = none
  sub : Same Φ H
  at_ : ∀ (n : Nat) (o : MO) (a : Addr), m[n]? = some o → ρ[n]? = some a → MOk K Φ ρ H o a
structure Rel (b : Bs) (Φ : Hp) (ρ : List Addr) (s : S) (σ : L2.St) (H : Hp) : Prop where
  mem : MemOk K Φ ρ H s.mem
  low : Same b.Φ Φ
  ext : b.ρ <+: ρ
  len : s.env.length = σ.length
  env : ∀ (i : Nat) (d : D) (fr : Bool), s.env[i]? = some (some (d, fr)) → ∃ v, σ[i]? = some (some v) ∧ (if fr = true then Fresh K b Φ ρ H d v else Rep K Φ ρ d v)
  inj : ∀ (i j : Nat) (d d' : D) (v : V), s.env[i]? = some (some (d, true)) → s.env[j]? = some (some (d', true)) → σ[i]? = some (some v) → σ[j]? = some (some v) → i = j
  keep : ∀ (a : Addr) (o : HO), b.H a = some o → a ∉ b.ρ → H a = some o
  new : ∀ a ∈ ρ, a ∉ b.ρ → b.H a = none
  newF : ∀ (a : Addr) (o : HO), Φ a = some o → b.Φ a = some o ∨ b.H a = none
/-- nothing of the slots holds v alone -/
def NoOwn (s : S) (σ : L2.St) (v : V) : Prop := ∀ (i : Nat) (d : D), s.env[i]? = some (some (d, true)) → σ[i]? ≠ some (some v)
/-- what an expression tells -/
def RRep (b : Bs) (Φ : Hp) (ρ : List Addr) (s : S) (σ : L2.St) (H : Hp) (p : D × Bool) (v : V) : Prop :=
  if p.2 = true then Fresh K b Φ ρ H p.1 v ∧ NoOwn s σ v else Rep K Φ ρ p.1 v
end

section
variable {K : KW} {b : Bs} {Φ Φ' H H' : Hp} {ρ ρ' : List Addr} {s : S} {σ : L2.St}
theorem same_upd {a : Addr} (h : H a = none) (o : HO) : Same H (upd H a o) := fun c u e => by
  rw [upd_ne (ne_of_none e h)]
  exact e
theorem same_updΦ {a : Addr} (sub : Same Φ H) (h : Φ a = none) (o : HO) : Same Φ (upd H a o) := fun c u e => by
  rw [upd_ne (ne_of_none e h)]
  exact sub c u e
theorem same_upd2 {a : Addr} (sub : Same Φ H) (o : HO) : Same (upd Φ a o) (upd H a o) := fun c u e => by
  by_cases hc : c = a
  · subst hc
    rw [upd_same] at e ⊢
    exact e
  · rw [upd_ne hc] at e ⊢
    exact sub c u e
theorem Rel.sub (r : Rel K b Φ ρ s σ H) : Same Φ H := r.mem.sub
theorem DctM.at_ {H : Hp} {a : Addr} {ks : List D} {vs : List V} (h : DctM H a ks vs) : DctAt K H a ks vs := by
  rcases h with ⟨kk, h1, h2, h3, h4⟩ | ⟨kk, h0, h1, h2, h3, h4⟩ | ⟨h1, h2, h3⟩
  · exact .inr (.inl ⟨kk, h1, h2, h3, .inl h4⟩)
  · exact .inr (.inr (.inl ⟨kk, h0, h1, h2, h3, h4⟩))
  · exact .inr (.inr (.inr ⟨h1, h2, h3⟩))
theorem DctM.there {H : Hp} {a : Addr} {ks : List D} {vs : List V} (h : DctM H a ks vs) : ∃ o, H a = some o ∧ Mut (some o) := by
  rcases h with ⟨kk, h1, h2, h3, h4⟩ | ⟨kk, h0, h1, h2, h3, h4⟩ | ⟨h1, h2, h4⟩
  · exact ⟨_, h4, trivial⟩
  · exact ⟨_, h4, trivial⟩
  · exact ⟨_, h4, trivial⟩
theorem DctM.eq {H H' : Hp} {a : Addr} {ks : List D} {vs : List V} (h : DctM H a ks vs) (e : H' a = H a) : DctM H' a ks vs := by
  unfold DctM at h ⊢
  rw [e]
  exact h
theorem dctAt_ne {a : Addr} {p : Addr} {ks : List D} {vs : List V} {o : HO} (h : DctAt K H a ks vs) (ne : a ≠ p) : DctAt K (upd H p o) a ks vs := by
  rcases h with r | ⟨kk, h1, h2, h4, h3⟩ | ⟨kk, h0, h1, h2, h4, h3⟩ | ⟨h1, h2, h3⟩
  · exact .inl r
  · refine .inr (.inl ⟨kk, h1, h2, h4, ?_⟩)
    rcases h3 with h3 | ⟨z, h3⟩
    · exact .inl (by rw [upd_ne ne]; exact h3)
    · exact .inr ⟨z, by rw [upd_ne ne]; exact h3⟩
  · exact .inr (.inr (.inl ⟨kk, h0, h1, h2, h4, by rw [upd_ne ne]; exact h3⟩))
  · exact .inr (.inr (.inr ⟨h1, h2, by rw [upd_ne ne]; exact h3⟩))
theorem mok_there {o : MO} {a : Addr} (h : MOk K Φ ρ H o a) : ∃ u, H a = some u ∧ Mut (some u) := by
  cases o with
  | lst xs => obtain ⟨vs, e, _⟩ := h; exact ⟨_, e, trivial⟩
  | dct ks ds => obtain ⟨vs, e, _⟩ := h; exact e.there
  | ins c fs => exact h.elim
theorem MemOk.there {m : Mem} (M : MemOk K Φ ρ H m) {n : Nat} {a : Addr} (e : ρ[n]? = some a) : ∃ u, H a = some u ∧ Mut (some u) := by
  have hl : n < m.length := by rw [M.len]; exact (List.getElem?_eq_some_iff.mp e).1
  exact mok_there (M.at_ n m[n] a (List.getElem?_eq_getElem hl) e)
theorem mem_ix {a : Addr} {l : List Addr} (h : a ∈ l) : ∃ n : Nat, l[n]? = some a := by
  obtain ⟨n, hn, e⟩ := List.getElem_of_mem h
  exact ⟨n, by rw [List.getElem?_eq_getElem hn, e]⟩
theorem MemOk.ne_new {m : Mem} (M : MemOk K Φ ρ H m) {p : Addr} (hp : H p = none) : p ∉ ρ := fun h => by
  obtain ⟨n, e⟩ := mem_ix h
  obtain ⟨u, q, _⟩ := M.there e
  rw [hp] at q; cases q
theorem mok_mono (h : Same Φ Φ') (hp : ρ <+: ρ') {o : MO} {a : Addr} (e : H' a = H a) (m : MOk K Φ ρ H o a) : MOk K Φ' ρ' H' o a := by
  cases o with
  | lst xs => obtain ⟨vs, q, r⟩ := m; exact ⟨vs, e.trans q, reps_mono h hp _ _ r⟩
  | dct ks ds =>
    obtain ⟨vs, q, r⟩ := m
    exact ⟨vs, q.eq e, reps_mono h hp _ _ r⟩
  | ins c fs => exact m.elim
theorem fresh_mono (h : Same Φ Φ') (hp : ρ <+: ρ') {d : D} {a : Addr} (e : H' a = H a) (hΦ : Φ' a = none) (hρ : a ∉ ρ') (m : Fresh K b Φ ρ H d (.ref a)) : Fresh K b Φ' ρ' H' d (.ref a) := by
  cases d with
  | lst xs =>
    obtain ⟨a', vs, e', q, r, _, _, z⟩ := m
    cases e'
    exact ⟨a, vs, rfl, e.trans q, reps_mono h hp _ _ r, hΦ, hρ, z⟩
  | dct ks ds =>
    obtain ⟨a', vs, e', q, r, _, _, z⟩ := m
    cases e'
    exact ⟨a, vs, rfl, q.eq e, reps_mono h hp _ _ r, hΦ, hρ, z⟩
  | _ => exact m.elim
theorem fresh_ref {d : D} {v : V} (m : Fresh K b Φ ρ H d v) : ∃ a u, v = .ref a ∧ H a = some u ∧ Mut (some u) ∧ Φ a = none ∧ a ∉ ρ ∧ b.H a = none := by
  cases d with
  | lst xs => obtain ⟨a, vs, e, q, r, z1, z2, z3⟩ := m; exact ⟨a, _, e, q, trivial, z1, z2, z3⟩
  | dct ks ds =>
    obtain ⟨a, vs, e, q, r, z1, z2, z3⟩ := m
    obtain ⟨u, q2, q3⟩ := q.there
    exact ⟨a, u, e, q2, q3, z1, z2, z3⟩
  | _ => exact m.elim
/-- the heap grows by a new object that never changes -/
theorem Rel.grow (r : Rel K b Φ ρ s σ H) {p : Addr} (hp : H p = none) (o : HO) : Rel K b (upd Φ p o) ρ s σ (upd H p o) ∧ Same Φ (upd Φ p o) := by
  have nΦ : Φ p = none := by
    cases q : Φ p with
    | none => rfl
    | some u => have := r.sub p u q; rw [hp] at this; cases this
  have sΦ := same_upd nΦ o
  have nρ := r.mem.ne_new hp
  refine ⟨⟨⟨r.mem.len, r.mem.nd, fun a ha => ?_, same_upd2 r.sub o, fun n ob a h1 h2 => ?_⟩, fun a u e => sΦ _ _ (r.low a u e), r.ext, r.len, fun i d fr e => ?_, r.inj, fun a u e n => by
    have q := r.keep a u e n
    rw [upd_ne (ne_of_none q hp)]
    exact q, r.new, fun a u e => ?_⟩, sΦ⟩
  · rw [upd_ne (show a ≠ p from fun z => nρ (by rw [← z]; exact ha))]
    exact r.mem.off a ha
  · obtain ⟨u, hu, _⟩ := r.mem.there h2
    exact mok_mono sΦ (List.prefix_refl _) (upd_ne (ne_of_none hu hp)) (r.mem.at_ n ob a h1 h2)
  · obtain ⟨v, hv, q⟩ := r.env i d fr e
    refine ⟨v, hv, ?_⟩
    cases fr with
    | false => exact rep_mono sΦ (List.prefix_refl _) _ _ q
    | true =>
      obtain ⟨a, u, rfl, hu, _, h1, h2, h3⟩ := fresh_ref q
      have ne : a ≠ p := ne_of_none hu hp
      exact fresh_mono sΦ (List.prefix_refl _) (upd_ne ne) (by rw [upd_ne ne]; exact h1) h2 q
  · by_cases ha : a = p
    · subst ha
      refine .inr ?_
      cases q : b.H a with
      | none => rfl
      | some w =>
        by_cases hm : a ∈ b.ρ
        · exact absurd (r.ext.subset hm) nρ
        · have := r.keep a w q hm
          rw [hp] at this; cases this
    · rw [upd_ne ha] at e
      exact r.newF a u e
/-- the heap grows by a new object that may change -/
theorem Rel.growM (r : Rel K b Φ ρ s σ H) {p : Addr} (hp : H p = none) (o : HO) : Rel K b Φ ρ s σ (upd H p o) := by
  have nΦ : Φ p = none := by
    cases q : Φ p with
    | none => rfl
    | some u => have := r.sub p u q; rw [hp] at this; cases this
  refine ⟨⟨r.mem.len, r.mem.nd, r.mem.off, same_updΦ r.sub nΦ o, fun n ob a h1 h2 => ?_⟩, r.low, r.ext, r.len, fun i d fr e => ?_, r.inj, fun a u e n => ?_, r.new, r.newF⟩
  · obtain ⟨u, hu, _⟩ := r.mem.there h2
    exact mok_mono (Same.refl _) (List.prefix_refl _) (upd_ne (ne_of_none hu hp)) (r.mem.at_ n ob a h1 h2)
  · obtain ⟨v, hv, q⟩ := r.env i d fr e
    refine ⟨v, hv, ?_⟩
    cases fr with
    | false => exact q
    | true =>
      obtain ⟨a, u, rfl, hu, _, h1, h2, h3⟩ := fresh_ref q
      have ne : a ≠ p := ne_of_none hu hp
      exact fresh_mono (Same.refl _) (List.prefix_refl _) (upd_ne ne) h1 h2 q
  · have q := r.keep a u e n
    rw [upd_ne (ne_of_none q hp)]
    exact q
/-- what nothing else holds never changes from here on -/
theorem Rel.freeze (r : Rel K b Φ ρ s σ H) {d : D} {v : V} (f : Fresh K b Φ ρ H d v) (no : NoOwn s σ v) : ∃ Φ', Same Φ Φ' ∧ Rel K b Φ' ρ s σ H ∧ Rep K Φ' ρ d v := by
  obtain ⟨a, u, rfl, hu, _, h1, h2, h3⟩ := fresh_ref f
  have sΦ := same_upd h1 u
  refine ⟨upd Φ a u, sΦ, ⟨⟨r.mem.len, r.mem.nd, fun c hc => ?_, fun c w e => ?_, fun n ob c e1 e2 => ?_⟩, fun c w e => sΦ _ _ (r.low c w e), r.ext, r.len, fun i d' fr e => ?_, r.inj, r.keep, r.new, fun c w e => ?_⟩, ?_⟩
  · rw [upd_ne (show c ≠ a from fun z => h2 (by rw [← z]; exact hc))]
    exact r.mem.off c hc
  · by_cases hc : c = a
    · subst hc
      rw [upd_same] at e
      cases e
      exact hu
    · rw [upd_ne hc] at e
      exact r.sub c w e
  · exact mok_mono sΦ (List.prefix_refl _) rfl (r.mem.at_ n ob c e1 e2)
  · obtain ⟨w, hw, q⟩ := r.env i d' fr e
    refine ⟨w, hw, ?_⟩
    cases fr with
    | false => exact rep_mono sΦ (List.prefix_refl _) _ _ q
    | true =>
      obtain ⟨c, u', rfl, hu', _, g1, g2, g3⟩ := fresh_ref q
      have ne : c ≠ a := fun z => no i d' e (by rw [hw, z])
      exact fresh_mono sΦ (List.prefix_refl _) rfl (by rw [upd_ne ne]; exact g1) g2 q
  · by_cases hc : c = a
    · subst hc; exact .inr h3
    · rw [upd_ne hc] at e
      exact r.newF c w e
  · cases d with
    | lst xs =>
      obtain ⟨a', vs, e', q, rr, _, _, _⟩ := f
      cases e'
      rw [hu] at q; cases q
      exact ⟨a, vs, rfl, upd_same, reps_mono sΦ (List.prefix_refl _) _ _ rr⟩
    | dct ks ds =>
      obtain ⟨a', vs, e', q, rr, _, _, _⟩ := f
      cases e'
      exact ⟨a, vs, rfl, (q.eq (show upd Φ a u a = H a by rw [upd_same, hu])).at_, reps_mono sΦ (List.prefix_refl _) _ _ rr⟩
    | _ => exact f.elim
/-- .. is laid into the store -/
theorem Rel.alloc (r : Rel K b Φ ρ s σ H) {d : D} {v : V} (f : Fresh K b Φ ρ H d v) (no : NoOwn s σ v) {rf : D} {m : Mem} (ha : alloc s.mem d = some (rf, m)) :
    ∃ ρ', ρ <+: ρ' ∧ Rel K b Φ ρ' { s with mem := m } σ H ∧ Rep K Φ ρ' rf v := by
  obtain ⟨a, u, rfl, hu, _, h1, h2, h3⟩ := fresh_ref f
  obtain ⟨o, eo, e⟩ := omap ha
  cases e
  have hp : ρ <+: ρ ++ [a] := List.prefix_append _ _
  have hm : MOk K Φ (ρ ++ [a]) H o a := by
    cases d with
    | lst xs =>
      cases eo
      obtain ⟨a', vs, e', q, rr, _, _, _⟩ := f
      cases e'
      exact ⟨vs, q, reps_mono (Same.refl _) hp _ _ rr⟩
    | dct ks ds =>
      cases eo
      obtain ⟨a', vs, e', q, rr, _, _, _⟩ := f
      cases e'
      exact ⟨vs, q, reps_mono (Same.refl _) hp _ _ rr⟩
    | _ => cases eo
  refine ⟨ρ ++ [a], hp, ⟨⟨by simp [r.mem.len], ?_, fun c hc => ?_, r.sub, fun n ob c e1 e2 => ?_⟩, r.low, r.ext.trans hp, r.len, fun i d' fr e => ?_, r.inj, r.keep, fun c hc hb => ?_, r.newF⟩, ⟨a, rfl, by rw [r.mem.len]; simp⟩⟩
  · rw [List.nodup_append]
    exact ⟨r.mem.nd, by simp, fun c hc c' hc' => by simp at hc'; subst hc'; intro z; subst z; exact h2 hc⟩
  · rcases List.mem_append.mp hc with hc | hc
    · exact r.mem.off c hc
    · simp at hc; subst hc; exact h1
  · by_cases hn : n < ρ.length
    · rw [List.getElem?_append_left hn] at e2
      rw [List.getElem?_append_left (by rw [r.mem.len]; exact hn)] at e1
      exact mok_mono (Same.refl _) hp rfl (r.mem.at_ n ob c e1 e2)
    · have hn2 : n = ρ.length := by
        have := (List.getElem?_eq_some_iff.mp e2).1
        simp at this
        omega
      subst hn2
      rw [List.getElem?_append_right (Nat.le_refl _)] at e2
      rw [← r.mem.len, List.getElem?_append_right (Nat.le_refl _)] at e1
      simp at e1 e2
      subst e1 e2
      exact hm
  · obtain ⟨w, hw, q⟩ := r.env i d' fr e
    refine ⟨w, hw, ?_⟩
    cases fr with
    | false => exact rep_mono (Same.refl _) hp _ _ q
    | true =>
      obtain ⟨c, u', rfl, hu', _, g1, g2, g3⟩ := fresh_ref q
      have ne : c ≠ a := fun z => no i d' e (by rw [hw, z])
      exact fresh_mono (Same.refl _) hp rfl g1 (by simp [g2, ne]) q
  · rcases List.mem_append.mp hc with hc | hc
    · exact r.new c hc hb
    · simp at hc; subst hc; exact h3
end
end Ly
set_option Elab.async false
set_option linter.all false
set_option maxRecDepth 100000
set_option maxHeartbeats 2000000
/-! Ly2: the operations on values do what the evaluator says. -/
namespace Ly
open PySem PySem.Spec PyProof.Rows L2

mutual
def D.py : D → PyData
  | .bl b => .bool b
  | .int i => .int i
  | .str x => .str x
  | .tup xs => .tuple (D.pys xs)
  | .lst xs => .list (D.pys xs)
  | _ => .none
def D.pys : List D → List PyData
  | [] => []
  | d :: ds => D.py d :: D.pys ds
end
mutual
theorem py_plain : ∀ d : D, (D.py d).plain = true
  | .non => rfl
  | .bl _ => rfl
  | .int _ => rfl
  | .str _ => rfl
  | .tup xs => pys_plain xs
  | .lst xs => pys_plain xs
  | .dct _ _ => rfl
  | .ref _ => rfl
  | .scr _ => rfl
theorem pys_plain : ∀ ds : List D, PyData.plainAll (D.pys ds) = true
  | [] => rfl
  | d :: ds => by
    show ((D.py d).plain && PyData.plainAll (D.pys ds)) = true
    rw [py_plain d, pys_plain ds]
    rfl
end
mutual
theorem py_dep : ∀ d : D, (D.py d).depth = D.dep d
  | .non => rfl
  | .bl _ => rfl
  | .int _ => rfl
  | .str _ => rfl
  | .tup xs => congrArg (· + 1) (pys_dep xs)
  | .lst xs => congrArg (· + 1) (pys_dep xs)
  | .dct _ _ => rfl
  | .ref _ => rfl
  | .scr _ => rfl
theorem pys_dep : ∀ ds : List D, PyData.depthAll (D.pys ds) = D.deps ds
  | [] => rfl
  | d :: ds => by
    show max (D.py d).depth (PyData.depthAll (D.pys ds)) = max (D.dep d) (D.deps ds)
    rw [py_dep d, pys_dep ds]
end
theorem pl_and {d : D} {ds : List D} (h : D.pls (d :: ds) = true) : D.pl d = true ∧ D.pls ds = true := Bool.and_eq_true_iff.mp h
theorem bd {p : Prop} [Decidable p] {b : Bool} (h : decide p = b) : (b = true ↔ p) := by subst h; exact decide_eq_true_iff
mutual
theorem py_eqv : ∀ a b : D, D.pl a = true → D.pl b = true → PyData.eqv (D.py a) (D.py b) = D.eqv a b
  | .non, b, _, hb => by cases b <;> first | rfl | cases hb
  | .bl x, b, _, hb => by
    cases b with
    | int j =>
      show ((if x = true then (1 : Int) else 0) == j) = decide (b2i x = j)
      rw [Bool.beq_eq_decide_eq]; rfl
    | bl _ => rfl
    | non => rfl
    | str _ => rfl
    | tup _ => rfl
    | lst _ => rfl
    | _ => cases hb
  | .int x, b, _, hb => by
    cases b with
    | bl y =>
      show (x == (if y = true then (1 : Int) else 0)) = decide (x = b2i y)
      rw [Bool.beq_eq_decide_eq]; rfl
    | int y =>
      show (x == y) = decide (x = y)
      rw [Bool.beq_eq_decide_eq]
    | non => rfl
    | str _ => rfl
    | tup _ => rfl
    | lst _ => rfl
    | _ => cases hb
  | .str x, b, _, hb => by
    cases b with
    | str y =>
      show (x == y) = decide (x = y)
      rw [Bool.beq_eq_decide_eq]
    | non => rfl
    | bl _ => rfl
    | int _ => rfl
    | tup _ => rfl
    | lst _ => rfl
    | _ => cases hb
  | .tup xs, b, ha, hb => by
    cases b <;> first | rfl | (exact absurd hb (by decide)) | skip
    exact pys_eqv xs _ ha hb
  | .lst xs, b, ha, hb => by
    cases b <;> first | rfl | (exact absurd hb (by decide)) | skip
    exact pys_eqv xs _ ha hb
  | .dct _ _, _, ha, _ => nomatch ha
  | .ref _, _, ha, _ => nomatch ha
  | .scr _, _, ha, _ => nomatch ha
theorem pys_eqv : ∀ a b : List D, D.pls a = true → D.pls b = true → PyData.eqvAll (D.pys a) (D.pys b) = D.eqvs a b
  | [], [], _, _ => rfl
  | [], _ :: _, _, _ => rfl
  | _ :: _, [], _, _ => rfl
  | x :: xs, y :: ys, ha, hb => by
    show (PyData.eqv (D.py x) (D.py y) && PyData.eqvAll (D.pys xs) (D.pys ys)) = (D.eqv x y && D.eqvs xs ys)
    rw [py_eqv x y (pl_and ha).1 (pl_and hb).1, pys_eqv xs ys (pl_and ha).2 (pl_and hb).2]
end
theorem pys_map : ∀ ds : List D, D.pys ds = ds.map D.py
  | [] => rfl
  | d :: ds => congrArg (D.py d :: ·) (pys_map ds)
theorem pls_mem {ds : List D} (h : D.pls ds = true) : ∀ d ∈ ds, D.pl d = true := by
  induction ds with
  | nil => intro d hd; cases hd
  | cons x xs ih =>
    intro d hd
    rcases List.mem_cons.mp hd with e | hd
    · rw [e]; exact (pl_and h).1
    · exact ih (pl_and h).2 d hd
theorem any_eqv {a : D} (ha : D.pl a = true) : ∀ {ds : List D}, D.pls ds = true → (D.pys ds).any (fun y => PyData.eqv y (D.py a)) = ds.any fun x => D.eqv x a
  | [], _ => rfl
  | d :: ds, h => by
    show (PyData.eqv (D.py d) (D.py a) || (D.pys ds).any _) = (D.eqv d a || ds.any _)
    rw [py_eqv d a (pl_and h).1 ha, any_eqv ha (pl_and h).2]
theorem countP_eqv {a : D} (ha : D.pl a = true) : ∀ {ds : List D}, D.pls ds = true → (D.pys ds).countP (fun y => PyData.eqv y (D.py a)) = ds.countP fun x => D.eqv x a
  | [], _ => rfl
  | d :: ds, h => by
    show (D.py d :: D.pys ds).countP _ = _
    rw [List.countP_cons, List.countP_cons, countP_eqv ha (pl_and h).2, py_eqv d a (pl_and h).1 ha]

section
variable {K : KW} {b : Bs} {Φ Φ' H H' : Hp} {ρ ρ' : List Addr} {s s' : S} {σ : L2.St}
/-- a value with what it holds now -/
def View (K : KW) (Φ : Hp) (ρ : List Addr) (H : Hp) : D → V → Prop
  | .lst xs, v => ∃ a vs, v = .ref a ∧ H a = some (.lst vs) ∧ Reps K Φ ρ xs vs
  | .dct ks ds, v => ∃ a vs, v = .ref a ∧ DctAt K H a ks vs ∧ Reps K Φ ρ ds vs
  | d, v => Rep K Φ ρ d v
theorem rep_view (sub : Same Φ H) : ∀ {d : D} {v : V}, Rep K Φ ρ d v → View K Φ ρ H d v
  | .non, _, r => r
  | .bl _, _, r => r
  | .int _, _, r => r
  | .str _, _, r => r
  | .tup _, _, r => r
  | .lst _, _, ⟨a, vs, e, q, rs⟩ => ⟨a, vs, e, sub _ _ q, rs⟩
  | .dct _ _, _, ⟨a, vs, e, q, rs⟩ => ⟨a, vs, e, dct_mono sub q, rs⟩
  | .ref _, _, r => r
  | .scr _, _, r => r
theorem fresh_view {d : D} {v : V} (f : Fresh K b Φ ρ H d v) : View K Φ ρ H d v := by
  cases d with
  | lst xs => obtain ⟨a, vs, e, q, r, _⟩ := f; exact ⟨a, vs, e, q, r⟩
  | dct ks ds => obtain ⟨a, vs, e, q, r, _⟩ := f; exact ⟨a, vs, e, q.at_, r⟩
  | _ => exact f.elim
theorem deref_view (M : MemOk K Φ ρ H s.mem) {d d' : D} {v : V} (r : View K Φ ρ H d v) (h : deref s.mem d = some d') : View K Φ ρ H d' v := by
  have other : some d = some d' → View K Φ ρ H d' v := fun e => by cases e; exact r
  cases d with
  | ref n =>
    obtain ⟨a, e, q⟩ := r
    obtain ⟨o, ho, hd⟩ := obind h
    have m := M.at_ n o a ho q
    cases o with
    | lst xs => cases hd; obtain ⟨vs, q1, q2⟩ := m; exact ⟨a, vs, e, q1, q2⟩
    | dct ks ds => cases hd; obtain ⟨vs, q1, q2⟩ := m; exact ⟨a, vs, e, q1.at_, q2⟩
    | ins c fs => cases hd
  | _ => exact other h
/-- an operand's value: a name's is looked up when the operation is done -/
def OpR' (K : KW) (Φ : Hp) (ρ : List Addr) (σ : L2.St) (e : E) (d : D) (v : V) : Prop := match e with
  | .v i => σ[i]? = some (some v)
  | _ => Rep K Φ ρ d v
theorem opR_mono {e : E} {d : D} {v : V} (h : Same Φ Φ') (hp : ρ <+: ρ') (r : OpR' K Φ ρ σ e d v) : OpR' K Φ' ρ' σ e d v := by
  cases e <;> first | exact r | exact rep_mono h hp _ _ r
theorem slot_env {i : Nat} {p : D × Bool} (h : slot s i = some p) : s.env[i]? = some (some p) := by
  unfold slot at h
  cases e : s.env[i]? with
  | none => rw [e] at h; cases h
  | some o => rw [e] at h; rw [show o = some p from h]
theorem see_view (r : Rel K b Φ ρ s σ H) {e : E} {d d' : D} {v : V} (o : OpR' K Φ ρ σ e d v) (h : seeE s e d = some d') : View K Φ ρ H d' v := by
  have plain : Rep K Φ ρ d v → deref s.mem d = some d' → View K Φ ρ H d' v := fun q h => deref_view r.mem (rep_view r.sub q) h
  cases e with
  | v i =>
    obtain ⟨p, hp, hd⟩ := obind h
    obtain ⟨w, hw, q⟩ := r.env i p.1 p.2 (slot_env hp)
    have o' : σ[i]? = some (some v) := o
    rw [hw] at o'; cases o'
    refine deref_view r.mem ?_ hd
    cases hb : p.2 with
    | false => rw [hb] at q; exact rep_view r.sub q
    | true => rw [hb] at q; exact fresh_view q
  | _ => exact plain o h

/-! ### what comes of an expression -/
def Cont (K : KW) (b : Bs) (Φ : Hp) (ρ : List Addr) (σ : L2.St) (Q : VK) (p : D × Bool) (s : S) : Prop :=
  ∀ (Φ' : Hp) (ρ' : List Addr) (H' : Hp) (v : V), Same Φ Φ' → ρ <+: ρ' → Rel K b Φ' ρ' s σ H' → RRep K b Φ' ρ' s σ H' p v → Q v H'
variable {Q : VK}
theorem cont_rep {d : D} {v : V} (c : Cont K b Φ ρ σ Q (d, false) s) (r : Rel K b Φ ρ s σ H) (q : Rep K Φ ρ d v) : Q v H := c Φ ρ H v (Same.refl _) (List.prefix_refl _) r q
theorem cont_tup {xs : List D} {vs : List V} {p : Addr} (c : Cont K b Φ ρ σ Q (.tup xs, false) s) (r : Rel K b Φ ρ s σ H) (q : Reps K Φ ρ xs vs) (hp : H p = none) : Q (.ref p) (upd H p (.tup vs)) := by
  obtain ⟨r', m⟩ := r.grow hp (.tup vs)
  exact c _ ρ _ _ m (List.prefix_refl _) r' ⟨p, vs, rfl, .inl (.inl upd_same), reps_mono m (List.prefix_refl _) _ _ q, fun _ => upd_same⟩
theorem Rel.newb (r : Rel K b Φ ρ s σ H) {p : Addr} (hp : H p = none) : b.H p = none := by
  cases q : b.H p with
  | none => rfl
  | some o =>
    by_cases hm : p ∈ b.ρ
    · exact absurd (r.ext.subset hm) (r.mem.ne_new hp)
    · have := r.keep p o q hm
      rw [hp] at this; cases this
theorem Rel.newΦ (r : Rel K b Φ ρ s σ H) {p : Addr} (hp : H p = none) : Φ p = none := by
  cases q : Φ p with
  | none => rfl
  | some u => have := r.sub p u q; rw [hp] at this; cases this
theorem Rel.noOwn (r : Rel K b Φ ρ s σ H) {p : Addr} (hp : H p = none) : NoOwn s σ (.ref p) := fun i d e z => by
  obtain ⟨v, hv, q⟩ := r.env i d true e
  obtain ⟨a, u, rfl, hu, _⟩ := fresh_ref (show Fresh K b Φ ρ H d v from q)
  rw [hv] at z; cases z
  rw [hp] at hu; cases hu
theorem cont_lst {xs : List D} {vs : List V} {p : Addr} (c : Cont K b Φ ρ σ Q (.lst xs, true) s) (r : Rel K b Φ ρ s σ H) (q : Reps K Φ ρ xs vs) (hp : H p = none) : Q (.ref p) (upd H p (.lst vs)) :=
  c Φ ρ _ _ (Same.refl _) (List.prefix_refl _) (r.growM hp (.lst vs)) ⟨⟨p, vs, rfl, upd_same, q, r.newΦ hp, r.mem.ne_new hp, r.newb hp⟩, r.noOwn hp⟩

/-! ### reading data -/
mutual
theorem rep_dp (sub : Same Φ H) : ∀ (d : D) (v : V), D.pl d = true → Rep K Φ ρ d v → Dp K.f H v (D.py d)
  | .non, _, _, r => by cases r; exact .non
  | .bl b, _, _, r => by cases r; exact .bl b
  | .int i, _, _, r => by cases r; exact .int i
  | .str x, _, _, r => by cases r; exact .str x
  | .tup xs, _, h, ⟨a, vs, e, q, rs, _⟩ => by cases e; exact .tup (sqT_mono sub q) (reps_dp sub xs vs h rs)
  | .lst xs, _, h, ⟨a, vs, e, q, rs⟩ => by cases e; exact .lst (SqL.of (sub _ _ q)) (reps_dp sub xs vs h rs)
theorem reps_dp (sub : Same Φ H) : ∀ (ds : List D) (vs : List V), D.pls ds = true → Reps K Φ ρ ds vs → DpAll K.f H vs (D.pys ds)
  | [], _, _, r => by cases r; exact .nil
  | d :: ds, _, h, ⟨v, ws, e, r, rs⟩ => by cases e; exact .cons (rep_dp sub d v (pl_and h).1 r) (reps_dp sub ds ws (pl_and h).2 rs)
end
theorem view_dp (sub : Same Φ H) {d : D} {v : V} (h : D.pl d = true) (r : View K Φ ρ H d v) : Dp K.f H v (D.py d) := by
  cases d with
  | lst xs => obtain ⟨a, vs, e, q, rs⟩ := r; cases e; exact .lst (SqL.of q) (reps_dp sub xs vs h rs)
  | dct _ _ => cases h
  | _ => exact rep_dp (ρ := ρ) sub _ _ h r
end

/-! ### two-place operations -/
section
variable {X : Cx}
def rB (K : KW) (f : D → D → Option (D × Bool)) : R2 := fun x y H Q => ∃ b Φ ρ s σ dx dy p, Rel K b Φ ρ s σ H ∧ View K Φ ρ H dx x ∧ View K Φ ρ H dy y ∧ f dx dy = some p ∧ Cont K b Φ ρ σ Q p s
def opM : Op2 → Operator
  | .add => .Add
  | .sub => .Sub
  | .mul => .Mult
  | .fdiv => .FloorDiv
  | .mod => .Mod
  | .pow => .Pow
theorem cut_ok {K : KW} {Φ : Hp} {ρ : List Addr} {xs : List D} {vs : List V} (lo hi : Option Int) (r : Reps K Φ ρ xs vs) : Reps K Φ ρ (cutD xs lo hi) (cutV vs lo hi) := by
  unfold cutD cutV
  rw [reps_len r]
  exact reps_take _ (reps_drop _ r)
theorem ifs {c : Prop} [Decidable c] {α : Type} {a : α} {o : Option α} (h : (if c then some a else none) = o) {b : α} (hb : o = some b) : c ∧ a = b := by
  by_cases q : c
  · rw [if_pos q] at h; rw [← h] at hb; exact ⟨q, Option.some.inj hb⟩
  · rw [if_neg q] at h; rw [← h] at hb; cases hb
theorem inB_ok {i : Int} (h : inB i = true) : -(2 ^ 64) < i ∧ i < 2 ^ 64 := by
  have := Bool.and_eq_true_iff.mp h
  exact ⟨of_decide_eq_true this.1, of_decide_eq_true this.2⟩
theorem op2_ok (hr : X.A.units + 200 < cLine) (op : Op2) : OpR X (binaryOp (opM op)) (rB X.kw (opBin op)) := by
  intro pins s σ H x y v u Q I rx ry h
  obtain ⟨b, Φ, ρ, s0, σ0, dx, dy, p, r, vx, vy, e, c⟩ := h
  have sub := r.sub
  unfold opBin at e
  split at e
  · cases e
    cases (show x = _ from vx); cases (show y = _ from vy)
    exact op_add pins s σ H _ _ v u Q I rx ry ⟨_, _, rfl, rfl, cont_rep c r rfl⟩
  · obtain ⟨hz, e⟩ := ifs e rfl
    cases e
    cases (show x = _ from vx); cases (show y = _ from vy)
    exact op_add_str pins s σ H _ _ v u Q I rx ry ⟨_, _, rfl, rfl, hz, cont_rep c r rfl⟩
  · rename_i xs ys
    obtain ⟨hz, e⟩ := ifs e rfl
    cases e
    obtain ⟨a1, vs, e1, q1, r1, t1⟩ := (show Rep X.kw Φ ρ (.tup xs) x from vx)
    obtain ⟨a2, ws, e2, q2, r2, t2⟩ := (show Rep X.kw Φ ρ (.tup ys) y from vy)
    cases e1; cases e2
    have l1 := reps_len r1
    have l2 := reps_len r2
    refine op_catA pins s σ H _ _ v u Q I rx ry ⟨a1, a2, vs, ws, rfl, rfl, sqT_mono sub q1, sqT_mono sub q2, by omega, fun z => ?_, fun z1 z2 => ?_, fun z1 z2 p hp => cont_tup c r (reps_app r1 r2) hp⟩
    · subst z
      cases xs with
      | nil => exact cont_rep c r ⟨a2, ws, rfl, q2, r2, t2⟩
      | cons _ _ => cases l1
    · subst z2
      cases ys with
      | nil => refine cont_rep c r ⟨a1, vs, rfl, q1, ?_, fun z => t1 (by rw [List.append_nil] at z; exact z)⟩; rw [List.append_nil]; exact r1
      | cons _ _ => cases l2
  · rename_i xs ys
    obtain ⟨hz, e⟩ := ifs e rfl
    cases e
    obtain ⟨a1, vs, e1, q1, r1⟩ := vx
    obtain ⟨a2, ws, e2, q2, r2⟩ := vy
    cases e1; cases e2
    have l1 := reps_len r1
    have l2 := reps_len r2
    exact op_cat pins s σ H _ _ v u Q I rx ry ⟨a1, a2, vs, ws, rfl, rfl, q1, q2, by omega, fun p hp => cont_lst c r (reps_app r1 r2) hp⟩
  · cases e
    cases (show x = _ from vx); cases (show y = _ from vy)
    exact op_sub pins s σ H _ _ v u Q I rx ry ⟨_, _, rfl, rfl, cont_rep c r rfl⟩
  · obtain ⟨hz, e⟩ := ifs e rfl
    cases e
    cases (show x = _ from vx); cases (show y = _ from vy)
    refine op_mul pins s σ H _ _ v u Q I rx ry ⟨_, _, rfl, rfl, ?_, cont_rep c r rfl⟩
    rcases Bool.or_eq_true_iff.mp hz with z | z
    · exact .inr (inB_ok z)
    · exact .inl (inB_ok z)
  · rename_i xs k
    obtain ⟨hz, e⟩ := ifs e rfl
    cases e
    obtain ⟨a1, vs, e1, q1, r1⟩ := vx
    cases e1; cases (show y = _ from vy)
    have l1 := reps_len r1
    obtain ⟨hz, h3⟩ := Bool.and_eq_true_iff.mp hz
    obtain ⟨h1, h2⟩ := Bool.and_eq_true_iff.mp hz
    have h1 := of_decide_eq_true h1
    have h2 := of_decide_eq_true h2
    have h3 := of_decide_eq_true h3
    exact op_rep pins s σ H _ _ v u Q I rx ry ⟨a1, k, vs, rfl, rfl, q1, by omega, by omega, by rw [l1]; exact h3, fun p hp => cont_lst c r (reps_rep r1 _) hp⟩
  · rename_i xs k
    obtain ⟨hz, e⟩ := ifs e rfl
    cases e
    obtain ⟨a1, vs, e1, q1, r1, t1⟩ := (show Rep X.kw Φ ρ (.tup xs) x from vx)
    cases e1; cases (show y = _ from vy)
    have l1 := reps_len r1
    simp only [Bool.and_eq_true, decide_eq_true_eq] at hz
    obtain ⟨⟨⟨h0, h1⟩, h2⟩, h3⟩ := hz
    refine op_repT pins s σ H _ _ v u Q I rx ry ⟨a1, k, vs, rfl, rfl, sqT_mono sub q1, fun z => ?_, h1, h2, by omega, fun p hp => cont_tup c r (reps_rep r1 _) hp⟩
    subst z
    cases xs with
    | nil => cases h0
    | cons _ _ => cases l1
  · obtain ⟨hz, e⟩ := ifs e rfl
    cases e
    cases (show x = _ from vx); cases (show y = _ from vy)
    obtain ⟨h1, h2⟩ := Bool.and_eq_true_iff.mp hz
    have h1 := of_decide_eq_true h1
    have h2 := of_decide_eq_true h2
    exact op_fdivW pins s σ H _ _ v u Q I rx ry ⟨_, _, rfl, rfl, wide_div (b := 64) h1 (by omega) (by decide) (by decide), cont_rep c r rfl⟩
  · obtain ⟨hz, e⟩ := ifs e rfl
    cases e
    cases (show x = _ from vx); cases (show y = _ from vy)
    exact op_mod pins s σ H _ _ v u Q I rx ry ⟨_, _, rfl, rfl, of_decide_eq_true hz, cont_rep c r rfl⟩
  · obtain ⟨hz, e⟩ := ifs e rfl
    cases e
    cases (show x = _ from vx); cases (show y = _ from vy)
    simp only [Bool.and_eq_true, decide_eq_true_eq] at hz
    obtain ⟨⟨h1, h2⟩, h3⟩ := hz
    have h3 := inB_ok h3
    exact op_pow pins s σ H _ _ v u Q I rx ry ⟨_, _, rfl, rfl, ⟨h1, by omega, by omega⟩, cont_rep c r rfl⟩
  · cases e

/-! ### comparisons -/
def cmM : Cm → CmpOp
  | .eq => .Eq
  | .ne => .NotEq
  | .lt => .Lt
  | .le => .LtE
  | .gt => .Gt
  | .ge => .GtE
  | .is_ => .Is
  | .isn => .IsNot
  | .in_ => .In
  | .nin => .NotIn
def bo (f : D → D → Option Bool) : D → D → Option (D × Bool) := fun x y => (f x y).map fun k => (.bl k, false)
theorem eqOk_of {a b : D} (h : eqOk a b = true) : D.pl a = true ∧ D.pl b = true ∧ min (D.dep a) (D.dep b) ≤ 200 := by
  unfold eqOk at h
  simp only [Bool.and_eq_true, decide_eq_true_eq] at h
  exact ⟨h.1.1, h.1.2, h.2⟩
theorem opEq_of {a b : D} {k : Bool} (h : opEq a b = some k) : (D.pl a = true ∧ D.pl b = true ∧ min (D.dep a) (D.dep b) ≤ 200) ∧ k = D.eqv a b := by
  unfold opEq at h
  split at h
  · cases h; exact ⟨⟨rfl, rfl, Nat.zero_le _⟩, rfl⟩
  · cases h; exact ⟨⟨rfl, rfl, Nat.zero_le _⟩, rfl⟩
  · obtain ⟨h1, h2⟩ := ifs h rfl
    exact ⟨eqOk_of h1, h2.symm⟩
theorem eq_ok (hr : X.A.units + 200 < cLine) : OpR X (compareOp .Eq) (rB X.kw (bo opEq)) := by
  intro pins s σ H x y v u Q I rx ry h
  obtain ⟨b, Φ, ρ, s0, σ0, dx, dy, p, r, vx, vy, e, c⟩ := h
  obtain ⟨k, e1, e2⟩ := omap e
  obtain ⟨⟨h1, h2, h3⟩, e5⟩ := opEq_of e1
  subst e2 e5
  obtain ⟨as, r1⟩ := Dp.reads I _ x v (view_dp r.sub h1 vx) rx
  obtain ⟨bs, r2⟩ := Dp.reads I _ y u (view_dp r.sub h2 vy) ry
  refine SeqAt.eq_plain r1 r2 (py_plain _) (py_plain _) (by rw [py_dep, py_dep]; omega) ⟨.bl _, H, I, ?_, cont_rep c r rfl⟩
  rw [py_eqv _ _ h1 h2]
  rfl
theorem ne_ok (hr : X.A.units + 200 < cLine) : OpR X (compareOp .NotEq) (rB X.kw (bo fun a b => (opEq a b).map (!·))) := by
  intro pins s σ H x y v u Q I rx ry h
  obtain ⟨b, Φ, ρ, s0, σ0, dx, dy, p, r, vx, vy, e, c⟩ := h
  obtain ⟨k, e1, e2⟩ := omap e
  obtain ⟨k2, e3, e4⟩ := omap e1
  obtain ⟨⟨h1, h2, h3⟩, e5⟩ := opEq_of e3
  subst e2 e4 e5
  obtain ⟨as, r1⟩ := Dp.reads I _ x v (view_dp r.sub h1 vx) rx
  obtain ⟨bs, r2⟩ := Dp.reads I _ y u (view_dp r.sub h2 vy) ry
  refine SeqAt.ne_plain r1 r2 (py_plain _) (py_plain _) (by rw [py_dep, py_dep]; omega) ⟨.bl _, H, I, ?_, cont_rep c r rfl⟩
  rw [py_eqv _ _ h1 h2]
  rfl
end
end Ly
set_option Elab.async false
set_option linter.all false
set_option maxRecDepth 100000
set_option maxHeartbeats 2000000
/-! LyS: the order of data, sorting. -/
namespace Ly
open PySem PySem.Spec PyProof.Rows L2
theorem cn_self (a : Nat) : cn a a = .eq := by simp [cn]
theorem cn_swap (a b : Nat) : cn b a = (cn a b).swap := by
  unfold cn
  split <;> split <;> (try split) <;> (try split) <;> first | rfl | (exfalso; omega)
theorem ci_swap (a b : Int) : ci b a = (ci a b).swap := by
  unfold ci
  split <;> split <;> (try split) <;> (try split) <;> first | rfl | (exfalso; omega)
theorem str_tri (a b : Str) (h1 : ¬ a = b) (h2 : ¬ a.cps.toList < b.cps.toList) : b.cps.toList < a.cps.toList := by
  have h3 : b.cps.toList ≤ a.cps.toList := List.not_lt.mp h2
  refine Classical.byContradiction fun h4 => h1 ?_
  have h5 : a.cps.toList ≤ b.cps.toList := List.not_lt.mp h4
  have := List.le_antisymm h5 h3
  cases a; cases b
  simp only [Str.mk.injEq]
  exact Array.toList_inj.mp this
theorem cs_swap (a b : Str) : cs b a = (cs a b).swap := by
  unfold cs
  by_cases h : a = b
  · subst h; simp
  · have h' : ¬ b = a := fun z => h z.symm
    rw [if_neg h, if_neg h']
    by_cases h2 : a.cps.toList < b.cps.toList
    · rw [if_pos h2, if_neg (fun z => List.lt_irrefl _ (List.lt_trans h2 z))]; rfl
    · rw [if_neg h2, if_pos (str_tri a b h h2)]; rfl
theorem ord_rk (x y : D) (h : x.rk ≠ y.rk) : D.ord x y = cn x.rk y.rk := by
  cases x <;> cases y <;> first | rfl | exact absurd rfl h
def D.fl : D → Bool
  | .int _ => false | .str _ => false | .tup _ => false | _ => true
theorem ord_fl {x : D} (h : x.fl = true) (z : D) : D.ord x z = cn x.rk z.rk := by
  cases x <;> first | (exfalso; revert h; simp [D.fl]; done) | (cases z <;> rfl)
theorem fl_rk {x y : D} (h : x.rk = y.rk) : x.fl = y.fl := by
  cases x <;> cases y <;> first | rfl | (simp [D.rk] at h; done)
theorem ord_same (x y : D) (h : x.rk = y.rk) : (∃ a b, x = .int a ∧ y = .int b) ∨ (∃ a b, x = .str a ∧ y = .str b) ∨ (∃ a b, x = .tup a ∧ y = .tup b) ∨ (x.fl = true ∧ y.fl = true) := by
  have q := fl_rk h
  cases e : x.fl with
  | true => exact .inr (.inr (.inr ⟨rfl, by rw [← q, e]⟩))
  | false =>
    cases x <;> first | (simp [D.fl] at e; done) | skip
    · cases y <;> first | (simp [D.rk] at h; done) | exact .inl ⟨_, _, rfl, rfl⟩
    · cases y <;> first | (simp [D.rk] at h; done) | exact .inr (.inl ⟨_, _, rfl, rfl⟩)
    · cases y <;> first | (simp [D.rk] at h; done) | exact .inr (.inr (.inl ⟨_, _, rfl, rfl⟩))
mutual
theorem ord_swap : ∀ x y : D, D.ord y x = (D.ord x y).swap
  | .tup a, y => by
    cases y with
    | tup b => exact ords_swap a b
    | _ => exact cn_swap _ _
  | .int a, y => by cases y <;> first | exact ci_swap _ _ | exact cn_swap _ _
  | .str a, y => by cases y <;> first | exact cs_swap _ _ | exact cn_swap _ _
  | .non, y => by cases y <;> exact cn_swap _ _
  | .bl _, y => by cases y <;> exact cn_swap _ _
  | .lst _, y => by cases y <;> exact cn_swap _ _
  | .dct _ _, y => by cases y <;> exact cn_swap _ _
  | .ref _, y => by cases y <;> exact cn_swap _ _
  | .scr _, y => by cases y <;> exact cn_swap _ _
theorem ords_swap : ∀ a b : List D, D.ords b a = (D.ords a b).swap
  | [], [] => rfl
  | [], _ :: _ => rfl
  | _ :: _, [] => rfl
  | x :: a, y :: b => by
    have h1 := ord_swap x y
    have h2 := ords_swap a b
    show (match D.ord y x with | .eq => D.ords b a | .lt => .lt | .gt => .gt) = (match D.ord x y with | .eq => D.ords a b | .lt => .lt | .gt => .gt).swap
    rw [h1]
    cases D.ord x y <;> first | rfl | exact h2
end
theorem cn_le {a b : Nat} (h : cn a b ≠ .gt) : a ≤ b := by
  unfold cn at h
  split at h
  · omega
  · split at h
    · omega
    · exact absurd rfl h
theorem cn_lt {a b : Nat} (h : a < b) : cn a b = .lt := if_pos h
theorem ord_le (x y : D) (h : D.ord x y ≠ .gt) : x.rk ≤ y.rk := by
  by_cases e : x.rk = y.rk
  · omega
  · rw [ord_rk x y e] at h; exact cn_le h
theorem ord_lt (x y : D) (h : x.rk < y.rk) : D.ord x y = .lt := by rw [ord_rk x y (by omega), cn_lt h]
theorem ci_eq {a b : Int} : ci a b = .eq ↔ a = b := by
  unfold ci
  split
  · simp; omega
  · split <;> simp_all
theorem cs_eq {a b : Str} : cs a b = .eq ↔ a = b := by
  unfold cs
  split
  · simp_all
  · split <;> simp_all
theorem ci_tr {a b c : Int} (h : ci a b = .lt) (q : ci b c ≠ .gt) : ci a c = .lt := by
  unfold ci at *
  split at h
  · split at q
    · rw [if_pos (by omega)]
    · split at q
      · rw [if_pos (by omega)]
      · exact absurd rfl q
  · split at h <;> cases h
theorem cs_lt {a b : Str} : cs a b = .lt ↔ a.cps.toList < b.cps.toList := by
  unfold cs
  by_cases h : a = b
  · subst h; rw [if_pos rfl]; simp
  · rw [if_neg h]
    by_cases h2 : a.cps.toList < b.cps.toList <;> simp [h2]
theorem cs_tr {a b c : Str} (h : cs a b = .lt) (q : cs b c ≠ .gt) : cs a c = .lt := by
  rw [cs_lt] at h ⊢
  cases e : cs b c with
  | eq => rw [cs_eq.mp e] at h; exact h
  | lt => exact List.lt_trans h (cs_lt.mp e)
  | gt => exact absurd e q
theorem ord_tr1 : ∀ x y z : D, (∀ a, x ≠ .tup a) → (D.ord x y = .eq → D.ord x z = D.ord y z) ∧ (D.ord x y = .lt → D.ord y z ≠ .gt → D.ord x z = .lt) := by
  intro x y z hx
  by_cases e : x.rk = y.rk
  · rcases ord_same x y e with ⟨a, b, rfl, rfl⟩ | ⟨a, b, rfl, rfl⟩ | ⟨a, b, rfl, rfl⟩ | ⟨h1, h2⟩
    · refine ⟨fun h => ?_, fun h q => ?_⟩
      · rw [ci_eq.mp (show ci a b = .eq from h)]
      · cases z with
        | int c => exact ci_tr h q
        | _ =>
          have := ord_le (.int b) _ q
          exact ord_lt _ _ (by simp only [D.rk] at this ⊢; omega)
    · refine ⟨fun h => ?_, fun h q => ?_⟩
      · rw [cs_eq.mp (show cs a b = .eq from h)]
      · cases z with
        | str c => exact cs_tr h q
        | _ =>
          have := ord_le (.str b) _ q
          exact ord_lt _ _ (by simp only [D.rk] at this ⊢; omega)
    · exact absurd rfl (hx a)
    · refine ⟨fun _ => ?_, fun h => ?_⟩
      · rw [ord_fl h1, ord_fl h2, e]
      · rw [ord_fl h1, e, cn_self] at h; cases h
  · refine ⟨fun h => ?_, fun h q => ?_⟩
    · rw [ord_rk _ _ e] at h
      unfold cn at h
      by_cases k : x.rk < y.rk
      · rw [if_pos k] at h; cases h
      · rw [if_neg k, if_neg e] at h; cases h
    · have h1 := ord_le _ _ q
      have h2 := ord_le x y (by rw [h]; simp)
      exact ord_lt _ _ (by omega)
mutual
theorem ord_tr : ∀ x y z : D, (D.ord x y = .eq → D.ord x z = D.ord y z) ∧ (D.ord x y = .lt → D.ord y z ≠ .gt → D.ord x z = .lt)
  | .tup a, y, z => by
    cases y with
    | tup b =>
      cases z with
      | tup c => exact ords_tr a b c
      | _ => exact ⟨fun _ => rfl, fun h q => by
          have := ord_le (.tup b) _ q
          exact ord_lt _ _ (by simp only [D.rk] at this ⊢; omega)⟩
    | _ => 
      refine ⟨fun h => ?_, fun h q => ?_⟩
      · exact absurd h (by rw [ord_rk _ _ (by simp [D.rk])]; simp [D.rk, cn])
      · have h1 := ord_le _ _ q
        have h2 := ord_le (.tup a) _ (by rw [h]; simp)
        exact ord_lt _ _ (by simp only [D.rk] at h1 h2 ⊢; omega)
  | .int a, y, z => ord_tr1 (.int a) y z (by simp)
  | .str a, y, z => ord_tr1 (.str a) y z (by simp)
  | .non, y, z => ord_tr1 .non y z (by simp)
  | .bl b, y, z => ord_tr1 (.bl b) y z (by simp)
  | .lst b, y, z => ord_tr1 (.lst b) y z (by simp)
  | .dct b c, y, z => ord_tr1 (.dct b c) y z (by simp)
  | .ref b, y, z => ord_tr1 (.ref b) y z (by simp)
  | .scr b, y, z => ord_tr1 (.scr b) y z (by simp)
theorem ords_tr : ∀ a b c : List D, (D.ords a b = .eq → D.ords a c = D.ords b c) ∧ (D.ords a b = .lt → D.ords b c ≠ .gt → D.ords a c = .lt)
  | [], b, c => by
    cases b with
    | nil => exact ⟨fun _ => rfl, fun h => (nomatch h)⟩
    | cons y b =>
      cases c with
      | nil => exact ⟨fun h => (nomatch h), fun _ q => absurd rfl q⟩
      | cons z c => exact ⟨fun h => (nomatch h), fun _ _ => rfl⟩
  | x :: a, b, c => by
    cases b with
    | nil => exact ⟨fun h => (nomatch h), fun h => (nomatch h)⟩
    | cons y b =>
      cases c with
      | nil =>
        refine ⟨fun _ => rfl, fun _ q => absurd rfl q⟩
      | cons z c =>
        obtain ⟨t1, t2⟩ := ord_tr x y z
        obtain ⟨s1, s2⟩ := ords_tr a b c
        have ds : ∀ (x y : D) (a b : List D), D.ords (x :: a) (y :: b) = match D.ord x y with | .eq => D.ords a b | .lt => .lt | .gt => .gt := fun _ _ _ _ => rfl
        refine ⟨fun h => ?_, fun h q => ?_⟩
        · rw [ds] at h
          cases e : D.ord x y with
          | eq => rw [e] at h; rw [ds, ds, t1 e]; cases D.ord y z <;> first | exact s1 h | rfl
          | lt => rw [e] at h; cases h
          | gt => rw [e] at h; cases h
        · rw [ds] at h q ⊢
          cases e : D.ord x y with
          | eq =>
            rw [e] at h
            rw [t1 e]
            cases e2 : D.ord y z with
            | eq => rw [e2] at q; exact s2 h q
            | lt => rfl
            | gt => rw [e2] at q; exact absurd rfl q
          | lt =>
            cases e2 : D.ord y z with
            | eq => rw [t2 e (by rw [e2]; simp)]
            | lt => rw [t2 e (by rw [e2]; simp)]
            | gt => rw [e2] at q; exact absurd rfl q
          | gt => rw [e] at h; cases h
end
end Ly
set_option Elab.async false
set_option linter.all false
set_option maxRecDepth 100000
set_option maxHeartbeats 2000000
/-! LyS2: a < b of tuples of any depth, where the first place that differs can be compared. -/
namespace Ly
open PySem PySem.Spec PyProof.Rows L2
open PySem.SeqAt (EqAt RcLt)
open PySem.MeetsSeq PySem.MeetsSeq2 PySem.MeetsSeq3 PySem.SeqRoads2
/-- the first place that differs decides -/
def fstLt (eq lt : Nat → Bool) (z : Bool) : List Nat → Bool
  | [] => z
  | i :: is => bif eq i then fstLt eq lt z is else lt i
section
theorem tup_lt_at (p q : Addr) (xs ys : Array Value) (kx ky : Nat) (ox oy : Option Addr) (wx wy : Array (Option Value)) (eq lt : Nat → Bool) :
    Meets (Builtin.«tuple.__lt__» ⟨[.ref p, .ref q], []⟩)
      (fun B F st => st.heap.get? p = some ⟨.type "tuple", ox, .seq xs kx, wx⟩ ∧ st.heap.get? q = some ⟨.type "tuple", oy, .seq ys ky, wy⟩ ∧
        (∀ i (g : i < xs.size) (h : i < ys.size), EqAt B.in1 st xs[i] ys[i] (eq i)) ∧ (∀ i (g : i < xs.size) (h : i < ys.size), (∀ k, k < i → eq k = true) → eq i = false → RcLt B.in1 st xs[i] ys[i] (lt i)) ∧
        F (.ok (.ret (.bool (fstLt eq lt (decide (xs.size < ys.size)) (List.range (min xs.size ys.size)))))) st) :=
  .of_wp fun P u B F st want => by
    obtain ⟨H, G0, dp, tks, io⟩ := st
    obtain ⟨gp, gq, E0, L0, want⟩ := want
    have sub2 := AutoSeq1.sub_tuple_tuple
    have len : (xs.toList.zip ys.toList).length = min xs.size ys.size := by simp
    wp_walk using AutoSeq1.wpAny_loadPart' gp, AutoSeq1.wpAny_loadPart' gq, wpAny_forIn_list _ (fun l r st' => r.1 = none ∧ st' = ⟨H, G0, dp, tks, io⟩ ∧ ∃ k, l = (xs.toList.zip ys.toList).drop k ∧ (∀ j, j < k → eq j = true) ∧
      F (.ok (.ret (.bool (fstLt eq lt (decide (xs.size < ys.size)) ((List.range (min xs.size ys.size)).drop k))))) ⟨H, G0, dp, tks, io⟩) _
    case turn =>
      rintro ⟨u1, u2⟩ l r st' ⟨r1, rfl, k, hl, pre, fin'⟩
      have kl : k < (xs.toList.zip ys.toList).length := Nat.lt_of_not_le fun z => by
        rw [List.drop_of_length_le z] at hl; cases hl
      have km : k < min xs.size ys.size := len ▸ kl
      have g : k < xs.size := by omega
      have h : k < ys.size := by omega
      rw [List.drop_eq_getElem_cons kl] at hl
      injection hl with e1 e2
      obtain rfl : u1 = xs[k] := by simpa using congrArg Prod.fst e1
      obtain rfl : u2 = ys[k] := by simpa using congrArg Prod.snd e1
      have dr : (List.range (min xs.size ys.size)).drop k = k :: (List.range (min xs.size ys.size)).drop (k + 1) := by
        rw [List.drop_eq_getElem_cons (by simpa using km)]
        simp
      rw [dr] at fin'
      refine wpAny_bind (E0 k g h P u _ _ ?_)
      cases ek : eq k with
      | true =>
        rw [fstLt, ek, cond_true] at fin'
        wp_walk
        exact ⟨rfl, rfl, k + 1, e2, fun j hj => by
          rcases Nat.lt_succ_iff_lt_or_eq.mp hj with q | q
          · exact pre j q
          · rw [q]; exact ek, fin'⟩
      | false =>
        rw [fstLt, ek, cond_false] at fin'
        show wpAny (model P u) B.in1 (do
          rule "tuple.compare.by-the-first-pair-that-differs"
          let z1 ← richCompare CmpOp.Lt xs[k] ys[k]
          let z2 ← ret z1
          pure (ForInStep.done (some z2, ()))) _ _ _
        refine wpAny_bind (wpAny_rule ?_)
        refine wpAny_bind (L0 k g h pre ek P u _ _ ?_)
        wp_walk
        exact ⟨_, rfl, fin'⟩
    case fin =>
      rintro ⟨c1, c2⟩ st' ⟨r1, rfl, k, hl, pre, fin'⟩
      obtain rfl : c1 = none := r1
      have kl : min xs.size ys.size ≤ k := by
        rcases Nat.lt_or_ge k (xs.toList.zip ys.toList).length with z | z
        · rw [List.drop_eq_getElem_cons z] at hl; cases hl
        · omega
      rw [List.drop_of_length_le (by simpa using kl)] at fin'
      wp_walk
      exact ⟨_, rfl, by simpa [Builtin.Tuple.tupleCompareSizes, fstLt] using fin'⟩
    case h => exact ⟨rfl, rfl, 0, rfl, fun j hj => absurd hj (Nat.not_lt_zero j), want⟩
theorem lt_tups {B : Around} {st : Shared} {p q : Addr} {xs ys : Array Value} {eq lt : Nat → Bool} (gp : st.heap.IsTuple p xs) (gq : st.heap.IsTuple q ys) (room : B.units < cLine)
    (E0 : ∀ i (g : i < xs.size) (h : i < ys.size), EqAt B.in1 st xs[i] ys[i] (eq i)) (L0 : ∀ i (g : i < xs.size) (h : i < ys.size), (∀ k, k < i → eq k = true) → eq i = false → RcLt B.in1 st xs[i] ys[i] (lt i)) :
    RcLt B st (.ref p) (.ref q) (fstLt eq lt (decide (xs.size < ys.size)) (List.range (min xs.size ys.size))) := fun P u E Q want => by
  obtain ⟨⟨c1, d1, o1, s1⟩, g1, hc1, n1, hd1⟩ := id gp
  obtain ⟨⟨c2, d2, o2, s2⟩, g2, hc2, n2, hd2⟩ := id gq
  simp only at hc1 hd1 hc2 hd2
  subst hc1 hd1 hc2 hd2
  exact richCompare_meets_room (op := .Lt) ⟨_, g1, rfl⟩ ⟨_, g2, rfl⟩ F.slot_tuple_lt F.entry_tuple_lt (F.args_tuple_lt_2 _ _) (tup_lt_at p q xs ys n1 n2 d1 d2 s1 s2 eq lt)
    ⟨g1, g2, E0, L0, ⟨fun z => (nomatch z), want⟩⟩ room
end
/-! data that sort: whole numbers, texts, tuples of these -/
theorem sds_and {x : D} {xs : List D} (h : D.sds (x :: xs) = true) : D.sd x = true ∧ D.sds xs = true := Bool.and_eq_true_iff.mp h
mutual
theorem sd_pl : ∀ d : D, D.sd d = true → D.pl d = true
  | .int _, _ => rfl
  | .str _, _ => rfl
  | .tup xs, h => sds_pl xs h
theorem sds_pl : ∀ ds : List D, D.sds ds = true → D.pls ds = true
  | [], _ => rfl
  | d :: ds, h => by
    show (D.pl d && D.pls ds) = true
    rw [sd_pl d (sds_and h).1, sds_pl ds (sds_and h).2]; rfl
end
mutual
theorem eqv_sd : ∀ x y : D, D.sd x = true → D.sd y = true → (D.eqv x y = true ↔ x = y)
  | .int a, y, _, hy => by cases y <;> first | (simp [D.eqv]; done) | cases hy
  | .str a, y, _, hy => by cases y <;> first | (simp [D.eqv]; done) | cases hy
  | .tup a, y, hx, hy => by
    cases y <;> first | (simp [D.eqv]; done) | (exact absurd hy (by decide)) | skip
    rename_i b
    show D.eqvs a b = true ↔ _
    rw [eqvs_sd a b hx hy]
    exact ⟨fun e => by rw [e], fun e => by cases e; rfl⟩
theorem eqvs_sd : ∀ a b : List D, D.sds a = true → D.sds b = true → (D.eqvs a b = true ↔ a = b)
  | [], [], _, _ => by simp [D.eqvs]
  | [], _ :: _, _, _ => by simp [D.eqvs]
  | _ :: _, [], _, _ => by simp [D.eqvs]
  | x :: a, y :: b, hx, hy => by
    show (D.eqv x y && D.eqvs a b) = true ↔ _
    rw [Bool.and_eq_true, eqv_sd x y (sds_and hx).1 (sds_and hy).1, eqvs_sd a b (sds_and hx).2 (sds_and hy).2]
    simp
end
mutual
theorem ord_self : ∀ x : D, D.sd x = true → D.ord x x = .eq
  | .int a, _ => ci_eq.mpr rfl
  | .str a, _ => cs_eq.mpr rfl
  | .tup a, h => ords_self a h
theorem ords_self : ∀ x : List D, D.sds x = true → D.ords x x = .eq
  | [], _ => rfl
  | x :: xs, h => by
    show (match D.ord x x with | .eq => D.ords xs xs | .lt => .lt | .gt => .gt) = _
    rw [ord_self x (sds_and h).1]
    exact ords_self xs (sds_and h).2
end
mutual
theorem ord_eq : ∀ x y : D, D.sd x = true → D.sd y = true → D.ord x y = .eq → x = y
  | .int a, y, _, hy, h => by
    cases y <;> first | (cases hy; done) | skip
    · rw [ci_eq.mp h]
    · exact absurd h (by rw [ord_rk _ _ (by simp [D.rk])]; simp [D.rk, cn])
    · exact absurd h (by rw [ord_rk _ _ (by simp [D.rk])]; simp [D.rk, cn])
  | .str a, y, _, hy, h => by
    cases y <;> first | (cases hy; done) | skip
    · exact absurd h (by rw [ord_rk _ _ (by simp [D.rk])]; simp [D.rk, cn])
    · rw [cs_eq.mp h]
    · exact absurd h (by rw [ord_rk _ _ (by simp [D.rk])]; simp [D.rk, cn])
  | .tup a, y, hx, hy, h => by
    cases y <;> first | (cases hy; done) | skip
    · exact absurd h (by rw [ord_rk _ _ (by simp [D.rk])]; simp [D.rk, cn])
    · exact absurd h (by rw [ord_rk _ _ (by simp [D.rk])]; simp [D.rk, cn])
    · rw [ords_eq a _ hx hy h]
theorem ords_eq : ∀ a b : List D, D.sds a = true → D.sds b = true → D.ords a b = .eq → a = b
  | [], [], _, _, _ => rfl
  | [], _ :: _, _, _, h => nomatch h
  | _ :: _, [], _, _, h => nomatch h
  | x :: a, y :: b, hx, hy, h => by
    have h' : (match D.ord x y with | .eq => D.ords a b | .lt => .lt | .gt => .gt) = Ordering.eq := h
    cases e : D.ord x y with
    | eq =>
      rw [e] at h'
      rw [ord_eq x y (sds_and hx).1 (sds_and hy).1 e, ords_eq a b (sds_and hx).2 (sds_and hy).2 h']
    | lt => rw [e] at h'; cases h'
    | gt => rw [e] at h'; cases h'
end
theorem fstLt_map (eq lt : Nat → Bool) (z : Bool) (f : Nat → Nat) : ∀ l : List Nat, fstLt eq lt z (l.map f) = fstLt (fun i => eq (f i)) (fun i => lt (f i)) z l
  | [] => rfl
  | i :: is => by
    show (bif eq (f i) then fstLt eq lt z (is.map f) else lt (f i)) = _
    rw [fstLt_map eq lt z f is]; rfl
theorem fstLt_d : ∀ xs ys : List D, D.sds xs = true → D.sds ys = true →
    fstLt (fun i => D.eqv (xs.getD i .non) (ys.getD i .non)) (fun i => D.lt (xs.getD i .non) (ys.getD i .non)) (decide (xs.length < ys.length)) (List.range (min xs.length ys.length)) = D.lts xs ys
  | [], [], _, _ => rfl
  | [], _ :: _, _, _ => by simp [fstLt]; rfl
  | _ :: _, [], _, _ => by simp [fstLt]; rfl
  | x :: xs, y :: ys, hx, hy => by
    have e : min (x :: xs).length (y :: ys).length = min xs.length ys.length + 1 := by simp only [List.length_cons]; omega
    rw [e, List.range_succ_eq_map]
    show (bif D.eqv x y then fstLt _ _ _ ((List.range (min xs.length ys.length)).map Nat.succ) else D.lt x y) = _
    rw [fstLt_map]
    have ih := fstLt_d xs ys (sds_and hx).2 (sds_and hy).2
    have e2 : decide ((x :: xs).length < (y :: ys).length) = decide (xs.length < ys.length) := by simp
    rw [e2]
    have e3 : D.lts (x :: xs) (y :: ys) = ((match D.ord x y with | .eq => D.ords xs ys | .lt => Ordering.lt | .gt => Ordering.gt) == Ordering.lt) := rfl
    rw [e3]
    cases h : D.eqv x y with
    | true =>
      rw [cond_true]
      have := (eqv_sd x y (sds_and hx).1 (sds_and hy).1).mp h
      subst this
      rw [ord_self x (sds_and hx).1]
      exact ih
    | false =>
      rw [cond_false]
      have ne : D.ord x y ≠ .eq := fun z => by
        have := ord_eq x y (sds_and hx).1 (sds_and hy).1 z
        rw [(eqv_sd x y (sds_and hx).1 (sds_and hy).1).mpr this] at h; cases h
      unfold D.lt
      cases e4 : D.ord x y <;> first | rfl | exact absurd e4 ne

theorem cok_tup {a b : List D} : D.cok (.tup a) (.tup b) = D.coks a b := rfl
theorem coks_at : ∀ (xs ys : List D), D.sds xs = true → D.sds ys = true → D.coks xs ys = true → ∀ i, i < xs.length → i < ys.length → (∀ k, k < i → D.eqv (xs.getD k .non) (ys.getD k .non) = true) → D.eqv (xs.getD i .non) (ys.getD i .non) = false → D.cok (xs.getD i .non) (ys.getD i .non) = true
  | [], _, _, _, _, i, h, _, _, _ => absurd h (Nat.not_lt_zero i)
  | _ :: _, [], _, _, _, i, _, h, _, _ => absurd h (Nat.not_lt_zero i)
  | x :: xs, y :: ys, hx, hy, h, i, h1, h2, pre, ne => by
    have h' : (bif D.eqv x y then D.coks xs ys else D.cok x y) = true := h
    cases i with
    | zero =>
      have ne' : D.eqv x y = false := ne
      rw [ne'] at h'
      exact h'
    | succ i =>
      have q : D.eqv x y = true := pre 0 (Nat.succ_pos _)
      rw [q] at h'
      exact coks_at xs ys (sds_and hx).2 (sds_and hy).2 h' i (Nat.lt_of_succ_lt_succ h1) (Nat.lt_of_succ_lt_succ h2) (fun k hk => pre (k + 1) (Nat.succ_lt_succ hk)) ne
theorem readsAll_at {Hh : Heap} : ∀ {vs : List Value} {ds : List PyData} {as : List Addr}, ReadsAll Hh vs ds as → ∀ i (h : i < vs.length) (h' : i < ds.length), ∃ bs, Reads Hh vs[i] ds[i] bs
  | _, _, _, .nil, i, h, _ => absurd h (Nat.not_lt_zero i)
  | _, _, _, .cons r rs, 0, _, _ => ⟨_, r⟩
  | _, _, _, .cons r rs, i + 1, h, h' => readsAll_at rs i (Nat.lt_of_succ_lt_succ h) (Nat.lt_of_succ_lt_succ h')
theorem readsAll_len {Hh : Heap} : ∀ {vs : List Value} {ds : List PyData} {as : List Addr}, ReadsAll Hh vs ds as → vs.length = ds.length
  | _, _, _, .nil => rfl
  | _, _, _, .cons _ rs => congrArg Nat.succ (readsAll_len rs)
theorem pys_at : ∀ (xs : List D) (i : Nat) (h : i < (D.pys xs).length), (D.pys xs)[i] = D.py (xs.getD i .non)
  | [], i, h => absurd h (Nat.not_lt_zero i)
  | _ :: _, 0, _ => rfl
  | _ :: xs, i + 1, h => pys_at xs i (Nat.lt_of_succ_lt_succ h)
theorem pys_len : ∀ xs : List D, (D.pys xs).length = xs.length
  | [] => rfl
  | _ :: xs => congrArg Nat.succ (pys_len xs)
theorem sds_at : ∀ (xs : List D) (i : Nat), D.sds xs = true → i < xs.length → D.sd (xs.getD i .non) = true
  | [], i, _, h => absurd h (Nat.not_lt_zero i)
  | _ :: _, 0, h, _ => (sds_and h).1
  | _ :: xs, i + 1, h, h' => sds_at xs i (sds_and h).2 (Nat.lt_of_succ_lt_succ h')
theorem deps_at : ∀ (xs : List D) (i : Nat), i < xs.length → D.dep (xs.getD i .non) ≤ D.deps xs
  | [], i, h => absurd h (Nat.not_lt_zero i)
  | x :: xs, 0, _ => Nat.le_max_left _ _
  | x :: xs, i + 1, h => Nat.le_trans (deps_at xs i (Nat.lt_of_succ_lt_succ h)) (Nat.le_max_right _ _)
section
variable {st : Shared}
theorem eqAt_d {B : Around} {x y : D} {a b : Value} {as bs : List Addr} (hx : D.sd x = true) (hy : D.sd y = true) (ra : Reads st.heap a (D.py x) as) (rb : Reads st.heap b (D.py y) bs) (hu : B.units + min (D.dep x) (D.dep y) < cLine) : EqAt B st a b (D.eqv x y) := by
  rw [← py_eqv x y (sd_pl x hx) (sd_pl y hy)]
  exact PySem.SeqAt.eqAt_plain _ _ B st a b as bs ra rb (py_plain x) (py_plain y) (by rw [py_dep, py_dep]; exact hu)
theorem rcLt_leaf (x y : D) (B : Around) (a b : Value) (as bs : List Addr) (hl : ∀ xs, x ≠ .tup xs) (hx : D.sd x = true) (hy : D.sd y = true) (hc : D.cok x y = true) (ra : Reads st.heap a (D.py x) as) (rb : Reads st.heap b (D.py y) bs) : (∃ i j t u, x = .int i ∧ y = .int j ∧ a = .int i t ∧ b = .int j u ∧ D.lt x y = decide (i < j)) ∨ ∃ i j t u, x = .str i ∧ y = .str j ∧ a = .str i t ∧ b = .str j u ∧ D.lt x y = decide (i.cps.toList < j.cps.toList) := by
  cases x with
  | int i =>
    cases y with
    | int j =>
      cases ra; cases rb
      refine .inl ⟨_, _, _, _, rfl, rfl, rfl, rfl, ?_⟩
      unfold D.lt
      show (ci i j == Ordering.lt) = _
      unfold ci
      by_cases h : i < j
      · simp [h]
      · by_cases h2 : i = j <;> simp [h, h2]
    | _ => cases hc
  | str i =>
    cases y with
    | str j =>
      cases ra; cases rb
      refine .inr ⟨_, _, _, _, rfl, rfl, rfl, rfl, ?_⟩
      unfold D.lt
      show (cs i j == Ordering.lt) = _
      by_cases h : i.cps.toList < j.cps.toList
      · rw [cs_lt.mpr h]; simp [h]
      · have : cs i j ≠ .lt := fun z => h (cs_lt.mp z)
        simp [this, h]
    | _ => cases hc
  | tup xs => exact absurd rfl (hl xs)
  | _ => cases hx
theorem rcLt_leaf' (x y : D) (B : Around) (a b : Value) (as bs : List Addr) (hl : ∀ xs, x ≠ .tup xs) (hx : D.sd x = true) (hy : D.sd y = true) (hc : D.cok x y = true) (ra : Reads st.heap a (D.py x) as) (rb : Reads st.heap b (D.py y) bs) : RcLt B st a b (D.lt x y) := by
  rcases rcLt_leaf x y B a b as bs hl hx hy hc ra rb with ⟨i, j, t, u, rfl, rfl, rfl, rfl, e⟩ | ⟨i, j, t, u, rfl, rfl, rfl, rfl, e⟩
  · intro P u E Q want
    rw [e] at want
    exact PySem.P.lt_int want
  · intro P u E Q want
    rw [e] at want
    exact PySem.P.lt_str want
theorem rcLt_d : ∀ (n : Nat) (x y : D) (B : Around) (a b : Value) (as bs : List Addr), D.dep x ≤ n → D.sd x = true → D.sd y = true → D.cok x y = true → Reads st.heap a (D.py x) as → Reads st.heap b (D.py y) bs → B.units + min (D.dep x) (D.dep y) < cLine → RcLt B st a b (D.lt x y) := by
  intro n
  induction n with
  | zero =>
    intro x y B a b as bs hn hx hy hc ra rb hu
    cases x with
    | tup xs => exact absurd hn (Nat.not_succ_le_zero _)
    | _ => exact rcLt_leaf' _ y B a b as bs (fun xs z => nomatch z) hx hy hc ra rb
  | succ n ih =>
    intro x y B a b as bs hn hx hy hc ra rb hu
    cases x with
    | tup xs =>
      cases y with
      | tup ys =>
        cases ra with
        | @tuple l o vs k _ as₁ h1 h2 h3 h4 =>
          cases rb with
          | @tuple l' o' vs' k' _ bs₁ k1 k2 k3 k4 =>
            have n1 : vs.size = xs.length := by simpa [pys_len] using readsAll_len h4
            have n2 : vs'.size = ys.length := by simpa [pys_len] using readsAll_len k4
            have hx' : D.sds xs = true := hx
            have hy' : D.sds ys = true := hy
            have du : B.units + 1 + min (D.deps xs) (D.deps ys) < cLine := by
              have : B.units + min (D.deps xs + 1) (D.deps ys + 1) < cLine := hu
              omega
            have e : D.lt (.tup xs) (.tup ys) = D.lts xs ys := rfl
            rw [e, ← fstLt_d xs ys hx' hy', ← n1, ← n2]
            refine lt_tups ⟨_, h1, h2, _, h3⟩ ⟨_, k1, k2, _, k3⟩ (by omega) (fun j j1 j2 => ?_) fun j j1 j2 pre ne => ?_
            · obtain ⟨bs1, r1⟩ := readsAll_at h4 j (by simpa using j1) (by rw [pys_len]; omega)
              obtain ⟨bs2, r2⟩ := readsAll_at k4 j (by simpa using j2) (by rw [pys_len]; omega)
              rw [pys_at] at r1 r2
              have d1 := deps_at xs j (by omega)
              have d2 := deps_at ys j (by omega)
              have := eqAt_d (B := B.in1) (sds_at xs j hx' (by omega)) (sds_at ys j hy' (by omega)) r1 r2 (by show B.units + 1 + _ < _; omega)
              simpa using this
            · obtain ⟨bs1, r1⟩ := readsAll_at h4 j (by simpa using j1) (by rw [pys_len]; omega)
              obtain ⟨bs2, r2⟩ := readsAll_at k4 j (by simpa using j2) (by rw [pys_len]; omega)
              rw [pys_at] at r1 r2
              have d1 := deps_at xs j (by omega)
              have d2 := deps_at ys j (by omega)
              have hn' : D.deps xs + 1 ≤ n + 1 := hn
              have := ih _ _ B.in1 _ _ _ _ (by omega) (sds_at xs j hx' (by omega)) (sds_at ys j hy' (by omega)) (coks_at xs ys hx' hy' hc j (by omega) (by omega) pre ne) r1 r2 (by show B.units + 1 + _ < _; omega)
              simpa using this
      | _ => cases hc
    | _ => exact rcLt_leaf' _ y B a b as bs (fun xs z => nomatch z) hx hy hc ra rb
end
end Ly
set_option Elab.async false
set_option linter.all false
set_option maxRecDepth 100000
set_option maxHeartbeats 2000000
/-! LyS3: sorted of tuples of any depth. -/
namespace Ly
open PySem PySem.Spec PyProof.Rows L2
theorem insD_perm (x : D) : ∀ xs : List D, (insD x xs).Perm (x :: xs)
  | [] => List.Perm.refl _
  | y :: ys => by
    unfold insD
    split
    · exact (List.Perm.cons y (insD_perm x ys)).trans (List.Perm.swap x y ys)
    · exact List.Perm.refl _
theorem sortD_perm : ∀ xs : List D, (sortD xs).Perm xs
  | [] => List.Perm.refl _
  | x :: xs => (insD_perm x _).trans (List.Perm.cons x (sortD_perm xs))
abbrev leD (x y : D) : Prop := D.ord x y ≠ .gt
theorem leD_tr {x y z : D} (h1 : leD x y) (h2 : leD y z) : leD x z := by
  obtain ⟨t1, t2⟩ := ord_tr x y z
  unfold leD at *
  cases e : D.ord x y with
  | eq => rw [t1 e]; exact h2
  | lt => rw [t2 e h2]; simp
  | gt => exact absurd e h1
theorem insD_sorted (x : D) : ∀ xs : List D, xs.Pairwise leD → (insD x xs).Pairwise leD
  | [], _ => List.pairwise_singleton _ _
  | y :: ys, h => by
    obtain ⟨h1, h2⟩ := List.pairwise_cons.mp h
    unfold insD
    split
    · rename_i g
      refine List.pairwise_cons.mpr ⟨fun z hz => ?_, insD_sorted x ys h2⟩
      rcases List.mem_cons.mp ((insD_perm x ys).mem_iff.mp hz) with rfl | hz
      · unfold leD; rw [ord_swap, g]; simp
      · exact h1 z hz
    · rename_i g
      refine List.pairwise_cons.mpr ⟨fun z hz => ?_, h⟩
      rcases List.mem_cons.mp hz with rfl | hz
      · exact g
      · exact leD_tr g (h1 z hz)
theorem sortD_sorted : ∀ xs : List D, (sortD xs).Pairwise leD
  | [] => List.Pairwise.nil
  | x :: xs => insD_sorted x _ (sortD_sorted xs)
theorem sds_mem : ∀ {xs : List D}, D.sds xs = true → ∀ x ∈ xs, D.sd x = true
  | _ :: _, h, x, hx => by
    rcases List.mem_cons.mp hx with rfl | hx
    · exact (sds_and h).1
    · exact sds_mem (sds_and h).2 x hx
theorem sds_of : ∀ {xs : List D}, (∀ x ∈ xs, D.sd x = true) → D.sds xs = true
  | [], _ => rfl
  | x :: xs, h => Bool.and_eq_true_iff.mpr ⟨h x List.mem_cons_self, sds_of fun y hy => h y (List.mem_cons_of_mem _ hy)⟩
/-- a sorted arrangement is the only one -/
theorem srtD_uniq : ∀ {xs ys : List D}, xs.Perm ys → D.sds xs = true → xs.Pairwise leD → ys.Pairwise leD → xs = ys
  | [], ys, p, _, _, _ => (List.perm_nil.mp p.symm).symm
  | x :: xs, [], p, _, _, _ => (List.perm_nil.mp p)
  | x :: xs, y :: ys, p, sd, h1, h2 => by
    obtain ⟨a1, a2⟩ := List.pairwise_cons.mp h1
    obtain ⟨b1, b2⟩ := List.pairwise_cons.mp h2
    have e : x = y := by
      have m1 : x ∈ y :: ys := p.mem_iff.mp List.mem_cons_self
      have m2 : y ∈ x :: xs := p.mem_iff.mpr List.mem_cons_self
      rcases List.mem_cons.mp m1 with e | m1
      · exact e
      rcases List.mem_cons.mp m2 with e | m2
      · exact e.symm
      have g1 := b1 x m1
      have g2 := a1 y m2
      have s1 := (sds_and sd).1
      have s2 := sds_mem (sds_and sd).2 y m2
      cases q : D.ord x y with
      | eq => exact ord_eq x y s1 s2 q
      | lt => unfold leD at g1; rw [ord_swap, q] at g1; exact absurd rfl g1
      | gt => exact absurd q g2
    subst e
    rw [srtD_uniq (List.perm_cons x |>.mp p) (sds_and sd).2 a2 b2]
/-! ### in the heap -/
mutual
theorem reads_det {h : Heap} : ∀ (x y : D) (v : Value) (as bs : List Addr), D.sd x = true → D.sd y = true → Reads h v (D.py x) as → Reads h v (D.py y) bs → x = y
  | .int i, y, v, as, bs, _, hy, r, q => by
    cases r
    cases y with
    | int j => cases q; rfl
    | str j => cases q
    | tup ys => cases q
    | _ => cases hy
  | .str i, y, v, as, bs, _, hy, r, q => by
    cases r
    cases y with
    | int j => cases q
    | str j => cases q; rfl
    | tup ys => cases q
    | _ => cases hy
  | .tup xs, y, v, as, bs, hx, hy, r, q => by
    cases y with
    | int j => cases r; cases q
    | str j => cases r; cases q
    | tup ys =>
      cases r with
      | tuple h1 h2 h3 h4 =>
        cases q with
        | tuple k1 k2 k3 k4 =>
          rw [h1] at k1; cases k1
          rw [h3] at k3; cases k3
          rw [readsAll_det xs ys _ _ _ hx hy h4 k4]
    | _ => cases hy
theorem readsAll_det {h : Heap} : ∀ (xs ys : List D) (vs : List Value) (as bs : List Addr), D.sds xs = true → D.sds ys = true → ReadsAll h vs (D.pys xs) as → ReadsAll h vs (D.pys ys) bs → xs = ys
  | [], ys, vs, as, bs, _, _, r, q => by
    cases r
    cases ys with
    | nil => rfl
    | cons _ _ => cases q
  | x :: xs, ys, vs, as, bs, hx, hy, r, q => by
    cases r with
    | cons r1 r2 =>
      cases ys with
      | nil => cases q
      | cons y ys =>
        cases q with
        | cons q1 q2 => rw [reads_det x y _ _ _ (sds_and hx).1 (sds_and hy).1 r1 q1, readsAll_det xs ys _ _ _ (sds_and hx).2 (sds_and hy).2 r2 q2]
end
/-- what a value reads as -/
noncomputable def pickD (h : Heap) (v : Value) : D := by
  classical exact if e : ∃ d as, D.sd d = true ∧ Reads h v (D.py d) as then e.choose else .non
theorem pick_eq {h : Heap} {v : Value} {d : D} {as : List Addr} (hd : D.sd d = true) (r : Reads h v (D.py d) as) : pickD h v = d := by
  have e : ∃ d as, D.sd d = true ∧ Reads h v (D.py d) as := ⟨d, as, hd, r⟩
  unfold pickD
  rw [dif_pos e]
  obtain ⟨bs, h1, h2⟩ := e.choose_spec
  exact reads_det _ _ _ _ _ h1 hd h2 r
theorem pick_all {h : Heap} : ∀ {xs : List D} {vs : List Value} {as : List Addr}, D.sds xs = true → ReadsAll h vs (D.pys xs) as → vs.map (pickD h) = xs
  | [], _, _, _, r => by cases r; rfl
  | x :: xs, _, _, hx, r => by
    cases r with
    | cons r1 r2 => rw [List.map_cons, pick_eq (sds_and hx).1 r1, pick_all (sds_and hx).2 r2]
section
variable {P : Program} {u : World} {B : Around} {st : Shared}
theorem katLex_d {c fin : Bool} {Q : Bool → Shared → Prop} : ∀ (xs ys : List D) (i : Nat) (vs ws : List Value) (as bs : List Addr), D.sds xs = true → D.sds ys = true → D.coks xs ys = true → ReadsAll st.heap vs (D.pys xs) as → ReadsAll st.heap ws (D.pys ys) bs →
    (∀ x t r, xs = x :: r → i = 0 → x ≠ .tup t) → B.units + min (D.deps xs) (D.deps ys) < cLine → fin = decide (xs.length < ys.length) → Q (D.lts xs ys) st → PySem.W.KatLex P u B c fin Q (vs.zip ws) i st
  | [], ys, i, vs, ws, as, bs, _, _, _, r, q, _, _, hf, want => by
    cases r
    refine PySem.W.kat_nil ?_
    cases ys with
    | nil => subst hf; exact want
    | cons _ _ => subst hf; exact want
  | x :: xs, [], i, vs, ws, as, bs, _, _, _, r, q, _, _, hf, want => by
    cases q
    rw [List.zip_nil_right]
    subst hf
    exact PySem.W.kat_nil want
  | x :: xs, y :: ys, i, vs, ws, as, bs, hx, hy, hc, r, q, ht, hu, hf, want => by
    cases r with
    | cons r1 r2 =>
      cases q with
      | cons q1 q2 =>
        have hu' : B.units + min (max (D.dep x) (D.deps xs)) (max (D.dep y) (D.deps ys)) < cLine := hu
        rw [List.zip_cons_cons]
        refine PySem.W.kat_cons (eqAt_d (sds_and hx).1 (sds_and hy).1 r1 q1 (by omega) P u _ _ ?_)
        have hc' : (bif D.eqv x y then D.coks xs ys else D.cok x y) = true := hc
        cases e : D.eqv x y with
        | true =>
          rw [e] at hc'
          have := (eqv_sd x y (sds_and hx).1 (sds_and hy).1).mp e
          subst this
          have w2 : D.lts (x :: xs) (x :: ys) = D.lts xs ys := by
            show ((match D.ord x x with | .eq => D.ords xs ys | .lt => Ordering.lt | .gt => Ordering.gt) == Ordering.lt) = _
            rw [ord_self x (sds_and hx).1]; rfl
          rw [w2] at want
          exact PySem.W.kat_yes (katLex_d xs ys (i + 1) _ _ _ _ (sds_and hx).2 (sds_and hy).2 hc' r2 q2 (fun _ _ _ _ z => absurd z (Nat.succ_ne_zero i)) (by omega) (by rw [hf]; simp) want)
        | false =>
          rw [e] at hc'
          have ne : D.ord x y ≠ .eq := fun z => by
            have := ord_eq x y (sds_and hx).1 (sds_and hy).1 z
            rw [(eqv_sd x y (sds_and hx).1 (sds_and hy).1).mpr this] at e; cases e
          have w2 : D.lts (x :: xs) (y :: ys) = D.lt x y := by
            show ((match D.ord x y with | .eq => D.ords xs ys | .lt => Ordering.lt | .gt => Ordering.gt) == Ordering.lt) = (D.ord x y == Ordering.lt)
            cases z : D.ord x y <;> first | rfl | exact absurd z ne
          rw [w2] at want
          refine PySem.W.kat_no ?_
          by_cases lf : ∀ t, x ≠ .tup t
          · rcases rcLt_leaf x y B _ _ _ _ lf (sds_and hx).1 (sds_and hy).1 hc' r1 q1 with ⟨a, b, t1, t2, _, _, rfl, rfl, e5⟩ | ⟨a, b, t1, t2, _, _, rfl, rfl, e5⟩
            · rw [e5] at want; exact PyProof.Rows.oneLt_any_int want
            · rw [e5] at want; exact PyProof.Rows.oneLt_any_str want
          · have hi : i ≠ 0 := fun z => lf fun t => ht x t xs rfl z
            have e6 : (c && i == 0) = false := by simp [hi]
            rw [e6, PyProof.Rows.oneLt'_eq]
            simp only [Bool.false_eq_true, if_false]
            exact wpAny_bind (rcLt_d _ x y B _ _ _ _ (Nat.le_refl _) (sds_and hx).1 (sds_and hy).1 hc' r1 q1 (by omega) P u _ _ (wpAny_truthy_bool want))
theorem hd_ne {x : D} (h : hdI x = true ∨ hdS x = true) : ∃ y r, x = .tup (y :: r) ∧ ∀ t, y ≠ .tup t := by
  match x with
  | .tup (.int a :: r) => exact ⟨_, _, rfl, fun t z => nomatch z⟩
  | .tup (.str a :: r) => exact ⟨_, _, rfl, fun t z => nomatch z⟩
  | .non => rcases h with h | h <;> cases h
  | .bl _ => rcases h with h | h <;> cases h
  | .int _ => rcases h with h | h <;> cases h
  | .str _ => rcases h with h | h <;> cases h
  | .lst _ => rcases h with h | h <;> cases h
  | .dct _ _ => rcases h with h | h <;> cases h
  | .ref _ => rcases h with h | h <;> cases h
  | .scr _ => rcases h with h | h <;> cases h
  | .tup [] => rcases h with h | h <;> cases h
  | .tup (.non :: _) => rcases h with h | h <;> cases h
  | .tup (.bl _ :: _) => rcases h with h | h <;> cases h
  | .tup (.tup _ :: _) => rcases h with h | h <;> cases h
  | .tup (.lst _ :: _) => rcases h with h | h <;> cases h
  | .tup (.dct _ _ :: _) => rcases h with h | h <;> cases h
  | .tup (.ref _ :: _) => rcases h with h | h <;> cases h
  | .tup (.scr _ :: _) => rcases h with h | h <;> cases h
structure SrtOk (xs : List D) : Prop where
  hd : xs.all hdI = true ∨ xs.all hdS = true
  sd : D.sds xs = true
  dp : D.deps xs ≤ 200
  ck : ∀ x ∈ xs, ∀ y ∈ xs, D.cok x y = true
theorem srtOk_iff {xs : List D} : srtOk xs = true ↔ SrtOk xs := by
  unfold srtOk
  simp only [Bool.and_eq_true, Bool.or_eq_true, decide_eq_true_eq]
  refine ⟨fun ⟨⟨⟨h1, h2⟩, h3⟩, h4⟩ => ⟨h1, h2, h3, fun x hx y hy => List.all_eq_true.mp (List.all_eq_true.mp h4 x hx) y hy⟩, fun h => ⟨⟨⟨h.hd, h.sd⟩, h.dp⟩, List.all_eq_true.mpr fun x hx => List.all_eq_true.mpr fun y hy => h.ck x hx y hy⟩⟩
theorem SrtOk.hd1 {xs : List D} (h : SrtOk xs) {x : D} (hx : x ∈ xs) : ∃ y r, x = .tup (y :: r) ∧ ∀ t, y ≠ .tup t := by
  rcases h.hd with g | g
  · exact hd_ne (.inl (List.all_eq_true.mp g x hx))
  · exact hd_ne (.inr (List.all_eq_true.mp g x hx))
theorem deps_memS : ∀ {xs : List D} {x : D}, x ∈ xs → D.dep x ≤ D.deps xs
  | y :: ys, x, h => by
    rcases List.mem_cons.mp h with rfl | h
    · exact Nat.le_max_left _ _
    · exact Nat.le_trans (deps_memS h) (Nat.le_max_right _ _)
theorem readsAll_mem {h : Heap} : ∀ {xs : List D} {vs : List Value} {as : List Addr}, ReadsAll h vs (D.pys xs) as → ∀ v ∈ vs, ∃ x ∈ xs, ∃ bs, Reads h v (D.py x) bs
  | [], _, _, r, v, hv => by cases r; cases hv
  | x :: xs, _, _, r, v, hv => by
    cases r with
    | cons r1 r2 =>
      rcases List.mem_cons.mp hv with rfl | hv
      · exact ⟨x, List.mem_cons_self, _, r1⟩
      · obtain ⟨y, hy, q⟩ := readsAll_mem r2 v hv
        exact ⟨y, List.mem_cons_of_mem _ hy, q⟩
def ltK (k : Value → D) (v w : Value) : Bool := D.lt (k v) (k w)
theorem lt_no {x y : D} : D.lt x y = false ↔ D.ord x y ≠ .lt := by
  unfold D.lt
  cases D.ord x y <;> simp
theorem lt_yes {x y : D} : D.lt x y = true ↔ D.ord x y = .lt := by
  unfold D.lt
  cases D.ord x y <;> simp
theorem swo_k (k : Value → D) : SrtO.Swo (ltK k) := by
  refine ⟨fun x y h => ?_, fun x y z h1 h2 => ?_⟩
  · have h := lt_yes.mp h
    refine lt_no.mpr ?_
    rw [ord_swap, h]; simp
  · have a := lt_no.mp h1
    have b := lt_no.mp h2
    refine lt_no.mpr fun q => ?_
    have a' : leD (k x) (k y) := fun z' => a (by rw [ord_swap, z']; rfl)
    have b' : leD (k y) (k z) := fun z' => b (by rw [ord_swap, z']; rfl)
    have := leD_tr a' b'
    unfold leD at this
    rw [ord_swap, q] at this
    exact this rfl
/-- the first items -/
def fstOf (h : Heap) : Value → Value
  | .ref a => match h.get? a with
    | some o => match o.data with
      | .seq xs _ => xs.toList.headD .none
      | _ => .none
    | _ => .none
  | _ => .none
theorem fstOf_at {h : Heap} {a : Addr} {o : Obj} {ws : Array Value} {n : Nat} (h1 : h.get? a = some o) (h3 : o.data = .seq ws n) : fstOf h (.ref a) = ws.toList.headD .none := by
  unfold fstOf
  simp only [h1, h3]
theorem katTups_d {h : Heap} : ∀ {xs : List D} {vs : List Value} {as : List Addr}, (∀ x ∈ xs, ∃ y r, x = D.tup (y :: r)) → ReadsAll h vs (D.pys xs) as → PySem.W.KatTups h vs (vs.map (fstOf h))
  | [], _, _, _, r => by cases r; exact .nil
  | x :: xs, _, _, hx, r => by
    cases r with
    | cons r1 r2 =>
      obtain ⟨y, t, rfl⟩ := hx x List.mem_cons_self
      cases r1 with
      | @tuple a o ws n _ _ h1 h2 h3 h4 =>
        have ih := katTups_d (fun z hz => hx z (List.mem_cons_of_mem _ hz)) r2
        have e := fstOf_at h1 h3
        rw [List.map_cons, e]
        refine PySem.W.KatTups.cons h1 h2 h3 ?_ ih
        cases e2 : ws.toList with
        | nil => rw [e2] at h4; cases h4
        | cons w wr =>
          rw [← Array.getElem?_toList, e2]; rfl
theorem fst_ty {h : Heap} {x : D} {v : Value} {as : List Addr} (r : Reads h v (D.py x) as) : (hdI x = true → ∃ i t, fstOf h v = .int i t) ∧ (hdS x = true → ∃ i t, fstOf h v = .str i t) := by
  have main : ∀ y s, x = .tup (y :: s) → ∃ w bs, fstOf h v = w ∧ Reads h w (D.py y) bs := fun y s e => by
    subst e
    cases r with
    | @tuple a o ws n _ _ h1 h2 h3 h4 =>
      have e := fstOf_at h1 h3
      cases e2 : ws.toList with
      | nil => rw [e2] at h4; cases h4
      | cons w wr =>
        rw [e2] at h4
        cases h4 with
        | cons q1 q2 => exact ⟨w, _, by rw [e, e2]; rfl, q1⟩
  refine ⟨fun hx => ?_, fun hx => ?_⟩
  · obtain ⟨y, s, rfl, _⟩ := hd_ne (.inl hx)
    obtain ⟨w, bs, e, q⟩ := main y s rfl
    cases y <;> first | (cases hx; done) | skip
    cases q
    exact ⟨_, _, e⟩
  · obtain ⟨y, s, rfl, _⟩ := hd_ne (.inr hx)
    obtain ⟨w, bs, e, q⟩ := main y s rfl
    cases y <;> first | (cases hx; done) | skip
    cases q
    exact ⟨_, _, e⟩
theorem ty_ne1 : (Value.type "int" != Value.type "tuple") = true := by first | decide +kernel | rfl | decide
theorem ty_ne2 : (Value.type "str" != Value.type "tuple") = true := by first | decide +kernel | rfl | decide
/-- any two compare -/
theorem cmp_d {xs : List D} {vs : List Value} {as : List Addr} (ok : SrtOk xs) (r : ReadsAll st.heap vs (D.pys xs) as) (hu : B.units + 201 < cLine) : SrtO.Cmp P u B st (tuples' true) (fun p => p.1 ∈ vs) (SrtO.lt2 (ltK (pickD st.heap))) := by
  intro p q hp hq
  obtain ⟨x, hx, bs1, r1⟩ := readsAll_mem r _ hp
  obtain ⟨y, hy, bs2, r2⟩ := readsAll_mem r _ hq
  have sx := sds_mem ok.sd x hx
  have sy := sds_mem ok.sd y hy
  show wpAny (model P u) B (keyLt' (tuples' true) p.1 q.1) (fun r s' => s' = st ∧ r = D.lt (pickD st.heap p.1) (pickD st.heap q.1)) (fun _ _ => False) st
  rw [pick_eq sx r1, pick_eq sy r2]
  have ck := ok.ck x hx y hy
  have dx := deps_memS hx
  have dy := deps_memS hy
  have dd := ok.dp
  obtain ⟨x1, xr, rfl, nx⟩ := ok.hd1 hx
  obtain ⟨y1, yr, rfl, ny⟩ := ok.hd1 hy
  generalize p.1 = v1 at r1
  generalize q.1 = v2 at r2
  cases r1 with
  | @tuple a o ws n _ _ h1 h2 h3 h4 =>
    cases r2 with
    | @tuple a' o' ws' n' _ _ k1 k2 k3 k4 =>
      refine PySem.W.kat_lt h1 h3 k1 k3 (katLex_d (x1 :: xr) (y1 :: yr) 0 _ _ _ _ sx sy ck h4 k4 (fun x t r e _ z => ?_) ?_ ?_ ⟨rfl, rfl⟩)
      · cases e; exact nx t z
      · have d1 : D.dep (.tup (x1 :: xr)) = D.deps (x1 :: xr) + 1 := rfl
        omega
      · have n1 : ws.size = (x1 :: xr).length := by simpa [pys_len] using readsAll_len h4
        have n2 : ws'.size = (y1 :: yr).length := by simpa [pys_len] using readsAll_len k4
        rw [n1, n2]
theorem sortable_d {a : Addr} {xs : List D} {vs : List Value} (h0 : 0 < vs.length) (ok : SrtOk xs) (r : ∀ h' : Heap, (∀ b o, b ≠ a → st.heap.get? b = some o → h'.get? b = some o) → ∃ as, ReadsAll h' vs (D.pys xs) as) (hu : B.units + 201 < cLine) (k : Value → D) (hk : vs.map k = xs) :
    SrtO.SortableO P u B st a vs (ltK k) := by
  intro h' keep
  obtain ⟨as, r⟩ := r h' keep
  refine ⟨tuples' true, fun Q E hq => ?_, ?_⟩
  · have kt := katTups_d (fun x hx => by obtain ⟨y, r, e, _⟩ := ok.hd1 hx; exact ⟨y, r, e⟩) r
    rcases ok.hd with g | g
    · refine PySem.W.kat_kind (T := .type "int") kt (by simpa using h0) (fun f hf => ?_) (by rfl) ?_
      · obtain ⟨v, hv, rfl⟩ := List.mem_map.mp hf
        obtain ⟨x, hx, bs, q⟩ := readsAll_mem r v hv
        obtain ⟨i, t, e⟩ := (fst_ty q).1 (List.all_eq_true.mp g x hx)
        rw [e]
        exact PySem.W.Looks.now
      · rw [ty_ne1]; exact hq
    · refine PySem.W.kat_kind (T := .type "str") kt (by simpa using h0) (fun f hf => ?_) (by rfl) ?_
      · obtain ⟨v, hv, rfl⟩ := List.mem_map.mp hf
        obtain ⟨x, hx, bs, q⟩ := readsAll_mem r v hv
        obtain ⟨i, t, e⟩ := (fst_ty q).2 (List.all_eq_true.mp g x hx)
        rw [e]
        exact PySem.W.Looks.now
      · rw [ty_ne2]; exact hq
  · have c := cmp_d (P := P) (u := u) (B := B) (st := { st with heap := h' }) ok r hu
    intro p q hp hq
    have e := c p q hp hq
    have m : ∀ v ∈ vs, pickD h' v = k v := by
      have e2 : vs.map (pickD h') = vs.map k := by rw [hk, pick_all ok.sd r]
      intro v hv
      exact List.map_inj_left.mp e2 v hv
    have e3 : SrtO.lt2 (ltK k) p q = SrtO.lt2 (ltK (pickD h')) p q := by
      show D.lt (k p.1) (k q.1) = D.lt (pickD h' p.1) (pickD h' q.1)
      rw [m _ hp, m _ hq]
    rw [e3]
    exact e
mutual
theorem reads_keep {h h' : Heap} (keep : ∀ b o, h.get? b = some o → h'.get? b = some o) : ∀ (x : D) (v : Value) (as : List Addr), D.sd x = true → Reads h v (D.py x) as → Reads h' v (D.py x) as
  | .int i, v, as, _, r => by cases r; exact .int _ _
  | .str i, v, as, _, r => by cases r; exact .str _ _
  | .tup xs, v, as, hx, r => by
    cases r with
    | tuple h1 h2 h3 h4 => exact .tuple (keep _ _ h1) h2 h3 (readsAll_keep keep xs _ _ hx h4)
theorem readsAll_keep {h h' : Heap} (keep : ∀ b o, h.get? b = some o → h'.get? b = some o) : ∀ (xs : List D) (vs : List Value) (as : List Addr), D.sds xs = true → ReadsAll h vs (D.pys xs) as → ReadsAll h' vs (D.pys xs) as
  | [], vs, as, _, r => by cases r; exact .nil
  | x :: xs, vs, as, hx, r => by
    cases r with
    | cons r1 r2 => exact .cons (reads_keep keep x _ _ (sds_and hx).1 r1) (readsAll_keep keep xs _ _ (sds_and hx).2 r2)
end
end
section
variable {P : Program} {u : World} {B : Around} {E : Value → Shared → Prop} {st : Shared}
theorem sorted_seq {it : Addr} {T : String} {ob : Obj} {its : List Value} {n : Nat} {ltv : Value → Value → Bool} {Q : Value → Shared → Prop} (hT : T = "list" ∨ T = "tuple") (ho : st.heap.get? it = some ob) (hc : ob.cls = .type T) (hd : ob.data = .seq its.toArray n)
    (O : SrtO.Swo ltv) (hz : its.length ≤ sizeLine)
    (hS : 2 ≤ its.length → ∀ (h₁ : Heap) (a : Addr), h₁.get? a = some (seqObj "list" its.toArray 0) → (∀ b o, st.heap.get? b = some o → b ≠ a ∧ h₁.get? b = some o) → SrtO.SortableO P u B.in1.in1 { st with heap := h₁ } a its ltv)
    (want : ∀ (h₁ h₂ : Heap) (d : Addr) (out : List Value), (∀ b o, st.heap.get? b = some o → h₁.get? b = some o) → SrtO.Srtd ltv out → SrtO.Stb ltv out its → (∀ b o, h₁.get? b = some o → h₂.get? b = some o) → h₁.objs.size ≤ d → (∃ e, h₂.get? d = some (seqObj "list" out.toArray e)) → Q (.ref d) { st with heap := h₂ }) :
    wpAny (model P u) B (call (.builtin "sorted") [.ref it]) Q E st := by
  refine (Calls.call_function_entry (kind_sorted) (plain_sorted) (entry_sorted) (args_sorted1 _) ?_)
  unfold Builtin.«sorted»
  refine (wpAny_bind (m := checkCount "sorted" 1 1 _) (wpAny_pure ?_))
  refine wpAny_bind (wpAny_collect_seq it hT ho hc hd (fun hq keep => ?_) (by rw [List.size_toArray]; exact hz))
  refine wpAny_bind (wpAny_newList ?_ hz)
  have fresh : ∀ b o, st.heap.get? b = some o → b ≠ hq.objs.size ∧ (hq.push (seqObj "list" its.toArray 0)).get? b = some o := fun b o e => by
    have e2 := keep b o e
    exact ⟨Nat.ne_of_lt (Heap.lt_size e2), Heap.get?_push_of_some _ e2⟩
  have at_ : (hq.push (seqObj "list" its.toArray 0)).get? hq.objs.size = some (seqObj "list" its.toArray 0) := Heap.get?_push_size _ rfl
  refine wpAny_bind (wpAny_holding (wpAny_call_entry slot_list_sort ⟨_, at_, rfl⟩ entry_list_sort (SrtO.list_sort_ord (s := { st with heap := hq.push (seqObj "list" its.toArray 0) }) O at_ hz (fun h2 => hS h2 _ _ at_ fresh) fun out hs hb => ⟨_, rfl, ?_⟩) (args_list_sort _)))
  refine wpAny_pure ⟨_, rfl, ?_⟩
  obtain ⟨ep, he⟩ := PyProof.Rows.sortedHeap_at (vs := its) (out := out.toArray) at_
  refine want hq _ _ out keep hs hb (fun b o e => ?_) (Nat.le_refl _) ⟨ep, he⟩
  have k1 : b ≠ hq.objs.size := Nat.ne_of_lt (Heap.lt_size e)
  have k2 : (hq.push (seqObj "list" its.toArray 0)).get? b = some o := Heap.get?_push_of_some _ e
  rw [PyProof.Rows.sortedHeap_old k1 (Heap.lt_size k2)]
  exact k2
end
def rSortedD (K : PySem.W.Frag) : List V → Hp → VK → Prop := fun vs H Q => ∃ (a : Addr) (ys : List V) (xs : List D), vs = [V.ref a] ∧ (SqL K H a ys ∨ SqT K H a ys) ∧ DpAll K H ys (D.pys xs) ∧ SrtOk xs ∧
  ∀ (g : V → D) (zs : List V) (p : Addr), ys.map g = xs → zs.Perm ys → zs.map g = sortD xs → H p = none → Q (.ref p) (upd H p (.lst zs))
def rSortedJ (K : PySem.W.Frag) : List V → Hp → VK → Prop := fun vs H Q => ∃ (a : Addr) (ns : List Int), vs = [V.ref a] ∧ SqT K H a (ns.map V.int) ∧
  ∀ (ns' : List Int) (p : Addr), ns'.Perm ns → ns'.Pairwise (· ≤ ·) → H p = none → Q (.ref p) (upd H p (.lst (ns'.map V.int)))
def unV : V → Value
  | .ref a => .ref a
  | _ => .none
theorem dpAll_refs {K : PySem.W.Frag} {H : Hp} : ∀ {xs : List D} {ys : List V}, (∀ x ∈ xs, ∃ r, x = D.tup r) → DpAll K H ys (D.pys xs) → ∀ y ∈ ys, ∃ t, y = V.ref t
  | [], _, _, h, y, hy => by cases h; cases hy
  | x :: xs, _, hx, h, y, hy => by
    cases h with
    | cons h1 h2 =>
      rcases List.mem_cons.mp hy with rfl | hy
      · obtain ⟨r, rfl⟩ := hx x List.mem_cons_self
        cases h1 with
        | tup q _ => exact ⟨_, rfl⟩
      · exact dpAll_refs (fun z hz => hx z (List.mem_cons_of_mem _ hz)) h2 y hy
theorem backs_vals : ∀ {us : List Value}, (∀ v ∈ us, ∃ t, v = Value.ref t) → Vals (us.map backV) us
  | [], _ => .nil
  | v :: us, h => by
    obtain ⟨t, rfl⟩ := h v List.mem_cons_self
    exact .cons rfl (backs_vals fun w hw => h w (List.mem_cons_of_mem _ hw))
theorem seq_items {X : Cx} {pins} {σ} {H : Hp} {s : Shared} (I : Inv X pins σ H s) {a : Addr} {ys : List V} (h : SqL X.K H a ys ∨ SqT X.K H a ys) :
    ∃ (its : List Value) (T : String) (o : Obj) (n : Nat), Vals ys its ∧ ys.length ≤ sizeLine ∧ (T = "list" ∨ T = "tuple") ∧ s.heap.get? a = some o ∧ o.cls = .type T ∧ o.data = .seq its.toArray n := by
  rcases h with h | h
  · obtain ⟨its, rv, hl, hz⟩ := I.list h
    obtain ⟨o, e, c, n, d⟩ := hl.isList
    exact ⟨its, "list", o, n, rv, hz, .inl rfl, e, c, d⟩
  · obtain ⟨its, rv, ⟨o, e, c, n, d⟩, hz⟩ := I.tuple h
    exact ⟨its, "tuple", o, n, rv, hz, .inr rfl, e, c, d⟩
theorem cr_sortedD {X : Cx} (hr : X.A.units + 205 < cLine) : CallR X (.builtin "sorted") (rSortedD X.K) := by
  intro pins s σ H vs us Q I r h
  obtain ⟨a, ys, xs, rfl, hs, dp, ok, q⟩ := h
  obtain ⟨its, T, o, n, rv, hz, hT, ho, hcl, hd⟩ := seq_items I hs
  rw [Vals.ref1 r]
  obtain ⟨as, ra⟩ := Dp.readsAll I (D.pys xs) ys its dp rv
  obtain ⟨e1, e2⟩ := refs_back rv (dpAll_refs (fun x hx => by obtain ⟨y, r, e, _⟩ := ok.hd1 hx; exact ⟨_, e⟩) dp)
  have pk := pick_all ok.sd ra
  refine sorted_seq hT ho hcl hd (swo_k (pickD s.heap)) (by rw [← rv.length]; exact hz) (fun h2 h₁ a' g1 g2 => ?_) fun hq h₂ d out keep h1 h2 keep2 big he => ?_
  · refine sortable_d (by omega) ok (fun h' keep => ⟨as, readsAll_keep (fun b o e => ?_) xs its as ok.sd ra⟩) (by show X.A.units + 1 + 1 + 201 < _; omega) _ pk
    obtain ⟨k1, k2⟩ := g2 b o e
    exact keep b o k1 k2
  · have pm : out.Perm its := h2.perm
    have so : (out.map (pickD s.heap)).Pairwise leD := List.pairwise_map.mpr (h1.imp fun {x y} h => fun z => lt_no.mp (show D.lt (pickD s.heap y) (pickD s.heap x) = false from h) (by rw [ord_swap, z]; rfl))
    have pm2 : (out.map (pickD s.heap)).Perm xs := by rw [← pk]; exact pm.map _
    have sd2 : D.sds (out.map (pickD s.heap)) = true := sds_of fun x hx => sds_mem ok.sd x (pm2.mem_iff.mp hx)
    have fin := srtD_uniq (pm2.trans (sortD_perm xs).symm) sd2 so (sortD_sorted xs)
    obtain ⟨ep, he'⟩ := he
    have bk : ∀ v ∈ its, unV (backV v) = v := fun v hv => by
      obtain ⟨t, rfl⟩ := e2 v hv
      rfl
    have bo : ∀ v ∈ out, unV (backV v) = v := fun v hv => bk v (pm.mem_iff.mp hv)
    have hlen : (out.map backV).length ≤ sizeLine := by
      rw [List.length_map, pm.length_eq, ← rv.length]; exact hz
    have I1 := I.kept (t' := s.toks) keep
    refine ⟨.ref _, upd H d (.lst (out.map backV)), I1.laid (t' := s.toks) keep2 big ⟨hlen, out, ep, ?_, he'⟩, rfl, q (fun v => pickD s.heap (unV v)) _ _ ?_ ?_ ?_ (I1.hok.fresh big)⟩
    · exact backs_vals fun v hv => e2 v (pm.mem_iff.mp hv)
    · rw [e1, List.map_map, ← pk]
      exact List.map_inj_left.mpr fun v hv => by show pickD s.heap (unV (backV v)) = _; rw [bk v hv]
    · rw [e1]; exact pm.map _
    · rw [List.map_map, ← fin]
      exact List.map_inj_left.mpr fun v hv => by show pickD s.heap (unV (backV v)) = _; rw [bo v hv]
theorem cr_sortedJ {X : Cx} : CallR X (.builtin "sorted") (rSortedJ X.K) := by
  intro pins s σ H vs us Q I r h
  obtain ⟨a, ns, rfl, hs, q⟩ := h
  obtain ⟨its, T, o, n, rv, hz, hT, ho, hcl, hd⟩ := seq_items I (.inr hs)
  rw [Vals.ref1 r]
  have hi := rv.ints
  refine sorted_seq hT ho hcl hd SrtO.swo_int (by rw [← rv.length]; exact hz) (fun h2 h₁ a' g1 g2 => SrtO.ints_sortable hi h2) fun hq h₂ d out keep h1 h2 keep2 big he => ?_
  obtain ⟨k1, k2, k3⟩ := SrtO.ints_out hi h1 h2
  obtain ⟨ep, he'⟩ := he
  have hlen : ((out.map SrtO.iv).map V.int).length ≤ sizeLine := by
    rw [List.length_map, k2.length_eq]
    rw [List.length_map] at hz
    exact hz
  have I1 := I.kept (t' := s.toks) keep
  exact ⟨.ref _, upd H d (.lst ((out.map SrtO.iv).map V.int)), I1.laid (t' := s.toks) keep2 big ⟨hlen, out, ep, L2.vals_of_ints k1, he'⟩, rfl, q _ _ k2 k3 (I1.hok.fresh big)⟩
end Ly
set_option Elab.async false
set_option linter.all false
set_option maxRecDepth 100000
set_option maxHeartbeats 2000000
/-! Ly3: dicts; comparisons, subscripts, built-in functions and methods. -/
namespace Ly
open PySem PySem.Spec PyProof.Rows L2
section
variable {K : KW} {Φ H : Hp} {ρ : List Addr}
/-- what a look finds -/
def RelD (K : KW) (Φ : Hp) (ρ : List Addr) : Option D → Option V → Prop
  | some d, some v => Rep K Φ ρ d v
  | none, none => True
  | _, _ => False
theorem RelD.isSome {o : Option D} {w : Option V} (r : RelD K Φ ρ o w) : w.isSome = o.isSome := by
  cases o <;> cases w <;> first | rfl | exact r.elim
theorem RelD.some_of {d : D} {w : Option V} (r : RelD K Φ ρ (some d) w) : ∃ v, w = some v ∧ Rep K Φ ρ d v := by
  cases w with
  | none => exact r.elim
  | some v => exact ⟨v, rfl, r⟩
theorem RelD.getD {o : Option D} {w : Option V} {d : D} {v : V} (r : RelD K Φ ρ o w) (q : Rep K Φ ρ d v) : Rep K Φ ρ (o.getD d) (w.getD v) := by
  cases o <;> cases w <;> first | exact q | exact r | exact r.elim
theorem beq_kD (a b : Key) : D.beq (kD a) (kD b) = decide (b = a) := by
  rcases a with i | x <;> rcases b with j | y
  · show decide (i = j) = decide (Sum.inl j = Sum.inl i)
    by_cases e : i = j
    · subst e; simp
    · rw [decide_eq_false e, decide_eq_false (fun q => e (Sum.inl.inj q).symm)]
  · exact (decide_eq_false (fun q => nomatch q)).symm
  · exact (decide_eq_false (fun q => nomatch q)).symm
  · show decide (x = y) = decide (Sum.inr y = Sum.inr x)
    by_cases e : x = y
    · subst e; simp
    · rw [decide_eq_false e, decide_eq_false (fun q => e (Sum.inr.inj q).symm)]
theorem look_dK (k : Key) : ∀ {kk : List Key} {ds : List D} {vs : List V}, kk.length = vs.length → Reps K Φ ρ ds vs → RelD K Φ ρ (dLook (kD k) (kk.map kD) ds) (valV (kk.zip vs) k)
  | [], ds, vs, _, _ => by cases ds <;> exact trivial
  | k' :: kk, [], vs, hl, r => by cases r; cases hl
  | k' :: kk, d :: ds, vs, hl, ⟨v, ws, e, r, rs⟩ => by
    cases e
    show RelD K Φ ρ (if D.beq (kD k) (kD k') then some d else dLook (kD k) (kk.map kD) ds) (valV ((k', v) :: kk.zip ws) k)
    rw [beq_kD]
    by_cases q : k' = k
    · rw [if_pos (decide_eq_true q), valV_pos q]
      exact r
    · rw [if_neg (by rw [decide_eq_false q]; exact Bool.false_ne_true), valV_neg q]
      exact look_dK k (Nat.succ.inj hl) rs
theorem look_W (z : Str) : ∀ {kk : List Str} {ds : List D} {vs : List V} {es : List DictEntry}, kk.length = vs.length → Reps K Φ ρ ds vs →
    Paired (fun (e : DictEntry) (p : Str × V) => (∃ t, e.key = .str p.1 t) ∧ RelV p.2 e.val) es (kk.zip vs) → ∃ o : Option V, RelD K Φ ρ (dLook (.str z) (kk.map D.str) ds) o ∧ RelO o ((es.find? fun e => Value.isStrOf z e.key).map (·.val))
  | [], ds, vs, es, _, _, p => by
    cases p
    exact ⟨none, by cases ds <;> exact trivial, trivial⟩
  | k' :: kk, [], vs, es, hl, r, p => by cases r; cases hl
  | k' :: kk, d :: ds, vs, es, hl, ⟨v, ws, e, r, rs⟩, p => by
    cases e
    cases p with
    | cons h t =>
      rename_i en es'
      obtain ⟨⟨tk, hk⟩, hv⟩ := h
      have hk' : en.key = .str k' tk := hk
      show ∃ o : Option V, RelD K Φ ρ (if D.beq (.str z) (.str k') then some d else dLook (.str z) (kk.map D.str) ds) o ∧ _
      rw [List.find?_cons]
      have hb : Value.isStrOf z en.key = decide (k' = z) := by
        rw [hk']
        simp only [Value.isStrOf]
        rw [Bool.beq_eq_decide_eq]
      rw [hb]
      have hb2 : D.beq (.str z) (.str k') = decide (z = k') := rfl
      rw [hb2]
      by_cases q : z = k'
      · subst q
        rw [decide_eq_true rfl, if_pos rfl]
        exact ⟨some v, r, hv⟩
      · rw [decide_eq_false q, decide_eq_false (fun z => q z.symm), if_neg Bool.false_ne_true]
        exact look_W z (Nat.succ.inj hl) rs t
theorem beq_kDs : ∀ (a b : List Key), D.beqs (a.map kD) (b.map kD) = decide (b = a)
  | [], [] => rfl
  | [], _ :: _ => (decide_eq_false (fun q => nomatch q)).symm
  | _ :: _, [] => (decide_eq_false (fun q => nomatch q)).symm
  | x :: a, y :: b => by
    show (D.beq (kD x) (kD y) && D.beqs (a.map kD) (b.map kD)) = _
    rw [beq_kD, beq_kDs a b]
    by_cases h1 : y = x
    · by_cases h2 : b = a <;> simp [h1, h2]
    · simp [h1]
theorem look_dT (k : List Key) : ∀ {kk : List (List Key)} {ds : List D} {vs : List V}, kk.length = vs.length → Reps K Φ ρ ds vs → RelD K Φ ρ (dLook (.tup (k.map kD)) (kk.map fun k => D.tup (k.map kD)) ds) (valV (kk.zip vs) k)
  | [], ds, vs, _, _ => by cases ds <;> exact trivial
  | k' :: kk, [], vs, hl, r => by cases r; cases hl
  | k' :: kk, d :: ds, vs, hl, ⟨v, ws, e, r, rs⟩ => by
    cases e
    show RelD K Φ ρ (if D.beqs (k.map kD) (k'.map kD) then some d else dLook (.tup (k.map kD)) (kk.map fun k => D.tup (k.map kD)) ds) (valV ((k', v) :: kk.zip ws) k)
    rw [beq_kDs]
    by_cases q : k' = k
    · rw [if_pos (decide_eq_true q), valV_pos q]
      exact r
    · rw [if_neg (by rw [decide_eq_false q]; exact Bool.false_ne_true), valV_neg q]
      exact look_dT k (Nat.succ.inj hl) rs
theorem keys_of {xs : List D} (h : D.trk xs = true) : ∃ q : List Key, xs = q.map kD := by
  have one : ∀ xs : List D, (∀ x ∈ xs, ∃ k : Key, x = kD k) → ∃ q : List Key, xs = q.map kD := fun xs => by
    induction xs with
    | nil => exact fun _ => ⟨[], rfl⟩
    | cons x xs ih =>
      intro h
      obtain ⟨k, rfl⟩ := h x List.mem_cons_self
      obtain ⟨q, rfl⟩ := ih fun y hy => h y (List.mem_cons_of_mem _ hy)
      exact ⟨k :: q, rfl⟩
  refine one xs fun x hx => ?_
  rcases Bool.or_eq_true_iff.mp h with g | g
  · have := List.all_eq_true.mp g x hx
    cases x <;> first | exact ⟨.inl _, rfl⟩ | cases this
  · have := List.all_eq_true.mp g x hx
    cases x <;> first | exact ⟨.inr _, rfl⟩ | cases this
theorem reps_keys : ∀ {q : List Key} {vs : List V}, Reps K Φ ρ (q.map kD) vs → vs = q.map kV
  | [], _, r => r
  | .inl i :: q, _, ⟨v, ws, e, r, rs⟩ => by subst e; rw [reps_keys rs, show v = V.int i from r]; rfl
  | .inr i :: q, _, ⟨v, ws, e, r, rs⟩ => by subst e; rw [reps_keys rs, show v = V.str i from r]; rfl
theorem keys_all {p : D → Bool} {ks : List D} (h : ks.all p = true) : ∀ d ∈ ks, p d = true := List.all_eq_true.mp h
end
section
variable {X : Cx} {pins : List (Addr × Obj)} {σ : L2.St} {s : Shared} {Φ H : Hp} {ρ : List Addr} {a : Addr} {ks ds : List D} {vs : List V} {k : D} {y : V} {u : Value}
theorem kS_of {k : D} (h : D.kS k = true) : ∃ z, k = .str z := by
  cases k <;> first | exact ⟨_, rfl⟩ | cases h
theorem kI_of {k : D} (h : D.kI k = true) : ∃ z, k = .int z := by
  cases k <;> first | exact ⟨_, rfl⟩ | cases h
theorem kT_of {k : D} (h : D.kT k = true) : ∃ xs, k = .tup xs ∧ D.trk xs = true := by
  cases k <;> first | exact ⟨_, rfl, h⟩ | cases h
theorem kfit_kind {k : D} {ks ds : List D} (f : kfit k ks ds = true) : (∃ z, k = .str z) ∨ (∃ z, k = .int z) ∨ ∃ xs, k = .tup xs ∧ D.trk xs = true := by
  unfold kfit at f
  split at f
  · rcases Bool.or_eq_true_iff.mp f with g | g
    · rcases Bool.or_eq_true_iff.mp g with g | g
      · exact .inl (kS_of (Bool.and_eq_true_iff.mp g).1)
      · exact .inr (.inl (kI_of (Bool.and_eq_true_iff.mp g).1))
    · exact .inr (.inr (kT_of (Bool.and_eq_true_iff.mp (Bool.and_eq_true_iff.mp g).1).1))
  · exact .inr (.inr (kT_of (Bool.and_eq_true_iff.mp f).2))
theorem kfit_rep {K : KW} (f : kfit k ks ds = true) (v : View K Φ ρ H k y) : Rep K Φ ρ k y := by
  rcases kfit_kind f with ⟨z, rfl⟩ | ⟨z, rfl⟩ | ⟨xs, rfl, _⟩ <;> exact v
/-- how a dict is looked into -/
theorem dct_cases (sub : Same Φ H) (c : DctAt X.kw H a ks vs) (f : kfit k ks ds = true) (rs : Reps X.kw Φ ρ ds vs) (rk : Rep X.kw Φ ρ k y) :
    (∃ o, DGet H a y o ∧ RelD X.kw Φ ρ (dLook k ks ds) o) ∨
    ∃ (es : Array DictEntry) (n : Nat) (z : Str) (o : Option V), KDict X.K X.w a es n ∧ k = .str z ∧ y = .str z ∧ RelD X.kw Φ ρ (dLook k ks ds) o ∧ RelO o (findBy Value.isStrOf es z) := by
  have hl0 := reps_len rs
  rcases c with ⟨es, n, kk, kd, hne, rfl, hl, hp⟩ | ⟨kk, rfl, hl, nd, hrd⟩ | ⟨kk, hne, rfl, hl, nd, hrd⟩ | ⟨rfl, rfl, hrd⟩
  · have f' : kfit k (kk.map D.str) ds = ((D.kS k && (kk.map D.str).all D.kS) || (D.kI k && (kk.map D.str).all D.kI) || (D.kT k && (kk.map D.str).all D.kT && !(kk.map D.str).isEmpty)) := if_pos (by simp; omega)
    rw [f'] at f
    obtain ⟨c1, r1, e1⟩ : ∃ c r, kk = c :: r := by
      cases kk with
      | nil => exact absurd rfl hne
      | cons c r => exact ⟨c, r, rfl⟩
    have f2 : D.kS k = true := by
      rw [e1] at f
      simp [D.kS, D.kI, D.kT] at f
      exact f
    obtain ⟨z, rfl⟩ := kS_of f2
    have ey : y = .str z := rk
    obtain ⟨o, h1, h2⟩ := look_W (es := es.toList) z hl rs hp
    refine .inr ⟨es, n, z, o, kd, rfl, ey, h1, ?_⟩
    have e : findBy Value.isStrOf es z = (es.toList.find? fun e => Value.isStrOf z e.key).map (·.val) := by
      unfold findBy
      rw [← Array.find?_toList]
    rw [e]
    exact h2
  · have f' : kfit k (kk.map kD) ds = ((D.kS k && (kk.map kD).all D.kS) || (D.kI k && (kk.map kD).all D.kI) || (D.kT k && (kk.map kD).all D.kT && !(kk.map kD).isEmpty)) := if_pos (by simp; omega)
    rw [f'] at f
    have key : ∃ q, k = kD q ∧ y = kV q := by
      rcases Bool.or_eq_true_iff.mp f with g | g
      · rcases Bool.or_eq_true_iff.mp g with g | g
        · obtain ⟨z, rfl⟩ := kS_of (Bool.and_eq_true_iff.mp g).1
          exact ⟨.inr z, rfl, rk⟩
        · obtain ⟨z, rfl⟩ := kI_of (Bool.and_eq_true_iff.mp g).1
          exact ⟨.inl z, rfl, rk⟩
      · exfalso
        cases kk with
        | nil => simp at g
        | cons c r =>
          cases c <;> simp [kD, D.kT] at g
    obtain ⟨q, rfl, rfl⟩ := key
    exact .inl ⟨_, .inl ⟨_, q, hrd, rfl, rfl⟩, look_dK q hl rs⟩
  · have f' : kfit k (kk.map fun k => D.tup (k.map kD)) ds = ((D.kS k && (kk.map fun k => D.tup (k.map kD)).all D.kS) || (D.kI k && (kk.map fun k => D.tup (k.map kD)).all D.kI) || (D.kT k && (kk.map fun k => D.tup (k.map kD)).all D.kT && !(kk.map fun k => D.tup (k.map kD)).isEmpty)) := if_pos (by simp; omega)
    rw [f'] at f
    have f2 : D.kT k = true := by
      cases kk with
      | nil => exact absurd rfl hne
      | cons c r => simp [D.kS, D.kI] at f; exact f.1
    obtain ⟨xs, rfl, tk⟩ := kT_of f2
    obtain ⟨q, rfl⟩ := keys_of tk
    obtain ⟨b, ws, rfl, q1, q2, q3⟩ := rk
    have e2 := reps_keys q2
    subst e2
    exact .inl ⟨_, .inr ⟨_, q, b, .inl hrd, rfl, sub _ _ (q3 tk), rfl⟩, look_dT q hl rs⟩
  · have f' : kfit k [] ds = (true && D.kT k) := if_neg (by simp at hl0 ⊢; intro z; rw [z] at hl0; cases hl0)
    rw [f'] at f
    obtain ⟨xs, rfl, tk⟩ := kT_of (Bool.and_eq_true_iff.mp f).2
    obtain ⟨q, rfl⟩ := keys_of tk
    obtain ⟨b, ws, rfl, q1, q2, q3⟩ := rk
    have e2 := reps_keys q2
    subst e2
    exact .inl ⟨_, .inr ⟨_, q, b, .inl hrd, rfl, sub _ _ (q3 tk), rfl⟩, by cases ds <;> exact trivial⟩
theorem dct_type (I : L2.Inv X pins σ H s) (c : DctAt X.kw H a ks vs) : s.TypeIs (.ref a) "dict" := by
  rcases c with ⟨es, n, kk, kd, _⟩ | ⟨kk, _, _, _, hrd⟩ | ⟨kk, _, _, _, _, hrd⟩ | ⟨_, _, hrd⟩
  · exact kd_type kd I
  · exact dict_typeIs (y := .int 0) I (.inl ⟨_, .inl 0, hrd, rfl, rfl⟩)
  · obtain ⟨_, _, xs, _, dd⟩ := dt_rd I.hok (.inl hrd)
    exact dd.typeIs
  · obtain ⟨_, _, xs, _, dd⟩ := dt_rd I.hok (.inl hrd)
    exact dd.typeIs
end

section
variable {X : Cx}
def rC (f : D → D → Option Bool) (K : KW) : R2 := rB K (bo f)
theorem rep_non {K : KW} {Φ : Hp} {ρ : List Addr} {d : D} {v : V} (r : Rep K Φ ρ d v) : decide (v = .non) = D.isNon d := by
  cases d with
  | non => cases r; rfl
  | bl b => cases r; rfl
  | int i => cases r; rfl
  | str x => cases r; rfl
  | tup xs => obtain ⟨a, vs, e, _⟩ := r; cases e; rfl
  | lst xs => obtain ⟨a, vs, e, _⟩ := r; cases e; rfl
  | dct ks ds => obtain ⟨a, vs, e, _⟩ := r; cases e; rfl
  | ref n => obtain ⟨a, e, _⟩ := r; cases e; rfl
  | scr ns => obtain ⟨a, e, _⟩ := r; cases e; rfl
theorem view_non {K : KW} {Φ H : Hp} {ρ : List Addr} {d : D} {v : V} (r : View K Φ ρ H d v) : decide (v = .non) = D.isNon d := by
  cases d with
  | lst xs => obtain ⟨a, vs, e, _⟩ := r; cases e; rfl
  | dct ks ds => obtain ⟨a, vs, e, _⟩ := r; cases e; rfl
  | _ => exact rep_non (show Rep K Φ ρ _ v from r)
theorem anyEq_of {a : D} {xs : List D} {k : Bool} (h : anyEq a xs = some k) : D.pl a = true ∧ D.pls xs = true ∧ D.dep a ≤ 200 ∧ k = xs.any fun x => D.eqv x a := by
  obtain ⟨h1, h2⟩ := ifs h rfl
  simp only [Bool.and_eq_true, decide_eq_true_eq] at h1
  exact ⟨h1.1.1, h1.1.2, h1.2, h2.symm⟩
theorem in_ok (neg : Bool) (hr : X.A.units + 202 < cLine) : OpR X (compareOp (if neg then .NotIn else .In)) (rB X.kw (bo fun a b => (opIn a b).map fun k => if neg then !k else k)) := by
  intro pins s σ H x y v u Q I rx ry h
  obtain ⟨b, Φ, ρ, s0, σ0, dx, dy, p, r, vx, vy, e, c⟩ := h
  obtain ⟨k, e1, e2⟩ := omap e
  obtain ⟨k2, e3, e4⟩ := omap e1
  subst e2 e4
  have sub := r.sub
  unfold opIn at e3
  split at e3
  · rename_i xs
    obtain ⟨h1, h2, h3, rfl⟩ := anyEq_of e3
    obtain ⟨as, r1⟩ := Dp.reads I _ x v (view_dp sub h1 vx) rx
    obtain ⟨bs, r2⟩ := Dp.reads I _ y u (view_dp (d := .tup xs) sub h2 vy) ry
    have hu : X.A.units + 1 + min (PyData.depthAll (D.pys xs)) (D.py dx).depth < cLine := by rw [py_dep]; omega
    cases neg with
    | false => exact SeqAt.in_tuple_data r2 r1 (pys_plain _) (py_plain _) hu ⟨.bl _, H, I, by rw [any_eqv h1 h2]; rfl, cont_rep c r rfl⟩
    | true => exact SeqAt.notIn_tuple_data r2 r1 (pys_plain _) (py_plain _) hu ⟨.bl _, H, I, by rw [any_eqv h1 h2]; rfl, cont_rep c r rfl⟩
  · rename_i xs
    obtain ⟨h1, h2, h3, rfl⟩ := anyEq_of e3
    obtain ⟨as, r1⟩ := Dp.reads I _ x v (view_dp sub h1 vx) rx
    obtain ⟨bs, r2⟩ := Dp.reads I _ y u (view_dp (d := .lst xs) sub h2 vy) ry
    have hu : X.A.units + 1 + min (PyData.depthAll (D.pys xs)) (D.py dx).depth < cLine := by rw [py_dep]; omega
    cases neg with
    | false => exact SeqAt.in_list_data r2 r1 (pys_plain _) (py_plain _) hu ⟨.bl _, H, I, by rw [any_eqv h1 h2]; rfl, cont_rep c r rfl⟩
    | true => exact SeqAt.notIn_list_data r2 r1 (pys_plain _) (py_plain _) hu ⟨.bl _, H, I, by rw [any_eqv h1 h2]; rfl, cont_rep c r rfl⟩
  · rename_i xs zs
    obtain ⟨h1, h2⟩ := ifs e3 rfl
    subst h2
    cases (show x = _ from vx); cases (show y = _ from vy)
    obtain ⟨cps⟩ := xs
    obtain ⟨l⟩ := cps
    cases l with
    | nil => cases h1
    | cons ch rest =>
      cases rest with
      | cons _ _ => cases h1
      | nil =>
        cases neg with
        | false => exact op_in_sign pins s σ H _ _ v u Q I rx ry ⟨ch, _, rfl, rfl, cont_rep c r rfl⟩
        | true => exact op_notIn_sign pins s σ H _ _ v u Q I rx ry ⟨ch, _, rfl, rfl, cont_rep c r rfl⟩
  · rename_i ks ds
    obtain ⟨h1, h2⟩ := ifs e3 rfl
    subst h2
    obtain ⟨a, vs, e5, dc, rs⟩ := vy
    subst e5
    cases ry
    have rk : Rep X.kw Φ ρ dx x := kfit_rep h1 vx
    rcases dct_cases sub dc h1 rs rk with ⟨o, g, rd⟩ | ⟨es, n, z, o, kd, rfl, rfl, rd, ro⟩
    · cases neg with
      | false => exact d_in (by omega) I g rx fun s' I' => ⟨.bl _, H, I', by rw [rd.isSome]; rfl, cont_rep c r rfl⟩
      | true => exact d_notIn (by omega) I g rx fun s' I' => ⟨.bl _, H, I', by rw [rd.isSome]; rfl, cont_rep c r rfl⟩
    · obtain ⟨t, rfl⟩ := rx
      cases neg with
      | false =>
        refine wpAny_in_of (PySem.strKind_is X.prog X.w z t) kd.low (PySem.W.mapOf_K (prog := X.prog) I.kIn kd.at_ kd.lit) ?_
        rw [← ro.isSome_eq, rd.isSome]
        exact ⟨.bl _, H, I.tok _, rfl, cont_rep c r rfl⟩
      | true =>
        refine wpAny_notIn_of (PySem.strKind_is X.prog X.w z t) kd.low (PySem.W.mapOf_K (prog := X.prog) I.kIn kd.at_ kd.lit) ?_
        rw [← ro.isSome_eq, rd.isSome]
        exact ⟨.bl _, H, I.tok _, rfl, cont_rep c r rfl⟩
  · cases e3
theorem op_isB : OpR X (compareOp .Is) (fun x y H Q => ∃ a b, x = .bl a ∧ y = .bl b ∧ Q (.bl (a == b)) H) := by
  intro pins s σ H x y v u Q I rx ry h
  obtain ⟨a, b, rfl, rfl, q⟩ := h
  cases rx
  cases ry
  refine wpAny_is_plain (by cases a <;> cases b <;> rfl) (fin_bl I q ?_)
  cases a <;> cases b <;> rfl
theorem op_notB : OpR X (compareOp .IsNot) (fun x y H Q => ∃ a b, x = .bl a ∧ y = .bl b ∧ Q (.bl (!(a == b))) H) := by
  intro pins s σ H x y v u Q I rx ry h
  obtain ⟨a, b, rfl, rfl, q⟩ := h
  cases rx
  cases ry
  refine wpAny_isNot_plain (by cases a <;> cases b <;> rfl) (fin_bl I q ?_)
  cases a <;> cases b <;> rfl
theorem cmp_ok (hr : X.A.units + 202 < cLine) (op : Cm) : OpR X (compareOp (cmM op)) (rB X.kw (bo (opCmp op))) := by
  intro pins s σ H x y v u Q I rx ry h
  obtain ⟨b, Φ, ρ, s0, σ0, dx, dy, p, r, vx, vy, e, c⟩ := h
  have two : ∀ {i j : Int}, dx = .int i → dy = .int j → x = .int i ∧ y = .int j := fun h1 h2 => by
    subst h1 h2
    exact ⟨vx, vy⟩
  cases op with
  | eq => exact eq_ok (by omega) pins s σ H x y v u Q I rx ry ⟨b, Φ, ρ, s0, σ0, dx, dy, p, r, vx, vy, e, c⟩
  | ne => exact ne_ok (by omega) pins s σ H x y v u Q I rx ry ⟨b, Φ, ρ, s0, σ0, dx, dy, p, r, vx, vy, e, c⟩
  | in_ =>
    refine in_ok false hr pins s σ H x y v u Q I rx ry ⟨b, Φ, ρ, s0, σ0, dx, dy, p, r, vx, vy, ?_, c⟩
    rw [← e]
    show ((opIn dx dy).map fun k => if false = true then !k else k).map _ = _
    simp
    rfl
  | nin => exact in_ok true hr pins s σ H x y v u Q I rx ry ⟨b, Φ, ρ, s0, σ0, dx, dy, p, r, vx, vy, e, c⟩
  | lt =>
    obtain ⟨k, e1, e2⟩ := omap e
    subst e2
    by_cases ht : ∃ xs ys, dx = .tup xs ∧ dy = .tup ys
    · obtain ⟨xs, ys, rfl, rfl⟩ := ht
      obtain ⟨hg, e1⟩ := ifs (show (if (D.sds xs && D.sds ys && decide (D.deps xs < 200) && D.coks xs ys) = true then some (D.lts xs ys) else none) = some k from e1) rfl
      subst e1
      simp only [Bool.and_eq_true, decide_eq_true_eq] at hg
      obtain ⟨⟨⟨g1, g2⟩, g3⟩, g4⟩ := hg
      have sub := r.sub
      obtain ⟨as, r1⟩ := Dp.reads I _ x v (view_dp (d := .tup xs) sub (sds_pl xs g1) vx) rx
      obtain ⟨bs, r2⟩ := Dp.reads I _ y u (view_dp (d := .tup ys) sub (sds_pl ys g2) vy) ry
      refine rcLt_d (D.deps xs + 1) (.tup xs) (.tup ys) X.A v u as bs (Nat.le_refl _) g1 g2 g4 r1 r2 (by show X.A.units + min (D.deps xs + 1) (D.deps ys + 1) < _; omega) X.prog X.w _ _ ?_
      exact ⟨.bl (D.lts xs ys), H, I, rfl, cont_rep c r rfl⟩
    cases dx <;> cases dy <;> first | cases e1 | (exact absurd ⟨_, _, rfl, rfl⟩ ht) | skip
    obtain ⟨rfl, rfl⟩ := two rfl rfl
    exact op_lt pins s σ H _ _ v u Q I rx ry ⟨_, _, rfl, rfl, cont_rep c r rfl⟩
  | le =>
    obtain ⟨k, e1, e2⟩ := omap e
    subst e2
    cases dx <;> cases dy <;> first | cases e1 | skip
    obtain ⟨rfl, rfl⟩ := two rfl rfl
    exact op_le pins s σ H _ _ v u Q I rx ry ⟨_, _, rfl, rfl, cont_rep c r rfl⟩
  | gt =>
    obtain ⟨k, e1, e2⟩ := omap e
    subst e2
    cases dx <;> cases dy <;> first | cases e1 | skip
    obtain ⟨rfl, rfl⟩ := two rfl rfl
    exact op_gt pins s σ H _ _ v u Q I rx ry ⟨_, _, rfl, rfl, cont_rep c r rfl⟩
  | ge =>
    obtain ⟨k, e1, e2⟩ := omap e
    subst e2
    cases dx <;> cases dy <;> first | cases e1 | skip
    obtain ⟨rfl, rfl⟩ := two rfl rfl
    exact op_ge pins s σ H _ _ v u Q I rx ry ⟨_, _, rfl, rfl, cont_rep c r rfl⟩
  | is_ =>
    obtain ⟨k, e1, e2⟩ := omap e
    subst e2
    cases dy with
    | non =>
      have ey : y = .non := vy
      refine op_isN pins s σ H _ _ v u Q I rx ry ⟨ey, ?_⟩
      rw [view_non vx, Option.some.inj (show some (D.isNon dx) = some k from e1)]
      exact cont_rep c r rfl
    | bl b2 =>
      cases dx with
      | bl a2 =>
        have e1 : some (a2 == b2) = some k := e1
        have ex : x = .bl a2 := vx
        have ey : y = .bl b2 := vy
        subst ex ey
        refine op_isB pins s σ H _ _ v u Q I rx ry ⟨a2, b2, rfl, rfl, ?_⟩
        rw [Option.some.inj e1]
        exact cont_rep c r rfl
      | _ => cases e1
    | _ => cases dx <;> cases e1
  | isn =>
    obtain ⟨k, e1, e2⟩ := omap e
    subst e2
    cases dy with
    | non =>
      have ey : y = .non := vy
      refine op_notN pins s σ H _ _ v u Q I rx ry ⟨ey, ?_⟩
      rw [view_non vx, Option.some.inj (show some (!D.isNon dx) = some k from e1)]
      exact cont_rep c r rfl
    | bl b2 =>
      cases dx with
      | bl a2 =>
        have e1 : some (!(a2 == b2)) = some k := e1
        have ex : x = .bl a2 := vx
        have ey : y = .bl b2 := vy
        subst ex ey
        refine op_notB pins s σ H _ _ v u Q I rx ry ⟨a2, b2, rfl, rfl, ?_⟩
        rw [Option.some.inj e1]
        exact cont_rep c r rfl
      | _ => cases e1
    | _ => cases dx <;> cases e1

theorem ifo {c : Prop} [Decidable c] {α : Type} {o : Option α} {b : α} (h : (if c then o else none) = some b) : c ∧ o = some b := by
  by_cases q : c
  · rw [if_pos q] at h; exact ⟨q, h⟩
  · rw [if_neg q] at h; cases h
/-! ### subscripts -/
theorem reps_at {K : KW} {Φ : Hp} {ρ : List Addr} {xs : List D} {vs : List V} {i : Int} {d : D} (r : Reps K Φ ρ xs vs) (h : D.at xs i = some d) : ∃ v, atI vs i = some v ∧ Rep K Φ ρ d v := by
  obtain ⟨j, h1, h2⟩ := obind (show (ixN xs.length i).bind (fun j => xs[j]?) = some d from h)
  obtain ⟨v, hv, rv⟩ := reps_get r h2
  refine ⟨v, ?_, rv⟩
  show (ixN vs.length i).bind _ = _
  rw [reps_len r, h1]
  exact hv
def io (f : D → D → Option D) : D → D → Option (D × Bool) := fun x y => (f x y).map fun d => (d, false)
theorem ix_ok (hr : X.A.units + 202 < cLine) : IxR X (rB X.kw (io opIx)) := by
  intro value slice pins s σ H x y v u Q I rx ry h hs
  obtain ⟨b, Φ, ρ, s0, σ0, dx, dy, p, r, vx, vy, e, c⟩ := h
  obtain ⟨d, e1, e2⟩ := omap e
  subst e2
  have sub := r.sub
  unfold opIx at e1
  split at e1
  · rename_i xs i
    obtain ⟨a, vs, e3, q, rs, tk⟩ := (show Rep X.kw Φ ρ (.tup xs) x from vx)
    subst e3
    cases (show y = _ from vy)
    obtain ⟨w, h1, h2⟩ := reps_at rs e1
    exact ix_tup value slice pins s σ H _ _ v u Q I rx ry ⟨a, vs, i, w, rfl, rfl, sqT_mono sub q, h1, cont_rep c r h2⟩ hs
  · rename_i xs i
    obtain ⟨a, vs, e3, q, rs⟩ := vx
    subst e3
    cases (show y = _ from vy)
    obtain ⟨w, h1, h2⟩ := reps_at rs e1
    exact ix_list value slice pins s σ H _ _ v u Q I rx ry ⟨a, vs, i, w, rfl, rfl, SqL.of q, h1, cont_rep c r h2⟩ hs
  · rename_i ns i
    obtain ⟨a, e3, q⟩ := (show Rep X.kw Φ ρ (.scr ns) x from vx)
    subst e3
    cases (show y = _ from vy)
    obtain ⟨n, h1, h2⟩ := omap e1
    subst h2
    refine ix_list value slice pins s σ H _ _ v u Q I rx ry ⟨a, _, i, .int n, rfl, rfl, sqL_mono sub q, ?_, cont_rep c r rfl⟩ hs
    obtain ⟨j, k1, k2⟩ := obind (show (ixN ns.length i).bind (fun j => ns[j]?) = some n from h1)
    show (ixN (ns.map V.int).length i).bind _ = _
    rw [List.length_map, k1]
    show (ns.map V.int)[j]? = _
    rw [List.getElem?_map, k2]
    rfl
  · rename_i z i
    obtain ⟨hz, e1⟩ := ifo e1
    cases (show x = _ from vx)
    cases (show y = _ from vy)
    cases hc : atI z.cps.toList i with
    | none => rw [hc] at e1; cases e1
    | some ch =>
      rw [hc] at e1
      cases e1
      exact ix_str value slice pins s σ H _ _ v u Q I rx ry ⟨z, i, ch, rfl, rfl, hz, hc, cont_rep c r rfl⟩ hs
  · rename_i ks ds
    obtain ⟨h1, h2⟩ := ifo e1
    obtain ⟨a, vs, e5, dc, rs⟩ := vx
    subst e5
    cases rx
    have rk : Rep X.kw Φ ρ dy y := kfit_rep h1 vy
    refine tail_any (dct_type I dc) PySem.F.slot_dict_getitem.lookup ?_ hs
    rcases dct_cases r.sub dc h1 rs rk with ⟨o, g, rd⟩ | ⟨es, n, z, o, kd, rfl, rfl, rd, ro⟩
    · rw [h2] at rd
      obtain ⟨w, rfl, rw'⟩ := rd.some_of
      exact d_getItem (by omega) I g ry fun w' s' I' q => ⟨w, H, I', q, cont_rep c r rw'⟩
    · rw [h2] at rd
      obtain ⟨w, rfl, rw'⟩ := rd.some_of
      obtain ⟨t, rfl⟩ := ry
      obtain ⟨w', hw, q⟩ := RelO.some_of ro
      exact wpAny_getItem_of (PySem.strKind_is X.prog X.w z t) (PySem.W.mapOf_K (prog := X.prog) I.kIn kd.at_ kd.lit) hw ⟨w, H, I.tok _, q, cont_rep c r rw'⟩
  · cases e1
/-- slices -/
def rS (K : KW) : V → Option Int → Option Int → Hp → VK → Prop := fun x lo hi H Q => ∃ b Φ ρ s σ dx p, Rel K b Φ ρ s σ H ∧ View K Φ ρ H dx x ∧ opSl dx lo hi = some p ∧ Cont K b Φ ρ σ Q p s
theorem sl_ok : SlR X (rS X.kw) := by
  intro pins s σ H x v vl vu lo hi sl Q I rx hs pl pu h
  obtain ⟨b, Φ, ρ, s0, σ0, dx, p, r, vx, e, c⟩ := h
  have sub := r.sub
  unfold opSl at e
  split at e
  · rename_i xs
    cases e
    obtain ⟨a, vs, e3, q, rs, tk⟩ := (show Rep X.kw Φ ρ (.tup xs) x from vx)
    subst e3
    refine sl_tupA pins s σ H _ v vl vu lo hi sl Q I rx hs pl pu ⟨a, vs, rfl, sqT_mono sub q, fun w => ?_, fun w p hp => cont_tup c r (cut_ok lo hi rs) hp⟩
    have e7 : cutD xs lo hi = xs := by
      unfold cutD
      rw [← reps_len rs, w.1, w.2, reps_len rs]
      simp
    refine cont_rep c r ?_
    rw [e7]
    exact ⟨a, vs, rfl, q, rs, tk⟩
  · rename_i xs
    cases e
    obtain ⟨a, vs, e3, q, rs⟩ := vx
    subst e3
    exact sl_list pins s σ H _ v vl vu lo hi sl Q I rx hs pl pu ⟨a, vs, rfl, SqL.of q, fun p hp => cont_lst c r (cut_ok lo hi rs) hp⟩
  · rename_i ns
    cases e
    obtain ⟨a, e3, q⟩ := (show Rep X.kw Φ ρ (.scr ns) x from vx)
    subst e3
    have rs : Reps X.kw Φ ρ (ns.map D.int) (ns.map V.int) := by
      clear q c rx vx
      induction ns with
      | nil => rfl
      | cons n r ih => exact ⟨.int n, _, rfl, rfl, ih⟩
    exact sl_list pins s σ H _ v vl vu lo hi sl Q I rx hs pl pu ⟨a, _, rfl, sqL_mono sub q, fun p hp => cont_lst c r (cut_ok lo hi rs) hp⟩
  · rename_i z
    obtain ⟨hz, e⟩ := ifs e rfl
    cases e
    cases (show x = _ from vx)
    exact sl_str pins s σ H _ v vl vu lo hi sl Q I rx hs pl pu ⟨z, rfl, hz, cont_rep c r rfl⟩
  · cases e
end
end Ly
set_option Elab.async false
set_option linter.all false
set_option maxRecDepth 100000
set_option maxHeartbeats 2000000
/-! Ly4: built-in functions, methods that read, methods that change. -/
namespace Ly
open PySem PySem.Spec PyProof.Rows L2
section
variable {K : KW} {Φ H : Hp} {ρ : List Addr}
def Views (K : KW) (Φ : Hp) (ρ : List Addr) (H : Hp) : List D → List V → Prop
  | [], vs => vs = []
  | d :: ds, vs => ∃ v ws, vs = v :: ws ∧ View K Φ ρ H d v ∧ Views K Φ ρ H ds ws
theorem ints_of : ∀ {xs : List D} {vs : List V} {ns : List Int}, D.ints? xs = some ns → Reps K Φ ρ xs vs → vs = ns.map V.int ∧ xs = ns.map D.int
  | [], _, _, h, r => by cases h; cases r; exact ⟨rfl, rfl⟩
  | .int i :: xs, _, _, h, ⟨v, ws, e, q, rs⟩ => by
    obtain ⟨ns, h1, h2⟩ := omap (show (D.ints? xs).map (i :: ·) = some _ from h)
    subst h2 e
    cases (show v = _ from q)
    obtain ⟨h3, h4⟩ := ints_of h1 rs
    exact ⟨by rw [h3]; rfl, by rw [h4]; rfl⟩
  | .non :: _, _, _, h, _ => by cases h
  | .bl _ :: _, _, _, h, _ => by cases h
  | .str _ :: _, _, _, h, _ => by cases h
  | .tup _ :: _, _, _, h, _ => by cases h
  | .lst _ :: _, _, _, h, _ => by cases h
  | .dct _ _ :: _, _, _, h, _ => by cases h
  | .ref _ :: _, _, _, h, _ => by cases h
  | .scr _ :: _, _, _, h, _ => by cases h
theorem bls_of : ∀ {xs : List D} {vs : List V} {ns : List Bool}, D.bls? xs = some ns → Reps K Φ ρ xs vs → vs = ns.map V.bl
  | [], _, _, h, r => by cases h; cases r; rfl
  | .bl i :: xs, _, _, h, ⟨v, ws, e, q, rs⟩ => by
    obtain ⟨ns, h1, h2⟩ := omap (show (D.bls? xs).map (i :: ·) = some _ from h)
    subst h2 e
    cases (show v = _ from q)
    rw [bls_of h1 rs]; rfl
  | .non :: _, _, _, h, _ => by cases h
  | .int _ :: _, _, _, h, _ => by cases h
  | .str _ :: _, _, _, h, _ => by cases h
  | .tup _ :: _, _, _, h, _ => by cases h
  | .lst _ :: _, _, _, h, _ => by cases h
  | .dct _ _ :: _, _, _, h, _ => by cases h
  | .ref _ :: _, _, _, h, _ => by cases h
  | .scr _ :: _, _, _, h, _ => by cases h
theorem strs_of : ∀ {xs : List D} {vs : List V} {ns : List Str}, D.strs? xs = some ns → Reps K Φ ρ xs vs → vs = ns.map V.str
  | [], _, _, h, r => by cases h; cases r; rfl
  | .str i :: xs, _, _, h, ⟨v, ws, e, q, rs⟩ => by
    obtain ⟨ns, h1, h2⟩ := omap (show (D.strs? xs).map (i :: ·) = some _ from h)
    subst h2 e
    cases (show v = _ from q)
    rw [strs_of h1 rs]; rfl
  | .non :: _, _, _, h, _ => by cases h
  | .int _ :: _, _, _, h, _ => by cases h
  | .bl _ :: _, _, _, h, _ => by cases h
  | .tup _ :: _, _, _, h, _ => by cases h
  | .lst _ :: _, _, _, h, _ => by cases h
  | .dct _ _ :: _, _, _, h, _ => by cases h
  | .ref _ :: _, _, _, h, _ => by cases h
  | .scr _ :: _, _, _, h, _ => by cases h
theorem reps_ints : ∀ (ns : List Int), Reps K Φ ρ (ns.map D.int) (ns.map V.int)
  | [] => rfl
  | n :: ns => ⟨.int n, _, rfl, rfl, reps_ints ns⟩
theorem maxL_of : ∀ {ns : List Int} {m : Int}, maxL ns = some m → m ∈ ns ∧ ∀ y ∈ ns, y ≤ m
  | [], _, h => by cases h
  | i :: r, m, h => by
    unfold maxL at h
    cases e : maxL r with
    | none =>
      rw [e] at h
      cases h
      cases r with
      | nil => exact ⟨List.mem_cons_self, fun y hy => by simp at hy; omega⟩
      | cons j r' =>
        unfold maxL at e
        split at e <;> cases e
    | some j =>
      rw [e] at h
      cases h
      obtain ⟨h1, h2⟩ := maxL_of e
      refine ⟨?_, fun y hy => ?_⟩
      · by_cases q : i ≤ j
        · rw [Int.max_eq_right q]; exact List.mem_cons_of_mem _ h1
        · rw [Int.max_eq_left (by omega)]; exact List.mem_cons_self
      · rcases List.mem_cons.mp hy with rfl | hy
        · exact Int.le_max_left _ _
        · exact Int.le_trans (h2 y hy) (Int.le_max_right _ _)
theorem max_uniq {ns : List Int} {m n : Int} (h1 : m ∈ ns ∧ ∀ y ∈ ns, y ≤ m) (h2 : n ∈ ns ∧ ∀ y ∈ ns, y ≤ n) : m = n := Int.le_antisymm (h2.2 m h1.1) (h1.2 n h2.1)
theorem insI_perm (i : Int) : ∀ ns : List Int, (insI i ns).Perm (i :: ns)
  | [] => .refl _
  | j :: r => by
    unfold insI
    split
    · exact .refl _
    · exact ((insI_perm i r).cons j).trans (.swap i j r)
theorem insI_sorted (i : Int) : ∀ {ns : List Int}, ns.Pairwise (· ≤ ·) → (insI i ns).Pairwise (· ≤ ·)
  | [], _ => by simp [insI]
  | j :: r, h => by
    unfold insI
    obtain ⟨h1, h2⟩ := List.pairwise_cons.mp h
    split
    · rename_i q
      exact List.pairwise_cons.mpr ⟨fun y hy => by
        rcases List.mem_cons.mp hy with rfl | hy
        · exact q
        · exact Int.le_trans q (h1 y hy), h⟩
    · rename_i q
      refine List.pairwise_cons.mpr ⟨fun y hy => ?_, insI_sorted i h2⟩
      rcases List.mem_cons.mp ((insI_perm i r).mem_iff.mp hy) with rfl | hy
      · omega
      · exact h1 y hy
theorem sortI_perm : ∀ ns : List Int, (sortI ns).Perm ns
  | [] => .refl _
  | i :: r => (insI_perm i (sortI r)).trans ((sortI_perm r).cons i)
theorem sortI_sorted : ∀ ns : List Int, (sortI ns).Pairwise (· ≤ ·)
  | [] => .nil
  | i :: r => insI_sorted i (sortI_sorted r)
theorem sorted_uniq : ∀ {xs ys : List Int}, xs.Perm ys → xs.Pairwise (· ≤ ·) → ys.Pairwise (· ≤ ·) → xs = ys
  | [], ys, p, _, _ => p.nil_eq
  | x :: xs, [], p, _, _ => absurd p.symm.nil_eq (by simp)
  | x :: xs, y :: ys, p, h1, h2 => by
    obtain ⟨a1, a2⟩ := List.pairwise_cons.mp h1
    obtain ⟨b1, b2⟩ := List.pairwise_cons.mp h2
    have e : x = y := by
      have m1 : y ∈ x :: xs := p.mem_iff.mpr List.mem_cons_self
      have m2 : x ∈ y :: ys := p.mem_iff.mp List.mem_cons_self
      rcases List.mem_cons.mp m1 with q | q
      · exact q.symm
      · rcases List.mem_cons.mp m2 with q2 | q2
        · exact q2
        · exact Int.le_antisymm (a1 y q) (b1 x q2)
    subst e
    rw [sorted_uniq (List.perm_cons x |>.mp p) a2 b2]
end

section
variable {X : Cx}
def bfVal : Bf → Value
  | .len => .builtin "len"
  | .int => .type "int"
  | .str => .type "str"
  | .tuple => .type "tuple"
  | .list => .type "list"
  | .max => .builtin "max"
  | .min => .builtin "min"
  | .abs => .builtin "abs"
  | .sum => .builtin "sum"
  | .all => .builtin "all"
  | .sorted => .builtin "sorted"
  | .ssorted => .builtin "sorted"
  | .maxd _ => .builtin "max"
def rF (K : KW) (f : Bf) : List V → Hp → VK → Prop := fun xs H Q => ∃ b Φ ρ s σ ds p, Rel K b Φ ρ s σ H ∧ Views K Φ ρ H ds xs ∧ bfn f ds = some p ∧ Cont K b Φ ρ σ Q p s
theorem reps_by {K : KW} {Φ : Hp} {ρ : List Addr} {g : V → D} : ∀ {ys : List V}, (∀ y ∈ ys, Rep K Φ ρ (g y) y) → Reps K Φ ρ (ys.map g) ys
  | [], _ => rfl
  | y :: ys, h => ⟨y, ys, rfl, h y List.mem_cons_self, reps_by fun z hz => h z (List.mem_cons_of_mem _ hz)⟩
theorem reps_srt {K : KW} {Φ : Hp} {ρ : List Addr} {zs : List D} {vs ys : List V} {g : V → D} (rs : Reps K Φ ρ zs vs) (h1 : vs.map g = zs) (h2 : ys.Perm vs) (h3 : ys.map g = sortD zs) : Reps K Φ ρ (sortD zs) ys := by
  rw [← h3]
  refine reps_by fun y hy => ?_
  have hy' := h2.mem_iff.mp hy
  obtain ⟨i, hi, ey⟩ := List.getElem_of_mem hy'
  have hz : i < zs.length := by rw [← h1]; simpa using hi
  obtain ⟨v, hv, rp⟩ := reps_get rs (List.getElem?_eq_getElem hz)
  have e5 : v = y := by
    rw [List.getElem?_eq_getElem hi, ey] at hv
    exact (Option.some.inj hv).symm
  have e6 : g y = zs[i] := by
    have : (vs.map g)[i]? = zs[i]? := by rw [h1]
    rw [List.getElem?_map, List.getElem?_eq_getElem hi, List.getElem?_eq_getElem hz, ey] at this
    exact Option.some.inj this
  rw [e6, ← e5]
  exact rp
theorem ints_len : ∀ {xs : List D} {ns : List Int}, D.ints? xs = some ns → xs.length = ns.length
  | [], ns, h => by cases h; rfl
  | .int i :: r, ns, h => by
    obtain ⟨m, e1, e2⟩ := omap h
    subst e2
    exact congrArg Nat.succ (ints_len e1)
  | .non :: _, _, h => nomatch h
  | .bl _ :: _, _, h => nomatch h
  | .str _ :: _, _, h => nomatch h
  | .tup _ :: _, _, h => nomatch h
  | .lst _ :: _, _, h => nomatch h
  | .dct _ _ :: _, _, h => nomatch h
  | .ref _ :: _, _, h => nomatch h
  | .scr _ :: _, _, h => nomatch h
theorem kInts : ∀ {kk : List Key} {ns : List Int}, D.ints? (kk.map kD) = some ns → kk = ns.map Sum.inl
  | [], ns, h => by cases h; rfl
  | .inl i :: r, ns, h => by
    obtain ⟨m, e1, e2⟩ := omap h
    subst e2
    rw [List.map_cons, ← kInts e1]
  | .inr i :: r, ns, h => nomatch h
/-- a dict whose keys are whole numbers -/
theorem dct_ints {K : KW} {H : Hp} {a : Addr} {ks : List D} {vs : List V} {ns : List Int} (c : DctAt K H a ks vs) (e : D.ints? ks = some ns) (h0 : vs.length = ks.length) : ∃ kvs : List (Key × V), Rd H a (.dK kvs) ∧ kvs.map (·.1) = ns.map Sum.inl := by
  rcases c with ⟨es, n, kk, kd, hne, rfl, hl, hp⟩ | ⟨kk, rfl, hl, nd, hrd⟩ | ⟨kk, hne, rfl, hl, nd, hrd⟩ | ⟨rfl, rfl, hrd⟩
  · exfalso
    cases kk with
    | nil => exact hne rfl
    | cons c r => cases e
  · refine ⟨_, hrd, ?_⟩
    rw [← kInts e, List.map_fst_zip (by omega)]
  · exfalso
    cases kk with
    | nil => exact hne rfl
    | cons c r => cases e
  · cases h0
theorem bf_ok (hu : X.A.units + 205 < cLine) (hc : X.calm = true) (f : Bf) (h1 : f ≠ .ssorted) (h2 : ∀ d, f ≠ .maxd d) : CallR X (bfVal f) (rF X.kw f) := by
  intro pins s σ H xs us Q I rr h
  obtain ⟨b, Φ, ρ, s0, σ0, ds, p, r, vx, e, c⟩ := h
  have sub := r.sub
  unfold bfn at e
  split at e
  · rename_i zs
    cases e
    obtain ⟨v, ws, rfl, vv, rfl⟩ := vx
    obtain ⟨a, vs, rfl, q, rs, tk⟩ := (show Rep X.kw Φ ρ (.tup zs) v from vv)
    exact call_len_seq pins s σ H _ us Q I rr ⟨a, vs, rfl, .inr (sqT_mono sub q), by rw [reps_len rs]; exact cont_rep c r rfl⟩
  · rename_i zs
    cases e
    obtain ⟨v, ws, rfl, ⟨a, vs, rfl, q, rs⟩, rfl⟩ := vx
    exact call_len_seq pins s σ H _ us Q I rr ⟨a, vs, rfl, .inl (SqL.of q), by rw [reps_len rs]; exact cont_rep c r rfl⟩
  · rename_i ns
    cases e
    obtain ⟨v, ws, rfl, vv, rfl⟩ := vx
    obtain ⟨a, rfl, q⟩ := (show Rep X.kw Φ ρ (.scr ns) v from vv)
    exact call_len_seq pins s σ H _ us Q I rr ⟨a, _, rfl, .inl (sqL_mono sub q), by rw [List.length_map]; exact cont_rep c r rfl⟩
  · rename_i z
    obtain ⟨hz, e⟩ := ifs e rfl
    cases e
    obtain ⟨v, ws, rfl, vv, rfl⟩ := vx
    cases (show v = _ from vv)
    exact call_len_str pins s σ H _ us Q I rr ⟨z, rfl, hz, cont_rep c r rfl⟩
  · rename_i i
    cases e
    obtain ⟨v, ws, rfl, vv, rfl⟩ := vx
    cases (show v = _ from vv)
    exact call_int1 pins s σ H _ us Q I rr (.inl ⟨i, rfl, cont_rep c r rfl⟩)
  · rename_i k
    cases e
    obtain ⟨v, ws, rfl, vv, rfl⟩ := vx
    cases (show v = _ from vv)
    exact call_int1 pins s σ H _ us Q I rr (.inr ⟨k, rfl, cont_rep c r rfl⟩)
  · rename_i z
    obtain ⟨hz, e⟩ := ifo e
    obtain ⟨n, e1, e2⟩ := omap e
    subst e2
    obtain ⟨v, ws, rfl, vv, rfl⟩ := vx
    cases (show v = _ from vv)
    exact call_int_str pins s σ H _ us Q I rr ⟨z, n, rfl, e1, hz, cont_rep c r rfl⟩
  · rename_i i
    obtain ⟨hz, e⟩ := ifs e rfl
    cases e
    obtain ⟨v, ws, rfl, vv, rfl⟩ := vx
    cases (show v = _ from vv)
    have hb := inB_ok (show inB i = true from hz)
    refine call_str_int pins s σ H _ us Q I rr ⟨i, rfl, ?_, cont_rep c r rfl⟩
    have := PySem.Flt.log2_lt_of (n := i.natAbs) (k := 65) (by decide) (by omega)
    omega
  · rename_i zs
    cases e
    obtain ⟨v, ws, rfl, vv, rfl⟩ := vx
    obtain ⟨a, vs, rfl, q, rs, tk⟩ := (show Rep X.kw Φ ρ (.tup zs) v from vv)
    exact call_tuple_of pins s σ H _ us Q I rr ⟨a, vs, rfl, .inr ⟨sqT_mono sub q, cont_rep c r ⟨a, vs, rfl, q, rs, tk⟩⟩⟩
  · rename_i zs
    cases e
    obtain ⟨v, ws, rfl, ⟨a, vs, rfl, q, rs⟩, rfl⟩ := vx
    exact call_tuple_of pins s σ H _ us Q I rr ⟨a, vs, rfl, .inl ⟨SqL.of q, fun l hl => cont_tup c r rs hl⟩⟩
  · rename_i zs
    cases e
    obtain ⟨v, ws, rfl, vv, rfl⟩ := vx
    obtain ⟨a, vs, rfl, q, rs, tk⟩ := (show Rep X.kw Φ ρ (.tup zs) v from vv)
    exact call_list_of pins s σ H _ us Q I rr ⟨a, vs, rfl, .inr (sqT_mono sub q), fun l hl => cont_lst c r rs hl⟩
  · rename_i zs
    cases e
    obtain ⟨v, ws, rfl, ⟨a, vs, rfl, q, rs⟩, rfl⟩ := vx
    exact call_list_of pins s σ H _ us Q I rr ⟨a, vs, rfl, .inl (SqL.of q), fun l hl => cont_lst c r rs hl⟩
  · rename_i i j
    cases e
    obtain ⟨v, ws, rfl, vv, v2, ws2, rfl, vv2, rfl⟩ := vx
    cases (show v = _ from vv)
    cases (show v2 = _ from vv2)
    exact call_max2 hc pins s σ H _ us Q I rr ⟨i, j, rfl, cont_rep c r rfl⟩
  · rename_i i j
    cases e
    obtain ⟨v, ws, rfl, vv, v2, ws2, rfl, vv2, rfl⟩ := vx
    cases (show v = _ from vv)
    cases (show v2 = _ from vv2)
    exact call_min2 hc pins s σ H _ us Q I rr ⟨i, j, rfl, cont_rep c r rfl⟩
  · rename_i zs
    obtain ⟨ns, e1, e2⟩ := obind e
    obtain ⟨m, e3, e4⟩ := omap e2
    subst e4
    obtain ⟨v, ws, rfl, ⟨a, vs, rfl, q, rs⟩, rfl⟩ := vx
    obtain ⟨k1, k2⟩ := ints_of e1 rs
    subst k1
    have mm := maxL_of e3
    refine cr_max hc pins s σ H _ us Q I rr ⟨a, ns, rfl, SqL.of q, ?_, fun m' h1 h2 => ?_⟩
    · cases ns with
      | nil => cases e3
      | cons _ _ => exact Nat.succ_pos _
    · rw [max_uniq ⟨h1, h2⟩ mm]
      exact cont_rep c r rfl
  · exact absurd rfl (h2 _)
  · rename_i i
    cases e
    obtain ⟨v, ws, rfl, vv, rfl⟩ := vx
    cases (show v = _ from vv)
    exact call_abs pins s σ H _ us Q I rr ⟨i, rfl, cont_rep c r rfl⟩
  · rename_i zs
    obtain ⟨ns, e1, e2⟩ := omap e
    subst e2
    obtain ⟨v, ws, rfl, ⟨a, vs, rfl, q, rs⟩, rfl⟩ := vx
    obtain ⟨k1, k2⟩ := ints_of e1 rs
    subst k1
    exact cr_sum hc pins s σ H _ us Q I rr ⟨a, ns, rfl, SqL.of q, cont_rep c r rfl⟩
  · rename_i zs
    obtain ⟨bs, e1, e2⟩ := omap e
    subst e2
    obtain ⟨v, ws, rfl, ⟨a, vs, rfl, q, rs⟩, rfl⟩ := vx
    have k1 := bls_of e1 rs
    subst k1
    exact cr_all hc pins s σ H _ us Q I rr ⟨a, bs, rfl, SqL.of q, cont_rep c r rfl⟩
  · rename_i zs
    obtain ⟨v, ws, rfl, ⟨a, vs, rfl, q, rs⟩, rfl⟩ := vx
    cases e1 : D.ints? zs with
    | some ns =>
      rw [e1] at e
      cases e
      obtain ⟨k1, k2⟩ := ints_of e1 rs
      subst k1
      refine cr_sortedI pins s σ H _ us Q I rr ⟨a, ns, rfl, SqL.of q, fun ns' p hp hs hn => ?_⟩
      rw [sorted_uniq (hp.trans (sortI_perm ns).symm) hs (sortI_sorted ns)]
      exact cont_lst c r (reps_ints _) hn
    | none =>
      rw [e1] at e
      obtain ⟨ho, e⟩ := ifs e rfl
      cases e
      have ok := srtOk_iff.mp ho
      exact cr_sortedD hu pins s σ H _ us Q I rr ⟨a, vs, zs, rfl, .inl (SqL.of q), reps_dp r.sub zs vs (sds_pl zs ok.sd) rs, ok, fun g ys p h1 h2 h3 hn => cont_lst c r (reps_srt rs h1 h2 h3) hn⟩
  · rename_i zs
    obtain ⟨v, ws, rfl, vw, rfl⟩ := vx
    obtain ⟨a, vs, rfl, q, rs, tk⟩ := vw
    have q := sqT_mono r.sub q
    cases e1 : D.ints? zs with
    | some ns =>
      rw [e1] at e
      cases e
      obtain ⟨k1, k2⟩ := ints_of e1 rs
      subst k1
      refine cr_sortedJ pins s σ H _ us Q I rr ⟨a, ns, rfl, q, fun ns' p hp hs hn => ?_⟩
      rw [sorted_uniq (hp.trans (sortI_perm ns).symm) hs (sortI_sorted ns)]
      exact cont_lst c r (reps_ints _) hn
    | none =>
      rw [e1] at e
      obtain ⟨ho, e⟩ := ifs e rfl
      cases e
      have ok := srtOk_iff.mp ho
      exact cr_sortedD hu pins s σ H _ us Q I rr ⟨a, vs, zs, rfl, .inr q, reps_dp r.sub zs vs (sds_pl zs ok.sd) rs, ok, fun g ys p h1 h2 h3 hn => cont_lst c r (reps_srt rs h1 h2 h3) hn⟩
  · rename_i ks vals
    obtain ⟨hl, e⟩ := ifo e
    obtain ⟨ns, e1, e2⟩ := omap e
    subst e2
    obtain ⟨v, ws, rfl, ⟨a, vs, rfl, q, rs⟩, rfl⟩ := vx
    obtain ⟨kvs, hk, h2⟩ := dct_ints q e1 ((reps_len rs).trans hl.2)
    refine call_sortedDI hc pins s σ H _ us Q I rr ⟨a, kvs, ns, rfl, hk, h2, ?_, fun ns' p hp hs hn => ?_⟩
    · rw [← ints_len e1]; exact hl.1
    · rw [sorted_uniq (hp.trans (sortI_perm ns).symm) hs (sortI_sorted ns)]
      exact cont_lst c r (reps_ints _) hn
  · exact absurd rfl h1
  · cases e

/-! ### methods that read -/
def mrId : Mr → String
  | .count => "list.count"
  | .index => "list.index"
  | .join => "str.join"
  | .startswith => "str.startswith"
  | .get => "dict.get"
  | .upper => "str.upper"
def rM (K : KW) (m : Mr) : V → List V → Hp → VK → Prop := fun x xs H Q => ∃ b Φ ρ s σ d ds p, Rel K b Φ ρ s σ H ∧ View K Φ ρ H d x ∧ Reps K Φ ρ ds xs ∧ mrd m d ds = some p ∧ Cont K b Φ ρ σ Q (p, false) s
theorem findIdx_eqv {a : D} (ha : D.pl a = true) : ∀ {ds : List D}, D.pls ds = true → (D.pys ds).findIdx (fun y => PyData.eqv y (D.py a)) = ds.findIdx fun x => D.eqv x a
  | [], _ => rfl
  | d :: ds, h => by
    show (D.py d :: D.pys ds).findIdx _ = _
    rw [List.findIdx_cons, List.findIdx_cons, findIdx_eqv ha (pl_and h).2, py_eqv d a (pl_and h).1 ha]
theorem mr_ok (hr : X.A.units + 202 < cLine) (m : Mr) : MtR X (mrId m) (rM X.kw m) := by
  intro pins s σ H x xs v us Q I rx rxs h
  obtain ⟨b, Φ, ρ, s0, σ0, d, ds, p, r, vx, rs, e, c⟩ := h
  have sub := r.sub
  unfold mrd at e
  split at e
  · rename_i zs a
    obtain ⟨hz, e⟩ := ifs e rfl
    subst e
    simp only [Bool.and_eq_true, decide_eq_true_eq] at hz
    obtain ⟨⟨h1, h2⟩, h3⟩ := hz
    obtain ⟨l, vs, rfl, q, rq⟩ := vx
    obtain ⟨y, ws, rfl, ry, rfl⟩ := rs
    cases rx
    obtain ⟨uy, rfl, ruy⟩ := rxs.one
    obtain ⟨bs, r2⟩ := Dp.reads I _ y uy (rep_dp sub _ _ h1 ry) ruy
    obtain ⟨its, rv, pl, hlen⟩ := I.list (SqL.of q)
    obtain ⟨as, r1⟩ := Dp.readsAll I _ _ its (reps_dp sub _ _ h2 rq) rv
    refine SeqAt.count_list_data pl.isList (show ReadsAll s.heap its.toArray.toList (D.pys zs) as from r1) r2 (pys_plain _) (py_plain _) (by rw [py_dep]; omega) ⟨.int _, H, I.tok _, ⟨s.toks, ?_⟩, cont_rep c r rfl⟩
    rw [countP_eqv h1 h2]
  · rename_i zs a
    obtain ⟨hz, e⟩ := ifo e
    obtain ⟨hany, e⟩ := ifs e rfl
    subst e
    simp only [Bool.and_eq_true, decide_eq_true_eq] at hz
    obtain ⟨⟨h1, h2⟩, h3⟩ := hz
    obtain ⟨l, vs, rfl, q, rq⟩ := vx
    obtain ⟨y, ws, rfl, ry, rfl⟩ := rs
    cases rx
    obtain ⟨uy, rfl, ruy⟩ := rxs.one
    obtain ⟨bs, r2⟩ := Dp.reads I _ y uy (rep_dp sub _ _ h1 ry) ruy
    obtain ⟨its, rv, ⟨⟨cls, dd, data, sls⟩, n, ho, hc, hdn, hdt⟩, hlen⟩ := I.list (SqL.of q)
    simp only at hc hdt
    subst hc hdt
    obtain ⟨as, r1⟩ := Dp.readsAll I _ _ its (reps_dp sub _ _ h2 rq) rv
    have hn : its.length = (D.pys zs).length := SeqAt.ReadsAll.length _ _ as r1
    have hmap : its.map (SeqAt.readOf s.heap) = D.pys zs := SeqAt.readsAll_map_plain _ _ as (pys_plain _) r1
    have hj : (D.pys zs).findIdx (fun y => PyData.eqv y (D.py a)) < (D.pys zs).length := by
      rw [List.findIdx_lt_length]
      have e2 := any_eqv h1 h2
      rw [hany] at e2
      obtain ⟨w, hw, q2⟩ := List.any_eq_true.mp e2
      exact ⟨w, hw, q2⟩
    have at_ : ∀ (m : Nat) (hm : m < its.toArray.size), ∃ hm2 : m < (D.pys zs).length, SeqAt.readOf s.heap its.toArray[m] = (D.pys zs)[m] := fun m hm => by
      have hml : m < its.length := by simpa using hm
      refine ⟨by omega, ?_⟩
      have e2 : (its.map (SeqAt.readOf s.heap))[m]? = (D.pys zs)[m]? := by rw [hmap]
      rw [List.getElem?_map, List.getElem?_eq_getElem hml, List.getElem?_eq_getElem (by omega : m < (D.pys zs).length)] at e2
      have e3 := Option.some.inj (show some (SeqAt.readOf s.heap its[m]) = _ from e2)
      simpa using e3
    have hvl := rv.length
    have hsl := sizeLine_eq
    have hj2 : (D.pys zs).findIdx (fun y => PyData.eqv y (D.py a)) < its.toArray.size := by simpa [hn] using hj
    refine call_meets PySem.F.slot_list_index ⟨_, ho, rfl⟩ PySem.F.entry_list_index (PySem.F.args_list_index_2 _ _)
      (SeqAt.list_indexAt l its.toArray n dd sls uy (fun u => PyData.eqv (SeqAt.readOf s.heap u) (D.py a)) _ hj2 (by simp; omega) ?_ ?_)
      ⟨ho, SeqAt.items_plain (vs := its.toArray) (show ReadsAll s.heap its.toArray.toList (D.pys zs) as from r1) r2 (pys_plain _) (py_plain _) (by rw [py_dep]; omega), ?_⟩
    · obtain ⟨hm2, e4⟩ := at_ _ hj2
      show PyData.eqv (SeqAt.readOf s.heap its.toArray[_]) (D.py a) = true
      rw [e4]
      exact List.findIdx_getElem (w := hj)
    · intro m hm hmj
      obtain ⟨hm2, e4⟩ := at_ m hm
      show PyData.eqv (SeqAt.readOf s.heap its.toArray[m]) (D.py a) = false
      rw [e4]
      have := List.not_of_lt_findIdx hmj
      simpa using this
    · refine ⟨.int _, H, I.tok _, ⟨s.toks, ?_⟩, cont_rep c r rfl⟩
      rw [findIdx_eqv h1 h2]
  · rename_i z zs
    obtain ⟨ys, e1, e2⟩ := obind e
    obtain ⟨hz, e3⟩ := ifs e2 rfl
    subst e3
    cases (show x = _ from vx)
    obtain ⟨y, ws, rfl, ⟨a, vs, rfl, q, rq⟩, rfl⟩ := rs
    have k := strs_of e1 rq
    subst k
    exact mt_join pins s σ H _ _ v us Q I rx rxs ⟨z, a, ys, rfl, rfl, .inl (SqL.of (sub _ _ q)), hz, cont_rep c r rfl⟩
  · rename_i z w
    cases e
    cases (show x = _ from vx)
    obtain ⟨y, ws, rfl, ry, rfl⟩ := rs
    cases (show y = _ from ry)
    exact mt_startswith pins s σ H _ _ v us Q I rx rxs ⟨z, w, rfl, rfl, cont_rep c r rfl⟩
  · rename_i ks dv k
    obtain ⟨hz, e⟩ := ifs e rfl
    subst e
    obtain ⟨a, vs, rfl, dc, rq⟩ := vx
    obtain ⟨y, ws, rfl, ry, rfl⟩ := rs
    cases rx
    obtain ⟨uy, rfl, ruy⟩ := rxs.one
    rcases dct_cases r.sub dc hz rq ry with ⟨o, g, rd⟩ | ⟨es, n, z, o, kd, rfl, rfl, rd, ro⟩
    · exact d_get1 (by omega) I g ruy fun w' s' I' q => ⟨_, H, I', q, cont_rep c r (rd.getD rfl)⟩
    · obtain ⟨t, rfl⟩ := ruy
      exact call_meetsIn PySem.F.slot_dict_get (kd_type kd I) PySem.F.entry_dict_get (PySem.F.args_dict_get_2 _ _) (meets_dict_get (PySem.strKind X.prog X.w) a (PySem.strKind_is X.prog X.w z t) kd.low)
        ⟨_, PySem.W.mapOf_K (prog := X.prog) I.kIn kd.at_ kd.lit, ⟨_, H, I.tok _, ro.getD (d := .non) rfl, cont_rep c r (rd.getD rfl)⟩⟩
  · rename_i ks dv k dx
    obtain ⟨hz, e⟩ := ifs e rfl
    subst e
    obtain ⟨a, vs, rfl, dc, rq⟩ := vx
    obtain ⟨y, ws, rfl, ry, y2, ws2, rfl, ry2, rfl⟩ := rs
    cases rx
    obtain ⟨uy, uy2, rfl, ruy, ruy2⟩ := rxs.two
    rcases dct_cases r.sub dc hz rq ry with ⟨o, g, rd⟩ | ⟨es, n, z, o, kd, rfl, rfl, rd, ro⟩
    · exact d_get2 (by omega) I g ruy ruy2 fun w' s' I' q => ⟨_, H, I', q, cont_rep c r (rd.getD ry2)⟩
    · obtain ⟨t, rfl⟩ := ruy
      exact call_meetsIn PySem.F.slot_dict_get (kd_type kd I) PySem.F.entry_dict_get (PySem.F.args_dict_get_3 _ _ _) (meets_dict_get_default (PySem.strKind X.prog X.w) a (PySem.strKind_is X.prog X.w z t) kd.low uy2)
        ⟨_, PySem.W.mapOf_K (prog := X.prog) I.kIn kd.at_ kd.lit, ⟨_, H, I.tok _, ro.getD ruy2, cont_rep c r (rd.getD ry2)⟩⟩
  · rename_i z
    obtain ⟨hz, e⟩ := ifs e rfl
    subst e
    cases (show x = _ from vx)
    cases (show xs = _ from rs)
    exact mt_upper pins s σ H _ _ v us Q I rx rxs ⟨z, rfl, rfl, hz, cont_rep c r rfl⟩
  · cases e

/-! ### isinstance -/
def tyVal : Ty → Value
  | .int => .type "int"
  | .bool => .type "bool"
  | .str => .type "str"
  | .tuple => .type "tuple"
  | .list => .type "list"
  | .dict => .type "dict"
def tyNm : Ty → Str
  | .int => "int"
  | .bool => "bool"
  | .str => "str"
  | .tuple => "tuple"
  | .list => "list"
  | .dict => "dict"
def dTy : D → Option String
  | .non => some "NoneType"
  | .bl _ => some "bool"
  | .int _ => some "int"
  | .str _ => some "str"
  | .tup _ => some "tuple"
  | .lst _ => some "list"
  | .dct _ _ => some "dict"
  | .ref _ => none
  | .scr _ => some "list"
theorem view_ty {K : KW} {Φ H : Hp} {ρ : List Addr} (sub : Same Φ H) {d : D} {v : V} (h : View K Φ ρ H d v) {n : String} (e : dTy d = some n) : TyX K.f H v (.type n) := by
  cases d with
  | non => cases e; cases (show v = _ from h); exact .base .non
  | bl b => cases e; cases (show v = _ from h); exact .base (.bl b)
  | int i => cases e; cases (show v = _ from h); exact .base (.int i)
  | str x => cases e; cases (show v = _ from h); exact .base (.str x)
  | tup xs =>
    cases e
    obtain ⟨a, vs, rfl, q, rs⟩ := (show Rep K Φ ρ (.tup xs) v from h)
    rcases sqT_mono sub q with (q | ⟨o, q⟩) | ⟨o, its, n, q, hc, _⟩
    · exact .base (.tup q)
    · exact .fTuple q
    · exact .kTuple q hc
  | lst xs =>
    cases e
    obtain ⟨a, vs, rfl, q, rs⟩ := h
    exact .base (.lst q)
  | dct ks ds =>
    cases e
    obtain ⟨a, vs, rfl, q, rs⟩ := h
    rcases q with ⟨es, n, kk, kd, _⟩ | ⟨kk, _, _, _, q | ⟨o, q⟩⟩ | ⟨kk, _, _, _, _, q⟩ | ⟨_, _, q⟩
    · exact .kDict kd.at_ rfl
    · exact .base (.dK q)
    · exact .fDict q
    · exact .base (.dT q)
    · exact .base (.dT q)
  | ref n => cases e
  | scr ns =>
    cases e
    obtain ⟨a, rfl, q⟩ := (show Rep K Φ ρ (.scr ns) v from h)
    rcases sqL_mono sub q with (q | ⟨o, q⟩) | ⟨o, its, n, q, hc, _⟩
    · exact .base (.lst q)
    · exact .base (.frz q)
    · exact .kList q hc
def tyS : Ty → String
  | .int => "int"
  | .bool => "bool"
  | .str => "str"
  | .tuple => "tuple"
  | .list => "list"
  | .dict => "dict"
theorem isTy_kit {d : D} {n : String} (e : dTy d = some n) (t : Ty) : kitB n (tyS t) = some (isTy d t) := by
  have h0 : ∀ t, kitB "NoneType" (tyS t) = some (isTy .non t) := by intro t; cases t <;> decide +kernel
  have h1 : ∀ t, kitB "bool" (tyS t) = some (isTy (.bl true) t) := by intro t; cases t <;> decide +kernel
  have h2 : ∀ t, kitB "int" (tyS t) = some (isTy (.int 0) t) := by intro t; cases t <;> decide +kernel
  have h3 : ∀ t, kitB "str" (tyS t) = some (match t with | .str => true | _ => false) := by intro t; cases t <;> decide +kernel
  have h4 : ∀ t, kitB "tuple" (tyS t) = some (isTy (.tup []) t) := by intro t; cases t <;> decide +kernel
  have h5 : ∀ t, kitB "list" (tyS t) = some (isTy (.lst []) t) := by intro t; cases t <;> decide +kernel
  have h6 : ∀ t, kitB "dict" (tyS t) = some (isTy (.dct [] []) t) := by intro t; cases t <;> decide +kernel
  cases d with
  | ref n => cases e
  | non => cases e; exact h0 t
  | bl _ => cases e; rw [h1 t]; cases t <;> rfl
  | int _ => cases e; rw [h2 t]; cases t <;> rfl
  | str _ => cases e; rw [h3 t]; cases t <;> rfl
  | tup _ => cases e; rw [h4 t]; cases t <;> rfl
  | lst _ => cases e; rw [h5 t]; cases t <;> rfl
  | dct _ _ => cases e; rw [h6 t]; cases t <;> rfl
  | scr _ => cases e; rw [h5 t]; cases t <;> rfl
theorem isi_ok : CallR X (.builtin "isinstance") (fun xs H Q => ∃ b Φ ρ s σ d x t, xs = [x, .ty (tyS t)] ∧ Rel X.kw b Φ ρ s σ H ∧ View X.kw Φ ρ H d x ∧ D.typed d = true ∧ Cont X.kw b Φ ρ σ Q (.bl (isTy d t), false) s) := by
  intro pins s σ H xs us Q I rr h
  obtain ⟨b, Φ, ρ, s0, σ0, d, x, t, rfl, r, vx, hs, c⟩ := h
  obtain ⟨n, e⟩ : ∃ n, dTy d = some n := by cases d <;> first | exact ⟨_, rfl⟩ | cases hs
  exact call_isi pins s σ H _ us Q I rr ⟨x, _, _, _, _, rfl, .ty _, view_ty r.sub vx e, kit_ty (isTy_kit e t), cont_rep c r rfl⟩

/-! ### methods that change -/
theorem putM_of {m m' : Mem} {n : Nat} {d : D} (h : putM m n d = some m') : ∃ o, D.mo d = some o ∧ m' = m.set n o ∧ n < m.length := by
  unfold putM at h
  split at h
  · rename_i h1 h2
    exact ⟨_, h2, (Option.some.inj h).symm, (List.getElem?_eq_some_iff.mp h1).1⟩
  · rename_i h1 h2
    exact ⟨_, h2, (Option.some.inj h).symm, (List.getElem?_eq_some_iff.mp h1).1⟩
  · cases h
variable {K : KW} {b : Bs} {Φ H : Hp} {ρ : List Addr} {s s' : S} {σ : L2.St} {a : Addr} {u : HO}
theorem nd_ix {l : List Addr} (h : l.Nodup) {i j : Nat} {a : Addr} (e1 : l[i]? = some a) (e2 : l[j]? = some a) : i = j := by
  obtain ⟨h1, q1⟩ := List.getElem?_eq_some_iff.mp e1
  obtain ⟨h2, q2⟩ := List.getElem?_eq_some_iff.mp e2
  exact (List.getElem_inj h).mp (q1.trans q2.symm)
/-- the object n of the store is changed -/
theorem Rel.setM (r : Rel K b Φ ρ s σ H) {n : Nat} (hn : ρ[n]? = some a) {o : MO} (hm : MOk K Φ ρ (upd H a u) o a) : Rel K b Φ ρ { s with mem := s.mem.set n o } σ (upd H a u) := by
  have ha : a ∈ ρ := List.mem_of_getElem? hn
  have hΦ := r.mem.off a ha
  refine ⟨⟨by rw [List.length_set]; exact r.mem.len, r.mem.nd, r.mem.off, same_updΦ r.sub hΦ u, fun k ob c e1 e2 => ?_⟩, r.low, r.ext, r.len, fun i d fr e => ?_, r.inj, fun c w e hc => ?_, r.new, r.newF⟩
  · by_cases hk : n = k
    · subst hk
      rw [hn] at e2; cases e2
      rw [List.getElem?_set_self (by rw [r.mem.len]; exact (List.getElem?_eq_some_iff.mp hn).1)] at e1
      cases e1
      exact hm
    · rw [List.getElem?_set_ne hk] at e1
      have ne : c ≠ a := fun z => hk (nd_ix r.mem.nd hn (by rw [← z]; exact e2))
      exact mok_mono (Same.refl _) (List.prefix_refl _) (upd_ne ne) (r.mem.at_ k ob c e1 e2)
  · obtain ⟨w, hw, q⟩ := r.env i d fr e
    refine ⟨w, hw, ?_⟩
    cases fr with
    | false => exact q
    | true =>
      obtain ⟨c, u', rfl, hu', _, g1, g2, g3⟩ := fresh_ref q
      have ne : c ≠ a := fun z => g2 (by rw [z]; exact ha)
      exact fresh_mono (Same.refl _) (List.prefix_refl _) (upd_ne ne) g1 g2 q
  · by_cases hca : c = a
    · subst hca
      rw [r.new c ha hc] at e
      cases e
    · rw [upd_ne hca]
      exact r.keep c w e hc
/-- what stands at a is what d tells -/
def Holds (K : KW) (Φ : Hp) (ρ : List Addr) (H : Hp) (a : Addr) : D → Prop
  | .lst xs => ∃ vs, H a = some (.lst vs) ∧ Reps K Φ ρ xs vs
  | .dct ks ds => ∃ vs, DctM H a ks vs ∧ Reps K Φ ρ ds vs
  | _ => False
theorem holds_mok {d : D} {o : MO} (h : Holds K Φ ρ H a d) (e : D.mo d = some o) : MOk K Φ ρ H o a := by
  cases d with
  | lst xs => cases e; exact h
  | dct ks ds => cases e; exact h
  | _ => cases e
theorem holds_fresh {d : D} (h : Holds K Φ ρ H a d) (h1 : Φ a = none) (h2 : a ∉ ρ) (h3 : b.H a = none) : Fresh K b Φ ρ H d (.ref a) := by
  cases d with
  | lst xs => obtain ⟨vs, q, rs⟩ := h; exact ⟨a, vs, rfl, q, rs, h1, h2, h3⟩
  | dct ks ds => obtain ⟨vs, q, rs⟩ := h; exact ⟨a, vs, rfl, q, rs, h1, h2, h3⟩
  | _ => exact h.elim
theorem env_set {env : Env} {i j : Nat} {p q : D × Bool} (h : (env.set i (some p))[j]? = some (some q)) : (i = j ∧ p = q) ∨ (i ≠ j ∧ env[j]? = some (some q)) := by
  by_cases e : i = j
  · subst e
    by_cases hl : i < env.length
    · rw [List.getElem?_set_self hl] at h
      exact .inl ⟨rfl, Option.some.inj (Option.some.inj h)⟩
    · rw [List.getElem?_eq_none (by rw [List.length_set]; omega)] at h
      cases h
  · rw [List.getElem?_set_ne e] at h
    exact .inr ⟨e, h⟩
/-- what the slot i alone holds is changed -/
theorem Rel.setOwn (r : Rel K b Φ ρ s σ H) {i : Nat} {d0 d' : D} (hs : s.env[i]? = some (some (d0, true))) (hσ : σ[i]? = some (some (.ref a))) (h : Holds K Φ ρ (upd H a u) a d') :
    Rel K b Φ ρ (setSlot s i (d', true)) σ (upd H a u) := by
  obtain ⟨v, hv, q0⟩ := r.env i d0 true hs
  rw [hσ] at hv; cases hv
  obtain ⟨a', u', e', hu', _, g1, g2, g3⟩ := fresh_ref (show Fresh K b Φ ρ H d0 (.ref a) from q0)
  cases e'
  refine ⟨⟨r.mem.len, r.mem.nd, r.mem.off, same_updΦ r.sub g1 u, fun k ob c e1 e2 => ?_⟩, r.low, r.ext, ?_, fun j d fr e => ?_, fun j k d d2 v e1 e2 e3 e4 => ?_, fun c w e hc => ?_, r.new, r.newF⟩
  · have ne : c ≠ a := fun z => g2 (by rw [← z]; exact List.mem_of_getElem? e2)
    exact mok_mono (Same.refl _) (List.prefix_refl _) (upd_ne ne) (r.mem.at_ k ob c e1 e2)
  · show (s.env.set i _).length = _
    rw [List.length_set]
    exact r.len
  · rcases env_set e with ⟨rfl, e5⟩ | ⟨ne, e5⟩
    · cases e5
      exact ⟨_, hσ, holds_fresh h g1 g2 g3⟩
    · obtain ⟨w, hw, q⟩ := r.env j d fr e5
      refine ⟨w, hw, ?_⟩
      cases fr with
      | false => exact q
      | true =>
        obtain ⟨c, u2, rfl, hu2, _, k1, k2, k3⟩ := fresh_ref q
        have nc : c ≠ a := fun z => ne (r.inj i j d0 d _ hs e5 hσ (by rw [hw, z]))
        exact fresh_mono (Same.refl _) (List.prefix_refl _) (upd_ne nc) k1 k2 q
  · have old : ∀ {j : Nat} {d : D}, (s.env.set i (some (d', true)))[j]? = some (some (d, true)) → ∃ d2, s.env[j]? = some (some (d2, true)) := fun {j d} e => by
      rcases env_set e with ⟨rfl, _⟩ | ⟨_, e5⟩
      · exact ⟨d0, hs⟩
      · exact ⟨d, e5⟩
    obtain ⟨d3, e5⟩ := old e1
    obtain ⟨d4, e6⟩ := old e2
    exact r.inj j k d3 d4 v e5 e6 e3 e4
  · by_cases hca : c = a
    · subst hca
      rw [g3] at e
      cases e
    · rw [upd_ne hca]
      exact r.keep c w e hc
theorem put_ok (r : Rel K b Φ ρ s σ H) {e : E} {dx d' : D} (o : OpR' K Φ ρ σ e dx (.ref a)) (hp : putE s e dx d' = some s') (h : Holds K Φ ρ (upd H a u) a d') : Rel K b Φ ρ s' σ (upd H a u) := by
  have byref : ∀ n, Rep K Φ ρ (.ref n) (.ref a) → (putM s.mem n d').map (fun m => ({ s with mem := m } : S)) = some s' → Rel K b Φ ρ s' σ (upd H a u) := fun n q h2 => by
    obtain ⟨m, h3, h4⟩ := omap h2
    subst h4
    obtain ⟨ob, e1, e2, e3⟩ := putM_of h3
    subst e2
    obtain ⟨a', e4, e5⟩ := q
    cases e4
    exact r.setM e5 (holds_mok h e1)
  cases e with
  | v i =>
    have hσ : σ[i]? = some (some (.ref a)) := o
    cases hs : slot s i with
    | none =>
      have hp : putV s i d' (slot s i) = some s' := hp
      rw [hs] at hp
      cases hp
    | some p =>
      obtain ⟨d0, fr⟩ := p
      have hp : putV s i d' (slot s i) = some s' := hp
      rw [hs] at hp
      obtain ⟨w, hw, q⟩ := r.env i _ fr (slot_env hs)
      rw [hσ] at hw; cases hw
      have own : fr = true → some (setSlot s i (d', true)) = some s' → Rel K b Φ ρ s' σ (upd H a u) := fun e1 e2 => by
        subst e1
        cases e2
        exact r.setOwn (slot_env hs) hσ h
      cases d0 with
      | ref n =>
        cases fr with
        | false => exact byref n q hp
        | true => exact False.elim q
      | _ =>
        cases fr with
        | false => cases hp
        | true => exact own rfl hp
  | _ =>
    cases dx with
    | ref n => exact byref n o hp
    | _ => cases hp
def mwId : Mw → String
  | .append => "list.append"
  | .extend => "list.extend"
  | .pop => "list.pop"
  | .clear => "list.clear"
  | .reverse => "list.reverse"
  | .insert => "list.insert"
def rW (K : KW) (m : Mw) (e : E) : V → List V → Hp → VK → Prop := fun x xs H Q => ∃ b Φ ρ s σ dx dy ds p s', Rel K b Φ ρ s σ H ∧ OpR' K Φ ρ σ e dx x ∧ seeE s e dx = some dy ∧ Reps K Φ ρ ds xs ∧ mwr m dy ds = some p ∧ putE s e dx p.2 = some s' ∧ Cont K b Φ ρ σ Q (p.1, false) s'
/-- extend by a tuple, whatever else the tuple bears -/
theorem ext_tup (l b : Addr) (xs ys : Array Value) (n n2 : Nat) (dct : Option Addr) (sl : Array (Option Value)) (h0 : ¬ (!xs.isEmpty && Builtin.List.listTooLong (xs.size + ys.size)) = true) (h1 : xs.size ≤ sizeLine) (h2 : xs.size + ys.size ≤ sizeLine + 1) :
    Meets (Builtin.«list.extend» ⟨[.ref l, .ref b], []⟩) (fun _ R s => s.heap.get? l = some ⟨.type "list", none, .seq xs n, #[]⟩ ∧
      s.heap.get? b = some ⟨.type "tuple", dct, .seq ys n2, sl⟩ ∧ R (.ok (.ret Value.none)) { s with heap := s.heap.update l (Obj.mapSeq fun z => z ++ ys), toks := s.toks }) :=
  .of_wp fun prog w A R s h => by
    obtain ⟨hp, g, d, tk, os⟩ := s
    obtain ⟨hl, hb, h⟩ := h
    have f1 := AutoSeq1.idx_int
    have f2 := sub_tuple_tuple
    have f3 := sub_list_list
    have f4 := sub_tuple_list
    have f5 := sub_list_tuple
    have hz : (xs ++ ys).size ≤ sizeLine + 1 := by rw [Array.size_append]; exact h2
    wp_walk using (wpAny_updateSeq hl rfl (hz := h1) (_hz' := hz)), AutoSeq1.wpAny_loadPart' hl, AutoSeq1.wpAny_loadPart' hb
    exact ⟨_, rfl, h⟩
theorem mt_extendT {X : Cx} : MtM X "list.extend" (fun x vs H Q => ∃ l b xs zs, x = .ref l ∧ vs = [.ref b] ∧ H l = some (.lst xs) ∧ SqT X.K H b zs ∧ xs.length + zs.length ≤ sizeLine ∧ Q .non (upd H l (.lst (xs ++ zs)))) := by
  intro pins s σ H x vs v us Q I rx rv h
  obtain ⟨l, b, xs, zs, rfl, rfl, hH, hB, hz, q⟩ := h
  cases rx
  obtain ⟨u, rfl, ru⟩ := rv.one
  cases ru
  obtain ⟨z, its, n, r, hl, e⟩ := I.lstM hH
  obtain ⟨its2, r2, ⟨ob, e2, hc, n2, hd⟩, _⟩ := I.tuple hB
  obtain ⟨oc, od, dt, osl⟩ := ob
  have hc : oc = .type "tuple" := hc
  have hd : dt = .seq its2.toArray n2 := hd
  subst hc hd
  have hl2 := r2.length
  have sz : its.toArray.size + its2.toArray.size ≤ sizeLine := by rw [List.size_toArray, List.size_toArray]; omega
  have short : ¬ (!its.toArray.isEmpty && Builtin.List.listTooLong (its.toArray.size + its2.toArray.size)) = true := by
    rw [notLongL sz, Bool.and_false]
    decide
  refine call_meets F.slot_list_extend ⟨_, e, rfl⟩ F.entry_list_extend (F.args_list_extend_2 _ _)
    (ext_tup l b its.toArray its2.toArray n n2 od osl short (by rw [List.size_toArray]; omega) (by omega)) ⟨e, e2, ?_⟩
  refine ⟨.non, _, I.lset (its' := its ++ its2) hH e (by simp) (r.append r2) ?_, rfl, q⟩
  have := List.length_append (as := xs) (bs := zs)
  omega
theorem mw_ok (m : Mw) (e : E) : MtM X (mwId m) (rW X.kw m e) := by
  intro pins s σ H x xs v us Q I rx rxs h
  obtain ⟨b, Φ, ρ, s0, σ0, dx, dy, ds, p, s', r, o, hsee, rs, em, hput, c⟩ := h
  have sub := r.sub
  have vx := see_view r o hsee
  unfold mwr at em
  split at em
  · rename_i zs a
    obtain ⟨hz, e5⟩ := ifs em rfl
    subst e5
    obtain ⟨l, vs, rfl, q, rq⟩ := vx
    obtain ⟨y, ws, rfl, ry, rfl⟩ := rs
    refine mt_append pins s σ H _ _ v us Q I rx rxs ⟨l, vs, y, rfl, rfl, q, by rw [reps_len rq]; exact hz, ?_⟩
    exact cont_rep c (put_ok r o hput ⟨_, upd_same, reps_app rq (reps_one ry)⟩) rfl
  · rename_i zs ys
    obtain ⟨hz, e5⟩ := ifs em rfl
    subst e5
    obtain ⟨l, vs, rfl, q, rq⟩ := vx
    obtain ⟨y, ws, rfl, ⟨a2, vs2, rfl, q2, rq2⟩, rfl⟩ := rs
    refine mt_extend pins s σ H _ _ v us Q I rx rxs ⟨l, a2, vs, vs2, rfl, rfl, q, sub _ _ q2, by rw [reps_len rq, reps_len rq2]; exact hz, ?_⟩
    exact cont_rep c (put_ok r o hput ⟨_, upd_same, reps_app rq rq2⟩) rfl
  · rename_i zs ys
    obtain ⟨hz, e5⟩ := ifs em rfl
    subst e5
    obtain ⟨l, vs, rfl, q, rq⟩ := vx
    obtain ⟨y, ws, rfl, ⟨a2, vs2, rfl, q2, rq2, _⟩, rfl⟩ := rs
    refine mt_extendT pins s σ H _ _ v us Q I rx rxs ⟨l, a2, vs, vs2, rfl, rfl, q, sqT_mono sub q2, by rw [reps_len rq, reps_len rq2]; exact hz, ?_⟩
    exact cont_rep c (put_ok r o hput ⟨_, upd_same, reps_app rq rq2⟩) rfl
  · rename_i zs
    split at em
    · rename_i y hy
      cases em
      obtain ⟨l, vs, rfl, q, rq⟩ := vx
      cases rs
      obtain ⟨w, hw, rw'⟩ := reps_get rq hy
      refine mt_pop pins s σ H _ _ v us Q I rx rxs ⟨l, vs, w, rfl, rfl, q, by rw [reps_len rq]; exact hw, ?_⟩
      exact cont_rep c (put_ok r o hput ⟨_, upd_same, reps_dropLast rq⟩) rw'
    · cases em
  · rename_i zs
    cases em
    obtain ⟨l, vs, rfl, q, rq⟩ := vx
    cases rs
    refine mt_clear pins s σ H _ _ v us Q I rx rxs ⟨l, vs, rfl, rfl, q, ?_⟩
    exact cont_rep c (put_ok r o hput ⟨_, upd_same, reps_nil⟩) rfl
  · rename_i zs
    cases em
    obtain ⟨l, vs, rfl, q, rq⟩ := vx
    cases rs
    refine mt_reverse pins s σ H _ _ v us Q I rx rxs ⟨l, vs, rfl, rfl, q, ?_⟩
    exact cont_rep c (put_ok r o hput ⟨_, upd_same, reps_rev rq⟩) rfl
  · cases em
end
end Ly
set_option Elab.async false
set_option linter.all false
set_option maxRecDepth 100000
set_option maxHeartbeats 2000000
/-! Ly5: readings of expressions. -/
namespace Ly
open PySem PySem.Spec PyProof.Rows L2

/-! ### how the text is held against the small language -/
def vB (sc : Scope) (x : Str) : Bool := match sc.names.lookup x with
  | some .local => true
  | some .cell => true
  | some .free => true
  | _ => false
def gB (sc : Scope) (x : Str) : Bool := (match sc.names.lookup x with
  | some .globalImplicit => true
  | _ => false) && !(x == ("__debug__" : Str))
def nmB (sc : Scope) (N : List Str) (i : Nat) (x : Str) : Bool := decide (N[i]? = some x) && vB sc x && !(x == ("__debug__" : Str)) && !(x == ("__classdict__" : Str))
/-- an expression of a plain form: no star, no slice, no display of a set -/
def plainX : Expr → Bool
  | .Starred _ _ => false
  | .Slice _ _ _ _ => false
  | .Set _ _ _ => false
  | _ => true
def sameConst : D → Const → Bool
  | .non, .none => true
  | .bl a, .bool b => a == b
  | .int a, .int b => decide (a = b)
  | .str a, .str b => decide (a = b)
  | _, _ => false
def opB : Op2 → Operator → Bool
  | .add, .Add => true
  | .sub, .Sub => true
  | .mul, .Mult => true
  | .fdiv, .FloorDiv => true
  | .mod, .Mod => true
  | .pow, .Pow => true
  | _, _ => false
def cmB : Cm → CmpOp → Bool
  | .eq, .Eq => true
  | .ne, .NotEq => true
  | .lt, .Lt => true
  | .le, .LtE => true
  | .gt, .Gt => true
  | .ge, .GtE => true
  | .is_, .Is => true
  | .isn, .IsNot => true
  | .in_, .In => true
  | .nin, .NotIn => true
  | _, _ => false
def bfOk : Bf → Bool
  | .ssorted => false
  | .maxd _ => false
  | _ => true
def mwOk : Mw → Bool
  | .insert => false
  | _ => true
/-- no method of super() -/
def baseB : Expr → Bool
  | .Call (.Name f _) [] [] _ => !(f == ("super" : Str))
  | _ => true
def bfNm : Bf → Str
  | .len => "len"
  | .int => "int"
  | .str => "str"
  | .tuple => "tuple"
  | .list => "list"
  | .max => "max"
  | .min => "min"
  | .abs => "abs"
  | .sum => "sum"
  | .all => "all"
  | .sorted => "sorted"
  | .ssorted => "?"
  | .maxd _ => "?"
def mrNm : Mr → Str
  | .count => "count"
  | .index => "index"
  | .join => "join"
  | .startswith => "startswith"
  | .get => "get"
  | .upper => "upper"
def mwNm : Mw → Str
  | .append => "append"
  | .extend => "extend"
  | .pop => "pop"
  | .clear => "clear"
  | .reverse => "reverse"
  | .insert => "insert"
def lineB (a b : Pos) : Bool := a.endLine == b.line
def nameB (x : Str) : Expr → Bool
  | .Name y _ => decide (x = y)
  | _ => false
/-- targets -/
def tgN (sn : List Str) (sc : Scope) (N : List Str) (i : Nat) : Expr → Bool
  | .Name x _ => decide (N[i]? = some x) && (match sc.names.lookup x with | some .local => true | some .cell => true | _ => false) && decide (x ∈ sn)
  | _ => false
def tgNs (sn : List Str) (sc : Scope) (N : List Str) : List Nat → List Expr → Bool
  | [], [] => true
  | i :: is, e :: es => tgN sn sc N i e && tgNs sn sc N is es
  | _, _ => false
def tgB (sn : List Str) (sc : Scope) (N : List Str) : T → Expr → Bool
  | .v i, e => tgN sn sc N i e
  | .tup is, .Tuple es _ _ => tgNs sn sc N is es
  | _, _ => false
def isTup : Expr → Bool
  | .Tuple _ _ _ => true
  | _ => false
def ownL (N : List Str) (own : List Nat) : List (Str × Nat) := own.map fun i => (N.getD i ⟨#[]⟩, i)
def T.slots : T → List Nat
  | .v i => [i]
  | .tup is => is
/-- a display of a dict: texts told, whole numbers told -/
def kConst : Key → Const → Bool
  | .inl i, .int j => decide (i = j)
  | .inr x, .str y => decide (x = y)
  | _, _ => false
def dKey : D → Option Key
  | .int i => some (.inl i)
  | .str x => some (.inr x)
  | _ => none
def dispP : List E → List E → Option (List (Str × Key))
  | [], [] => some []
  | .c (.str k) :: ks, .c v :: vs => (dKey v).bind fun v => (dispP ks vs).map ((k, v) :: ·)
  | _, _ => none
def dispX : List (Str × Key) → List (Option Expr) → List Expr → Bool
  | [], [], [] => true
  | (k, v) :: r, some (.Constant (.str k') _ _) :: ks, .Constant v' _ _ :: vs => decide (k = k') && kConst v v' && dispX r ks vs
  | _, _, _ => false
def dispB (l : List (Str × Key)) (keys : List (Option Expr)) (vals : List Expr) : Bool := dispX l keys vals && !l.isEmpty && decide (l.length ≤ 15) && decide (l.map (·.1)).Nodup
def isNil : E → Bool
  | .nil => true
  | _ => false
/-- the operands of what is walked -/
def walkX (sc : Scope) : IK → Bool → Expr → Option (List Expr)
  | .seq, _, x => if plainX x then some [x] else none
  | .rng, _, .Call (.Name f _) xs [] _ => if decide (f = "range") && gB sc f && (!xs.isEmpty && decide (xs.length ≤ 3)) then some xs else none
  | .enm, true, .Call (.Name f _) [x] [] _ => if decide (f = "enumerate") && gB sc f then some [x] else none
  | .zip, true, .Call (.Name f _) [x, y] [] _ => if decide (f = "zip") && gB sc f then some [x, y] else none
  | .rev, _, .Call (.Name f _) [x] [] _ => if decide (f = "reversed") && gB sc f then some [x] else none
  | _, _, _ => none
section
variable (G : List (Str × D)) (N : List Str)
mutual
def chE (sc : Scope) : E → Expr → Bool
  | .c d, .Constant k _ _ => sameConst d k
  | .v i, .Name x _ => nmB sc N i x
  | .g x d, .Name y _ => decide (x = y) && gB sc x && (match G.lookup x with | some d' => D.beq d d' | none => false)
  | .tup es, .Tuple xs _ _ => chEs sc es xs
  | .lst es, .List xs _ => chEs sc es xs
  | .dctK, .Dict [] [] _ => true
  | .dctT, .Dict [] [] _ => true
  | .dead, x => plainX x
  | .slr a, .Subscript x (.Slice none none (some (.UnaryOp .USub (.Constant (.int j) _ _) _)) _) _ => decide (j = 1) && chE sc a x
  | .dct ks vs, .Dict keys vals _ => match dispP ks vs with | some l => dispB l keys vals | none => false
  | .bin op a b, .BinOp x o y _ => opB op o && chE sc a x && chE sc b y
  | .neg a, .UnaryOp .USub x _ => chE sc a x
  | .not a, .UnaryOp .Not x _ => chE sc a x
  | .and a b, .BoolOp .And (x :: y :: r) p => chE sc a x && (match r with | [] => chE sc b y | _ => chE sc b (.BoolOp .And (y :: r) p))
  | .or a b, .BoolOp .Or (x :: y :: r) p => chE sc a x && (match r with | [] => chE sc b y | _ => chE sc b (.BoolOp .Or (y :: r) p))
  | .cmp op a b, .Compare x [o] [y] _ => cmB op o && chE sc a x && chE sc b y
  | .chn op op' a b c, .Compare x [o, o'] [y, z] _ => cmB op o && cmB op' o' && chE sc a x && chE sc b y && chE sc c z
  | .ife c a b, .IfExp z x y _ => chE sc c z && chE sc a x && chE sc b y
  | .ix a b, .Subscript x y _ => chE sc a x && chE sc b y
  | .sl a lo hi, .Subscript x (.Slice l h none _) _ => chE sc a x && (match l with | none => isNil lo | some x => chE sc lo x) && (match h with | none => isNil hi | some x => chE sc hi x)
  | .isi a t, .Call (.Name f _) [x, .Name y _] [] _ => decide (f = "isinstance") && gB sc f && chE sc a x && decide (y = tyS t) && gB sc y
  | .call f es, .Call (.Name x _) xs [] _ => decide (f = x) && gB sc x && !xs.isEmpty && chEs sc es xs
  | .blt f es, .Call (.Name x _) xs [] _ => bfOk f && decide (x = bfNm f) && gB sc x && !xs.isEmpty && chEs sc es xs
  | .mr m a es, .Call (.Attribute o x ap) xs [] cp => decide (x = mrNm m) && baseB o && lineB ap cp && decide (xs.length < 20) && chE sc a o && chEs sc es xs
  | .mw m a es, .Call (.Attribute o x ap) xs [] cp => mwOk m && decide (x = mwNm m) && baseB o && lineB ap cp && decide (xs.length < 20) && chE sc a o && chEs sc es xs
  | .lc elt tg k its ifs own, .ListComp x [⟨t, it, fs, z⟩] scope _ => decide (z = 0) && blkC N sc scope (ownL N own) && (match walkX sc k (isTup t) it with | some xs => chEs sc its xs | none => false) &&
      tgB ((ownL N own).map (·.1)) (relS scope sc) N tg t && (own.all fun i => match scope.names.lookup (N.getD i ⟨#[]⟩) with | some .local => true | some .cell => true | _ => false) &&
      tg.slots.all own.contains &&
      decide (ifs.length ≤ 1) && chEs (relS scope sc) ifs fs && chE (relS scope sc) elt x
  | .lcR elt tg e ifs own, .ListComp x [⟨t, it, fs, z⟩] scope _ => decide (z = 0) && blkC N sc scope (ownL N own) && chE sc e it &&
      tgB ((ownL N own).map (·.1)) (relS scope sc) N tg t && (own.all fun i => match scope.names.lookup (N.getD i ⟨#[]⟩) with | some .local => true | some .cell => true | _ => false) &&
      tg.slots.all own.contains &&
      decide (ifs.length ≤ 1) && chEs (relS scope sc) ifs fs && chE (relS scope sc) elt x
  | .mxd a d, .Call (.Name f _) [x] [⟨some kw, .Constant (.int j) _ _, _⟩] _ => decide (f = "max") && gB sc f && decide (kw = "default") && decide (j = d) && chE sc a x
  | .sset a, .Call (.Name f _) [.Call (.Name g _) [x] [] _] [] _ => decide (f = "sorted") && gB sc f && decide (g = "set") && gB sc g && chE sc a x
  | _, _ => false
def chEs (sc : Scope) : List E → List Expr → Bool
  | [], [] => true
  | e :: es, x :: xs => chE sc e x && chEs sc es xs
  | _, _ => false
end
end
end Ly
set_option Elab.async false
set_option linter.all false
set_option maxRecDepth 100000
set_option maxHeartbeats 2000000
/-! Ly6: expressions do what the evaluator says. -/
namespace Ly
open PySem PySem.Spec PyProof.Rows L2

/-- an exception's object: not yet carried -/
def ExIs (K : KW) (Φ : Hp) (ρ : List Addr) (H : Hp) (c : Str) (fs : List D) (C : Value) (d : Option Addr) : Prop := False
section
variable (K : KW) (b : Bs) (W : WX)
/-- what is wanted of an exception that leaves -/
def ZX (Φ : Hp) (ρ : List Addr) (σ : L2.St) (c : Str) (fs : List D) (s : S) : Prop :=
  ∀ (Φ' : Hp) (ρ' : List Addr) (H' : Hp) (C : Value) (d : Option Addr), Same Φ Φ' → ρ <+: ρ' → Rel K b Φ' ρ' s σ H' → ExIs K Φ' ρ' H' c fs C d → W C d σ H'
def tE (f : S → R (D × Bool)) : TE := fun σ H Q => ∃ Φ ρ s, Rel K b Φ ρ s σ H ∧ (f s).wp (Cont K b Φ ρ σ Q) (ZX K b W Φ ρ σ)
def tT (f : S → R Bool) : TT := fun σ H Q => ∃ Φ ρ s, Rel K b Φ ρ s σ H ∧ (f s).wp (fun k s' => ∀ Φ' ρ' H', Same Φ Φ' → ρ <+: ρ' → Rel K b Φ' ρ' s' σ H' → Q k H') (ZX K b W Φ ρ σ)
def tO (e : E) (f : S → R D) : TE := fun σ H Q => ∃ Φ ρ s, Rel K b Φ ρ s σ H ∧ (f s).wp (fun d s' => ∀ Φ' ρ' H' v, Same Φ Φ' → ρ <+: ρ' → Rel K b Φ' ρ' s' σ H' → OpR' K Φ' ρ' σ e d v → Q v H') (ZX K b W Φ ρ σ)
def tA (f : S → R (List D)) : TA := fun σ H Q => ∃ Φ ρ s, Rel K b Φ ρ s σ H ∧ (f s).wp (fun ds s' => ∀ Φ' ρ' H' vs, Same Φ Φ' → ρ <+: ρ' → Rel K b Φ' ρ' s' σ H' → Reps K Φ' ρ' ds vs → Q vs H') (ZX K b W Φ ρ σ)
end

structure FnAt (X : Cx) (f : Str) (sp : Sp) : Prop where
  ex : ∃ (a : Addr) (fd : FuncData) (ps : List Str) (k : Nat), Room k X.A ∧ FnOk X.prog X.w X.K X.mg X.base (L2.CX X.prog X.w) k a fd ps sp ∧ X.mg f = some (.ref a) ∧ PySem.W.keepIn X.K (.ref a) = true ∧ Binds X.K fd ps []
def bnames : List Str := ["len", "int", "str", "tuple", "list", "max", "min", "abs", "sum", "all", "sorted", "isinstance", "bool", "dict", "range", "enumerate", "zip", "reversed", "set"]
/-- a def's promise, by what its evaluation tells -/
def spF (K : KW) (cf : List D → Mem → CR) : Sp := fun vs H Q E => ∃ (Φ : Hp) (ρ : List Addr) (m : Mem) (ds : List D), MemOk K Φ ρ H m ∧ Reps K Φ ρ ds vs ∧
  match cf ds m with
  | .ok d fr m' => ∀ (Φ' : Hp) (ρ' : List Addr) (H' : Hp) (v : V), Same Φ Φ' → ρ <+: ρ' → MemOk K Φ' ρ' H' m' → (∀ a o, H a = some o → a ∉ ρ → H' a = some o) → (∀ a ∈ ρ', a ∉ ρ → H a = none) → (∀ a o, Φ' a = some o → Φ a = some o ∨ H a = none) →
      (if fr = true then Fresh K ⟨H, Φ, ρ⟩ Φ' ρ' H' d v else Rep K Φ' ρ' d v) → Q v H'
  | .exc c fs m' => ∀ (Φ' : Hp) (ρ' : List Addr) (H' : Hp) (C : Value) (d : Option Addr), Same Φ Φ' → ρ <+: ρ' → MemOk K Φ' ρ' H' m' → (∀ a o, H a = some o → a ∉ ρ → H' a = some o) → (∀ a ∈ ρ', a ∉ ρ → H a = none) → (∀ a o, Φ' a = some o → Φ a = some o ∨ H a = none) →
      ExIs K Φ' ρ' H' c fs C d → E C d H'
  | .no => False
structure Ctx (ft : Str → Option Fn) (cf : Str → List D → Mem → CR) (G : List (Str × D)) (N : List Str) (W : WX) (sn : List Str) (sc : Scope) (X : Cx) : Prop where
  n : X.N = N
  nd : X.N.Nodup
  sc : X.env.scope = sc
  calm : X.calm = true
  un : X.A.units + 210 < cLine
  tk : Takes X W
  fn : ∀ f F, ft f = some F → ∃ n, FnAt X f (spF X.kw fun ds m => if ds.length = F.ps then cf f ds m else .no) ∧ n = F.ps
  gl : ∀ x d, G.lookup x = some d → ∃ u v, X.mg x = some u ∧ RelV v u ∧ ∀ Φ ρ, Rep X.kw Φ ρ d v
  bl : ∀ x ∈ bnames, X.mg x = none
  sto : ∀ x ∈ sn, X.fn x = true ∨ X.env.scope.names.lookup x = some .local

/-! ### bridges -/
section
variable {X : Cx} {b : Bs} {W : WX} {ex ex2 : Expr} {ta tb : TE} {pos : Pos}
theorem _root_.L2.PE.imp {t t' : TE} (h : PE X ex t) (i : ∀ σ H Q, t' σ H Q → t σ H Q) : PE X ex t' := ⟨fun pins s σ H Q I q => h.run pins s σ H Q I (i σ H Q q)⟩
theorem _root_.L2.PT.imp {t t' : TT} (h : PT X ex t) (i : ∀ σ H Q, t' σ H Q → t σ H Q) : PT X ex t' := ⟨fun pins s σ H Q I q => h.run pins s σ H Q I (i σ H Q q)⟩
theorem _root_.L2.PA.imp {es : List Expr} {t t' : TA} (h : PA X es t) (i : ∀ σ H Q, t' σ H Q → t σ H Q) : PA X es t' := ⟨fun pos pins s σ H Q I q => h.run pos pins s σ H Q I (i σ H Q q)⟩
variable {K : KW} {Φ Φ' Φ2 H H' : Hp} {ρ ρ' ρ2 : List Addr} {s s' : S} {σ : L2.St} {Q : VK}
theorem zx_mono (h : Same Φ Φ') (hp : ρ <+: ρ') {c : Str} {fs : List D} (z : ZX K b W Φ ρ σ c fs s) : ZX K b W Φ' ρ' σ c fs s :=
  fun Φ2 ρ2 H2 C d h2 hp2 r x => z Φ2 ρ2 H2 C d (h.trans h2) (hp.trans hp2) r x
theorem cont_mono (h : Same Φ Φ') (hp : ρ <+: ρ') {p : D × Bool} (c : Cont K b Φ ρ σ Q p s) : Cont K b Φ' ρ' σ Q p s :=
  fun Φ2 ρ2 H2 v h2 hp2 r x => c Φ2 ρ2 H2 v (h.trans h2) (hp.trans hp2) r x
theorem wp_mono {α : Type} {m : R α} {W1 W2 : α → S → Prop} {Z1 Z2 : Str → List D → S → Prop} (h : m.wp W1 Z1) (i : ∀ a s, W1 a s → W2 a s) (z : ∀ c fs s, Z1 c fs s → Z2 c fs s) : m.wp W2 Z2 := by
  cases m with
  | ok a s => exact i a s h
  | exc c fs s => exact z c fs s h
  | no => exact h
/-- what an expression tells, never changing from here on -/
theorem settle (r : Rel K b Φ ρ s σ H) {p : D × Bool} {v : V} (q : RRep K b Φ ρ s σ H p v) : ∃ Φ', Same Φ Φ' ∧ Rel K b Φ' ρ s σ H ∧ Rep K Φ' ρ p.1 v := by
  unfold RRep at q
  cases hp : p.2 with
  | false =>
    rw [hp] at q
    exact ⟨Φ, Same.refl _, r, q⟩
  | true =>
    rw [hp] at q
    exact r.freeze q.1 q.2
theorem tE_bind {α : Type} {f : S → R (D × Bool)} {g : D × Bool → S → R α} {W' : α → S → Prop} (r : Rel K b Φ ρ s σ H) (h : ((f s).bind g).wp W' (ZX K b W Φ ρ σ)) :
    tE K b W f σ H fun v H1 => ∃ Φ1 ρ1 s1 p, Same Φ Φ1 ∧ ρ <+: ρ1 ∧ Rel K b Φ1 ρ1 s1 σ H1 ∧ RRep K b Φ1 ρ1 s1 σ H1 p v ∧ (g p s1).wp W' (ZX K b W Φ1 ρ1 σ) :=
  ⟨Φ, ρ, s, r, wp_mono (wp_bind.mp h) (fun p s1 q Φ1 ρ1 H1 v h1 hp1 r1 rr => ⟨Φ1, ρ1, s1, p, h1, hp1, r1, rr, wp_mono q (fun _ _ z => z) fun _ _ _ z => zx_mono h1 hp1 z⟩) fun _ _ _ z => z⟩
theorem tO_bind {α : Type} {e : E} {f : S → R D} {g : D → S → R α} {W' : α → S → Prop} (r : Rel K b Φ ρ s σ H) (h : ((f s).bind g).wp W' (ZX K b W Φ ρ σ)) :
    tO K b W e f σ H fun v H1 => ∃ Φ1 ρ1 s1 d, Same Φ Φ1 ∧ ρ <+: ρ1 ∧ Rel K b Φ1 ρ1 s1 σ H1 ∧ OpR' K Φ1 ρ1 σ e d v ∧ (g d s1).wp W' (ZX K b W Φ1 ρ1 σ) :=
  ⟨Φ, ρ, s, r, wp_mono (wp_bind.mp h) (fun p s1 q Φ1 ρ1 H1 v h1 hp1 r1 rr => ⟨Φ1, ρ1, s1, p, h1, hp1, r1, rr, wp_mono q (fun _ _ z => z) fun _ _ _ z => zx_mono h1 hp1 z⟩) fun _ _ _ z => z⟩
theorem tA_bind {α : Type} {f : S → R (List D)} {g : List D → S → R α} {W' : α → S → Prop} (r : Rel K b Φ ρ s σ H) (h : ((f s).bind g).wp W' (ZX K b W Φ ρ σ)) :
    tA K b W f σ H fun vs H1 => ∃ Φ1 ρ1 s1 ds, Same Φ Φ1 ∧ ρ <+: ρ1 ∧ Rel K b Φ1 ρ1 s1 σ H1 ∧ Reps K Φ1 ρ1 ds vs ∧ (g ds s1).wp W' (ZX K b W Φ1 ρ1 σ) :=
  ⟨Φ, ρ, s, r, wp_mono (wp_bind.mp h) (fun p s1 q Φ1 ρ1 H1 v h1 hp1 r1 rr => ⟨Φ1, ρ1, s1, p, h1, hp1, r1, rr, wp_mono q (fun _ _ z => z) fun _ _ _ z => zx_mono h1 hp1 z⟩) fun _ _ _ z => z⟩
theorem tT_bind {α : Type} {f : S → R Bool} {g : Bool → S → R α} {W' : α → S → Prop} (r : Rel K b Φ ρ s σ H) (h : ((f s).bind g).wp W' (ZX K b W Φ ρ σ)) :
    tT K b W f σ H fun k H1 => ∃ Φ1 ρ1 s1, Same Φ Φ1 ∧ ρ <+: ρ1 ∧ Rel K b Φ1 ρ1 s1 σ H1 ∧ (g k s1).wp W' (ZX K b W Φ1 ρ1 σ) :=
  ⟨Φ, ρ, s, r, wp_mono (wp_bind.mp h) (fun p s1 q Φ1 ρ1 H1 h1 hp1 r1 => ⟨Φ1, ρ1, s1, h1, hp1, r1, wp_mono q (fun _ _ z => z) fun _ _ _ z => zx_mono h1 hp1 z⟩) fun _ _ _ z => z⟩
theorem tE_mono {f : S → R (D × Bool)} {Q Q' : VK} (h : tE K b W f σ H Q) (i : ∀ v H, Q v H → Q' v H) : tE K b W f σ H Q' :=
  let ⟨Φ, ρ, s, r, w⟩ := h; ⟨Φ, ρ, s, r, wp_mono w (fun _ _ q Φ1 ρ1 H1 v g1 g2 r1 rr => i v H1 (q Φ1 ρ1 H1 v g1 g2 r1 rr)) fun _ _ _ z => z⟩
theorem tO_mono {e : E} {f : S → R D} {Q Q' : VK} (h : tO K b W e f σ H Q) (i : ∀ v H, Q v H → Q' v H) : tO K b W e f σ H Q' :=
  let ⟨Φ, ρ, s, r, w⟩ := h; ⟨Φ, ρ, s, r, wp_mono w (fun _ _ q Φ1 ρ1 H1 v g1 g2 r1 rr => i v H1 (q Φ1 ρ1 H1 v g1 g2 r1 rr)) fun _ _ _ z => z⟩
theorem tA_mono {f : S → R (List D)} {Q Q' : List V → Hp → Prop} (h : tA K b W f σ H Q) (i : ∀ v H, Q v H → Q' v H) : tA K b W f σ H Q' :=
  let ⟨Φ, ρ, s, r, w⟩ := h; ⟨Φ, ρ, s, r, wp_mono w (fun _ _ q Φ1 ρ1 H1 v g1 g2 r1 rr => i v H1 (q Φ1 ρ1 H1 v g1 g2 r1 rr)) fun _ _ _ z => z⟩
theorem tT_mono {f : S → R Bool} {Q Q' : Bool → Hp → Prop} (h : tT K b W f σ H Q) (i : ∀ v H, Q v H → Q' v H) : tT K b W f σ H Q' :=
  let ⟨Φ, ρ, s, r, w⟩ := h; ⟨Φ, ρ, s, r, wp_mono w (fun k _ q Φ1 ρ1 H1 g1 g2 r1 => i k H1 (q Φ1 ρ1 H1 g1 g2 r1)) fun _ _ _ z => z⟩
/-- an operand from its expression -/
theorem pe_tO {e : E} {f : S → R (D × Bool)} (he : PE X ex (tE X.kw b W f)) (hn : ∀ i, e = .v i → PE X ex (tVar i)) : PE X ex (tO X.kw b W e fun s => opO e (f s) s) := by
  have gen : (∀ s, opO e (f s) s = (f s).bind fun p s => .ok p.1 s) → (∀ Φ ρ σ d v, Rep X.kw Φ ρ d v → OpR' X.kw Φ ρ σ e d v) → PE X ex (tO X.kw b W e fun s => opO e (f s) s) := fun h1 h2 =>
    he.imp fun σ H Q ⟨Φ, ρ, s, r, w⟩ => by
      have w : (opO e (f s) s).wp _ _ := w
      rw [h1 s] at w
      refine ⟨Φ, ρ, s, r, wp_mono (wp_bind.mp w) (fun p s1 q Φ1 ρ1 H1 v g1 g2 r1 rr => ?_) fun _ _ _ z => z⟩
      obtain ⟨Φ2, k1, r2, k2⟩ := settle r1 rr
      exact q Φ2 ρ1 H1 v (g1.trans k1) g2 r2 (h2 _ _ _ _ _ k2)
  cases e with
  | v i =>
    refine (hn i rfl).imp fun σ H Q ⟨Φ, ρ, s, r, w⟩ => ?_
    have w : (match slot s i with | some _ => R.ok D.non s | none => R.no).wp _ _ := w
    cases hs : slot s i with
    | none => rw [hs] at w; exact w.elim
    | some p =>
      rw [hs] at w
      obtain ⟨v, hv, _⟩ := r.env i p.1 p.2 (slot_env hs)
      exact ⟨v, hv, w Φ ρ H v (Same.refl _) (List.prefix_refl _) r hv⟩
  | _ => exact gen (fun _ => rfl) fun _ _ _ _ _ q => q
/-- a test from an expression whose value is a truth -/
theorem pt_tT {f : S → R (D × Bool)} (he : PE X ex (tE X.kw b W f)) (hi : ∀ whole, isTrue ex X.env whole = (do let v ← whole; standAt ex.pos; holding [v] (truthy v))) : PT X ex (tT X.kw b W fun s => toB (f s)) := by
  refine (pt_val he hi).imp fun σ H Q ⟨Φ, ρ, s, r, w⟩ => ?_
  refine ⟨Φ, ρ, s, r, wp_mono (wp_bind.mp w) (fun p s1 q Φ1 ρ1 H1 v g1 g2 r1 rr => ?_) fun _ _ _ z => z⟩
  obtain ⟨d, fr⟩ := p
  cases d with
  | bl k =>
    cases fr with
    | true => exact False.elim rr.1
    | false => exact ⟨k, rr, q Φ1 ρ1 H1 g1 g2 r1⟩
  | _ => exact q.elim
end

/-! ### slots -/
section
variable {K : KW} {b : Bs} {Φ Φ' H : Hp} {ρ : List Addr} {s : S} {σ : L2.St}
theorem envN_set {env : Env} {i j : Nat} {o : Option (D × Bool)} {q : D × Bool} (h : (env.set i o)[j]? = some (some q)) : (i = j ∧ o = some q) ∨ (i ≠ j ∧ env[j]? = some (some q)) := by
  by_cases e : i = j
  · subst e
    by_cases hl : i < env.length
    · rw [List.getElem?_set_self hl] at h
      exact .inl ⟨rfl, Option.some.inj h⟩
    · rw [List.getElem?_eq_none (by rw [List.length_set]; omega)] at h
      cases h
  · rw [List.getElem?_set_ne e] at h
    exact .inr ⟨e, h⟩
/-- a slot is forgotten -/
theorem Rel.drop (r : Rel K b Φ ρ s σ H) (i : Nat) : Rel K b Φ ρ { s with env := s.env.set i none } σ H := by
  refine ⟨r.mem, r.low, r.ext, by rw [List.length_set]; exact r.len, fun j d fr e => ?_, fun j k d d' v e1 e2 e3 e4 => ?_, r.keep, r.new, r.newF⟩
  · rcases envN_set e with ⟨_, e⟩ | ⟨_, e⟩
    · cases e
    · exact r.env j d fr e
  · rcases envN_set e1 with ⟨_, e1⟩ | ⟨_, e1⟩
    · cases e1
    · rcases envN_set e2 with ⟨_, e2⟩ | ⟨_, e2⟩
      · cases e2
      · exact r.inj j k d d' v e1 e2 e3 e4
/-- a slot is known to bear d -/
theorem Rel.know (r : Rel K b Φ ρ s σ H) {i : Nat} {d : D} {v : V} (hσ : σ[i]? = some (some v)) (q : Rep K Φ ρ d v) : Rel K b Φ ρ (setSlot s i (d, false)) σ H := by
  refine ⟨r.mem, r.low, r.ext, ?_, fun j d' fr e => ?_, fun j k d1 d2 w e1 e2 e3 e4 => ?_, r.keep, r.new, r.newF⟩
  · show (s.env.set i _).length = _
    rw [List.length_set]; exact r.len
  · rcases envN_set e with ⟨rfl, e1⟩ | ⟨_, e1⟩
    · cases e1; exact ⟨v, hσ, q⟩
    · exact r.env j d' fr e1
  · rcases envN_set e1 with ⟨_, e1⟩ | ⟨_, e1⟩
    · cases e1
    · rcases envN_set e2 with ⟨_, e2⟩ | ⟨_, e2⟩
      · cases e2
      · exact r.inj j k d1 d2 w e1 e2 e3 e4
theorem Rel.leak (r : Rel K b Φ ρ s σ H) {i : Nat} {d : D} {v : V} (hs : s.env[i]? = some (some (d, true))) (hσ : σ[i]? = some (some v)) :
    ∃ Φ', Same Φ Φ' ∧ Rel K b Φ' ρ (setSlot s i (d, false)) σ H ∧ Rep K Φ' ρ d v := by
  obtain ⟨w, hw, q⟩ := r.env i d true hs
  rw [hσ] at hw; cases hw
  have no : NoOwn { s with env := s.env.set i none } σ v := fun j d' e z => by
    rcases envN_set e with ⟨_, e⟩ | ⟨ne, e⟩
    · cases e
    · exact ne (r.inj i j d d' v hs e hσ z)
  obtain ⟨Φ', h1, r1, q1⟩ := (r.drop i).freeze q no
  have r2 := r1.know hσ q1
  have e : setSlot { s with env := s.env.set i none } i (d, false) = setSlot s i (d, false) := by
    unfold setSlot
    simp only [List.set_set]
  rw [e] at r2
  exact ⟨Φ', h1, r2, q1⟩
end

/-! ### one construct each -/
section
variable {X : Cx} {b : Bs} {W : WX} {pos : Pos}
theorem snd_c {d : D} {k : Const} {n : Nat} (h : sameConst d k = true) : PE X (.Constant k n pos) (tE X.kw b W fun s => .ok (d, false) s) := by
  have use : ∀ v, (∀ Φ ρ, Rep X.kw Φ ρ d v) → PE X (.Constant k n pos) (tC v) → PE X (.Constant k n pos) (tE X.kw b W fun s => .ok (d, false) s) := fun v hv hp =>
    hp.imp fun σ H Q ⟨Φ, ρ, s, r, w⟩ => cont_rep w r (hv _ _)
  cases d <;> cases k <;> first | cases h | skip
  · exact use .non (fun _ _ => rfl) pe_non
  · rename_i x y
    have e : x = y := eq_of_beq h
    subst e
    exact use (.bl x) (fun _ _ => rfl) pe_bl
  · rename_i x y
    have e : x = y := of_decide_eq_true h
    subst e
    exact use (.int x) (fun _ _ => rfl) pe_int
  · rename_i x y
    have e : x = y := of_decide_eq_true h
    subst e
    exact use (.str x) (fun _ _ => rfl) pe_str
theorem var_ok {sc : Scope} {N : List Str} {i : Nat} {x : Str} (hn : X.N = N) (hs : X.env.scope = sc) (h : nmB sc N i x = true) : PE X (.Name x pos) (tVar i) := by
  unfold nmB at h
  simp only [Bool.and_eq_true, decide_eq_true_eq, Bool.not_eq_true'] at h
  obtain ⟨⟨⟨h1, h2⟩, h3⟩, h4⟩ := h
  refine pe_var (by rw [hn]; exact h1) ?_ h3 h4
  unfold vB at h2
  rw [← hs] at h2
  split at h2
  · rename_i e; exact .inl e
  · rename_i e; exact .inr (.inl e)
  · rename_i e; exact .inr (.inr e)
  · cases h2
theorem snd_v {sc : Scope} {N : List Str} {i : Nat} {x : Str} (hn : X.N = N) (hs : X.env.scope = sc) (h : nmB sc N i x = true) : PE X (.Name x pos) (tE X.kw b W fun s => readV s i) := by
  refine (var_ok hn hs h).imp fun σ H Q ⟨Φ, ρ, s, r, w⟩ => ?_
  have w : (readV s i).wp _ _ := w
  unfold readV at w
  cases hs : slot s i with
  | none => rw [hs] at w; exact w.elim
  | some p =>
    obtain ⟨d, fr⟩ := p
    rw [hs] at w
    obtain ⟨v, hv, q⟩ := r.env i d fr (slot_env hs)
    refine ⟨v, hv, ?_⟩
    cases fr with
    | false => exact cont_rep w r q
    | true =>
      obtain ⟨Φ', h1, r1, q1⟩ := r.leak (slot_env hs) hv
      exact w Φ' ρ H v h1 (List.prefix_refl _) r1 q1
theorem snd_tup {es : List Expr} {n : Nat} {f : S → R (List D)} (h : PA X es (tA X.kw b W f)) : PE X (.Tuple es n pos) (tE X.kw b W fun s => (f s).bind fun ds s => if ds.length ≤ sizeLine then .ok (.tup ds, false) s else .no) := by
  refine (pe_tup h).imp fun σ H Q ⟨Φ, ρ, s, r, w⟩ => ?_
  refine tA_mono (tA_bind r w) fun vs H1 ⟨Φ2, ρ2, s2, ds2, k1, k2, r2, rs2, w2⟩ => ?_
  by_cases hz : ds2.length ≤ sizeLine
  · rw [if_pos hz] at w2
    exact ⟨by rw [reps_len rs2]; exact hz, fun p hp => cont_tup (cont_mono k1 k2 w2) r2 rs2 hp⟩
  · rw [if_neg hz] at w2
    exact w2.elim
theorem snd_lst {es : List Expr} {f : S → R (List D)} (h : PA X es (tA X.kw b W f)) : PE X (.List es pos) (tE X.kw b W fun s => (f s).bind fun ds s => if ds.length ≤ sizeLine then .ok (.lst ds, true) s else .no) := by
  refine (pe_lst h).imp fun σ H Q ⟨Φ, ρ, s, r, w⟩ => ?_
  refine tA_mono (tA_bind r w) fun vs H1 ⟨Φ2, ρ2, s2, ds2, k1, k2, r2, rs2, w2⟩ => ?_
  by_cases hz : ds2.length ≤ sizeLine
  · rw [if_pos hz] at w2
    exact ⟨by rw [reps_len rs2]; exact hz, fun p hp => cont_lst (cont_mono k1 k2 w2) r2 rs2 hp⟩
  · rw [if_neg hz] at w2
    exact w2.elim
section
variable {a c : E} {x y z : Expr} {fa fb fc : S → R (D × Bool)}
theorem two_ok {g : D → D → Option (D × Bool)} {σ : L2.St} {H : Hp} {Q : VK} (h : tE X.kw b W (fun s => (opO a (fa s) s).bind fun x s => (opO c (fc s) s).bind fun y s => liftO s ((seeE s a x).bind fun x => (seeE s c y).bind fun y => g x y)) σ H Q) :
    tOp (rB X.kw g) (tO X.kw b W a fun s => opO a (fa s) s) (tO X.kw b W c fun s => opO c (fc s) s) σ H Q := by
  obtain ⟨Φ, ρ, s, r, w⟩ := h
  refine tO_mono (tO_bind (e := a) (f := fun s => opO a (fa s) s) r w) fun v1 H1 ⟨Φ2, ρ2, s2, d2, k1, k2, r2, o2, w2⟩ => ?_
  refine tO_mono (tO_bind (e := c) (f := fun s => opO c (fc s) s) r2 w2) fun v2 H2 ⟨Φ5, ρ5, s5, d5, k5, k6, r5, o5, w5⟩ => ?_
  obtain ⟨p, e1, w6⟩ := wp_liftO w5
  obtain ⟨vx, e2, e3⟩ := obind e1
  obtain ⟨vy, e4, e5⟩ := obind e3
  exact ⟨b, Φ5, ρ5, s5, σ, vx, vy, p, r5, see_view r5 (opR_mono k5 k6 o2) e2, see_view r5 o5 e4, e5, cont_mono (k1.trans k5) (k2.trans k6) w6⟩
theorem snd_bin {op : Op2} {o : Operator} (hu : X.A.units + 210 < cLine) (ho : opB op o = true)
    (ha : PE X x (tO X.kw b W a fun s => opO a (fa s) s)) (hc : PE X y (tO X.kw b W c fun s => opO c (fc s) s)) :
    PE X (.BinOp x o y pos) (tE X.kw b W fun s => (opO a (fa s) s).bind fun x s => (opO c (fc s) s).bind fun y s => liftO s ((seeE s a x).bind fun x => (seeE s c y).bind fun y => opBin op x y)) := by
  have e : o = opM op := by cases op <;> cases o <;> first | rfl | cases ho
  subst e
  exact (pe_op (op2_ok (by omega) op) ha hc).imp fun σ H Q h => two_ok h
theorem plain_nomark (op : CmpOp) {y : Expr} (h : plainX y = true) : behindInMarks op y = false := by
  cases y <;> first | rfl | cases h
theorem snd_cmp {op : Cm} {o : CmpOp} (hu : X.A.units + 210 < cLine) (ho : cmB op o = true) (hp : plainX y = true)
    (ha : PE X x (tO X.kw b W a fun s => opO a (fa s) s)) (hc : PE X y (tO X.kw b W c fun s => opO c (fc s) s)) :
    PE X (.Compare x [o] [y] pos) (tE X.kw b W fun s => (opO a (fa s) s).bind fun x s => (opO c (fc s) s).bind fun y s => liftO s ((seeE s a x).bind fun x => (seeE s c y).bind fun y => (opCmp op x y).map fun k => (.bl k, false))) ∧
    PT X (.Compare x [o] [y] pos) (tT X.kw b W fun s => toB ((opO a (fa s) s).bind fun x s => (opO c (fc s) s).bind fun y s => liftO s ((seeE s a x).bind fun x => (seeE s c y).bind fun y => (opCmp op x y).map fun k => (.bl k, false)))) := by
  have e : o = cmM op := by cases op <;> cases o <;> first | rfl | cases ho
  subst e
  refine ⟨(pe_cmpR (cmp_ok (by omega) op) ha hc (plain_nomark _ hp)).imp fun σ H Q h => two_ok (g := bo (opCmp op)) h, ?_⟩
  refine (pt_cmpR (cmp_ok (by omega) op) ha hc (plain_nomark _ hp)).imp fun σ H Q ⟨Φ, ρ, s, r, w⟩ => ?_
  refine two_ok (g := bo (opCmp op)) (b := b) ⟨Φ, ρ, s, r, wp_mono (wp_bind.mp w) (fun p s1 q Φ1 ρ1 H1 v g1 g2 r1 rr => ?_) fun _ _ _ z => z⟩
  obtain ⟨d, fr⟩ := p
  cases d with
  | bl k =>
    cases fr with
    | true => exact False.elim rr.1
    | false => exact ⟨k, rr, q Φ1 ρ1 H1 g1 g2 r1⟩
  | _ => exact q.elim
theorem snd_neg (ha : PE X x (tE X.kw b W fa)) : PE X (.UnaryOp .USub x pos) (tE X.kw b W fun s => (fa s).bind fun x s => match x.1 with
    | .int i => .ok (.int (-i), false) s
    | _ => .no) := by
  refine (pe_un un_neg ha).imp fun σ H Q ⟨Φ, ρ, s, r, w⟩ => ?_
  refine tE_mono (tE_bind r w) fun v H1 ⟨Φ2, ρ2, s2, p, k1, k2, r2, rr, w2⟩ => ?_
  obtain ⟨d, fr⟩ := p
  cases d with
  | int i =>
    cases fr with
    | true => exact False.elim rr.1
    | false => exact ⟨i, rr, cont_rep (cont_mono k1 k2 w2) r2 rfl⟩
  | _ => exact w2.elim
theorem bool_of {K : KW} {Φ H : Hp} {ρ : List Addr} {s : S} {σ : L2.St} {p : D × Bool} {v : V} {k : Bool} (rr : RRep K b Φ ρ s σ H p v) (e : p.1 = .bl k) : v = .bl k := by
  obtain ⟨d, fr⟩ := p
  cases e
  cases fr with
  | true => exact False.elim rr.1
  | false => exact rr
theorem toB_of {α : Type} {m : R (D × Bool)} {g : Bool → S → R α} : (toB m).bind g = m.bind fun p s => match p.1 with
    | .bl k => g k s
    | _ => .no := by
  cases m with
  | ok p s =>
    obtain ⟨d, fr⟩ := p
    cases d <;> rfl
  | exc c fs s => rfl
  | no => rfl
theorem snd_not (ha : PE X x (tE X.kw b W fa)) (ht : PT X x (tT X.kw b W fun s => toB (fa s))) : PE X (.UnaryOp .Not x pos) (tE X.kw b W fun s => (toB (fa s)).bind fun k s => .ok (.bl (!k), false) s) ∧
    PT X (.UnaryOp .Not x pos) (tT X.kw b W fun s => toB ((toB (fa s)).bind fun k s => .ok (.bl (!k), false) s)) := by
  constructor
  · refine (pe_not ha).imp fun σ H Q ⟨Φ, ρ, s, r, w⟩ => ?_
    have w : ((toB (fa s)).bind fun k s => R.ok (D.bl (!k), false) s).wp _ _ := w
    rw [toB_of] at w
    refine tE_mono (tE_bind r w) fun v H1 ⟨Φ2, ρ2, s2, p, k1, k2, r2, rr, w2⟩ => ?_
    obtain ⟨d, fr⟩ := p
    cases d with
    | bl k => exact ⟨k, bool_of rr rfl, cont_rep (cont_mono k1 k2 w2) r2 rfl⟩
    | _ => exact w2.elim
  · refine (pt_not ht).imp fun σ H Q ⟨Φ, ρ, s, r, w⟩ => ?_
    have e : toB ((toB (fa s)).bind fun k s => R.ok (D.bl (!k), false) s) = (toB (fa s)).bind fun k s => R.ok (!k) s := by
      cases toB (fa s) <;> rfl
    have w : (toB ((toB (fa s)).bind fun k s => R.ok (D.bl (!k), false) s)).wp _ _ := w
    rw [e] at w
    refine tT_mono (tT_bind (f := fun s => toB (fa s)) r w) fun k H1 ⟨Φ2, ρ2, s2, k1, k2, r2, w2⟩ => ?_
    exact w2 Φ2 ρ2 H1 k1 k2 r2
end
end
end Ly
set_option Elab.async false
set_option linter.all false
set_option maxRecDepth 100000
set_option maxHeartbeats 2000000
/-! Ly7: more expressions. -/
namespace Ly
open PySem PySem.Spec PyProof.Rows L2
section
variable {X : Cx} {b : Bs} {W : WX} {pos : Pos} {a c : E} {x y z : Expr} {rest : List Expr} {fa fb fc : S → R (D × Bool)}
def fAnd (fa fb : S → R (D × Bool)) : S → R (D × Bool) := fun s => (toB (fa s)).bind fun k s => if k then fb s else .ok (.bl false, false) s
def fOr (fa fb : S → R (D × Bool)) : S → R (D × Bool) := fun s => (toB (fa s)).bind fun k s => if k then .ok (.bl true, false) s else fb s
theorem toB_and {s : S} : toB (fAnd fa fb s) = (toB (fa s)).bind fun k s => if k then toB (fb s) else .ok false s := by
  unfold fAnd
  cases toB (fa s) with
  | ok k s => cases k <;> rfl
  | exc c fs s => rfl
  | no => rfl
theorem toB_or {s : S} : toB (fOr fa fb s) = (toB (fa s)).bind fun k s => if k then .ok true s else toB (fb s) := by
  unfold fOr
  cases toB (fa s) with
  | ok k s => cases k <;> rfl
  | exc c fs s => rfl
  | no => rfl
theorem pw_of {op : BoolOp} {es : List Expr} {t : TT} (h : PT X (.BoolOp op es pos) t) : PW X (.BoolOp op es pos) t := ⟨fun whole pins s σ H Q I q => h.run pins s σ H Q I q⟩
theorem snd_and (ha : PE X x (tE X.kw b W fa)) (hb : PE X (.BoolOp .And (y :: rest) pos) (tE X.kw b W fb)) : PE X (.BoolOp .And (x :: y :: rest) pos) (tE X.kw b W (fAnd fa fb)) := by
  refine (pe_and ha hb).imp fun σ H Q ⟨Φ, ρ, s, r, w⟩ => ?_
  have w : ((toB (fa s)).bind fun k s => if k then fb s else R.ok (D.bl false, false) s).wp _ _ := w
  rw [toB_of] at w
  refine tE_mono (tE_bind r w) fun v H1 ⟨Φ2, ρ2, s2, p, k1, k2, r2, rr, w2⟩ => ?_
  obtain ⟨d, fr⟩ := p
  cases d with
  | bl k =>
    refine ⟨k, bool_of rr rfl, ?_⟩
    cases k with
    | true => exact ⟨Φ2, ρ2, s2, r2, wp_mono w2 (fun _ _ q => cont_mono k1 k2 q) fun _ _ _ z => z⟩
    | false => exact cont_rep (cont_mono k1 k2 w2) r2 rfl
  | _ => exact w2.elim
theorem snd_or (ha : PE X x (tE X.kw b W fa)) (hb : PE X (.BoolOp .Or (y :: rest) pos) (tE X.kw b W fb)) : PE X (.BoolOp .Or (x :: y :: rest) pos) (tE X.kw b W (fOr fa fb)) := by
  refine (pe_or ha hb).imp fun σ H Q ⟨Φ, ρ, s, r, w⟩ => ?_
  have w : ((toB (fa s)).bind fun k s => if k then R.ok (D.bl true, false) s else fb s).wp _ _ := w
  rw [toB_of] at w
  refine tE_mono (tE_bind r w) fun v H1 ⟨Φ2, ρ2, s2, p, k1, k2, r2, rr, w2⟩ => ?_
  obtain ⟨d, fr⟩ := p
  cases d with
  | bl k =>
    refine ⟨k, bool_of rr rfl, ?_⟩
    cases k with
    | true => exact cont_rep (cont_mono k1 k2 w2) r2 rfl
    | false => exact ⟨Φ2, ρ2, s2, r2, wp_mono w2 (fun _ _ q => cont_mono k1 k2 q) fun _ _ _ z => z⟩
  | _ => exact w2.elim
theorem snd_andT (ha : PT X x (tT X.kw b W fun s => toB (fa s))) (hb : PT X (.BoolOp .And (y :: rest) pos) (tT X.kw b W fun s => toB (fb s))) : PT X (.BoolOp .And (x :: y :: rest) pos) (tT X.kw b W fun s => toB (fAnd fa fb s)) := by
  refine (PW.pt (pw_and ha (pw_of hb))).imp fun σ H Q ⟨Φ, ρ, s, r, w⟩ => ?_
  have w : (toB (fAnd fa fb s)).wp _ _ := w
  rw [toB_and] at w
  refine tT_mono (tT_bind (f := fun s => toB (fa s)) r w) fun k H1 ⟨Φ2, ρ2, s2, k1, k2, r2, w2⟩ => ?_
  cases k with
  | true => exact ⟨Φ2, ρ2, s2, r2, wp_mono w2 (fun _ _ q Φ3 ρ3 H3 g1 g2 r3 => q Φ3 ρ3 H3 (k1.trans g1) (k2.trans g2) r3) fun _ _ _ z => z⟩
  | false => exact w2 Φ2 ρ2 H1 k1 k2 r2
theorem snd_orT (ha : PT X x (tT X.kw b W fun s => toB (fa s))) (hb : PT X (.BoolOp .Or (y :: rest) pos) (tT X.kw b W fun s => toB (fb s))) : PT X (.BoolOp .Or (x :: y :: rest) pos) (tT X.kw b W fun s => toB (fOr fa fb s)) := by
  refine (PW.pt (pw_or ha (pw_of hb))).imp fun σ H Q ⟨Φ, ρ, s, r, w⟩ => ?_
  have w : (toB (fOr fa fb s)).wp _ _ := w
  rw [toB_or] at w
  refine tT_mono (tT_bind (f := fun s => toB (fa s)) r w) fun k H1 ⟨Φ2, ρ2, s2, k1, k2, r2, w2⟩ => ?_
  cases k with
  | false => exact ⟨Φ2, ρ2, s2, r2, wp_mono w2 (fun _ _ q Φ3 ρ3 H3 g1 g2 r3 => q Φ3 ρ3 H3 (k1.trans g1) (k2.trans g2) r3) fun _ _ _ z => z⟩
  | true => exact w2 Φ2 ρ2 H1 k1 k2 r2
def fIf (fc fa fb : S → R (D × Bool)) : S → R (D × Bool) := fun s => (toB (fc s)).bind fun k s => if k then fa s else fb s
theorem snd_if (hc : PT X z (tT X.kw b W fun s => toB (fc s))) (ha : PE X x (tE X.kw b W fa)) (hb : PE X y (tE X.kw b W fb)) : PE X (.IfExp z x y pos) (tE X.kw b W (fIf fc fa fb)) := by
  refine (pe_ifExp hc ha hb).imp fun σ H Q ⟨Φ, ρ, s, r, w⟩ => ?_
  refine tT_mono (tT_bind (f := fun s => toB (fc s)) r w) fun k H1 ⟨Φ2, ρ2, s2, k1, k2, r2, w2⟩ => ?_
  cases k with
  | true => exact ⟨Φ2, ρ2, s2, r2, wp_mono w2 (fun _ _ q => cont_mono k1 k2 q) fun _ _ _ z => z⟩
  | false => exact ⟨Φ2, ρ2, s2, r2, wp_mono w2 (fun _ _ q => cont_mono k1 k2 q) fun _ _ _ z => z⟩
theorem pt_ifExp {tc ta tb : TT} (hc : PT X z tc) (ha : PT X x ta) (hb : PT X y tb) : PT X (.IfExp z x y pos) (fun σ H Q => tc σ H fun k H1 => if k = true then ta σ H1 Q else tb σ H1 Q) := by
  refine ⟨fun pins s σ H Q I h => ?_⟩
  show wpAny _ _ (do if ← isTrue z X.env (eval z X.env) then isTrue x X.env (eval x X.env) else isTrue y X.env (eval y X.env)) _ _ s
  refine wpAny_bind (thn (hc.run pins s σ H _ I h) fun d s1 ⟨H1, I1, q1⟩ => ?_)
  cases d with
  | true => exact ha.run pins s1 σ H1 Q I1 q1
  | false => exact hb.run pins s1 σ H1 Q I1 q1
theorem snd_ifT (hc : PT X z (tT X.kw b W fun s => toB (fc s))) (ha : PT X x (tT X.kw b W fun s => toB (fa s))) (hb : PT X y (tT X.kw b W fun s => toB (fb s))) : PT X (.IfExp z x y pos) (tT X.kw b W fun s => toB (fIf fc fa fb s)) := by
  refine (pt_ifExp hc ha hb).imp fun σ H Q ⟨Φ, ρ, s, r, w⟩ => ?_
  have e : toB (fIf fc fa fb s) = (toB (fc s)).bind fun k s => if k then toB (fa s) else toB (fb s) := by
    unfold fIf
    cases toB (fc s) with
    | ok k s => cases k <;> rfl
    | exc c fs s => rfl
    | no => rfl
  have w : (toB (fIf fc fa fb s)).wp _ _ := w
  rw [e] at w
  refine tT_mono (tT_bind (f := fun s => toB (fc s)) r w) fun k H1 ⟨Φ2, ρ2, s2, k1, k2, r2, w2⟩ => ?_
  cases k with
  | true => exact ⟨Φ2, ρ2, s2, r2, wp_mono w2 (fun _ _ q Φ3 ρ3 H3 g1 g2 r3 => q Φ3 ρ3 H3 (k1.trans g1) (k2.trans g2) r3) fun _ _ _ z => z⟩
  | false => exact ⟨Φ2, ρ2, s2, r2, wp_mono w2 (fun _ _ q Φ3 ρ3 H3 g1 g2 r3 => q Φ3 ρ3 H3 (k1.trans g1) (k2.trans g2) r3) fun _ _ _ z => z⟩
/-- a test whose value is a truth: what a reading as a value tells -/
theorem tTest_of {t : TE} {f : S → R (D × Bool)} {σ : L2.St} {H : Hp} {Q : Bool → Hp → Prop} (ht : ∀ Q', tE X.kw b W f σ H Q' → t σ H Q') (h : tT X.kw b W (fun s => toB (f s)) σ H Q) : t σ H fun v H1 => ∃ k, v = .bl k ∧ Q k H1 := by
  obtain ⟨Φ, ρ, s, r, w⟩ := h
  refine ht _ ⟨Φ, ρ, s, r, wp_mono (wp_bind.mp w) (fun p s1 q Φ1 ρ1 H1 v g1 g2 r1 rr => ?_) fun _ _ _ z => z⟩
  obtain ⟨d, fr⟩ := p
  cases d with
  | bl k => exact ⟨k, bool_of rr rfl, q Φ1 ρ1 H1 g1 g2 r1⟩
  | _ => exact q.elim
def fChn (op op' : Cm) (fa fb fc : S → R (D × Bool)) : S → R (D × Bool) := fun s => (fa s).bind fun x s => (fb s).bind fun y s => (liftO s (opCmp op x.1 y.1)).bind fun k s =>
      if k then (fc s).bind fun z s => liftO s ((opCmp op' y.1 z.1).map fun k => (.bl k, false)) else .ok (.bl false, false) s
theorem snd_chn {op op' : Cm} {o o' : CmpOp} (hu : X.A.units + 210 < cLine) (ho : cmB op o = true) (ho' : cmB op' o' = true) (hp : plainX z = true)
    (ha : PE X x (tE X.kw b W fa)) (hb : PE X y (tE X.kw b W fb)) (hc : PE X z (tE X.kw b W fc)) :
    PE X (.Compare x [o, o'] [y, z] pos) (tE X.kw b W (fChn op op' fa fb fc)) ∧ PT X (.Compare x [o, o'] [y, z] pos) (tT X.kw b W fun s => toB (fChn op op' fa fb fc s)) := by
  have e : o = cmM op := by cases op <;> cases o <;> first | rfl | cases ho
  have e' : o' = cmM op' := by cases op' <;> cases o' <;> first | rfl | cases ho'
  subst e e'
  have hm : lastMarks [cmM op, cmM op'] [y, z] = false := plain_nomark (cmM op') hp
  have rd : ∀ σ H Q, tE X.kw b W (fChn op op' fa fb fc) σ H Q → tChain (rB X.kw (bo (opCmp op))) (rB X.kw (bo (opCmp op'))) (tE X.kw b W fa) (tE X.kw b W fb) (tE X.kw b W fc) σ H Q := fun σ H Q ⟨Φ, ρ, s, r, w⟩ => by
    refine tE_mono (tE_bind r w) fun v1 H1 ⟨Φ2, ρ2, s2, p2, k1, k2, r2, rr2, w2⟩ => ?_
    obtain ⟨Φ3, k3, r3, rp3⟩ := settle r2 rr2
    have w3 := wp_mono w2 (fun _ _ q => q) (fun _ _ _ z => zx_mono k3 (List.prefix_refl _) z)
    refine tE_mono (tE_bind r3 w3) fun v4 H4 ⟨Φ4, ρ4, s4, p4, g1, g2, r4, rr4, w4⟩ => ?_
    obtain ⟨Φ5, k5, r5, rp5⟩ := settle r4 rr4
    obtain ⟨k, e1, w5⟩ := wp_liftO (wp_bind.mp w4)
    have rp3' := rep_mono (g1.trans k5) g2 _ _ rp3
    refine ⟨b, Φ5, ρ4, s4, σ, p2.1, p4.1, (.bl k, false), r5, rep_view r5.sub rp3', rep_view r5.sub rp5, by show (opCmp op p2.1 p4.1).map _ = _; rw [e1]; rfl, fun Φ6 ρ6 H6 v6 h1 h2 r6 rr6 => ⟨k, rr6, ?_⟩⟩
    have k36 : Same Φ Φ6 := ((k1.trans k3).trans (g1.trans k5)).trans h1
    have p36 : ρ <+: ρ6 := (k2.trans g2).trans h2
    cases k with
    | false => exact cont_rep (cont_mono k36 p36 w5) r6 rfl
    | true =>
      have w6 := wp_mono w5 (fun _ _ q => q) (fun _ _ _ z => zx_mono (k5.trans h1) h2 z)
      refine tE_mono (tE_bind r6 w6) fun v7 H7 ⟨Φ7, ρ7, s7, p7, l1, l2, r7, rr7, w7⟩ => ?_
      obtain ⟨Φ8, l3, r8, rp8⟩ := settle r7 rr7
      obtain ⟨p, e2, w8⟩ := wp_liftO w7
      exact ⟨b, Φ8, ρ7, s7, σ, p4.1, p7.1, p, r8, rep_view r8.sub (rep_mono (h1.trans (l1.trans l3)) (h2.trans l2) _ _ rp5), rep_view r8.sub rp8, e2, cont_mono (k36.trans (l1.trans l3)) (p36.trans l2) w8⟩
  refine ⟨(pe_chain (cmp_ok (by omega) op) (cmp_ok (by omega) op') ha hb hc hm).imp rd, ?_⟩
  exact (pt_chain (cmp_ok (by omega) op) (cmp_ok (by omega) op') ha hb hc hm).imp fun σ H Q h => tTest_of (rd σ H) h
theorem plain_ix {y : Expr} (h : plainX y = true) : PlainIx y := by
  cases y <;> first | (intro o i; rfl) | cases h
def fIx (a : E) (fa fb : S → R (D × Bool)) : S → R (D × Bool) := fun s => (opO a (fa s) s).bind fun x s => (fb s).bind fun i s => liftO s ((seeE s a x).bind fun x => (opIx x i.1).map fun d => (d, false))
theorem snd_ix (hu : X.A.units + 210 < cLine) (hp : plainX y = true) (ha : PE X x (tO X.kw b W a fun s => opO a (fa s) s)) (hb : PE X y (tE X.kw b W fb)) : PE X (.Subscript x y pos) (tE X.kw b W (fIx a fa fb)) := by
  refine (pe_ix (ix_ok (by omega)) ha hb (plain_ix hp)).imp fun σ H Q ⟨Φ, ρ, s, r, w⟩ => ?_
  refine tO_mono (tO_bind (e := a) (f := fun s => opO a (fa s) s) r w) fun v1 H1 ⟨Φ2, ρ2, s2, d2, k1, k2, r2, o2, w2⟩ => ?_
  refine tE_mono (tE_bind r2 w2) fun v4 H4 ⟨Φ4, ρ4, s4, p4, g1, g2, r4, rr4, w4⟩ => ?_
  obtain ⟨Φ5, k5, r5, rp5⟩ := settle r4 rr4
  obtain ⟨p, e1, w6⟩ := wp_liftO w4
  obtain ⟨vx, e2, e3⟩ := obind e1
  exact ⟨b, Φ5, ρ4, s4, σ, vx, p4.1, p, r5, see_view r5 (opR_mono (g1.trans k5) g2 o2) e2, rep_view r5.sub rp5, e3, cont_mono (k1.trans (g1.trans k5)) (k2.trans g2) w6⟩
def fPt (e : E) (f : S → R (D × Bool)) : S → R (Option Int) := fun s => (f s).bind fun l s => liftO s (partI e l.1)
def fSl (a lo hi : E) (fa fl fh : S → R (D × Bool)) : S → R (D × Bool) := fun s => (opO a (fa s) s).bind fun x s => (fl s).bind fun l s => (liftO s (partI lo l.1)).bind fun l s =>
      (fh s).bind fun h s => (liftO s (partI hi h.1)).bind fun h s => liftO s ((seeE s a x).bind fun x => opSl x l h)
theorem R.assoc {α β γ : Type} (m : R α) (f : α → S → R β) (g : β → S → R γ) : (m.bind f).bind g = m.bind fun a s => (f a s).bind g := by cases m <;> rfl
theorem fSl_eq {lo hi : E} {fl fh : S → R (D × Bool)} {s : S} : fSl a lo hi fa fl fh s = (opO a (fa s) s).bind fun x s => (fPt lo fl s).bind fun l s => (fPt hi fh s).bind fun h s => liftO s ((seeE s a x).bind fun x => opSl x l h) := by
  unfold fSl fPt
  simp only [R.assoc]
/-- a part of a slice -/
def tP (X : Cx) (b : Bs) (W : WX) (f : S → R (Option Int)) : TO := fun σ H Q => ∃ Φ ρ s, Rel X.kw b Φ ρ s σ H ∧
  (f s).wp (fun o s' => ∀ Φ' ρ' H', Same Φ Φ' → ρ <+: ρ' → Rel X.kw b Φ' ρ' s' σ H' → Q o H') (ZX X.kw b W Φ ρ σ)
theorem po_some' {e : E} {f : S → R (D × Bool)} (hn : e ≠ .nil) (h : PE X x (tE X.kw b W f)) : PO X (some x) (tP X b W (fPt e f)) := by
  refine ⟨fun pins s σ H Q I q => (po_some h).run pins s σ H Q I ?_⟩
  obtain ⟨Φ, ρ, s0, r, w⟩ := q
  refine ⟨Φ, ρ, s0, r, wp_mono (wp_bind.mp w) (fun p s1 q1 Φ1 ρ1 H1 v g1 g2 r1 rr => ?_) fun _ _ _ z => z⟩
  obtain ⟨o, e1, q2⟩ := wp_liftO q1
  obtain ⟨d, fr⟩ := p
  have e2 : ∀ i, d = .int i → ∃ i, v = .int i ∧ Q (some i) H1 := fun i hd => by
    subst hd
    have e3 : o = some i := by
      cases e <;> first | exact absurd rfl hn | exact (Option.some.inj e1).symm
    subst e3
    cases fr with
    | true => exact False.elim rr.1
    | false => exact ⟨i, rr, q2 Φ1 ρ1 H1 g1 g2 r1⟩
  cases d with
  | int i => exact e2 i rfl
  | _ => cases e <;> first | exact absurd rfl hn | cases e1
theorem po_none' {f : S → R (D × Bool)} (hf : ∀ s, f s = .ok (.non, false) s) : PO X none (tP X b W (fPt .nil f)) := by
  refine ⟨fun pins s σ H Q I q => (po_none (X := X)).run pins s σ H Q I ?_⟩
  obtain ⟨Φ, ρ, s0, r, w⟩ := q
  unfold fPt at w
  rw [hf] at w
  exact w Φ ρ H (Same.refl _) (List.prefix_refl _) r
theorem tP_bind {α : Type} {f : S → R (Option Int)} {g : Option Int → S → R α} {W' : α → S → Prop} {Φ : Hp} {ρ : List Addr} {s : S} {σ : L2.St} {H : Hp} (r : Rel X.kw b Φ ρ s σ H) (h : ((f s).bind g).wp W' (ZX X.kw b W Φ ρ σ)) :
    tP X b W f σ H fun o H1 => ∃ Φ1 ρ1 s1, Same Φ Φ1 ∧ ρ <+: ρ1 ∧ Rel X.kw b Φ1 ρ1 s1 σ H1 ∧ (g o s1).wp W' (ZX X.kw b W Φ1 ρ1 σ) :=
  ⟨Φ, ρ, s, r, wp_mono (wp_bind.mp h) (fun p s1 q Φ1 ρ1 H1 h1 hp1 r1 => ⟨Φ1, ρ1, s1, h1, hp1, r1, wp_mono q (fun _ _ z => z) fun _ _ _ z => zx_mono h1 hp1 z⟩) fun _ _ _ z => z⟩
theorem tP_mono {f : S → R (Option Int)} {σ : L2.St} {H : Hp} {Q Q' : Option Int → Hp → Prop} (h : tP X b W f σ H Q) (i : ∀ v H, Q v H → Q' v H) : tP X b W f σ H Q' :=
  let ⟨Φ, ρ, s, r, w⟩ := h; ⟨Φ, ρ, s, r, wp_mono w (fun o _ q Φ1 ρ1 H1 g1 g2 r1 => i o H1 (q Φ1 ρ1 H1 g1 g2 r1)) fun _ _ _ z => z⟩
theorem snd_sl {lo hi : E} {l h : Option Expr} {fl fh : S → R (D × Bool)} {p2 : Pos} (ha : PE X x (tO X.kw b W a fun s => opO a (fa s) s)) (hl : PO X l (tP X b W (fPt lo fl))) (hh : PO X h (tP X b W (fPt hi fh))) :
    PE X (.Subscript x (.Slice l h none p2) pos) (tE X.kw b W (fSl a lo hi fa fl fh)) := by
  refine (pe_slice sl_ok ha hl hh).imp fun σ H Q ⟨Φ, ρ, s, r, w⟩ => ?_
  rw [fSl_eq] at w
  refine tO_mono (tO_bind (e := a) (f := fun s => opO a (fa s) s) r w) fun v1 H1 ⟨Φ2, ρ2, s2, d2, k1, k2, r2, o2, w2⟩ => ?_
  refine tP_mono (tP_bind r2 w2) fun ol H3 ⟨Φ3, ρ3, s3, k3, k4, r3, w3⟩ => ?_
  refine tP_mono (tP_bind r3 w3) fun oh H4 ⟨Φ4, ρ4, s4, k5, k6, r4, w4⟩ => ?_
  obtain ⟨p, e1, w6⟩ := wp_liftO w4
  obtain ⟨vx, e2, e3⟩ := obind e1
  exact ⟨b, Φ4, ρ4, s4, σ, vx, p, r4, see_view r4 (opR_mono (k3.trans k5) (k4.trans k6) o2) e2, e3, cont_mono (k1.trans (k3.trans k5)) (k2.trans (k4.trans k6)) w6⟩
/-! ### lists of arguments -/
theorem plain_star {e : Expr} {es : List Expr} (h : plainX e = true) : starEach (e :: es) X.env = (false, eval e X.env) :: starEach es X.env := by
  cases e <;> first | rfl | cases h
theorem plain_stars {p : Pos} : ∀ {es : List Expr}, es.all plainX = true → (backTo p (starEach es X.env)).any (·.1) = false
  | [], _ => rfl
  | e :: es, h => by
    obtain ⟨h1, h2⟩ := Bool.and_eq_true_iff.mp (show (plainX e && es.all plainX) = true from h)
    rw [plain_star h1]
    show (false || (backTo p (starEach es X.env)).any (·.1)) = false
    rw [plain_stars h2]
    rfl
def fNil : S → R (List D) := fun s => .ok [] s
def fCons (f : S → R (D × Bool)) (g : S → R (List D)) : S → R (List D) := fun s => (f s).bind fun p s => (g s).bind fun ds s => .ok (p.1 :: ds) s
theorem snd_anil : PA X [] (tA X.kw b W fNil) := pa_nil.imp fun σ H Q ⟨Φ, ρ, s, r, w⟩ => w Φ ρ H [] (Same.refl _) (List.prefix_refl _) r rfl
theorem snd_acons {es : List Expr} {g : S → R (List D)} (hp : plainX x = true) (ha : PE X x (tE X.kw b W fa)) (hr : PA X es (tA X.kw b W g)) : PA X (x :: es) (tA X.kw b W (fCons fa g)) := by
  refine (pa_cons ha hr (plain_star hp)).imp fun σ H Q ⟨Φ, ρ, s, r, w⟩ => ?_
  refine tE_mono (tE_bind r w) fun v1 H1 ⟨Φ2, ρ2, s2, p2, k1, k2, r2, rr2, w2⟩ => ?_
  obtain ⟨Φ3, k3, r3, rp3⟩ := settle r2 rr2
  have w3 := wp_mono w2 (fun _ _ q => q) (fun _ _ _ z => zx_mono k3 (List.prefix_refl _) z)
  refine tA_mono (tA_bind r3 w3) fun vs H4 ⟨Φ4, ρ4, s4, ds, g1, g2, r4, rs, w4⟩ => ?_
  exact w4 Φ4 ρ4 H4 (v1 :: vs) ((k1.trans k3).trans g1) (k2.trans g2) r4 (reps_cons (rep_mono g1 g2 _ _ rp3) rs)
/-- a call's values -/
def fConsA (sh : List Nat) (j : Nat) (f : S → R (D × Bool)) (g : S → R (List D)) : S → R (List D) := fun s => (f s).bind fun p s => (argIn sh j p s).bind fun d s => (g s).bind fun ds s => .ok (d :: ds) s
theorem arg_ok {K : KW} {Φ H : Hp} {ρ : List Addr} {s : S} {σ : L2.St} {sh : List Nat} {j : Nat} {p : D × Bool} {v : V} {W' : D → S → Prop} {Z : Str → List D → S → Prop} (r : Rel K b Φ ρ s σ H) (rr : RRep K b Φ ρ s σ H p v) (w : (argIn sh j p s).wp W' Z) :
    ∃ Φ' ρ' d s', Same Φ Φ' ∧ ρ <+: ρ' ∧ Rel K b Φ' ρ' s' σ H ∧ Rep K Φ' ρ' d v ∧ W' d s' := by
  unfold argIn at w
  by_cases hc : (p.2 && sh.contains j) = true
  · rw [if_pos hc] at w
    have hp : p.2 = true := (Bool.and_eq_true_iff.mp hc).1
    unfold RRep at rr
    rw [if_pos hp] at rr
    cases ha : alloc s.mem p.1 with
    | none => rw [ha] at w; exact w.elim
    | some q =>
      obtain ⟨rf, m⟩ := q
      rw [ha] at w
      obtain ⟨ρ', h1, h2, h3⟩ := r.alloc rr.1 rr.2 ha
      exact ⟨Φ, ρ', rf, _, Same.refl _, h1, h2, h3, w⟩
  · rw [if_neg hc] at w
    obtain ⟨Φ', h1, h2, h3⟩ := settle r rr
    exact ⟨Φ', ρ, p.1, s, h1, List.prefix_refl _, h2, h3, w⟩
theorem snd_aconsA {sh : List Nat} {j : Nat} {es : List Expr} {g : S → R (List D)} (hp : plainX x = true) (ha : PE X x (tE X.kw b W fa)) (hr : PA X es (tA X.kw b W g)) : PA X (x :: es) (tA X.kw b W (fConsA sh j fa g)) := by
  refine (pa_cons ha hr (plain_star hp)).imp fun σ H Q ⟨Φ, ρ, s, r, w⟩ => ?_
  refine tE_mono (tE_bind r w) fun v1 H1 ⟨Φ2, ρ2, s2, p2, k1, k2, r2, rr2, w2⟩ => ?_
  obtain ⟨Φ3, ρ3, d3, s3, k3, k4, r3, rp3, w3⟩ := arg_ok r2 rr2 (wp_bind.mp w2)
  have w3 := wp_mono w3 (fun _ _ q => q) (fun _ _ _ z => zx_mono k3 k4 z)
  refine tA_mono (tA_bind r3 w3) fun vs H4 ⟨Φ4, ρ4, s4, ds, g1, g2, r4, rs, w4⟩ => ?_
  exact w4 Φ4 ρ4 H4 (v1 :: vs) ((k1.trans k3).trans g1) ((k2.trans k4).trans g2) r4 (reps_cons (rep_mono g1 g2 _ _ rp3) rs)
end
end Ly
set_option Elab.async false
set_option linter.all false
set_option maxRecDepth 100000
set_option maxHeartbeats 2000000
/-! Ly8: calls, methods. -/
namespace Ly
open PySem PySem.Spec PyProof.Rows L2
section
variable {X : Cx} {b : Bs} {W : WX} {pos : Pos} {a c : E} {x y z : Expr} {xs : List Expr} {fa fb fc : S → R (D × Bool)}
/-! ### operands -/
def OpRs (K : KW) (Φ : Hp) (ρ : List Addr) (σ : L2.St) : List E → List D → List V → Prop
  | [], [], vs => vs = []
  | e :: es, d :: ds, vs => ∃ v ws, vs = v :: ws ∧ OpR' K Φ ρ σ e d v ∧ OpRs K Φ ρ σ es ds ws
  | _, _, _ => False
def tOs (K : KW) (b : Bs) (W : WX) (es : List E) (f : S → R (List D)) : TA := fun σ H Q => ∃ Φ ρ s, Rel K b Φ ρ s σ H ∧ (f s).wp (fun ds s' => ∀ Φ' ρ' H' vs, Same Φ Φ' → ρ <+: ρ' → Rel K b Φ' ρ' s' σ H' → OpRs K Φ' ρ' σ es ds vs → Q vs H') (ZX K b W Φ ρ σ)
theorem opRs_mono {K : KW} {Φ Φ' : Hp} {ρ ρ' : List Addr} {σ : L2.St} (h : Same Φ Φ') (hp : ρ <+: ρ') : ∀ {es : List E} {ds : List D} {vs : List V}, OpRs K Φ ρ σ es ds vs → OpRs K Φ' ρ' σ es ds vs
  | [], [], _, r => r
  | e :: es, d :: ds, _, ⟨v, ws, q, r, rs⟩ => ⟨v, ws, q, opR_mono h hp r, opRs_mono h hp rs⟩
  | [], _ :: _, _, r => r.elim
  | _ :: _, [], _, r => r.elim
theorem see_views {K : KW} {Φ H : Hp} {ρ : List Addr} {s : S} {σ : L2.St} (r : Rel K b Φ ρ s σ H) : ∀ {es : List E} {ds ds' : List D} {vs : List V}, OpRs K Φ ρ σ es ds vs → seeEs s es ds = some ds' → Views K Φ ρ H ds' vs
  | [], [], _, _, o, h => by cases h; exact o
  | e :: es, d :: ds, _, _, ⟨v, ws, q, o, os⟩, h => by
    obtain ⟨d', h1, h2⟩ := obind h
    obtain ⟨ds', h3, h4⟩ := omap h2
    subst h4 q
    exact ⟨v, ws, rfl, see_view r o h1, see_views r os h3⟩
  | [], _ :: _, _, _, o, _ => o.elim
  | _ :: _, [], _, _, o, _ => o.elim
theorem tOs_mono {K : KW} {es : List E} {f : S → R (List D)} {σ : L2.St} {H : Hp} {Q Q' : List V → Hp → Prop} (h : tOs K b W es f σ H Q) (i : ∀ v H, Q v H → Q' v H) : tOs K b W es f σ H Q' :=
  let ⟨Φ, ρ, s, r, w⟩ := h; ⟨Φ, ρ, s, r, wp_mono w (fun _ _ q Φ1 ρ1 H1 v g1 g2 r1 rr => i v H1 (q Φ1 ρ1 H1 v g1 g2 r1 rr)) fun _ _ _ z => z⟩
theorem tOs_bind {K : KW} {α : Type} {es : List E} {f : S → R (List D)} {g : List D → S → R α} {W' : α → S → Prop} {Φ H : Hp} {ρ : List Addr} {s : S} {σ : L2.St} (r : Rel K b Φ ρ s σ H) (h : ((f s).bind g).wp W' (ZX K b W Φ ρ σ)) :
    tOs K b W es f σ H fun vs H1 => ∃ Φ1 ρ1 s1 ds, Same Φ Φ1 ∧ ρ <+: ρ1 ∧ Rel K b Φ1 ρ1 s1 σ H1 ∧ OpRs K Φ1 ρ1 σ es ds vs ∧ (g ds s1).wp W' (ZX K b W Φ1 ρ1 σ) :=
  ⟨Φ, ρ, s, r, wp_mono (wp_bind.mp h) (fun p s1 q Φ1 ρ1 H1 v h1 hp1 r1 rr => ⟨Φ1, ρ1, s1, p, h1, hp1, r1, rr, wp_mono q (fun _ _ z => z) fun _ _ _ z => zx_mono h1 hp1 z⟩) fun _ _ _ z => z⟩
def fConsO (e : E) (f : S → R (D × Bool)) (g : S → R (List D)) : S → R (List D) := fun s => (opO e (f s) s).bind fun d s => (g s).bind fun ds s => .ok (d :: ds) s
theorem snd_onil : PA X [] (tOs X.kw b W [] fNil) := pa_nil.imp fun σ H Q ⟨Φ, ρ, s, r, w⟩ => w Φ ρ H [] (Same.refl _) (List.prefix_refl _) r rfl
theorem snd_ocons {es : List E} {g : S → R (List D)} (hp : plainX x = true) (ha : PE X x (tO X.kw b W a fun s => opO a (fa s) s)) (hr : PA X xs (tOs X.kw b W es g)) : PA X (x :: xs) (tOs X.kw b W (a :: es) (fConsO a fa g)) := by
  refine (pa_cons ha hr (plain_star hp)).imp fun σ H Q ⟨Φ, ρ, s, r, w⟩ => ?_
  refine tO_mono (tO_bind (e := a) (f := fun s => opO a (fa s) s) r w) fun v1 H1 ⟨Φ2, ρ2, s2, d2, k1, k2, r2, o2, w2⟩ => ?_
  refine tOs_mono (tOs_bind r2 w2) fun vs H4 ⟨Φ4, ρ4, s4, ds, g1, g2, r4, rs, w4⟩ => ?_
  exact w4 Φ4 ρ4 H4 (v1 :: vs) (k1.trans g1) (k2.trans g2) r4 ⟨v1, vs, rfl, opR_mono g1 g2 o2, rs⟩

/-! ### built-in functions -/
def fBlt (f : Bf) (es : List E) (g : S → R (List D)) : S → R (D × Bool) := fun s => (g s).bind fun ds s => liftO s ((seeEs s es ds).bind fun ds => bfn f ds)
theorem gl_of {sc : Scope} {f : Str} (hs : X.env.scope = sc) (h : gB sc f = true) : Gl X f ∧ (f == ("__debug__" : Str)) = false := by
  unfold gB at h
  simp only [Bool.and_eq_true, Bool.not_eq_true'] at h
  obtain ⟨h1, h2⟩ := h
  refine ⟨?_, h2⟩
  show X.env.scope.names.lookup f = _
  rw [hs]
  split at h1
  · assumption
  · cases h1
theorem bf_boot (f : Bf) (h1 : f ≠ .ssorted) (h2 : ∀ d, f ≠ .maxd d) : bootBuiltins (bfNm f) = some (bfVal f) ∧ bfNm f ≠ "__name__" ∧ bfNm f ∈ bnames := by
  cases f <;> first | exact absurd rfl h1 | exact absurd rfl (h2 _) | (refine ⟨by decide +kernel, by decide, by decide⟩)
theorem snd_blt {f : Bf} {es : List E} {g : S → R (List D)} {fn : Str} {p : Pos} {sc : Scope} (hu : X.A.units + 205 < cLine) (hc : X.calm = true) (hs : X.env.scope = sc) (hg : gB sc fn = true) (hn : fn = bfNm f) (hbl : ∀ x ∈ bnames, X.mg x = none)
    (h1 : f ≠ .ssorted) (h2 : ∀ d, f ≠ .maxd d) (hp : (x :: xs).all plainX = true) (ha : PA X (x :: xs) (tOs X.kw b W es g)) : PE X (.Call (.Name fn p) (x :: xs) [] pos) (tE X.kw b W (fBlt f es g)) := by
  subst hn
  obtain ⟨hG, hd⟩ := gl_of hs hg
  obtain ⟨hv, hne, hmem⟩ := bf_boot f h1 h2
  obtain ⟨hp1, hp2⟩ := Bool.and_eq_true_iff.mp (show (plainX x && xs.all plainX) = true from hp)
  have rd : ∀ σ H Q, tE X.kw b W (fBlt f es g) σ H Q → tCB (rF X.kw f) (tOs X.kw b W es g) σ H Q := fun σ H Q ⟨Φ, ρ, s, r, w⟩ => by
    refine tOs_mono (tOs_bind r w) fun vs H4 ⟨Φ4, ρ4, s4, ds, g1, g2, r4, os, w4⟩ => ?_
    obtain ⟨q, e1, w5⟩ := wp_liftO w4
    obtain ⟨ds', e2, e3⟩ := obind e1
    exact ⟨b, Φ4, ρ4, s4, σ, ds', q, r4, see_views r4 os e2, e3, cont_mono g1 g2 w5⟩
  have bf := bf_ok hu hc f h1 h2
  cases hf : bfVal f with
  | builtin id =>
    rw [hf] at bf hv
    exact (pe_callB bf hG (hbl _ hmem) hv ha hne hd (plain_star hp1) (plain_stars hp2)).imp rd
  | type T =>
    rw [hf] at bf hv
    exact (pe_callTy bf hG (hbl _ hmem) hv ha hne hd (plain_star hp1) (plain_stars hp2)).imp rd
  | _ => cases f <;> cases hf
/-! ### isinstance -/
def fIsi (a : E) (t : Ty) (fa : S → R (D × Bool)) : S → R (D × Bool) := fun s => (opO a (fa s) s).bind fun x s => liftO s ((seeE s a x).bind fun x => if D.typed x then some (.bl (isTy x t), false) else none)
theorem ty_boot (t : Ty) : bootBuiltins (Str.ofString (tyS t)) = some (.type (tyS t)) ∧ Str.ofString (tyS t) ≠ "__name__" ∧ Str.ofString (tyS t) ∈ bnames := by
  cases t <;> refine ⟨by decide +kernel, by decide, by decide⟩
theorem snd_isi {t : Ty} {fn ty : Str} {p p' : Pos} {sc : Scope} (hs : X.env.scope = sc) (hg : gB sc fn = true) (hn : fn = "isinstance") (hgt : gB sc ty = true) (ht : ty = tyS t) (hbl : ∀ x ∈ bnames, X.mg x = none)
    (hp : plainX x = true) (ha : PE X x (tO X.kw b W a fun s => opO a (fa s) s)) : PE X (.Call (.Name fn p) [x, .Name ty p'] [] pos) (tE X.kw b W (fIsi a t fa)) := by
  subst hn ht
  obtain ⟨hG, hd⟩ := gl_of hs hg
  obtain ⟨hGt, hdt⟩ := gl_of hs hgt
  obtain ⟨hv, hne, hmem⟩ := ty_boot t
  have hty : PE X (.Name (Str.ofString (tyS t)) p') (tC (.ty (tyS t))) := pe_bltn hGt (hbl _ hmem) hv rfl hne hdt
  refine (pe_callB isi_ok hG (hbl _ (by decide)) (by decide +kernel) (pa_cons ha (pa_cons hty pa_nil rfl) (plain_star hp)) (by decide) hd (plain_star hp) rfl).imp fun σ H Q ⟨Φ, ρ, s, r, w⟩ => ?_
  refine tO_mono (tO_bind (e := a) (f := fun s => opO a (fa s) s) r w) fun v1 H1 ⟨Φ2, ρ2, s2, d2, k1, k2, r2, o2, w2⟩ => ?_
  obtain ⟨q, e1, w5⟩ := wp_liftO w2
  obtain ⟨dx, e2, e3⟩ := obind e1
  obtain ⟨e4, e5⟩ := ifs e3 rfl
  subst e5
  exact ⟨b, Φ2, ρ2, s2, σ, dx, v1, t, rfl, r2, see_view r2 o2 e2, e4, cont_mono k1 k2 w5⟩
end
end Ly
set_option Elab.async false
set_option linter.all false
set_option maxRecDepth 100000
set_option maxHeartbeats 2000000
/-! Ly9: methods of built-in types, calls of defs. -/
namespace Ly
open PySem PySem.Spec PyProof.Rows L2
section
variable {X : Cx} {b : Bs} {W : WX} {pos apos cpos : Pos} {a c : E} {o x y z : Expr} {xs : List Expr} {fa fb fc : S → R (D × Bool)}
theorem plain_base {m : Str} (h : plainX o = true) (hm : ∀ f l p, o ≠ .Call (.Name f p) [] [] l ∨ (f == ("super" : Str)) = false) : attributeBase o m X.env (eval o X.env) = eval o X.env := by
  cases o <;> first | rfl | cases h | skip
  rename_i f as ks p
  cases as with
  | cons _ _ => cases f <;> rfl
  | nil =>
    cases ks with
    | cons _ _ => cases f <;> rfl
    | nil =>
      cases f <;> first | rfl | skip
      rename_i n p'
      rcases hm n p p' with q | q
      · exact absurd rfl q
      · unfold attributeBase
        simp only [bne, q]
        rfl
/-- the object a method is asked of: of what type -/
def TyAt (s : Shared) (v : Value) (T : String) : Prop := s.TypeIs v T ∧ ∀ a, v = .ref a → ∃ ob, s.heap.get? a = some ob ∧ ob.dict = none
theorem few_ok {es : List Expr} (hp : es.all plainX = true) (hl : es.length < 20) : ((backTo cpos (starEach es X.env)).all (fun x => !x.1) && (backToKw cpos (keywordEach [] X.env)).all (fun x => x.1.isSome)
      && decide (es.length + ([] : List Keyword).length + (if ([] : List Keyword).isEmpty then 0 else 1) < 30)) = true := by
  have h1 : (backTo cpos (starEach es X.env)).all (fun x => !x.1) = true := by
    clear hl
    induction es with
    | nil => rfl
    | cons e r ih =>
      obtain ⟨g1, g2⟩ := Bool.and_eq_true_iff.mp (show (plainX e && r.all plainX) = true from hp)
      rw [plain_star g1]
      show (true && (backTo cpos (starEach r X.env)).all (fun x => !x.1)) = true
      rw [ih g2]
      rfl
  rw [h1]
  show (true && true && decide (es.length + 0 + 0 < 30)) = true
  rw [decide_eq_true (by omega)]
  rfl
theorem run_bm0 {name : Str} {T id : String} {te : TE} {r : V → List V → Hp → VK → Prop} (pa : PlainAttrs T) (slot : Slot T name id) (hty : typeOf (.builtin id) = pure (.type "method_descriptor")) (hm : MtR X id r)
    (ho : PE X o te) (hb : attributeBase o name X.env (eval o X.env) = eval o X.env) (hline : lineB apos cpos = true) :
    PE X (.Call (.Attribute o name apos) [] [] cpos) (fun σ H Q => te σ H fun v H1 => (∀ pins s u, L2.Inv X pins σ H1 s → RelV v u → TyAt s u T) ∧ r v [] H1 Q) := by
  refine ⟨fun pins s σ H Q I h => ?_⟩
  refine wpAny_Call_method0_late hb hline (thn (ho.run pins s σ H _ I h) fun v s1 ⟨x, H1, I1, r1, ty, q1⟩ => ?_)
  obtain ⟨h1, h2⟩ := ty pins s1 v I1 r1
  exact ⟨T, id, pa, slot, hty, h1, h2, Calls.callWith_builtin rfl (PySem.evalArgs_none (hm pins s1 σ H1 x [] v [] Q I1 r1 .nil q1))⟩
theorem run_bm {e : Expr} {es : List Expr} {name : Str} {T id : String} {te : TE} {ta : TA} {r : V → List V → Hp → VK → Prop} (pa : PlainAttrs T) (slot : Slot T name id) (hty : typeOf (.builtin id) = pure (.type "method_descriptor")) (hm : MtR X id r)
    (ho : PE X o te) (ha : PA X (e :: es) ta) (hb : attributeBase o name X.env (eval o X.env) = eval o X.env) (hp : (e :: es).all plainX = true) (hl : (e :: es).length < 20) (hline : lineB apos cpos = true) :
    PE X (.Call (.Attribute o name apos) (e :: es) [] cpos) (fun σ H Q => te σ H fun v H1 => (∀ pins s u, L2.Inv X pins σ H1 s → RelV v u → TyAt s u T) ∧ ta σ H1 fun vs H2 => r v vs H2 Q) := by
  refine ⟨fun pins s σ H Q I h => ?_⟩
  obtain ⟨hp1, hp2⟩ := Bool.and_eq_true_iff.mp (show (plainX e && es.all plainX) = true from hp)
  refine wpAny_Call_method_late hb (few_ok hp hl) hline rfl (thn (ho.run pins s σ H _ I h) fun v s1 ⟨x, H1, I1, r1, ty, q1⟩ => ?_)
  obtain ⟨h1, h2⟩ := ty pins s1 v I1 r1
  refine ⟨T, id, pa, slot, hty, h1, h2, ?_⟩
  have hA := ha.run cpos pins s1 σ H1 _ I1 q1
  rw [plain_star hp1] at hA ⊢
  refine Calls.callWith_builtin (by show (false || (backTo cpos (starEach es X.env)).any (·.1)) = false; rw [plain_stars hp2] <;> rfl) (Calls.evalArgs_plain ?_)
  exact thn hA fun us s2 ⟨vs, H2, I2, r2, q2⟩ => hm pins s2 σ H2 x vs v us Q I2 r1 r2 q2
theorem tyv_at {v : V} {T : String} {σ : L2.St} {H : Hp} (h : tyV X.K T v H) : ∀ pins s u, L2.Inv X pins σ H s → RelV v u → TyAt s u T := fun pins s u I r => tyV_is I r h
theorem dct_at {ad : Addr} {ks : List D} {vs : List V} {σ : L2.St} {H : Hp} (h : DctAt X.kw H ad ks vs) : ∀ pins s u, L2.Inv X pins σ H s → RelV (.ref ad) u → TyAt s u "dict" := fun pins s u I r => by
  cases r
  rcases h with ⟨es, n, kk, kd, _⟩ | ⟨kk, _, _, _, hrd⟩ | ⟨kk, _, _, _, _, hrd⟩ | ⟨_, _, hrd⟩
  · refine ⟨kd_type kd I, fun c e => ?_⟩
    cases e
    exact ⟨_, I.kIn _ _ kd.at_, rfl⟩
  · obtain ⟨h1, h2, _⟩ := isD_at I (.inl ⟨_, hrd⟩)
    exact ⟨h1, h2⟩
  · obtain ⟨h1, h2, _⟩ := isD_at I (.inr ⟨_, .inl hrd⟩)
    exact ⟨h1, h2⟩
  · obtain ⟨h1, h2, _⟩ := isD_at I (.inr ⟨_, .inl hrd⟩)
    exact ⟨h1, h2⟩
def mrT : Mr → String
  | .count => "list"
  | .index => "list"
  | .join => "str"
  | .startswith => "str"
  | .get => "dict"
  | .upper => "str"
theorem recv_ty {m : Mr} {d : D} {v : V} {Φ : Hp} {ρ : List Addr} {σ : L2.St} {H : Hp} (h : recvR m d = true) (vw : View X.kw Φ ρ H d v) : ∀ pins s u, L2.Inv X pins σ H s → RelV v u → TyAt s u (mrT m) := by
  cases m <;> cases d <;> first | cases h | skip
  · obtain ⟨l, vs, rfl, q, _⟩ := vw; exact tyv_at (.inl ⟨rfl, vs, SqL.of q⟩)
  · obtain ⟨l, vs, rfl, q, _⟩ := vw; exact tyv_at (.inl ⟨rfl, vs, SqL.of q⟩)
  · cases (show v = _ from vw); exact tyv_at rfl
  · cases (show v = _ from vw); exact tyv_at rfl
  · obtain ⟨l, vs, rfl, q, _⟩ := vw; exact dct_at q
  · cases (show v = _ from vw); exact tyv_at rfl
theorem guard_of {α : Type} {bb : Bool} {s : S} {o : Option D} {f : D → Bool} {g : Unit → S → R α} {W' : α → S → Prop} {Z : Str → List D → S → Prop} (w : ((liftO s (o.bind fun x => guardO (f x))).bind g).wp W' Z) : ∃ d, o = some d ∧ f d = true ∧ (g () s).wp W' Z := by
  obtain ⟨u, e, w2⟩ := wp_liftO (wp_bind.mp w)
  obtain ⟨d, e1, e2⟩ := obind e
  refine ⟨d, e1, ?_, w2⟩
  unfold guardO at e2
  cases hd : f d with
  | true => rfl
  | false => rw [hd] at e2; cases e2
def fMr (m : Mr) (a : E) (fa : S → R (D × Bool)) (g : S → R (List D)) : S → R (D × Bool) := fun s => (opO a (fa s) s).bind fun x s => (liftO s ((seeE s a x).bind fun x => guardO (recvR m x))).bind fun _ s => (g s).bind fun ds s =>
      liftO s ((seeE s a x).bind fun x => (mrd m x ds).map fun d => (d, false))
def fMw (m : Mw) (a : E) (fa : S → R (D × Bool)) (g : S → R (List D)) : S → R (D × Bool) := fun s => (opO a (fa s) s).bind fun x s => (liftO s ((seeE s a x).bind fun x => guardO (recvW x))).bind fun _ s => (g s).bind fun ds s =>
      (liftO s ((seeE s a x).bind fun y => (mwr m y ds).bind fun p => (putE s a x p.2).map fun s' => (p.1, s'))).bind fun p _ => .ok (p.1, false) p.2
theorem mr_facts (m : Mr) : PlainAttrs (mrT m) ∧ Slot (mrT m) (mrNm m) (mrId m) ∧ typeOf (.builtin (mrId m)) = pure (.type "method_descriptor") := by
  cases m
  · exact ⟨PySem.F.plainAttrs_list, PySem.F.slot_list_count, PySem.F.type_list_count⟩
  · exact ⟨PySem.F.plainAttrs_list, PySem.F.slot_list_index, PySem.F.type_list_index⟩
  · exact ⟨PySem.F.plainAttrs_str, PySem.F.slot_str_join, PySem.F.type_str_join⟩
  · exact ⟨PySem.F.plainAttrs_str, PySem.F.slot_str_startswith, PySem.F.type_str_startswith⟩
  · exact ⟨PySem.F.plainAttrs_dict, PySem.F.slot_dict_get, PySem.F.type_dict_get⟩
  · exact ⟨PySem.F.plainAttrs_str, PySem.F.slot_str_upper, PySem.F.type_str_upper⟩
theorem mw_facts (m : Mw) (h : m ≠ .insert) : Slot "list" (mwNm m) (mwId m) ∧ typeOf (.builtin (mwId m)) = pure (.type "method_descriptor") := by
  cases m
  · exact ⟨PySem.F.slot_list_append, PySem.F.type_list_append⟩
  · exact ⟨PySem.F.slot_list_extend, PySem.F.type_list_extend⟩
  · exact ⟨PySem.F.slot_list_pop, PySem.F.type_list_pop⟩
  · exact ⟨PySem.F.slot_list_clear, PySem.F.type_list_clear⟩
  · exact ⟨PySem.F.slot_list_reverse, PySem.F.type_list_reverse⟩
  · exact absurd rfl h
theorem snd_mr {m : Mr} {nm : Str} {g : S → R (List D)} (hu : X.A.units + 210 < cLine) (hn : nm = mrNm m) (hb : attributeBase o nm X.env (eval o X.env) = eval o X.env) (hl : lineB apos cpos = true) (hlen : xs.length < 20) (hp : xs.all plainX = true)
    (ha : PE X o (tO X.kw b W a fun s => opO a (fa s) s)) (hg : PA X xs (tA X.kw b W g)) (h0 : xs = [] → g = fNil) : PE X (.Call (.Attribute o nm apos) xs [] cpos) (tE X.kw b W (fMr m a fa g)) := by
  subst hn
  obtain ⟨f1, f2, f3⟩ := mr_facts m
  have mk := mr_ok (X := X) (by omega) m
  cases xs with
  | nil =>
    refine (run_bm0 f1 f2 f3 mk ha hb hl).imp fun σ H Q ⟨Φ, ρ, s, r, w⟩ => ?_
    refine tO_mono (tO_bind (e := a) (f := fun s => opO a (fa s) s) r w) fun v1 H1 ⟨Φ2, ρ2, s2, d2, k1, k2, r2, o2, w2⟩ => ?_
    obtain ⟨dd, e1, e2, w3⟩ := guard_of (bb := true) w2
    refine ⟨recv_ty e2 (see_view r2 o2 e1), ?_⟩
    rw [h0 rfl] at w3
    obtain ⟨q, e3, w4⟩ := wp_liftO w3
    obtain ⟨dy, e4, e5⟩ := obind e3
    obtain ⟨p, e6, e7⟩ := omap e5
    subst e7
    exact ⟨b, Φ2, ρ2, s2, σ, dy, [], p, r2, see_view r2 o2 e4, rfl, e6, cont_mono k1 k2 w4⟩
  | cons e es =>
    refine (run_bm f1 f2 f3 mk ha hg hb hp hlen hl).imp fun σ H Q ⟨Φ, ρ, s, r, w⟩ => ?_
    refine tO_mono (tO_bind (e := a) (f := fun s => opO a (fa s) s) r w) fun v1 H1 ⟨Φ2, ρ2, s2, d2, k1, k2, r2, o2, w2⟩ => ?_
    obtain ⟨dd, e1, e2, w3⟩ := guard_of (bb := true) w2
    refine ⟨recv_ty e2 (see_view r2 o2 e1), ?_⟩
    refine tA_mono (tA_bind r2 w3) fun vs H4 ⟨Φ4, ρ4, s4, ds, g1, g2, r4, rs, w4⟩ => ?_
    obtain ⟨q, e3, w5⟩ := wp_liftO w4
    obtain ⟨dy, e4, e5⟩ := obind e3
    obtain ⟨p, e6, e7⟩ := omap e5
    subst e7
    exact ⟨b, Φ4, ρ4, s4, σ, dy, ds, p, r4, see_view r4 (opR_mono g1 g2 o2) e4, rs, e6, cont_mono (k1.trans g1) (k2.trans g2) w5⟩
theorem snd_mw {m : Mw} {nm : Str} {g : S → R (List D)} (hi : m ≠ .insert) (hn : nm = mwNm m) (hb : attributeBase o nm X.env (eval o X.env) = eval o X.env) (hl : lineB apos cpos = true) (hlen : xs.length < 20) (hp : xs.all plainX = true)
    (ha : PE X o (tO X.kw b W a fun s => opO a (fa s) s)) (hg : PA X xs (tA X.kw b W g)) (h0 : xs = [] → g = fNil) : PE X (.Call (.Attribute o nm apos) xs [] cpos) (tE X.kw b W (fMw m a fa g)) := by
  subst hn
  obtain ⟨f2, f3⟩ := mw_facts m hi
  have mk : MtR X (mwId m) (rW X.kw m a) := mw_ok m a
  have ty : ∀ {d : D} {v : V} {Φ : Hp} {ρ : List Addr} {σ : L2.St} {H : Hp}, recvW d = true → View X.kw Φ ρ H d v → ∀ pins s u, L2.Inv X pins σ H s → RelV v u → TyAt s u "list" := fun {d v Φ ρ σ H} h vw => by
    cases d <;> first | cases h | skip
    obtain ⟨l, vs, rfl, q, _⟩ := vw
    exact tyv_at (.inl ⟨rfl, vs, SqL.of q⟩)
  cases xs with
  | nil =>
    refine (run_bm0 PySem.F.plainAttrs_list f2 f3 mk ha hb hl).imp fun σ H Q ⟨Φ, ρ, s, r, w⟩ => ?_
    refine tO_mono (tO_bind (e := a) (f := fun s => opO a (fa s) s) r w) fun v1 H1 ⟨Φ2, ρ2, s2, d2, k1, k2, r2, o2, w2⟩ => ?_
    obtain ⟨dd, e1, e2, w3⟩ := guard_of (bb := true) w2
    refine ⟨ty e2 (see_view r2 o2 e1), ?_⟩
    rw [h0 rfl] at w3
    obtain ⟨q, e3, w4⟩ := wp_liftO (wp_bind.mp w3)
    obtain ⟨dy, e4, e5⟩ := obind e3
    obtain ⟨p, e6, e7⟩ := obind e5
    obtain ⟨s', e8, e9⟩ := omap e7
    subst e9
    exact ⟨b, Φ2, ρ2, s2, σ, d2, dy, [], p, s', r2, o2, e4, rfl, e6, e8, cont_mono k1 k2 w4⟩
  | cons e es =>
    refine (run_bm PySem.F.plainAttrs_list f2 f3 mk ha hg hb hp hlen hl).imp fun σ H Q ⟨Φ, ρ, s, r, w⟩ => ?_
    refine tO_mono (tO_bind (e := a) (f := fun s => opO a (fa s) s) r w) fun v1 H1 ⟨Φ2, ρ2, s2, d2, k1, k2, r2, o2, w2⟩ => ?_
    obtain ⟨dd, e1, e2, w3⟩ := guard_of (bb := true) w2
    refine ⟨ty e2 (see_view r2 o2 e1), ?_⟩
    refine tA_mono (tA_bind r2 w3) fun vs H4 ⟨Φ4, ρ4, s4, ds, g1, g2, r4, rs, w4⟩ => ?_
    obtain ⟨q, e3, w5⟩ := wp_liftO (wp_bind.mp w4)
    obtain ⟨dy, e4, e5⟩ := obind e3
    obtain ⟨p, e6, e7⟩ := obind e5
    obtain ⟨s', e8, e9⟩ := omap e7
    subst e9
    exact ⟨b, Φ4, ρ4, s4, σ, d2, dy, ds, p, s', r4, opR_mono g1 g2 o2, e4, rs, e6, e8, cont_mono (k1.trans g1) (k2.trans g2) w5⟩

/-! ### calls of defs -/
theorem after_call {K : KW} {Φ Φ' H H' : Hp} {ρ ρ' : List Addr} {s : S} {σ : L2.St} {m : Mem} (r : Rel K b Φ ρ s σ H) (hΦ : Same Φ Φ') (hρ : ρ <+: ρ') (M : MemOk K Φ' ρ' H' m) (hk : ∀ a o, H a = some o → a ∉ ρ → H' a = some o)
    (hn : ∀ a ∈ ρ', a ∉ ρ → H a = none) (hF : ∀ a o, Φ' a = some o → Φ a = some o ∨ H a = none) : Rel K b Φ' ρ' { s with mem := m } σ H' := by
  refine ⟨M, r.low.trans hΦ, r.ext.trans hρ, r.len, fun i d fr e => ?_, r.inj, fun c w e hc => ?_, fun c hc hb => ?_, fun c w e => ?_⟩
  · obtain ⟨v, hv, q⟩ := r.env i d fr e
    refine ⟨v, hv, ?_⟩
    cases fr with
    | false => exact rep_mono hΦ hρ _ _ q
    | true =>
      obtain ⟨c, u, rfl, hu, _, g1, g2, g3⟩ := fresh_ref (show Fresh K b Φ ρ H d v from q)
      refine fresh_mono hΦ hρ (by rw [hk c u hu g2, hu]) ?_ (fun z => ?_) q
      · cases e2 : Φ' c with
        | none => rfl
        | some w =>
          rcases hF c w e2 with z | z
          · rw [g1] at z; cases z
          · rw [hu] at z; cases z
      · have := hn c z g2
        rw [hu] at this; cases this
  · have hc2 : c ∉ ρ := fun z => by
      have := r.new c z hc
      rw [e] at this; cases this
    exact hk c w (r.keep c w e hc) hc2
  · by_cases z : c ∈ ρ
    · exact r.new c z hb
    · exact r.newb (hn c hc z)
  · rcases hF c w e with z | z
    · exact r.newF c w z
    · exact .inr (r.newb z)
def fCall (F : Fn) (cf : List D → Mem → CR) (g : S → R (List D)) : S → R (D × Bool) := fun s => (g s).bind fun ds s => if ds.length = F.ps then ofCR s (cf ds s.mem) else .no
theorem snd_call {f : Str} {F : Fn} {cf : List D → Mem → CR} {g : S → R (List D)} {p : Pos} {sc : Scope} (hs : X.env.scope = sc) (hg : gB sc f = true) (hF : FnAt X f (spF X.kw fun ds m => if ds.length = F.ps then cf ds m else .no)) (tk : Takes X W)
    (hp : (x :: xs).all plainX = true) (ha : PA X (x :: xs) (tA X.kw b W g)) : PE X (.Call (.Name f p) (x :: xs) [] pos) (tE X.kw b W (fCall F cf g)) := by
  obtain ⟨hG, hd⟩ := gl_of hs hg
  obtain ⟨fa, fd, ps, k, room, ok, hm, kp, bd⟩ := hF.ex
  obtain ⟨hp1, hp2⟩ := Bool.and_eq_true_iff.mp (show (plainX x && xs.all plainX) = true from hp)
  refine (pe_callSD (E := WE W) ok room hG hm kp bd .nil (fun σ => passAt tk σ) ha hd (plain_star hp1) (plain_stars hp2)).imp fun σ H Q ⟨Φ, ρ, s, r, w⟩ => ?_
  refine tA_mono (tA_bind r w) fun vs H1 ⟨Φ1, ρ1, s1, ds, g1, g2, r1, rs, w1⟩ => ?_
  rw [List.append_nil]
  refine ⟨Φ1, ρ1, s1.mem, ds, r1.mem, rs, ?_⟩
  dsimp only
  by_cases hl : ds.length = F.ps
  · rw [if_pos hl] at w1 ⊢
    cases hc : cf ds s1.mem with
    | ok d fr m' =>
      rw [hc] at w1
      intro Φ' ρ' H' v h1 h2 M h3 h4 h5 h6
      have r2 := after_call r1 h1 h2 M h3 h4 h5
      refine w1 Φ' ρ' H' v (g1.trans h1) (g2.trans h2) r2 ?_
      unfold RRep
      cases fr with
      | false => exact h6
      | true =>
        refine ⟨?_, fun i d' e z => ?_⟩
        · obtain ⟨c, u, rfl, hu, _, k1, k2, k3⟩ := fresh_ref (show Fresh X.kw ⟨H1, Φ1, ρ1⟩ Φ' ρ' H' d v from h6)
          have nb := r1.newb k3
          cases d with
          | lst xs => obtain ⟨a', vs', e', q, rr, z1, z2, z3⟩ := h6; cases e'; exact ⟨c, vs', rfl, q, rr, z1, z2, nb⟩
          | dct ks dd => obtain ⟨a', vs', e', q, rr, z1, z2, z3⟩ := h6; cases e'; exact ⟨c, vs', rfl, q, rr, z1, z2, nb⟩
          | _ => exact False.elim h6
        · obtain ⟨c, u, rfl, hu, _, k1, k2, k3⟩ := fresh_ref (show Fresh X.kw ⟨H1, Φ1, ρ1⟩ Φ' ρ' H' d v from h6)
          obtain ⟨v2, hv2, q2⟩ := r1.env i d' true e
          obtain ⟨c2, u2, rfl, hu2, _⟩ := fresh_ref (show Fresh X.kw b Φ1 ρ1 H1 d' v2 from q2)
          rw [hv2] at z; cases z
          have k3 : H1 c = none := k3
          rw [hu2] at k3; cases k3
    | exc cc fs m' =>
      rw [hc] at w1
      intro Φ' ρ' H' C d h1 h2 M h3 h4 h5 h6
      exact w1 Φ' ρ' H' C d h1 h2 (after_call r1 h1 h2 M h3 h4 h5) h6
    | no => rw [hc] at w1; exact w1.elim
  · rw [if_neg hl] at w1
    exact w1.elim
end
end Ly
set_option Elab.async false
set_option linter.all false
set_option maxRecDepth 100000
set_option maxHeartbeats 2000000
/-! Ly10: targets, what is walked, comprehensions. -/
namespace Ly
open PySem PySem.Spec PyProof.Rows L2

/-! ### targets -/
section
variable {K : KW} {b : Bs} {Φ Φ' H : Hp} {ρ : List Addr} {s s' : S} {σ : L2.St}
theorem σ_set {σ : L2.St} {i j : Nat} {o : Option V} {v : V} (h : (σ.set i o)[j]? = some (some v)) : (i = j ∧ o = some v) ∨ (i ≠ j ∧ σ[j]? = some (some v)) := by
  by_cases e : i = j
  · subst e
    by_cases hl : i < σ.length
    · rw [List.getElem?_set_self hl] at h
      exact .inl ⟨rfl, Option.some.inj h⟩
    · rw [List.getElem?_eq_none (by rw [List.length_set]; omega)] at h
      cases h
  · rw [List.getElem?_set_ne e] at h
    exact .inr ⟨e, h⟩
/-- a slot is stored -/
theorem Rel.store (r : Rel K b Φ ρ s σ H) {i : Nat} {p : D × Bool} {v : V} (q : RRep K b Φ ρ s σ H p v) : Rel K b Φ ρ (setSlot s i p) (σ.set i (some v)) H := by
  have get : ∀ {j : Nat} {d : D} {fr : Bool}, (s.env.set i (some p))[j]? = some (some (d, fr)) → (i = j ∧ p = (d, fr) ∧ (σ.set i (some v))[j]? = some (some v)) ∨ (i ≠ j ∧ s.env[j]? = some (some (d, fr)) ∧ (σ.set i (some v))[j]? = σ[j]?) := fun {j d fr} e => by
    rcases envN_set e with ⟨e1, e2⟩ | ⟨e1, e2⟩
    · subst e1
      refine .inl ⟨rfl, Option.some.inj e2, ?_⟩
      have hl : i < s.env.length := by
        have := (List.getElem?_eq_some_iff.mp e).1
        rw [List.length_set] at this
        exact this
      rw [List.getElem?_set_self (by rw [← r.len]; exact hl)]
    · exact .inr ⟨e1, e2, List.getElem?_set_ne e1⟩
  refine ⟨r.mem, r.low, r.ext, ?_, fun j d fr e => ?_, fun j k d d' w e1 e2 e3 e4 => ?_, r.keep, r.new, r.newF⟩
  · show (s.env.set i _).length = _
    rw [List.length_set, List.length_set]; exact r.len
  · rcases get e with ⟨e1, e2, e3⟩ | ⟨e1, e2, e3⟩
    · refine ⟨v, e3, ?_⟩
      subst e2
      unfold RRep at q
      cases fr with
      | true => exact q.1
      | false => exact q
    · rw [e3]
      exact r.env j d fr e2
  · rcases get e1 with ⟨a1, a2, a3⟩ | ⟨a1, a2, a3⟩
    · rcases get e2 with ⟨b1, b2, b3⟩ | ⟨b1, b2, b3⟩
      · rw [← a1, ← b1]
      · exfalso
        subst a2
        rw [a3] at e3; cases e3
        rw [b3] at e4
        exact q.2 k d' b2 e4
    · rcases get e2 with ⟨b1, b2, b3⟩ | ⟨b1, b2, b3⟩
      · exfalso
        subst b2
        rw [b3] at e4; cases e4
        rw [a3] at e3
        exact q.2 j d a2 e3
      · rw [a3] at e3
        rw [b3] at e4
        exact r.inj j k d d' w a2 b2 e3 e4
def gNames : List Nat → TGs
  | [] => gNil
  | i :: is => gCons (gName i) (gNames is)
def gT (K : PySem.W.Frag) : T → TG
  | .v i => gName i
  | .tup is => gTup K is.length (gNames is)
theorem w_out {σ : L2.St} {i : Nat} {v : Option V} : ∀ {vs' : List Nat}, i ∉ vs' → wipe (σ.set i v) vs' = (wipe σ vs').set i v
  | [], _ => rfl
  | w :: ws, h => by
    show (wipe (σ.set i v) ws).set w none = ((wipe σ ws).set w none).set i v
    rw [w_out fun z => h (List.mem_cons_of_mem _ z)]
    exact List.set_comm _ _ fun z => h (by rw [z]; exact List.mem_cons_self)
theorem w_in {σ : L2.St} {i : Nat} {v : Option V} : ∀ {vs' : List Nat}, i ∈ vs' → wipe (σ.set i v) vs' = wipe σ vs'
  | w :: ws, h => by
    by_cases hm : i ∈ ws
    · show (wipe (σ.set i v) ws).set w none = (wipe σ ws).set w none
      rw [w_in hm]
    · have e : i = w := (List.mem_cons.mp h).resolve_right hm
      subst e
      show (wipe (σ.set i v) ws).set i none = (wipe σ ws).set i none
      rw [w_out hm]
      simp
theorem names_ok {Q : L2.St → Hp → Prop} : ∀ {is : List Nat} {ds : List D} {vs : List V} {s s' : S} {σ : L2.St}, Rel K b Φ ρ s σ H → Reps K Φ ρ ds vs → asgs is ds s = some s' → (∀ σ', Rel K b Φ ρ s' σ' H → (∀ vs', (∀ i ∈ is, i ∈ vs') → wipe σ' vs' = wipe σ vs') → Q σ' H) → gNames is vs σ H Q
  | [], [], _, _, _, _, r, rs, h, q => by cases h; cases rs; exact ⟨rfl, q _ r fun _ _ => rfl⟩
  | i :: is, d :: ds, _, s, _, σ, r, ⟨v, ws, e, rv, rs⟩, h, q => by
    subst e
    refine ⟨v, ws, rfl, ?_⟩
    refine names_ok (Q := Q) (r.store (p := (d, false)) rv) rs h fun σ' r' hw => q σ' r' fun vs' hm => ?_
    rw [hw vs' fun j hj => hm j (List.mem_cons_of_mem _ hj)]
    exact w_in (hm i List.mem_cons_self)
  | [], _ :: _, _, _, _, _, _, _, h, _ => by cases h
  | _ :: _, [], _, _, _, _, _, _, h, _ => by cases h
theorem tgt_ok {Q : L2.St → Hp → Prop} {t : T} {sh : List Nat} {d : D} {v : V} {W' : Unit → S → Prop} {Z : Str → List D → S → Prop} (r : Rel K b Φ ρ s σ H) (rv : Rep K Φ ρ d v) (h : (asgT sh t d false s).wp W' Z)
    (q : ∀ s' σ', W' () s' → Rel K b Φ ρ s' σ' H → (∀ vs', (∀ i ∈ t.slots, i ∈ vs') → wipe σ' vs' = wipe σ vs') → Q σ' H) : gT K.f t v σ H Q := by
  cases t with
  | v i =>
    have h : (asgV sh i d false s).wp W' Z := h
    unfold asgV at h
    rw [Bool.false_and, if_neg Bool.false_ne_true] at h
    exact q _ _ h (r.store (p := (d, false)) rv) fun vs' hm => w_in (hm i List.mem_cons_self)
  | tup is =>
    cases d with
    | tup xs =>
      have h : ((liftO s (asgs is xs s)).bind fun s' _ => R.ok () s').wp W' Z := h
      obtain ⟨s', e, w⟩ := wp_liftO (wp_bind.mp h)
      obtain ⟨a, vs, rfl, hq, rs, _⟩ := rv
      have hl : is.length = xs.length := by
        clear q w h rs
        have go : ∀ (is : List Nat) (xs : List D) (s s' : S), asgs is xs s = some s' → is.length = xs.length := by
          intro is
          induction is with
          | nil => intro xs s s' h; cases xs <;> first | rfl | cases h
          | cons i is ih => intro xs s s' h; cases xs <;> first | cases h | exact congrArg Nat.succ (ih _ _ _ h)
        exact go _ _ _ _ e
      refine ⟨a, vs, rfl, sqT_mono r.sub hq, by rw [reps_len rs, hl], ?_⟩
      exact names_ok r rs e fun σ' r' hw => q s' σ' w r' hw
    | _ => exact h.elim
end
section
variable {X : Cx} {sn : List Str} {sc : Scope} {N : List Str}
theorem tgN_name {i : Nat} {e : Expr} (hn : X.N = N) (nd : X.N.Nodup) (hs : X.env.scope = sc) (st : ∀ x ∈ sn, X.fn x = true ∨ X.env.scope.names.lookup x = some .local) (h : tgN sn sc N i e = true) :
    PG X e (gName i) ∧ plainX e = true ∧ ∃ x p, e = .Name x p := by
  cases e <;> first | cases h | skip
  rename_i x p
  unfold tgN at h
  simp only [Bool.and_eq_true, decide_eq_true_eq] at h
  obtain ⟨⟨h1, h2⟩, h3⟩ := h
  refine ⟨pg_name nd (by rw [hn]; exact h1) ?_ (st x h3), rfl, x, p, rfl⟩
  rw [← hs] at h2
  split at h2
  · rename_i e; exact .inl e
  · rename_i e; exact .inr e
  · cases h2
theorem tgNs_names {pos : Pos} (hn : X.N = N) (nd : X.N.Nodup) (hs : X.env.scope = sc) (st : ∀ x ∈ sn, X.fn x = true ∨ X.env.scope.names.lookup x = some .local) :
    ∀ {is : List Nat} {es : List Expr}, tgNs sn sc N is es = true → PGs X es (gNames is) ∧ (assignEach es X.env).length = is.length ∧ (assignEach es X.env).findIdx? (·.1) = none
  | [], [], _ => ⟨pgs_nil, rfl, rfl⟩
  | i :: is, e :: es, h => by
    obtain ⟨h1, h2⟩ := Bool.and_eq_true_iff.mp (show (tgN sn sc N i e && tgNs sn sc N is es) = true from h)
    obtain ⟨p1, p2, x, p, rfl⟩ := tgN_name hn nd hs st h1
    obtain ⟨q1, q2, q3⟩ := tgNs_names (pos := pos) hn nd hs st h2
    refine ⟨pgs_cons p1 q1 rfl, ?_, ?_⟩
    · show (assignEach es X.env).length + 1 = is.length + 1
      rw [q2]
    · show ((false, assign (.Name x p) X.env) :: assignEach es X.env).findIdx? (·.1) = none
      rw [List.findIdx?_cons, q3]
      rfl
  | [], _ :: _, h => by cases h
  | _ :: _, [], h => by cases h
theorem tgB_ok {t : T} {e : Expr} (hn : X.N = N) (nd : X.N.Nodup) (hs : X.env.scope = sc) (hc : X.calm = true) (st : ∀ x ∈ sn, X.fn x = true ∨ X.env.scope.names.lookup x = some .local) (h : tgB sn sc N t e = true) : PG X e (gT X.K t) := by
  cases t with
  | v i => exact (tgN_name hn nd hs st h).1
  | tup is =>
    cases e <;> first | cases h | skip
    rename_i es k p
    obtain ⟨q1, q2, q3⟩ := tgNs_names (pos := p) hn nd hs st h
    exact pg_tup hc q1 q2 q3
end

/-! ### what is walked -/
structure WOk (K : KW) (Φ : Hp) (ρ : List Addr) (xs : List D) (J : It) : Prop where
  go : ∀ i H, i < xs.length → Same Φ H → J.go i H
  stop : ∀ H, Same Φ H → J.stop xs.length H
  yld : ∀ i H x H', i < xs.length → Same Φ H → J.yld i H x H' → ∃ d, xs[i]? = some d ∧ ((H' = H ∧ Rep K Φ ρ d x) ∨ ∃ T vs ds, x = .ref T ∧ H T = none ∧ H' = upd H T (.tup vs) ∧ d = .tup ds ∧ Reps K Φ ρ ds vs)
section
variable {K : KW} {Φ : Hp} {ρ : List Addr} {xs ys : List D} {vs ws : List V} {a c : Addr}
theorem wok_at {J : It} {G : Hp → Prop} (w : Walk J vs.length G (YAt vs)) (hG : ∀ H, Same Φ H → G H) (rs : Reps K Φ ρ xs vs) : WOk K Φ ρ xs J := by
  have hl := reps_len rs
  refine ⟨fun i H hi h => w.goes i H (by omega) (hG H h), fun H h => by rw [← hl]; exact w.stops H (hG H h), fun i H x H' hi h y => ?_⟩
  obtain ⟨e1, e2⟩ := w.yields i H x H' (by omega) (hG H h) y
  refine ⟨xs[i], List.getElem?_eq_getElem hi, .inl ⟨e1, ?_⟩⟩
  obtain ⟨v, hv, rv⟩ := reps_get rs (List.getElem?_eq_getElem hi)
  rw [hv] at e2; cases e2
  exact rv
theorem wok_pair {J : It} {n : Nat} {G : Hp → Prop} {f g : Nat → Option V} (w : Walk J n G (YPair f g)) (hn : xs.length = n) (hG : ∀ H, Same Φ H → G H)
    (h : ∀ i, i < n → ∃ d e, xs[i]? = some (.tup [d, e]) ∧ ∀ x y, f i = some x → g i = some y → Rep K Φ ρ d x ∧ Rep K Φ ρ e y) : WOk K Φ ρ xs J := by
  subst hn
  refine ⟨fun i H hi q => w.goes i H hi (hG H q), fun H q => w.stops H (hG H q), fun i H x H' hi q y => ?_⟩
  obtain ⟨T, v1, v2, e1, e2, e3, e4, e5⟩ := w.yields i H x H' hi (hG H q) y
  obtain ⟨d, e, h1, h2⟩ := h i hi
  obtain ⟨r1, r2⟩ := h2 v1 v2 e4 e5
  exact ⟨_, h1, .inr ⟨T, [v1, v2], [d, e], e1, e2, e3, rfl, reps_cons r1 (reps_one r2)⟩⟩
theorem zipD_len : ∀ (xs ys : List D), (zipD xs ys).length = min xs.length ys.length
  | [], _ => by simp [zipD]
  | _ :: _, [] => by simp [zipD]
  | x :: xs, y :: ys => by simp [zipD, zipD_len xs ys]
theorem zipD_at : ∀ (xs ys : List D) (i : Nat) (h : i < (zipD xs ys).length), ∃ d e, xs[i]? = some d ∧ ys[i]? = some e ∧ (zipD xs ys)[i]? = some (.tup [d, e])
  | [], _, _, h => by simp [zipD] at h
  | _ :: _, [], _, h => by simp [zipD] at h
  | x :: xs, y :: ys, 0, _ => ⟨x, y, rfl, rfl, rfl⟩
  | x :: xs, y :: ys, i + 1, h => zipD_at xs ys i (by simpa [zipD] using h)
theorem enmD_len : ∀ (k : Nat) (xs : List D), (enmD k xs).length = xs.length
  | _, [] => rfl
  | k, x :: xs => congrArg Nat.succ (enmD_len (k + 1) xs)
theorem enmD_at : ∀ (k : Nat) (xs : List D) (i : Nat) (h : i < xs.length), (enmD k xs)[i]? = some (.tup [.int (k + i : Nat), xs[i]])
  | k, x :: xs, 0, _ => rfl
  | k, x :: xs, i + 1, h => by
    show (enmD (k + 1) xs)[i]? = _
    rw [enmD_at (k + 1) xs i (by simpa using h)]
    have e : k + 1 + i = k + (i + 1) := by omega
    rw [e]
    rfl
end
end Ly
set_option Elab.async false
set_option linter.all false
set_option maxRecDepth 100000
set_option maxHeartbeats 2000000
/-! Ly10e: enumerate over a tuple. -/
namespace Ly
open PySem PySem.Spec PyProof.Rows L2
theorem new_enumB {x : Value} {ob : Obj} {C : Heap → Prop} (B : Begins x ob C) :
    Meets (Builtin.«enumerate.__new__» ⟨[.type "enumerate", x], []⟩) (fun _ R s => C s.heap ∧
      R (.ok (.ret (.ref (s.heap.push ob).objs.size)))
        { s with heap := (s.heap.push ob).push ⟨.type "enumerate", none, .fields #[.none, .bool false, .ref s.heap.objs.size, rawInt 0, .none, .none], #[]⟩ }) :=
  .of_wp fun prog w A R s h => by
    obtain ⟨hp, g, d, tk, os⟩ := s
    obtain ⟨hC, h⟩ := h
    have sub := sub_enumerate
    have it_ : ∀ {A' : Around} {E Q : Value → Shared → Prop}, Q (.ref hp.objs.size) ⟨hp.push ob, g, d, tk, os⟩ → wpAny (model prog w) A' (pyIter x) Q E ⟨hp, g, d, tk, os⟩ :=
      fun z => B.iter prog w _ _ ⟨hp, g, d, tk, os⟩ _ hC z
    wp_walk using it_
    refine wpAny_stack_any fun _ => wpAny_pure ?_
    split
    · rename_i c' _ _ _ _ _
      cases (c' == Value.type "enumerate") <;> (wp_walk using it_ ; exact ⟨_, rfl, h⟩)
    · wp_walk using it_
      exact ⟨_, rfl, h⟩
section
variable {prog : Program} {w : World} {A : Around} {E : Value → Shared → Prop} {s : Shared}
theorem call_enumB {x : Value} {ob : Obj} {C : Heap → Prop} {Q : Value → Shared → Prop} (B : Begins x ob C) (hC : C s.heap)
    (h : ∀ h', IsEnum h' (s.heap.objs.size + 1) s.heap.objs.size 0 .none → h'.get? s.heap.objs.size = some ob → (∀ b o, s.heap.get? b = some o → h'.get? b = some o) →
      Q (.ref (s.heap.objs.size + 1)) { s with heap := h' }) : wpAny (model prog w) A (call (.type "enumerate") [x]) Q E s := by
  refine callType_new F.called_enumerate (by decide) (F.typeCall_enumerate_1 _)
    (F.newCall_enumerate_1 _) (fun z => F.args_object_init_2 z _) F.entry_enumerate_new
    (new_enumB B) ⟨hC, ?_⟩
  have sz : (s.heap.push ob).objs.size = s.heap.objs.size + 1 := Heap.size_push ..
  show _ ∧ _
  rw [sz]
  have en : IsEnum ((s.heap.push ob).push ⟨.type "enumerate", none, .fields #[.none, .bool false, .ref s.heap.objs.size, rawInt 0, .none, .none], #[]⟩)
      (s.heap.objs.size + 1) s.heap.objs.size 0 .none := by
    have q := Heap.get?_push_size (s.heap.push ob) (o := ⟨.type "enumerate", none, .fields #[.none, .bool false, .ref s.heap.objs.size, rawInt 0, .none, .none], #[]⟩) rfl
    rw [sz] at q
    exact q
  exact ⟨⟨_, en, rfl⟩, h _ en (Heap.get?_push_of_some _ (Heap.get?_push_size _ B.free)) fun b o z => Heap.get?_push_of_some _ (Heap.get?_push_of_some _ z)⟩
end
/-- the tuple at a, item by item, in new pairs with the turn's number -/
def IteT (K : PySem.W.Frag) (a : Addr) : It where
  go := fun i H => ∃ (us : List V) (u : V), SqT K H a us ∧ us[i]? = some u
  yld := fun i H v H' => ∃ T u, v = .ref T ∧ H T = none ∧ H' = upd H T (.tup [.int (i : Nat), u]) ∧ ∀ us, SqT K H a us → us[i]? = some u
  stop := fun i H => ∃ us : List V, SqT K H a us ∧ us.length ≤ i
def EnT (e it a : Addr) (i : Nat) (h : Heap) : Prop := (∃ old, IsEnum h e it ((i : Nat) : Int) old) ∧ h.IsTupleIter it a i ∧ e ≠ it
theorem turn_enumT {P : Program} {w : World} {K : PySem.W.Frag} {elts : List Expr} {kk : Nat} {tpos : Pos} (a e it : Addr) (hia : a ≠ it) : Turn P w K (.Tuple elts kk tpos) (IteT K a) [e, it] e (EnT e it a) where
  mem := List.mem_cons_self
  obj := fun i h st b hb => by
    obtain ⟨⟨old, en⟩, ⟨o, ho, _, hd⟩, _⟩ := st
    rcases List.mem_cons.mp hb with z | z
    · subst z; exact ⟨_, en, fun v q => nomatch q⟩
    · have z := List.mem_singleton.mp z
      subst z; exact ⟨o, ho, fun v q => by rw [hd] at q; cases q⟩
  keep := fun i h h' st k => by
    obtain ⟨⟨old, en⟩, ti, ne⟩ := st
    exact ⟨⟨old, k e List.mem_cons_self _ en⟩, ti.at fun o q => k it (List.mem_cons_of_mem _ List.mem_cons_self) o q, ne⟩
  item := by
    intro X q1 q2 q3 calm i pins s σ H E I hf st hg
    subst q1 q2 q3
    obtain ⟨⟨old, en⟩, ti, ne⟩ := st
    obtain ⟨us, u, hq, hu⟩ := hg
    obtain ⟨its, rv, tp, _⟩ := I.tuple hq
    obtain ⟨y, hy, ry⟩ := rv.get hu
    have tp : s.heap.IsTuple a its.toArray := tp
    have le : e < s.heap.objs.size := Heap.lt_size en
    have li : it < s.heap.objs.size := by obtain ⟨_, q, _⟩ := ti; exact Heap.lt_size q
    have hlt : i < its.toArray.size := by
      have := (List.getElem?_eq_some_iff.mp hy).1
      simpa using this
    have ea : e ≠ a := fun z => by
      subst z
      obtain ⟨o, ho, hc2, _⟩ := tp
      have en2 := en
      unfold IsEnum at en2
      rw [ho] at en2
      have q := congrArg (fun z : Option Obj => z.map Obj.cls) en2
      have q2 : o.cls = .type "enumerate" := Option.some.inj q
      rw [hc2] at q2
      exact absurd q2 (by decide)
    have D := Draws.tuple (prog := X.prog) (w := X.w) (A := X.A.in1) (I.ok.hd calm) it a hia its.toArray
    refine wpAny_pyNext_enum_itemD D en ⟨ti, tp⟩ hlt ne (fun z => ?_) fun x h' tk hx out st' hT _ hk => ?_
    · rcases List.mem_cons.mp z with z | z
      · exact ne z
      · exact ea (List.mem_singleton.mp z)
    have hx : its.toArray[i]? = some x := hx
    have exy : x = y := by
      have h2 : its.toArray[i]? = some y := by simpa using hy
      rw [h2] at hx
      exact (Option.some.inj hx).symm
    subst exy
    refine ⟨_, rfl, wpAny_letOwnedTupleGo_enum (s := { s with heap := h', toks := tk + 1 }) out fun h'' en' sb => ?_⟩
    have hT2 : h''.get? s.heap.objs.size = some { cls := .type "tuple", data := .seq #[.int i tk, x] } := (sb.2 _ (Nat.ne_of_gt le)).trans hT
    have new : ObjOk X.prog X.w (upd H s.heap.objs.size (.tup [.int (i : Nat), u])) h'' s.heap.objs.size (.tup [.int (i : Nat), u]) :=
      ⟨by show 2 ≤ sizeLine; decide, [.int i tk, x], .cons ⟨_, rfl⟩ (.cons ry .nil), ⟨_, hT2, rfl, _, rfl⟩⟩
    have I1 : Inv X pins σ (upd H s.heap.objs.size (.tup [.int (i : Nat), u])) { s with heap := h'', toks := tk + 1 } :=
      I.turnedNew (ch := [e, it]) (fun b o nb q => by
        have n1 : b ≠ e := fun z => nb (by simp [z])
        have n2 : b ≠ it := fun z => nb (by simp [z])
        exact (sb.2 b n1).trans (hk b o n1 n2 q)) hf (Nat.le_refl _) new
    refine ⟨.ref s.heap.objs.size, _, I1, rfl, ⟨_, u, rfl, I.hok.fresh (Nat.le_refl _), rfl, fun ys hy => by rw [I.tuple_inj hy hq]; exact hu⟩, ⟨⟨x, ?_⟩, st'.1.at fun o q => (sb.2 it (Ne.symm ne)).trans q, ne⟩, fun b hb => ?_⟩
    · rw [show ((i + 1 : Nat) : Int) = (i : Int) + 1 from by omega]
      exact en'
    · have lb : b < s.heap.objs.size := by
        rcases List.mem_cons.mp hb with z | z
        · subst z; exact le
        · have z := List.mem_singleton.mp z
          subst z; exact li
      rw [upd_ne (Nat.ne_of_lt lb)]
      exact (hf b hb).1
  done := by
    intro X q1 q2 q3 calm i pins s σ H E I hf st hg
    subst q1 q2 q3
    obtain ⟨⟨old, en⟩, ti, ne⟩ := st
    obtain ⟨us, hq, hle⟩ := hg
    obtain ⟨its, rv, tp, _⟩ := I.tuple hq
    obtain ⟨f0, f1, f2, f3, f4, f5⟩ := hf it (List.mem_cons_of_mem _ List.mem_cons_self)
    have hl := rv.length
    have tp : s.heap.IsTuple a its.toArray := tp
    have D : Draws X.prog X.w X.A.in1 it [it, a] 0 (fun _ _ => False) (fun _ h => h.IsTupleIter it a i ∧ h.IsTuple a its.toArray) :=
      { live := fun _ _ st => let ⟨o, ho, _⟩ := st.1; ⟨o, ho⟩
        frame := fun _ _ _ st hk => ⟨st.1.at fun o e => hk it List.mem_cons_self o e, st.2.at fun o e => hk a (List.mem_cons_of_mem _ List.mem_cons_self) o e⟩
        item := fun _ _ _ _ z => absurd z (Nat.not_lt_zero _)
        done := fun s Q E st hE => wpAny_nextOf_tuple_end (I.ok.hd calm) st.1 st.2 (by simp; omega) hE }
    exact wpAny_pyNext_enum_endD D en ⟨ti, tp⟩ fun h' eb => ⟨rfl, I.turned (t' := s.toks) (fun b o hb q => eb b o hb q) f0 f1 f3 f4 f5⟩
  self := fun A i s Q E st h => let ⟨⟨_, en⟩, _⟩ := st; wpAny_pyIter_enum en h
def iEnT (K : PySem.W.Frag) (ta : TA) : TI := fun σ H R => ta σ H fun vs H1 => ∃ a us, vs = [.ref a] ∧ SqT K H1 a us ∧ R (IteT K a) H1
theorem pi_enumT {X : Cx} {e : Expr} {ta : TA} {p pos tpos : Pos} {elts : List Expr} {kk : Nat} (hg : Gl X "enumerate") (hm : X.mg "enumerate" = none) (ha : PA X [e] ta) (hs : starEach [e] X.env = [(false, eval e X.env)]) :
    PI X (.Tuple elts kk tpos) (.Call (.Name "enumerate" p) [e] [] pos) (iEnT X.K ta) := by
  refine ⟨fun pins s σ H R I h => ?_⟩
  refine Call_ (ld_blt I hg hm boot_enumerate (PyProof.Rows.callWith_type1 (thn (ha.run pos pins s σ H _ I h) fun vals s1 ⟨vs, H1, I1, r1, a, us, ex, hq, q⟩ => ?_) hs rfl))
  subst ex
  cases r1 with
  | cons r rr =>
    cases rr
    cases r
    obtain ⟨its, rv, tp, _⟩ := I1.tuple hq
    have tp : s1.heap.IsTuple a its.toArray := tp
    have la : a < s1.heap.objs.size := by obtain ⟨_, q, _⟩ := tp; exact Heap.lt_size q
    refine call_enumB (begins_tuple a its.toArray) tp fun h' en ho hk => wpAny_pyIter_enum en ?_
    have J2 := I1.kept (t' := s1.toks) hk
    refine ⟨s1.heap.objs.size + 1, [s1.heap.objs.size + 1, s1.heap.objs.size], _, _, H1, rfl, J2, turn_enumT a (s1.heap.objs.size + 1) s1.heap.objs.size (Nat.ne_of_lt la), ⟨⟨.none, en⟩, ⟨_, ho, rfl, rfl⟩, Nat.succ_ne_self _⟩, fun b hb => ?_, q⟩
    have low : s1.heap.objs.size ≤ b := by
      rcases List.mem_cons.mp hb with z | z
      · rw [z]; exact Nat.le_add_right _ _
      · rw [List.mem_singleton.mp z]; exact Nat.le_refl _
    exact I1.fpOk low (I1.hok.fresh low)
theorem walk_enumT {K : PySem.W.Frag} {a : Addr} {us : List V} : Walk (IteT K a) us.length (fun H => SqT K H a us) (YPair (fun i => some (.int (i : Nat))) (fun i => us[i]?)) where
  goes := fun i _ hi q => ⟨us, us[i], q, by simp [hi]⟩
  stops := fun _ q => ⟨us, q, Nat.le_refl _⟩
  yields := fun i H v H' _ q y => by
    obtain ⟨T, u, e1, e2, e3, e4⟩ := y
    exact ⟨T, _, u, e1, e2, e3, rfl, e4 us q⟩
end Ly
set_option Elab.async false
set_option linter.all false
set_option maxRecDepth 100000
set_option maxHeartbeats 2000000
/-! Ly11: what is walked. -/
namespace Ly
open PySem PySem.Spec PyProof.Rows L2
section
variable {K : KW} {Φ : Hp} {ρ : List Addr} {xs ys : List D} {vs ws : List V} {a c : Addr}
theorem wok_rng {lo : Int} {n : Nat} : WOk K Φ ρ (rngL lo n) (Itr lo n) := by
  have hl : (rngL lo n).length = n := by simp [rngL]
  refine ⟨fun i H hi _ => by show i < n; omega, fun H _ => by show n ≤ _; omega, fun i H x H' hi _ y => ?_⟩
  obtain ⟨e1, e2⟩ := y
  refine ⟨.int (lo + i), ?_, .inl ⟨e1, e2⟩⟩
  unfold rngL
  rw [List.getElem?_map, List.getElem?_range (by omega)]
  rfl
theorem wok_rngC {lo k : Int} {n : Nat} : WOk K Φ ρ (rngD lo n k) (Itc lo k n) := by
  have hl : (rngD lo n k).length = n := by simp [rngD]
  refine ⟨fun i H hi _ => by show i < n; omega, fun H _ => by show n ≤ _; omega, fun i H x H' hi _ y => ?_⟩
  obtain ⟨e1, e2⟩ := y
  refine ⟨.int (lo + (i : Nat) * k), ?_, .inl ⟨e1, e2⟩⟩
  unfold rngD
  rw [List.getElem?_map, List.getElem?_range (by omega)]
  rfl
theorem wok_str {z : Str} : WOk K Φ ρ (z.cps.toList.map fun c => .str ⟨#[c]⟩) (Its z) := by
  have hl : (z.cps.toList.map fun c => D.str ⟨#[c]⟩).length = z.cps.size := by simp
  refine ⟨fun i H hi _ => by show i < _; omega, fun H _ => by show z.cps.size ≤ _; omega, fun i H x H' hi _ y => ?_⟩
  obtain ⟨e1, c, e2, e3⟩ := y
  refine ⟨.str ⟨#[c]⟩, ?_, .inl ⟨e1, e3⟩⟩
  rw [List.getElem?_map, Array.getElem?_toList, e2]
  rfl
theorem wok_rev (hΦ : ∀ H, Same Φ H → SqL K.f H a vs) (rs : Reps K Φ ρ xs vs) : WOk K Φ ρ xs.reverse (Itv K.f a vs.length) := by
  have hl := reps_len rs
  have w := walk_rev (K := K.f) (a := a) (xs := vs)
  refine ⟨fun i H hi h => w.goes i H (by simp at hi; omega) (hΦ H h), fun H h => by
    have := w.stops H (hΦ H h)
    simp only [List.length_reverse]
    rw [← hl]; exact this, fun i H x H' hi h y => ?_⟩
  have hi2 : i < xs.length := by simpa using hi
  obtain ⟨e1, e2⟩ := w.yields i H x H' (by omega) (hΦ H h) y
  have e3 : xs.reverse[i]? = xs[xs.length - 1 - i]? := by rw [List.getElem?_reverse hi2]
  refine ⟨xs[xs.length - 1 - i]'(by omega), by rw [e3]; exact List.getElem?_eq_getElem _, .inl ⟨e1, ?_⟩⟩
  obtain ⟨v, hv, rv⟩ := reps_get (i := xs.length - 1 - i) rs (List.getElem?_eq_getElem (by omega))
  rw [hl] at e2
  rw [hv] at e2; cases e2
  exact rv
theorem wok_enum (hΦ : ∀ H, Same Φ H → SqL K.f H a vs) (rs : Reps K Φ ρ xs vs) : WOk K Φ ρ (enmD 0 xs) (Ite K.f a) := by
  have hl := reps_len rs
  refine wok_pair (walk_enum (xs := vs)) (by rw [enmD_len, hl]) hΦ fun i hi => ?_
  have hi2 : i < xs.length := by omega
  refine ⟨.int (i : Nat), xs[i], by rw [enmD_at 0 xs i hi2, Nat.zero_add], fun x y e1 e2 => ?_⟩
  cases e1
  obtain ⟨v, hv, rv⟩ := reps_get rs (List.getElem?_eq_getElem hi2)
  rw [hv] at e2; cases e2
  exact ⟨rfl, rv⟩
theorem wok_enumT (hΦ : ∀ H, Same Φ H → SqT K.f H a vs) (rs : Reps K Φ ρ xs vs) : WOk K Φ ρ (enmD 0 xs) (IteT K.f a) := by
  have hl := reps_len rs
  refine wok_pair (walk_enumT (us := vs)) (by rw [enmD_len, hl]) hΦ fun i hi => ?_
  have hi2 : i < xs.length := by omega
  refine ⟨.int (i : Nat), xs[i], by rw [enmD_at 0 xs i hi2, Nat.zero_add], fun x y e1 e2 => ?_⟩
  cases e1
  obtain ⟨v, hv, rv⟩ := reps_get rs (List.getElem?_eq_getElem hi2)
  rw [hv] at e2; cases e2
  exact ⟨rfl, rv⟩
theorem walk_zipT {f : PySem.W.Frag} {xs ys : List V} {n : Nat} (hn : n = min xs.length ys.length) : Walk (RZ.ItzT f a c) n (fun H => SqT f H a xs ∧ SqT f H c ys) (YPair (fun i => xs[i]?) (fun i => ys[i]?)) := by
  subst hn
  refine ⟨fun i _ hi q => ?_, fun _ q => ⟨xs, ys, q.1, q.2, by omega⟩, fun i H v H' _ q y => ?_⟩
  · have h1 : i < xs.length := by omega
    have h2 : i < ys.length := by omega
    exact ⟨xs, ys, xs[i], ys[i], q.1, q.2, by simp [h1], by simp [h2]⟩
  · obtain ⟨T, x, z, h1, h2, h3, h4, h5⟩ := y
    exact ⟨T, x, z, h1, h2, h3, h4 xs q.1, h5 ys q.2⟩
theorem zip_at (rs : Reps K Φ ρ xs vs) (qs : Reps K Φ ρ ys ws) : (zipD xs ys).length = min vs.length ws.length ∧ ∀ i, i < min vs.length ws.length → ∃ d e, (zipD xs ys)[i]? = some (.tup [d, e]) ∧ ∀ x y, vs[i]? = some x → ws[i]? = some y → Rep K Φ ρ d x ∧ Rep K Φ ρ e y := by
  have hz : (zipD xs ys).length = min vs.length ws.length := by rw [zipD_len, reps_len rs, reps_len qs]
  refine ⟨hz, fun i hi => ?_⟩
  obtain ⟨d, e, h1, h2, h3⟩ := zipD_at xs ys i (by omega)
  refine ⟨d, e, h3, fun x y e1 e2 => ?_⟩
  obtain ⟨v, hv, rv⟩ := reps_get rs h1
  obtain ⟨w, hw, rw'⟩ := reps_get qs h2
  rw [hv] at e1; cases e1
  rw [hw] at e2; cases e2
  exact ⟨rv, rw'⟩
theorem wok_zip (hΦ : ∀ H, Same Φ H → SqL K.f H a vs ∧ SqL K.f H c ws) (rs : Reps K Φ ρ xs vs) (qs : Reps K Φ ρ ys ws) : WOk K Φ ρ (zipD xs ys) (Itz K.f a c) :=
  wok_pair (walk_zip (xs := vs) (ys := ws) rfl) (zip_at rs qs).1 hΦ (zip_at rs qs).2
theorem wok_zipT (hΦ : ∀ H, Same Φ H → SqT K.f H a vs ∧ SqT K.f H c ws) (rs : Reps K Φ ρ xs vs) (qs : Reps K Φ ρ ys ws) : WOk K Φ ρ (zipD xs ys) (RZ.ItzT K.f a c) :=
  wok_pair (walk_zipT (xs := vs) (ys := ws) rfl) (zip_at rs qs).1 hΦ (zip_at rs qs).2
end

theorem ifs' {α : Type} {c : Bool} {a b : α} (h : (if c = true then some a else none) = some b) : c = true ∧ a = b := by
  cases c with
  | true => exact ⟨rfl, Option.some.inj h⟩
  | false => cases h
def fWk (k : IK) (f : S → R (List D)) : S → R (List D) := fun s => (f s).bind fun ds s => liftO s (walkD k ds)
def tI (K : KW) (b : Bs) (W : WX) (k : IK) (f : S → R (List D)) : TI := fun σ H R => ∃ Φ ρ s, Rel K b Φ ρ s σ H ∧
  (fWk k f s).wp (fun xs s' => ∀ Φ' ρ' H' J, Same Φ Φ' → ρ <+: ρ' → Rel K b Φ' ρ' s' σ H' → WOk K Φ' ρ' xs J → R J H') (ZX K b W Φ ρ σ)
section
variable {X : Cx} {b : Bs} {W : WX} {pos p : Pos} {tg x y z : Expr} {fn : Str} {fa fb fc : S → R (D × Bool)} {f : S → R (List D)} {sc : Scope}
theorem pi_seq (ha : PE X x (tE X.kw b W fa)) : PI X tg x (tI X.kw b W .seq (fCons fa fNil)) := by
  refine ⟨fun pins s σ H R I ⟨Φ, ρ, s0, r, w⟩ => ?_⟩
  unfold fWk fCons fNil at w
  cases hf : fa s0 with
  | no => rw [hf] at w; exact w.elim
  | exc cc fs s1 =>
    rw [hf] at w
    exact (pi_list ha).run pins s σ H R I ⟨Φ, ρ, s0, r, by rw [hf]; exact w⟩
  | ok q s1 =>
    rw [hf] at w
    obtain ⟨xs, e, w'⟩ := wp_liftO (show (liftO s1 (walkD .seq [q.1])).wp _ _ from w)
    clear w
    have w := w'
    clear w'
    obtain ⟨d, fr⟩ := q
    cases d <;> first | cases e | skip
    · rename_i zz
      refine (pi_str ha).run pins s σ H R I ⟨Φ, ρ, s0, r, ?_⟩
      rw [hf]
      intro Φ' ρ' H' v h1 h2 r1 rr
      obtain ⟨Φ2, k1, r2, rp⟩ := settle r1 rr
      have e : (if zz.length ≤ sizeLine then some (zz.cps.toList.map fun c => D.str ⟨#[c]⟩) else none) = some xs := e
      by_cases hz : zz.length ≤ sizeLine
      · rw [if_pos hz] at e
        cases e
        exact ⟨zz, rp, w Φ2 ρ' H' _ (h1.trans k1) h2 r2 wok_str⟩
      · rw [if_neg hz] at e; cases e
    · refine (pi_tup ha).run pins s σ H R I ⟨Φ, ρ, s0, r, ?_⟩
      rw [hf]
      intro Φ' ρ' H' v h1 h2 r1 rr
      obtain ⟨Φ2, k1, r2, rp⟩ := settle r1 rr
      obtain ⟨l, vs, e2, hq, rs, _⟩ := rp
      exact ⟨l, e2, ⟨vs, sqT_mono r2.sub hq⟩, w Φ2 ρ' H' _ (h1.trans k1) h2 r2 (wok_at walk_tup (fun _ h => sqT_mono h hq) rs)⟩
    · refine (pi_list ha).run pins s σ H R I ⟨Φ, ρ, s0, r, ?_⟩
      rw [hf]
      intro Φ' ρ' H' v h1 h2 r1 rr
      obtain ⟨Φ2, k1, r2, rp⟩ := settle r1 rr
      obtain ⟨l, vs, e2, hq, rs⟩ := rp
      exact ⟨l, e2, ⟨vs, SqL.of (r2.sub _ _ hq)⟩, w Φ2 ρ' H' _ (h1.trans k1) h2 r2 (wok_at walk_list (fun _ h => SqL.of (h _ _ hq)) rs)⟩
theorem reps1 {K : KW} {Φ : Hp} {ρ : List Addr} {d : D} {vs : List V} (h : Reps K Φ ρ [d] vs) : ∃ v, vs = [v] ∧ Rep K Φ ρ d v := by
  obtain ⟨v, ws, e, r, rs⟩ := h
  cases rs
  exact ⟨v, e, r⟩
theorem small_of {i : Int} (h : small62 i = true) : -(2 ^ 62) ≤ i ∧ i < 2 ^ 62 := by
  unfold small62 at h
  simpa using h
theorem pi_rng {xs : List Expr} (hs : X.env.scope = sc) (hg : gB sc fn = true) (hn : fn = "range") (hm : X.mg "range" = none) (hp : xs.all plainX = true) (hl : ∀ s ds s', f s = .ok ds s' → ds.length = xs.length) (hx : (!xs.isEmpty && decide (xs.length ≤ 3)) = true) (ha : PA X xs (tA X.kw b W f)) :
    PI X tg (.Call (.Name fn p) xs [] pos) (tI X.kw b W .rng f) := by
  subst hn
  obtain ⟨hG, _⟩ := gl_of hs hg
  match xs, hx with
  | [x1], _ =>
    obtain ⟨g1, _⟩ := Bool.and_eq_true_iff.mp (show (plainX x1 && true) = true from hp)
    have pi := pi_range1 (X := X) (tg := tg) (p := p) (pos := pos) hG hm ha (plain_star g1)
    refine ⟨fun pins s σ H R I ⟨Φ, ρ, s0, r, w⟩ => ?_⟩
    unfold fWk at w
    refine pi.run pins s σ H R I ⟨Φ, ρ, s0, r, ?_⟩
    cases hf : f s0 with
    | no => rw [hf] at w; exact w.elim
    | exc cc fs s1 => rw [hf] at w; exact w
    | ok ds s1 =>
      rw [hf] at w
      obtain ⟨ys, e, w⟩ := wp_liftO (show (liftO s1 (walkD .rng ds)).wp _ _ from w)
      have hlen := hl _ _ _ hf
      intro Φ' ρ' H' vs h1 h2 r1 rs
      match ds, hlen with
      | [d], hl2 =>
        obtain ⟨v, rfl, rv⟩ := reps1 rs
        cases d <;> first | cases e | skip
        rename_i n
        have e : (if small62 n = true then some (rngL 0 n.toNat) else none) = some ys := e
        obtain ⟨e1, e2⟩ := ifs' e
        cases e2
        obtain ⟨b1, b2⟩ := small_of e1
        exact ⟨n, by rw [show v = V.int n from rv], b1, b2, w Φ' ρ' H' _ h1 h2 r1 wok_rng⟩
  | [x1, x2], _ =>
    obtain ⟨g1, g2⟩ := Bool.and_eq_true_iff.mp (show (plainX x1 && (plainX x2 && true)) = true from hp)
    obtain ⟨g2, _⟩ := Bool.and_eq_true_iff.mp g2
    have pi := pi_range2 (X := X) (tg := tg) (p := p) (pos := pos) hG hm ha (by rw [plain_star g1, plain_star g2] <;> rfl) (plain_star g2)
    refine ⟨fun pins s σ H R I ⟨Φ, ρ, s0, r, w⟩ => ?_⟩
    unfold fWk at w
    refine pi.run pins s σ H R I ⟨Φ, ρ, s0, r, ?_⟩
    cases hf : f s0 with
    | no => rw [hf] at w; exact w.elim
    | exc cc fs s1 => rw [hf] at w; exact w
    | ok ds s1 =>
      rw [hf] at w
      obtain ⟨ys, e, w⟩ := wp_liftO (show (liftO s1 (walkD .rng ds)).wp _ _ from w)
      have hlen := hl _ _ _ hf
      intro Φ' ρ' H' vs h1 h2 r1 rs
      match ds, hlen with
      | [d, d2], hl2 =>
        obtain ⟨v, ws, rfl, rv, rs⟩ := rs
        obtain ⟨v2, rfl, rv2⟩ := reps1 rs
        cases d <;> first | cases e | skip
        cases d2 <;> first | cases e | skip
        rename_i n m
        have e : (if (small62 n && small62 m) = true then some (rngL n (m - n).toNat) else none) = some ys := e
        obtain ⟨e1, e2⟩ := ifs' e
        cases e2
        obtain ⟨e3, e4⟩ := Bool.and_eq_true_iff.mp e1
        obtain ⟨b1, b2⟩ := small_of e3
        obtain ⟨b3, b4⟩ := small_of e4
        exact ⟨n, m, by rw [show v = V.int n from rv, show v2 = V.int m from rv2], ⟨b1, b2, b3, b4⟩, w Φ' ρ' H' _ h1 h2 r1 wok_rng⟩
  | [x1, x2, x3], _ =>
    obtain ⟨g1, g2⟩ := Bool.and_eq_true_iff.mp (show (plainX x1 && (plainX x2 && (plainX x3 && true))) = true from hp)
    obtain ⟨g2, g3⟩ := Bool.and_eq_true_iff.mp g2
    obtain ⟨g3, _⟩ := Bool.and_eq_true_iff.mp g3
    have pi := pi_range3 (X := X) (tg := tg) (p := p) (pos := pos) hG hm ha (plain_star g1) (plain_stars (by rw [List.all_cons, List.all_cons, g2, g3] <;> rfl))
    refine ⟨fun pins s σ H R I ⟨Φ, ρ, s0, r, w⟩ => ?_⟩
    unfold fWk at w
    refine pi.run pins s σ H R I ⟨Φ, ρ, s0, r, ?_⟩
    cases hf : f s0 with
    | no => rw [hf] at w; exact w.elim
    | exc cc fs s1 => rw [hf] at w; exact w
    | ok ds s1 =>
      rw [hf] at w
      obtain ⟨ys, e, w⟩ := wp_liftO (show (liftO s1 (walkD .rng ds)).wp _ _ from w)
      have hlen := hl _ _ _ hf
      intro Φ' ρ' H' vs h1 h2 r1 rs
      match ds, hlen with
      | [d, d2, d3], hl2 =>
        obtain ⟨v, ws, rfl, rv, rs⟩ := rs
        obtain ⟨v2, ws2, rfl, rv2, rs⟩ := rs
        obtain ⟨v3, rfl, rv3⟩ := reps1 rs
        unfold walkD at e
        split at e <;> first | cases e | skip
        all_goals rename_i heq
        all_goals cases heq
        rename_i n m _
        obtain ⟨e1, e2⟩ := ifs' e
        cases e2
        obtain ⟨e3, e4⟩ := Bool.and_eq_true_iff.mp e1
        obtain ⟨b1, b2⟩ := small_of e3
        obtain ⟨b3, b4⟩ := small_of e4
        exact ⟨n, m, -1, _, by rw [show v = V.int n from rv, show v2 = V.int m from rv2, show v3 = V.int (-1) from rv3], RgC.neg b1 b2 b3 b4, w Φ' ρ' H' _ h1 h2 r1 wok_rngC⟩
theorem pi_enm (hs : X.env.scope = sc) (hg : gB sc fn = true) (hn : fn = "enumerate") (hm : X.mg "enumerate" = none) (hp : plainX x = true) (ht : isTup tg = true) (hl : ∀ s ds s', f s = .ok ds s' → ds.length = 1) (ha : PA X [x] (tA X.kw b W f)) :
    PI X tg (.Call (.Name fn p) [x] [] pos) (tI X.kw b W .enm f) := by
  subst hn
  obtain ⟨hG, _⟩ := gl_of hs hg
  cases tg <;> first | cases ht | skip
  rename_i elts kk tpos
  refine ⟨fun pins s σ H R I ⟨Φ, ρ, s0, r, w⟩ => ?_⟩
  have pi := pi_enum (X := X) (elts := elts) (kk := kk) (tpos := tpos) (p := p) (pos := pos) hG hm ha (plain_star hp)
  have piT := pi_enumT (X := X) (elts := elts) (kk := kk) (tpos := tpos) (p := p) (pos := pos) hG hm ha (plain_star hp)
  unfold fWk at w
  cases hf : f s0 with
  | no => rw [hf] at w; exact w.elim
  | exc cc fs s1 =>
    rw [hf] at w
    exact pi.run pins s σ H R I ⟨Φ, ρ, s0, r, by rw [hf]; exact w⟩
  | ok ds s1 =>
    rw [hf] at w
    obtain ⟨ys, e, w⟩ := wp_liftO (show (liftO s1 (walkD .enm ds)).wp _ _ from w)
    have hlen := hl _ _ _ hf
    match ds, hlen with
    | [d], hl2 =>
      cases d <;> first | cases e | skip
      · refine piT.run pins s σ H R I ⟨Φ, ρ, s0, r, ?_⟩
        rw [hf]
        intro Φ' ρ' H' vs h1 h2 r1 rs
        obtain ⟨v, rfl, rv⟩ := reps1 rs
        obtain ⟨l, us, rfl, hq, rs, _⟩ := rv
        exact ⟨l, us, rfl, sqT_mono r1.sub hq, w Φ' ρ' H' _ h1 h2 r1 (wok_enumT (fun _ h => sqT_mono h hq) rs)⟩
      · refine pi.run pins s σ H R I ⟨Φ, ρ, s0, r, ?_⟩
        rw [hf]
        intro Φ' ρ' H' vs h1 h2 r1 rs
        obtain ⟨v, rfl, rv⟩ := reps1 rs
        obtain ⟨l, us, rfl, hq, rs⟩ := rv
        exact ⟨l, us, rfl, SqL.of (r1.sub _ _ hq), w Φ' ρ' H' _ h1 h2 r1 (wok_enum (fun _ h => SqL.of (h _ _ hq)) rs)⟩
theorem pi_rvs (hs : X.env.scope = sc) (hg : gB sc fn = true) (hn : fn = "reversed") (hm : X.mg "reversed" = none) (hp : plainX x = true) (hl : ∀ s ds s', f s = .ok ds s' → ds.length = 1) (ha : PA X [x] (tA X.kw b W f)) :
    PI X tg (.Call (.Name fn p) [x] [] pos) (tI X.kw b W .rev f) := by
  subst hn
  obtain ⟨hG, _⟩ := gl_of hs hg
  have pi := pi_reversed (X := X) (tg := tg) (p := p) (pos := pos) hG hm ha (plain_star hp)
  refine ⟨fun pins s σ H R I ⟨Φ, ρ, s0, r, w⟩ => ?_⟩
  unfold fWk at w
  refine pi.run pins s σ H R I ⟨Φ, ρ, s0, r, ?_⟩
  cases hf : f s0 with
  | no => rw [hf] at w; exact w.elim
  | exc cc fs s1 => rw [hf] at w; exact w
  | ok ds s1 =>
    rw [hf] at w
    obtain ⟨ys, e, w⟩ := wp_liftO (show (liftO s1 (walkD .rev ds)).wp _ _ from w)
    have hlen := hl _ _ _ hf
    intro Φ' ρ' H' vs h1 h2 r1 rs
    match ds, hlen with
    | [d], hl2 =>
      obtain ⟨v, rfl, rv⟩ := reps1 rs
      cases d <;> first | cases e | skip
      obtain ⟨l, us, rfl, hq, rs⟩ := rv
      exact ⟨l, us, rfl, SqL.of (r1.sub _ _ hq), w Φ' ρ' H' _ h1 h2 r1 (wok_rev (fun _ h => SqL.of (h _ _ hq)) rs)⟩
theorem pi_zp (hs : X.env.scope = sc) (hg : gB sc fn = true) (hn : fn = "zip") (hm : X.mg "zip" = none) (hp : plainX x = true) (hp2 : plainX y = true) (ht : isTup tg = true) (hl : ∀ s ds s', f s = .ok ds s' → ds.length = 2) (ha : PA X [x, y] (tA X.kw b W f)) :
    PI X tg (.Call (.Name fn p) [x, y] [] pos) (tI X.kw b W .zip f) := by
  subst hn
  obtain ⟨hG, _⟩ := gl_of hs hg
  cases tg <;> first | cases ht | skip
  rename_i elts kk tpos
  have pi := RZ.pi_zipA (X := X) (elts := elts) (kk := kk) (tpos := tpos) (p := p) (pos := pos) hG hm ha (plain_star hp) (plain_stars (by rw [List.all_cons, hp2] <;> rfl))
  refine ⟨fun pins s σ H R I ⟨Φ, ρ, s0, r, w⟩ => ?_⟩
  unfold fWk at w
  refine pi.run pins s σ H R I ⟨Φ, ρ, s0, r, ?_⟩
  cases hf : f s0 with
  | no => rw [hf] at w; exact w.elim
  | exc cc fs s1 => rw [hf] at w; exact w
  | ok ds s1 =>
    rw [hf] at w
    obtain ⟨ys, e, w⟩ := wp_liftO (show (liftO s1 (walkD .zip ds)).wp _ _ from w)
    have hlen := hl _ _ _ hf
    intro Φ' ρ' H' vs h1 h2 r1 rs
    match ds, hlen with
    | [d, d2], hl2 =>
      obtain ⟨v, ws, rfl, rv, rs⟩ := rs
      obtain ⟨v2, rfl, rv2⟩ := reps1 rs
      cases d <;> first | cases e | skip
      · cases d2 <;> first | cases e | skip
        obtain ⟨l, us, rfl, hq, rs1, _⟩ := rv
        obtain ⟨l2, us2, rfl, hq2, rs2, _⟩ := rv2
        exact ⟨l, l2, us, us2, rfl, .inr ⟨sqT_mono r1.sub hq, sqT_mono r1.sub hq2, w Φ' ρ' H' _ h1 h2 r1 (wok_zipT (fun _ h => ⟨sqT_mono h hq, sqT_mono h hq2⟩) rs1 rs2)⟩⟩
      · cases d2 <;> first | cases e | skip
        obtain ⟨l, us, rfl, hq, rs1⟩ := rv
        obtain ⟨l2, us2, rfl, hq2, rs2⟩ := rv2
        exact ⟨l, l2, us, us2, rfl, .inl ⟨SqL.of (r1.sub _ _ hq), SqL.of (r1.sub _ _ hq2), w Φ' ρ' H' _ h1 h2 r1 (wok_zip (fun _ h => ⟨SqL.of (h _ _ hq), SqL.of (h _ _ hq2)⟩) rs1 rs2)⟩⟩
end
end Ly
set_option Elab.async false
set_option linter.all false
set_option maxRecDepth 100000
set_option maxHeartbeats 2000000
/-! Ly12: comprehensions. -/
namespace Ly
open PySem PySem.Spec PyProof.Rows L2

/-- the ground, the new list at D with it -/
def Bs.at (b : Bs) (D : Addr) (vs : List V) : Bs := { b with H := upd b.H D (.lst vs) }
section
variable {K : KW} {b : Bs} {Φ Φ' H : Hp} {ρ ρ' : List Addr} {s s' : S} {σ σ' : L2.St} {D : Addr} {vs : List V}
theorem fresh_at {d : Ly.D} {v : V} (h : Fresh K (b.at D vs) Φ ρ H d v) : Fresh K b Φ ρ H d v ∧ v ≠ .ref D := by
  have key : ∀ a, (b.at D vs).H a = none → b.H a = none ∧ a ≠ D := fun a e => by
    have ne : a ≠ D := fun z => by
      subst z
      have e2 : upd b.H a (.lst vs) a = none := e
      rw [upd_same] at e2
      cases e2
    have e2 : upd b.H D (.lst vs) a = none := e
    rw [upd_ne ne] at e2
    exact ⟨e2, ne⟩
  cases d with
  | lst xs => obtain ⟨a, us, e, q, r, z1, z2, z3⟩ := h; exact ⟨⟨a, us, e, q, r, z1, z2, (key a z3).1⟩, fun z => (key a z3).2 (by rw [e] at z; cases z; rfl)⟩
  | dct ks dd => obtain ⟨a, us, e, q, r, z1, z2, z3⟩ := h; exact ⟨⟨a, us, e, q, r, z1, z2, (key a z3).1⟩, fun z => (key a z3).2 (by rw [e] at z; cases z; rfl)⟩
  | _ => exact h.elim
theorem fresh_to {d : Ly.D} {a : Addr} (h : Fresh K b Φ ρ H d (.ref a)) (ne : a ≠ D) : Fresh K (b.at D vs) Φ ρ H d (.ref a) := by
  have key : b.H a = none → (b.at D vs).H a = none := fun e => by
    show upd b.H D (.lst vs) a = none
    rw [upd_ne ne]; exact e
  cases d with
  | lst xs => obtain ⟨a', us, e, q, r, z1, z2, z3⟩ := h; cases e; exact ⟨a, us, rfl, q, r, z1, z2, key z3⟩
  | dct ks dd => obtain ⟨a', us, e, q, r, z1, z2, z3⟩ := h; cases e; exact ⟨a, us, rfl, q, r, z1, z2, key z3⟩
  | _ => exact h.elim
/-- the new list is laid -/
theorem Rel.begin (r : Rel K b Φ ρ s σ H) (hD : H D = none) (vs : List V) : Rel K (b.at D vs) Φ ρ s σ (upd H D (.lst vs)) := by
  have r2 := r.growM hD (.lst vs)
  have nΦ := r.newΦ hD
  have nρ := r.mem.ne_new hD
  refine ⟨r2.mem, r2.low, r2.ext, r2.len, fun i d fr e => ?_, r2.inj, fun a o e n => ?_, fun a ha hb => ?_, fun a o e => ?_⟩
  · obtain ⟨v, hv, q⟩ := r2.env i d fr e
    refine ⟨v, hv, ?_⟩
    cases fr with
    | false => exact q
    | true =>
      obtain ⟨v', hv', q'⟩ := r.env i d true e
      rw [hv] at hv'; cases hv'
      obtain ⟨a, u, rfl, hu, _⟩ := fresh_ref (show Fresh K b Φ ρ H d v from q')
      exact fresh_to q (ne_of_none hu hD)
  · have e : upd b.H D (.lst vs) a = some o := e
    by_cases z : a = D
    · subst z
      rw [upd_same] at e ⊢
      exact e
    · rw [upd_ne z] at e ⊢
      exact r.keep a o e n
  · show upd b.H D (.lst vs) a = none
    rw [upd_ne (fun z => nρ (by rw [← z]; exact ha))]
    exact r.new a ha hb
  · rcases r.newF a o e with z | z
    · exact .inl z
    · refine .inr ?_
      show upd b.H D (.lst vs) a = none
      rw [upd_ne (fun q => by rw [q, nΦ] at e; cases e)]
      exact z
/-- .. grows -/
theorem Rel.more (r : Rel K (b.at D vs) Φ ρ s σ H) (hΦ : Φ D = none) (hρ : D ∉ ρ) (us : List V) : Rel K (b.at D us) Φ ρ s σ (upd H D (.lst us)) := by
  have conv : ∀ a, a ≠ D → (b.at D vs).H a = (b.at D us).H a := fun a ne => by
    show upd b.H D (.lst vs) a = upd b.H D (.lst us) a
    rw [upd_ne ne, upd_ne ne]
  have nD : ∀ a, (b.at D vs).H a = none → a ≠ D := fun a e z => by
    subst z
    have e2 : upd b.H a (.lst vs) a = none := e
    rw [upd_same] at e2
    cases e2
  refine ⟨⟨r.mem.len, r.mem.nd, r.mem.off, same_updΦ r.sub hΦ _, fun n ob a h1 h2 => ?_⟩, r.low, r.ext, r.len, fun i d fr e => ?_, r.inj, fun a o e n => ?_, fun a ha hb => ?_, fun a o e => ?_⟩
  · exact mok_mono (Same.refl _) (List.prefix_refl _) (upd_ne (fun z => hρ (by rw [← z]; exact List.mem_of_getElem? h2))) (r.mem.at_ n ob a h1 h2)
  · obtain ⟨v, hv, q⟩ := r.env i d fr e
    refine ⟨v, hv, ?_⟩
    cases fr with
    | false => exact q
    | true =>
      obtain ⟨q1, q2⟩ := fresh_at (show Fresh K (b.at D vs) Φ ρ H d v from q)
      obtain ⟨a, u, rfl, hu, _, h1, h2, h3⟩ := fresh_ref q1
      have ne : a ≠ D := fun z => q2 (by rw [z])
      exact fresh_to (fresh_mono (Same.refl _) (List.prefix_refl _) (upd_ne ne) h1 h2 q1) ne
  · by_cases z : a = D
    · subst z
      have e : upd b.H a (.lst us) a = some o := e
      rw [upd_same] at e ⊢
      exact e
    · rw [← conv a z] at e
      rw [upd_ne z]
      exact r.keep a o e n
  · have e := r.new a ha hb
    rw [← conv a (nD a e)]
    exact e
  · rcases r.newF a o e with z | z
    · exact .inl z
    · refine .inr ?_
      rw [← conv a (nD a z)]
      exact z
/-- .. is done -/
theorem Rel.done (r : Rel K (b.at D vs) Φ ρ s σ H) (hb : b.H D = none) (hΦ : Φ D = none) (hρ : D ∉ ρ) {xs : List Ly.D} (rs : Reps K Φ ρ xs vs) (nb : D ∉ b.ρ) : Rel K b Φ ρ s σ H ∧ Fresh K b Φ ρ H (.lst xs) (.ref D) ∧ NoOwn s σ (.ref D) := by
  have hD : H D = some (.lst vs) := r.keep D _ upd_same nb
  have conv : ∀ a, (b.at D vs).H a = none → b.H a = none := fun a e => by
    have e2 : upd b.H D (.lst vs) a = none := e
    by_cases z : a = D
    · subst z; exact hb
    · rw [upd_ne z] at e2; exact e2
  refine ⟨⟨r.mem, r.low, r.ext, r.len, fun i d fr e => ?_, r.inj, fun a o e n => ?_, fun a ha h => conv a (r.new a ha h), fun a o e => (r.newF a o e).imp id (conv a)⟩, ⟨D, vs, rfl, hD, rs, hΦ, hρ, hb⟩, fun i d e z => ?_⟩
  · obtain ⟨v, hv, q⟩ := r.env i d fr e
    refine ⟨v, hv, ?_⟩
    cases fr with
    | false => exact q
    | true => exact (fresh_at (show Fresh K (b.at D vs) Φ ρ H d v from q)).1
  · refine r.keep a o ?_ n
    show upd b.H D (.lst vs) a = some o
    rw [upd_ne (fun z => by rw [z, hb] at e; cases e)]
    exact e
  · obtain ⟨v, hv, q⟩ := r.env i d true e
    rw [hv] at z; cases z
    exact (fresh_at (show Fresh K (b.at D vs) Φ ρ H d _ from q)).2 rfl
theorem Rel.offD (r : Rel K (b.at D vs) Φ ρ s σ H) (hb : b.Φ D = none) (nb : D ∉ b.ρ) : Φ D = none ∧ D ∉ ρ := by
  constructor
  · cases q : Φ D with
    | none => rfl
    | some u =>
      rcases r.newF D u q with z | z
      · have z3 : b.Φ D = some u := z
        rw [hb] at z3; cases z3
      · have z2 : upd b.H D (.lst vs) D = none := z
        rw [upd_same] at z2; cases z2
  · intro h
    have z := r.new D h nb
    have z2 : upd b.H D (.lst vs) D = none := z
    rw [upd_same] at z2; cases z2
/-- a slot is forgotten on both sides -/
theorem Rel.drop2 (r : Rel K b Φ ρ s σ H) (i : Nat) : Rel K b Φ ρ { s with env := s.env.set i none } (σ.set i none) H := by
  have r1 := r.drop i
  have get : ∀ {j : Nat} {q : Ly.D × Bool}, (s.env.set i none)[j]? = some (some q) → (σ.set i none)[j]? = σ[j]? := fun {j q} e => by
    rcases envN_set e with ⟨_, e⟩ | ⟨ne, e⟩
    · cases e
    · exact List.getElem?_set_ne ne
  refine ⟨r1.mem, r1.low, r1.ext, by simp only [List.length_set]; exact r.len, fun j d fr e => ?_, fun j k d d' v e1 e2 e3 e4 => ?_, r1.keep, r1.new, r1.newF⟩
  · rw [get e]; exact r1.env j d fr e
  · rw [get e1] at e3
    rw [get e2] at e4
    exact r1.inj j k d d' v e1 e2 e3 e4
theorem Rel.wipe (r : Rel K b Φ ρ s σ H) : ∀ own : List Nat, Rel K b Φ ρ { s with env := wipeE s.env own } (wipe σ own) H
  | [] => r
  | v :: vs => (r.wipe vs).drop2 v
theorem wipe_at {σ : L2.St} {i : Nat} : ∀ {own : List Nat}, i ∉ own → (wipe σ own)[i]? = σ[i]?
  | [], _ => rfl
  | v :: vs, h => by
    show ((L2.wipe σ vs).set v none)[i]? = _
    rw [List.getElem?_set_ne (fun z => h (by rw [z]; exact List.mem_cons_self)), wipe_at fun z => h (List.mem_cons_of_mem _ z)]
theorem backE_len (old new : Env) : ∀ own, (backE old new own).length = new.length
  | [] => rfl
  | v :: vs => by show ((backE old new vs).set v _).length = _; rw [List.length_set, backE_len old new vs]
theorem backE_out (old new : Env) {i : Nat} : ∀ {own : List Nat}, i ∉ own → (backE old new own)[i]? = new[i]?
  | [], _ => rfl
  | v :: vs, h => by
    show ((backE old new vs).set v _)[i]? = _
    rw [List.getElem?_set_ne (fun z => h (by rw [z]; exact List.mem_cons_self)), backE_out old new fun z => h (List.mem_cons_of_mem _ z)]
theorem backE_in (old new : Env) {i : Nat} {q : Ly.D × Bool} : ∀ {own : List Nat}, i ∈ own → (backE old new own)[i]? = some (some q) → (old[i]?).join = some q
  | v :: vs, h, e => by
    have e : ((backE old new vs).set v ((old[v]?).join))[i]? = some (some q) := e
    by_cases z : v = i
    · subst z
      by_cases hl : v < (backE old new vs).length
      · rw [List.getElem?_set_self hl] at e
        exact Option.some.inj e
      · rw [List.getElem?_eq_none (by rw [List.length_set]; omega)] at e; cases e
    · rw [List.getElem?_set_ne z] at e
      exact backE_in old new ((List.mem_cons.mp h).resolve_left fun q => z q.symm) e
theorem join_some {α : Type} {o : Option (Option α)} {a : α} (h : o.join = some a) : o = some (some a) := by
  cases o with
  | none => cases h
  | some p => exact congrArg some h
/-- behind a comprehension: the block's own names as they were -/
theorem Rel.back {H0 : Hp} {s0 : S} {own : List Nat} (r0 : Rel K b Φ ρ s0 σ H0) (r : Rel K b Φ' ρ' s σ' H) (h1 : Same Φ Φ') (h2 : ρ <+: ρ') (hw : L2.wipe σ' own = L2.wipe σ own) (ho : ownFree s0.env own = true) :
    Rel K b Φ' ρ' { s with env := backE s0.env s.env own } σ H ∧ ∀ v, NoOwn s σ' v → NoOwn { s with env := backE s0.env s.env own } σ v := by
  have at_ : ∀ {i : Nat}, i ∉ own → σ[i]? = σ'[i]? := fun {i} h => by rw [← wipe_at (σ := σ) h, ← hw, wipe_at h]
  have hin : ∀ {i : Nat} {d : Ly.D} {fr : Bool}, i ∈ own → (backE s0.env s.env own)[i]? = some (some (d, fr)) → s0.env[i]? = some (some (d, fr)) ∧ fr = false := fun {i d fr} h e => by
    have e1 := backE_in _ _ h e
    refine ⟨join_some e1, ?_⟩
    have := List.all_eq_true.mp ho i h
    rw [e1] at this
    cases fr with
    | false => rfl
    | true => cases this
  refine ⟨⟨r.mem, r.low, r.ext, ?_, fun i d fr e => ?_, fun i j d d' v e1 e2 e3 e4 => ?_, r.keep, r.new, r.newF⟩, fun v no i d e => ?_⟩
  · show (backE s0.env s.env own).length = _
    rw [backE_len, r.len]
    have := congrArg List.length hw
    rw [wipe_length, wipe_length] at this
    exact this
  · by_cases hi : i ∈ own
    · obtain ⟨e1, rfl⟩ := hin hi e
      obtain ⟨v, hv, q⟩ := r0.env i d false e1
      exact ⟨v, hv, rep_mono h1 h2 _ _ q⟩
    · have e1 : s.env[i]? = some (some (d, fr)) := by rw [← backE_out s0.env s.env hi]; exact e
      rw [at_ hi]
      exact r.env i d fr e1
  · have o1 : i ∉ own := fun h => by cases (hin h e1).2
    have o2 : j ∉ own := fun h => by cases (hin h e2).2
    rw [at_ o1] at e3
    rw [at_ o2] at e4
    exact r.inj i j d d' v (by rw [← backE_out s0.env s.env o1]; exact e1) (by rw [← backE_out s0.env s.env o2]; exact e2) e3 e4
  · have o1 : i ∉ own := fun h => by cases (hin h e).2
    rw [at_ o1]
    exact no i d (by rw [← backE_out s0.env s.env o1]; exact e)
end

theorem wp_noX {α : Type} {m : R α} {W : α → S → Prop} {Z : Str → List Ly.D → S → Prop} (h : m.noX.wp W Z) : m.wp W fun _ _ _ => False := by
  cases m with
  | ok a s => exact h
  | exc c fs s => exact h
  | no => exact h
theorem wipe_none {σ : L2.St} {v : Nat} : ∀ {own : List Nat}, v ∈ own → (wipe σ own).set v none = wipe σ own
  | w :: ws, h => by
    show ((wipe σ ws).set w none).set v none = (wipe σ ws).set w none
    by_cases e : v = w
    · subst e
      rw [List.set_set]
    · have hv := (List.mem_cons.mp h).resolve_left e
      rw [List.set_comm _ _ (fun z => e z.symm), wipe_none hv]
theorem wipe_sub {σ : L2.St} {own : List Nat} : ∀ {vs : List Nat}, (∀ i ∈ vs, i ∈ own) → wipe (wipe σ own) vs = wipe σ own
  | [], _ => rfl
  | v :: vs, h => by
    show (wipe (wipe σ own) vs).set v none = _
    rw [wipe_sub fun i hi => h i (List.mem_cons_of_mem _ hi), wipe_none (h v List.mem_cons_self)]
def fLc (tg : T) (k : IK) (own : List Nat) (fi : S → R (List Ly.D)) (ft : S → R Bool) (fe : S → R (Ly.D × Bool)) : S → R (Ly.D × Bool) := fun s => (fWk k fi s).bind fun xs s => if ownFree s.env own then
        (lcLoop (fun s => (ft s).bind fun b s => if b then (fe s).bind fun p s => .ok (some p.1) s else .ok none s) tg own xs [] s).noX.bind fun ys s' =>
          .ok (.lst ys, true) { s' with env := backE s.env s'.env own } else .no
def WF : WX := fun _ _ _ _ => False
def tTb (K : KW) (f : S → R Bool) : TT := fun σ H Q => ∃ b2, tT K b2 WF f σ H Q
def tEb (K : KW) (f : S → R (Ly.D × Bool)) : TE := fun σ H Q => ∃ b2, tE K b2 WF f σ H Q
section
variable {K : KW} {b : Bs} {W : WX}
theorem lc_read {tg : T} {k : IK} {own : List Nat} {fi : S → R (List Ly.D)} {ft : S → R Bool} {fe : S → R (Ly.D × Bool)} {σ : L2.St} {H : Hp} {Q : VK} (ht : ∀ i ∈ tg.slots, i ∈ own)
    (h : tE K b W (fLc tg k own fi ft fe) σ H Q) : tLc (tI K b W k fi) (gT K.f tg) (tTb K ft) (tEb K fe) own σ H Q := by
  obtain ⟨Φ, ρ, s, r, w⟩ := h
  refine ⟨Φ, ρ, s, r, wp_mono (wp_bind.mp w) (fun xs s1 q Φ1 ρ1 H1 J h1 h2 r1 wok D hD => ?_) fun _ _ _ z => z⟩
  cases hof : ownFree s1.env own with
  | false => rw [hof] at q; exact q.elim
  | true =>
    rw [hof, if_pos rfl] at q
    have q := wp_noX (wp_bind.mp q)
    have hbH : b.H D = none := r1.newb hD
    have hbΦ : b.Φ D = none := by
      cases e : b.Φ D with
      | none => rfl
      | some u =>
        have e2 := r1.sub _ _ (r1.low _ _ e)
        rw [hD] at e2; cases e2
    have nb : D ∉ b.ρ := fun z => r1.mem.ne_new hD (r1.ext.subset z)
    generalize hF : (fun s => (ft s).bind fun b s => if b then (fe s).bind fun p s => R.ok (some p.1) s else R.ok none s) = F at q
    let Pv : Nat → Hp → Prop := fun i H => ∃ Φ2 ρ2 s2 σ2 acc accD, Rel K (b.at D acc) Φ2 ρ2 s2 σ2 H ∧ wipe σ2 own = wipe σ own ∧ Same Φ1 Φ2 ∧ ρ1 <+: ρ2 ∧ Reps K Φ2 ρ2 accD acc ∧
      (lcLoop F tg own (xs.drop i) accD s2).wp (fun ys s' => Cont K b Φ ρ σ Q (.lst ys, true) { s' with env := backE s1.env s'.env own }) fun _ _ _ => False
    refine ⟨fun i m H => m = xs.length - i ∧ i ≤ xs.length ∧ Pv i H, ⟨xs.length, by simp, Nat.zero_le _, Φ1, ρ1, s1, σ, [], [], r1.begin hD [], rfl, Same.refl _, List.prefix_refl _, rfl, q⟩, ?_⟩
    rintro i m H2 ⟨rfl, hi, Φ2, ρ2, s2, σ2, acc, accD, r2, hw, k1, k2, rs, w2⟩
    have sub : Same Φ1 H2 := k1.trans r2.sub
    by_cases hlt : i < xs.length
    · refine .inr ⟨wok.go i H2 hlt sub, Pv (i + 1), fun H' p' => ⟨xs.length - (i + 1), by omega, rfl, hlt, p'⟩, fun x H3 y => ?_⟩
      obtain ⟨d, hd, yy⟩ := wok.yld i H2 x H3 hlt sub y
      rw [List.drop_eq_getElem_cons hlt] at w2
      have e : xs[i] = d := by
        rw [List.getElem?_eq_getElem hlt] at hd
        exact Option.some.inj hd
      rw [e] at w2
      have st : ∃ Φ3, Same Φ2 Φ3 ∧ Rel K (b.at D acc) Φ3 ρ2 s2 σ2 H3 ∧ Rep K Φ3 ρ2 d x := by
        rcases yy with ⟨rfl, rv⟩ | ⟨T, us, ds, rfl, hT, rfl, rfl, rs'⟩
        · exact ⟨Φ2, Same.refl _, r2, rep_mono k1 k2 _ _ rv⟩
        · obtain ⟨r3, m⟩ := r2.grow hT (.tup us)
          exact ⟨_, m, r3, T, us, rfl, .inl (.inl upd_same), reps_mono (k1.trans m) k2 _ _ rs', fun _ => upd_same⟩
      obtain ⟨Φ3, m3, r3, rv⟩ := st
      have r4 := r3.wipe own
      rw [hw] at r4
      refine tgt_ok r4 rv (wp_bind.mp w2) fun s4 σ4 w4 r5 hw5 => ⟨by rw [hw5 own ht, wipe_sub fun _ z => z], ?_⟩
      refine ⟨b.at D acc, Φ3, ρ2, s4, r5, ?_⟩
      rw [← hF] at w4
      have w4 := wp_bind.mp (wp_bind.mp w4)
      refine wp_mono w4 (fun bb s6 q6 Φ6 ρ6 H6 g1 g2 r6 => ?_) fun _ _ _ z => z.elim
      have hw6 : wipe σ4 own = wipe σ own := by rw [hw5 own ht, wipe_sub fun _ z => z]
      rw [hF] at q6
      cases bb with
      | false => exact ⟨Φ6, ρ6, s6, σ4, acc, accD, r6, hw6, (k1.trans m3).trans g1, k2.trans g2, reps_mono (m3.trans g1) g2 _ _ rs, q6⟩
      | true =>
        refine ⟨b.at D acc, Φ6, ρ6, s6, r6, ?_⟩
        rw [if_pos rfl] at q6
        refine wp_mono (wp_bind.mp q6) (fun p s7 q7 Φ7 ρ7 H7 v l1 l2 r7 rr => ?_) fun _ _ _ z => z.elim
        obtain ⟨Φ8, l3, r8, rp⟩ := settle r7 rr
        have q7 : (if accD.length < sizeLine then lcLoop F tg own (xs.drop (i + 1)) (accD ++ [p.1]) s7 else R.no).wp _ _ := q7
        by_cases hz : accD.length < sizeLine
        · rw [if_pos hz] at q7
          obtain ⟨o1, o2⟩ := r8.offD hbΦ nb
          refine ⟨acc, r8.keep D _ upd_same nb, by rw [reps_len rs]; exact hz, Φ8, ρ7, s7, σ4, acc ++ [v], accD ++ [p.1], r8.more o1 o2 _, hw6, ((k1.trans m3).trans g1).trans (l1.trans l3), (k2.trans g2).trans l2, ?_, q7⟩
          exact reps_app (reps_mono ((m3.trans g1).trans (l1.trans l3)) (g2.trans l2) _ _ rs) (reps_one rp)
        · rw [if_neg hz] at q7
          exact q7.elim
    · have e : i = xs.length := by omega
      subst e
      rw [List.drop_length] at w2
      obtain ⟨o1, o2⟩ := r2.offD hbΦ nb
      obtain ⟨a1, a2, a3⟩ := r2.done hbH o1 o2 rs nb
      obtain ⟨c1, c2⟩ := Rel.back r1 a1 k1 k2 hw hof
      exact .inl ⟨wok.stop H2 sub, w2 Φ2 ρ2 H2 (.ref D) (h1.trans k1) (h2.trans k2) c1 ⟨a2, c2 _ a3⟩⟩
def tIR (K : KW) (b : Bs) (W : WX) (fa : S → R (Ly.D × Bool)) : TI := fun σ H R => tI K b W .seq (fCons fa fNil) σ H R ∨ iList K.f (tE K b W fa) σ H R
def fLcR (tg : T) (own : List Nat) (fa : S → R (Ly.D × Bool)) (ft : S → R Bool) (fe : S → R (Ly.D × Bool)) : S → R (Ly.D × Bool) := fun s => (fa s).bind fun p s => match p.1 with
    | .ref n => if ownFree s.env own then
        (lcRL (fun s => (ft s).bind fun b s => if b then (fe s).bind fun p s => .ok (some p.1) s else .ok none s) tg own n whFuel 0 [] s).noX.bind fun ys s' =>
          .ok (.lst ys, true) { s' with env := backE s.env s'.env own } else .no
    | d => (liftO s (walkD .seq [d])).bind fun xs s => if ownFree s.env own then
        (lcLoop (fun s => (ft s).bind fun b s => if b then (fe s).bind fun p s => .ok (some p.1) s else .ok none s) tg own xs [] s).noX.bind fun ys s' =>
          .ok (.lst ys, true) { s' with env := backE s.env s'.env own } else .no
theorem lcR_read {tg : T} {own : List Nat} {fa : S → R (Ly.D × Bool)} {ft : S → R Bool} {fe : S → R (Ly.D × Bool)} {σ : L2.St} {H : Hp} {Q : VK} (ht : ∀ i ∈ tg.slots, i ∈ own)
    (h : tE K b W (fLcR tg own fa ft fe) σ H Q) : tLc (tIR K b W fa) (gT K.f tg) (tTb K ft) (tEb K fe) own σ H Q := by
  obtain ⟨Φ, ρ, s, r, w⟩ := h
  unfold fLcR at w
  cases hf : fa s with
  | no => rw [hf] at w; exact w.elim
  | exc c fs s1 =>
    refine .inl (lc_read (k := .seq) (fi := fCons fa fNil) ht ⟨Φ, ρ, s, r, ?_⟩)
    unfold fLc fWk fCons
    rw [hf] at w
    rw [hf]
    exact w
  | ok p s1 =>
    obtain ⟨d, fr⟩ := p
    rw [hf] at w
    have other : (∀ n, d ≠ .ref n) → tLc (tIR K b W fa) (gT K.f tg) (tTb K ft) (tEb K fe) own σ H Q := fun hd => by
      refine .inl (lc_read (k := .seq) (fi := fCons fa fNil) ht ⟨Φ, ρ, s, r, ?_⟩)
      unfold fLc fWk fCons fNil
      rw [hf]
      cases d <;> first | exact w | exact absurd rfl (hd _)
    cases d with
    | ref n =>
      refine .inr ⟨Φ, ρ, s, r, ?_⟩
      rw [hf]
      intro Φ0 ρ1 H1 v h1 h2 r1 rr
      obtain ⟨Φ1, k1, r1, a, ev, ha⟩ := settle r1 rr
      have w : (if ownFree s1.env own then
        (lcRL (fun s => (ft s).bind fun b s => if b then (fe s).bind fun p s => .ok (some p.1) s else .ok none s) tg own n whFuel 0 [] s1).noX.bind fun ys s' =>
          .ok (.lst ys, true) { s' with env := backE s1.env s'.env own } else R.no).wp (Cont K b Φ ρ σ Q) (ZX K b W Φ ρ σ) := w
      cases hof : ownFree s1.env own with
      | false => rw [hof] at w; exact w.elim
      | true =>
        rw [hof, if_pos rfl] at w
        have q := wp_noX (wp_bind.mp w)
        generalize hF : (fun s => (ft s).bind fun b s => if b then (fe s).bind fun p s => R.ok (some p.1) s else R.ok none s) = F at q
        have look : ∀ {k i : Nat} {acc : List Ly.D} {s2 : S} {W' : List Ly.D → S → Prop} {Z : Str → List Ly.D → S → Prop}, (lcRL F tg own n (k + 1) i acc s2).wp W' Z → ∃ xs, s2.mem[n]? = some (.lst xs) := fun {k i acc s2 W' Z} w => by
          unfold lcRL at w
          split at w
          · rename_i xs hx; exact ⟨xs, hx⟩
          · exact w.elim
        obtain ⟨fl, hfl⟩ : ∃ k, whFuel = k + 1 := ⟨1048575, rfl⟩
        rw [hfl] at q
        obtain ⟨xs0, hx0⟩ := look q
        obtain ⟨vs0, q0, _⟩ := r1.mem.at_ n _ a hx0 ha
        refine ⟨a, ev, ⟨vs0, SqL.of q0⟩, fun D hD => ?_⟩
        have hbH : b.H D = none := r1.newb hD
        have hbΦ : b.Φ D = none := by
          cases e : b.Φ D with
          | none => rfl
          | some u =>
            have e2 := r1.sub _ _ (r1.low _ _ e)
            rw [hD] at e2; cases e2
        have nb : D ∉ b.ρ := fun z => r1.mem.ne_new hD (r1.ext.subset z)
        let Pv : Nat → Nat → Hp → Prop := fun i m H => ∃ Φ2 ρ2 s2 σ2 acc accD, Rel K (b.at D acc) Φ2 ρ2 s2 σ2 H ∧ wipe σ2 own = wipe σ own ∧ Same Φ1 Φ2 ∧ ρ1 <+: ρ2 ∧ Reps K Φ2 ρ2 accD acc ∧
          (lcRL F tg own n m i accD s2).wp (fun ys s' => Cont K b Φ ρ σ Q (.lst ys, true) { s' with env := backE s1.env s'.env own }) fun _ _ _ => False
        refine ⟨fun i m H => Pv i m H, ⟨fl + 1, Φ1, ρ1, s1, σ, [], [], r1.begin hD [], rfl, Same.refl _, List.prefix_refl _, rfl, q⟩, ?_⟩
        rintro i m H2 ⟨Φ2, ρ2, s2, σ2, acc, accD, r2, hw, g1, g2, rs, w2⟩
        cases m with
        | zero => exact w2.elim
        | succ m =>
          obtain ⟨xs, hx⟩ := look w2
          have ha2 := pre_get g2 ha
          obtain ⟨us, qa, ru⟩ := r2.mem.at_ n _ a hx ha2
          have w2 : (match s2.mem[n]? with
            | some (.lst xs) => match xs[i]? with
              | some x => (asgT [] tg x false { s2 with env := wipeE s2.env own }).bind fun _ s1 => (F s1).bind fun o s2 => match o with
                | none => lcRL F tg own n m (i + 1) accD s2
                | some d => if accD.length < sizeLine then lcRL F tg own n m (i + 1) (accD ++ [d]) s2 else .no
              | none => .ok accD s2
            | _ => .no).wp (fun ys s' => Cont K b Φ ρ σ Q (.lst ys, true) { s' with env := backE s1.env s'.env own }) fun _ _ _ => False := w2
          rw [hx] at w2
          have w2 : (match xs[i]? with
            | some x => (asgT [] tg x false { s2 with env := wipeE s2.env own }).bind fun _ s1 => (F s1).bind fun o s2 => match o with
              | none => lcRL F tg own n m (i + 1) accD s2
              | some d => if accD.length < sizeLine then lcRL F tg own n m (i + 1) (accD ++ [d]) s2 else .no
            | none => R.ok accD s2).wp (fun ys s' => Cont K b Φ ρ σ Q (.lst ys, true) { s' with env := backE s1.env s'.env own }) fun _ _ _ => False := w2
          cases hi : xs[i]? with
          | none =>
            rw [hi] at w2
            obtain ⟨o1, o2⟩ := r2.offD hbΦ nb
            obtain ⟨a1, a2, a3⟩ := r2.done hbH o1 o2 rs nb
            obtain ⟨c1, c2⟩ := Rel.back r1 a1 g1 g2 hw hof
            refine .inl ⟨⟨us, SqL.of qa, ?_⟩, w2 Φ2 ρ2 H2 (.ref D) ((h1.trans k1).trans g1) (h2.trans g2) c1 ⟨a2, c2 _ a3⟩⟩
            have := List.getElem?_eq_none_iff.mp hi
            rw [reps_len ru]
            exact this
          | some d =>
            rw [hi] at w2
            obtain ⟨v1, hv, rv⟩ := reps_get ru hi
            refine .inr ⟨⟨us, v1, SqL.of qa, hv⟩, fun H' => ∃ m', m' < m + 1 ∧ Pv (i + 1) m' H', fun H' p' => p', fun x H3 y => ?_⟩
            obtain ⟨e3, y2⟩ := y
            subst e3
            have hx2 := y2 us (SqL.of qa)
            rw [hv] at hx2
            cases hx2
            have r4 := r2.wipe own
            rw [hw] at r4
            refine tgt_ok r4 rv (wp_bind.mp w2) fun s4 σ4 w4 r5 hw5 => ⟨by rw [hw5 own ht, wipe_sub fun _ z => z], ?_⟩
            refine ⟨b.at D acc, Φ2, ρ2, s4, r5, ?_⟩
            rw [← hF] at w4
            have w4 := wp_bind.mp (wp_bind.mp w4)
            refine wp_mono w4 (fun bb s6 q6 Φ6 ρ6 H6 l1 l2 r6 => ?_) fun _ _ _ z => z.elim
            have hw6 : wipe σ4 own = wipe σ own := by rw [hw5 own ht, wipe_sub fun _ z => z]
            rw [hF] at q6
            cases bb with
            | false => exact ⟨m, Nat.lt_succ_self _, Φ6, ρ6, s6, σ4, acc, accD, r6, hw6, g1.trans l1, g2.trans l2, reps_mono l1 l2 _ _ rs, q6⟩
            | true =>
              refine ⟨b.at D acc, Φ6, ρ6, s6, r6, ?_⟩
              rw [if_pos rfl] at q6
              refine wp_mono (wp_bind.mp q6) (fun p s7 q7 Φ7 ρ7 H7 v l3 l4 r7 rr => ?_) fun _ _ _ z => z.elim
              obtain ⟨Φ8, l5, r8, rp⟩ := settle r7 rr
              have q7 : (if accD.length < sizeLine then lcRL F tg own n m (i + 1) (accD ++ [p.1]) s7 else R.no).wp _ _ := q7
              by_cases hz : accD.length < sizeLine
              · rw [if_pos hz] at q7
                obtain ⟨o1, o2⟩ := r8.offD hbΦ nb
                refine ⟨acc, r8.keep D _ upd_same nb, by rw [reps_len rs]; exact hz, m, Nat.lt_succ_self _, Φ8, ρ7, s7, σ4, acc ++ [v], accD ++ [p.1], r8.more o1 o2 _, hw6, (g1.trans l1).trans (l3.trans l5), (g2.trans l2).trans l4, ?_, q7⟩
                exact reps_app (reps_mono (l1.trans (l3.trans l5)) (l2.trans l4) _ _ rs) (reps_one rp)
              · rw [if_neg hz] at q7
                exact q7.elim
    | _ => exact other (fun n z => nomatch z)
theorem pi_seqR {X : Cx} {x tg : Expr} {fa : S → R (Ly.D × Bool)} (ha : PE X x (tE X.kw b W fa)) : PI X tg x (tIR X.kw b W fa) :=
  ⟨fun pins s σ H R I q => by
    rcases q with q | q
    · exact (pi_seq ha).run pins s σ H R I q
    · exact (pi_list ha).run pins s σ H R I q⟩
end
end Ly
set_option Elab.async false
set_option linter.all false
set_option maxRecDepth 100000
set_option maxHeartbeats 2000000
/-! Ly13: every expression does what the evaluator says. -/
namespace Ly
open PySem PySem.Spec PyProof.Rows L2
mutual
theorem beq_eq : ∀ a b : D, D.beq a b = true → a = b
  | .non, .non, _ => rfl
  | .bl a, .bl b, h => congrArg D.bl (eq_of_beq h)
  | .int a, .int b, h => congrArg D.int (of_decide_eq_true h)
  | .str a, .str b, h => congrArg D.str (of_decide_eq_true h)
  | .tup a, .tup b, h => congrArg D.tup (beqs_eq a b h)
  | .lst a, .lst b, h => congrArg D.lst (beqs_eq a b h)
  | .dct a c, .dct b d, h => by
    obtain ⟨h1, h2⟩ := Bool.and_eq_true_iff.mp (show (D.beqs a b && D.beqs c d) = true from h)
    rw [beqs_eq a b h1, beqs_eq c d h2]
  | .ref a, .ref b, h => congrArg D.ref (of_decide_eq_true h)
  | .non, .bl _, h | .non, .int _, h | .non, .str _, h | .non, .tup _, h | .non, .lst _, h | .non, .dct _ _, h | .non, .ref _, h | .non, .scr _, h => nomatch h
  | .bl _, .non, h | .bl _, .int _, h | .bl _, .str _, h | .bl _, .tup _, h | .bl _, .lst _, h | .bl _, .dct _ _, h | .bl _, .ref _, h | .bl _, .scr _, h => nomatch h
  | .int _, .non, h | .int _, .bl _, h | .int _, .str _, h | .int _, .tup _, h | .int _, .lst _, h | .int _, .dct _ _, h | .int _, .ref _, h | .int _, .scr _, h => nomatch h
  | .str _, .non, h | .str _, .bl _, h | .str _, .int _, h | .str _, .tup _, h | .str _, .lst _, h | .str _, .dct _ _, h | .str _, .ref _, h | .str _, .scr _, h => nomatch h
  | .tup _, .non, h | .tup _, .bl _, h | .tup _, .int _, h | .tup _, .str _, h | .tup _, .lst _, h | .tup _, .dct _ _, h | .tup _, .ref _, h | .tup _, .scr _, h => nomatch h
  | .lst _, .non, h | .lst _, .bl _, h | .lst _, .int _, h | .lst _, .str _, h | .lst _, .tup _, h | .lst _, .dct _ _, h | .lst _, .ref _, h | .lst _, .scr _, h => nomatch h
  | .dct _ _, .non, h | .dct _ _, .bl _, h | .dct _ _, .int _, h | .dct _ _, .str _, h | .dct _ _, .tup _, h | .dct _ _, .lst _, h | .dct _ _, .ref _, h | .dct _ _, .scr _, h => nomatch h
  | .ref _, .non, h | .ref _, .bl _, h | .ref _, .int _, h | .ref _, .str _, h | .ref _, .tup _, h | .ref _, .lst _, h | .ref _, .dct _ _, h | .ref _, .scr _, h => nomatch h
  | .scr _, .non, h | .scr _, .bl _, h | .scr _, .int _, h | .scr _, .str _, h | .scr _, .tup _, h | .scr _, .lst _, h | .scr _, .dct _ _, h | .scr _, .ref _, h | .scr _, .scr _, h => nomatch h
theorem beqs_eq : ∀ a b : List D, D.beqs a b = true → a = b
  | [], [], _ => rfl
  | x :: xs, y :: ys, h => by
    obtain ⟨h1, h2⟩ := Bool.and_eq_true_iff.mp (show (D.beq x y && D.beqs xs ys) = true from h)
    rw [beq_eq x y h1, beqs_eq xs ys h2]
  | [], _ :: _, h => nomatch h
  | _ :: _, [], h => nomatch h
end
section
variable {ft : Str → Option Fn} {cf : Str → List D → Mem → CR} {G : List (Str × D)} {N : List Str}
theorem evEs_len : ∀ (es : List E) (s : S) (ds : List D) (s' : S), evEs ft cf es s = .ok ds s' → ds.length = es.length
  | [], s, ds, s', h => by cases h; rfl
  | e :: es, s, ds, s', h => by
    have h : (evE ft cf e s).bind (fun p s => (evEs ft cf es s).bind fun ds s => .ok (p.1 :: ds) s) = .ok ds s' := h
    cases h1 : evE ft cf e s with
    | no => rw [h1] at h; cases h
    | exc c fs s1 => rw [h1] at h; cases h
    | ok p s1 =>
      rw [h1] at h
      have h : (evEs ft cf es s1).bind (fun ds s => .ok (p.1 :: ds) s) = .ok ds s' := h
      cases h2 : evEs ft cf es s1 with
      | no => rw [h2] at h; cases h
      | exc c fs s1 => rw [h2] at h; cases h
      | ok qs s2 =>
        rw [h2] at h
        cases h
        exact congrArg Nat.succ (evEs_len es s1 qs _ h2)
theorem chEs_len {sc : Scope} : ∀ {es : List E} {xs : List Expr}, chEs G N sc es xs = true → es.length = xs.length
  | [], [], _ => rfl
  | e :: es, x :: xs, h => congrArg Nat.succ (chEs_len (Bool.and_eq_true_iff.mp (show (chE G N sc e x && chEs G N sc es xs) = true from h)).2)
  | [], _ :: _, h => nomatch h
  | _ :: _, [], h => nomatch h
theorem chE_plain {sc : Scope} {e : E} {x : Expr} (h : chE G N sc e x = true) : plainX x = true := by
  cases x <;> first | rfl | (cases e <;> cases h)
theorem chEs_plain {sc : Scope} : ∀ {es : List E} {xs : List Expr}, chEs G N sc es xs = true → xs.all plainX = true
  | [], [], _ => rfl
  | e :: es, x :: xs, h => by
    obtain ⟨h1, h2⟩ := Bool.and_eq_true_iff.mp (show (chE G N sc e x && chEs G N sc es xs) = true from h)
    show (plainX x && xs.all plainX) = true
    rw [chE_plain h1, chEs_plain h2]
    rfl
  | [], _ :: _, h => nomatch h
  | _ :: _, [], h => nomatch h
end

section
variable {ft : Str → Option Fn} {cf : Str → List D → Mem → CR} {G : List (Str × D)} {N : List Str}
/-- within a comprehension's block -/
theorem ctx_blk {W : WX} {sn : List Str} {sc scope : Scope} {X : Cx} {own : List Nat} (C : Ctx ft cf G N W sn sc X) (ho : (own.all fun i => match scope.names.lookup (N.getD i ⟨#[]⟩) with | some .local => true | some .cell => true | _ => false) = true)
    (s : Shared) (H : Hp) (Ca : Addr) (cl : List (Str × Addr)) (fp : List Addr) : Ctx ft cf G N WF ((ownL N own).map (·.1)) (relS scope sc) (X.blk s H scope (compEnvC scope cl Ca X.env) fp) := by
  have hsc : (compEnvC scope cl Ca X.env).scope = relS scope sc := by rw [← C.sc]; rfl
  refine ⟨C.n, C.nd, hsc, C.calm, C.un, fun u s' x => ?_, fun f F h => ?_, C.gl, C.bl, fun x hx => ?_⟩
  · obtain ⟨_, _, _, _, _, _, _, _, _, _, _, _, _, _, _, _, w⟩ := x
    exact w.elim
  · obtain ⟨n, h1, h2⟩ := C.fn f F h
    exact ⟨n, ⟨h1.ex⟩, h2⟩
  · unfold ownL at hx
    rw [List.map_map] at hx
    obtain ⟨i, hi, e⟩ := List.mem_map.mp hx
    have e : N.getD i ⟨#[]⟩ = x := e
    have q := List.all_eq_true.mp ho i hi
    rw [e] at q
    split at q
    · rename_i hl
      refine .inr ?_
      show (compEnvC scope cl Ca X.env).scope.names.lookup x = some .local
      rw [hsc]
      exact lookup_relS_keep (by intro z; cases z) hl
    · rename_i hl
      refine .inl ?_
      show (scope.names.lookup x == some NameKind.cell) = true
      rw [hl]
      rfl
    · cases q
theorem pts_tTb {X : Cx} {ifs : List E} {fs : List Expr} (h : ∀ (e : E) (x : Expr), e ∈ ifs → x ∈ fs → ifs = [e] → fs = [x] → ∀ b, PT X x (tT X.kw b WF fun s => toB (evE ft cf e s))) (hl : ifs.length = fs.length) (h1 : ifs.length ≤ 1) : PTs X fs (tTb X.kw (evTs ft cf ifs)) := by
  match ifs, fs, hl with
  | [], [], _ => exact ⟨fun pins s σ H Q I ⟨b2, Φ, ρ, s0, r, w⟩ => pts_nil.run pins s σ H Q I (w Φ ρ H (Same.refl _) (List.prefix_refl _) r)⟩
  | [e], [x], _ =>
    refine ⟨fun pins s σ H Q I ⟨b2, Φ, ρ, s0, r, w⟩ => (pts_one (h e x List.mem_cons_self List.mem_cons_self rfl rfl b2)).run pins s σ H Q I ⟨Φ, ρ, s0, r, ?_⟩⟩
    have w : ((toB (evE ft cf e s0)).bind fun k s => if k then evTs ft cf [] s else .ok false s).wp _ _ := w
    refine wp_mono (wp_bind.mp w) (fun k s1 q => ?_) fun _ _ _ z => z
    cases k with
    | true => exact q
    | false => exact q
  | _ :: _ :: _, _, _ => simp at h1
/-- what a comprehension needs -/
structure LcAt (X : Cx) (b : Bs) (W : WX) (elt : Expr) (t it : Expr) (fs : List Expr) (scope : Scope) (tg : T) (k : IK) (own : List Nat) (fi : S → R (List D)) (ft' : S → R Bool) (fe : S → R (D × Bool)) : Prop where
  hi : PI X t it (tI X.kw b W k fi)
  ok : BlkOk X.N X.env.scope scope (ownL X.N own)
  hg : ∀ (s : Shared) (H : Hp) (C : Addr) (cl : List (Str × Addr)) (fp : List Addr), PG (X.blk s H scope (compEnvC scope cl C X.env) fp) t (gT X.K tg)
  ht : ∀ (s : Shared) (H : Hp) (C : Addr) (cl : List (Str × Addr)) (fp : List Addr), PTs (X.blk s H scope (compEnvC scope cl C X.env) fp) fs (tTb X.kw ft')
  he : ∀ (s : Shared) (H : Hp) (C : Addr) (cl : List (Str × Addr)) (fp : List Addr), PE (X.blk s H scope (compEnvC scope cl C X.env) fp) elt (tEb X.kw fe)
  hs : ∀ x, foldedSetIterable it X.env x = pure x
  own : ∀ i ∈ tg.slots, i ∈ own
theorem own_snd (N : List Str) (own : List Nat) : (ownL N own).map (·.2) = own := by
  unfold ownL
  rw [List.map_map]
  exact (List.map_congr_left fun _ _ => rfl).trans (List.map_id _)
theorem snd_lc {X : Cx} {b : Bs} {W : WX} {elt t it : Expr} {fs : List Expr} {scope : Scope} {pos : Pos} {tg : T} {k : IK} {own : List Nat} {fi : S → R (List D)} {ft' : S → R Bool} {fe : S → R (D × Bool)} (hc : X.calm = true) (nd : X.N.Nodup)
    (L : LcAt X b W elt t it fs scope tg k own fi ft' fe) : PE X (.ListComp elt [⟨t, it, fs, 0⟩] scope pos) (tE X.kw b W (fLc tg k own fi ft' fe)) := by
  refine (pe_lc hc nd L.hi L.ok L.hg L.ht L.he L.hs).imp fun σ H Q h => ?_
  rw [own_snd]
  exact lc_read L.own h
structure LcRAt (X : Cx) (b : Bs) (W : WX) (elt : Expr) (t it : Expr) (fs : List Expr) (scope : Scope) (tg : T) (own : List Nat) (fa : S → R (D × Bool)) (ft' : S → R Bool) (fe : S → R (D × Bool)) : Prop where
  hi : PI X t it (tIR X.kw b W fa)
  ok : BlkOk X.N X.env.scope scope (ownL X.N own)
  hg : ∀ (s : Shared) (H : Hp) (C : Addr) (cl : List (Str × Addr)) (fp : List Addr), PG (X.blk s H scope (compEnvC scope cl C X.env) fp) t (gT X.K tg)
  ht : ∀ (s : Shared) (H : Hp) (C : Addr) (cl : List (Str × Addr)) (fp : List Addr), PTs (X.blk s H scope (compEnvC scope cl C X.env) fp) fs (tTb X.kw ft')
  he : ∀ (s : Shared) (H : Hp) (C : Addr) (cl : List (Str × Addr)) (fp : List Addr), PE (X.blk s H scope (compEnvC scope cl C X.env) fp) elt (tEb X.kw fe)
  hs : ∀ x, foldedSetIterable it X.env x = pure x
  own : ∀ i ∈ tg.slots, i ∈ own
theorem snd_lcR {X : Cx} {b : Bs} {W : WX} {elt t it : Expr} {fs : List Expr} {scope : Scope} {pos : Pos} {tg : T} {own : List Nat} {fa : S → R (D × Bool)} {ft' : S → R Bool} {fe : S → R (D × Bool)} (hc : X.calm = true) (nd : X.N.Nodup)
    (L : LcRAt X b W elt t it fs scope tg own fa ft' fe) : PE X (.ListComp elt [⟨t, it, fs, 0⟩] scope pos) (tE X.kw b W (fLcR tg own fa ft' fe)) := by
  refine (pe_lc hc nd L.hi L.ok L.hg L.ht L.he L.hs).imp fun σ H Q h => ?_
  rw [own_snd]
  exact lcR_read L.own h
end
end Ly
set_option Elab.async false
set_option linter.all false
set_option maxRecDepth 100000
set_option maxHeartbeats 2000000
/-! Ly14: every expression does what the evaluator says (the joint). -/
namespace Ly
open PySem PySem.Spec PyProof.Rows L2
section
variable {ft : Str → Option Fn} {cf : Str → List D → Mem → CR} {G : List (Str × D)} {N : List Str} {W : WX} {sn : List Str} {sc : Scope} {X : Cx} {b : Bs}
theorem chE_v {i : Nat} {x : Expr} (C : Ctx ft cf G N W sn sc X) (h : chE G N sc (.v i) x = true) : PE X x (tVar i) := by
  cases x <;> first | cases h | skip
  exact var_ok C.n C.sc h
theorem op_of {a : E} {x : Expr} (C : Ctx ft cf G N W sn sc X) (h : chE G N sc a x = true) (he : PE X x (tE X.kw b W (evE ft cf a))) : PE X x (tO X.kw b W a fun s => opO a (evE ft cf a s) s) :=
  pe_tO he fun i hi => by subst hi; exact chE_v C h
theorem fold_plain {it : Expr} (h : plainX it = true) : ∀ x, foldedSetIterable it X.env x = pure x := by
  cases it <;> first | (intro x; rfl) | cases h
theorem walk_ok {k : IK} {its : List E} {it t : Expr} {xs : List Expr} (C : Ctx ft cf G N W sn sc X) (hw : walkX sc k (isTup t) it = some xs) (hch : chEs G N sc its xs = true) (ha : PA X xs (tA X.kw b W (evEs ft cf its)))
    (he : ∀ e x, its = [e] → xs = [x] → PE X x (tE X.kw b W (evE ft cf e))) : PI X t it (tI X.kw b W k (evEs ft cf its)) ∧ ∀ x, foldedSetIterable it X.env x = pure x := by
  have hp := chEs_plain hch
  have hl : ∀ s ds s', evEs ft cf its s = .ok ds s' → ds.length = xs.length := fun s ds s' h => by rw [← chEs_len hch]; exact evEs_len _ _ _ _ h
  cases k with
  | seq =>
    have hw : (if plainX it = true then some [it] else none) = some xs := hw
    obtain ⟨h1, h2⟩ := ifs' hw
    subst h2
    match its, hch with
    | [e], hch => exact ⟨pi_seq (he e it rfl rfl), fold_plain h1⟩
    | [], hch => exact nomatch hch
    | _ :: _ :: _, hch => exact nomatch (Bool.and_eq_true_iff.mp hch).2
  | rng =>
    cases it <;> first | cases hw | skip
    rename_i f as ks pos
    cases f <;> first | cases hw | skip
    cases ks <;> first | cases hw | skip
    rename_i fn p
    have hw : (if (decide (fn = ("range" : Str)) && gB sc fn && (!as.isEmpty && decide (as.length ≤ 3))) = true then some as else none) = some xs := hw
    obtain ⟨h1, h2⟩ := ifs' hw
    subst h2
    obtain ⟨h1, h3⟩ := Bool.and_eq_true_iff.mp h1
    obtain ⟨h1, h2⟩ := Bool.and_eq_true_iff.mp h1
    exact ⟨pi_rng C.sc h2 (of_decide_eq_true h1) (C.bl _ (by decide)) hp hl h3 ha, fun _ => rfl⟩
  | enm =>
    cases ht : isTup t with
    | false => rw [ht] at hw; cases it <;> cases hw
    | true =>
    rw [ht] at hw
    cases it <;> first | cases hw | skip
    rename_i f as ks pos
    cases f <;> first | cases hw | skip
    cases ks <;> first | cases hw | (cases as <;> first | cases hw | (rename_i as <;> cases as <;> cases hw)) | skip
    rename_i fn p
    match as, hw with
    | [x1], hw =>
      have hw : (if (decide (fn = ("enumerate" : Str)) && gB sc fn) = true then some [x1] else none) = some xs := hw
      obtain ⟨h1, h2⟩ := ifs' hw
      subst h2
      obtain ⟨h1, h2⟩ := Bool.and_eq_true_iff.mp h1
      obtain ⟨hp1, _⟩ := Bool.and_eq_true_iff.mp (show (plainX x1 && true) = true from hp)
      exact ⟨pi_enm C.sc h2 (of_decide_eq_true h1) (C.bl _ (by decide)) hp1 ht hl ha, fun _ => rfl⟩
    | [], hw => exact nomatch hw
    | _ :: _ :: _, hw => exact nomatch hw
  | zip =>
    cases ht : isTup t with
    | false => rw [ht] at hw; cases it <;> cases hw
    | true =>
    rw [ht] at hw
    cases it <;> first | cases hw | skip
    rename_i f as ks pos
    cases f <;> first | cases hw | skip
    rename_i fn p
    match as, ks, hw with
    | [x1, x2], [], hw =>
      have hw : (if (decide (fn = ("zip" : Str)) && gB sc fn) = true then some [x1, x2] else none) = some xs := hw
      obtain ⟨h1, h2⟩ := ifs' hw
      subst h2
      obtain ⟨h1, h2⟩ := Bool.and_eq_true_iff.mp h1
      obtain ⟨hp1, hp2⟩ := Bool.and_eq_true_iff.mp (show (plainX x1 && (plainX x2 && true)) = true from hp)
      obtain ⟨hp2, _⟩ := Bool.and_eq_true_iff.mp hp2
      exact ⟨pi_zp C.sc h2 (of_decide_eq_true h1) (C.bl _ (by decide)) hp1 hp2 ht hl ha, fun _ => rfl⟩
    | [], _, hw => exact nomatch hw
    | [_], _, hw => exact nomatch hw
    | [_, _], _ :: _, hw => exact nomatch hw
    | _ :: _ :: _ :: _, _, hw => exact nomatch hw
  | rev =>
    cases it <;> first | cases hw | skip
    rename_i f as ks pos
    cases f <;> first | cases hw | skip
    rename_i fn p
    match as, ks, hw with
    | [x1], [], hw =>
      have hw : (if (decide (fn = ("reversed" : Str)) && gB sc fn) = true then some [x1] else none) = some xs := hw
      obtain ⟨h1, h2⟩ := ifs' hw
      subst h2
      obtain ⟨h1, h2⟩ := Bool.and_eq_true_iff.mp h1
      obtain ⟨hp1, _⟩ := Bool.and_eq_true_iff.mp (show (plainX x1 && true) = true from hp)
      exact ⟨pi_rvs C.sc h2 (of_decide_eq_true h1) (C.bl _ (by decide)) hp1 hl ha, fun _ => rfl⟩
    | [], _, hw => exact nomatch hw
    | [_], _ :: _, hw => exact nomatch hw
    | _ :: _ :: _, _, hw => exact nomatch hw
  | itm => cases it <;> cases hw
end
end Ly
set_option Elab.async false
set_option linter.all false
set_option maxRecDepth 100000
set_option maxHeartbeats 2000000
/-! Ly14m: max(.., default=..). -/
namespace Ly
open PySem PySem.Spec PyProof.Rows L2
theorem maxL_fold : ∀ (r : List Int) (i : Int), maxL (i :: r) = some (r.foldl max i)
  | [], i => rfl
  | j :: r, i => by
    have key : ∀ (r : List Int) (a b : Int), r.foldl max (max a b) = max a (r.foldl max b) := by
      intro r
      induction r with
      | nil => intro a b; rfl
      | cons c r ih =>
        intro a b
        rw [List.foldl_cons, List.foldl_cons, ← ih]
        congr 1
        omega
    show (match maxL (j :: r) with | none => some i | some j => some (max i j)) = _
    rw [maxL_fold r j, List.foldl_cons, key]
theorem ints_plain (ns : List Int) : PyData.depthAll (ns.map PyData.int) = 0 := by
  induction ns with
  | nil => rfl
  | cons i r ih => show max 0 _ = 0; rw [ih]; rfl
theorem dp_ints {K : PySem.W.Frag} {H : Hp} : ∀ ns : List Int, DpAll K H (ns.map V.int) (ns.map PyData.int)
  | [] => .nil
  | i :: r => .cons (.int i) (dp_ints r)
def rMxd (K : PySem.W.Frag) : List V → List V → Hp → VK → Prop := fun vs zs H Q => ∃ (l : Addr) (ns : List Int) (d : Int), vs = [.ref l] ∧ zs = [.int d] ∧ SqL K H l (ns.map V.int) ∧ Q (.int ((maxL ns).getD d)) H
theorem mxd_ok {X : Cx} (hc : X.calm = true) (hu : X.A.units + 5 < cLine) : CallRK X (.builtin "max") ["default"] (rMxd X.K) := by
  intro pins s σ H xs zs us ws Q I r1 r2 h
  obtain ⟨l, ns, d, rfl, rfl, hq, q⟩ := h
  obtain ⟨u, rfl, ru⟩ := r1.one
  obtain ⟨z, rfl, rz⟩ := r2.one
  cases ru
  obtain ⟨t, rfl⟩ := rz
  obtain ⟨its, rv, pl, _⟩ := I.list hq
  obtain ⟨as, rds⟩ := Dp.readsAll I (ns.map PyData.int) (ns.map V.int) its (dp_ints ns) rv
  show wpAny _ _ (call (.builtin "max") [.ref l] [(Str.ofString "default", .int d t)]) _ _ s
  refine PySem.W.max_list_default (xs := ns.map PyData.int) (as := as) (I.ok.hd hc) pl.isList (by simpa using rds) ⟨?_, ?_⟩ ?_ ?_ ?_
  · intro x hx y hy
    obtain ⟨i, _, rfl⟩ := List.mem_map.mp hx
    obtain ⟨j, _, rfl⟩ := List.mem_map.mp hy
    rfl
  · intro x hx
    obtain ⟨i, _, rfl⟩ := List.mem_map.mp hx
    exact fun z => nomatch z
  · rw [ints_plain]; omega
  · intro e h' tk hk
    have e2 : ns = [] := List.map_eq_nil_iff.mp e
    subst e2
    exact ⟨.int d, H, I.kept (t' := tk) hk, ⟨t, rfl⟩, q⟩
  · intro y ys i v h' tk bs e hv hr hk
    cases ns with
    | nil => cases e
    | cons n r =>
      simp only [List.map_cons, List.cons.injEq] at e
      obtain ⟨rfl, rfl⟩ := e
      rw [PySem.W.maxD_ints] at hr
      rw [maxL_fold] at q
      cases hr
      exact ⟨.int (r.foldl max n), H, I.kept (t' := tk) hk, ⟨_, rfl⟩, q⟩
section
variable {X : Cx} {b : Bs} {W : WX}
theorem mxI_of {K : KW} {Φ : Hp} {ρ : List Addr} : ∀ {xs : List D} {ns : List Int} {vs : List V}, D.ints? xs = some ns → Reps K Φ ρ xs vs → vs = ns.map V.int
  | [], ns, vs, h, r => by cases h; exact r
  | x :: xs, ns, vs, h, ⟨v, ws, e, rv, rs⟩ => by
    subst e
    cases x <;> first | cases h | skip
    rename_i i
    obtain ⟨ms, h1, h2⟩ := omap (show (D.ints? xs).map (i :: ·) = some ns from h)
    subst h2
    rw [mxI_of h1 rs, show v = V.int i from rv]
    rfl
theorem snd_mxd {a : E} {x : Expr} {fa : S → R (D × Bool)} {d : Int} {p pos kp kpos : Pos} {kn : Nat} {sc : Scope} (hu : X.A.units + 5 < cLine) (hc : X.calm = true) (hs : X.env.scope = sc) (hg : gB sc "max" = true) (hm : X.mg "max" = none) (hp : plainX x = true)
    (ha : PE X x (tO X.kw b W a fun s => opO a (fa s) s)) : PE X (.Call (.Name "max" p) [x] [⟨some "default", .Constant (.int d) kn kp, kpos⟩] pos) (tE X.kw b W fun s => (opO a (fa s) s).bind fun x s => liftO s ((seeE s a x).bind fun x => mxdO x d)) := by
  obtain ⟨hG, hd⟩ := gl_of hs hg
  have hk : PK X [⟨some "default", .Constant (.int d) kn kp, kpos⟩] (tCons (tC (.int d)) tNil) := pk_cons pe_int pk_nil
  refine (pe_callBK (ks := ["default"]) (mxd_ok hc hu) hG hm (by decide +kernel) (pa_cons ha pa_nil (plain_star hp)) hk (by decide) hd (by rw [plain_star hp]; rfl) (by rw [plain_star hp]; rfl) (by rfl) (by rfl) (by rfl)).imp fun σ H Q ⟨Φ, ρ, s, r, w⟩ => ?_
  refine tO_mono (tO_bind (e := a) (f := fun s => opO a (fa s) s) r w) fun v1 H1 ⟨Φ2, ρ2, s2, d2, k1, k2, r2, o2, w2⟩ => ?_
  obtain ⟨q, e1, w5⟩ := wp_liftO w2
  obtain ⟨dx, e2, e3⟩ := obind e1
  have vw := see_view r2 o2 e2
  cases dx <;> first | cases e3 | skip
  rename_i xs
  obtain ⟨ns, e4, e5⟩ := omap (show (D.ints? xs).map (fun ns => (D.int ((maxL ns).getD d), false)) = some q from e3)
  subst e5
  obtain ⟨l, vs, rfl, hq, rs⟩ := vw
  have e6 := mxI_of e4 rs
  subst e6
  exact ⟨l, ns, d, rfl, rfl, SqL.of hq, w5 Φ2 ρ2 H1 (.int ((maxL ns).getD d)) k1 k2 r2 rfl⟩
end
end Ly
set_option Elab.async false
set_option linter.all false
set_option maxRecDepth 100000
set_option maxHeartbeats 2000000
/-! Ly14d: displays of dicts, texts to whole numbers. -/
namespace Ly
open PySem PySem.Spec PyProof.Rows L2
section
variable {X : Cx} {b : Bs} {W : WX} {pos : Pos}
theorem dispX_inv : ∀ {l : List (Str × Key)} {ks : List (Option Expr)} {vs : List Expr}, dispX l ks vs = true → PPs X pos ks vs (l.map fun p => (tC (.str p.1), tC (kV p.2))) ∧ ks.all (·.isSome) = true ∧ ks.length = l.length ∧ vs.length = l.length
  | [], [], [], _ => ⟨pps_nil, rfl, rfl, rfl⟩
  | [], _ :: _, _, h => nomatch h
  | [], [], _ :: _, h => nomatch h
  | p :: r, [], _, h => nomatch h
  | p :: r, none :: ks, _, h => nomatch h
  | p :: r, some k :: ks, [], h => by cases k <;> first | cases h | (rename_i c _ _; cases c <;> cases h)
  | (k, v) :: r, some x :: ks, y :: vs, h => by
    cases x <;> first | cases h | skip
    rename_i c n p
    cases c <;> first | cases h | skip
    rename_i k'
    cases y <;> first | cases h | skip
    rename_i c2 n2 p2
    have h2 : (decide (k = k') && kConst v c2 && dispX r ks vs) = true := h
    clear h
    simp only [Bool.and_eq_true, decide_eq_true_eq] at h2
    obtain ⟨⟨h3, h4⟩, h5⟩ := h2
    subst h3
    obtain ⟨i1, i2, i3, i4⟩ := dispX_inv (l := r) (ks := ks) (vs := vs) h5
    rcases v with i | x
    · cases c2 <;> first | (cases h4; done) | skip
      have e := of_decide_eq_true h4
      subst e
      exact ⟨pps_cons pe_str pe_int i1, i2, congrArg Nat.succ i3, congrArg Nat.succ i4⟩
    · cases c2 <;> first | (cases h4; done) | skip
      have e := of_decide_eq_true h4
      subst e
      exact ⟨pps_cons pe_str pe_str i1, i2, congrArg Nat.succ i3, congrArg Nat.succ i4⟩
theorem tPairs_c {σ : L2.St} {H : Hp} : ∀ (l : List (Str × Key)) (Q : List (V × V) → Hp → Prop), Q (l.map fun p => (.str p.1, kV p.2)) H → tPairs (l.map fun p => (tC (.str p.1), tC (kV p.2))) σ H Q
  | [], Q, h => h
  | p :: r, Q, h => tPairs_c r (fun ps H3 => Q ((.str p.1, kV p.2) :: ps) H3) h
theorem mergeK_new : ∀ (more acc : List (Key × V)), ((acc ++ more).map (·.1)).Nodup → mergeK acc more = acc ++ more
  | [], acc, _ => by simp [mergeK]
  | p :: r, acc, h => by
    have e : putK acc p.1 p.2 = acc ++ [p] := by
      unfold putK
      rw [if_neg]
      intro z
      obtain ⟨q, hq, e⟩ := List.any_eq_true.mp z
      have e := of_decide_eq_true e
      simp only [List.map_append, List.map_cons] at h
      have := (List.nodup_append.mp h).2.2
      exact this q.1 (List.mem_map.mpr ⟨q, hq, rfl⟩) p.1 List.mem_cons_self e
    show mergeK (putK acc p.1 p.2) r = _
    rw [e, mergeK_new r (acc ++ [p]) (by simpa using h)]
    simp
theorem rep_key {K : KW} {Φ : Hp} {ρ : List Addr} (k : Key) : Rep K Φ ρ (kD k) (kV k) := by
  rcases k with i | x <;> exact rfl
theorem reps_ints2 {K : KW} {Φ : Hp} {ρ : List Addr} : ∀ l : List (Str × Key), Reps K Φ ρ (l.map fun p => kD p.2) (l.map fun p => kV p.2)
  | [] => rfl
  | p :: r => ⟨_, _, rfl, rep_key p.2, reps_ints2 r⟩
theorem snd_disp {l : List (Str × Key)} {keys : List (Option Expr)} {vals : List Expr} (h : dispB l keys vals = true) : PE X (.Dict keys vals pos) (tE X.kw b W fun s => .ok (.dct (l.map fun p => .str p.1) (l.map fun p => kD p.2), true) s) := by
  unfold dispB at h
  simp only [Bool.and_eq_true, decide_eq_true_eq, Bool.not_eq_true'] at h
  obtain ⟨⟨⟨h1, h2⟩, h3⟩, h4⟩ := h
  obtain ⟨i1, i2, i3, i4⟩ := dispX_inv (X := X) (pos := pos) h1
  have hne : keys ≠ [] := fun z => by
    subst z
    have : l.length = 0 := i3.symm
    rw [List.length_eq_zero_iff.mp this] at h2
    cases h2
  refine (pe_disp i1 i2 (i3.trans i4.symm) hne (by omega)).imp fun σ H Q ⟨Φ, ρ, s, r, c⟩ p hp => ?_
  have nd : ((l.map fun p => ((Sum.inr p.1 : Key), kV p.2)).map (·.1)).Nodup := by
    have e : (l.map fun p => ((Sum.inr p.1 : Key), kV p.2)).map (·.1) = (l.map (·.1)).map Sum.inr := by simp [Function.comp_def]
    rw [e]
    exact List.pairwise_map.mpr (List.Pairwise.imp (fun hne z => hne (by cases z; rfl)) h4)
  refine tPairs_c l _ ⟨upd_same, l.map fun p => (Sum.inr p.1, kV p.2), by simp [kV], by simpa using h3, ?_⟩
  rw [mergeK_new _ [] nd, upd_upd, List.nil_append]
  have zz : ∀ l : List (Str × Key), ((l.map (·.1)).map (Sum.inr : Str → Key)).zip (l.map fun p => kV p.2) = l.map fun p => ((Sum.inr p.1 : Key), kV p.2) := by
    intro l
    induction l with
    | nil => rfl
    | cons p r ih => simp only [List.map_cons, List.zip_cons_cons, ih]
  exact c Φ ρ _ _ (Same.refl _) (List.prefix_refl _) (r.growM hp (.dK _)) ⟨⟨p, l.map fun p => kV p.2, rfl, .inl ⟨(l.map (·.1)).map Sum.inr, by simp [kD, Function.comp_def], by simp, by simpa [Function.comp_def] using nd, by rw [zz]; exact upd_same⟩, reps_ints2 l, r.newΦ hp, r.mem.ne_new hp, r.newb hp⟩, r.noOwn hp⟩
end
end Ly
set_option Elab.async false
set_option linter.all false
set_option maxRecDepth 100000
set_option maxHeartbeats 2000000
/-! LyR: xs[::-1] of lists and tuples; new dicts. -/
namespace Ly
open PySem PySem.Spec PyProof.Rows L2
theorem back_pick {α : Type} [Inhabited α] (l : List α) : ((List.range l.length).filterMap fun (m : Nat) => l[(((l.length : Int) - 1) + (m : Int) * (-1)).toNat]?) = l.reverse := by
  have e : ∀ m ∈ List.range l.length, l[(((l.length : Int) - 1) + (m : Int) * (-1)).toNat]? = some (l.reverse.getD m default) := fun m hm => by
    have hm := List.mem_range.mp hm
    have e1 : (((l.length : Int) - 1) + (m : Int) * (-1)).toNat = l.length - 1 - m := by omega
    rw [e1, List.getElem?_eq_getElem (by omega), List.getD_eq_getElem?_getD, List.getElem?_eq_getElem (by simpa using hm)]
    simp
  have e2 : (List.range l.length).filterMap (fun (m : Nat) => l[(((l.length : Int) - 1) + (m : Int) * (-1)).toNat]?) = (List.range l.length).map fun m => l.reverse.getD m default := by
    generalize List.range l.length = r at e
    induction r with
    | nil => rfl
    | cons x r ih =>
      rw [List.filterMap_cons, e x List.mem_cons_self, List.map_cons]
      simp only
      rw [ih fun m hm => e m (List.mem_cons_of_mem _ hm)]
  rw [e2]
  apply List.ext_getElem
  · simp
  · intro i h1 h2
    rw [List.getElem_map, List.getElem_range, List.getD_eq_getElem?_getD, List.getElem?_eq_getElem h2]
    rfl
section
variable {P : Program} {u : World} {B : Around} {E : Value → Shared → Prop} {st : Shared}
theorem applied_back {sl : Addr} {vk : Value} {n : Nat} {Q : Int × Int × Nat → Shared → Prop} (hs : st.heap.IsSliceOf sl .none .none vk) (pk : IsPart vk (some (-1))) (want : Q ((n : Int) - 1, -1, n) st) : wpAny (model P u) B (Builtin.Slice.sliceApplied (.ref sl) (pure (n : Int))) Q E st := by
  obtain ⟨ob, g1, g2, g3⟩ := id hs
  unfold Builtin.Slice.sliceApplied Builtin.Slice.sliceFields
  refine wpAny_bind (wpAny_bind (wpAny_field g1 g3 (x := .none) rfl (wpAny_bind (wpAny_field g1 g3 (x := .none) rfl (wpAny_bind (wpAny_field g1 g3 (x := vk) rfl (wpAny_pure ?_)))))))
  refine wpAny_bind (HT.slicePart_ pk ?_)
  show wpAny _ _ (if ((-1 : Int) == 0) = true then _ else _) _ _ st
  rw [if_neg (by decide)]
  refine wpAny_bind (HT.slicePart_ .none (wpAny_bind (HT.slicePart_ .none (wpAny_bind (wpAny_pure ?_)))))
  show wpAny _ _ (pure (((n : Int) - 1), (-1 : Int), Builtin.Slice.slicePlaces ((n : Int) - 1) (-1) (-1))) _ _ st
  have e : Builtin.Slice.slicePlaces ((n : Int) - 1) (-1) (-1) = n := by
    unfold Builtin.Slice.slicePlaces
    have h1 : ¬ ((-1 : Int) > 0) := by decide
    rw [if_neg h1]
    by_cases h : (n : Int) - 1 > -1
    · rw [if_pos h, show (- -1 : Int) = 1 by decide, Int.ediv_one]; omega
    · rw [if_neg h]; omega
  rw [e]
  exact wpAny_pure want
theorem item_back {t sl : Addr} {its : Array Value} {vk : Value} {Q : Value → Shared → Prop} (ht : IsTup st.heap t its) (hs : st.heap.IsSliceOf sl .none .none vk) (pk : IsPart vk (some (-1)))
    (want : Q (.ref st.heap.objs.size) { st with heap := st.heap.push { cls := .type "tuple", data := .seq its.toList.reverse.toArray } }) (hz : its.size ≤ sizeLine) : wpAny (model P u) B (getItem (.ref t) (.ref sl)) Q E st := by
  have fits : sizeOk (.seq its.toList.reverse.toArray) := by
    show its.toList.reverse.toArray.size ≤ sizeLine
    simpa using hz
  obtain ⟨ob, g1, g2, g3⟩ := id hs
  have tys : st.TypeIs (.ref sl) "slice" := ⟨ob, g1, g2⟩
  unfold getItem
  try with_reducible refine wpAny_holding ?_
  first | refine wpAny_bind (wpAny_pure ?_) | skip
  refine wpAny_bind (wpAny_sequenceKey ht.typeIs (by decide) ?_)
  refine wpAny_bind (wpAny_callSpecial?_slot (name := Str.ofString "__getitem__") ht.typeIs PyProof.Rows.slot_tuple_getitem
    (wpAny_call_entry PyProof.Rows.slot_tuple_getitem ht.typeIs entry_tuple_getitem ?_ (args_tuple_getitem _ _)))
  show wpAny _ _ (Builtin.Tuple.tupleItemsOf (.ref t) >>= _) _ _ st
  refine wpAny_bind (PyProof.Rows.tupleItemsOf_ ht ?_)
  refine wpAny_bind (wpAny_typeOf tys ?_)
  rw [if_pos (by decide)]
  refine wpAny_bind (applied_back hs pk ?_)
  have no : ¬ ((((its.size : Int) - 1) == 0 && (-1 : Int) == 1 && its.size == its.size) = true) := by
    intro z
    rw [Bool.and_eq_true, Bool.and_eq_true] at z
    exact absurd z.1.2 (by decide)
  show wpAny _ _ (if (((its.size : Int) - 1) == 0 && (-1 : Int) == 1 && its.size == its.size) = true then _ else _) _ _ st
  rw [if_neg no]
  have pick : ((List.range its.size).filterMap fun (m : Nat) => its[(((its.size : Int) - 1) + (m : Int) * (-1)).toNat]?) = its.toList.reverse := by
    have := back_pick its.toList
    simpa [Array.getElem?_toList] using this
  rw [pick]
  first
    | exact wpAny_bind (m := Builtin.Tuple.tupleExact _) (wpAny_newObj_type (wpAny_pure ⟨_, rfl, wpAny_pure want⟩) fits)
    | exact wpAny_bind (m := Builtin.Tuple.tupleExact _) (wpAny_newObj_type (wpAny_bind (wpAny_pure (wpAny_pure ⟨_, rfl, wpAny_pure want⟩))) fits)
    | exact wpAny_bind (wpAny_bind (m := Builtin.Tuple.tupleExact _) (wpAny_newObj_type (wpAny_pure (wpAny_pure ⟨_, rfl, wpAny_pure want⟩)) fits))
    | exact wpAny_bind (wpAny_bind (m := Builtin.Tuple.tupleExact _) (wpAny_newObj_type (wpAny_pure ⟨_, rfl, wpAny_pure want⟩) fits))
end
section
variable {X : Cx}
/-- e[::-1], of a list or a tuple -/
def tBack (K : PySem.W.Frag) (te : TE) : TE := fun σ H Q => te σ H fun x H1 => (∃ a xs, x = .ref a ∧ SqL K H1 a xs ∧ ∀ p, H1 p = none → Q (.ref p) (upd H1 p (.lst xs.reverse))) ∨
  ∃ a xs, x = .ref a ∧ SqT K H1 a xs ∧ ∀ p, H1 p = none → Q (.ref p) (upd H1 p (.tup xs.reverse))
theorem pe_back {e : Expr} {te : TE} {kn : Nat} {pa pb pc pd : Pos} (he : PE X e te) : PE X (.Subscript e (.Slice none none (some (.UnaryOp .USub (.Constant (.int 1) kn pa) pb)) pc) pd) (tBack X.K te) := by
  refine ⟨fun pins s σ H Q I want => ?_⟩
  refine Subscript_ (thn (he.run pins s σ H _ I want) fun v s1 ⟨x, H1, I1, rx, w1⟩ => ?_)
  have step : PO X (some (.UnaryOp .USub (.Constant (.int 1) kn pa) pb)) (tPart (tUn (rU fun i => .int (-i)) (tC (.int 1)))) := po_some (pe_un un_neg pe_int)
  refine wpAny_Slice (thn (po_none.run pins s1 σ H1 (fun o Hz => o = none ∧ Hz = H1) I1 ⟨rfl, rfl⟩) fun va s2 ⟨oa, H2, I2, qa, ea, fa⟩ => ?_)
  subst ea fa
  refine thn (po_none.run pins s2 σ H2 (fun o Hz => o = none ∧ Hz = H2) I2 ⟨rfl, rfl⟩) fun vb s3 ⟨ob, H3, I3, qb, eb, fb⟩ => ?_
  subst eb fb
  refine thn (step.run pins s3 σ H3 (fun o Hz => o = some (-1) ∧ Hz = H3) I3 ⟨1, rfl, -1, rfl, rfl, rfl⟩) fun vc s4 ⟨oc, H4, I4, qc, ec, fc⟩ => ?_
  subst ec fc
  have I5 : Inv X pins σ H4 { s4 with heap := s4.heap.push { cls := .type "slice", data := .fields #[va, vb, vc] } } := I4.kept (t' := s4.toks) fun c oo z => Heap.get?_push_of_some _ z
  show wpAny (model X.prog X.w) X.A (subscriptTail e (.Slice none none (some (.UnaryOp .USub (.Constant (.int 1) kn pa) pb)) pc) v (.ref s4.heap.objs.size)) (EP X pins σ Q) X.xe { s4 with heap := s4.heap.push { cls := .type "slice", data := .fields #[va, vb, vc] } }
  rcases w1 with ⟨a, xs, rfl, hx, q⟩ | ⟨a, xs, rfl, hx, q⟩
  · cases rx
    obtain ⟨its, r, ht, hz⟩ := I5.list hx
    have hl := r.length
    refine tail_any (ops := [.ref a, .ref s4.heap.objs.size]) ht.isList.typeIs (PySem.slot_list_getitem.lookup) ?_ (by with_unfolding_all rfl)
    refine wpAny_getItem_list_slice ht.isList (Heap.IsSliceOf.new _ va vb vc) qa qb qc (by decide) ?_ (by rw [List.size_toArray]; omega)
    rw [PySem.W.krv_pick]
    exact ⟨.ref _, _, I5.laid (t' := s4.toks) (o := .lst xs.reverse) (fun c oo z => Heap.get?_push_of_some _ z) (Nat.le_refl _) ⟨by rw [List.length_reverse]; exact hz, _, 0, r.reverse, Heap.get?_push_size _ rfl⟩, rfl, q _ (I5.hok.fresh (Nat.le_refl _))⟩
  · cases rx
    obtain ⟨its, r, ht, hz⟩ := I5.tuple hx
    have hl := r.length
    cases qa; cases qb
    refine tail_any (ops := [.ref a, .ref s4.heap.objs.size]) ht.typeIs (PyProof.Rows.slot_tuple_getitem.lookup) ?_ (by with_unfolding_all rfl)
    refine item_back ht (Heap.IsSliceOf.new _ _ _ vc) qc ?_ (by rw [List.size_toArray]; omega)
    exact ⟨.ref _, _, I5.laid (t' := s4.toks) (o := .tup xs.reverse) (fun c oo z => Heap.get?_push_of_some _ z) (Nat.le_refl _) ⟨by rw [List.length_reverse]; exact hz, _, by simpa using r.reverse, IsTup.new _ _⟩, rfl, q _ (I5.hok.fresh (Nat.le_refl _))⟩
variable {b : Bs} {W : WX}
theorem snd_slr {a : E} {x : Expr} {fa : S → R (D × Bool)} {kn : Nat} {pa pb pc pd : Pos} (ha : PE X x (tO X.kw b W a fun s => opO a (fa s) s)) :
    PE X (.Subscript x (.Slice none none (some (.UnaryOp .USub (.Constant (.int 1) kn pa) pb)) pc) pd) (tE X.kw b W fun s => (opO a (fa s) s).bind fun x s => liftO s ((seeE s a x).bind slrO)) := by
  refine (pe_back ha).imp fun σ H Q ⟨Φ, ρ, s, r, w⟩ => ?_
  refine tO_mono (tO_bind (e := a) (f := fun s => opO a (fa s) s) r w) fun v1 H1 ⟨Φ2, ρ2, s2, d2, k1, k2, r2, o2, w2⟩ => ?_
  obtain ⟨q, e1, w5⟩ := wp_liftO w2
  obtain ⟨dx, e2, e3⟩ := obind e1
  have vw := see_view r2 o2 e2
  cases dx <;> first | cases e3 | skip
  · obtain ⟨l, vs, rfl, hq, rs, _⟩ := vw
    exact .inr ⟨l, vs, rfl, sqT_mono r2.sub hq, fun p hp => cont_tup (cont_mono k1 k2 w5) r2 (reps_rev rs) hp⟩
  · obtain ⟨l, vs, rfl, hq, rs⟩ := vw
    exact .inl ⟨l, vs, rfl, SqL.of hq, fun p hp => cont_lst (cont_mono k1 k2 w5) r2 (reps_rev rs) hp⟩
theorem snd_dctK {pos : Pos} : PE X (.Dict [] [] pos) (tE X.kw b W fun s => .ok (.dct [] [], true) s) :=
  pe_dnewK.imp fun σ H Q ⟨Φ, ρ, s, r, c⟩ p hp => (show Cont X.kw b Φ ρ σ Q (.dct [] [], true) s from c) Φ ρ _ _ (Same.refl _) (List.prefix_refl _) (r.growM hp (.dK [])) ⟨⟨p, [], rfl, .inl ⟨[], rfl, rfl, List.nodup_nil, upd_same⟩, rfl, r.newΦ hp, r.mem.ne_new hp, r.newb hp⟩, r.noOwn hp⟩
theorem snd_dctT {pos : Pos} : PE X (.Dict [] [] pos) (tE X.kw b W fun s => .ok (.dct [] [.non], true) s) :=
  pe_dnewT.imp fun σ H Q ⟨Φ, ρ, s, r, c⟩ p hp => (show Cont X.kw b Φ ρ σ Q (.dct [] [.non], true) s from c) Φ ρ _ _ (Same.refl _) (List.prefix_refl _) (r.growM hp (.dT [])) ⟨⟨p, [.non], rfl, .inr (.inr ⟨rfl, rfl, upd_same⟩), ⟨_, _, rfl, rfl, rfl⟩, r.newΦ hp, r.mem.ne_new hp, r.newb hp⟩, r.noOwn hp⟩
theorem snd_dead {x : Expr} : PE X x (tE X.kw b W fun _ => .no) ∧ PT X x (tT X.kw b W fun _ => .no) :=
  ⟨⟨fun pins s σ H Q I ⟨_, _, _, _, w⟩ => (show False from w).elim⟩, ⟨fun pins s σ H Q I ⟨_, _, _, _, w⟩ => (show False from w).elim⟩⟩
end
end Ly
set_option Elab.async false
set_option linter.all false
set_option maxRecDepth 100000
set_option maxHeartbeats 4000000
/-! LyQ: sorted(set(xs)) of whole numbers. -/
namespace Ly
open PySem PySem.Spec PyProof.Rows L2
/-- the members met ahead of i -/
def met (f : Nat → Int) (i : Nat) (k : Int) : Bool := (firstMet f i).any (· == k)
section
variable {P : Program} {w : World} {B : Around} {R : Result → Shared → Prop} {j : Addr} {fp wr : List Addr} {G : Array GenState → Array GenState → Prop} {n : Nat} {Pv : Nat → Value → Prop} {Tt : Nat → Shared → Prop}
theorem met_loop (W : WalksS P w B.in1 j fp wr G n Pv Tt) (e : Addr) (out : e ∉ fp) (f : Nat → Int) (vf : ∀ i v, Pv i v → ∃ t, v = .int (f i) t) (room : n + 1 < scanBound) : ∀ (d i : Nat) (st : Shared), n - i = d → i ≤ n → Tt i st →
      SetR w st.heap e (met f i) (firstMet f i).length → (∀ st', Moved (e :: wr) G st st' → SetR w st'.heap e (met f n) (firstMet f n).length → R (.ok (.ret .none)) st') → codeAny (model P w) B (.builtin "set.update.loop" ⟨[.ref e, .ref j], []⟩) R st := by
  have ew : e ∉ wr := fun z => out (W.sub _ z)
  intro d
  induction d with
  | zero =>
    intro i st hd hi tt sr fin
    obtain rfl : i = n := by omega
    refine codeAny_builtin F.entry_set_update_loop ?_; rw [Around.under_plainId F.plain_set_update_loop _]
    show wpAny _ B.in1 (pyNext (.ref j) >>= _) _ _ st
    refine wpAny_bind (W.done st _ _ tt fun st' mv => ?_); show wpAny _ B.in1 (ret Value.none) _ _ st'
    exact wpAny_pure (fin st' (mv.mono fun b hb => List.mem_cons_of_mem _ hb) (sr.at fun o ho => mv.heap e _ ew ho))
  | succ d ih =>
    intro i st hd hi tt sr fin
    have lt : i < n := by omega
    refine codeAny_builtin F.entry_set_update_loop ?_; rw [Around.under_plainId F.plain_set_update_loop _]
    show wpAny _ B.in1 (pyNext (.ref j) >>= _) _ _ st
    refine wpAny_bind (W.item i st _ _ lt tt fun v st' pv tt' mv => ?_)
    obtain ⟨t, rfl⟩ := vf i v pv
    have sr' : SetR w st'.heap e (met f i) (firstMet f i).length := sr.at fun o ho => mv.heap e _ ew ho
    show wpAny _ B.in1 (holding [Value.int (f i) t] (setAdd e (.int (f i) t)) >>= _) _ _ st'
    refine wpAny_bind (wpAny_holding ?_); unfold setAdd
    refine wpAny_holding (wpAny_bind ((intKind P w).pyHash (k := f i) (intKind_is _ _ _ _) ?_))
    have room' : (firstMet f i).length + 1 < scanBound := by have := firstMet_length_le f i; omega
    refine setR_add_hashed (s := { st' with toks := st'.toks + 1 }) sr' room' fun g' sb sr2 => ?_
    have en : (if met f i (f i) = true then (firstMet f i).length else (firstMet f i).length + 1) = (firstMet f (i + 1)).length := by rw [firstMet_succ, step_length]; rfl
    have sr3 : SetR w g' e (met f (i + 1)) (firstMet f (i + 1)).length := by
      rw [← en]
      exact sr2.congr fun k => by unfold met; rw [firstMet_succ, step_any]
    refine wpAny_pure ⟨plainId_quiet F.plain_set_update_loop _, ih (i + 1) _ (by omega) lt (W.frame _ st' _ _ tt' (Nat.le_succ _) fun b hb o z => ?_) sr3 fun st2 mv2 sr4 => ?_⟩
    · rw [sb.2 b fun q : b = e => out (q ▸ hb)]; exact z
    · refine fin st2 (Moved.trans W.gtrans ((mv.mono fun b hb => List.mem_cons_of_mem _ hb).then_heap (Nat.le_succ _) fun b o hb z => ?_) mv2) sr4
      rw [sb.2 b fun q : b = e => hb (q ▸ List.mem_cons_self)]; exact z
end
section
variable {P : Program} {w : World} {B : Around} {E : Value → Shared → Prop} {st : Shared}
theorem set_made (v : Value) {Qv : Value → Shared → Prop} (k : Qv (.ref st.heap.objs.size) { st with heap := st.heap.push { cls := .type "set", dict := none, data := .set #[] 0 (.fresh 0 0 (!w.params.followText "set-order")) } }) :
    codeAny (model P w) B (.call (.builtin "set.__new__") ⟨[.type "set", v], []⟩) (wants Qv E) st := by
  refine codeAny_of_tree ?_
  show wpAny _ B.in1 (do checkBuiltinCall "set.__new__" ⟨[.type "set", v], []⟩; again (.builtin "set.__new__" ⟨[.type "set", v], []⟩)) _ _ st
  refine wpAny_bind (wpAny_of_eq (F.newCall_set_1 v) (wpAny_pure ⟨plainId_quiet F.plain_set_new _, codeAny_builtin F.entry_set_new ?_⟩))
  rw [Around.under_plainId F.plain_set_new _]; unfold Builtin.«set.__new__» Builtin.Frozenset.newClass
  have sub := sub_set_self
  obtain ⟨hp, g, d, tk, os⟩ := st
  dsimp only
  wp_walk
  refine wpAny_askSetting (wpAny_pure ?_); dsimp only; simp only [newObj]
  refine wpAny_bind (wpAny_alloc (wpAny_pure ?_)); exact wpAny_pure k
theorem setR_pushed : SetR w (st.heap.push { cls := .type "set", dict := none, data := .set #[] 0 (.fresh 0 0 (!w.params.followText "set-order")) }) st.heap.objs.size (fun _ => false) 0 := setR_fresh w
theorem set_of_list {l : Addr} {vs : Array Value} {ns : List Int} {Qv : Value → Shared → Prop} (calm : B.handled = none) (hl : st.heap.IsList l vs) (hi : IntsAre vs.toList ns) (room : vs.size + 1 < scanBound)
    (k : ∀ (g' : Heap) (tk : Nat), SetR w g' st.heap.objs.size (met (fun i => ns.getD i 0) vs.size) (firstMet (fun i => ns.getD i 0) vs.size).length → (∀ b o, b < st.heap.objs.size → st.heap.get? b = some o → g'.get? b = some o) → Qv (.ref st.heap.objs.size) { st with heap := g', toks := tk }) :
    wpAny (model P w) B (call (.type "set") [.ref l]) Qv E st := by
  obtain ⟨mc, mt, mro⟩ := F.called_set.mro
  have made := F.called_set.made
  have subs := F.called_set.sub
  refine wpAny_call (codeAny_of_tree ?_); show wpAny _ _ (callAny (.type "set") _) _ _ _
  refine wpAny_pure ⟨Code.quiet_builtin _ (by decide +kernel), codeAny_builtin F.entry_type_call ?_⟩; rw [Around.under_plain (weight_type_call_type "set" [.ref l] []) rfl]
  have t1 := F.called_set.notType
  have t2 := F.called_set.canCreate
  have t3 := F.typeCall_set_1 (.ref l)
  repeat (any_goals (first | assumption | wp_step))
  refine codeAny_mono (set_made (.ref l) (E := E) (Qv := fun v st1 => v = .ref st.heap.objs.size ∧ st1 = { st with heap := st.heap.push { cls := .type "set", dict := none, data := .set #[] 0 (.fresh 0 0 (!w.params.followText "set-order")) } }) ⟨rfl, rfl⟩) fun r st1 hr => ?_
  cases r with
  | error e => exact hr
  | ok fl =>
    cases fl with
    | ret v =>
      obtain ⟨rfl, rfl⟩ := hr
      have at0 : (st.heap.push { cls := .type "set", dict := none, data := .set #[] 0 (.fresh 0 0 (!w.params.followText "set-order")) }).get? st.heap.objs.size = some { cls := .type "set", dict := none, data := .set #[] 0 (.fresh 0 0 (!w.params.followText "set-order")) } := Heap.get?_push_size _ rfl
      have ty : Shared.TypeIs { st with heap := st.heap.push { cls := .type "set", dict := none, data := .set #[] 0 (.fresh 0 0 (!w.params.followText "set-order")) } } (.ref st.heap.objs.size) "set" := ⟨_, at0, rfl⟩
      have i1 := F.called_set.init.lookup
      have i2 := F.called_set.init.bind (.ref st.heap.objs.size)
      repeat (any_goals (first | assumption | wp_step))
      refine codeAny_mono (codeAny_call_builtin (R := wants (fun r st2 => r = .none ∧ ∃ g' tk, st2 = { st with heap := g', toks := tk } ∧ SetR w g' st.heap.objs.size (met (fun i => ns.getD i 0) vs.size) (firstMet (fun i => ns.getD i 0) vs.size).length ∧
          (∀ b o, b < st.heap.objs.size → st.heap.get? b = some o → g'.get? b = some o)) E) F.called_set.init.plain F.entry_set_init (check_set_init_1 ty ?_)) fun r2 st2 hr2 => ?_
      · obtain ⟨lo, hlo, lc, nl, ld⟩ := hl
        obtain ⟨locls, lodict, lodata, loslots⟩ := lo
        simp only at lc ld
        subst lc ld
        have lo2 : (st.heap.push { cls := .type "set", dict := none, data := .set #[] 0 (.fresh 0 0 (!w.params.followText "set-order")) }).get? l = some { cls := .type "list", dict := lodict, data := .seq vs nl, slots := loslots } := Heap.get?_push_of_some _ hlo
        have s1 := F.sub_list_set
        have s2 := F.sub_list_frozenset
        have ne : (Value.type "list" == Value.type "dict") = false := by decide
        have hl1 : (st.heap.push { cls := .type "set", dict := none, data := .set #[] 0 (.fresh 0 0 (!w.params.followText "set-order")) }).IsList l vs := ⟨_, lo2, rfl, nl, rfl⟩
        unfold Builtin.«set.__init__» noKeywords Builtin.Frozenset.updateFrom
        generalize hPI : pyIter = PI
        wp_walk
        subst hPI
        refine wpAny_pyIter_list hl1 ?_; refine wpAny_bind (wpAny_runValue ?_)
        have lS : l < st.heap.objs.size := Heap.lt_size hlo
        have c3 : B.in1.in1.in1.handled = none := by simp [calm]
        have nj : l ≠ (st.heap.push { cls := .type "set", dict := none, data := .set #[] 0 (.fresh 0 0 (!w.params.followText "set-order")) }).objs.size := by rw [Heap.size_push]; exact Nat.ne_of_lt (Nat.lt_succ_of_lt lS)
        have out : st.heap.objs.size ∉ [(st.heap.push { cls := .type "set", dict := none, data := .set #[] 0 (.fresh 0 0 (!w.params.followText "set-order")) }).objs.size, l] := by
          rw [Heap.size_push]; simp only [List.mem_cons, List.mem_singleton, List.not_mem_nil, or_false, not_or]; exact ⟨Nat.ne_of_lt (Nat.lt_succ_self _), Nat.ne_of_gt lS⟩
        have vf : ∀ (i : Nat) (v : Value), vs[i]? = some v → ∃ t, v = .int ((fun i => ns.getD i 0) i) t := fun i v hv => IntsAre.int_at hi i v (by rw [Array.getElem?_toList]; exact hv)
        refine met_loop ((Walks.list c3 _ l nj vs).toS) st.heap.objs.size out (fun i => ns.getD i 0) vf room (vs.size - 0) 0 _ (by omega) (Nat.zero_le _) ⟨⟨_, Heap.get?_push_size _ rfl, rfl, rfl⟩, (hl1.push _)⟩ ?begun ?ended
        case begun => exact setR_pushed.at fun o ho => Heap.get?_push_of_some _ ho
        case ended =>
          intro st3 mv sr
          obtain ⟨g', ge, dr, tk', os'⟩ := st3
          obtain rfl : ge = st.gens := mv.gens
          obtain rfl : dr = st.drawn := mv.drawn
          obtain rfl : os' = st.os := mv.os
          show wpAny _ _ _ _ _ _
          refine wpAny_pure ?_; show wpAny _ _ (ret Value.none) _ _ _
          refine wpAny_pure ⟨rfl, g', tk', rfl, sr, fun b o hb z => ?_⟩
          have b1 : b ≠ st.heap.objs.size := Nat.ne_of_lt hb
          have b2 : b ≠ (st.heap.push { cls := .type "set", dict := none, data := .set #[] 0 (.fresh 0 0 (!w.params.followText "set-order")) }).objs.size := by rw [Heap.size_push]; exact Nat.ne_of_lt (Nat.lt_succ_of_lt hb)
          exact mv.heap b o (by simp only [List.mem_cons, List.mem_singleton, List.not_mem_nil, or_false, not_or]; exact ⟨b1, b2⟩) (Heap.get?_push_of_some _ (Heap.get?_push_of_some _ z))
      · cases r2 with
        | error e => exact hr2
        | ok fl2 =>
          cases fl2 with
          | ret r =>
            obtain ⟨rfl, g', tk, rfl, sr, kp⟩ := hr2
            repeat (any_goals (first | assumption | wp_step))
            exact k _ _ sr kp
          | _ => exact hr2.elim
    | _ => exact hr.elim
end
end Ly
set_option Elab.async false
set_option linter.all false
set_option maxRecDepth 100000
set_option maxHeartbeats 4000000
/-! LyQ2: sorted(set(xs)) of whole numbers, the expression. -/
namespace Ly
open PySem PySem.Spec PyProof.Rows L2
theorem lt_uniq : ∀ {a b : List Int}, a.Pairwise (· < ·) → b.Pairwise (· < ·) → (∀ k, k ∈ a ↔ k ∈ b) → a = b
  | [], [], _, _, _ => rfl
  | [], y :: b, _, _, m => absurd ((m y).mpr List.mem_cons_self) (by simp)
  | x :: a, [], _, _, m => absurd ((m x).mp List.mem_cons_self) (by simp)
  | x :: a, y :: b, h, q, m => by
    obtain ⟨h1, h2⟩ := List.pairwise_cons.mp h
    obtain ⟨q1, q2⟩ := List.pairwise_cons.mp q
    have e : x = y := by
      rcases List.mem_cons.mp ((m x).mp List.mem_cons_self) with z | z
      · exact z
      · rcases List.mem_cons.mp ((m y).mpr List.mem_cons_self) with z2 | z2
        · exact z2.symm
        · have := h1 y z2
          have := q1 x z
          omega
    subst e
    refine congrArg (x :: ·) (lt_uniq h2 q2 fun k => ⟨fun z => ?_, fun z => ?_⟩)
    · rcases List.mem_cons.mp ((m k).mp (List.mem_cons_of_mem _ z)) with z2 | z2
      · have := h1 k z; omega
      · exact z2
    · rcases List.mem_cons.mp ((m k).mpr (List.mem_cons_of_mem _ z)) with z2 | z2
      · have := q1 k z; omega
      · exact z2
theorem dedupI_mem : ∀ (l : List Int) (k : Int), k ∈ dedupI l ↔ k ∈ l
  | [], k => by simp [dedupI]
  | i :: r, k => by
    have ih := dedupI_mem r k
    unfold dedupI
    split
    · rename_i h
      rw [ih, List.mem_cons]
      exact ⟨.inr, fun z => z.elim (fun e => e ▸ h) id⟩
    · rw [List.mem_cons, List.mem_cons, ih]
theorem dedupI_nodup : ∀ l : List Int, (dedupI l).Nodup
  | [] => List.nodup_nil
  | i :: r => by
    unfold dedupI
    split
    · exact dedupI_nodup r
    · rename_i h
      exact List.nodup_cons.mpr ⟨fun z => h ((dedupI_mem r i).mp z), dedupI_nodup r⟩
theorem lt_of_le : ∀ {l : List Int}, l.Pairwise (· ≤ ·) → l.Nodup → l.Pairwise (· < ·)
  | [], _, _ => List.Pairwise.nil
  | x :: l, h, d => by
    obtain ⟨h1, h2⟩ := List.pairwise_cons.mp h
    obtain ⟨d1, d2⟩ := List.nodup_cons.mp d
    exact List.pairwise_cons.mpr ⟨fun y hy => Int.lt_iff_le_and_ne.mpr ⟨h1 y hy, fun z => d1 (z ▸ hy)⟩, lt_of_le h2 d2⟩
theorem sset_lt (l : List Int) : (sortI (dedupI l)).Pairwise (· < ·) := lt_of_le (sortI_sorted _) ((sortI_perm _).nodup_iff.mpr (dedupI_nodup l))
theorem sset_mem (l : List Int) (k : Int) : k ∈ sortI (dedupI l) ↔ k ∈ l := by rw [(sortI_perm _).mem_iff, dedupI_mem]
theorem met_mem (ns : List Int) (k : Int) : met (fun i => ns.getD i 0) ns.length k = true ↔ k ∈ ns := by
  unfold met
  rw [firstMet_any]
  have e : (List.range ns.length).map (fun i => ns.getD i 0) = ns := by
    apply List.ext_getElem
    · simp
    · intro i h1 h2
      simp [List.getD, h2]
  rw [e, List.any_eq_true]
  exact ⟨fun ⟨x, h1, h2⟩ => by rw [← beq_iff_eq.mp h2]; exact h1, fun h => ⟨k, h, by simp⟩⟩
section
variable {X : Cx}
/-- set(xs), fewer than 64 whole numbers -/
def rSet64 (w : World) (K : PySem.W.Frag) : List V → Hp → VK → Prop := fun vs H Q => ∃ (a : Addr) (ns : List Int), vs = [V.ref a] ∧ SqL K H a (ns.map V.int) ∧ ns.length < 64 ∧
  ∀ p, H p = none → Q (.ref p) (upd H p (SetO w p (met (fun i => ns.getD i 0) ns.length) (firstMet (fun i => ns.getD i 0) ns.length).length))
theorem cr_set64 (hc : X.calm = true) : CallR X (.type "set") (rSet64 X.w X.K) := by
  intro pins s σ H vs us Q I r h
  obtain ⟨a, ns, rfl, hs, hl, q⟩ := h
  rw [Vals.ref1 r]
  obtain ⟨its, rv, pl, hz⟩ := I.list hs
  have hI : IntsAre its ns := ints_vals rv
  have len : its.length = ns.length := IntsAre.length hI
  refine set_of_list (ns := ns) (I.ok.hd hc) pl.isList (by simpa using hI) (by rw [List.size_toArray, len]; unfold scanBound; omega) fun g' tk sr kp => ?_
  rw [show its.toArray.size = ns.length by rw [List.size_toArray, len]] at sr
  exact ⟨.ref _, _, I.laid (t' := tk) (fun b u z => kp b u (Heap.lt_size z) z) (Nat.le_refl _) (setO_new sr), rfl, q _ (I.hok.fresh (Nat.le_refl _))⟩
variable {b : Bs} {W : WX}
theorem snd_sset {a : E} {x : Expr} {fa : S → R (D × Bool)} {p p2 q pos : Pos} {sc : Scope} (hc : X.calm = true) (hs : X.env.scope = sc) (hg : gB sc "sorted" = true) (hm : X.mg "sorted" = none) (hg2 : gB sc "set" = true) (hm2 : X.mg "set" = none) (hp : plainX x = true)
    (ha : PE X x (tO X.kw b W a fun s => opO a (fa s) s)) : PE X (.Call (.Name "sorted" p) [.Call (.Name "set" p2) [x] [] q] [] pos) (tE X.kw b W fun s => (opO a (fa s) s).bind fun x s => liftO s ((seeE s a x).bind ssetO)) := by
  obtain ⟨hG, hd⟩ := gl_of hs hg
  obtain ⟨hG2, hd2⟩ := gl_of hs hg2
  have inn : PE X (.Call (.Name "set" p2) [x] [] q) (tCB (rSet64 X.w X.K) (tCons (tO X.kw b W a fun s => opO a (fa s) s) tNil)) := pe_callTy (cr_set64 hc) hG2 hm2 (by decide +kernel) (pa_cons ha pa_nil (plain_star hp)) (by decide) hd2 (plain_star hp) rfl
  refine (pe_callB (cr_sortedSet hc) hG hm (by decide +kernel) (pa_cons inn pa_nil rfl) (by decide) hd rfl rfl).imp fun σ H Q ⟨Φ, ρ, s, r, w⟩ => ?_
  refine tO_mono (tO_bind (e := a) (f := fun s => opO a (fa s) s) r w) fun v1 H1 ⟨Φ2, ρ2, s2, d2, k1, k2, r2, o2, w2⟩ => ?_
  obtain ⟨z, e1, w5⟩ := wp_liftO w2
  obtain ⟨dx, e2, e3⟩ := obind e1
  have vw := see_view r2 o2 e2
  cases dx <;> first | cases e3 | skip
  rename_i xs
  obtain ⟨ns, e4, e5⟩ := obind (show (D.ints? xs).bind (fun ns => if ns.length < 64 then some (D.lst ((sortI (dedupI ns)).map D.int), true) else none) = some z from e3)
  obtain ⟨h64, e6⟩ := ifs e5 rfl
  subst e6
  obtain ⟨l, vs, rfl, hq, rs⟩ := vw
  have e7 := mxI_of e4 rs
  subst e7
  refine ⟨l, ns, rfl, SqL.of hq, h64, fun p1 hp1 => ⟨p1, _, _, rfl, upd_same, Nat.lt_of_le_of_lt (firstMet_length_le _ _) h64, fun ks p3 pw mem len hp3 => ?_⟩⟩
  have e8 : ks = sortI (dedupI ns) := lt_uniq pw (sset_lt ns) fun k => by rw [mem k, met_mem, sset_mem]
  subst e8
  exact cont_lst (cont_mono k1 k2 w5) (r2.growM hp1 _) (reps_ints _) hp3
end
end Ly
set_option Elab.async false
set_option linter.all false
set_option maxRecDepth 100000
set_option maxHeartbeats 2000000
/-! Ly15: every expression does what the evaluator says. -/
namespace Ly
open PySem PySem.Spec PyProof.Rows L2
section
variable {ft : Str → Option Fn} {cf : Str → List D → Mem → CR} {G : List (Str × D)} {N : List Str}
theorem and3 {a b c : Bool} (h : (a && b && c) = true) : a = true ∧ b = true ∧ c = true := by
  cases a <;> cases b <;> cases c <;> first | exact ⟨rfl, rfl, rfl⟩ | cases h
theorem and2 {a b : Bool} (h : (a && b) = true) : a = true ∧ b = true := Bool.and_eq_true_iff.mp h
theorem base_ok {X : Cx} {o : Expr} {m : Str} (hp : plainX o = true) (h : baseB o = true) : attributeBase o m X.env (eval o X.env) = eval o X.env := by
  cases o <;> first | rfl | cases hp | skip
  rename_i f as ks p
  cases as with
  | cons _ _ => cases f <;> rfl
  | nil =>
    cases ks with
    | cons _ _ => cases f <;> rfl
    | nil =>
      cases f <;> first | rfl | skip
      rename_i n p'
      have q : (n == ("super" : Str)) = false := by
        have h : (!(n == ("super" : Str))) = true := h
        simpa using h
      unfold attributeBase
      simp only [bne, q]
      rfl
theorem disp_ev : ∀ {ks vs : List E} {l : List (Str × Key)} {s : S}, dispP ks vs = some l → evE ft cf (.dct ks vs) s = .ok (.dct (l.map fun p => .str p.1) (l.map fun p => kD p.2), true) s := by
  intro ks vs l s h
  have key : ∀ {ks vs : List E} {l : List (Str × Key)}, dispP ks vs = some l → evEs ft cf ks s = .ok (l.map fun p => .str p.1) s ∧ evEs ft cf vs s = .ok (l.map fun p => kD p.2) s := by
    intro ks
    induction ks with
    | nil =>
      intro vs l h
      cases vs with
      | nil => cases h; exact ⟨rfl, rfl⟩
      | cons v vs => cases h
    | cons k ks ih =>
      intro vs l h
      cases k <;> first | cases h | skip
      rename_i d
      cases d <;> first | cases h | skip
      rename_i k
      cases vs with
      | nil => cases h
      | cons v vs =>
        cases v <;> first | cases h | skip
        rename_i d2
        obtain ⟨v, h0, h⟩ := obind (show ((dKey d2).bind fun v => (dispP ks vs).map ((k, v) :: ·)) = some l from h)
        have h0 : d2 = kD v := by
          cases d2 <;> first | (cases h0; done) | (cases h0; rfl)
        obtain ⟨l', h1, h2⟩ := omap h
        subst h2 h0
        obtain ⟨i1, i2⟩ := ih h1
        refine ⟨?_, ?_⟩
        · show (R.ok (D.str k, false) s).bind (fun p s => (evEs ft cf ks s).bind fun ds s => .ok (p.1 :: ds) s) = _
          show (evEs ft cf ks s).bind (fun ds s => .ok (D.str k :: ds) s) = _
          rw [i1]; rfl
        · show (evEs ft cf vs s).bind (fun ds s => .ok (kD v :: ds) s) = _
          rw [i2]; rfl
  obtain ⟨h1, h2⟩ := key h
  show (evEs ft cf ks s).bind (fun dk s => (evEs ft cf vs s).bind fun dv s => .ok (D.dct dk dv, true) s) = _
  rw [h1]
  show (evEs ft cf vs s).bind (fun dv s => .ok (D.dct (l.map fun p => .str p.1) dv, true) s) = _
  rw [h2]
  rfl
def SndE (ft : Str → Option Fn) (cf : Str → List D → Mem → CR) (G : List (Str × D)) (N : List Str) (e : E) : Prop := ∀ (x : Expr) (W : WX) (sn : List Str) (sc : Scope) (X : Cx), Ctx ft cf G N W sn sc X → chE G N sc e x = true → ∀ b : Bs, PE X x (tE X.kw b W (evE ft cf e)) ∧ PT X x (tT X.kw b W fun s => toB (evE ft cf e s))
def SndEs (ft : Str → Option Fn) (cf : Str → List D → Mem → CR) (G : List (Str × D)) (N : List Str) (es : List E) : Prop := ∀ (xs : List Expr) (W : WX) (sn : List Str) (sc : Scope) (X : Cx), Ctx ft cf G N W sn sc X → chEs G N sc es xs = true → ∀ b : Bs,
  PA X xs (tA X.kw b W (evEs ft cf es)) ∧ PA X xs (tOs X.kw b W es (evOs ft cf es)) ∧ (∀ sh j, PA X xs (tA X.kw b W (evAs ft cf sh j es))) ∧ ∀ e x, es = [e] → xs = [x] → PE X x (tE X.kw b W (evE ft cf e)) ∧ PT X x (tT X.kw b W fun s => toB (evE ft cf e s))
mutual
theorem snd_E : ∀ e : E, SndE ft cf G N e
  | .c d => fun x W sn sc X C h b => by
    cases x <;> first | cases h | skip
    exact ⟨snd_c h, pt_tT (snd_c h) fun _ => rfl⟩
  | .v i => fun x W sn sc X C h b => by
    cases x <;> first | cases h | skip
    exact ⟨snd_v C.n C.sc h, pt_tT (snd_v C.n C.sc h) fun _ => rfl⟩
  | .g y d => fun x W sn sc X C h b => by
    cases x <;> first | cases h | skip
    rename_i z p
    obtain ⟨h1, h2, h3⟩ := and3 (show (decide (y = z) && gB sc y && (match G.lookup y with | some d' => D.beq d d' | none => false)) = true from h)
    have e : y = z := of_decide_eq_true h1
    subst e
    cases hl : G.lookup y with
    | none => rw [hl] at h3; cases h3
    | some d' =>
      rw [hl] at h3
      have e := beq_eq _ _ h3
      subst e
      obtain ⟨u, v, hm, rv, rp⟩ := C.gl y d hl
      obtain ⟨hG, hd⟩ := gl_of C.sc h2
      have pe : PE X (.Name y p) (tE X.kw b W (evE ft cf (.g y d))) := (pe_glob hG hm rv hd).imp fun σ H Q ⟨Φ, ρ, s, r, w⟩ => cont_rep w r (rp Φ ρ)
      exact ⟨pe, pt_tT pe fun _ => rfl⟩
  | .tup es => fun x W sn sc X C h b => by
    cases x <;> first | cases h | skip
    have pe := snd_tup (b := b) (pos := by assumption) (n := by assumption) (snd_Es es _ W sn sc X C h b).1
    exact ⟨pe, pt_tT pe fun _ => rfl⟩
  | .lst es => fun x W sn sc X C h b => by
    cases x <;> first | cases h | skip
    have pe := snd_lst (b := b) (pos := by assumption) (snd_Es es _ W sn sc X C h b).1
    exact ⟨pe, pt_tT pe fun _ => rfl⟩
  | .dct ks vs => fun x W sn sc X C h b => by
    cases x <;> first | cases h | skip
    rename_i keys vals pos
    have h : (match dispP ks vs with | some l => dispB l keys vals | none => false) = true := h
    cases hd : dispP ks vs with
    | none => rw [hd] at h; cases h
    | some l =>
      rw [hd] at h
      have e : evE ft cf (.dct ks vs) = fun s => .ok (.dct (l.map fun p => .str p.1) (l.map fun p => kD p.2), true) s := by
        funext s
        exact disp_ev hd
      have pe : PE X (.Dict keys vals pos) (tE X.kw b W (evE ft cf (.dct ks vs))) := by rw [e]; exact snd_disp h
      exact ⟨pe, pt_tT pe fun _ => rfl⟩
  | .bin op a c => fun x W sn sc X C h b => by
    cases x <;> first | cases h | skip
    rename_i l o r pos
    obtain ⟨h1, h2, h3⟩ := and3 (show (opB op o && chE G N sc a l && chE G N sc c r) = true from h)
    have pe : PE X (.BinOp l o r pos) (tE X.kw b W (evE ft cf (.bin op a c))) := snd_bin C.un h1 (op_of C h2 (snd_E a l W sn sc X C h2 b).1) (op_of C h3 (snd_E c r W sn sc X C h3 b).1)
    exact ⟨pe, pt_tT pe fun _ => rfl⟩
  | .neg a => fun x W sn sc X C h b => by
    cases x <;> first | cases h | skip
    rename_i o l pos
    cases o <;> first | cases h | skip
    have h : chE G N sc a l = true := h
    have pe : PE X (.UnaryOp .USub l pos) (tE X.kw b W (evE ft cf (.neg a))) := snd_neg (snd_E a l W sn sc X C h b).1
    exact ⟨pe, pt_tT pe fun _ => rfl⟩
  | .not a => fun x W sn sc X C h b => by
    cases x <;> first | cases h | skip
    rename_i o l pos
    cases o <;> first | cases h | skip
    have h : chE G N sc a l = true := h
    obtain ⟨p1, p2⟩ := snd_E a l W sn sc X C h b
    exact snd_not p1 p2
  | .and a c => fun x W sn sc X C h b => by
    cases x <;> first | cases h | skip
    rename_i o xs pos
    cases o <;> first | cases h | skip
    match xs, h with
    | [], h => exact nomatch h
    | [_], h => exact nomatch h
    | x1 :: y1 :: r, h =>
      obtain ⟨h1, h2⟩ := and2 (show (chE G N sc a x1 && (match (generalizing := false) r with | [] => chE G N sc c y1 | _ => chE G N sc c (.BoolOp .And (y1 :: r) pos))) = true from h)
      obtain ⟨p1, p2⟩ := snd_E a x1 W sn sc X C h1 b
      match r, h2 with
      | [], h2 =>
        obtain ⟨q1, q2⟩ := snd_E c y1 W sn sc X C h2 b
        exact ⟨snd_and p1 (pe_one q1), snd_andT p2 (PW.pt (pw_and1 q2))⟩
      | z :: r, h2 =>
        obtain ⟨q1, q2⟩ := snd_E c _ W sn sc X C h2 b
        exact ⟨snd_and p1 q1, snd_andT p2 q2⟩
  | .or a c => fun x W sn sc X C h b => by
    cases x <;> first | cases h | skip
    rename_i o xs pos
    cases o <;> first | cases h | skip
    match xs, h with
    | [], h => exact nomatch h
    | [_], h => exact nomatch h
    | x1 :: y1 :: r, h =>
      obtain ⟨h1, h2⟩ := and2 (show (chE G N sc a x1 && (match (generalizing := false) r with | [] => chE G N sc c y1 | _ => chE G N sc c (.BoolOp .Or (y1 :: r) pos))) = true from h)
      obtain ⟨p1, p2⟩ := snd_E a x1 W sn sc X C h1 b
      match r, h2 with
      | [], h2 =>
        obtain ⟨q1, q2⟩ := snd_E c y1 W sn sc X C h2 b
        exact ⟨snd_or p1 (pe_one q1), snd_orT p2 (PW.pt (pw_or1 q2))⟩
      | z :: r, h2 =>
        obtain ⟨q1, q2⟩ := snd_E c _ W sn sc X C h2 b
        exact ⟨snd_or p1 q1, snd_orT p2 q2⟩
  | .cmp op a c => fun x W sn sc X C h b => by
    cases x <;> first | cases h | skip
    rename_i l os rs pos
    match os, rs, h with
    | [o], [r], h =>
      obtain ⟨h1, h2, h3⟩ := and3 (show (cmB op o && chE G N sc a l && chE G N sc c r) = true from h)
      exact snd_cmp C.un h1 (chE_plain h3) (op_of C h2 (snd_E a l W sn sc X C h2 b).1) (op_of C h3 (snd_E c r W sn sc X C h3 b).1)
    | [], _, h => exact nomatch h
    | [_], [], h => exact nomatch h
    | [_], _ :: _ :: _, h => exact nomatch h
    | _ :: _ :: _, _, h => exact nomatch h
  | .chn op op' a c d => fun x W sn sc X C h b => by
    cases x <;> first | cases h | skip
    rename_i l os rs pos
    match os, rs, h with
    | [o, o'], [r, r'], h =>
      obtain ⟨h0, h3, h4⟩ := and3 (show ((cmB op o && cmB op' o' && chE G N sc a l) && chE G N sc c r && chE G N sc d r') = true from h)
      obtain ⟨h1, h1', h2⟩ := and3 h0
      exact snd_chn C.un h1 h1' (chE_plain h4) (snd_E a l W sn sc X C h2 b).1 (snd_E c r W sn sc X C h3 b).1 (snd_E d r' W sn sc X C h4 b).1
    | [], _, h => exact nomatch h
    | [_], _, h => exact nomatch h
    | [_, _], [], h => exact nomatch h
    | [_, _], [_], h => exact nomatch h
    | [_, _], _ :: _ :: _ :: _, h => exact nomatch h
    | _ :: _ :: _ :: _, _, h => exact nomatch h
  | .ife c a d => fun x W sn sc X C h b => by
    cases x <;> first | cases h | skip
    rename_i z l r pos
    obtain ⟨h1, h2, h3⟩ := and3 (show (chE G N sc c z && chE G N sc a l && chE G N sc d r) = true from h)
    obtain ⟨p1, p2⟩ := snd_E c z W sn sc X C h1 b
    obtain ⟨q1, q2⟩ := snd_E a l W sn sc X C h2 b
    obtain ⟨r1, r2⟩ := snd_E d r W sn sc X C h3 b
    exact ⟨snd_if p2 q1 r1, snd_ifT p2 q2 r2⟩
  | .ix a c => fun x W sn sc X C h b => by
    cases x <;> first | cases h | skip
    rename_i l r pos
    obtain ⟨h2, h3⟩ := and2 (show (chE G N sc a l && chE G N sc c r) = true from h)
    have pe : PE X (.Subscript l r pos) (tE X.kw b W (evE ft cf (.ix a c))) := snd_ix C.un (chE_plain h3) (op_of C h2 (snd_E a l W sn sc X C h2 b).1) (snd_E c r W sn sc X C h3 b).1
    exact ⟨pe, pt_tT pe fun _ => rfl⟩
  | .sl a lo hi => fun x W sn sc X C h b => by
    cases x <;> first | cases h | skip
    rename_i l r pos
    cases r <;> first | cases h | skip
    rename_i o1 o2 o3 p2
    cases o3 <;> first | cases h | skip
    obtain ⟨h1, h2, h3⟩ := and3 (show (chE G N sc a l && (match (generalizing := false) o1 with | none => isNil lo | some x => chE G N sc lo x) && (match (generalizing := false) o2 with | none => isNil hi | some x => chE G N sc hi x)) = true from h)
    have part : ∀ (o : Option Expr) (e : E), SndE ft cf G N e → (match (generalizing := false) o with | none => isNil e | some x => chE G N sc e x) = true → PO X o (tP X b W (fPt e (evE ft cf e))) := fun o e ih h => by
      cases o with
      | none =>
        cases e <;> first | cases h | skip
        exact po_none' fun _ => rfl
      | some y => exact po_some' (fun z => by subst z; cases y <;> cases h) (ih y W sn sc X C h b).1
    have pe : PE X (.Subscript l (.Slice o1 o2 none p2) pos) (tE X.kw b W (evE ft cf (.sl a lo hi))) := snd_sl (op_of C h1 (snd_E a l W sn sc X C h1 b).1) (part o1 lo (snd_E lo) h2) (part o2 hi (snd_E hi) h3)
    exact ⟨pe, pt_tT pe fun _ => rfl⟩
  | .isi a t => fun x W sn sc X C h b => by
    cases x <;> first | cases h | skip
    rename_i f as ks pos
    cases f <;> first | cases h | skip
    rename_i fn p
    match as, ks, h with
    | [x1, y], [], h =>
      cases y <;> first | cases h | skip
      rename_i y p2
      obtain ⟨h0, h4, h5⟩ := and3 (show ((decide (fn = ("isinstance" : Str)) && gB sc fn && chE G N sc a x1) && decide (y = tyS t) && gB sc y) = true from h)
      obtain ⟨h1, h2, h3⟩ := and3 h0
      have pe : PE X (.Call (.Name fn p) [x1, .Name y p2] [] pos) (tE X.kw b W (evE ft cf (.isi a t))) := snd_isi C.sc h2 (of_decide_eq_true h1) h5 (of_decide_eq_true h4) C.bl (chE_plain h3) (op_of C h3 (snd_E a x1 W sn sc X C h3 b).1)
      exact ⟨pe, pt_tT pe fun _ => rfl⟩
    | [], _, h => exact nomatch h
    | [_], _, h => exact nomatch h
    | [_, y], k :: ks, h => cases y <;> cases h
    | _ :: y :: _ :: _, _, h => cases y <;> cases h
  | .call f es => fun x W sn sc X C h b => by
    cases x <;> first | cases h | skip
    rename_i fx as ks pos
    cases fx <;> first | cases h | skip
    rename_i fn p
    match as, ks, h with
    | x1 :: xs, [], h =>
      obtain ⟨h0, _, h3⟩ := and3 (show ((decide (f = fn) && gB sc fn) && !(x1 :: xs).isEmpty && chEs G N sc es (x1 :: xs)) = true from h)
      obtain ⟨h1, h2⟩ := and2 h0
      have e : f = fn := of_decide_eq_true h1
      subst e
      have pe : PE X (.Call (.Name f p) (x1 :: xs) [] pos) (tE X.kw b W (evE ft cf (.call f es))) := by
        cases hf : ft f with
        | none =>
          refine ⟨fun pins s σ H Q I ⟨Φ, ρ, s0, r, w⟩ => ?_⟩
          have w : (match ft f with | none => R.no | some F => (evAs ft cf F.sh 0 es s0).bind fun ds s => if ds.length = F.ps then ofCR s (cf f ds s.mem) else .no).wp _ _ := w
          rw [hf] at w
          exact w.elim
        | some F =>
          obtain ⟨n, hF, _⟩ := C.fn f F hf
          have e2 : (evE ft cf (.call f es)) = fCall F (cf f) (evAs ft cf F.sh 0 es) := by
            funext s
            show (match ft f with | none => R.no | some F => (evAs ft cf F.sh 0 es s).bind fun ds s => if ds.length = F.ps then ofCR s (cf f ds s.mem) else .no) = _
            rw [hf]
            rfl
          rw [e2]
          exact snd_call C.sc h2 hF C.tk (chEs_plain h3) ((snd_Es es (x1 :: xs) W sn sc X C h3 b).2.2.1 F.sh 0)
      exact ⟨pe, pt_tT pe fun _ => rfl⟩
    | [], [], h =>
      obtain ⟨_, h2, _⟩ := and3 (show ((decide (f = fn) && gB sc fn) && !([] : List Expr).isEmpty && chEs G N sc es []) = true from h)
      cases h2
    | _, _ :: _, h => exact nomatch h
  | .blt f es => fun x W sn sc X C h b => by
    cases x <;> first | cases h | skip
    rename_i fx as ks pos
    cases fx <;> first | cases h | skip
    rename_i fn p
    match as, ks, h with
    | x1 :: xs, [], h =>
      obtain ⟨h0, _, h3⟩ := and3 (show ((bfOk f && decide (fn = bfNm f) && gB sc fn) && !(x1 :: xs).isEmpty && chEs G N sc es (x1 :: xs)) = true from h)
      obtain ⟨h1, h1', h2⟩ := and3 h0
      have pe : PE X (.Call (.Name fn p) (x1 :: xs) [] pos) (tE X.kw b W (evE ft cf (.blt f es))) := snd_blt (by have := C.un; omega) C.calm C.sc h2 (of_decide_eq_true h1') C.bl (fun z => by subst z; cases h1) (fun d z => by subst z; cases h1) (chEs_plain h3) (snd_Es es (x1 :: xs) W sn sc X C h3 b).2.1
      exact ⟨pe, pt_tT pe fun _ => rfl⟩
    | [], [], h =>
      obtain ⟨_, h2, _⟩ := and3 (show ((bfOk f && decide (fn = bfNm f) && gB sc fn) && !([] : List Expr).isEmpty && chEs G N sc es []) = true from h)
      cases h2
    | _, _ :: _, h => exact nomatch h
  | .mr m a es => fun x W sn sc X C h b => by
    cases x <;> first | cases h | skip
    rename_i fx as ks pos
    cases fx <;> first | cases h | skip
    rename_i o fn p
    match as, ks, h with
    | xs, [], h =>
      obtain ⟨h0, h4, h5⟩ := and3 (show ((decide (fn = mrNm m) && baseB o && lineB p pos && decide (xs.length < 20)) && chE G N sc a o && chEs G N sc es xs) = true from h)
      obtain ⟨h0, h2, h3⟩ := and3 h0
      obtain ⟨h1, h1'⟩ := and2 h0
      have pe : PE X (.Call (.Attribute o fn p) xs [] pos) (tE X.kw b W (evE ft cf (.mr m a es))) :=
        snd_mr C.un (of_decide_eq_true h1) (base_ok (chE_plain h4) h1') h2 (of_decide_eq_true h3) (chEs_plain h5) (op_of C h4 (snd_E a o W sn sc X C h4 b).1) (snd_Es es xs W sn sc X C h5 b).1 (fun z => by
          subst z
          cases es with
          | nil => rfl
          | cons e es => exact nomatch h5)
      exact ⟨pe, pt_tT pe fun _ => rfl⟩
    | _, _ :: _, h => exact nomatch h
  | .mw m a es => fun x W sn sc X C h b => by
    cases x <;> first | cases h | skip
    rename_i fx as ks pos
    cases fx <;> first | cases h | skip
    rename_i o fn p
    match as, ks, h with
    | xs, [], h =>
      obtain ⟨h0, h4, h5⟩ := and3 (show ((mwOk m && decide (fn = mwNm m) && baseB o && lineB p pos && decide (xs.length < 20)) && chE G N sc a o && chEs G N sc es xs) = true from h)
      obtain ⟨h0, h2, h3⟩ := and3 h0
      obtain ⟨h0, h1, h1'⟩ := and3 h0
      have pe : PE X (.Call (.Attribute o fn p) xs [] pos) (tE X.kw b W (evE ft cf (.mw m a es))) :=
        snd_mw (fun z => by subst z; cases h0) (of_decide_eq_true h1) (base_ok (chE_plain h4) h1') h2 (of_decide_eq_true h3) (chEs_plain h5) (op_of C h4 (snd_E a o W sn sc X C h4 b).1) (snd_Es es xs W sn sc X C h5 b).1 (fun z => by
          subst z
          cases es with
          | nil => rfl
          | cons e es => exact nomatch h5)
      exact ⟨pe, pt_tT pe fun _ => rfl⟩
    | _, _ :: _, h => exact nomatch h
  | .lc elt tg k its ifs own => fun x W sn sc X C h b => by
    cases x <;> first | cases h | skip
    rename_i y gs scope pos
    match gs, h with
    | [⟨t, it, fs, z0⟩], h =>
      obtain ⟨h, h9⟩ := and2 (show (decide (z0 = 0) && blkC N sc scope (ownL N own) && (match (generalizing := false) walkX sc k (isTup t) it with | some xs => chEs G N sc its xs | none => false) &&
        tgB ((ownL N own).map (·.1)) (relS scope sc) N tg t && (own.all fun i => match scope.names.lookup (N.getD i ⟨#[]⟩) with | some .local => true | some .cell => true | _ => false) &&
        tg.slots.all own.contains && decide (ifs.length ≤ 1) && chEs G N (relS scope sc) ifs fs && chE G N (relS scope sc) elt y) = true from h)
      obtain ⟨h, h7, h8⟩ := and3 h
      obtain ⟨h, h5, h6⟩ := and3 h
      obtain ⟨h, h3, h4⟩ := and3 h
      obtain ⟨h1, h2⟩ := and2 h
      have hz : z0 = 0 := of_decide_eq_true h1
      subst hz
      cases hw : walkX sc k (isTup t) it with
      | none => rw [hw] at h3; cases h3
      | some xs =>
        rw [hw] at h3
        obtain ⟨i1, _, _, i4⟩ := snd_Es its xs W sn sc X C h3 b
        obtain ⟨wk1, wk2⟩ := walk_ok (b := b) C hw h3 i1 fun e x z1 z2 => (i4 e x z1 z2).1
        have L : LcAt X b W y t it fs scope tg k own (evEs ft cf its) (evTs ft cf ifs) (evE ft cf elt) := by
          refine ⟨wk1, ?_, fun s H Ca cl fp => ?_, fun s H Ca cl fp => ?_, fun s H Ca cl fp => ?_, wk2, fun i hi => ?_⟩
          · rw [C.n, C.sc]; exact blkOk_by h2
          · have C2 := ctx_blk C h5 s H Ca cl fp
            exact tgB_ok C2.n C2.nd C2.sc C2.calm C2.sto h4
          · have C2 := ctx_blk C h5 s H Ca cl fp
            exact pts_tTb (fun e x _ _ z1 z2 b2 => ((snd_Es ifs fs WF _ _ _ C2 h8 b2).2.2.2 e x z1 z2).2) (chEs_len h8) (of_decide_eq_true h7)
          · have C2 := ctx_blk C h5 s H Ca cl fp
            exact ⟨fun pins s1 σ H1 Q I ⟨b2, q⟩ => (snd_E elt y WF _ _ _ C2 h9 b2).1.run pins s1 σ H1 Q I q⟩
          · have := List.all_eq_true.mp h6 i hi
            simpa using this
        have pe : PE X (.ListComp y [⟨t, it, fs, 0⟩] scope pos) (tE X.kw b W (evE ft cf (.lc elt tg k its ifs own))) := snd_lc C.calm C.nd L
        exact ⟨pe, pt_tT pe fun _ => rfl⟩
    | [], h => exact nomatch h
    | g :: _ :: _, h => cases g; exact nomatch h
  | .lcR elt tg e ifs own => fun x W sn sc X C h b => by
    cases x <;> first | cases h | skip
    rename_i y gs scope pos
    match gs, h with
    | [⟨t, it, fs, z0⟩], h =>
      obtain ⟨h, h9⟩ := and2 (show (decide (z0 = 0) && blkC N sc scope (ownL N own) && chE G N sc e it &&
        tgB ((ownL N own).map (·.1)) (relS scope sc) N tg t && (own.all fun i => match scope.names.lookup (N.getD i ⟨#[]⟩) with | some .local => true | some .cell => true | _ => false) &&
        tg.slots.all own.contains && decide (ifs.length ≤ 1) && chEs G N (relS scope sc) ifs fs && chE G N (relS scope sc) elt y) = true from h)
      obtain ⟨h, h7, h8⟩ := and3 h
      obtain ⟨h, h5, h6⟩ := and3 h
      obtain ⟨h, h3, h4⟩ := and3 h
      obtain ⟨h1, h2⟩ := and2 h
      have hz : z0 = 0 := of_decide_eq_true h1
      subst hz
      have L : LcRAt X b W y t it fs scope tg own (evE ft cf e) (evTs ft cf ifs) (evE ft cf elt) := by
        refine ⟨pi_seqR (snd_E e it W sn sc X C h3 b).1, ?_, fun s H Ca cl fp => ?_, fun s H Ca cl fp => ?_, fun s H Ca cl fp => ?_, fold_plain (chE_plain h3), fun i hi => ?_⟩
        · rw [C.n, C.sc]; exact blkOk_by h2
        · have C2 := ctx_blk C h5 s H Ca cl fp
          exact tgB_ok C2.n C2.nd C2.sc C2.calm C2.sto h4
        · have C2 := ctx_blk C h5 s H Ca cl fp
          exact pts_tTb (fun e x _ _ z1 z2 b2 => ((snd_Es ifs fs WF _ _ _ C2 h8 b2).2.2.2 e x z1 z2).2) (chEs_len h8) (of_decide_eq_true h7)
        · have C2 := ctx_blk C h5 s H Ca cl fp
          exact ⟨fun pins s1 σ H1 Q I ⟨b2, q⟩ => (snd_E elt y WF _ _ _ C2 h9 b2).1.run pins s1 σ H1 Q I q⟩
        · have := List.all_eq_true.mp h6 i hi
          simpa using this
      have pe : PE X (.ListComp y [⟨t, it, fs, 0⟩] scope pos) (tE X.kw b W (evE ft cf (.lcR elt tg e ifs own))) := snd_lcR C.calm C.nd L
      exact ⟨pe, pt_tT pe fun _ => rfl⟩
    | [], h => exact nomatch h
    | g :: _ :: _, h => cases g; exact nomatch h
  | .mxd a d => fun x W sn sc X C h b => by
    cases x <;> first | cases h | skip
    rename_i f xs ks pos
    match f, xs, ks, h with
    | .Name fn p, [x], [⟨some kw, .Constant (.int j) kn kp, kpos⟩], h =>
      obtain ⟨h, h4, h5⟩ := and3 (show (decide (fn = "max") && gB sc fn && decide (kw = "default") && decide (j = d) && chE G N sc a x) = true from h)
      obtain ⟨h1, h2, h3⟩ := and3 h
      have e1 : fn = "max" := of_decide_eq_true h1
      have e2 : kw = "default" := of_decide_eq_true h3
      have e3 : j = d := of_decide_eq_true h4
      subst e1 e2 e3
      have pe : PE X (.Call (.Name "max" p) [x] [⟨some "default", .Constant (.int j) kn kp, kpos⟩] pos) (tE X.kw b W (evE ft cf (.mxd a j))) := snd_mxd (W := W) (b := b) (d := j) (pos := pos) (p := p) (kn := kn) (kp := kp) (kpos := kpos) (by have := C.un; omega) C.calm C.sc h2 (C.bl _ (by decide)) (chE_plain h5) (op_of C h5 (snd_E a x W sn sc X C h5 b).1)
      exact ⟨pe, pt_tT pe fun _ => rfl⟩
  | .dctK => fun x W sn sc X C h b => by
    cases x <;> first | cases h | skip
    rename_i keys vals pos
    match keys, vals, h with
    | [], [], _ => exact ⟨snd_dctK, pt_tT snd_dctK fun _ => rfl⟩
    | _ :: _, _, h => exact nomatch h
    | [], _ :: _, h => exact nomatch h
  | .dctT => fun x W sn sc X C h b => by
    cases x <;> first | cases h | skip
    rename_i keys vals pos
    match keys, vals, h with
    | [], [], _ => exact ⟨snd_dctT, pt_tT snd_dctT fun _ => rfl⟩
    | _ :: _, _, h => exact nomatch h
    | [], _ :: _, h => exact nomatch h
  | .dead => fun x W sn sc X C h b => snd_dead
  | .slr a => fun x W sn sc X C h b => by
    match x, h with
    | .Subscript l (.Slice none none (some (.UnaryOp .USub (.Constant (.int j) kn pa) pb)) pc) pd, h =>
      obtain ⟨h1, h2⟩ := and2 (show (decide (j = 1) && chE G N sc a l) = true from h)
      have e : j = 1 := of_decide_eq_true h1
      subst e
      have pe := snd_slr (kn := kn) (pa := pa) (pb := pb) (pc := pc) (pd := pd) (op_of C h2 (snd_E a l W sn sc X C h2 b).1)
      exact ⟨pe, pt_tT pe fun _ => rfl⟩
  | .sset a => fun x W sn sc X C h b => by
    cases x <;> first | cases h | skip
    rename_i f xs ks pos
    match f, xs, ks, h with
    | .Name fn p, [.Call (.Name gn p2) [x] [] q], [], h =>
      obtain ⟨h, h5⟩ := Bool.and_eq_true_iff.mp (show (decide (fn = "sorted") && gB sc fn && decide (gn = "set") && gB sc gn && chE G N sc a x) = true from h)
      obtain ⟨h, h4⟩ := Bool.and_eq_true_iff.mp h
      obtain ⟨h1, h2, h3⟩ := and3 h
      have e1 : fn = "sorted" := of_decide_eq_true h1
      have e2 : gn = "set" := of_decide_eq_true h3
      subst e1 e2
      have pe : PE X (.Call (.Name "sorted" p) [.Call (.Name "set" p2) [x] [] q] [] pos) (tE X.kw b W (evE ft cf (.sset a))) := snd_sset (W := W) (b := b) C.calm C.sc h2 (C.bl _ (by decide)) h4 (C.bl _ (by decide)) (chE_plain h5) (op_of C h5 (snd_E a x W sn sc X C h5 b).1)
      exact ⟨pe, pt_tT pe fun _ => rfl⟩
  | .nil => fun x W sn sc X C h b => by cases x <;> cases h
theorem snd_Es : ∀ es : List E, SndEs ft cf G N es
  | [] => fun xs W sn sc X C h b => by
    match xs, h with
    | [], _ => exact ⟨snd_anil, snd_onil, fun _ _ => snd_anil, fun _ _ z => nomatch z⟩
    | _ :: _, h => exact nomatch h
  | e :: es => fun xs W sn sc X C h b => by
    match xs, h with
    | [], h => exact nomatch h
    | x :: xs, h =>
      obtain ⟨h1, h2⟩ := and2 (show (chE G N sc e x && chEs G N sc es xs) = true from h)
      obtain ⟨p1, p2⟩ := snd_E e x W sn sc X C h1 b
      obtain ⟨q1, q2, q3, _⟩ := snd_Es es xs W sn sc X C h2 b
      have hp := chE_plain h1
      refine ⟨snd_acons hp p1 q1, snd_ocons hp (op_of C h1 p1) q2, fun sh j => snd_aconsA hp p1 (q3 sh (j + 1)), fun e' x' z1 z2 => ?_⟩
      cases z1
      cases z2
      exact ⟨p1, p2⟩
end
end
end Ly
set_option Elab.async false
set_option linter.all false
set_option maxRecDepth 100000
set_option maxHeartbeats 2000000
/-! Ly16: statements. -/
namespace Ly
open PySem PySem.Spec PyProof.Rows L2
section
variable (K : KW) (b : Bs) (W : WX)
def ZS (Φ : Hp) (ρ : List Addr) (c : Str) (fs : List D) (s : S) : Prop := ∀ σ, ZX K b W Φ ρ σ c fs s
def EndC (Φ : Hp) (ρ : List Addr) (Ds : Ends) : Fl → S → Prop
  | .nx, s => ∀ Φ' ρ' σ' H', Same Φ Φ' → ρ <+: ρ' → Rel K b Φ' ρ' s σ' H' → Ds.nx σ' H'
  | .br, s => ∀ Φ' ρ' σ' H', Same Φ Φ' → ρ <+: ρ' → Rel K b Φ' ρ' s σ' H' → Ds.bk σ' H'
  | .ct, s => ∀ Φ' ρ' σ' H', Same Φ Φ' → ρ <+: ρ' → Rel K b Φ' ρ' s σ' H' → Ds.ct σ' H'
  | .rt d fr, s => ∀ Φ' ρ' σ' H' v, Same Φ Φ' → ρ <+: ρ' → Rel K b Φ' ρ' s σ' H' → (if fr = true then Fresh K b Φ' ρ' H' d v else Rep K Φ' ρ' d v) → Ds.rt v H'
def tS (f : S → R Fl) : TS := fun Ds σ H => ∃ Φ ρ s, Rel K b Φ ρ s σ H ∧ (f s).wp (EndC K b Φ ρ Ds) (ZS K b W Φ ρ)
end
section
variable {K : KW} {b : Bs} {W : WX} {Φ Φ' H H' : Hp} {ρ ρ' : List Addr} {s s' : S} {σ : L2.St} {Ds : Ends}
theorem zs_mono (h : Same Φ Φ') (hp : ρ <+: ρ') {c : Str} {fs : List D} (z : ZS K b W Φ ρ c fs s) : ZS K b W Φ' ρ' c fs s := fun σ => zx_mono h hp (z σ)
theorem endC_mono (h : Same Φ Φ') (hp : ρ <+: ρ') {f : Fl} (q : EndC K b Φ ρ Ds f s) : EndC K b Φ' ρ' Ds f s := by
  cases f with
  | nx => exact fun Φ2 ρ2 σ2 H2 h2 hp2 r => q Φ2 ρ2 σ2 H2 (h.trans h2) (hp.trans hp2) r
  | br => exact fun Φ2 ρ2 σ2 H2 h2 hp2 r => q Φ2 ρ2 σ2 H2 (h.trans h2) (hp.trans hp2) r
  | ct => exact fun Φ2 ρ2 σ2 H2 h2 hp2 r => q Φ2 ρ2 σ2 H2 (h.trans h2) (hp.trans hp2) r
  | rt d fr => exact fun Φ2 ρ2 σ2 H2 v h2 hp2 r => q Φ2 ρ2 σ2 H2 v (h.trans h2) (hp.trans hp2) r
theorem endS_mono (h : Same Φ Φ') (hp : ρ <+: ρ') {m : R Fl} (w : m.wp (EndC K b Φ ρ Ds) (ZS K b W Φ ρ)) : m.wp (EndC K b Φ' ρ' Ds) (ZS K b W Φ' ρ') := wp_mono w (fun _ _ q => endC_mono h hp q) fun _ _ _ z => zs_mono h hp z
theorem sE_bind {α : Type} {f : S → R (D × Bool)} {g : D × Bool → S → R α} {W' : α → S → Prop} (r : Rel K b Φ ρ s σ H) (h : ((f s).bind g).wp W' (ZS K b W Φ ρ)) :
    tE K b W f σ H fun v H1 => ∃ Φ1 ρ1 s1 p, Same Φ Φ1 ∧ ρ <+: ρ1 ∧ Rel K b Φ1 ρ1 s1 σ H1 ∧ RRep K b Φ1 ρ1 s1 σ H1 p v ∧ (g p s1).wp W' (ZS K b W Φ1 ρ1) :=
  ⟨Φ, ρ, s, r, wp_mono (wp_bind.mp h) (fun p s1 q Φ1 ρ1 H1 v h1 hp1 r1 rr => ⟨Φ1, ρ1, s1, p, h1, hp1, r1, rr, wp_mono q (fun _ _ z => z) fun _ _ _ z => zs_mono h1 hp1 z⟩) fun _ _ _ z => z σ⟩
theorem sO_bind {α : Type} {e : E} {f : S → R D} {g : D → S → R α} {W' : α → S → Prop} (r : Rel K b Φ ρ s σ H) (h : ((f s).bind g).wp W' (ZS K b W Φ ρ)) :
    tO K b W e f σ H fun v H1 => ∃ Φ1 ρ1 s1 d, Same Φ Φ1 ∧ ρ <+: ρ1 ∧ Rel K b Φ1 ρ1 s1 σ H1 ∧ OpR' K Φ1 ρ1 σ e d v ∧ (g d s1).wp W' (ZS K b W Φ1 ρ1) :=
  ⟨Φ, ρ, s, r, wp_mono (wp_bind.mp h) (fun p s1 q Φ1 ρ1 H1 v h1 hp1 r1 rr => ⟨Φ1, ρ1, s1, p, h1, hp1, r1, rr, wp_mono q (fun _ _ z => z) fun _ _ _ z => zs_mono h1 hp1 z⟩) fun _ _ _ z => z σ⟩
theorem sT_bind {α : Type} {f : S → R Bool} {g : Bool → S → R α} {W' : α → S → Prop} (r : Rel K b Φ ρ s σ H) (h : ((f s).bind g).wp W' (ZS K b W Φ ρ)) :
    tT K b W f σ H fun k H1 => ∃ Φ1 ρ1 s1, Same Φ Φ1 ∧ ρ <+: ρ1 ∧ Rel K b Φ1 ρ1 s1 σ H1 ∧ (g k s1).wp W' (ZS K b W Φ1 ρ1) :=
  ⟨Φ, ρ, s, r, wp_mono (wp_bind.mp h) (fun p s1 q Φ1 ρ1 H1 h1 hp1 r1 => ⟨Φ1, ρ1, s1, h1, hp1, r1, wp_mono q (fun _ _ z => z) fun _ _ _ z => zs_mono h1 hp1 z⟩) fun _ _ _ z => z σ⟩
/-- a store -/
theorem asgn_ok {Q : L2.St → Hp → Prop} {t : T} {sh : List Nat} {d : D} {fr : Bool} {v : V} {W' : Unit → S → Prop} {Z : Str → List D → S → Prop} (r : Rel K b Φ ρ s σ H) (rv : RRep K b Φ ρ s σ H (d, fr) v) (h : (asgT sh t d fr s).wp W' Z)
    (q : ∀ ρ' s' σ', ρ <+: ρ' → W' () s' → Rel K b Φ ρ' s' σ' H → Q σ' H) : gT K.f t v σ H Q := by
  cases fr with
  | false => exact tgt_ok r rv h fun s' σ' w r' _ => q ρ s' σ' (List.prefix_refl _) w r'
  | true =>
    cases t with
    | v i =>
      have h : (asgV sh i d true s).wp W' Z := h
      unfold asgV at h
      by_cases hc : (true && sh.contains i) = true
      · rw [if_pos hc] at h
        cases ha : alloc s.mem d with
        | none => rw [ha] at h; exact h.elim
        | some p =>
          obtain ⟨rf, m⟩ := p
          rw [ha] at h
          obtain ⟨ρ', h1, h2, h3⟩ := r.alloc rv.1 rv.2 ha
          exact q ρ' _ _ h1 h (h2.store (i := i) (p := (rf, false)) h3)
      · rw [if_neg hc] at h
        exact q ρ _ _ (List.prefix_refl _) h (r.store (i := i) (p := (d, true)) rv)
    | tup is =>
      cases d with
      | tup xs => exact False.elim rv.1
      | _ => exact h.elim
/-! ### readings of statements -/
theorem rd_asg {f : S → R (D × Bool)} {sh : List Nat} {t : T} (h : tS K b W (fun s => (f s).bind fun p s => (asgT sh t p.1 p.2 s).bind fun _ s => .ok .nx s) Ds σ H) : tAsg (tE K b W f) (gT K.f t) Ds σ H := by
  obtain ⟨Φ, ρ, s, r, w⟩ := h
  refine tE_mono (sE_bind r w) fun v H1 ⟨Φ1, ρ1, s1, p, h1, h2, r1, rr, w1⟩ => ?_
  exact asgn_ok r1 rr (wp_bind.mp w1) fun ρ' s' σ' h3 w2 r2 => w2 Φ1 ρ' σ' H1 h1 (h2.trans h3) r2
theorem rd_ret {f : S → R (D × Bool)} (h : tS K b W (fun s => (f s).bind fun p s => .ok (.rt p.1 p.2) s) Ds σ H) : tRet (tE K b W f) Ds σ H := by
  obtain ⟨Φ, ρ, s, r, w⟩ := h
  refine tE_mono (sE_bind r w) fun v H1 ⟨Φ1, ρ1, s1, p, h1, h2, r1, rr, w1⟩ => ?_
  obtain ⟨d, fr⟩ := p
  refine w1 Φ1 ρ1 σ H1 v h1 h2 r1 ?_
  cases fr with
  | true => exact rr.1
  | false => exact rr
theorem rd_retV {i : Nat} {f : S → R (D × Bool)} (h : tS K b W (fun s => (retV (.v i) (f s) s).bind fun p s => .ok (.rt p.1 p.2) s) Ds σ H) : tRet (tVar i) Ds σ H := by
  obtain ⟨Φ, ρ, s, r, w⟩ := h
  have w : ((match slot s i with | some p => R.ok p s | none => R.no).bind fun p s => R.ok (Fl.rt p.1 p.2) s).wp _ _ := w
  cases hs : slot s i with
  | none => rw [hs] at w; exact w.elim
  | some p =>
    rw [hs] at w
    obtain ⟨d, fr⟩ := p
    obtain ⟨v, hv, q⟩ := r.env i d fr (slot_env hs)
    exact ⟨v, hv, w Φ ρ σ H v (Same.refl _) (List.prefix_refl _) r q⟩
theorem rd_drop {f : S → R (D × Bool)} (h : tS K b W (fun s => (f s).bind fun _ s => .ok .nx s) Ds σ H) : tDrop (tE K b W f) Ds σ H := by
  obtain ⟨Φ, ρ, s, r, w⟩ := h
  exact tE_mono (sE_bind r w) fun v H1 ⟨Φ1, ρ1, s1, p, h1, h2, r1, rr, w1⟩ => w1 Φ1 ρ1 σ H1 h1 h2 r1
theorem rd_if {f : S → R Bool} {fa fb : S → R Fl} (h : tS K b W (fun s => (f s).bind fun k s => if k then fa s else fb s) Ds σ H) : tIfS (tT K b W f) (tS K b W fa) (tS K b W fb) Ds σ H := by
  obtain ⟨Φ, ρ, s, r, w⟩ := h
  refine tT_mono (sT_bind r w) fun k H1 ⟨Φ1, ρ1, s1, h1, h2, r1, w1⟩ => ?_
  cases k with
  | true => exact ⟨Φ1, ρ1, s1, r1, wp_mono w1 (fun _ _ q => endC_mono h1 h2 q) fun _ _ _ z => z⟩
  | false => exact ⟨Φ1, ρ1, s1, r1, wp_mono w1 (fun _ _ q => endC_mono h1 h2 q) fun _ _ _ z => z⟩
theorem rd_seq {fa fb : S → R Fl} (h : tS K b W (fun s => (fa s).bind fun f s => match f with
    | .nx => fb s
    | .br => .ok .br s
    | .ct => .ok .ct s
    | .rt d fr => .ok (.rt d fr) s) Ds σ H) : tSeq (tS K b W fa) (tS K b W fb) Ds σ H := by
  obtain ⟨Φ, ρ, s, r, w⟩ := h
  refine ⟨Φ, ρ, s, r, wp_mono (wp_bind.mp w) (fun f s1 q => ?_) fun _ _ _ z => z⟩
  cases f with
  | nx => exact fun Φ1 ρ1 σ1 H1 h1 h2 r1 => ⟨Φ1, ρ1, s1, r1, endS_mono h1 h2 q⟩
  | br => exact q
  | ct => exact q
  | rt d fr => exact q
theorem rd_while {c : S → R Bool} {f : S → R Fl} {n : Nat} (h : tS K b W (fun s => whL c f n s) Ds σ H) : tWhile (tT K b W c) (tS K b W f) Ds σ H := by
  obtain ⟨Φ, ρ, s, r, w⟩ := h
  refine ⟨fun m σ H => ∃ Φ ρ s, Rel K b Φ ρ s σ H ∧ (whL c f m s).wp (EndC K b Φ ρ Ds) (ZS K b W Φ ρ), ⟨n, Φ, ρ, s, r, w⟩, ?_⟩
  rintro m σ H ⟨Φ, ρ, s, r, w⟩
  cases m with
  | zero => exact w.elim
  | succ m =>
    refine tT_mono (sT_bind (f := c) r w) fun k H1 ⟨Φ1, ρ1, s1, h1, h2, r1, w1⟩ => ?_
    cases k with
    | false => exact w1 Φ1 ρ1 σ H1 h1 h2 r1
    | true =>
      refine ⟨fun σ' H' => ∃ Φ ρ s, Rel K b Φ ρ s σ' H' ∧ (whL c f m s).wp (EndC K b Φ ρ Ds) (ZS K b W Φ ρ), fun σ' H' q => ⟨m, Nat.lt_succ_self _, q⟩, Φ1, ρ1, s1, r1, wp_mono (wp_bind.mp w1) (fun fl s2 q => ?_) fun _ _ _ z => z⟩
      cases fl with
      | nx => exact fun Φ2 ρ2 σ2 H2 g1 g2 r2 => ⟨Φ2, ρ2, s2, r2, wp_mono (wp_mono q (fun _ _ q => endC_mono h1 h2 q) fun _ _ _ z => z) (fun _ _ q => endC_mono g1 g2 q) fun _ _ _ z => zs_mono g1 g2 z⟩
      | ct => exact fun Φ2 ρ2 σ2 H2 g1 g2 r2 => ⟨Φ2, ρ2, s2, r2, wp_mono (wp_mono q (fun _ _ q => endC_mono h1 h2 q) fun _ _ _ z => z) (fun _ _ q => endC_mono g1 g2 q) fun _ _ _ z => zs_mono g1 g2 z⟩
      | br => exact fun Φ2 ρ2 σ2 H2 g1 g2 r2 => q Φ2 ρ2 σ2 H2 (h1.trans g1) (h2.trans g2) r2
      | rt d fr => exact fun Φ2 ρ2 σ2 H2 v g1 g2 r2 => q Φ2 ρ2 σ2 H2 v (h1.trans g1) (h2.trans g2) r2
theorem rd_for {k : IK} {t : T} {sh : List Nat} {fi : S → R (List D)} {f : S → R Fl} (h : tS K b W (fun s => (fWk k fi s).bind fun xs s => forL (fun x s => asgT sh t x false s) f xs s) Ds σ H) : tFor (tI K b W k fi) (gT K.f t) (tS K b W f) Ds σ H := by
  obtain ⟨Φ, ρ, s, r, w⟩ := h
  refine ⟨Φ, ρ, s, r, wp_mono (wp_bind.mp w) (fun xs s1 q Φ1 ρ1 H1 J h1 h2 r1 wok => ?_) fun _ _ _ z => z σ⟩
  have q := endS_mono h1 h2 q
  refine ⟨fun i m σ H => m = xs.length - i ∧ i ≤ xs.length ∧ ∃ Φ2 ρ2 s2, Rel K b Φ2 ρ2 s2 σ H ∧ Same Φ1 Φ2 ∧ ρ1 <+: ρ2 ∧ (forL (fun x s => asgT sh t x false s) f (xs.drop i) s2).wp (EndC K b Φ2 ρ2 Ds) (ZS K b W Φ2 ρ2),
    ⟨xs.length, by simp, Nat.zero_le _, Φ1, ρ1, s1, r1, Same.refl _, List.prefix_refl _, q⟩, ?_⟩
  rintro i m σ2 H2 ⟨rfl, hi, Φ2, ρ2, s2, r2, k1, k2, w2⟩
  have sub : Same Φ1 H2 := k1.trans r2.sub
  by_cases hlt : i < xs.length
  · refine .inr ⟨wok.go i H2 hlt sub, fun σ' H' => ∃ Φ2 ρ2 s2, Rel K b Φ2 ρ2 s2 σ' H' ∧ Same Φ1 Φ2 ∧ ρ1 <+: ρ2 ∧ (forL (fun x s => asgT sh t x false s) f (xs.drop (i + 1)) s2).wp (EndC K b Φ2 ρ2 Ds) (ZS K b W Φ2 ρ2), fun σ' H' p' => ⟨xs.length - (i + 1), by omega, rfl, hlt, p'⟩, fun x H3 y => ?_⟩
    obtain ⟨d, hd, yy⟩ := wok.yld i H2 x H3 hlt sub y
    rw [List.drop_eq_getElem_cons hlt] at w2
    have e : xs[i] = d := by
      rw [List.getElem?_eq_getElem hlt] at hd
      exact Option.some.inj hd
    rw [e] at w2
    have st : ∃ Φ3, Same Φ2 Φ3 ∧ Rel K b Φ3 ρ2 s2 σ2 H3 ∧ Rep K Φ3 ρ2 d x := by
      rcases yy with ⟨rfl, rv⟩ | ⟨T, us, ds, rfl, hT, rfl, rfl, rs'⟩
      · exact ⟨Φ2, Same.refl _, r2, rep_mono k1 k2 _ _ rv⟩
      · obtain ⟨r3, m⟩ := r2.grow hT (.tup us)
        exact ⟨_, m, r3, T, us, rfl, .inl (.inl upd_same), reps_mono (k1.trans m) k2 _ _ rs', fun _ => upd_same⟩
    obtain ⟨Φ3, m3, r3, rv⟩ := st
    refine tgt_ok r3 rv (wp_bind.mp w2) fun s4 σ4 w4 r5 _ => ⟨Φ3, ρ2, s4, r5, wp_mono (wp_bind.mp w4) (fun fl s5 q5 => ?_) fun _ _ _ z => zs_mono m3 (List.prefix_refl _) z⟩
    cases fl with
    | nx => exact fun Φ6 ρ6 σ6 H6 g1 g2 r6 => ⟨Φ6, ρ6, s5, r6, (k1.trans m3).trans g1, k2.trans g2, endS_mono (m3.trans g1) g2 q5⟩
    | ct => exact fun Φ6 ρ6 σ6 H6 g1 g2 r6 => ⟨Φ6, ρ6, s5, r6, (k1.trans m3).trans g1, k2.trans g2, endS_mono (m3.trans g1) g2 q5⟩
    | br => exact fun Φ6 ρ6 σ6 H6 g1 g2 r6 => q5 Φ6 ρ6 σ6 H6 (m3.trans g1) g2 r6
    | rt dd fr => exact fun Φ6 ρ6 σ6 H6 v g1 g2 r6 => q5 Φ6 ρ6 σ6 H6 v (m3.trans g1) g2 r6
  · have e : i = xs.length := by omega
    subst e
    rw [List.drop_length] at w2
    exact .inl ⟨wok.stop H2 sub, w2 Φ2 ρ2 σ2 H2 (Same.refl _) (List.prefix_refl _) r2⟩
theorem rd_forR {t : T} {sh : List Nat} {fa : S → R (D × Bool)} {f : S → R Fl} (h : tS K b W (fun s => (fa s).bind fun p s => match p.1 with
    | .ref n => forR (fun x s => asgT sh t x false s) f n whFuel 0 s
    | d => (liftO s (walkD .seq [d])).bind fun xs s => forL (fun x s => asgT sh t x false s) f xs s) Ds σ H) : tFor (tIR K b W fa) (gT K.f t) (tS K b W f) Ds σ H := by
  obtain ⟨Φ, ρ, s, r, w⟩ := h
  have w : ((fa s).bind fun p s => match p.1 with
    | .ref n => forR (fun x s => asgT sh t x false s) f n whFuel 0 s
    | d => (liftO s (walkD .seq [d])).bind fun xs s => forL (fun x s => asgT sh t x false s) f xs s).wp _ _ := w
  cases hf : fa s with
  | no =>
    refine .inl (rd_for (k := .seq) (t := t) (sh := sh) (fi := fCons fa fNil) (f := f) ⟨Φ, ρ, s, r, ?_⟩)
    rw [hf] at w
    exact w.elim
  | exc c fs s1 =>
    refine .inl (rd_for (k := .seq) (t := t) (sh := sh) (fi := fCons fa fNil) (f := f) ⟨Φ, ρ, s, r, ?_⟩)
    show ((fWk .seq (fCons fa fNil) s).bind _).wp _ _
    unfold fWk fCons
    rw [hf] at w
    rw [hf]
    exact w
  | ok p s1 =>
    obtain ⟨d, fr⟩ := p
    rw [hf] at w
    have other : (∀ n, d ≠ .ref n) → tFor (tIR K b W fa) (gT K.f t) (tS K b W f) Ds σ H := fun hd => by
      refine .inl (rd_for (k := .seq) (t := t) (sh := sh) (fi := fCons fa fNil) (f := f) ⟨Φ, ρ, s, r, ?_⟩)
      show ((fWk .seq (fCons fa fNil) s).bind _).wp _ _
      unfold fWk fCons fNil
      rw [hf]
      cases d <;> first | exact w | exact absurd rfl (hd _)
    cases d with
    | ref n =>
      refine .inr ⟨Φ, ρ, s, r, ?_⟩
      rw [hf]
      intro Φ1 ρ1 H1 v h1 h2 r1 rr
      obtain ⟨Φ2, k1, r2, a, e, ha⟩ := settle r1 rr
      have w : (forR (fun x s => asgT sh t x false s) f n whFuel 0 s1).wp _ _ := w
      obtain ⟨fl, hfl⟩ : ∃ k, whFuel = k + 1 := ⟨1048575, rfl⟩
      have look : ∀ {k i : Nat} {s2 : S} {W' : Fl → S → Prop} {Z : Str → List D → S → Prop}, (forR (fun x s => asgT sh t x false s) f n (k + 1) i s2).wp W' Z → ∃ xs, s2.mem[n]? = some (.lst xs) := fun {k i s2 W' Z} w => by
        unfold forR at w
        split at w
        · rename_i xs hx; exact ⟨xs, hx⟩
        · exact w.elim
      rw [hfl] at w
      obtain ⟨xs0, hx0⟩ := look w
      obtain ⟨vs0, q0, _⟩ := r2.mem.at_ n _ a hx0 ha
      refine ⟨a, e, ⟨vs0, SqL.of q0⟩, fun i m σ H => ∃ Φ2 ρ2 s2, Rel K b Φ2 ρ2 s2 σ H ∧ ρ2[n]? = some a ∧ (forR (fun x s => asgT sh t x false s) f n m i s2).wp (EndC K b Φ2 ρ2 Ds) (ZS K b W Φ2 ρ2), ⟨fl + 1, Φ2, ρ1, s1, r2, ha, endS_mono (h1.trans k1) h2 w⟩, ?_⟩
      rintro i m σ2 H2 ⟨Φ2, ρ2, s2, r2, ha, w2⟩
      cases m with
      | zero => exact w2.elim
      | succ m =>
        obtain ⟨xs, hx⟩ := look w2
        obtain ⟨vs, q, rs⟩ := r2.mem.at_ n _ a hx ha
        have w2 : (match s2.mem[n]? with
          | some (.lst xs) => match xs[i]? with
            | some x => (asgT sh t x false s2).bind fun _ s => (f s).bind fun fl s => match fl with
              | .nx => forR (fun x s => asgT sh t x false s) f n m (i + 1) s
              | .ct => forR (fun x s => asgT sh t x false s) f n m (i + 1) s
              | .br => .ok .nx s
              | .rt d fr => .ok (.rt d fr) s
            | none => .ok .nx s2
          | _ => .no).wp _ _ := w2
        rw [hx] at w2
        cases hi : xs[i]? with
        | none =>
          have w2 : (match xs[i]? with
            | some x => (asgT sh t x false s2).bind fun _ s => (f s).bind fun fl s => match fl with
              | .nx => forR (fun x s => asgT sh t x false s) f n m (i + 1) s
              | .ct => forR (fun x s => asgT sh t x false s) f n m (i + 1) s
              | .br => .ok .nx s
              | .rt d fr => .ok (.rt d fr) s
            | none => R.ok .nx s2).wp _ _ := w2
          rw [hi] at w2
          refine .inl ⟨⟨vs, SqL.of q, ?_⟩, w2 Φ2 ρ2 σ2 H2 (Same.refl _) (List.prefix_refl _) r2⟩
          have := List.getElem?_eq_none_iff.mp hi
          rw [reps_len rs]
          exact this
        | some d =>
          have w2 : (match xs[i]? with
            | some x => (asgT sh t x false s2).bind fun _ s => (f s).bind fun fl s => match fl with
              | .nx => forR (fun x s => asgT sh t x false s) f n m (i + 1) s
              | .ct => forR (fun x s => asgT sh t x false s) f n m (i + 1) s
              | .br => .ok .nx s
              | .rt d fr => .ok (.rt d fr) s
            | none => R.ok .nx s2).wp _ _ := w2
          rw [hi] at w2
          have hlt : i < xs.length := (List.getElem?_eq_some_iff.mp hi).1
          obtain ⟨v, hv, rv⟩ := reps_get rs hi
          refine .inr ⟨⟨vs, v, SqL.of q, hv⟩, fun σ' H' => ∃ Φ2 ρ2 s2, Rel K b Φ2 ρ2 s2 σ' H' ∧ ρ2[n]? = some a ∧ (forR (fun x s => asgT sh t x false s) f n m (i + 1) s2).wp (EndC K b Φ2 ρ2 Ds) (ZS K b W Φ2 ρ2), fun σ' H' p' => ⟨m, Nat.lt_succ_self _, p'⟩, fun x H3 y => ?_⟩
          obtain ⟨rfl, y2⟩ := y
          have hx2 := y2 vs (SqL.of q)
          rw [hv] at hx2
          cases hx2
          refine tgt_ok r2 rv (wp_bind.mp w2) fun s4 σ4 w4 r5 _ => ⟨Φ2, ρ2, s4, r5, wp_mono (wp_bind.mp w4) (fun fl s5 q5 => ?_) fun _ _ _ z => z⟩
          cases fl with
          | nx => exact fun Φ6 ρ6 σ6 H6 g1 g2 r6 => ⟨Φ6, ρ6, s5, r6, pre_get g2 ha, endS_mono g1 g2 q5⟩
          | ct => exact fun Φ6 ρ6 σ6 H6 g1 g2 r6 => ⟨Φ6, ρ6, s5, r6, pre_get g2 ha, endS_mono g1 g2 q5⟩
          | br => exact fun Φ6 ρ6 σ6 H6 g1 g2 r6 => q5 Φ6 ρ6 σ6 H6 g1 g2 r6
          | rt dd fr => exact fun Φ6 ρ6 σ6 H6 v g1 g2 r6 => q5 Φ6 ρ6 σ6 H6 v g1 g2 r6
    | _ => exact other (fun n z => nomatch z)
theorem setD_inv {y k v y' : D} (h : setD y k v = some y') : ∃ xs j jj, y = .lst xs ∧ k = .int j ∧ ixN xs.length j = some jj ∧ y' = .lst (xs.set jj v) := by
  cases y <;> first | cases h | skip
  rename_i xs
  cases k <;> first | cases h | skip
  rename_i j
  have h : (match L2.ixN xs.length j with | some jj => some (D.lst (xs.set jj v)) | none => none) = some y' := h
  split at h
  · rename_i jj hj
    cases h
    exact ⟨xs, j, jj, rfl, rfl, hj, rfl⟩
  · cases h
theorem rd_seti {a : E} {fe fi : S → R (D × Bool)} {fa : S → R D} (h : tS K b W (fun s => (fe s).bind fun p s => (fa s).bind fun x s => (fi s).bind fun k s =>
      (liftO s ((seeE s a x).bind fun y => (setD y k.1 p.1).bind fun y' => putE s a x y')).bind fun s' _ => .ok .nx s') Ds σ H) : tAsg (tE K b W fe) (gSub (tO K b W a fa) (tE K b W fi) rSetL) Ds σ H := by
  obtain ⟨Φ, ρ, s, r, w⟩ := h
  refine tE_mono (sE_bind r w) fun v H1 ⟨Φ1, ρ1, s1, p, h1, h2, r1, rr, w1⟩ => ?_
  obtain ⟨Φ2, k1, r2, rp⟩ := settle r1 rr
  have w2 := wp_mono w1 (fun _ _ q => q) (fun _ _ _ z => zs_mono k1 (List.prefix_refl _) z)
  refine tO_mono (sO_bind r2 w2) fun o H3 ⟨Φ3, ρ3, s3, x, g1, g2, r3, ro, w3⟩ => ?_
  refine tE_mono (sE_bind r3 w3) fun iv H4 ⟨Φ4, ρ4, s4, kk, g3, g4, r4, rk, w4⟩ => ?_
  obtain ⟨Φ5, g5, r5, rk5⟩ := settle r4 rk
  obtain ⟨s', e, w5⟩ := wp_liftO (wp_bind.mp w4)
  obtain ⟨y, e1, e2⟩ := obind e
  obtain ⟨y', e3, e4⟩ := obind e2
  have ro5 := opR_mono (σ := σ) (g3.trans g5) g4 ro
  have vx := see_view r5 ro5 e1
  obtain ⟨kd, kf⟩ := kk
  obtain ⟨xs, j, jj, z1, z2, hj, z3⟩ := setD_inv e3
  subst z1
  have z2 : kd = .int j := z2
  subst z2
  subst z3
  have rk5 : iv = V.int j := rk5
  subst rk5
  obtain ⟨l, vs, rfl, q, rs⟩ := vx
  have rp5 := rep_mono ((g1.trans g3).trans g5) (g2.trans g4) _ _ rp
  refine ⟨l, vs, j, jj, rfl, rfl, q, by rw [reps_len rs]; exact hj, ?_⟩
  have r6 := put_ok r5 ro5 e4 (u := .lst (vs.set jj v)) ⟨_, upd_same, reps_set jj rs rp5⟩
  exact w5 Φ5 ρ4 σ _ ((h1.trans k1).trans ((g1.trans g3).trans g5)) (h2.trans (g2.trans g4)) r6
def tipI (op : Op2) : TIp := match op with
  | .add => ipI fun i j => i + j
  | _ => ipI fun i j => i - j
theorem rd_aug {op : Op2} {i : Nat} {f : S → R (D × Bool)} (h : tS K b W (fun s => match slot s i with
    | some (x, _) => (f s).bind fun p s => (liftO s (augD op x p.1)).bind fun z s => .ok .nx (setSlot s i (z, false))
    | none => .no) Ds σ H) : tAug i (tE K b W f) (tipI op) Ds σ H := by
  obtain ⟨Φ, ρ, s, r, w⟩ := h
  cases hs : slot s i with
  | none => 
    have w : (match slot s i with
    | some (x, _) => (f s).bind fun p s => (liftO s (augD op x p.1)).bind fun z s => R.ok Fl.nx (setSlot s i (z, false))
    | none => R.no).wp _ _ := w
    rw [hs] at w; exact w.elim
  | some q =>
    obtain ⟨x, fr⟩ := q
    have w : (match slot s i with
    | some (x, _) => (f s).bind fun p s => (liftO s (augD op x p.1)).bind fun z s => R.ok Fl.nx (setSlot s i (z, false))
    | none => R.no).wp _ _ := w
    rw [hs] at w
    obtain ⟨v, hv, q⟩ := r.env i x fr (slot_env hs)
    refine ⟨v, hv, tE_mono (sE_bind r w) fun u H1 ⟨Φ1, ρ1, s1, p, h1, h2, r1, rr, w1⟩ => ?_⟩
    obtain ⟨z, e, w2⟩ := wp_liftO (wp_bind.mp w1)
    obtain ⟨d, fr2⟩ := p
    have int_of : ∀ {n : Int} {fr : Bool} {v : V}, (if fr = true then Fresh K b Φ ρ H (.int n) v else Rep K Φ ρ (.int n) v) → v = .int n := fun {n fr v} q => by
      cases fr with
      | true => exact False.elim q
      | false => exact q
    have int_of2 : ∀ {n : Int}, RRep K b Φ1 ρ1 s1 σ H1 (.int n, fr2) u → u = .int n := fun {n} q => by
      cases fr2 with
      | true => exact False.elim q.1
      | false => exact q
    have e : augD op x d = some z := e
    unfold augD at e
    split at e <;> first | cases e | skip
    · have e1 := int_of q
      have e2 := int_of2 rr
      subst e1 e2
      exact ⟨_, _, rfl, rfl, w2 Φ1 ρ1 _ H1 h1 h2 (r1.store (p := (.int _, false)) rfl)⟩
    · have e1 := int_of q
      have e2 := int_of2 rr
      subst e1 e2
      exact ⟨_, _, rfl, rfl, w2 Φ1 ρ1 _ H1 h1 h2 (r1.store (p := (.int _, false)) rfl)⟩
end
end Ly
set_option Elab.async false
set_option linter.all false
set_option maxRecDepth 100000
set_option maxHeartbeats 2000000
/-! LyP: d[k] = v. -/
namespace Ly
open PySem PySem.Spec PyProof.Rows L2
section
variable {κ : Type} [DecidableEq κ]
def pk (q : κ) : List κ → List κ
  | [] => [q]
  | x :: xs => if x = q then x :: xs else x :: pk q xs
def pv (q : κ) (v : V) : List κ → List V → List V
  | x :: xs, w :: ws => if x = q then v :: ws else w :: pv q v xs ws
  | _, _ => [v]
theorem pk_cons (q x : κ) (xs : List κ) : pk q (x :: xs) = if x = q then x :: xs else x :: pk q xs := rfl
theorem pv_cons (q x : κ) (v w : V) (xs : List κ) (ws : List V) : pv q v (x :: xs) (w :: ws) = if x = q then v :: ws else w :: pv q v xs ws := rfl
theorem mem_pk {q z : κ} : ∀ {kk : List κ}, z ∈ pk q kk → z ∈ kk ∨ z = q
  | [], h => .inr (List.mem_singleton.mp h)
  | x :: xs, h => by
    rw [pk_cons] at h
    split at h
    · exact .inl h
    · rcases List.mem_cons.mp h with rfl | h
      · exact .inl List.mem_cons_self
      · rcases mem_pk h with h | h
        · exact .inl (List.mem_cons_of_mem _ h)
        · exact .inr h
theorem nodup_pk {q : κ} : ∀ {kk : List κ}, kk.Nodup → (pk q kk).Nodup
  | [], _ => by simp [pk]
  | x :: xs, h => by
    rw [pk_cons]
    split
    · exact h
    · rename_i hx
      obtain ⟨h1, h2⟩ := List.nodup_cons.mp h
      refine List.nodup_cons.mpr ⟨fun z => ?_, nodup_pk h2⟩
      rcases mem_pk z with z | z
      · exact h1 z
      · exact hx z
theorem len_pk {q : κ} {v : V} : ∀ {kk : List κ} {vs : List V}, kk.length = vs.length → (pk q kk).length = (pv q v kk vs).length
  | [], [], _ => rfl
  | x :: xs, w :: ws, h => by
    rw [pk_cons, pv_cons]
    split
    · simpa using h
    · simpa using len_pk (v := v) (Nat.succ.inj h)
theorem putK_cons {p : κ × V} {r : List (κ × V)} {q : κ} {v : V} (h : p.1 ≠ q) : putK (p :: r) q v = p :: putK r q v := by
  unfold putK
  have e : ((p :: r).any fun kv => decide (kv.1 = q)) = r.any fun kv => decide (kv.1 = q) := by simp [h]
  rw [e]
  split
  · simp [h]
  · rfl
theorem putK_zip {q : κ} {v : V} : ∀ {kk : List κ} {vs : List V}, kk.length = vs.length → kk.Nodup → putK (kk.zip vs) q v = (pk q kk).zip (pv q v kk vs)
  | [], [], _, _ => rfl
  | x :: xs, w :: ws, h, nd => by
    obtain ⟨h1, h2⟩ := List.nodup_cons.mp nd
    by_cases hx : x = q
    · subst hx
      rw [pk_cons, pv_cons]
      unfold putK
      have e : (((x :: xs).zip (w :: ws)).any fun kv => decide (kv.1 = x)) = true := by simp
      rw [if_pos e, if_pos rfl, if_pos rfl]
      simp only [List.zip_cons_cons, List.map_cons, if_true, List.cons.injEq, true_and]
      have : ∀ p ∈ xs.zip ws, (if p.1 = x then (p.1, v) else p) = p := fun p hp => by
        rw [if_neg]
        intro z
        exact h1 (by rw [← z]; exact (List.of_mem_zip hp).1)
      rw [List.map_congr_left this]
      simp
    · rw [List.zip_cons_cons, putK_cons hx, putK_zip (Nat.succ.inj h) h2]
      rw [pk_cons, pv_cons, if_neg hx, if_neg hx]
      rfl
end
section
variable {K : KW} {Φ H : Hp} {ρ : List Addr}
theorem dk_pk (q : Key) : ∀ kk : List Key, dPutK (kD q) (kk.map kD) = (pk q kk).map kD
  | [] => rfl
  | x :: xs => by
    show (if D.beq (kD q) (kD x) then kD x :: xs.map kD else kD x :: dPutK (kD q) (xs.map kD)) = _
    rw [beq_kD, dk_pk q xs]
    rw [pk_cons]
    by_cases h : x = q
    · simp [h]
    · simp [h]
theorem dk_pv {q : Key} {d : D} {v : V} (hv : Rep K Φ ρ d v) : ∀ {kk : List Key} {ds : List D} {vs : List V}, kk.length = vs.length → Reps K Φ ρ ds vs → Reps K Φ ρ (dPutV (kD q) d (kk.map kD) ds) (pv q v kk vs)
  | [], ds, [], _, _ => by cases ds <;> exact reps_one hv
  | x :: xs, [], _, h, r => by cases r; cases h
  | x :: xs, e :: es, _, h, ⟨w, ws, e1, r, rs⟩ => by
    subst e1
    show Reps K Φ ρ (if D.beq (kD q) (kD x) then d :: es else e :: dPutV (kD q) d (xs.map kD) es) (if x = q then v :: ws else w :: pv q v xs ws)
    rw [beq_kD]
    by_cases hx : x = q
    · rw [if_pos (decide_eq_true hx), if_pos hx]; exact reps_cons hv rs
    · rw [if_neg (by simp [hx]), if_neg hx]; exact reps_cons r (dk_pv hv (Nat.succ.inj h) rs)
theorem dt_pk (q : List Key) : ∀ kk : List (List Key), dPutK (.tup (q.map kD)) (kk.map fun k => D.tup (k.map kD)) = (pk q kk).map fun k => D.tup (k.map kD)
  | [] => rfl
  | x :: xs => by
    show (if D.beqs (q.map kD) (x.map kD) then D.tup (x.map kD) :: xs.map (fun k => D.tup (k.map kD)) else D.tup (x.map kD) :: dPutK (.tup (q.map kD)) (xs.map fun k => D.tup (k.map kD))) = _
    rw [beq_kDs, dt_pk q xs]
    rw [pk_cons]
    by_cases h : x = q
    · simp [h]
    · simp [h]
theorem dt_pv {q : List Key} {d : D} {v : V} (hv : Rep K Φ ρ d v) : ∀ {kk : List (List Key)} {ds : List D} {vs : List V}, kk.length = vs.length → Reps K Φ ρ ds vs → Reps K Φ ρ (dPutV (.tup (q.map kD)) d (kk.map fun k => D.tup (k.map kD)) ds) (pv q v kk vs)
  | [], ds, [], _, _ => by cases ds <;> exact reps_one hv
  | x :: xs, [], _, h, r => by cases r; cases h
  | x :: xs, e :: es, _, h, ⟨w, ws, e1, r, rs⟩ => by
    subst e1
    show Reps K Φ ρ (if D.beqs (q.map kD) (x.map kD) then d :: es else e :: dPutV (.tup (q.map kD)) d (xs.map fun k => D.tup (k.map kD)) es) (if x = q then v :: ws else w :: pv q v xs ws)
    rw [beq_kDs]
    by_cases hx : x = q
    · rw [if_pos (decide_eq_true hx), if_pos hx]; exact reps_cons hv rs
    · rw [if_neg (by simp [hx]), if_neg hx]; exact reps_cons r (dt_pv hv (Nat.succ.inj h) rs)
theorem pk_ne {κ : Type} [DecidableEq κ] {q : κ} {kk : List κ} : pk q kk ≠ [] := by
  cases kk with
  | nil => simp [pk]
  | cons x xs => rw [pk_cons]; split <;> simp
/-- a pair is laid into a dict -/
theorem dctM_put (sub : Same Φ H) {a : Addr} {ks ds : List D} {vs : List V} {k d : D} {y v : V} (m : DctM H a ks vs) (rs : Reps K Φ ρ ds vs) (f : kfit k ks ds = true) (hl : ks.length < sizeLine) (rk : Rep K Φ ρ k y) (rv : Rep K Φ ρ d v) :
    ∃ u vs', DPut H a y v (upd H a u) ∧ DctM (upd H a u) a (dPutK k ks) vs' ∧ Reps K Φ ρ (dPutV k d ks ds) vs' := by
  have hl0 := reps_len rs
  rcases m with ⟨kk, rfl, hz, nd, e⟩ | ⟨kk, hne, rfl, hz, nd, e⟩ | ⟨rfl, rfl, e⟩
  · have f' : kfit k (kk.map kD) ds = ((D.kS k && (kk.map kD).all D.kS) || (D.kI k && (kk.map kD).all D.kI) || (D.kT k && (kk.map kD).all D.kT && !(kk.map kD).isEmpty)) := if_pos (by simp; omega)
    rw [f'] at f
    have key : ∃ q, k = kD q ∧ y = kV q := by
      rcases Bool.or_eq_true_iff.mp f with g | g
      · rcases Bool.or_eq_true_iff.mp g with g | g
        · obtain ⟨z, rfl⟩ := kS_of (Bool.and_eq_true_iff.mp g).1
          exact ⟨.inr z, rfl, rk⟩
        · obtain ⟨z, rfl⟩ := kI_of (Bool.and_eq_true_iff.mp g).1
          exact ⟨.inl z, rfl, rk⟩
      · exfalso
        cases kk with
        | nil => simp at g
        | cons c r =>
          cases c <;> simp [kD, D.kT] at g
    obtain ⟨q, rfl, rfl⟩ := key
    have lz : (kk.zip vs).length < sizeLine := by simp at hl ⊢; omega
    refine ⟨_, pv q v kk vs, .inl ⟨_, q, e, rfl, lz, rfl⟩, .inl ⟨pk q kk, dk_pk q kk, len_pk hz, nodup_pk nd, ?_⟩, dk_pv rv hz rs⟩
    rw [upd_same, putK_zip hz nd]
  · have f' : kfit k (kk.map fun k => D.tup (k.map kD)) ds = ((D.kS k && (kk.map fun k => D.tup (k.map kD)).all D.kS) || (D.kI k && (kk.map fun k => D.tup (k.map kD)).all D.kI) || (D.kT k && (kk.map fun k => D.tup (k.map kD)).all D.kT && !(kk.map fun k => D.tup (k.map kD)).isEmpty)) := if_pos (by simp; omega)
    rw [f'] at f
    have f2 : D.kT k = true := by
      cases kk with
      | nil => exact absurd rfl hne
      | cons c r => simp [D.kS, D.kI] at f; exact f.1
    obtain ⟨xs, rfl, tk⟩ := kT_of f2
    obtain ⟨q, rfl⟩ := keys_of tk
    obtain ⟨c, ws, rfl, q1, q2, q3⟩ := rk
    have e2 := reps_keys q2
    subst e2
    have lz : (kk.zip vs).length < sizeLine := by simp at hl ⊢; omega
    refine ⟨_, pv q v kk vs, .inr ⟨_, q, c, e, rfl, sub _ _ (q3 tk), lz, rfl⟩, .inr (.inl ⟨pk q kk, pk_ne, dt_pk q kk, len_pk hz, nodup_pk nd, ?_⟩), dt_pv rv hz rs⟩
    rw [upd_same, putK_zip hz nd]
  · have f' : kfit k [] ds = (true && D.kT k) := if_neg (by simp at hl0 ⊢; intro z; rw [z] at hl0; cases hl0)
    rw [f'] at f
    obtain ⟨xs, rfl, tk⟩ := kT_of (Bool.and_eq_true_iff.mp f).2
    obtain ⟨q, rfl⟩ := keys_of tk
    obtain ⟨c, ws, rfl, q1, q2, q3⟩ := rk
    have e2 := reps_keys q2
    subst e2
    refine ⟨_, [v], .inr ⟨[], q, c, e, rfl, sub _ _ (q3 tk), by decide, rfl⟩, .inr (.inl ⟨[q], by simp, rfl, rfl, by simp, ?_⟩), ?_⟩
    · rw [upd_same]; rfl
    · cases ds <;> exact reps_one rv
end
section
variable {K : KW} {b : Bs} {Φ H : Hp} {ρ : List Addr} {s s' : S} {σ : L2.St} {a : Addr}
/-- what is changed may change -/
theorem put_dct (r : Rel K b Φ ρ s σ H) {e : E} {dx d' : D} {ks ds : List D} (o : OpR' K Φ ρ σ e dx (.ref a)) (hs : seeE s e dx = some (.dct ks ds)) (hp : putE s e dx d' = some s') : ∃ vs, DctM H a ks vs ∧ Reps K Φ ρ ds vs := by
  have byref : ∀ n, Rep K Φ ρ (.ref n) (.ref a) → deref s.mem (.ref n) = some (.dct ks ds) → ∃ vs, DctM H a ks vs ∧ Reps K Φ ρ ds vs := fun n q h => by
    obtain ⟨ob, e1, e2⟩ := obind (show (s.mem[n]?).bind MO.d = some (.dct ks ds) from h)
    obtain ⟨a', e3, e4⟩ := q
    cases e3
    have m := r.mem.at_ n ob a e1 e4
    cases ob <;> first | (cases e2; done) | skip
    cases e2
    exact m
  cases e with
  | v i =>
    have hσ : σ[i]? = some (some (.ref a)) := o
    obtain ⟨p, hsl, hd⟩ := obind (show (slot s i).bind (fun p => deref s.mem p.1) = some (.dct ks ds) from hs)
    obtain ⟨d0, fr⟩ := p
    have hp : putV s i d' (slot s i) = some s' := hp
    rw [hsl] at hp
    obtain ⟨w, hw, q⟩ := r.env i _ fr (slot_env hsl)
    rw [hσ] at hw; cases hw
    cases d0 with
    | ref n =>
      cases fr with
      | false => exact byref n q hd
      | true => exact False.elim q
    | dct k2 d2 =>
      cases fr with
      | false => cases hp
      | true =>
        cases hd
        obtain ⟨a', vs, e', m, rr, _⟩ := q
        cases e'
        exact ⟨vs, m, rr⟩
    | _ => cases hd
  | _ =>
    cases dx with
    | ref n => exact byref n o hs
    | _ => cases hp
end
section
variable {K : KW} {b : Bs} {W : WX} {σ : L2.St} {H : Hp} {Ds : Ends}
theorem rd_setd {a : E} {fe fi : S → R (D × Bool)} {fa : S → R D} (h : tS K b W (fun s => (fe s).bind fun p s => (fa s).bind fun x s => (fi s).bind fun k s =>
      (liftO s ((seeE s a x).bind fun y => (setM y k.1 p.1).bind fun y' => putE s a x y')).bind fun s' _ => .ok .nx s') Ds σ H) : sDPut (tO K b W a fa) (tE K b W fi) (tE K b W fe) Ds σ H := by
  obtain ⟨Φ, ρ, s, r, w⟩ := h
  refine tE_mono (sE_bind r w) fun v H1 ⟨Φ1, ρ1, s1, p, h1, h2, r1, rr, w1⟩ => ?_
  obtain ⟨Φ2, k1, r2, rp⟩ := settle r1 rr
  have w2 := wp_mono w1 (fun _ _ q => q) (fun _ _ _ z => zs_mono k1 (List.prefix_refl _) z)
  refine tO_mono (sO_bind r2 w2) fun o H3 ⟨Φ3, ρ3, s3, x, g1, g2, r3, ro, w3⟩ => ?_
  refine tE_mono (sE_bind r3 w3) fun iv H4 ⟨Φ4, ρ4, s4, kk, g3, g4, r4, rk, w4⟩ => ?_
  obtain ⟨Φ5, g5, r5, rk5⟩ := settle r4 rk
  obtain ⟨s', e, w5⟩ := wp_liftO (wp_bind.mp w4)
  obtain ⟨y, e1, e2⟩ := obind e
  obtain ⟨y', e3, e4⟩ := obind e2
  have ro5 := opR_mono (σ := σ) (g3.trans g5) g4 ro
  have vx := see_view r5 ro5 e1
  cases y <;> first | (cases e3; done) | skip
  rename_i ks ds
  obtain ⟨hg, e3⟩ := ifs (show (if (kfit kk.1 ks ds && decide (ks.length < sizeLine)) = true then some (D.dct (dPutK kk.1 ks) (dPutV kk.1 p.1 ks ds)) else none) = some y' from e3) rfl
  subst e3
  obtain ⟨f, hl⟩ := Bool.and_eq_true_iff.mp hg
  obtain ⟨l, vs, rfl, _, _⟩ := vx
  obtain ⟨vs, m, rs⟩ := put_dct r5 ro5 e1 e4
  have rp5 := rep_mono ((g1.trans g3).trans g5) (g2.trans g4) _ _ rp
  obtain ⟨u, vs', q1, q2, q3⟩ := dctM_put r5.sub m rs f (of_decide_eq_true hl) rk5 rp5
  refine ⟨l, _, rfl, q1, ?_⟩
  have r6 := put_ok r5 ro5 e4 (u := u) ⟨vs', q2, q3⟩
  exact w5 Φ5 ρ4 σ _ ((h1.trans k1).trans ((g1.trans g3).trans g5)) (h2.trans (g2.trans g4)) r6
end
end Ly
set_option Elab.async false
set_option linter.all false
set_option maxRecDepth 100000
set_option maxHeartbeats 2000000
/-! Ly17: every statement does what the evaluator says. -/
namespace Ly
open PySem PySem.Spec PyProof.Rows L2
def noLc : Expr → Bool
  | .ListComp _ _ _ _ => false
  | .SetComp _ _ _ _ => false
  | .DictComp _ _ _ _ _ => false
  | _ => true
def isCallX : Expr → Bool
  | .Call _ _ _ _ => true
  | _ => false
def kindF (sc : Scope) : Bool := match sc.kind with
  | .function => true
  | _ => false
def augB : Op2 → Operator → Bool
  | .add, .Add => true
  | .sub, .Sub => true
  | _, _ => false
def locB (sc : Scope) (y : Str) : Bool := match sc.names.lookup y with
  | some .local => true
  | _ => false
/-- how a value goes to its one target -/
def asB (sc : Scope) (p : Pos) : Expr → Expr → Bool
  | .Name y py, .ListComp _ _ scope px => !locB sc y || (kindF sc && (py.line == px.line) && !(scope.names.any fun (n, k) => n == y && (k == .local || k == .cell)))
  | .Name _ _, x => noLc x
  | .Tuple _ _ _, x => noLc x && !isTup x
  | _, _ => false
section
variable (G : List (Str × D)) (N : List Str) (sc : Scope)
mutual
def chS : St → Stmt → Bool
  | .ex e, .Expr x _ => isCallX x && chE G N sc e x
  | .asg t e, .Assign [g] x p => tgB N sc N t g && chE G N sc e x && asB sc p g x
  | .seti a i e, .Assign [.Subscript o j _] x _ => chE G N sc e x && noLc x && chE G N sc a o && chE G N sc i j
  | .setd a i e, .Assign [.Subscript o j _] x _ => chE G N sc e x && noLc x && chE G N sc a o && chE G N sc i j
  | .dead, _ => true
  | .aug i op e, .AugAssign (.Name y _) o x _ => tgN N sc N i (.Name y ⟨0, 0, 0, 0⟩) && augB op o && chE G N sc e x
  | .ret e, .Return (some x) _ => chE G N sc e x
  | .retn, .Return none _ => true
  | .ife c a b, .If z x y _ => chE G N sc c z && chSs a x && chSs b y
  | .for_ t k es body, .For g it x [] _ => tgB N sc N t g && (match walkX sc k (isTup g) it with | some xs => chEs G N sc es xs | none => false) && chSs body x
  | .forR t e body, .For g it x [] _ => tgB N sc N t g && chE G N sc e it && chSs body x
  | .whl c body, .While z x [] _ => chE G N sc c z && chSs body x
  | .pass, .Pass _ => true
  | .brk, .Break _ => true
  | .cont, .Continue _ => true
  | _, _ => false
def chSs : List St → List Stmt → Bool
  | [], [] => true
  | s :: ss, x :: xs => chS s x && chSs ss xs
  | _, _ => false
end
end
section
variable {ft : Str → Option Fn} {cf : Str → List D → Mem → CR} {G : List (Str × D)} {N : List Str}
structure SCtx (ft : Str → Option Fn) (cf : Str → List D → Mem → CR) (G : List (Str × D)) (N : List Str) (W : WX) (sc : Scope) (X : Cx) : Prop where
  c : Ctx ft cf G N W N sc X
  own : PassesOwn (model X.prog X.w) X.A X.env X.xe
theorem _root_.L2.PS.imp {X : Cx} {st : Stmt} {t t' : TS} (h : PS X st t) (i : ∀ Ds σ H, t' Ds σ H → t Ds σ H) : PS X st t' := ⟨fun pins s σ H Ds I q => h.run pins s σ H Ds I (i Ds σ H q)⟩
theorem _root_.L2.PSs.imp {X : Cx} {st : List Stmt} {t t' : TS} (h : PSs X st t) (i : ∀ Ds σ H, t' Ds σ H → t Ds σ H) : PSs X st t' := ⟨fun pins s σ H Ds I q => h.run pins s σ H Ds I (i Ds σ H q)⟩
theorem sw_no {x : Expr} (h : noLc x = true) (t : Option Expr) (l : Nat) (env : PySem.Env) : swapsWith x t l env = pure false := by
  cases x <;> first | rfl | cases h
theorem sws_no {x g : Expr} (h : noLc x = true) (l : Nat) (env : PySem.Env) : swapsWithSole [g] x l env = pure false := sw_no h (some g) l env
theorem sst_no {x g : Expr} (h : isTup x = false) (env : PySem.Env) : swappedStores [g] x env = pure none := by
  cases x <;> first | (cases g <;> rfl) | cases h
theorem sst_name {x : Expr} {y : Str} {p : Pos} (env : PySem.Env) : swappedStores [.Name y p] x env = pure none := by
  cases x <;> rfl
theorem sw_cell {elt : Expr} {gs : List Comprehension} {scope : Scope} {pos py : Pos} {y : Str} {l : Nat} {env : PySem.Env} (h : locB env.scope y = false) : swapsWith (.ListComp elt gs scope pos) (some (.Name y py)) l env = pure false := by
  have e : (env.kindOf y == some NameKind.local) = false := by
    show (env.scope.names.lookup y == some NameKind.local) = false
    unfold locB at h
    split at h
    · cases h
    · rename_i hn
      cases hl : env.scope.names.lookup y with
      | none => rfl
      | some k =>
        cases k <;> first | rfl | exact absurd hl hn
  unfold swapsWith
  simp only [e, Bool.and_false, Bool.false_and]
theorem tgN_parts {i : Nat} {y : Str} {p : Pos} {sc : Scope} {N : List Str} (h : tgN N sc N i (.Name y p) = true) : N[i]? = some y ∧ Loc sc y := by
  unfold tgN at h
  simp only [Bool.and_eq_true, decide_eq_true_eq] at h
  obtain ⟨⟨h1, h2⟩, h3⟩ := h
  refine ⟨h1, ?_⟩
  split at h2
  · rename_i e; exact .inl e
  · rename_i e; exact .inr e
  · cases h2
def SndS (ft : Str → Option Fn) (cf : Str → List D → Mem → CR) (sh : List Nat) (G : List (Str × D)) (N : List Str) (st : St) : Prop := ∀ (x : Stmt) (W : WX) (sc : Scope) (X : Cx), SCtx ft cf G N W sc X → X.fn = (fun _ => true) → chS G N sc st x = true → ∀ b : Bs, PS X x (tS X.kw b W (evS ft cf sh st))
def SndSs (ft : Str → Option Fn) (cf : Str → List D → Mem → CR) (sh : List Nat) (G : List (Str × D)) (N : List Str) (sts : List St) : Prop := ∀ (xs : List Stmt) (W : WX) (sc : Scope) (X : Cx), SCtx ft cf G N W sc X → X.fn = (fun _ => true) → chSs G N sc sts xs = true → ∀ b : Bs, PSs X xs (tS X.kw b W (evSs ft cf sh sts))
theorem snd_asg {sh : List Nat} {t : T} {e : E} {g x : Expr} {W : WX} {sc : Scope} {X : Cx} {p : Pos} (C : SCtx ft cf G N W sc X) (hf : X.fn = (fun _ => true)) (h1 : tgB N sc N t g = true) (h2 : chE G N sc e x = true) (h3 : asB sc p g x = true) (b : Bs) :
    PS X (.Assign [g] x p) (tS X.kw b W (evS ft cf sh (.asg t e))) := by
  by_cases hd : e = .dead
  · subst hd
    exact ⟨fun pins s σ H Ds I ⟨_, _, _, _, w⟩ => (show False from w).elim⟩
  have sto : ∀ x ∈ N, X.fn x = true ∨ X.env.scope.names.lookup x = some .local := fun x _ => .inl (by rw [hf])
  have hg : PG X g (gT X.K t) := tgB_ok C.c.n C.c.nd C.c.sc C.c.calm sto h1
  have pe := (snd_E e x W N sc X C.c h2 b).1
  have use : PS X (.Assign [g] x p) (tAsg (tE X.kw b W (evE ft cf e)) (gT X.K t)) → PS X (.Assign [g] x p) (tS X.kw b W (evS ft cf sh (.asg t e))) := fun h => h.imp fun Ds σ H q => rd_asg q
  by_cases hl : noLc x = true
  · refine use ?_
    cases g with
    | Name y py => exact ps_asg pe hg (sws_no hl _ _) (sst_name _) rfl
    | Tuple es k tp =>
      have h3 : (noLc x && !isTup x) = true := h3
      have h4 : isTup x = false := by simpa using (and2 h3).2
      exact ps_asg pe hg (sws_no hl _ _) (sst_no h4 _) rfl
    | _ => cases t <;> cases h1
  · cases g with
    | Name y py =>
      cases x <;> first | exact absurd rfl hl | (cases h3) | skip
      rename_i elt gs scope px
      have h3 : (!locB sc y || (kindF sc && (py.line == px.line) && !(scope.names.any fun (n, k) => n == y && (k == .local || k == .cell)))) = true := h3
      cases t with
      | tup is => cases h1
      | v i =>
      obtain ⟨hi, hloc⟩ := tgN_parts (show tgN N sc N i (.Name y py) = true from h1)
      cases hlb : locB sc y with
      | false =>
        refine use (ps_asg pe hg ?_ (sst_name _) rfl)
        exact sw_cell (l := p.line) (by rw [C.c.sc]; exact hlb)
      | true =>
        rw [hlb] at h3
        obtain ⟨k1, k2, k3⟩ := and3 (show (kindF sc && (py.line == px.line) && !(scope.names.any fun (n, k) => n == y && (k == .local || k == .cell))) = true from h3)
        have hy : X.env.scope.names.lookup y = some .local := by
          rw [C.c.sc]
          unfold locB at hlb
          split at hlb
          · assumption
          · cases hlb
        have hk : X.env.scope.kind = .function := by
          rw [C.c.sc]
          unfold kindF at k1
          split at k1
          · assumption
          · cases k1
        cases e <;> first | (cases h2; done) | (exact absurd rfl hd) | skip
        · rename_i elt' tg k its ifs own
          match gs, h2 with
          | [⟨t, it, fs, z0⟩], h2 =>
            obtain ⟨h, h9⟩ := and2 (show (decide (z0 = 0) && blkC N sc scope (ownL N own) && (match (generalizing := false) walkX sc k (isTup t) it with | some xs => chEs G N sc its xs | none => false) &&
              tgB ((ownL N own).map (·.1)) (relS scope sc) N tg t && (own.all fun i => match scope.names.lookup (N.getD i ⟨#[]⟩) with | some .local => true | some .cell => true | _ => false) &&
              tg.slots.all own.contains && decide (ifs.length ≤ 1) && chEs G N (relS scope sc) ifs fs && chE G N (relS scope sc) elt' elt) = true from h2)
            obtain ⟨h, h7, h8⟩ := and3 h
            obtain ⟨h, h5, h6⟩ := and3 h
            obtain ⟨h, w3, h4⟩ := and3 h
            obtain ⟨z1, z2⟩ := and2 h
            have hz : z0 = 0 := of_decide_eq_true z1
            subst hz
            cases hw : walkX sc k (isTup t) it with
            | none => rw [hw] at w3; cases w3
            | some xs =>
              rw [hw] at w3
              obtain ⟨i1, _, _, i4⟩ := snd_Es its xs W N sc X C.c w3 b
              obtain ⟨wk1, wk2⟩ := walk_ok (b := b) C.c hw w3 i1 fun e x z1 z2 => (i4 e x z1 z2).1
              have L : LcAt X b W elt t it fs scope tg k own (evEs ft cf its) (evTs ft cf ifs) (evE ft cf elt') := by
                refine ⟨wk1, ?_, fun s H Ca cl fp => ?_, fun s H Ca cl fp => ?_, fun s H Ca cl fp => ?_, wk2, fun i hi => ?_⟩
                · rw [C.c.n, C.c.sc]; exact blkOk_by z2
                · have C2 := ctx_blk C.c h5 s H Ca cl fp
                  exact tgB_ok C2.n C2.nd C2.sc C2.calm C2.sto h4
                · have C2 := ctx_blk C.c h5 s H Ca cl fp
                  exact pts_tTb (fun e x _ _ z1 z2 b2 => ((snd_Es ifs fs WF _ _ _ C2 h8 b2).2.2.2 e x z1 z2).2) (chEs_len h8) (of_decide_eq_true h7)
                · have C2 := ctx_blk C.c h5 s H Ca cl fp
                  exact ⟨fun pins s1 σ H1 Q I ⟨b2, q⟩ => (snd_E elt' elt WF _ _ _ C2 h9 b2).1.run pins s1 σ H1 Q I q⟩
                · have := List.all_eq_true.mp h6 i hi
                  simpa using this
              refine (ps_setLc (i := i) C.c.calm C.c.nd (by rw [C.c.n]; exact hi) hy (sw_true hk hy k2 (by simpa using k3)) L.hi L.ok L.hg L.ht L.he L.hs).imp fun Ds σ H q => ?_
              rw [own_snd]
              exact lc_read L.own (rd_asg (t := .v i) (sh := sh) (f := evE ft cf (.lc elt' tg k its ifs own)) q)
          | [], h => exact nomatch h
          | g :: _ :: _, h => cases g; exact nomatch h
        · rename_i elt' tg e' ifs own
          match gs, h2 with
          | [⟨t, it, fs, z0⟩], h2 =>
            obtain ⟨h, h9⟩ := and2 (show (decide (z0 = 0) && blkC N sc scope (ownL N own) && chE G N sc e' it &&
              tgB ((ownL N own).map (·.1)) (relS scope sc) N tg t && (own.all fun i => match scope.names.lookup (N.getD i ⟨#[]⟩) with | some .local => true | some .cell => true | _ => false) &&
              tg.slots.all own.contains && decide (ifs.length ≤ 1) && chEs G N (relS scope sc) ifs fs && chE G N (relS scope sc) elt' elt) = true from h2)
            obtain ⟨h, h7, h8⟩ := and3 h
            obtain ⟨h, h5, h6⟩ := and3 h
            obtain ⟨h, w3, h4⟩ := and3 h
            obtain ⟨z1, z2⟩ := and2 h
            have hz : z0 = 0 := of_decide_eq_true z1
            subst hz
            have L : LcRAt X b W elt t it fs scope tg own (evE ft cf e') (evTs ft cf ifs) (evE ft cf elt') := by
              refine ⟨pi_seqR (snd_E e' it W N sc X C.c w3 b).1, ?_, fun s H Ca cl fp => ?_, fun s H Ca cl fp => ?_, fun s H Ca cl fp => ?_, fold_plain (chE_plain w3), fun i hi => ?_⟩
              · rw [C.c.n, C.c.sc]; exact blkOk_by z2
              · have C2 := ctx_blk C.c h5 s H Ca cl fp
                exact tgB_ok C2.n C2.nd C2.sc C2.calm C2.sto h4
              · have C2 := ctx_blk C.c h5 s H Ca cl fp
                exact pts_tTb (fun e x _ _ z1 z2 b2 => ((snd_Es ifs fs WF _ _ _ C2 h8 b2).2.2.2 e x z1 z2).2) (chEs_len h8) (of_decide_eq_true h7)
              · have C2 := ctx_blk C.c h5 s H Ca cl fp
                exact ⟨fun pins s1 σ H1 Q I ⟨b2, q⟩ => (snd_E elt' elt WF _ _ _ C2 h9 b2).1.run pins s1 σ H1 Q I q⟩
              · have := List.all_eq_true.mp h6 i hi
                simpa using this
            refine (ps_setLc (i := i) C.c.calm C.c.nd (by rw [C.c.n]; exact hi) hy (sw_true hk hy k2 (by simpa using k3)) L.hi L.ok L.hg L.ht L.he L.hs).imp fun Ds σ H q => ?_
            rw [own_snd]
            exact lcR_read L.own (rd_asg (t := .v i) (sh := sh) (f := evE ft cf (.lcR elt' tg e' ifs own)) q)
          | [], h => exact nomatch h
          | g :: _ :: _, h => cases g; exact nomatch h
    | Tuple es k tp =>
      have h3 : (noLc x && !isTup x) = true := h3
      exact absurd (and2 h3).1 hl
    | _ => cases t <;> cases h1
mutual
theorem snd_S {sh : List Nat} : ∀ st : St, SndS ft cf sh G N st
  | .ex e => fun x W sc X C hf h b => by
    cases x <;> first | cases h | skip
    rename_i y pos
    obtain ⟨h1, h2⟩ := and2 (show (isCallX y && chE G N sc e y) = true from h)
    refine (ps_expr (snd_E e y W N sc X C.c h2 b).1 ?_).imp fun Ds σ H q => rd_drop q
    cases y <;> first | rfl | cases h1
  | .asg t e => fun x W sc X C hf h b => by
    cases x <;> first | cases h | skip
    rename_i gs y p
    match gs, h with
    | [g], h =>
      obtain ⟨h1, h2, h3⟩ := and3 (show (tgB N sc N t g && chE G N sc e y && asB sc p g y) = true from h)
      exact snd_asg C hf h1 h2 h3 b
    | [], h => exact nomatch h
    | _ :: _ :: _, h => exact nomatch h
  | .seti a i e => fun x W sc X C hf h b => by
    cases x <;> first | cases h | skip
    rename_i gs y p
    match gs, h with
    | [g], h =>
      cases g <;> first | cases h | skip
      rename_i o j tp
      obtain ⟨h0, h3, h4⟩ := and3 (show ((chE G N sc e y && noLc y) && chE G N sc a o && chE G N sc i j) = true from h)
      obtain ⟨h1, h2⟩ := and2 h0
      have pi := chE_plain h4
      have hg : PG X (.Subscript o j tp) (gSub (tO X.kw b W a fun s => opO a (evE ft cf a s) s) (tE X.kw b W (evE ft cf i)) rSetL) :=
        pg_sub (op_of C.c h3 (snd_E a o W N sc X C.c h3 b).1) (snd_E i j W N sc X C.c h4 b).1 set_list (by
          intro v
          cases j <;> first | rfl | cases pi)
      refine (ps_asg (snd_E e y W N sc X C.c h1 b).1 hg (sws_no h2 _ _) ?_ rfl).imp fun Ds σ H q => rd_seti q
      cases y <;> rfl
    | [], h => exact nomatch h
    | g :: _ :: _, h => cases g <;> cases h
  | .aug i op e => fun x W sc X C hf h b => by
    cases x <;> first | cases h | skip
    rename_i g o y p
    cases g <;> first | cases h | skip
    rename_i z tp
    obtain ⟨h1, h2, h3⟩ := and3 (show (tgN N sc N i (.Name z ⟨0, 0, 0, 0⟩) && augB op o && chE G N sc e y) = true from h)
    obtain ⟨hi, hloc⟩ := tgN_parts h1
    have ip : PIp X o (tipI op) := by
      cases op <;> cases o <;> first | exact ip_add | exact ip_sub | cases h2
    exact (ps_aug (by exact C.c.nd) (by rw [C.c.n]; exact hi) (by rw [C.c.sc]; exact hloc) (snd_E e y W N sc X C.c h3 b).1 ip (.inl (by rw [hf]))).imp fun Ds σ H q => rd_aug q
  | .ret e => fun x W sc X C hf h b => by
    cases x <;> first | cases h | skip
    rename_i y p
    cases y with
    | none => cases e <;> cases h
    | some y =>
      have h : chE G N sc e y = true := h
      have gen : (∀ s r, retV e r s = r) → PS X (.Return (some y) p) (tS X.kw b W (evS ft cf sh (.ret e))) := fun hr =>
        (ps_ret (snd_E e y W N sc X C.c h b).1).imp fun Ds σ H ⟨Φ, ρ, s, r, w⟩ => rd_ret ⟨Φ, ρ, s, r, by
          have w : ((retV e (evE ft cf e s) s).bind fun p s => R.ok (Fl.rt p.1 p.2) s).wp _ _ := w
          rw [hr] at w
          exact w⟩
      cases e with
      | v i => exact (ps_ret (chE_v C.c h)).imp fun Ds σ H q => rd_retV q
      | _ => exact gen fun _ _ => rfl
  | .retn => fun x W sc X C hf h b => by
    cases x <;> first | cases h | skip
    rename_i y p
    cases y with
    | some y => cases h
    | none => exact ps_retN.imp fun Ds σ H ⟨Φ, ρ, s, r, w⟩ => w Φ ρ σ H .non (Same.refl _) (List.prefix_refl _) r rfl
  | .ife c a d => fun x W sc X C hf h b => by
    cases x <;> first | cases h | skip
    rename_i z l r pos
    obtain ⟨h1, h2, h3⟩ := and3 (show (chE G N sc c z && chSs G N sc a l && chSs G N sc d r) = true from h)
    exact (ps_if (snd_E c z W N sc X C.c h1 b).2 (snd_Ss a l W sc X C hf h2 b) (snd_Ss d r W sc X C hf h3 b)).imp fun Ds σ H q => rd_if q
  | .for_ t k es body => fun x W sc X C hf h b => by
    cases x <;> first | cases h | skip
    rename_i g it bd oe pos
    cases oe with
    | cons _ _ => cases h
    | nil =>
      obtain ⟨h1, h2, h3⟩ := and3 (show (tgB N sc N t g && (match (generalizing := false) walkX sc k (isTup g) it with | some xs => chEs G N sc es xs | none => false) && chSs G N sc body bd) = true from h)
      have sto : ∀ x ∈ N, X.fn x = true ∨ X.env.scope.names.lookup x = some .local := fun x _ => .inl (by rw [hf])
      cases hw : walkX sc k (isTup g) it with
      | none => rw [hw] at h2; cases h2
      | some xs =>
        rw [hw] at h2
        obtain ⟨i1, _, _, i4⟩ := snd_Es es xs W N sc X C.c h2 b
        obtain ⟨wk1, wk2⟩ := walk_ok (b := b) C.c hw h2 i1 fun e x z1 z2 => (i4 e x z1 z2).1
        exact (ps_for C.own C.c.calm wk1 (tgB_ok C.c.n C.c.nd C.c.sc C.c.calm sto h1) (snd_Ss body bd W sc X C hf h3 b) wk2).imp fun Ds σ H q => rd_for q
  | .forR t e body => fun x W sc X C hf h b => by
    cases x <;> first | cases h | skip
    rename_i g it bd oe pos
    cases oe with
    | cons _ _ => cases h
    | nil =>
      obtain ⟨h1, h2, h3⟩ := and3 (show (tgB N sc N t g && chE G N sc e it && chSs G N sc body bd) = true from h)
      have sto : ∀ x ∈ N, X.fn x = true ∨ X.env.scope.names.lookup x = some .local := fun x _ => .inl (by rw [hf])
      exact (ps_for C.own C.c.calm (pi_seqR (snd_E e it W N sc X C.c h2 b).1) (tgB_ok C.c.n C.c.nd C.c.sc C.c.calm sto h1) (snd_Ss body bd W sc X C hf h3 b) (fold_plain (chE_plain h2))).imp fun Ds σ H q => rd_forR q
  | .whl c body => fun x W sc X C hf h b => by
    cases x <;> first | cases h | skip
    rename_i z bd oe pos
    cases oe with
    | cons _ _ => cases h
    | nil =>
      obtain ⟨h1, h2⟩ := and2 (show (chE G N sc c z && chSs G N sc body bd) = true from h)
      exact (ps_while C.own (snd_E c z W N sc X C.c h1 b).2 (snd_Ss body bd W sc X C hf h2 b)).imp fun Ds σ H q => rd_while q
  | .setd a i e => fun x W sc X C hf h b => by
    cases x <;> first | cases h | skip
    rename_i gs y p
    match gs, h with
    | [g], h =>
      cases g <;> first | cases h | skip
      rename_i o j tp
      obtain ⟨h0, h3, h4⟩ := and3 (show ((chE G N sc e y && noLc y) && chE G N sc a o && chE G N sc i j) = true from h)
      obtain ⟨h1, h2⟩ := and2 h0
      exact (ps_dput (by have := C.c.un; omega) (op_of C.c h3 (snd_E a o W N sc X C.c h3 b).1) (snd_E i j W N sc X C.c h4 b).1 (snd_E e y W N sc X C.c h1 b).1 (sw_no h2 _ _ _)).imp fun Ds σ H q => rd_setd q
    | [], h => exact nomatch h
    | g :: _ :: _, h => cases g <;> cases h
  | .dead => fun x W sc X C hf h b => ⟨fun pins s σ H Ds I ⟨_, _, _, _, w⟩ => (show False from w).elim⟩
  | .pass => fun x W sc X C hf h b => by
    cases x <;> first | cases h | skip
    exact ps_pass.imp fun Ds σ H ⟨Φ, ρ, s, r, w⟩ => w Φ ρ σ H (Same.refl _) (List.prefix_refl _) r
  | .brk => fun x W sc X C hf h b => by
    cases x <;> first | cases h | skip
    exact ps_break.imp fun Ds σ H ⟨Φ, ρ, s, r, w⟩ => w Φ ρ σ H (Same.refl _) (List.prefix_refl _) r
  | .cont => fun x W sc X C hf h b => by
    cases x <;> first | cases h | skip
    exact ps_continue.imp fun Ds σ H ⟨Φ, ρ, s, r, w⟩ => w Φ ρ σ H (Same.refl _) (List.prefix_refl _) r
theorem snd_Ss {sh : List Nat} : ∀ sts : List St, SndSs ft cf sh G N sts
  | [] => fun xs W sc X C hf h b => by
    match xs, h with
    | [], _ => exact pss_nil.imp fun Ds σ H ⟨Φ, ρ, s, r, w⟩ => w Φ ρ σ H (Same.refl _) (List.prefix_refl _) r
    | _ :: _, h => exact nomatch h
  | st :: sts => fun xs W sc X C hf h b => by
    match xs, h with
    | [], h => exact nomatch h
    | x :: xs, h =>
      obtain ⟨h1, h2⟩ := and2 (show (chS G N sc st x && chSs G N sc sts xs) = true from h)
      exact (pss_cons (snd_S st x W sc X C hf h1 b) (snd_Ss sts xs W sc X C hf h2 b)).imp fun Ds σ H q => rd_seq q
end
end
end Ly
set_option Elab.async false
set_option linter.all false
set_option maxRecDepth 100000
set_option maxHeartbeats 2000000
/-! Ly18: defs. -/
namespace Ly
open PySem PySem.Spec PyProof.Rows L2
/-- a def: its name, its evaluator's text, its slots' names, its parameters, its text -/
structure DefE where
  nm : Str
  qual : Str
  F : Fn
  N : List Str
  ps : List Str
  params : Arguments
  body : List Stmt
  scope : Scope
def scB (N ps : List Str) (sc : Scope) : Bool :=
  kindF sc && !sc.isCoroutine && !sc.isGenerator && decide N.Nodup && decide (N.take ps.length = ps) && (ps.all fun x => match sc.names.lookup x with | some .local => true | some .cell => true | _ => false) && (sc.names.all fun y => y.2 != .free)
theorem scope_of {N ps : List Str} {sc : Scope} (h : scB N ps sc = true) : FnScope N ps sc := by
  unfold scB at h
  obtain ⟨h, h6, h7⟩ := and3 h
  obtain ⟨h, h4, h5⟩ := and3 h
  obtain ⟨h1, h2, h3⟩ := and3 h
  refine ⟨?_, by simpa using h2, by simpa using h3, of_decide_eq_true h4, of_decide_eq_true h5, fun x hx => ?_, fun y hy => ?_⟩
  · unfold kindF at h1
    split at h1
    · assumption
    · cases h1
  · have q := List.all_eq_true.mp h6 x hx
    split at q
    · rename_i e; exact .inl e
    · rename_i e; exact .inr e
    · cases q
  · have q := List.all_eq_true.mp h7 y hy
    simpa using q
def DefE.ok (G : List (Str × D)) (e : DefE) : Bool := scB e.N e.ps e.scope && decide (e.ps.length = e.F.ps) && decide (e.N.length = e.F.ns) && decide (e.F.ps ≤ e.F.ns) && chSs G e.N e.scope e.F.body e.body
def ftOf (defs : List DefE) : Str → Option Fn := fun x => (defs.find? fun e => decide (e.nm = x)).map (·.F)
section
variable {K : KW} {b : Bs} {Φ H : Hp} {ρ : List Addr} {m : Mem}
theorem start_rel {F : Fn} {N : List Str} {ds : List D} {vs : List V} (M : MemOk K Φ ρ H m) (rs : Reps K Φ ρ ds vs) (hl : ds.length = F.ps) (hn : N.length = F.ns) (hp : F.ps ≤ F.ns) : Rel K ⟨H, Φ, ρ⟩ Φ ρ ⟨env0 F ds, m⟩ (L2.start N vs) H := by
  have hv := reps_len rs
  have at_ : ∀ {i : Nat} {d : D} {fr : Bool}, (env0 F ds)[i]? = some (some (d, fr)) → fr = false ∧ ds[i]? = some d := fun {i d fr} e => by
    unfold env0 at e
    by_cases hi : i < ds.length
    · rw [List.getElem?_append_left (by simpa using hi), List.getElem?_map] at e
      rw [List.getElem?_eq_getElem hi] at e ⊢
      cases e
      exact ⟨rfl, rfl⟩
    · rw [List.getElem?_append_right (by simp; omega), List.getElem?_replicate] at e
      split at e <;> cases e
  refine ⟨M, Same.refl _, List.prefix_refl _, ?_, fun i d fr e => ?_, fun i j d d' v e1 _ _ _ => ?_, fun a o e _ => e, fun a h1 h2 => absurd h1 h2, fun a o e => .inl e⟩
  · show (env0 F ds).length = (L2.start N vs).length
    unfold env0 L2.start
    simp only [List.length_append, List.length_map, List.length_replicate]
    omega
  · obtain ⟨rfl, e2⟩ := at_ e
    obtain ⟨v, hv2, r⟩ := reps_get rs e2
    refine ⟨v, ?_, r⟩
    unfold L2.start
    rw [List.getElem?_append_left (by simp; exact (List.getElem?_eq_some_iff.mp hv2).1), List.getElem?_map, hv2]
    rfl
  · cases (at_ e1).1
end
/-- what the defs' proofs rest on -/
structure World0 (K : KW) (mg : Str → Option Value) (G : List (Str × D)) (defs : List DefE) : Prop where
  fd : ∀ e ∈ defs, ∃ (f : Addr) (fd : FuncData), FunD K.f e.nm e.qual e.params e.body e.scope [] [] f fd ∧ mg e.nm = some (.ref f) ∧ Binds K.f fd e.ps []
  gl : ∀ x d, G.lookup x = some d → ∃ u v, mg x = some u ∧ RelV v u ∧ ∀ Φ ρ, Rep K Φ ρ d v
  bl : ∀ x ∈ bnames, mg x = none
theorem ft_mem {defs : List DefE} {x : Str} {F : Fn} (h : ftOf defs x = some F) : ∃ e ∈ defs, e.nm = x ∧ e.F = F := by
  obtain ⟨e, h1, h2⟩ := omap h
  exact ⟨e, List.mem_of_find?_eq_some h1, by simpa using List.find?_some h1, h2⟩
def cfD (defs : List DefE) (n : Nat) (x : Str) (F : Fn) : List D → Mem → CR := fun ds m => if ds.length = F.ps then cfN (ftOf defs) n x ds m else .no
theorem spF_no {K : KW} {vs : List V} {H : Hp} {Q : VK} {E : XK} (h : spF K (fun _ _ => .no) vs H Q E) : False := by
  obtain ⟨_, _, _, _, _, _, h⟩ := h
  exact h
theorem defs_ok {P : Program} {w : World} {K : PySem.W.Frag} {mg : Str → Option Value} {base : Heap} {G : List (Str × D)} {defs : List DefE} (W0 : World0 ⟨K, w⟩ mg G defs) (ok : defs.all (DefE.ok G) = true) :
    ∀ (n : Nat) (e : DefE), e ∈ defs → ∀ F, ftOf defs e.nm = some F → e.F = F → ∀ (f : Addr) (fd : FuncData), FunD K e.nm e.qual e.params e.body e.scope [] [] f fd → FnOk P w K mg base (L2.CX P w) (n + 1) f fd e.ps (spF ⟨K, w⟩ (cfD defs n e.nm F))
  | 0, e, he, F, hF, hFF, f, fd, FD => by
    have no : ∀ vs H Q E, spF ⟨K, w⟩ (cfD defs 0 e.nm F) vs H Q E → False := fun vs H Q E h => by
      obtain ⟨_, _, m, ds, _, _, h⟩ := h
      have h2 : cfD defs 0 e.nm F ds m = .no := by
        unfold cfD
        split <;> rfl
      rw [h2] at h
      exact h
    exact ⟨fun vs H Q E h => (no vs H Q E h).elim, fun A outer s H args us vs Q E _ _ _ _ h => (no vs H Q E h).elim⟩
  | n + 1, e, he, F, hF, hFF, f, fd, FD => by
    have hok := List.all_eq_true.mp ok e he
    unfold DefE.ok at hok
    obtain ⟨h, h4, h5⟩ := and3 hok
    obtain ⟨h1, h2, h3⟩ := and3 h
    have h2 := of_decide_eq_true h2
    have h3 := of_decide_eq_true h3
    have h4 := of_decide_eq_true h4
    have S := scope_of h1
    have sl : ∀ vs H Q E, spF ⟨K, w⟩ (cfD defs (n + 1) e.nm F) vs H Q E → vs.length = e.ps.length := fun vs H Q E ⟨_, _, m, ds, _, rs, h⟩ => by
      rw [reps_len rs, h2, hFF]
      by_cases hl : ds.length = F.ps
      · exact hl
      · have h2 : cfD defs (n + 1) e.nm F ds m = .no := by
          unfold cfD
          rw [if_neg hl]
        rw [h2] at h
        exact h.elim
    refine FD.ok S sl fun cdv A outer s H vs Q E hr h => ?_
    let X : Cx := cxOf (L2.CX P w) P w K mg base e.N e.qual e.scope f cdv A outer s H E
    let W : WX := fun cls d _ H => E cls d H
    have C : SCtx (ftOf defs) (cfN (ftOf defs) n) G e.N W e.scope X := by
      refine ⟨⟨rfl, S.nd, rfl, rfl, by have := hr.un; show (A.deeper (envOfC e.qual e.scope s.heap.objs.size f cdv)).units + 210 < cLine; omega, takes_of rfl rfl rfl rfl, fun g F' hg => ?_, W0.gl, W0.bl, fun x hx => .inl rfl⟩, passes_of rfl⟩
      obtain ⟨e', he', hn', hF'⟩ := ft_mem hg
      obtain ⟨f', fd', FD', hm', bd'⟩ := W0.fd e' he'
      have hok' := List.all_eq_true.mp ok e' he'
      unfold DefE.ok at hok'
      obtain ⟨hk, _, _⟩ := and3 hok'
      obtain ⟨_, hk2, _⟩ := and3 hk
      subst hn'
      have IH := defs_ok (P := P) (base := base) W0 ok n e' he' F' hg hF' f' fd' FD'
      exact ⟨e'.ps.length, ⟨⟨f', fd', e'.ps, n + 1, hr, IH, hm', FD'.kp, bd'⟩⟩, by rw [of_decide_eq_true hk2, hF']⟩
    obtain ⟨Φ, ρ, m, ds, M, rs, hw⟩ := h
    refine ⟨_, snd_Ss (sh := e.F.sh) e.F.body e.body W e.scope X C rfl h5 ⟨H, Φ, ρ⟩, Φ, ρ, ⟨env0 e.F ds, m⟩, ?_, ?_⟩
    · have hl : ds.length = e.F.ps := by
        rw [hFF]
        by_cases hl : ds.length = F.ps
        · exact hl
        · have h2 : cfD defs (n + 1) e.nm F ds m = .no := by
            unfold cfD
            rw [if_neg hl]
          rw [h2] at hw
          exact hw.elim
      exact start_rel M rs hl h3 h4
    · have hl : ds.length = F.ps := by
        by_cases hl : ds.length = F.ps
        · exact hl
        · have h2 : cfD defs (n + 1) e.nm F ds m = .no := by
            unfold cfD
            rw [if_neg hl]
          rw [h2] at hw
          exact hw.elim
      have e1 : cfD defs (n + 1) e.nm F ds m = runF (ftOf defs) (cfN (ftOf defs) n) e.F ds m := by
        unfold cfD
        rw [if_pos hl]
        show (match ftOf defs e.nm with | some F => if ds.length = F.ps then runF (ftOf defs) (cfN (ftOf defs) n) F ds m else .no | none => .no) = _
        rw [hF]
        show (if ds.length = F.ps then runF (ftOf defs) (cfN (ftOf defs) n) F ds m else .no) = _
        rw [if_pos hl, hFF]
      rw [e1] at hw
      unfold runF at hw
      cases hv : evSs (ftOf defs) (cfN (ftOf defs) n) e.F.sh e.F.body ⟨env0 e.F ds, m⟩ with
      | no => rw [hv] at hw; exact hw.elim
      | exc c fs s' =>
        rw [hv] at hw
        intro σ Φ' ρ' H' C' d' g1 g2 r x
        exact hw Φ' ρ' H' C' d' g1 g2 r.mem r.keep r.new r.newF x
      | ok fl s' =>
        rw [hv] at hw
        cases fl with
        | nx => exact fun Φ' ρ' σ' H' g1 g2 r => hw Φ' ρ' H' .non g1 g2 r.mem r.keep r.new r.newF rfl
        | br => exact hw.elim
        | ct => exact hw.elim
        | rt d fr => exact fun Φ' ρ' σ' H' v g1 g2 r q => hw Φ' ρ' H' v g1 g2 r.mem r.keep r.new r.newF q
end Ly
set_option Elab.async false
set_option linter.all false
set_option maxRecDepth 100000
set_option maxHeartbeats 2000000
/-! Ly19: from the evaluator's word to the law. -/
namespace Ly
open PySem PySem.Spec PyProof.Rows L2
def DefE.Bnd (e : DefE) : Prop := ∀ (kV doc pm : Value) (an : Option Addr) (cdv ct : Value) (us : List Value), us.length = e.ps.length → bindArgs (PySem.W.fnOf e.nm e.qual e.params e.body e.scope .none kV doc pm an cdv ct) ⟨us, []⟩ = pure (e.ps.zip us)
def BindsAll : List DefE → Prop
  | [] => True
  | e :: r => e.Bnd ∧ BindsAll r
theorem BindsAll.at_ : ∀ {l : List DefE}, BindsAll l → ∀ e ∈ l, e.Bnd
  | e :: r, h, x, hx => by
    rcases List.mem_cons.mp hx with z | z
    · rw [z]; exact h.1
    · exact BindsAll.at_ h.2 x z
def DefE.d (e : DefE) : He.DefD := ⟨(e.nm, none), e.nm, e.qual, e.params, e.body, e.scope, [], []⟩
def fnL (defs : List DefE) : List He.DefD := defs.map DefE.d
/-- a global's value, as the head's facts tell it -/
def gFa : Str × D → List He.Fa
  | (x, .int i) => [.int x i]
  | (x, .str z) => [.str x z]
  | _ => []
def gOk : Str × D → Bool
  | (_, .int _) => true
  | (_, .str _) => true
  | _ => false
def faL (defs : List DefE) (G : List (Str × D)) : List He.Fa := defs.map (fun e => He.Fa.glo e.nm) ++ (bnames.map He.Fa.free ++ (G.map gFa).flatten)
section
variable {defs : List DefE} {G : List (Str × D)} {K : PySem.W.Frag} {h : Heap} {mg : Str → Option Value} {w : World}
theorem fact_of (c : He.SaysD (faL defs G) (fnL defs) K) {f : He.Fa} (hf : f ∈ faL defs G) : f.ok K = true := by
  obtain ⟨i, hi, e⟩ := List.getElem_of_mem hf
  exact c.fact i (by rw [List.getElem?_eq_getElem hi, e])
theorem lookup_mem {x : Str} {d : D} : ∀ {l : List (Str × D)}, l.lookup x = some d → (x, d) ∈ l
  | (y, e) :: r, hl => by
    rw [List.lookup_cons] at hl
    cases hb : x == y with
    | true =>
      rw [hb] at hl
      have e1 : x = y := by simpa using hb
      cases hl
      rw [e1]
      exact List.mem_cons_self
    | false =>
      rw [hb] at hl
      exact List.mem_cons_of_mem _ (lookup_mem hl)
theorem world0 (X : K.In h) (Gn : h.Ns mainGlobals mg) (c : He.SaysD (faL defs G) (fnL defs) K) (hb : BindsAll defs) (hG : G.all gOk = true) : World0 ⟨K, w⟩ mg G defs := by
  refine ⟨fun e he => ?_, fun x d hl => ?_, fun x hx => ?_⟩
  · obtain ⟨i, hi, ee⟩ := List.getElem_of_mem he
    obtain ⟨fd, F⟩ := c.def_ i (d := e.d) (by rw [fnL, List.getElem?_map, List.getElem?_eq_getElem hi, ee]; rfl)
    have F2 : FunD K e.nm e.qual e.params e.body e.scope [] [] (He.fAd K (e.nm, none)) fd := F
    exact ⟨_, fd, F2, He.glo_ok X Gn (fact_of c (f := .glo e.nm) (List.mem_append_left _ (List.mem_map.mpr ⟨e, he, rfl⟩))), F2.bindsN (hb.at_ e he)⟩
  · have hm := lookup_mem hl
    have ok := List.all_eq_true.mp hG _ hm
    have inF : ∀ f ∈ gFa (x, d), f ∈ faL defs G := fun f hf => List.mem_append_right _ (List.mem_append_right _ (List.mem_flatten.mpr ⟨gFa (x, d), List.mem_map.mpr ⟨_, hm, rfl⟩, hf⟩))
    cases d <;> first | cases ok | skip
    · rename_i i
      obtain ⟨t, e⟩ := He.int_ok X Gn (fact_of c (f := .int x i) (inF _ List.mem_cons_self))
      exact ⟨_, .int i, e, ⟨t, rfl⟩, fun _ _ => rfl⟩
    · rename_i z
      obtain ⟨t, e⟩ := He.str_ok X Gn (fact_of c (f := .str x z) (inF _ List.mem_cons_self))
      exact ⟨_, .str z, e, ⟨t, rfl⟩, fun _ _ => rfl⟩
  · exact He.free_ok X Gn (fact_of c (f := .free x) (List.mem_append_right _ (List.mem_append_left _ (List.mem_map.mpr ⟨x, hx, rfl⟩))))
/-- the law's def keeps its promise -/
theorem law_facts {P : Program} {law : DefE} {x : Str} {F : Fn} (X : K.In h) (Gn : h.Ns mainGlobals mg) (c : He.SaysD (faL defs G) (fnL defs) K) (hb : BindsAll defs) (hG : G.all gOk = true) (ok : defs.all (DefE.ok G) = true)
    (hl : law ∈ defs) (hx : law.ps = [x]) (hF : ftOf defs law.nm = some F) (hFF : law.F = F) (hF1 : F.ps = 1) (n : Nat) {f : Addr} (hfa : mg law.nm = some (.ref f)) :
    ∃ (fd : FuncData) (sp : Sp), (∀ (s : Shared) (v : Value), BindsTo s fd ⟨[v], []⟩ [(x, v)]) ∧
      (∀ (H : Hp) (a : Addr) (ns : List Int), SqL K H a (ns.map V.int) → (∃ m, cfN (ftOf defs) n law.nm [.scr ns] [] = .ok (.bl true) false m) → sp [.ref a] H (fun v _ => v = .bl true) fun _ _ _ => False) ∧
      ∀ base : Heap, FnOk P w K mg base (L2.CX P w) (n + 1) f fd [x] sp := by
  have W0 := world0 (w := w) X Gn c hb hG
  obtain ⟨i, hi, ee⟩ := List.getElem_of_mem hl
  obtain ⟨fd, FD⟩ := c.def_ i (d := law.d) (by rw [fnL, List.getElem?_map, List.getElem?_eq_getElem hi, ee]; rfl)
  have F2 : FunD K law.nm law.qual law.params law.body law.scope [] [] (He.fAd K (law.nm, none)) fd := FD
  have eg := He.glo_ok X Gn (fact_of c (f := .glo law.nm) (List.mem_append_left _ (List.mem_map.mpr ⟨law, hl, rfl⟩)))
  have ea : f = He.fAd K (law.nm, none) := by
    rw [hfa] at eg
    cases eg
    rfl
  subst ea
  refine ⟨fd, spF ⟨K, w⟩ (cfD defs n law.nm F), fun s v => ?_, fun H a ns hS hv => ?_, fun base => ?_⟩
  · have q := FunD.bindsA (ps := law.ps) F2 (hb.at_ law hl) s [v] (by rw [hx] <;> rfl)
    rw [hx] at q
    exact q
  · obtain ⟨m, hv⟩ := hv
    refine ⟨H, [], [], [.scr ns], ⟨rfl, List.nodup_nil, fun a h => (nomatch h), Same.refl _, fun n o a h => (nomatch h)⟩, ⟨.ref a, [], rfl, ⟨a, rfl, hS⟩, rfl⟩, ?_⟩
    have e : cfD defs n law.nm F [.scr ns] [] = .ok (.bl true) false m := by
      unfold cfD
      rw [if_pos (by rw [hF1] <;> rfl)]
      exact hv
    rw [e]
    exact fun Φ' ρ' H' v _ _ _ _ _ _ q => q
  · have q := defs_ok (P := P) (base := base) W0 ok n law hl F hF hFF _ fd F2
    rw [hx] at q
    exact q
end

/-- nothing gets out of the law -/
theorem cx_no {P : Program} {w : World} {H : Hp} {s : Shared} {e : Value} {s' : Shared} (h : L2.CX P w [] H s (fun _ _ _ => False) e s') : False := by
  obtain ⟨_, _, _, _, _, _, _, _, _, _, _, _, z⟩ := h
  exact z
/-- the law, from the head's facts and the evaluator's word -/
theorem walk_ly {l : PySem.W.OpenLaw} {q : Program} {loose : List Str} {d : DefRec} {XP : (Str → Option Value) → Heap → Prop} {x : Str} {defs : List DefE} {G : List (Str × D)} {law : DefE} {F : Fn} (i n : Nat)
    (hn : l.most = some 63) (hdf : d.params.defaults = []) (hr : Room (n + 1) callerA) (hd : d.name = law.nm) (hb : BindsAll defs) (hG : G.all gOk = true) (ok : defs.all (DefE.ok G) = true)
    (hl : defs[i]? = some law) (hx : law.ps = [x]) (hF : ftOf defs law.nm = some F) (hFF : law.F = F) (hF1 : F.ps = 1)
    (hv : ∀ ns : List Int, ns.length ≤ 63 → ∃ m, cfN (ftOf defs) n law.nm [.scr ns] [] = .ok (.bl true) false m) :
    PySem.W.WalkO q loose XP (fun (_ : World) h => ∃ K : PySem.W.Frag, K.In h ∧ He.SaysD (faL defs G) (fnL defs) K) l.row.toRowW d [] (fun f vs => PySem.call f vs) := by
  refine Att.attach_call hn hdf fun w s0 s1 mg mb fa o pm cd doc a vs ns Gn Y ho hdd hcd hmg hobj hints hlen hg => ?_
  obtain ⟨K, KX, c⟩ := Y
  rw [hd] at hmg
  obtain ⟨fd, sp, h1, h2, h3⟩ := law_facts (P := l.prog) (w := w) KX Gn.T.g c hb hG ok (List.mem_of_getElem? hl) hx hF hFF hF1 n hmg
  refine law_call KX Gn.T.g Gn.T.b Gn.T.builtins Gn.T.nolimit hg hobj hints (Nat.le_trans hlen (by decide)) hr (fun base _ _ => h3 base) h1 (fun H hO hS => h2 H a ns hS (hv ns hlen)) fun H e s' z => cx_no z
end Ly
set_option Elab.async false
set_option linter.all false
set_option maxRecDepth 100000
set_option maxHeartbeats 2000000
/-! Ly19t: tables of the module's top with text keys and whole numbers. -/
namespace Ly
open PySem PySem.Spec PyProof.Rows L2
/-- an entry: its key, its hash, its number -/
def entI (e : DictEntry) : Option (Str × Int × Int) := match e.key, e.val with
  | .str x _, .int i _ => some (x, e.hash, i)
  | _, _ => none
def entsI (P : Params) (kvs : List (Str × Int)) : List (Option (Str × Int × Int)) := kvs.map fun p => some (p.1, PyData.keyHash P p.1, p.2)
def dicI (K : PySem.W.Frag) (a : Addr) : Option (List (Option (Str × Int × Int))) := match K.lookup a with
  | some ⟨.type c, none, .dict es _, sl⟩ => (match decide (c = "dict") && (sl.isEmpty && !(a == sysModules)) with
    | true => some (es.toList.map entI)
    | false => none)
  | _ => none

theorem entsI_ok {P : Params} : ∀ {l : List DictEntry} {kvs : List (Str × Int)}, l.map entI = entsI P kvs →
    PySem.W.KeysLit P l ∧ Paired (fun (e : DictEntry) (p : Str × V) => (∃ t, e.key = .str p.1 t) ∧ RelV p.2 e.val) l ((kvs.map (·.1)).zip (kvs.map fun p => V.int p.2))
  | [], [], _ => ⟨trivial, .nil⟩
  | [], _ :: _, h => by cases h
  | _ :: _, [], h => by cases h
  | e :: r, (k, i) :: kvs, h => by
    have h1 : entI e :: r.map entI = some (k, PyData.keyHash P k, i) :: entsI P kvs := h
    injection h1 with h2 h3
    obtain ⟨g1, g2⟩ := entsI_ok h3
    unfold entI at h2
    split at h2
    · rename_i x t j u q1 q2
      have h4 := Option.some.inj h2
      obtain ⟨h5, h6⟩ := Prod.mk.inj h4
      obtain ⟨h7, h8⟩ := Prod.mk.inj h6
      subst h5 h8
      exact ⟨⟨⟨x, t, q1, h7⟩, g1⟩, .cons ⟨⟨t, q1⟩, u, q2⟩ g2⟩
    · cases h2

theorem dicI_ok {K : PySem.W.Frag} {w : World} {a : Addr} {kvs : List (Str × Int)} (h : dicI K a = some (entsI w.params kvs)) : ∃ es n, KDict K w a es n ∧
    Paired (fun (e : DictEntry) (p : Str × V) => (∃ t, e.key = .str p.1 t) ∧ RelV p.2 e.val) es.toList ((kvs.map (·.1)).zip (kvs.map fun p => V.int p.2)) := by
  unfold dicI at h
  split at h
  · rename_i c es n sl q
    cases z : decide (c = "dict") && (sl.isEmpty && !(a == sysModules)) with
    | false => rw [z] at h; cases h
    | true =>
      rw [z] at h
      have h : some (es.toList.map entI) = some (entsI w.params kvs) := h
      obtain ⟨z1, z2⟩ := Bool.and_eq_true_iff.mp z
      obtain ⟨z3, z4⟩ := Bool.and_eq_true_iff.mp z2
      have e1 : c = "dict" := of_decide_eq_true z1
      have e2 : sl = #[] := Array.isEmpty_iff.mp z3
      obtain ⟨g1, g2⟩ := entsI_ok (Option.some.inj h)
      subst e1 e2
      exact ⟨es, n, ⟨q, g1, by simpa using z4⟩, g2⟩
  · cases h
abbrev TabI : Type := Str × List (Str × Int)
abbrev AlI : Type := He.AlD × List (Option (List (Option (Str × Int × Int))))
def obsI (fa : List He.Fa) (fn : List He.DefD) (ts : List TabI) (K : PySem.W.Frag) : AlI := (He.obsD fa fn K, ts.map fun t => dicI K (He.ga K t.1))
def valI (fn : List He.DefD) (ts : List TabI) (w : World) : AlI := (He.valD fn, ts.map fun t => some (entsI w.params t.2))
def obsIG (n : Nat) (fa : List He.Fa) (fn : List He.DefD) (ts : List TabI) (g : Addr → Option Obj) : AlI := obsI fa fn ts (He.frG g (He.asD g n))
def SaysI (fa : List He.Fa) (fn : List He.DefD) (ts : List TabI) (w : World) (K : PySem.W.Frag) : Prop := obsI fa fn ts K = valI fn ts w
def hookI (n : Nat) (fa : List He.Fa) (fn : List He.DefD) (ts : List TabI) : PySem.W.Hook where
  α := AlI
  obs := fun s => obsIG n fa fn ts s.heap.get?
  val := fun w => valI fn ts w
  says := fun w h => ∃ K : PySem.W.Frag, K.In h ∧ SaysI fa fn ts w K
  of := fun _ _ e => ⟨_, He.frG_in, e⟩
  keeps := fun _ _ _ ⟨K, hK, c⟩ k => ⟨K, PySem.W.Frag.In.keeps hK k, c⟩
theorem obsIG_eq {n : Nat} {fa : List He.Fa} {fn : List He.DefD} {ts : List TabI} {g : Addr → Option Obj} {s : Shared} (h : ∀ a, g a = s.heap.get? a) : obsIG n fa fn ts g = (hookI n fa fn ts).obs s := by
  have e : g = s.heap.get? := funext h
  rw [e] <;> rfl

def tabD (t : TabI) : D := .dct (t.2.map fun p => .str p.1) (t.2.map fun p => .int p.2)
def GT (G : List (Str × D)) (ts : List TabI) : List (Str × D) := G ++ ts.map fun t => (t.1, tabD t)
def faT (defs : List DefE) (G : List (Str × D)) (ts : List TabI) : List He.Fa := faL defs G ++ ts.map fun t => He.Fa.glo t.1
def tabOk (t : TabI) : Bool := !t.2.isEmpty
section
variable {defs : List DefE} {G : List (Str × D)} {ts : List TabI} {K : PySem.W.Frag} {h : Heap} {mg : Str → Option Value} {w : World}
theorem says_d {fa : List He.Fa} {fn : List He.DefD} (c : SaysI fa fn ts w K) : He.SaysD fa fn K := congrArg (fun z : AlI => z.1) c
theorem says_t {fa : List He.Fa} {fn : List He.DefD} (c : SaysI fa fn ts w K) {t : TabI} (ht : t ∈ ts) : dicI K (He.ga K t.1) = some (entsI w.params t.2) := by
  have e : ts.map (fun t => dicI K (He.ga K t.1)) = ts.map fun t => some (entsI w.params t.2) := congrArg (fun z : AlI => z.2) c
  obtain ⟨i, hi, rfl⟩ := List.getElem_of_mem ht
  have e2 : (ts.map (fun t => dicI K (He.ga K t.1)))[i]? = (ts.map fun t => some (entsI w.params t.2))[i]? := by rw [e]
  rw [List.getElem?_map, List.getElem?_map, List.getElem?_eq_getElem hi] at e2
  exact Option.some.inj e2
theorem reps_tab {K : KW} {Φ : Hp} {ρ : List Addr} : ∀ l : List (Str × Int), Reps K Φ ρ (l.map fun p => D.int p.2) (l.map fun p => V.int p.2)
  | [] => rfl
  | p :: l => ⟨_, _, rfl, rfl, reps_tab l⟩
theorem fact_t {fa : List He.Fa} (c : He.SaysD fa (fnL defs) K) {f : He.Fa} (hf : f ∈ fa) : f.ok K = true := by
  obtain ⟨i, hi, e⟩ := List.getElem_of_mem hf
  exact c.fact i (by rw [List.getElem?_eq_getElem hi, e])
theorem lookup_app {x : Str} {d : D} {a b : List (Str × D)} (hl : (a ++ b).lookup x = some d) : a.lookup x = some d ∨ (x, d) ∈ b := by
  induction a with
  | nil => exact .inr (lookup_mem hl)
  | cons p a ih =>
    obtain ⟨y, e⟩ := p
    rw [List.cons_append, List.lookup_cons] at hl
    rw [List.lookup_cons]
    cases hb : x == y with
    | true => rw [hb] at hl; exact .inl hl
    | false => rw [hb] at hl; exact ih hl
end

theorem world0T {defs : List DefE} {G : List (Str × D)} {ts : List TabI} {K : PySem.W.Frag} {h : Heap} {mg : Str → Option Value} {w : World} (X : K.In h) (Gn : h.Ns mainGlobals mg) (c : SaysI (faT defs G ts) (fnL defs) ts w K) (hb : BindsAll defs) (hG : G.all gOk = true) (hT : ts.all tabOk = true) :
    World0 ⟨K, w⟩ mg (GT G ts) defs := by
  have cd := says_d c
  have fd : ∀ f ∈ faL defs G, f.ok K = true := fun f hf => fact_t cd (List.mem_append_left _ hf)
  refine ⟨fun e he => ?_, fun x d hl0 => ?_, fun x hx => ?_⟩
  · obtain ⟨i, hi, ee⟩ := List.getElem_of_mem he
    obtain ⟨fdd, F⟩ := cd.def_ i (d := e.d) (by rw [fnL, List.getElem?_map, List.getElem?_eq_getElem hi, ee]; rfl)
    have F2 : FunD K e.nm e.qual e.params e.body e.scope [] [] (He.fAd K (e.nm, none)) fdd := F
    exact ⟨_, fdd, F2, He.glo_ok X Gn (fd (.glo e.nm) (List.mem_append_left _ (List.mem_map.mpr ⟨e, he, rfl⟩))), F2.bindsN (hb.at_ e he)⟩
  · rcases lookup_app hl0 with hl | hm
    · have hm := lookup_mem hl
      have ok := List.all_eq_true.mp hG _ hm
      have inF : ∀ f ∈ gFa (x, d), f ∈ faL defs G := fun f hf => List.mem_append_right _ (List.mem_append_right _ (List.mem_flatten.mpr ⟨gFa (x, d), List.mem_map.mpr ⟨_, hm, rfl⟩, hf⟩))
      cases d <;> first | cases ok | skip
      · rename_i i
        obtain ⟨t, e⟩ := He.int_ok X Gn (fd (.int x i) (inF _ List.mem_cons_self))
        exact ⟨_, .int i, e, ⟨t, rfl⟩, fun _ _ => rfl⟩
      · rename_i z
        obtain ⟨t, e⟩ := He.str_ok X Gn (fd (.str x z) (inF _ List.mem_cons_self))
        exact ⟨_, .str z, e, ⟨t, rfl⟩, fun _ _ => rfl⟩
    · obtain ⟨t, ht, e⟩ := List.mem_map.mp hm
      cases e
      have hg := He.glo_ok X Gn (fact_t cd (f := .glo t.1) (List.mem_append_right _ (List.mem_map.mpr ⟨t, ht, rfl⟩)))
      obtain ⟨es, n, kd, pr⟩ := dicI_ok (says_t c ht)
      have ne : t.2.map (·.1) ≠ [] := by
        have := List.all_eq_true.mp hT t ht
        intro z
        have z2 : t.2 = [] := List.map_eq_nil_iff.mp z
        unfold tabOk at this
        rw [z2] at this
        cases this
      exact ⟨_, .ref (He.ga K t.1), hg, rfl, fun Φ ρ => ⟨_, _, rfl, .inl ⟨es, n, t.2.map (·.1), kd, ne, by rw [List.map_map]; rfl, by simp, pr⟩, reps_tab t.2⟩⟩
  · exact He.free_ok X Gn (fd (.free x) (List.mem_append_right _ (List.mem_append_left _ (List.mem_map.mpr ⟨x, hx, rfl⟩))))

theorem law_factsT {defs : List DefE} {G : List (Str × D)} {ts : List TabI} {K : PySem.W.Frag} {h : Heap} {mg : Str → Option Value} {w : World} {P : Program} {law : DefE} {x : Str} {F : Fn} (X : K.In h) (Gn : h.Ns mainGlobals mg) (c : SaysI (faT defs G ts) (fnL defs) ts w K) (hb : BindsAll defs) (hG : G.all gOk = true) (hT : ts.all tabOk = true) (ok : defs.all (DefE.ok (GT G ts)) = true)
    (hl : law ∈ defs) (hx : law.ps = [x]) (hF : ftOf defs law.nm = some F) (hFF : law.F = F) (hF1 : F.ps = 1) (n : Nat) {f : Addr} (hfa : mg law.nm = some (.ref f)) :
    ∃ (fd : FuncData) (sp : Sp), (∀ (s : Shared) (v : Value), BindsTo s fd ⟨[v], []⟩ [(x, v)]) ∧
      (∀ (H : Hp) (a : Addr) (ns : List Int), SqL K H a (ns.map V.int) → (∃ m, cfN (ftOf defs) n law.nm [.scr ns] [] = .ok (.bl true) false m) → sp [.ref a] H (fun v _ => v = .bl true) fun _ _ _ => False) ∧
      ∀ base : Heap, FnOk P w K mg base (L2.CX P w) (n + 1) f fd [x] sp := by
  have W0 := world0T X Gn c hb hG hT
  have cd := says_d c
  obtain ⟨i, hi, ee⟩ := List.getElem_of_mem hl
  obtain ⟨fd, FD⟩ := cd.def_ i (d := law.d) (by rw [fnL, List.getElem?_map, List.getElem?_eq_getElem hi, ee]; rfl)
  have F2 : FunD K law.nm law.qual law.params law.body law.scope [] [] (He.fAd K (law.nm, none)) fd := FD
  have eg := He.glo_ok X Gn (fact_t cd (f := .glo law.nm) (List.mem_append_left _ (List.mem_append_left _ (List.mem_map.mpr ⟨law, hl, rfl⟩))))
  have ea : f = He.fAd K (law.nm, none) := by
    rw [hfa] at eg
    cases eg
    rfl
  subst ea
  refine ⟨fd, spF ⟨K, w⟩ (cfD defs n law.nm F), fun s v => ?_, fun H a ns hS hv => ?_, fun base => ?_⟩
  · have q := FunD.bindsA (ps := law.ps) F2 (hb.at_ law hl) s [v] (by rw [hx] <;> rfl)
    rw [hx] at q
    exact q
  · obtain ⟨m, hv⟩ := hv
    refine ⟨H, [], [], [.scr ns], ⟨rfl, List.nodup_nil, fun a h => (nomatch h), Same.refl _, fun n o a h => (nomatch h)⟩, ⟨.ref a, [], rfl, ⟨a, rfl, hS⟩, rfl⟩, ?_⟩
    have e : cfD defs n law.nm F [.scr ns] [] = .ok (.bl true) false m := by
      unfold cfD
      rw [if_pos (by rw [hF1] <;> rfl)]
      exact hv
    rw [e]
    exact fun Φ' ρ' H' v _ _ _ _ _ _ q => q
  · have q := defs_ok (P := P) (base := base) W0 ok n law hl F hF hFF _ fd F2
    rw [hx] at q
    exact q
theorem walk_lyT {l : PySem.W.OpenLaw} {q : Program} {loose : List Str} {d : DefRec} {XP : (Str → Option Value) → Heap → Prop} {x : Str} {defs : List DefE} {G : List (Str × D)} {ts : List TabI} {law : DefE} {F : Fn} (i n : Nat)
    (hn : l.most = some 63) (hdf : d.params.defaults = []) (hr : Room (n + 1) callerA) (hd : d.name = law.nm) (hb : BindsAll defs) (hG : G.all gOk = true) (hT : ts.all tabOk = true) (ok : defs.all (DefE.ok (GT G ts)) = true)
    (hl : defs[i]? = some law) (hx : law.ps = [x]) (hF : ftOf defs law.nm = some F) (hFF : law.F = F) (hF1 : F.ps = 1)
    (hv : ∀ ns : List Int, ns.length ≤ 63 → ∃ m, cfN (ftOf defs) n law.nm [.scr ns] [] = .ok (.bl true) false m) :
    PySem.W.WalkO q loose XP (fun (w : World) h => ∃ K : PySem.W.Frag, K.In h ∧ SaysI (faT defs G ts) (fnL defs) ts w K) l.row.toRowW d [] (fun f vs => PySem.call f vs) := by
  refine Att.attach_call hn hdf fun w s0 s1 mg mb fa o pm cd doc a vs ns Gn Y ho hdd hcd hmg hobj hints hlen hg => ?_
  obtain ⟨K, KX, c⟩ := Y
  rw [hd] at hmg
  obtain ⟨fd, sp, h1, h2, h3⟩ := law_factsT (P := l.prog) (w := w) KX Gn.T.g c hb hG hT ok (List.mem_of_getElem? hl) hx hF hFF hF1 n hmg
  exact law_call KX Gn.T.g Gn.T.b Gn.T.builtins Gn.T.nolimit hg hobj hints (Nat.le_trans hlen (by decide)) hr (fun base _ _ => h3 base) h1 (fun H hO hS => h2 H a ns hS (hv ns hlen)) fun H e s' z => cx_no z
end Ly
set_option Elab.async false
set_option linter.all false
set_option maxRecDepth 100000
set_option maxHeartbeats 2000000
/-! Ly19u: the module's top with tuples told, and more facts. -/
namespace Ly
open PySem PySem.Spec PyProof.Rows L2
mutual
/-- the value lies in the written part: tuples, too -/
def vIn (K : PySem.W.Frag) : Nat → D → Value → Bool
  | _, .non, .none => true
  | _, .bl b, .bool c => b == c
  | _, .int i, .int j _ => decide (i = j)
  | _, .str x, .str y _ => decide (x = y)
  | n + 1, .tup ds, .ref a => (match K.lookup a with
    | some ⟨.type c, _, .seq its _, _⟩ => decide (c = "tuple") && (decide (its.size ≤ 1000) && (vsIn K n ds its.toList && !D.trk ds))
    | _ => false)
  | _, _, _ => false
def vsIn (K : PySem.W.Frag) : Nat → List D → List Value → Bool
  | _, [], [] => true
  | n, d :: ds, u :: us => vIn K n d u && vsIn K n ds us
  | _, _, _ => false
end
theorem vIn_ok {K : PySem.W.Frag} {w : World} : ∀ (n : Nat),
    (∀ (d : D) (u : Value), vIn K n d u = true → ∃ v, RelV v u ∧ ∀ Φ ρ, Rep ⟨K, w⟩ Φ ρ d v) ∧
    (∀ (ds : List D) (us : List Value), vsIn K n ds us = true → ∃ vs, Vals vs us ∧ ∀ Φ ρ, Reps ⟨K, w⟩ Φ ρ ds vs) := by
  have lists : ∀ n, (∀ (d : D) (u : Value), vIn K n d u = true → ∃ v, RelV v u ∧ ∀ Φ ρ, Rep ⟨K, w⟩ Φ ρ d v) →
      ∀ (ds : List D) (us : List Value), vsIn K n ds us = true → ∃ vs, Vals vs us ∧ ∀ Φ ρ, Reps ⟨K, w⟩ Φ ρ ds vs := by
    intro n ih ds
    induction ds with
    | nil =>
      intro us h
      cases us with
      | nil => exact ⟨[], .nil, fun _ _ => rfl⟩
      | cons u us => unfold vsIn at h; cases h
    | cons d ds ihd =>
      intro us h
      cases us with
      | nil => unfold vsIn at h; cases h
      | cons u us =>
        unfold vsIn at h
        obtain ⟨h1, h2⟩ := Bool.and_eq_true_iff.mp h
        obtain ⟨v, r1, p1⟩ := ih d u h1
        obtain ⟨vs, r2, p2⟩ := ihd us h2
        exact ⟨v :: vs, .cons r1 r2, fun Φ ρ => ⟨v, vs, rfl, p1 Φ ρ, p2 Φ ρ⟩⟩
  have flat : ∀ n (d : D) (u : Value), (∀ ds, d ≠ .tup ds) → vIn K n d u = true → ∃ v, RelV v u ∧ ∀ Φ ρ, Rep ⟨K, w⟩ Φ ρ d v := by
    intro n d u hd h
    unfold vIn at h
    split at h
    · exact ⟨.non, rfl, fun _ _ => rfl⟩
    · rename_i b c
      exact ⟨.bl b, congrArg Value.bool (eq_of_beq h).symm, fun _ _ => rfl⟩
    · rename_i i j t
      exact ⟨.int i, ⟨t, by rw [of_decide_eq_true h]⟩, fun _ _ => rfl⟩
    · rename_i x y t
      exact ⟨.str x, ⟨t, by rw [of_decide_eq_true h]⟩, fun _ _ => rfl⟩
    · exact absurd rfl (hd _)
    · cases h
  intro n
  induction n with
  | zero =>
    have q : ∀ (d : D) (u : Value), vIn K 0 d u = true → ∃ v, RelV v u ∧ ∀ Φ ρ, Rep ⟨K, w⟩ Φ ρ d v := fun d u h => by
      cases d with
      | tup ds => unfold vIn at h; cases u <;> cases h
      | _ => exact flat 0 _ u (fun _ z => nomatch z) h
    exact ⟨q, lists 0 q⟩
  | succ n ih =>
    have q : ∀ (d : D) (u : Value), vIn K (n + 1) d u = true → ∃ v, RelV v u ∧ ∀ Φ ρ, Rep ⟨K, w⟩ Φ ρ d v := fun d u h => by
      cases d with
      | tup ds =>
        cases u <;> first | (unfold vIn at h; cases h) | skip
        rename_i a
        unfold vIn at h
        split at h
        · rename_i c dd its k sl hk
          obtain ⟨h1, h2⟩ := Bool.and_eq_true_iff.mp h
          obtain ⟨h3, h4⟩ := Bool.and_eq_true_iff.mp h2
          have e1 : c = "tuple" := of_decide_eq_true h1
          have e2 := of_decide_eq_true h3
          subst e1
          obtain ⟨h4, h5⟩ := Bool.and_eq_true_iff.mp h4
          obtain ⟨vs, r, p⟩ := ih.2 ds _ h4
          have tk : D.trk ds = false := by simpa using h5
          exact ⟨.ref a, rfl, fun Φ ρ => ⟨a, vs, rfl, .inr ⟨_, its, k, hk, rfl, rfl, Nat.le_trans e2 (by show 1000 ≤ 16777216; decide), r⟩, p Φ ρ, fun z => by rw [tk] at z; cases z⟩⟩
        · cases h
      | _ => exact flat _ _ u (fun _ z => nomatch z) h
    exact ⟨q, lists _ q⟩
abbrev TupG : Type := Str × D
def gvIn (K : PySem.W.Frag) (t : TupG) : Bool := match PySem.W.nsIn K mainGlobals t.1 with
  | some (some u) => vIn K 8 t.2 u
  | _ => false
abbrev AlU : Type := AlI × List Bool
def obsU (fa : List He.Fa) (fn : List He.DefD) (ts : List TabI) (tt : List TupG) (fx : List He.Fa) (K : PySem.W.Frag) : AlU := (obsI fa fn ts K, tt.map (gvIn K) ++ fx.map (·.ok K))
def valU (fn : List He.DefD) (ts : List TabI) (tt : List TupG) (fx : List He.Fa) (w : World) : AlU := (valI fn ts w, tt.map (fun _ => true) ++ fx.map fun _ => true)
def obsUG (n : Nat) (fa : List He.Fa) (fn : List He.DefD) (ts : List TabI) (tt : List TupG) (fx : List He.Fa) (g : Addr → Option Obj) : AlU := obsU fa fn ts tt fx (He.frG g (He.asD g n))
def SaysU (fa : List He.Fa) (fn : List He.DefD) (ts : List TabI) (tt : List TupG) (fx : List He.Fa) (w : World) (K : PySem.W.Frag) : Prop := obsU fa fn ts tt fx K = valU fn ts tt fx w
def hookU (n : Nat) (fa : List He.Fa) (fn : List He.DefD) (ts : List TabI) (tt : List TupG) (fx : List He.Fa) : PySem.W.Hook where
  α := AlU
  obs := fun s => obsUG n fa fn ts tt fx s.heap.get?
  val := fun w => valU fn ts tt fx w
  says := fun w h => ∃ K : PySem.W.Frag, K.In h ∧ SaysU fa fn ts tt fx w K
  of := fun _ _ e => ⟨_, He.frG_in, e⟩
  keeps := fun _ _ _ ⟨K, hK, c⟩ k => ⟨K, PySem.W.Frag.In.keeps hK k, c⟩
theorem obsUG_eq {n : Nat} {fa : List He.Fa} {fn : List He.DefD} {ts : List TabI} {tt : List TupG} {fx : List He.Fa} {g : Addr → Option Obj} {s : Shared} (h : ∀ a, g a = s.heap.get? a) : obsUG n fa fn ts tt fx g = (hookU n fa fn ts tt fx).obs s := by
  have e : g = s.heap.get? := funext h
  rw [e] <;> rfl
theorem map_true {α : Type} {f : α → Bool} : ∀ {l : List α}, l.map f = l.map (fun _ => true) → ∀ x ∈ l, f x = true
  | y :: l, h, x, hx => by
    have h : f y :: l.map f = true :: l.map (fun _ => true) := h
    injection h with h1 h2
    rcases List.mem_cons.mp hx with rfl | hx
    · exact h1
    · exact map_true h2 x hx
section
variable {fa : List He.Fa} {fn : List He.DefD} {ts : List TabI} {tt : List TupG} {fx : List He.Fa} {w : World} {K : PySem.W.Frag}
theorem saysU_i (c : SaysU fa fn ts tt fx w K) : SaysI fa fn ts w K := congrArg (fun z : AlU => z.1) c
theorem saysU_b (c : SaysU fa fn ts tt fx w K) : tt.map (gvIn K) ++ fx.map (·.ok K) = tt.map (fun _ => true) ++ fx.map fun _ => true := congrArg (fun z : AlU => z.2) c
theorem saysU_t (c : SaysU fa fn ts tt fx w K) : ∀ t ∈ tt, gvIn K t = true := map_true (List.append_inj (saysU_b c) (by simp)).1
theorem saysU_x (c : SaysU fa fn ts tt fx w K) : ∀ f ∈ fx, f.ok K = true := map_true (List.append_inj (saysU_b c) (by simp)).2
end
def GU (G : List (Str × D)) (ts : List TabI) (tt : List TupG) : List (Str × D) := GT G ts ++ tt
theorem world0U {defs : List DefE} {G : List (Str × D)} {ts : List TabI} {tt : List TupG} {fx : List He.Fa} {K : PySem.W.Frag} {h : Heap} {mg : Str → Option Value} {w : World} (X : K.In h) (Gn : h.Ns mainGlobals mg) (c : SaysU (faT defs G ts) (fnL defs) ts tt fx w K) (hb : BindsAll defs) (hG : G.all gOk = true) (hT : ts.all tabOk = true) :
    World0 ⟨K, w⟩ mg (GU G ts tt) defs := by
  have W := world0T X Gn (saysU_i c) hb hG hT
  refine ⟨W.fd, fun x d hl0 => ?_, W.bl⟩
  rcases lookup_app hl0 with hl | hm
  · exact W.gl x d hl
  · have h1 := saysU_t c _ hm
    have h2 : (match PySem.W.nsIn K mainGlobals x with | some (some u) => vIn K 8 d u | _ => false) = true := h1
    cases hn : PySem.W.nsIn K mainGlobals x with
    | none => rw [hn] at h2; cases h2
    | some o =>
      rw [hn] at h2
      cases o with
      | none => cases h2
      | some u =>
        obtain ⟨v, r, p⟩ := (vIn_ok (w := w) 8).1 d u h2
        exact ⟨u, v, PySem.W.mg_of X Gn hn, r, p⟩
theorem law_factsU {defs : List DefE} {G : List (Str × D)} {ts : List TabI} {tt : List TupG} {fx : List He.Fa} {K : PySem.W.Frag} {h : Heap} {mg : Str → Option Value} {w : World} {P : Program} {law : DefE} {x : Str} {F : Fn} (X : K.In h) (Gn : h.Ns mainGlobals mg) (c : SaysU (faT defs G ts) (fnL defs) ts tt fx w K) (hb : BindsAll defs) (hG : G.all gOk = true) (hT : ts.all tabOk = true) (ok : defs.all (DefE.ok (GU G ts tt)) = true)
    (hl : law ∈ defs) (hx : law.ps = [x]) (hF : ftOf defs law.nm = some F) (hFF : law.F = F) (hF1 : F.ps = 1) (n : Nat) {f : Addr} (hfa : mg law.nm = some (.ref f)) :
    ∃ (fd : FuncData) (sp : Sp), (∀ (s : Shared) (v : Value), BindsTo s fd ⟨[v], []⟩ [(x, v)]) ∧
      (∀ (H : Hp) (a : Addr) (ns : List Int), SqL K H a (ns.map V.int) → (∃ m, cfN (ftOf defs) n law.nm [.scr ns] [] = .ok (.bl true) false m) → sp [.ref a] H (fun v _ => v = .bl true) fun _ _ _ => False) ∧
      ∀ base : Heap, FnOk P w K mg base (L2.CX P w) (n + 1) f fd [x] sp := by
  have W0 := world0U X Gn c hb hG hT
  have cd := says_d (saysU_i c)
  obtain ⟨i, hi, ee⟩ := List.getElem_of_mem hl
  obtain ⟨fd, FD⟩ := cd.def_ i (d := law.d) (by rw [fnL, List.getElem?_map, List.getElem?_eq_getElem hi, ee]; rfl)
  have F2 : FunD K law.nm law.qual law.params law.body law.scope [] [] (He.fAd K (law.nm, none)) fd := FD
  have eg := He.glo_ok X Gn (fact_t cd (f := .glo law.nm) (List.mem_append_left _ (List.mem_append_left _ (List.mem_map.mpr ⟨law, hl, rfl⟩))))
  have ea : f = He.fAd K (law.nm, none) := by
    rw [hfa] at eg
    cases eg
    rfl
  subst ea
  refine ⟨fd, spF ⟨K, w⟩ (cfD defs n law.nm F), fun s v => ?_, fun H a ns hS hv => ?_, fun base => ?_⟩
  · have q := FunD.bindsA (ps := law.ps) F2 (hb.at_ law hl) s [v] (by rw [hx] <;> rfl)
    rw [hx] at q
    exact q
  · obtain ⟨m, hv⟩ := hv
    refine ⟨H, [], [], [.scr ns], ⟨rfl, List.nodup_nil, fun a h => (nomatch h), Same.refl _, fun n o a h => (nomatch h)⟩, ⟨.ref a, [], rfl, ⟨a, rfl, hS⟩, rfl⟩, ?_⟩
    have e : cfD defs n law.nm F [.scr ns] [] = .ok (.bl true) false m := by
      unfold cfD
      rw [if_pos (by rw [hF1] <;> rfl)]
      exact hv
    rw [e]
    exact fun Φ' ρ' H' v _ _ _ _ _ _ q => q
  · have q := defs_ok (P := P) (base := base) W0 ok n law hl F hF hFF _ fd F2
    rw [hx] at q
    exact q
theorem walk_lyU {l : PySem.W.OpenLaw} {q : Program} {loose : List Str} {d : DefRec} {XP : (Str → Option Value) → Heap → Prop} {x : Str} {defs : List DefE} {G : List (Str × D)} {ts : List TabI} {tt : List TupG} {fx : List He.Fa} {law : DefE} {F : Fn} (i n : Nat)
    (hn : l.most = some 63) (hdf : d.params.defaults = []) (hr : Room (n + 1) callerA) (hd : d.name = law.nm) (hb : BindsAll defs) (hG : G.all gOk = true) (hT : ts.all tabOk = true) (ok : defs.all (DefE.ok (GU G ts tt)) = true)
    (hl : defs[i]? = some law) (hx : law.ps = [x]) (hF : ftOf defs law.nm = some F) (hFF : law.F = F) (hF1 : F.ps = 1)
    (hv : ∀ ns : List Int, ns.length ≤ 63 → ∃ m, cfN (ftOf defs) n law.nm [.scr ns] [] = .ok (.bl true) false m) :
    PySem.W.WalkO q loose XP (fun (w : World) h => ∃ K : PySem.W.Frag, K.In h ∧ SaysU (faT defs G ts) (fnL defs) ts tt fx w K) l.row.toRowW d [] (fun f vs => PySem.call f vs) := by
  refine Att.attach_call hn hdf fun w s0 s1 mg mb fa o pm cd doc a vs ns Gn Y ho hdd hcd hmg hobj hints hlen hg => ?_
  obtain ⟨K, KX, c⟩ := Y
  rw [hd] at hmg
  obtain ⟨fd, sp, h1, h2, h3⟩ := law_factsU (P := l.prog) (w := w) KX Gn.T.g c hb hG hT ok (List.mem_of_getElem? hl) hx hF hFF hF1 n hmg
  exact law_call KX Gn.T.g Gn.T.b Gn.T.builtins Gn.T.nolimit hg hobj hints (Nat.le_trans hlen (by decide)) hr (fun base _ _ => h3 base) h1 (fun H hO hS => h2 H a ns hS (hv ns hlen)) fun H e s' z => cx_no z
end Ly
set_option Elab.async false
set_option linter.all false
set_option maxRecDepth 100000
set_option maxHeartbeats 2000000
/-! Ly20: the evaluator's steps, for simp. -/
namespace Ly
open PySem PySem.Spec PyProof.Rows L2
theorem R.bind_cg {α β : Type} {m m' : R α} {f : α → S → R β} (h : m = m') : m.bind f = m'.bind f := by rw [h]
@[simp] theorem R.bind_ok {α β : Type} (a : α) (s : S) (f : α → S → R β) : (R.ok a s).bind f = f a s := id rfl
@[simp] theorem R.bind_no {α β : Type} (f : α → S → R β) : (R.no : R α).bind f = .no := id rfl
theorem R.bind_ite {α β : Type} {c : Prop} [Decidable c] (a b : R α) (f : α → S → R β) : (if c then a else b).bind f = if c then a.bind f else b.bind f := by split <;> rfl
@[simp] theorem liftO_some {α : Type} (s : S) (a : α) : liftO s (some a) = .ok a s := id rfl
@[simp] theorem liftO_none {α : Type} (s : S) : liftO s (none : Option α) = .no := id rfl
section
variable (ft : Str → Option Fn) (cf : Str → List D → Mem → CR) (sh : List Nat) (s : S)
@[simp] theorem ev_c (d : D) : evE ft cf (.c d) s = .ok (d, false) s := id rfl
@[simp] theorem ev_v (i : Nat) : evE ft cf (.v i) s = readV s i := id rfl
@[simp] theorem ev_g (x : Str) (d : D) : evE ft cf (.g x d) s = .ok (d, false) s := id rfl
@[simp] theorem ev_tup (es : List E) : evE ft cf (.tup es) s = (evEs ft cf es s).bind fun ds s => if ds.length ≤ sizeLine then .ok (.tup ds, false) s else .no := id rfl
@[simp] theorem ev_lst (es : List E) : evE ft cf (.lst es) s = (evEs ft cf es s).bind fun ds s => if ds.length ≤ sizeLine then .ok (.lst ds, true) s else .no := id rfl
@[simp] theorem ev_bin (op : Op2) (a b : E) : evE ft cf (.bin op a b) s = (opO a (evE ft cf a s) s).bind fun x s => (opO b (evE ft cf b s) s).bind fun y s => liftO s ((seeE s a x).bind fun x => (seeE s b y).bind fun y => opBin op x y) := id rfl
@[simp] theorem ev_neg (a : E) : evE ft cf (.neg a) s = (evE ft cf a s).bind fun x s => match x.1 with
    | .int i => .ok (.int (-i), false) s
    | _ => .no := id rfl
@[simp] theorem ev_not (a : E) : evE ft cf (.not a) s = (toB (evE ft cf a s)).bind fun b s => .ok (.bl (!b), false) s := id rfl
@[simp] theorem ev_and (a b : E) : evE ft cf (.and a b) s = (toB (evE ft cf a s)).bind fun k s => if k then evE ft cf b s else .ok (.bl false, false) s := id rfl
@[simp] theorem ev_or (a b : E) : evE ft cf (.or a b) s = (toB (evE ft cf a s)).bind fun k s => if k then .ok (.bl true, false) s else evE ft cf b s := id rfl
@[simp] theorem ev_cmp (op : Cm) (a b : E) : evE ft cf (.cmp op a b) s = (opO a (evE ft cf a s) s).bind fun x s => (opO b (evE ft cf b s) s).bind fun y s => liftO s ((seeE s a x).bind fun x => (seeE s b y).bind fun y => (opCmp op x y).map fun k => (.bl k, false)) := id rfl
@[simp] theorem ev_chn (op op' : Cm) (a b c : E) : evE ft cf (.chn op op' a b c) s = (evE ft cf a s).bind fun x s => (evE ft cf b s).bind fun y s => (liftO s (opCmp op x.1 y.1)).bind fun k s =>
      if k then (evE ft cf c s).bind fun z s => liftO s ((opCmp op' y.1 z.1).map fun k => (.bl k, false)) else .ok (.bl false, false) s := id rfl
@[simp] theorem ev_ife (c a b : E) : evE ft cf (.ife c a b) s = (toB (evE ft cf c s)).bind fun k s => if k then evE ft cf a s else evE ft cf b s := id rfl
@[simp] theorem ev_ix (a b : E) : evE ft cf (.ix a b) s = (opO a (evE ft cf a s) s).bind fun x s => (evE ft cf b s).bind fun i s => liftO s ((seeE s a x).bind fun x => (opIx x i.1).map fun d => (d, false)) := id rfl
@[simp] theorem ev_sl (a lo hi : E) : evE ft cf (.sl a lo hi) s = (opO a (evE ft cf a s) s).bind fun x s => (evE ft cf lo s).bind fun l s => (liftO s (partI lo l.1)).bind fun l s =>
      (evE ft cf hi s).bind fun h s => (liftO s (partI hi h.1)).bind fun h s => liftO s ((seeE s a x).bind fun x => opSl x l h) := id rfl
@[simp] theorem ev_isi (a : E) (t : Ty) : evE ft cf (.isi a t) s = (opO a (evE ft cf a s) s).bind fun x s => liftO s ((seeE s a x).bind fun x => if D.typed x then some (.bl (isTy x t), false) else none) := id rfl
theorem ev_call {f : Str} {F : Fn} (h : ft f = some F) (es : List E) : evE ft cf (.call f es) s = (evAs ft cf F.sh 0 es s).bind fun ds s => if ds.length = F.ps then ofCR s (cf f ds s.mem) else .no := by
  show (match ft f with | none => R.no | some F => (evAs ft cf F.sh 0 es s).bind fun ds s => if ds.length = F.ps then ofCR s (cf f ds s.mem) else .no) = _
  rw [h]
@[simp] theorem ev_blt (f : Bf) (es : List E) : evE ft cf (.blt f es) s = (evOs ft cf es s).bind fun ds s => liftO s ((seeEs s es ds).bind fun ds => bfn f ds) := id rfl
@[simp] theorem ev_mr (m : Mr) (a : E) (es : List E) : evE ft cf (.mr m a es) s = (opO a (evE ft cf a s) s).bind fun x s => (liftO s ((seeE s a x).bind fun x => guardO (recvR m x))).bind fun _ s => (evEs ft cf es s).bind fun ds s =>
      liftO s ((seeE s a x).bind fun x => (mrd m x ds).map fun d => (d, false)) := id rfl
@[simp] theorem ev_mw (m : Mw) (a : E) (es : List E) : evE ft cf (.mw m a es) s = (opO a (evE ft cf a s) s).bind fun x s => (liftO s ((seeE s a x).bind fun x => guardO (recvW x))).bind fun _ s => (evEs ft cf es s).bind fun ds s =>
      (liftO s ((seeE s a x).bind fun y => (mwr m y ds).bind fun p => (putE s a x p.2).map fun s' => (p.1, s'))).bind fun p _ => .ok (p.1, false) p.2 := id rfl
@[simp] theorem ev_slr (a : E) : evE ft cf (.slr a) s = (opO a (evE ft cf a s) s).bind fun x s => liftO s ((seeE s a x).bind slrO) := id rfl
@[simp] theorem ev_sset (a : E) : evE ft cf (.sset a) s = (opO a (evE ft cf a s) s).bind fun x s => liftO s ((seeE s a x).bind ssetO) := id rfl
@[simp] theorem ev_dctK : evE ft cf .dctK s = .ok (.dct [] [], true) s := id rfl
@[simp] theorem ev_dctT : evE ft cf .dctT s = .ok (.dct [] [.non], true) s := id rfl
@[simp] theorem ev_dead : evE ft cf .dead s = .no := id rfl
@[simp] theorem ev_mxd (a : E) (d : Int) : evE ft cf (.mxd a d) s = (opO a (evE ft cf a s) s).bind fun x s => liftO s ((seeE s a x).bind fun x => mxdO x d) := id rfl
@[simp] theorem ev_nil : evE ft cf .nil s = .ok (.non, false) s := id rfl
@[simp] theorem evO_nil : evOs ft cf [] s = .ok [] s := id rfl
@[simp] theorem evO_cons (e : E) (es : List E) : evOs ft cf (e :: es) s = (opO e (evE ft cf e s) s).bind fun d s => (evOs ft cf es s).bind fun ds s => .ok (d :: ds) s := id rfl
@[simp] theorem evs_nil : evEs ft cf [] s = .ok [] s := id rfl
@[simp] theorem evs_cons (e : E) (es : List E) : evEs ft cf (e :: es) s = (evE ft cf e s).bind fun p s => (evEs ft cf es s).bind fun ds s => .ok (p.1 :: ds) s := id rfl
@[simp] theorem evA_nil (j : Nat) : evAs ft cf sh j [] s = .ok [] s := id rfl
@[simp] theorem evA_cons (j : Nat) (e : E) (es : List E) : evAs ft cf sh j (e :: es) s = (evE ft cf e s).bind fun p s => (argIn sh j p s).bind fun d s => (evAs ft cf sh (j + 1) es s).bind fun ds s => .ok (d :: ds) s := id rfl
@[simp] theorem evT_nil : evTs ft cf [] s = .ok true s := id rfl
@[simp] theorem evT_cons (e : E) (es : List E) : evTs ft cf (e :: es) s = (toB (evE ft cf e s)).bind fun b s => if b then evTs ft cf es s else .ok false s := id rfl
@[simp] theorem st_ex (e : E) : evS ft cf sh (.ex e) s = (evE ft cf e s).bind fun _ s => .ok .nx s := id rfl
@[simp] theorem st_asg (t : T) (e : E) : evS ft cf sh (.asg t e) s = (evE ft cf e s).bind fun p s => (asgT sh t p.1 p.2 s).bind fun _ s => .ok .nx s := id rfl
@[simp] theorem st_setd (a i e : E) : evS ft cf sh (.setd a i e) s = (evE ft cf e s).bind fun p s => (opO a (evE ft cf a s) s).bind fun x s => (evE ft cf i s).bind fun k s =>
      (liftO s ((seeE s a x).bind fun y => (setM y k.1 p.1).bind fun y' => putE s a x y')).bind fun s' _ => .ok .nx s' := id rfl
@[simp] theorem st_dead : evS ft cf sh .dead s = .no := id rfl
@[simp] theorem st_seti (a i e : E) : evS ft cf sh (.seti a i e) s = (evE ft cf e s).bind fun p s => (opO a (evE ft cf a s) s).bind fun x s => (evE ft cf i s).bind fun k s =>
      (liftO s ((seeE s a x).bind fun y => (setD y k.1 p.1).bind fun y' => putE s a x y')).bind fun s' _ => .ok .nx s' := id rfl
@[simp] theorem st_ret (e : E) : evS ft cf sh (.ret e) s = (retV e (evE ft cf e s) s).bind fun p s => .ok (.rt p.1 p.2) s := id rfl
@[simp] theorem st_retn : evS ft cf sh .retn s = .ok (.rt .non false) s := id rfl
@[simp] theorem st_ife (c : E) (a b : List St) : evS ft cf sh (.ife c a b) s = (toB (evE ft cf c s)).bind fun k s => if k then evSs ft cf sh a s else evSs ft cf sh b s := id rfl
@[simp] theorem st_pass : evS ft cf sh .pass s = .ok .nx s := id rfl
@[simp] theorem st_brk : evS ft cf sh .brk s = .ok .br s := id rfl
@[simp] theorem st_cont : evS ft cf sh .cont s = .ok .ct s := id rfl
@[simp] theorem ss_nil : evSs ft cf sh [] s = .ok .nx s := id rfl
@[simp] theorem ss_cons (st : St) (sts : List St) : evSs ft cf sh (st :: sts) s = (evS ft cf sh st s).bind fun f s => match f with
    | .nx => evSs ft cf sh sts s
    | .br => .ok .br s
    | .ct => .ok .ct s
    | .rt d fr => .ok (.rt d fr) s := id rfl
end
@[simp] theorem toB_ok (k fr : Bool) (s : S) : toB (.ok (.bl k, fr) s) = .ok k s := rfl
@[simp] theorem toB_no : toB .no = .no := rfl
@[simp] theorem ofCR_ok (d : D) (fr : Bool) (m : Mem) (s : S) : ofCR s (.ok d fr m) = .ok (d, fr) ⟨s.env, m⟩ := rfl
@[simp] theorem argIn_f (sh : List Nat) (j : Nat) (d : D) (s : S) : argIn sh j (d, false) s = .ok d s := rfl
@[simp] theorem asgT_v (sh : List Nat) (i : Nat) (d : D) (env : Env) (m : Mem) : asgT sh (.v i) d false ⟨env, m⟩ = .ok () ⟨env.set i (some (d, false)), m⟩ := rfl

section
variable (env : Env) (m : Mem) (s : S)
@[simp] theorem readV_eq (i : Nat) : readV s i = match slot s i with
  | some (d, true) => .ok (d, false) (setSlot s i (d, false))
  | some (d, false) => .ok (d, false) s
  | none => .no := id rfl
@[simp] theorem slot_eq (i : Nat) : slot ⟨env, m⟩ i = (env[i]?).join := id rfl
@[simp] theorem setSlot_eq (i : Nat) (p : D × Bool) : setSlot ⟨env, m⟩ i p = ⟨env.set i (some p), m⟩ := id rfl
@[simp] theorem lookV_eq (i : Nat) : lookV ⟨env, m⟩ i = ((env[i]?).join).bind fun p => deref m p.1 := id rfl
@[simp] theorem deref_non : deref m .non = some .non := id rfl
@[simp] theorem deref_bl (b : Bool) : deref m (.bl b) = some (.bl b) := id rfl
@[simp] theorem deref_int (i : Int) : deref m (.int i) = some (.int i) := id rfl
@[simp] theorem deref_str (x : Str) : deref m (.str x) = some (.str x) := id rfl
@[simp] theorem deref_tup (xs : List D) : deref m (.tup xs) = some (.tup xs) := id rfl
@[simp] theorem deref_lst (xs : List D) : deref m (.lst xs) = some (.lst xs) := id rfl
@[simp] theorem deref_dct (ks vs : List D) : deref m (.dct ks vs) = some (.dct ks vs) := id rfl
@[simp] theorem deref_scr (ns : List Int) : deref m (.scr ns) = some (.scr ns) := id rfl
@[simp] theorem deref_ref (n : Nat) : deref m (.ref n) = (m[n]?).bind MO.d := id rfl
@[simp] theorem mod_lst (xs : List D) : MO.d (.lst xs) = some (.lst xs) := id rfl
@[simp] theorem mod_dct (ks vs : List D) : MO.d (.dct ks vs) = some (.dct ks vs) := id rfl
@[simp] theorem seeE_v (i : Nat) (d : D) : seeE s (.v i) d = lookV s i := id rfl
@[simp] theorem seeE_c (e d : D) : seeE s (.c e) d = deref s.mem d := id rfl
@[simp] theorem seeE_g (x : Str) (e d : D) : seeE s (.g x e) d = deref s.mem d := id rfl
@[simp] theorem seeE_tup (es : List E) (d : D) : seeE s (.tup es) d = deref s.mem d := id rfl
@[simp] theorem seeE_lst (es : List E) (d : D) : seeE s (.lst es) d = deref s.mem d := id rfl
@[simp] theorem seeE_bin (op : Op2) (a b : E) (d : D) : seeE s (.bin op a b) d = deref s.mem d := id rfl
@[simp] theorem seeE_neg (a : E) (d : D) : seeE s (.neg a) d = deref s.mem d := id rfl
@[simp] theorem seeE_not (a : E) (d : D) : seeE s (.not a) d = deref s.mem d := id rfl
@[simp] theorem seeE_and (a b : E) (d : D) : seeE s (.and a b) d = deref s.mem d := id rfl
@[simp] theorem seeE_or (a b : E) (d : D) : seeE s (.or a b) d = deref s.mem d := id rfl
@[simp] theorem seeE_cmp (op : Cm) (a b : E) (d : D) : seeE s (.cmp op a b) d = deref s.mem d := id rfl
@[simp] theorem seeE_chn (op op' : Cm) (a b c : E) (d : D) : seeE s (.chn op op' a b c) d = deref s.mem d := id rfl
@[simp] theorem seeE_ife (a b c : E) (d : D) : seeE s (.ife a b c) d = deref s.mem d := id rfl
@[simp] theorem seeE_ix (a b : E) (d : D) : seeE s (.ix a b) d = deref s.mem d := id rfl
@[simp] theorem seeE_sl (a b c : E) (d : D) : seeE s (.sl a b c) d = deref s.mem d := id rfl
@[simp] theorem seeE_isi (a : E) (t : Ty) (d : D) : seeE s (.isi a t) d = deref s.mem d := id rfl
@[simp] theorem seeE_call (f : Str) (es : List E) (d : D) : seeE s (.call f es) d = deref s.mem d := id rfl
@[simp] theorem seeE_blt (f : Bf) (es : List E) (d : D) : seeE s (.blt f es) d = deref s.mem d := id rfl
@[simp] theorem seeE_mr (f : Mr) (a : E) (es : List E) (d : D) : seeE s (.mr f a es) d = deref s.mem d := id rfl
@[simp] theorem seeE_mw (f : Mw) (a : E) (es : List E) (d : D) : seeE s (.mw f a es) d = deref s.mem d := id rfl
@[simp] theorem seeE_lc (elt : E) (tg : T) (k : IK) (its ifs : List E) (own : List Nat) (d : D) : seeE s (.lc elt tg k its ifs own) d = deref s.mem d := id rfl
@[simp] theorem seeE_lcR (elt : E) (tg : T) (e : E) (ifs : List E) (own : List Nat) (d : D) : seeE s (.lcR elt tg e ifs own) d = deref s.mem d := id rfl
@[simp] theorem seeE_slr (a : E) (d : D) : seeE s (.slr a) d = deref s.mem d := id rfl
@[simp] theorem seeE_sset (a : E) (d : D) : seeE s (.sset a) d = deref s.mem d := id rfl
@[simp] theorem seeE_dctK (d : D) : seeE s .dctK d = deref s.mem d := id rfl
@[simp] theorem seeE_dctT (d : D) : seeE s .dctT d = deref s.mem d := id rfl
@[simp] theorem seeE_mxd (a : E) (k : Int) (d : D) : seeE s (.mxd a k) d = deref s.mem d := id rfl
@[simp] theorem seeEs_nil : seeEs s [] [] = some [] := id rfl
@[simp] theorem seeEs_cons (e : E) (es : List E) (d : D) (ds : List D) : seeEs s (e :: es) (d :: ds) = (seeE s e d).bind fun d => (seeEs s es ds).map (d :: ·) := id rfl
variable (r : R (D × Bool))
@[simp] theorem opO_v (i : Nat) : opO (.v i) r s = match slot s i with
    | some _ => .ok .non s
    | none => .no := id rfl
@[simp] theorem opO_c (e : D) : opO (.c e) r s = r.bind fun p s => .ok p.1 s := id rfl
@[simp] theorem opO_g (x : Str) (e : D) : opO (.g x e) r s = r.bind fun p s => .ok p.1 s := id rfl
@[simp] theorem opO_tup (es : List E) : opO (.tup es) r s = r.bind fun p s => .ok p.1 s := id rfl
@[simp] theorem opO_lst (es : List E) : opO (.lst es) r s = r.bind fun p s => .ok p.1 s := id rfl
@[simp] theorem opO_bin (op : Op2) (a b : E) : opO (.bin op a b) r s = r.bind fun p s => .ok p.1 s := id rfl
@[simp] theorem opO_neg (a : E) : opO (.neg a) r s = r.bind fun p s => .ok p.1 s := id rfl
@[simp] theorem opO_not (a : E) : opO (.not a) r s = r.bind fun p s => .ok p.1 s := id rfl
@[simp] theorem opO_and (a b : E) : opO (.and a b) r s = r.bind fun p s => .ok p.1 s := id rfl
@[simp] theorem opO_or (a b : E) : opO (.or a b) r s = r.bind fun p s => .ok p.1 s := id rfl
@[simp] theorem opO_cmp (op : Cm) (a b : E) : opO (.cmp op a b) r s = r.bind fun p s => .ok p.1 s := id rfl
@[simp] theorem opO_chn (op op' : Cm) (a b c : E) : opO (.chn op op' a b c) r s = r.bind fun p s => .ok p.1 s := id rfl
@[simp] theorem opO_ife (a b c : E) : opO (.ife a b c) r s = r.bind fun p s => .ok p.1 s := id rfl
@[simp] theorem opO_ix (a b : E) : opO (.ix a b) r s = r.bind fun p s => .ok p.1 s := id rfl
@[simp] theorem opO_sl (a b c : E) : opO (.sl a b c) r s = r.bind fun p s => .ok p.1 s := id rfl
@[simp] theorem opO_isi (a : E) (t : Ty) : opO (.isi a t) r s = r.bind fun p s => .ok p.1 s := id rfl
@[simp] theorem opO_call (f : Str) (es : List E) : opO (.call f es) r s = r.bind fun p s => .ok p.1 s := id rfl
@[simp] theorem opO_blt (f : Bf) (es : List E) : opO (.blt f es) r s = r.bind fun p s => .ok p.1 s := id rfl
@[simp] theorem opO_mr (f : Mr) (a : E) (es : List E) : opO (.mr f a es) r s = r.bind fun p s => .ok p.1 s := id rfl
@[simp] theorem opO_mw (f : Mw) (a : E) (es : List E) : opO (.mw f a es) r s = r.bind fun p s => .ok p.1 s := id rfl
@[simp] theorem opO_lc (elt : E) (tg : T) (k : IK) (its ifs : List E) (own : List Nat) : opO (.lc elt tg k its ifs own) r s = r.bind fun p s => .ok p.1 s := id rfl
@[simp] theorem opO_lcR (elt : E) (tg : T) (e : E) (ifs : List E) (own : List Nat) : opO (.lcR elt tg e ifs own) r s = r.bind fun p s => .ok p.1 s := id rfl
@[simp] theorem opO_slr (a : E) : opO (.slr a) r s = r.bind fun p s => .ok p.1 s := id rfl
@[simp] theorem opO_sset (a : E) : opO (.sset a) r s = r.bind fun p s => .ok p.1 s := id rfl
@[simp] theorem opO_dctK : opO .dctK r s = r.bind fun p s => .ok p.1 s := id rfl
@[simp] theorem opO_dctT : opO .dctT r s = r.bind fun p s => .ok p.1 s := id rfl
@[simp] theorem retV_slr (a : E) : retV (.slr a) r s = r := id rfl
@[simp] theorem retV_sset (a : E) : retV (.sset a) r s = r := id rfl
@[simp] theorem retV_dctK : retV .dctK r s = r := id rfl
@[simp] theorem retV_dctT : retV .dctT r s = r := id rfl
@[simp] theorem opO_mxd (a : E) (k : Int) : opO (.mxd a k) r s = r.bind fun p s => .ok p.1 s := id rfl
@[simp] theorem retV_lcR (elt : E) (tg : T) (e : E) (ifs : List E) (own : List Nat) : retV (.lcR elt tg e ifs own) r s = r := id rfl
@[simp] theorem retV_mxd (a : E) (k : Int) : retV (.mxd a k) r s = r := id rfl
@[simp] theorem retV_v (i : Nat) : retV (.v i) r s = match slot s i with
    | some p => .ok p s
    | none => .no := id rfl
@[simp] theorem retV_c (e : D) : retV (.c e) r s = r := id rfl
@[simp] theorem retV_g (x : Str) (e : D) : retV (.g x e) r s = r := id rfl
@[simp] theorem retV_tup (es : List E) : retV (.tup es) r s = r := id rfl
@[simp] theorem retV_lst (es : List E) : retV (.lst es) r s = r := id rfl
@[simp] theorem retV_bin (op : Op2) (a b : E) : retV (.bin op a b) r s = r := id rfl
@[simp] theorem retV_neg (a : E) : retV (.neg a) r s = r := id rfl
@[simp] theorem retV_not (a : E) : retV (.not a) r s = r := id rfl
@[simp] theorem retV_and (a b : E) : retV (.and a b) r s = r := id rfl
@[simp] theorem retV_or (a b : E) : retV (.or a b) r s = r := id rfl
@[simp] theorem retV_cmp (op : Cm) (a b : E) : retV (.cmp op a b) r s = r := id rfl
@[simp] theorem retV_chn (op op' : Cm) (a b c : E) : retV (.chn op op' a b c) r s = r := id rfl
@[simp] theorem retV_ife (a b c : E) : retV (.ife a b c) r s = r := id rfl
@[simp] theorem retV_ix (a b : E) : retV (.ix a b) r s = r := id rfl
@[simp] theorem retV_sl (a b c : E) : retV (.sl a b c) r s = r := id rfl
@[simp] theorem retV_isi (a : E) (t : Ty) : retV (.isi a t) r s = r := id rfl
@[simp] theorem retV_call (f : Str) (es : List E) : retV (.call f es) r s = r := id rfl
@[simp] theorem retV_blt (f : Bf) (es : List E) : retV (.blt f es) r s = r := id rfl
@[simp] theorem retV_mr (f : Mr) (a : E) (es : List E) : retV (.mr f a es) r s = r := id rfl
@[simp] theorem retV_mw (f : Mw) (a : E) (es : List E) : retV (.mw f a es) r s = r := id rfl
@[simp] theorem retV_lc (elt : E) (tg : T) (k : IK) (its ifs : List E) (own : List Nat) : retV (.lc elt tg k its ifs own) r s = r := id rfl
theorem retV_o (e : E) (h : isV e = none) : retV e r s = r := by
  cases e <;> first | rfl | cases h
end
/-! operations -/
section
variable (i j : Int) (x y : Str) (xs ys : List D) (d : D)
@[simp] theorem b_addI : opBin .add (.int i) (.int j) = some (.int (i + j), false) := id rfl
@[simp] theorem b_addS : opBin .add (.str x) (.str y) = if x.length + y.length ≤ sizeLine then some (.str (x ++ y), false) else none := id rfl
@[simp] theorem b_addT : opBin .add (.tup xs) (.tup ys) = if xs.length + ys.length ≤ sizeLine then some (.tup (xs ++ ys), false) else none := id rfl
@[simp] theorem b_addL : opBin .add (.lst xs) (.lst ys) = if xs.length + ys.length ≤ sizeLine then some (.lst (xs ++ ys), true) else none := id rfl
@[simp] theorem b_sub : opBin .sub (.int i) (.int j) = some (.int (i - j), false) := id rfl
@[simp] theorem b_mulI : opBin .mul (.int i) (.int j) = if inB j || inB i then some (.int (i * j), false) else none := id rfl
@[simp] theorem b_fdiv : opBin .fdiv (.int i) (.int j) = if decide (0 < j) && decide (j < 2 ^ 64) then some (.int (i / j), false) else none := id rfl
@[simp] theorem b_mod : opBin .mod (.int i) (.int j) = if decide (0 < j) then some (.int (i % j), false) else none := id rfl
@[simp] theorem b_pow : opBin .pow (.int i) (.int j) = if decide (0 ≤ j) && decide (j ≤ 1000) && inB i then some (.int (i ^ j.toNat), false) else none := id rfl
@[simp] theorem c_eqI : opCmp .eq (.int i) (.int j) = some (decide (i = j)) := id rfl
@[simp] theorem c_eqS : opCmp .eq (.str x) (.str y) = some (decide (x = y)) := id rfl
@[simp] theorem c_neI : opCmp .ne (.int i) (.int j) = some (!decide (i = j)) := id rfl
@[simp] theorem c_neS : opCmp .ne (.str x) (.str y) = some (!decide (x = y)) := id rfl
@[simp] theorem c_lt : opCmp .lt (.int i) (.int j) = some (decide (i < j)) := id rfl
@[simp] theorem c_le : opCmp .le (.int i) (.int j) = some (decide (i ≤ j)) := id rfl
@[simp] theorem c_gt : opCmp .gt (.int i) (.int j) = some (decide (j < i)) := id rfl
@[simp] theorem c_ge : opCmp .ge (.int i) (.int j) = some (decide (j ≤ i)) := id rfl
@[simp] theorem c_is : opCmp .is_ d .non = some (D.isNon d) := id rfl
@[simp] theorem c_isB (a b : Bool) : opCmp .is_ (.bl a) (.bl b) = some (a == b) := id rfl
@[simp] theorem c_isnB (a b : Bool) : opCmp .isn (.bl a) (.bl b) = some (!(a == b)) := id rfl
@[simp] theorem c_isn : opCmp .isn d .non = some (!D.isNon d) := id rfl
@[simp] theorem c_inT : opCmp .in_ d (.tup xs) = anyEq d xs := id rfl
@[simp] theorem c_inL : opCmp .in_ d (.lst xs) = anyEq d xs := id rfl
@[simp] theorem c_ninT : opCmp .nin d (.tup xs) = (anyEq d xs).map (!·) := id rfl
@[simp] theorem c_ninL : opCmp .nin d (.lst xs) = (anyEq d xs).map (!·) := id rfl
@[simp] theorem x_tup : opIx (.tup xs) (.int i) = L2.atI xs i := id rfl
@[simp] theorem x_lst : opIx (.lst xs) (.int i) = L2.atI xs i := id rfl
@[simp] theorem x_scr (ns : List Int) : opIx (.scr ns) (.int i) = (L2.atI ns i).map D.int := id rfl
@[simp] theorem f_lenT : bfn .len [.tup xs] = some (.int xs.length, false) := id rfl
@[simp] theorem f_lenL : bfn .len [.lst xs] = some (.int xs.length, false) := id rfl
@[simp] theorem f_lenR (ns : List Int) : bfn .len [.scr ns] = some (.int ns.length, false) := id rfl
@[simp] theorem inB_lit : inB i = (decide (-18446744073709551616 < i) && decide (i < 18446744073709551616)) := id rfl
theorem at_nat {α : Type} {l : List α} {n : Nat} (h : n < l.length) : L2.atI l (n : Int) = l[n]? := by
  unfold L2.atI L2.ixN
  rw [if_pos (by omega), if_pos (by omega)]
  simp
@[simp] theorem at_zero {α : Type} (a : α) (l : List α) : L2.atI (a :: l) 0 = some a := by
  have := at_nat (l := a :: l) (n := 0) (by simp)
  simpa using this
end
theorem cf_s {ft : Str → Option Fn} {f : Str} {F : Fn} (h : ft f = some F) (n : Nat) {ds : List D} {m : Mem} (hl : ds.length = F.ps) : cfN ft (n + 1) f ds m = runF ft (cfN ft n) F ds m := by
  show (match ft f with | some F => if ds.length = F.ps then runF ft (cfN ft n) F ds m else .no | none => .no) = _
  rw [h]
  exact if_pos hl
theorem ofStr_inj {a b : String} : Str.ofString a = Str.ofString b ↔ a = b := by
  refine ⟨fun h => ?_, fun h => by rw [h]⟩
  rw [Str.ofString_eq_toList, Str.ofString_eq_toList] at h
  have h1 : (a.toList.map Char.toNat) = (b.toList.map Char.toNat) := by
    have h2 := congrArg (fun z : Str => z.cps.toList) h
    simpa using h2
  have h3 : a.toList = b.toList := by
    refine List.map_inj_right (fun x y e => ?_) |>.mp h1
    exact Char.toNat_inj.mp e
  exact String.toList_inj.mp h3
def crOf : R Fl → CR
  | .ok (.rt d fr) s => .ok d fr s.mem
  | .ok .nx s => .ok .non false s.mem
  | .ok _ _ => .no
  | .exc c fs s => .exc c fs s.mem
  | .no => .no
theorem cf_r {ft : Str → Option Fn} {f : Str} {F : Fn} (h : ft f = some F) (n : Nat) {ds : List D} {m : Mem} (hl : ds.length = F.ps) : cfN ft (n + 1) f ds m = crOf (evSs ft (cfN ft n) F.sh F.body ⟨env0 F ds, m⟩) := by
  rw [cf_s h n hl]
  unfold runF
  cases evSs ft (cfN ft n) F.sh F.body ⟨env0 F ds, m⟩ with
  | ok fl s => cases fl <;> rfl
  | exc c fs s => rfl
  | no => rfl
theorem ss_app (ft : Str → Option Fn) (cf : Str → List D → Mem → CR) (sh : List Nat) : ∀ (a b : List St) (s : S), evSs ft cf sh (a ++ b) s = (evSs ft cf sh a s).bind fun f s => match f with
    | .nx => evSs ft cf sh b s
    | .br => .ok .br s
    | .ct => .ok .ct s
    | .rt d fr => .ok (.rt d fr) s
  | [], b, s => rfl
  | x :: a, b, s => by
    rw [List.cons_append, ss_cons, ss_cons, R.assoc]
    congr 1
    funext f s
    cases f <;> first | exact ss_app ft cf sh a b s | rfl
theorem ss_next {ft : Str → Option Fn} {cf : Str → List D → Mem → CR} {sh : List Nat} {a b : List St} {s s' : S} (h : evSs ft cf sh a s = .ok .nx s') : evSs ft cf sh (a ++ b) s = evSs ft cf sh b s' := by
  rw [ss_app, h]
  rfl
end Ly
set_option Elab.async false
set_option linter.all false
set_option maxRecDepth 100000
set_option maxHeartbeats 2000000
/-! Ly21: the laws' own helpers: the feed. -/
namespace Ly
open PySem PySem.Spec PyProof.Rows L2
theorem bcg {α β : Type} {m m' : R α} {f : α → S → R β} (h : m = m') : m.bind f = m'.bind f := by rw [h]
theorem ocg {α β : Type} {m m' : Option α} {f : α → Option β} (h : m = m') : m.bind f = m'.bind f := by rw [h]
namespace H
def b__law_feed : List St := [
  .asg (.v 2) (.bin .add (.bin .mul (.c (.int 7919)) (.v 1)) (.c (.int 12345))),
  .ife (.cmp .lt (.v 1) (.blt .len [.v 0])) [
    .asg (.v 2) (.ix (.v 0) (.v 1))] [
    .ife (.cmp .gt (.blt .len [.v 0]) (.c (.int 0))) [
      .asg (.v 2) (.bin .add (.bin .mul (.bin .mod (.ix (.v 0) (.bin .mod (.v 1) (.blt .len [.v 0]))) (.c (.int 2147483629))) (.c (.int 31))) (.bin .mul (.c (.int 7919)) (.v 1)))] []],
  .asg (.v 3) (.c (.int 0)),
  .ife (.cmp .ge (.v 2) (.bin .pow (.c (.int 10)) (.c (.int 18)))) [
    .asg (.v 3) (.v 2)] [],
  .ret (.lst [.v 3, .bin .add (.bin .mod (.bin .add (.bin .mul (.bin .mod (.v 2) (.c (.int 2147483629))) (.c (.int 48271))) (.bin .mul (.c (.int 40692)) (.v 1))) (.c (.int 2147483646))) (.c (.int 1))])]
def f__law_feed : Fn := ⟨2, 4, [], b__law_feed⟩
def b__law_take : List St := [
  .ife (.cmp .gt (.ix (.v 0) (.c (.int 0))) (.c (.int 0))) [
    .asg (.v 3) (.bin .mod (.ix (.v 0) (.c (.int 0))) (.v 1)),
    .seti (.v 0) (.c (.int 0)) (.bin .fdiv (.ix (.v 0) (.c (.int 0))) (.v 1)),
    .ret (.v 3)] [],
  .asg (.v 2) (.bin .mod (.bin .mul (.ix (.v 0) (.c (.int 1))) (.c (.int 69621))) (.c (.int 2147483647))),
  .seti (.v 0) (.c (.int 1)) (.bin .add (.bin .mod (.bin .add (.bin .mul (.v 2) (.c (.int 48271))) (.c (.int 30103))) (.c (.int 2147483646))) (.c (.int 1))),
  .ret (.bin .mod (.bin .fdiv (.bin .add (.bin .mul (.v 2) (.c (.int 2147483647))) (.ix (.v 0) (.c (.int 1)))) (.c (.int 8191))) (.v 1))]
def f__law_take : Fn := ⟨2, 4, [0], b__law_take⟩
def b__law_whole : List St := [
  .asg (.v 1) (.call "_law_take" [.v 0, .c (.int 8)]),
  .ife (.cmp .lt (.v 1) (.c (.int 4))) [
    .ret (.tup [.c (.str "whole"), .ix (.lst [.c (.int 0), .c (.int 1), .neg (.c (.int 1)), .c (.int 2)]) (.v 1)])] [],
  .ife (.cmp .lt (.v 1) (.c (.int 7))) [
    .ret (.tup [.c (.str "whole"), .bin .sub (.call "_law_take" [.v 0, .c (.int 13)]) (.c (.int 5))])] [],
  .ret (.tup [.c (.str "whole"), .bin .sub (.call "_law_take" [.v 0, .c (.int 1999999999)]) (.c (.int 999999999))])]
def f__law_whole : Fn := ⟨1, 2, [0], b__law_whole⟩
end H
/-- the feed -/
abbrev Fd := Int × Int
def mo (f : Fd) : MO := .lst [.int f.1, .int f.2]
def tk (many : Int) (f : Fd) : Int := if f.1 > 0 then f.1 % many else (f.2 * 69621 % 2147483647 * 2147483647 + ((f.2 * 69621 % 2147483647 * 48271 + 30103) % 2147483646 + 1)) / 8191 % many
def tn (many : Int) (f : Fd) : Fd := if f.1 > 0 then (f.1 / many, f.2) else (f.1, (f.2 * 69621 % 2147483647 * 48271 + 30103) % 2147483646 + 1)
theorem tk_lo {many : Int} (h : 0 < many) (f : Fd) : 0 ≤ tk many f := by
  unfold tk
  split <;> exact Int.emod_nonneg _ (by omega)
theorem tk_hi {many : Int} (h : 0 < many) (f : Fd) : tk many f < many := by
  unfold tk
  split <;> exact Int.emod_lt_of_pos _ h
theorem take_evr {ft : Str → Option Fn} (h : ft "_law_take" = some H.f__law_take) (n : Nat) (f : Fd) (many : Int) (m : Mem) (r : Nat) (hm : m[r]? = some (mo f)) (h0 : 0 < many) (h1 : many < 18446744073709551616) :
   cfN ft (n + 1) "_law_take" [.ref r, .int many] m = .ok (.int (tk many f)) false (m.set r (mo (tn many f))) := by
  obtain ⟨a, b⟩ := f
  have hr : r < m.length := (List.getElem?_eq_some_iff.mp hm).1
  have hs : ∀ x, (m.set r x)[r]? = some x := fun x => List.getElem?_set_self hr
  have hm : m[r]? = some (.lst [.int a, .int b]) := hm
  clear hr
  rw [cf_s h _ rfl]
  unfold tk tn mo
  by_cases ha : a > 0
  · simp [H.f__law_take, H.b__law_take, runF, env0, L2.atI, L2.ixN, setD, putE, putV, putM, D.mo, h0, h1, ha, hm]
  · simp [H.f__law_take, H.b__law_take, runF, env0, L2.atI, L2.ixN, setD, putE, putV, putM, D.mo, h0, h1, ha, hm, hs]
theorem take_ev {ft : Str → Option Fn} (h : ft "_law_take" = some H.f__law_take) (n : Nat) (f : Fd) (many : Int) (rest : Mem) (h0 : 0 < many) (h1 : many < 18446744073709551616) :
   cfN ft (n + 1) "_law_take" [.ref 0, .int many] (mo f :: rest) = .ok (.int (tk many f)) false (mo (tn many f) :: rest) := take_evr h n f many (mo f :: rest) 0 rfl h0 h1
def H.feed1 : List St := [
  .asg (.v 2) (.bin .add (.bin .mul (.c (.int 7919)) (.v 1)) (.c (.int 12345))),
  .ife (.cmp .lt (.v 1) (.blt .len [.v 0])) [
    .asg (.v 2) (.ix (.v 0) (.v 1))] [
    .ife (.cmp .gt (.blt .len [.v 0]) (.c (.int 0))) [
      .asg (.v 2) (.bin .add (.bin .mul (.bin .mod (.ix (.v 0) (.bin .mod (.v 1) (.blt .len [.v 0]))) (.c (.int 2147483629))) (.c (.int 31))) (.bin .mul (.c (.int 7919)) (.v 1)))] []]]
def H.feed2 : List St := [
  .asg (.v 3) (.c (.int 0)),
  .ife (.cmp .ge (.v 2) (.bin .pow (.c (.int 10)) (.c (.int 18)))) [
    .asg (.v 3) (.v 2)] [],
  .ret (.lst [.v 3, .bin .add (.bin .mod (.bin .add (.bin .mul (.bin .mod (.v 2) (.c (.int 2147483629))) (.c (.int 48271))) (.bin .mul (.c (.int 40692)) (.v 1))) (.c (.int 2147483646))) (.c (.int 1))])]
theorem H.feed_eq : H.b__law_feed = H.feed1 ++ H.feed2 := rfl
theorem feed_go {ft : Str → Option Fn} (ns : List Int) (k : Int) (c : Int) (n : Nat) (m : Mem) (e4 : Option (D × Bool)) : evSs ft (cfN ft n) [] H.feed2 ⟨[some (.scr ns, false), some (.int k, false), some (.int c, false), e4], m⟩
      = .ok (.rt (.lst [.int (if c ≥ 1000000000000000000 then c else 0), .int ((c % 2147483629 * 48271 + 40692 * k) % 2147483646 + 1)]) true) ⟨[some (.scr ns, false), some (.int k, false), some (.int c, false), some (.int (if c ≥ 1000000000000000000 then c else 0), false)], m⟩ := by
  by_cases hc : c ≥ 1000000000000000000
  · simp [H.feed2, sizeLine, hc]
  · simp [H.feed2, sizeLine, hc]
theorem feed_pre {ft : Str → Option Fn} (ns : List Int) (k : Int) (hk : 0 ≤ k) : ∃ c : Int, ∀ (n : Nat) (m : Mem), evSs ft (cfN ft n) [] H.feed1 ⟨[some (.scr ns, false), some (.int k, false), none, none], m⟩ = .ok .nx ⟨[some (.scr ns, false), some (.int k, false), some (.int c, false), none], m⟩ := by
  have at_ : ∀ j : Int, 0 ≤ j → j < (ns.length : Int) → ∃ x, L2.atI ns j = some x := fun j h0 h1 => by
    obtain ⟨i, rfl⟩ : ∃ i : Nat, j = (i : Int) := ⟨j.toNat, by omega⟩
    have hi : i < ns.length := by omega
    exact ⟨ns[i], by rw [at_nat hi, List.getElem?_eq_getElem hi]⟩
  have b1 : inB 7919 = true := by decide
  have b2 : inB 31 = true := by decide
  by_cases h1 : k < (ns.length : Int)
  · obtain ⟨x, e⟩ := at_ k hk h1
    refine ⟨x, fun n m => ?_⟩
    simp [H.feed1, e, h1, b1, b2, -inB_lit]
  · by_cases h2 : (0 : Int) < (ns.length : Int)
    · obtain ⟨x, e⟩ := at_ (k % (ns.length : Int)) (Int.emod_nonneg _ (by omega)) (Int.emod_lt_of_pos _ h2)
      refine ⟨x % 2147483629 * 31 + 7919 * k, fun n m => ?_⟩
      have h3 : 0 < ns.length := by omega
      simp [H.feed1, e, h1, h2, h3, b1, b2, -inB_lit]
    · refine ⟨7919 * k + 12345, fun n m => ?_⟩
      have h3 : ¬ 0 < ns.length := by omega
      simp [H.feed1, h1, h2, h3, b1, b2, -inB_lit]
theorem feed_evk {ft : Str → Option Fn} (h : ft "_law_feed" = some H.f__law_feed) (ns : List Int) (k : Int) (hk : 0 ≤ k) : ∃ f : Fd, ∀ (n : Nat) (m : Mem), cfN ft (n + 1) "_law_feed" [.scr ns, .int k] m = .ok (.lst [.int f.1, .int f.2]) true m := by
  obtain ⟨c, hc⟩ := feed_pre (ft := ft) ns k hk
  refine ⟨(if c ≥ 1000000000000000000 then c else 0, (c % 2147483629 * 48271 + 40692 * k) % 2147483646 + 1), fun n m => ?_⟩
  have e : evSs ft (cfN ft n) H.f__law_feed.sh H.f__law_feed.body ⟨env0 H.f__law_feed [.scr ns, .int k], m⟩ = evSs ft (cfN ft n) [] H.feed2 ⟨[some (.scr ns, false), some (.int k, false), some (.int c, false), none], m⟩ := by
    have e0 : env0 H.f__law_feed [.scr ns, .int k] = [some (.scr ns, false), some (.int k, false), none, none] := rfl
    rw [e0, show H.f__law_feed.sh = [] from rfl, show H.f__law_feed.body = H.feed1 ++ H.feed2 from rfl]
    exact ss_next (hc n m)
  rw [cf_r h _ rfl, e, feed_go]
  simp only [crOf]
theorem feed_ev {ft : Str → Option Fn} (h : ft "_law_feed" = some H.f__law_feed) (ns : List Int) : ∃ f : Fd, ∀ (n : Nat) (m : Mem), cfN ft (n + 1) "_law_feed" [.scr ns, .int 0] m = .ok (.lst [.int f.1, .int f.2]) true m := feed_evk h ns 0 (by omega)
theorem whole_evr {ft : Str → Option Fn} (h0 : ft "_law_take" = some H.f__law_take) (h : ft "_law_whole" = some H.f__law_whole) (f : Fd) : ∃ (i : Int) (f' : Fd), ∀ (n : Nat) (m : Mem) (r : Nat), m[r]? = some (mo f) → cfN ft (n + 2) "_law_whole" [.ref r] m = .ok (.tup [.str "whole", .int i]) false (m.set r (mo f')) := by
  have a0 := tk_lo (many := 8) (by decide) f
  have a1 := tk_hi (many := 8) (by decide) f
  have tt : ∀ (n : Nat) (m : Mem) (r : Nat), m[r]? = some (mo f) → cfN ft (n + 1) "_law_take" [.ref r, .int 8] m = .ok (.int (tk 8 f)) false (m.set r (mo (tn 8 f))) ∧
      cfN ft (n + 1) "_law_take" [.ref r, .int 13] (m.set r (mo (tn 8 f))) = .ok (.int (tk 13 (tn 8 f))) false ((m.set r (mo (tn 8 f))).set r (mo (tn 13 (tn 8 f)))) ∧
      cfN ft (n + 1) "_law_take" [.ref r, .int 1999999999] (m.set r (mo (tn 8 f))) = .ok (.int (tk 1999999999 (tn 8 f))) false ((m.set r (mo (tn 8 f))).set r (mo (tn 1999999999 (tn 8 f)))) := fun n m r hm => by
    have hs : (m.set r (mo (tn 8 f)))[r]? = some (mo (tn 8 f)) := List.getElem?_set_self (List.getElem?_eq_some_iff.mp hm).1
    exact ⟨take_evr h0 n f 8 m r hm (by decide) (by decide), take_evr h0 n _ 13 _ r hs (by decide) (by decide), take_evr h0 n _ 1999999999 _ r hs (by decide) (by decide)⟩
  by_cases c1 : tk 8 f < 4
  · have cs : tk 8 f = 0 ∨ tk 8 f = 1 ∨ tk 8 f = 2 ∨ tk 8 f = 3 := by omega
    have ix : ∃ i : Int, L2.atI [D.int 0, .int 1, .int (-1), .int 2] (tk 8 f) = some (.int i) := by
      rcases cs with c | c | c | c <;> rw [c] <;> exact ⟨_, rfl⟩
    obtain ⟨i, hi⟩ := ix
    refine ⟨i, tn 8 f, fun n m r hm => ?_⟩
    obtain ⟨t1, t2, t3⟩ := tt n m r hm
    rw [cf_s h _ rfl]
    simp [H.f__law_whole, H.b__law_whole, runF, env0, sizeLine, ev_call ft _ _ h0, t1, c1, hi, show H.f__law_take.sh = [0] from rfl, show H.f__law_take.ps = 2 from rfl]
  · by_cases c2 : tk 8 f < 7
    · refine ⟨tk 13 (tn 8 f) - 5, tn 13 (tn 8 f), fun n m r hm => ?_⟩
      obtain ⟨t1, t2, t3⟩ := tt n m r hm
      rw [cf_s h _ rfl]
      simp [H.f__law_whole, H.b__law_whole, runF, env0, sizeLine, ev_call ft _ _ h0, t1, t2, c1, c2, show H.f__law_take.sh = [0] from rfl, show H.f__law_take.ps = 2 from rfl]
    · refine ⟨tk 1999999999 (tn 8 f) - 999999999, tn 1999999999 (tn 8 f), fun n m r hm => ?_⟩
      obtain ⟨t1, t2, t3⟩ := tt n m r hm
      rw [cf_s h _ rfl]
      simp [H.f__law_whole, H.b__law_whole, runF, env0, sizeLine, ev_call ft _ _ h0, t1, t3, c1, c2, show H.f__law_take.sh = [0] from rfl, show H.f__law_take.ps = 2 from rfl]
theorem whole_ev {ft : Str → Option Fn} (h0 : ft "_law_take" = some H.f__law_take) (h : ft "_law_whole" = some H.f__law_whole) (f : Fd) : ∃ (i : Int) (f' : Fd), ∀ (n : Nat) (rest : Mem), cfN ft (n + 2) "_law_whole" [.ref 0] (mo f :: rest) = .ok (.tup [.str "whole", .int i]) false (mo f' :: rest) := by
  obtain ⟨i, f', hw⟩ := whole_evr h0 h f
  exact ⟨i, f', fun n rest => hw n (mo f :: rest) 0 rfl⟩
end Ly
set_option Elab.async false
set_option linter.all false
set_option maxRecDepth 100000
set_option maxHeartbeats 2000000
/-! Ly22: loops, slices. -/
namespace Ly
open PySem PySem.Spec PyProof.Rows L2
theorem wh_s {c : S → R Bool} {body : S → R Fl} {n : Nat} {s : S} : whL c body (n + 1) s = (c s).bind fun b s => if b then (body s).bind fun f s => match f with
      | .nx => whL c body n s
      | .ct => whL c body n s
      | .br => .ok .nx s
      | .rt d fr => .ok (.rt d fr) s
    else .ok .nx s := rfl
theorem fo_s {tgt : D → S → R Unit} {body : S → R Fl} {x : D} {xs : List D} {s : S} : forL tgt body (x :: xs) s = (tgt x s).bind fun _ s => (body s).bind fun f s => match f with
      | .nx => forL tgt body xs s
      | .ct => forL tgt body xs s
      | .br => .ok .nx s
      | .rt d fr => .ok (.rt d fr) s := rfl
@[simp] theorem fo_n {tgt : D → S → R Unit} {body : S → R Fl} {s : S} : forL tgt body [] s = .ok .nx s := rfl
section
variable (ft : Str → Option Fn) (cf : Str → List D → Mem → CR) (sh : List Nat) (s : S)
theorem st_whl (c : E) (body : List St) : evS ft cf sh (.whl c body) s = whL (fun s => toB (evE ft cf c s)) (fun s => evSs ft cf sh body s) whFuel s := rfl
theorem st_for (t : T) (k : IK) (es : List E) (body : List St) : evS ft cf sh (.for_ t k es body) s = ((evEs ft cf es s).bind fun ds s => liftO s (walkD k ds)).bind fun xs s => forL (fun x s => asgT sh t x false s) (fun s => evSs ft cf sh body s) xs s := rfl
theorem ev_lc (elt : E) (tg : T) (k : IK) (its ifs : List E) (own : List Nat) : evE ft cf (.lc elt tg k its ifs own) s = ((evEs ft cf its s).bind fun ds s => liftO s (walkD k ds)).bind fun xs s => if ownFree s.env own then
        (lcLoop (fun s => (evTs ft cf ifs s).bind fun b s => if b then (evE ft cf elt s).bind fun p s => .ok (some p.1) s else .ok none s) tg own xs [] s).noX.bind fun ys s' =>
          .ok (.lst ys, true) { s' with env := backE s.env s'.env own } else .no := rfl
end
theorem wipe_len (env : Env) : ∀ own, (wipeE env own).length = env.length
  | [] => rfl
  | v :: vs => by show ((wipeE env vs).set v none).length = _; rw [List.length_set, wipe_len env vs]
theorem back_eq {old env env' : Env} : ∀ {own : List Nat}, wipeE env' own = wipeE env own → backE old env' own = backE old env own := by
  have at_out : ∀ {env : Env} {i : Nat} {own : List Nat}, i ∉ own → (wipeE env own)[i]? = env[i]? := fun {env i own} h => by
    induction own with
    | nil => rfl
    | cons v vs ih =>
      show ((wipeE env vs).set v none)[i]? = _
      rw [List.getElem?_set_ne (fun z => h (by rw [z]; exact List.mem_cons_self)), ih fun z => h (List.mem_cons_of_mem _ z)]
  have at_in : ∀ {old env : Env} {i : Nat} {own : List Nat}, i ∈ own → (backE old env own)[i]? = if i < env.length then some ((old[i]?).join) else none := fun {old env i own} h => by
    induction own with
    | nil => cases h
    | cons v vs ih =>
      show ((backE old env vs).set v ((old[v]?).join))[i]? = _
      by_cases e : v = i
      · subst e
        rw [List.getElem?_set]
        simp [backE_len]
      · rw [List.getElem?_set_ne e]
        exact ih ((List.mem_cons.mp h).resolve_left fun q => e q.symm)
  intro own h
  have hl : env'.length = env.length := by
    have := congrArg List.length h
    rw [wipe_len, wipe_len] at this
    exact this
  apply List.ext_getElem?
  intro i
  by_cases hi : i ∈ own
  · rw [at_in hi, at_in hi, hl]
  · rw [backE_out _ _ hi, backE_out _ _ hi, ← at_out hi, h, at_out hi]
theorem back_self {env : Env} : ∀ {own : List Nat}, backE env env own = env
  | [] => rfl
  | v :: vs => by
    show (backE env env vs).set v ((env[v]?).join) = env
    rw [back_self]
    apply List.ext_getElem?
    intro i
    by_cases e : v = i
    · subst e
      rw [List.getElem?_set]
      by_cases hl : v < env.length
      · simp only [hl, if_true, List.getElem?_eq_getElem hl]
        rfl
      · simp [hl]
    · rw [List.getElem?_set_ne e]
/-- a comprehension whose every turn gives a value with Pd; the store moves by M -/
theorem lc_loop {α : Type} {M : α → Mem} {F : S → R (Option D)} {tg : T} {own : List Nat} {W : Env} {Pd : D → Prop} : ∀ (xs acc : List D) (env : Env) (a : α), wipeE env own = W → acc.length + xs.length ≤ sizeLine →
    (∀ x ∈ xs, ∀ a : α, ∃ d a' env', Pd d ∧ wipeE env' own = W ∧ ((asgT [] tg x false ⟨W, M a⟩).bind fun _ s => F s) = .ok (some d) ⟨env', M a'⟩) →
    ∃ ds a' env', ds.length = xs.length ∧ (∀ d ∈ ds, Pd d) ∧ wipeE env' own = W ∧ lcLoop F tg own xs acc ⟨env, M a⟩ = .ok (acc ++ ds) ⟨env', M a'⟩
  | [], acc, env, a, hW, _, _ => ⟨[], a, env, rfl, fun _ h => (nomatch h), hW, by rw [List.append_nil]; rfl⟩
  | x :: xs, acc, env, a, hW, hl, h => by
    obtain ⟨d, a1, env1, p1, w1, e1⟩ := h x List.mem_cons_self a
    obtain ⟨ds, a2, env2, l2, p2, w2, e2⟩ := lc_loop xs (acc ++ [d]) env1 a1 w1 (by simp at hl ⊢; omega) fun y hy => h y (List.mem_cons_of_mem _ hy)
    refine ⟨d :: ds, a2, env2, by simp [l2], fun y hy => ?_, w2, ?_⟩
    · rcases List.mem_cons.mp hy with z | z
      · rw [z]; exact p1
      · exact p2 y z
    · show ((asgT [] tg x false ⟨wipeE env own, M a⟩).bind fun _ s1 => (F s1).bind fun o s2 => match o with
        | none => lcLoop F tg own xs acc s2
        | some d => if acc.length < sizeLine then lcLoop F tg own xs (acc ++ [d]) s2 else .no) = _
      rw [hW, ← R.assoc, e1]
      show (if acc.length < sizeLine then lcLoop F tg own xs (acc ++ [d]) ⟨env1, M a1⟩ else .no) = _
      rw [if_pos (by simp at hl; omega), e2]
      simp
theorem lc_ev {α : Type} {M : α → Mem} {ft : Str → Option Fn} {cf : Str → List D → Mem → CR} {elt : E} {tg : T} {k : IK} {its : List E} {own : List Nat} {s : S} {env : Env} {xs : List D} {Pd : D → Prop} (a : α)
    (h0 : ((evEs ft cf its s).bind fun ds s => liftO s (walkD k ds)) = .ok xs ⟨env, M a⟩) (ho : ownFree env own = true) (hl : xs.length ≤ sizeLine)
    (h : ∀ x ∈ xs, ∀ a : α, ∃ d a' env' fr, Pd d ∧ wipeE env' own = wipeE env own ∧ ((asgT [] tg x false ⟨wipeE env own, M a⟩).bind fun _ s => evE ft cf elt s) = .ok (d, fr) ⟨env', M a'⟩) :
    ∃ ds a', ds.length = xs.length ∧ (∀ d ∈ ds, Pd d) ∧ evE ft cf (.lc elt tg k its [] own) s = .ok (.lst ds, true) ⟨env, M a'⟩ := by
  obtain ⟨ds, a', env', h1, h2, h3, h4⟩ := lc_loop (M := M) (F := fun s => (evTs ft cf [] s).bind fun b s => if b then (evE ft cf elt s).bind fun p s => .ok (some p.1) s else .ok none s) (tg := tg) (own := own) (W := wipeE env own) (Pd := Pd) xs [] env a rfl (by simpa using hl) fun x hx a => by
    obtain ⟨d, a', env', fr, p, w, e⟩ := h x hx a
    refine ⟨d, a', env', p, w, ?_⟩
    show ((asgT [] tg x false ⟨wipeE env own, M a⟩).bind fun _ s => (evE ft cf elt s).bind fun p s => .ok (some p.1) s) = _
    rw [← R.assoc, e]
    rfl
  refine ⟨ds, a', h1, h2, ?_⟩
  rw [Ly.ev_lc, h0]
  show (if ownFree env own then _ else _) = _
  rw [if_pos ho, h4]
  show R.ok (D.lst ([] ++ ds), true) ⟨backE env env' own, M a'⟩ = _
  rw [back_eq h3, back_self]
  rfl

/-! slices -/
theorem cut_lo {xs : List D} {k : Nat} (h : k ≤ xs.length) : cutD xs none (some (k : Int)) = xs.take k := by
  unfold cutD
  rw [HT.sIx_none, HT.sIx_nat, Nat.min_eq_left h]
  simp
theorem cut_hi {xs : List D} {k : Nat} (h : k ≤ xs.length) : cutD xs (some (k : Int)) none = xs.drop k := by
  unfold cutD
  rw [HT.sIx_none, HT.sIx_nat, Nat.min_eq_left h]
  rw [List.take_of_length_le (by simp)]
@[simp] theorem sl_T (xs : List D) (lo hi : Option Int) : opSl (.tup xs) lo hi = some (.tup (cutD xs lo hi), false) := id rfl
@[simp] theorem sl_L (xs : List D) (lo hi : Option Int) : opSl (.lst xs) lo hi = some (.lst (cutD xs lo hi), true) := id rfl
@[simp] theorem part_nil (d : D) : partI .nil d = some none := id rfl
theorem part_int {e : E} (h : isNil e = false) (i : Int) : partI e (.int i) = some (some i) := by
  cases e <;> first | rfl | cases h

@[simp] theorem asgT_t (sh : List Nat) (i : Nat) (d : D) (env : Env) (m : Mem) : asgT sh (.v i) d true ⟨env, m⟩ = if sh.contains i = true then (match alloc m d with
    | some (r, m') => .ok () ⟨env.set i (some (r, false)), m'⟩
    | none => .no) else .ok () ⟨env.set i (some (d, true)), m⟩ := id rfl
@[simp] theorem argIn_t (sh : List Nat) (i : Nat) (d : D) (s : S) : argIn sh i (d, true) s = if sh.contains i = true then (match alloc s.mem d with
    | some (r, m') => .ok r { s with mem := m' }
    | none => .no) else .ok d s := id rfl
@[simp] theorem alloc_l (m : Mem) (xs : List D) : alloc m (.lst xs) = some (.ref m.length, m ++ [.lst xs]) := id rfl
@[simp] theorem alloc_d (m : Mem) (ks vs : List D) : alloc m (.dct ks vs) = some (.ref m.length, m ++ [.dct ks vs]) := id rfl

@[simp] theorem part_v (j : Nat) (i : Int) : partI (.v j) (.int i) = some (some i) := id rfl
@[simp] theorem part_c (d : D) (i : Int) : partI (.c d) (.int i) = some (some i) := id rfl
@[simp] theorem part_bin (op : Op2) (a b : E) (i : Int) : partI (.bin op a b) (.int i) = some (some i) := id rfl
@[simp] theorem part_neg (a : E) (i : Int) : partI (.neg a) (.int i) = some (some i) := id rfl
@[simp] theorem part_ix (a b : E) (i : Int) : partI (.ix a b) (.int i) = some (some i) := id rfl
@[simp] theorem part_call (f : Str) (es : List E) (i : Int) : partI (.call f es) (.int i) = some (some i) := id rfl
@[simp] theorem part_blt (f : Bf) (es : List E) (i : Int) : partI (.blt f es) (.int i) = some (some i) := id rfl

/-- a comprehension that gives g of each -/
theorem lc_map {ft : Str → Option Fn} {cf : Str → List D → Mem → CR} {elt : E} {tg : T} {k : IK} {its : List E} {own : List Nat} {s : S} {env : Env} {m : Mem} {xs : List D} (g : D → D)
    (h0 : ((evEs ft cf its s).bind fun ds s => liftO s (walkD k ds)) = .ok xs ⟨env, m⟩) (ho : ownFree env own = true) (hl : xs.length ≤ sizeLine)
    (h : ∀ x ∈ xs, ∃ env' fr, wipeE env' own = wipeE env own ∧ ((asgT [] tg x false ⟨wipeE env own, m⟩).bind fun _ s => evE ft cf elt s) = .ok (g x, fr) ⟨env', m⟩) :
    evE ft cf (.lc elt tg k its [] own) s = .ok (.lst (xs.map g), true) ⟨env, m⟩ := by
  have loop : ∀ (xs acc : List D) (env1 : Env), wipeE env1 own = wipeE env own → acc.length + xs.length ≤ sizeLine → (∀ x ∈ xs, ∃ env' fr, wipeE env' own = wipeE env own ∧ ((asgT [] tg x false ⟨wipeE env own, m⟩).bind fun _ s => evE ft cf elt s) = .ok (g x, fr) ⟨env', m⟩) →
      ∃ env', wipeE env' own = wipeE env own ∧ lcLoop (fun s => (evTs ft cf [] s).bind fun b s => if b then (evE ft cf elt s).bind fun p s => .ok (some p.1) s else .ok none s) tg own xs acc ⟨env1, m⟩ = .ok (acc ++ xs.map g) ⟨env', m⟩ := by
    intro xs
    induction xs with
    | nil => intro acc env1 hw _ _; exact ⟨env1, hw, by rw [List.map_nil, List.append_nil]; rfl⟩
    | cons x xs ih =>
      intro acc env1 hw hl h
      obtain ⟨env2, fr, w2, e2⟩ := h x List.mem_cons_self
      obtain ⟨env3, w3, e3⟩ := ih (acc ++ [g x]) env2 w2 (by simp at hl ⊢; omega) fun y hy => h y (List.mem_cons_of_mem _ hy)
      refine ⟨env3, w3, ?_⟩
      show ((asgT [] tg x false ⟨wipeE env1 own, m⟩).bind fun _ s1 => ((evE ft cf elt s1).bind fun p s => R.ok (some p.1) s).bind fun o s2 => match o with
        | none => lcLoop _ tg own xs acc s2
        | some d => if acc.length < sizeLine then lcLoop _ tg own xs (acc ++ [d]) s2 else .no) = _
      rw [hw, ← R.assoc, ← R.assoc, e2]
      show (if acc.length < sizeLine then _ else R.no) = _
      rw [if_pos (by simp at hl; omega)]
      refine e3.trans ?_
      simp
  obtain ⟨env', w, e⟩ := loop xs [] env rfl (by simpa using hl) h
  rw [Ly.ev_lc, h0]
  show (if ownFree env own then _ else _) = _
  rw [if_pos ho, e]
  show R.ok (D.lst ([] ++ xs.map g), true) ⟨backE env env' own, m⟩ = _
  rw [back_eq w, back_self]
  rfl

theorem wh_cg {c : S → R Bool} {body : S → R Fl} {n : Nat} {s s' : S} (h : s = s') : whL c body n s = whL c body n s' := by rw [h]
theorem fo_cg {tgt : D → S → R Unit} {body : S → R Fl} {xs xs' : List D} {s s' : S} (hx : xs = xs') (h : s = s') : forL tgt body xs s = forL tgt body xs' s' := by rw [h, hx]
theorem lc_cg {f : S → R (Option D)} {tg : T} {own : List Nat} {xs xs' acc acc' : List D} {s s' : S} (hx : xs = xs') (ha : acc = acc') (h : s = s') : lcLoop f tg own xs acc s = lcLoop f tg own xs' acc' s' := by rw [h, hx, ha]

end Ly
set_option Elab.async false
set_option linter.all false
set_option maxRecDepth 100000
set_option maxHeartbeats 2000000
/-! Ly23: the laws' own helpers: sameness. -/
namespace Ly
open PySem PySem.Spec PyProof.Rows L2
namespace H
def b__law_same : List St := [
  .ife (.isi (.v 1) .tuple) [
    .ife (.or (.not (.isi (.v 0) .tuple)) (.cmp .ne (.blt .len [.v 0]) (.blt .len [.v 1]))) [
      .ret (.c (.bl false))] [],
    .for_ (.tup [2, 3]) .zip [.v 0, .v 1] [
      .ife (.not (.call "_law_same" [.v 2, .v 3])) [
        .ret (.c (.bl false))] []],
    .ret (.c (.bl true))] [],
  .ife (.isi (.v 1) .str) [
    .ret (.and (.isi (.v 0) .str) (.cmp .eq (.v 0) (.v 1)))] [],
  .ret (.and (.isi (.v 0) .int) (.and (.not (.isi (.v 0) .bool)) (.cmp .eq (.v 0) (.v 1))))]
def f__law_same : Fn := ⟨2, 4, [], b__law_same⟩
end H
mutual
/-- tuples of texts, whole numbers, such tuples -/
def D.smp : D → Bool
  | .int _ => true
  | .str _ => true
  | .tup xs => D.smps xs
  | _ => false
def D.smps : List D → Bool
  | [] => true
  | x :: xs => D.smp x && D.smps xs
end
theorem deref_smp {d : D} (h : D.smp d = true) (m : Mem) : deref m d = some d := by
  cases d <;> first | rfl | cases h
theorem typed_smp {d : D} (h : D.smp d = true) : D.typed d = true := by
  cases d <;> first | rfl | cases h
mutual
theorem same_refl {ft : Str → Option Fn} (h : ft "_law_same" = some H.f__law_same) : ∀ (d : D), D.smp d = true → ∀ (n : Nat) (m : Mem), D.dep d < n → cfN ft n "_law_same" [d, d] m = .ok (.bl true) false m
  | .int i, _, n + 1, m, _ => by
    rw [cf_s h _ rfl]
    simp [H.f__law_same, H.b__law_same, runF, env0, D.typed, isTy]
  | .str x, _, n + 1, m, _ => by
    rw [cf_s h _ rfl]
    simp [H.f__law_same, H.b__law_same, runF, env0, D.typed, isTy]
  | .tup xs, hs, n + 1, m, hn => by
    have hn : D.deps xs + 1 < n + 1 := hn
    obtain ⟨a, b, hl⟩ := same_loop h xs hs n m (by omega) (.tup xs) none none
    have e1 : evS ft (cfN ft n) [] (.ife (.or (.not (.isi (.v 0) .tuple)) (.cmp .ne (.blt .len [.v 0]) (.blt .len [.v 1]))) [
      .ret (.c (.bl false))] []) ⟨[some (.tup xs, false), some (.tup xs, false), none, none], m⟩ = .ok .nx ⟨[some (.tup xs, false), some (.tup xs, false), none, none], m⟩ := by
      simp [D.typed, isTy]
    have e2 : evS ft (cfN ft n) [] (.for_ (.tup [2, 3]) .zip [.v 0, .v 1] [
      .ife (.not (.call "_law_same" [.v 2, .v 3])) [
        .ret (.c (.bl false))] []]) ⟨[some (.tup xs, false), some (.tup xs, false), none, none], m⟩ = .ok .nx ⟨[some (.tup xs, false), some (.tup xs, false), a, b], m⟩ := hl
    have e3 : evSs ft (cfN ft n) [] H.b__law_same ⟨[some (.tup xs, false), some (.tup xs, false), none, none], m⟩ = .ok (.rt (.bl true) false) ⟨[some (.tup xs, false), some (.tup xs, false), a, b], m⟩ := by
      unfold H.b__law_same
      rw [ss_cons, st_ife]
      have e0 : toB (evE ft (cfN ft n) (.isi (.v 1) .tuple) ⟨[some (.tup xs, false), some (.tup xs, false), none, none], m⟩) = .ok true ⟨[some (.tup xs, false), some (.tup xs, false), none, none], m⟩ := rfl
      rw [e0, R.bind_ok, if_pos rfl, ss_cons, e1, R.bind_ok]
      show ((evSs ft (cfN ft n) [] (_ :: _) _).bind _) = _
      rw [ss_cons, e2]
      rfl
    rw [cf_r h _ rfl]
    show crOf (evSs ft (cfN ft n) [] H.b__law_same ⟨[some (.tup xs, false), some (.tup xs, false), none, none], m⟩) = _
    rw [e3]
    rfl
  | .non, hs, _, _, _ => nomatch hs
  | .bl _, hs, _, _, _ => nomatch hs
  | .lst _, hs, _, _, _ => nomatch hs
  | .dct _ _, hs, _, _, _ => nomatch hs
  | .ref _, hs, _, _, _ => nomatch hs
  | .scr _, hs, _, _, _ => nomatch hs
theorem same_loop {ft : Str → Option Fn} (h : ft "_law_same" = some H.f__law_same) : ∀ (xs : List D), D.smps xs = true → ∀ (n : Nat) (m : Mem), D.deps xs < n → ∀ (w : D) (a b : Option (D × Bool)), ∃ (a' b' : Option (D × Bool)),
    forL (fun x s => asgT [] (.tup [2, 3]) x false s) (fun s => evSs ft (cfN ft n) [] [
      .ife (.not (.call "_law_same" [.v 2, .v 3])) [
        .ret (.c (.bl false))] []] s) (zipD xs xs) ⟨[some (w, false), some (w, false), a, b], m⟩ = .ok .nx ⟨[some (w, false), some (w, false), a', b'], m⟩
  | [], _, n, m, _, w, a, b => ⟨a, b, rfl⟩
  | x :: xs, hs, n, m, hn, w, a, b => by
    obtain ⟨h1, h2⟩ := Bool.and_eq_true_iff.mp (show (D.smp x && D.smps xs) = true from hs)
    have hn : max (D.dep x) (D.deps xs) < n := hn
    have e := same_refl h x h1 n m (by omega)
    obtain ⟨a', b', l⟩ := same_loop h xs h2 n m (by omega) w (some (x, false)) (some (x, false))
    refine ⟨a', b', ?_⟩
    rw [← l]
    show forL _ _ (.tup [x, x] :: zipD xs xs) _ = _
    rw [fo_s]
    simp [asgT, asgs, ev_call ft _ _ h, e, show H.f__law_same.sh = [] from rfl, show H.f__law_same.ps = 2 from rfl]
end
end Ly
set_option Elab.async false
set_option linter.all false
set_option maxRecDepth 100000
set_option maxHeartbeats 2000000
/-! Ly24: loops by invariants; the feed in any store. -/
namespace Ly
open PySem PySem.Spec PyProof.Rows L2
/-- the store as it goes with a feed -/
structure Cell (M : Fd → Mem) (r : Nat) : Prop where
  get : ∀ f, (M f)[r]? = some (mo f)
  put : ∀ f g, (M f).set r (mo g) = M g
theorem Cell.one : Cell (fun f => [mo f]) 0 := ⟨fun _ => rfl, fun _ _ => rfl⟩
theorem Cell.two (f0 : MO) : Cell (fun f => [f0, mo f]) 1 := ⟨fun _ => rfl, fun _ _ => rfl⟩
theorem Cell.three (f0 f1 : MO) : Cell (fun f => [f0, f1, mo f]) 2 := ⟨fun _ => rfl, fun _ _ => rfl⟩
theorem take_c {ft : Str → Option Fn} (h : ft "_law_take" = some H.f__law_take) {M : Fd → Mem} {r : Nat} (hM : Cell M r) (n : Nat) (f : Fd) (many : Int) (h0 : 0 < many) (h1 : many < 18446744073709551616) :
   cfN ft (n + 1) "_law_take" [.ref r, .int many] (M f) = .ok (.int (tk many f)) false (M (tn many f)) := by
  rw [take_evr h n f many (M f) r (hM.get f) h0 h1, hM.put]
theorem whole_c {ft : Str → Option Fn} (h0 : ft "_law_take" = some H.f__law_take) (h : ft "_law_whole" = some H.f__law_whole) (f : Fd) : ∃ (i : Int) (f' : Fd), ∀ (n : Nat) (M : Fd → Mem) (r : Nat), Cell M r → cfN ft (n + 2) "_law_whole" [.ref r] (M f) = .ok (.tup [.str "whole", .int i]) false (M f') := by
  obtain ⟨i, f', hw⟩ := whole_evr h0 h f
  exact ⟨i, f', fun n M r hM => by rw [hw n (M f) r (hM.get f), hM.put]⟩
@[simp] theorem b2i_f : b2i false = 0 := rfl
@[simp] theorem b2i_t : b2i true = 1 := rfl
theorem sl_le {n : Nat} (h : n ≤ 16777216) : n ≤ sizeLine := h
theorem sl_lt {n : Nat} (h : n < 16777216) : n < sizeLine := h
@[simp] theorem sl1 : 1 ≤ sizeLine := sl_le (by omega)
@[simp] theorem sl2 : 2 ≤ sizeLine := sl_le (by omega)
@[simp] theorem sl3 : 3 ≤ sizeLine := sl_le (by omega)
@[simp] theorem sl4 : 4 ≤ sizeLine := sl_le (by omega)
@[simp] theorem sl5 : 5 ≤ sizeLine := sl_le (by omega)
@[simp] theorem sl6 : 6 ≤ sizeLine := sl_le (by omega)
@[simp] theorem sl7 : 7 ≤ sizeLine := sl_le (by omega)
@[simp] theorem sl8 : 8 ≤ sizeLine := sl_le (by omega)
@[simp] theorem sl9 : 9 ≤ sizeLine := sl_le (by omega)
@[simp] theorem slp : 0 < sizeLine := sl_lt (by omega)
@[simp] theorem sl01 : 1 < sizeLine := sl_lt (by omega)
@[simp] theorem sl02 : 2 < sizeLine := sl_lt (by omega)
/-! for -/
theorem for_at {ft : Str → Option Fn} {cf : Str → List D → Mem → CR} {sh : List Nat} {t : T} {k : IK} {es : List E} {body : List St} {s s1 : S} {ds xs : List D} (h : evEs ft cf es s = .ok ds s1) (hw : walkD k ds = some xs) :
    evS ft cf sh (.for_ t k es body) s = forL (fun x s => asgT sh t x false s) (fun s => evSs ft cf sh body s) xs s1 := by
  rw [st_for, h]
  show ((liftO s1 (walkD k ds)).bind _) = _
  rw [hw]
  rfl
theorem st_forR {ft : Str → Option Fn} {cf : Str → List D → Mem → CR} {sh : List Nat} {t : T} {e : E} {body : List St} {s s1 : S} {n : Nat} {fr : Bool} (h : evE ft cf e s = .ok (.ref n, fr) s1) :
    evS ft cf sh (.forR t e body) s = forR (fun x s => asgT sh t x false s) (fun s => evSs ft cf sh body s) n whFuel 0 s1 := by
  rw [evS, h]
  rfl
theorem st_forL {ft : Str → Option Fn} {cf : Str → List D → Mem → CR} {sh : List Nat} {t : T} {e : E} {body : List St} {s s1 : S} {xs : List D} {fr : Bool} (h : evE ft cf e s = .ok (.lst xs, fr) s1) :
    evS ft cf sh (.forR t e body) s = forL (fun x s => asgT sh t x false s) (fun s => evSs ft cf sh body s) xs s1 := by
  rw [evS, h]
  rfl
section
variable {α : Type} {tgt : D → S → R Unit} {body : S → R Fl}
theorem for_go (St : α → S) (I : List D → α → Prop) (hs : ∀ x xs a, I (x :: xs) a → ∃ a', I xs a' ∧ (((tgt x (St a)).bind fun _ s => body s) = .ok .nx (St a') ∨ ((tgt x (St a)).bind fun _ s => body s) = .ok .ct (St a'))) :
    ∀ (xs : List D) (a : α), I xs a → ∃ a', I [] a' ∧ forL tgt body xs (St a) = .ok .nx (St a')
  | [], a, h => ⟨a, h, rfl⟩
  | x :: xs, a, h => by
    obtain ⟨a1, h1, e⟩ := hs x xs a h
    obtain ⟨a2, h2, e2⟩ := for_go St I hs xs a1 h1
    refine ⟨a2, h2, ?_⟩
    rw [fo_s, ← R.assoc]
    rcases e with e | e <;> (rw [e]; exact e2)
theorem for_rt (St : α → S) (I : List D → α → Prop) (P : D → Bool → S → Prop) (hs : ∀ x xs a, I (x :: xs) a → (∃ a', I xs a' ∧ (((tgt x (St a)).bind fun _ s => body s) = .ok .nx (St a') ∨ ((tgt x (St a)).bind fun _ s => body s) = .ok .ct (St a'))) ∨
      ∃ d fr s', P d fr s' ∧ ((tgt x (St a)).bind fun _ s => body s) = .ok (.rt d fr) s') :
    ∀ (xs : List D) (a : α), I xs a → (∃ a', I [] a' ∧ forL tgt body xs (St a) = .ok .nx (St a')) ∨ ∃ d fr s', P d fr s' ∧ forL tgt body xs (St a) = .ok (.rt d fr) s'
  | [], a, h => .inl ⟨a, h, rfl⟩
  | x :: xs, a, h => by
    rcases hs x xs a h with ⟨a1, h1, e⟩ | ⟨d, fr, s', p, e⟩
    · rcases for_rt St I P hs xs a1 h1 with ⟨a2, h2, e2⟩ | ⟨d, fr, s', p, e2⟩
      · refine .inl ⟨a2, h2, ?_⟩
        rw [fo_s, ← R.assoc]
        rcases e with e | e <;> (rw [e]; exact e2)
      · refine .inr ⟨d, fr, s', p, ?_⟩
        rw [fo_s, ← R.assoc]
        rcases e with e | e <;> (rw [e]; exact e2)
    · refine .inr ⟨d, fr, s', p, ?_⟩
      rw [fo_s, ← R.assoc, e]
      rfl
theorem for_fold (St : α → S) (step : α → D → α) (hs : ∀ x a, ((tgt x (St a)).bind fun _ s => body s) = .ok .nx (St (step a x))) :
    ∀ (xs : List D) (a : α), forL tgt body xs (St a) = .ok .nx (St (xs.foldl step a))
  | [], a => rfl
  | x :: xs, a => by
    rw [fo_s, ← R.assoc, hs]
    exact for_fold St step hs xs (step a x)
end
section
variable {α : Type} {tgt : D → S → R Unit} {body : S → R Fl} {n : Nat}
theorem forR_s {k i : Nat} {s : S} {xs : List D} {x : D} (hm : s.mem[n]? = some (.lst xs)) (hx : xs[i]? = some x) : forR tgt body n (k + 1) i s = (tgt x s).bind fun _ s => (body s).bind fun f s => match f with
      | .nx => forR tgt body n k (i + 1) s
      | .ct => forR tgt body n k (i + 1) s
      | .br => .ok .nx s
      | .rt d fr => .ok (.rt d fr) s := by
  rw [forR, hm]
  show (match xs[i]? with | some x => _ | none => _) = _
  rw [hx]
  all_goals rfl
theorem forR_n {k i : Nat} {s : S} {xs : List D} (hm : s.mem[n]? = some (.lst xs)) (hx : xs[i]? = none) : forR tgt body n (k + 1) i s = .ok .nx s := by
  rw [forR, hm]
  show (match xs[i]? with | some x => _ | none => _) = _
  rw [hx]
  all_goals rfl
theorem forR_go (St : α → S) (xs : List D) (I : Nat → α → Prop) (hm : ∀ i a, I i a → (St a).mem[n]? = some (.lst xs)) (hs : ∀ i x a, xs[i]? = some x → I i a → ∃ a', I (i + 1) a' ∧ (((tgt x (St a)).bind fun _ s => body s) = .ok .nx (St a') ∨ ((tgt x (St a)).bind fun _ s => body s) = .ok .ct (St a'))) :
    ∀ (k i : Nat) (a : α), xs.length < k + i → i ≤ xs.length → I i a → ∃ a', I xs.length a' ∧ forR tgt body n k i (St a) = .ok .nx (St a')
  | 0, i, a, h1, h2, _ => by omega
  | k + 1, i, a, h1, h2, h => by
    cases hx : xs[i]? with
    | none =>
      have : xs.length ≤ i := List.getElem?_eq_none_iff.mp hx
      have e : i = xs.length := by omega
      refine ⟨a, by rw [← e]; exact h, forR_n (hm i a h) hx⟩
    | some x =>
      obtain ⟨a1, i1, e⟩ := hs i x a hx h
      have hlt := (List.getElem?_eq_some_iff.mp hx).1
      obtain ⟨a2, i2, e2⟩ := forR_go St xs I hm hs k (i + 1) a1 (by omega) (by omega) i1
      refine ⟨a2, i2, ?_⟩
      rw [forR_s (hm i a h) hx, ← R.assoc]
      rcases e with e | e <;> (rw [e]; exact e2)
end
/-! more steps -/
section
variable (i j : Int) (x y : Str) (xs ys : List D) (d : D)
@[simp] theorem f_tupL : bfn .tuple [.lst xs] = some (.tup xs, false) := id rfl
@[simp] theorem f_tupT : bfn .tuple [.tup xs] = some (.tup xs, false) := id rfl
@[simp] theorem f_lisT : bfn .list [.tup xs] = some (.lst xs, true) := id rfl
@[simp] theorem f_lisL : bfn .list [.lst xs] = some (.lst xs, true) := id rfl
@[simp] theorem f_intI : bfn .int [.int i] = some (.int i, false) := id rfl
@[simp] theorem f_intB (b : Bool) : bfn .int [.bl b] = some (.int (if b then 1 else 0), false) := id rfl
@[simp] theorem f_maxI : bfn .max [.int i, .int j] = some (.int (if j > i then j else i), false) := id rfl
@[simp] theorem f_minI : bfn .min [.int i, .int j] = some (.int (if j < i then j else i), false) := id rfl
@[simp] theorem f_lenS : bfn .len [.str x] = if x.length ≤ sizeLine then some (.int x.length, false) else none := id rfl
@[simp] theorem w_L : walkD .seq [.lst xs] = some xs := id rfl
@[simp] theorem w_T : walkD .seq [.tup xs] = some xs := id rfl
@[simp] theorem w_S : walkD .seq [.str x] = if x.length ≤ sizeLine then some (x.cps.toList.map fun c => .str ⟨#[c]⟩) else none := id rfl
@[simp] theorem w_R : walkD .rng [.int i] = if small62 i then some (rngL 0 i.toNat) else none := id rfl
@[simp] theorem m_app : mwr .append (.lst xs) [d] = if xs.length < sizeLine then some (.non, .lst (xs ++ [d])) else none := id rfl
@[simp] theorem m_ext : mwr .extend (.lst xs) [.lst ys] = if xs.length + ys.length ≤ sizeLine then some (.non, .lst (xs ++ ys)) else none := id rfl
@[simp] theorem m_extT : mwr .extend (.lst xs) [.tup ys] = if xs.length + ys.length ≤ sizeLine then some (.non, .lst (xs ++ ys)) else none := id rfl
@[simp] theorem w_EL : walkD .enm [.lst xs] = some (enmD 0 xs) := id rfl
@[simp] theorem w_ET : walkD .enm [.tup xs] = some (enmD 0 xs) := id rfl
@[simp] theorem f_sumL : bfn .sum [.lst xs] = (D.ints? xs).map fun ns => (.int ns.sum, false) := id rfl
@[simp] theorem f_allL : bfn .all [.lst xs] = (D.bls? xs).map fun bs => (.bl (bs.all id), false) := id rfl
@[simp] theorem mxd_l : mxdO (.lst xs) i = (D.ints? xs).map fun ns => (.int ((maxL ns).getD i), false) := id rfl
@[simp] theorem asgT_tp (sh is : List Nat) (s : S) : asgT sh (.tup is) (.tup xs) false s = (liftO s (asgs is xs s)).bind fun s' _ => .ok () s' := id rfl
@[simp] theorem m_clr : mwr .clear (.lst xs) [] = some (.non, .lst []) := id rfl
@[simp] theorem g_t : guardO true = some () := id rfl
@[simp] theorem rw_l : recvW (.lst xs) = true := id rfl
@[simp] theorem rr_j : recvR .join (.str x) = true := id rfl
@[simp] theorem rr_c : recvR .count (.lst xs) = true := id rfl
@[simp] theorem rr_i : recvR .index (.lst xs) = true := id rfl
@[simp] theorem i_int (t : Ty) : isTy (.int i) t = (match t with | .int => true | _ => false) := by cases t <;> rfl
@[simp] theorem i_str (t : Ty) : isTy (.str x) t = (match t with | .str => true | _ => false) := by cases t <;> rfl
@[simp] theorem i_tup (t : Ty) : isTy (.tup xs) t = (match t with | .tuple => true | _ => false) := by cases t <;> rfl
@[simp] theorem i_lst (t : Ty) : isTy (.lst xs) t = (match t with | .list => true | _ => false) := by cases t <;> rfl
@[simp] theorem i_bl (b : Bool) (t : Ty) : isTy (.bl b) t = (match t with | .int => true | .bool => true | _ => false) := by cases t <;> rfl
@[simp] theorem i_non (t : Ty) : isTy .non t = false := by cases t <;> rfl
@[simp] theorem y_int : D.typed (.int i) = true := id rfl
@[simp] theorem y_str : D.typed (.str x) = true := id rfl
@[simp] theorem y_tup : D.typed (.tup xs) = true := id rfl
@[simp] theorem y_lst : D.typed (.lst xs) = true := id rfl
@[simp] theorem y_bl (b : Bool) : D.typed (.bl b) = true := id rfl
@[simp] theorem y_non : D.typed .non = true := id rfl
@[simp] theorem n_non : D.isNon .non = true := id rfl
@[simp] theorem n_int : D.isNon (.int i) = false := id rfl
@[simp] theorem n_tup : D.isNon (.tup xs) = false := id rfl
@[simp] theorem n_str : D.isNon (.str x) = false := id rfl
@[simp] theorem n_lst : D.isNon (.lst xs) = false := id rfl
@[simp] theorem rng_two : rngL 0 2 = [.int 0, .int 1] := rfl
@[simp] theorem rng_three : rngL 0 3 = [.int 0, .int 1, .int 2] := rfl
@[simp] theorem at_one {β : Type} (a b : β) (l : List β) : L2.atI (a :: b :: l) 1 = some b := by
  have := at_nat (l := a :: b :: l) (n := 1) (by simp)
  simpa using this
@[simp] theorem at_two {β : Type} (a b c : β) (l : List β) : L2.atI (a :: b :: c :: l) 2 = some c := by
  have := at_nat (l := a :: b :: c :: l) (n := 2) (by simp)
  simpa using this
@[simp] theorem at_3 {β : Type} (a b c e : β) (l : List β) : L2.atI (a :: b :: c :: e :: l) 3 = some e := by
  have := at_nat (l := a :: b :: c :: e :: l) (n := 3) (by simp)
  simpa using this
end
end Ly
set_option Elab.async false
set_option linter.all false
set_option maxRecDepth 100000
set_option maxHeartbeats 2000000
/-! Ly25: texts by their signs. -/
namespace Ly
open PySem PySem.Spec PyProof.Rows L2
def sL (l : List Nat) : Str := ⟨l.toArray⟩
@[simp] theorem sL_len (l : List Nat) : (sL l).length = l.length := by simp [sL, Str.length]
@[simp] theorem sL_app (a b : List Nat) : sL a ++ sL b = sL (a ++ b) := by
  show (⟨a.toArray ++ b.toArray⟩ : Str) = ⟨(a ++ b).toArray⟩
  simp
@[simp] theorem sL_cps (l : List Nat) : (sL l).cps.toList = l := by simp [sL]
@[simp] theorem sL_inj (a b : List Nat) : sL a = sL b ↔ a = b := by
  refine ⟨fun h => ?_, fun h => by rw [h]⟩
  have := congrArg (fun z : Str => z.cps.toList) h
  simpa using this
theorem sL_one (c : Nat) : (⟨#[c]⟩ : Str) = sL [c] := rfl
theorem lit_L (s : String) : Str.ofString s = sL (s.toList.map Char.toNat) := Str.ofString_eq_toList s
@[simp] theorem in_S (c : Nat) (l : List Nat) : opCmp .in_ (.str (sL [c])) (.str (sL l)) = some (decide (c ∈ l)) := by
  show (if (sL [c]).length = 1 then some (decide ((sL [c]).cps.getD 0 0 ∈ (sL l).cps.toList)) else none) = _
  rw [if_pos (by simp)]
  simp [sL]
@[simp] theorem nin_S (c : Nat) (l : List Nat) : opCmp .nin (.str (sL [c])) (.str (sL l)) = some (!decide (c ∈ l)) := by
  show (opIn (.str (sL [c])) (.str (sL l))).map (!·) = _
  rw [show opIn (.str (sL [c])) (.str (sL l)) = some (decide (c ∈ l)) from in_S c l]
  rfl
theorem ix_S {l : List Nat} {i : Int} {c : Nat} (h : l.length ≤ 1000000) (hc : L2.atI l i = some c) : opIx (.str (sL l)) (.int i) = some (.str (sL [c])) := by
  show (if (sL l).length ≤ sizeLine then (L2.atI (sL l).cps.toList i).map fun c => D.str ⟨#[c]⟩ else none) = _
  rw [if_pos (by rw [sL_len]; exact sl_le (by omega)), sL_cps, hc]
  rfl
theorem walk_S {l : List Nat} (h : l.length ≤ 1000000) : walkD .seq [.str (sL l)] = some (l.map fun c => .str (sL [c])) := by
  show (if (sL l).length ≤ sizeLine then some ((sL l).cps.toList.map fun c => D.str ⟨#[c]⟩) else none) = _
  rw [if_pos (by rw [sL_len]; exact sl_le (by omega)), sL_cps]
  rfl
theorem strs_map {α : Type} (g : α → Str) : ∀ l : List α, D.strs? (l.map fun x => .str (g x)) = some (l.map g)
  | [] => rfl
  | x :: l => by
    show (D.strs? (l.map fun x => .str (g x))).map (g x :: ·) = _
    rw [strs_map g l]
    rfl
theorem join_nil : ∀ l : List (List Nat), Txt.join (sL []) (l.map sL) = sL l.flatten := by
  intro l
  have e : Txt.join (sL []) (l.map sL) = Str.join (sL []) (l.map sL) := TL.join_eq _ _
  rw [e]
  induction l with
  | nil => rfl
  | cons x l ih =>
    cases l with
    | nil => simp [Str.join]
    | cons y l =>
      show sL x ++ sL [] ++ Str.join (sL []) ((y :: l).map sL) = _
      rw [ih (TL.join_eq _ _)]
      simp
theorem join_S (l : List (List Nat)) (h : l.flatten.length ≤ 16777216) : mrd .join (.str (sL [])) [.lst (l.map fun x => .str (sL x))] = some (.str (sL l.flatten)) := by
  show ((D.strs? (l.map fun x => .str (sL x))).bind fun ys => if (ys.map (·.length)).sum + ys.length * (sL []).length ≤ 16777216 then some (D.str (Txt.join (sL []) ys)) else none) = _
  rw [strs_map]
  show (if ((l.map sL).map (·.length)).sum + (l.map sL).length * (sL []).length ≤ 16777216 then some (D.str (Txt.join (sL []) (l.map sL))) else none) = _
  rw [if_pos, join_nil]
  rw [List.map_map]
  have : (l.map ((fun x : Str => x.length) ∘ sL)).sum = l.flatten.length := by
    rw [List.length_flatten]
    exact congrArg List.sum (List.map_congr_left fun x _ => sL_len x)
  rw [show (l.map sL).length * (sL []).length = 0 from by simp]
  show (l.map ((fun x : Str => x.length) ∘ sL)).sum + 0 ≤ _
  omega
theorem flat_one (cs : List Nat) : (cs.map fun c => [c]).flatten = cs := by
  induction cs with
  | nil => rfl
  | cons c cs ih => simp only [List.map_cons, List.flatten_cons, ih]; rfl
theorem join_1 (cs : List Nat) (h : cs.length ≤ 16777216) : mrd .join (.str (sL [])) [.lst (cs.map fun c => .str (sL [c]))] = some (.str (sL cs)) := by
  have := join_S (cs.map fun c => [c]) (by rw [flat_one]; exact h)
  rw [flat_one, List.map_map] at this
  exact this
/-- each is one of so many, by a choice -/
theorem choose_map {α : Type} (g : α → D) (P : α → Prop) : ∀ ds : List D, (∀ d ∈ ds, ∃ a, P a ∧ d = g a) → ∃ l : List α, ds = l.map g ∧ ∀ a ∈ l, P a
  | [], _ => ⟨[], rfl, fun _ h => nomatch h⟩
  | d :: ds, h => by
    obtain ⟨a, ha, rfl⟩ := h d List.mem_cons_self
    obtain ⟨l, rfl, hl⟩ := choose_map g P ds fun x hx => h x (List.mem_cons_of_mem _ hx)
    exact ⟨a :: l, rfl, fun x hx => by
      rcases List.mem_cons.mp hx with rfl | q
      · exact ha
      · exact hl x q⟩
theorem anyS2 (x a b : List Nat) : anyEq (.str (sL x)) [.str (sL a), .str (sL b)] = some (decide (x = a) || decide (x = b)) := by
  simp [anyEq, D.pl, D.pls, D.dep, D.eqv]
  rw [decide_eq_decide.mpr (eq_comm (a := a) (b := x)), decide_eq_decide.mpr (eq_comm (a := b) (b := x))]
theorem pls_S : ∀ l : List (List Nat), D.pls (l.map fun x => .str (sL x)) = true
  | [] => rfl
  | _ :: l => pls_S l
theorem deps_S : ∀ l : List (List Nat), D.deps (l.map fun x => .str (sL x)) = 0
  | [] => rfl
  | _ :: l => by show max 0 _ = 0; rw [deps_S l]; rfl
theorem eqvs_S : ∀ l : List (List Nat), D.eqvs (l.map fun x => .str (sL x)) (l.map fun x => .str (sL x)) = true
  | [] => rfl
  | x :: l => by
    show (decide (sL x = sL x) && D.eqvs _ _) = true
    rw [eqvs_S l]
    simp
theorem eq_SS (l : List (List Nat)) : opCmp .eq (.lst (l.map fun x => .str (sL x))) (.lst (l.map fun x => .str (sL x))) = some true := by
  show (if eqOk (.lst _) (.lst _) then some (D.eqv (.lst _) (.lst _)) else none) = _
  have h1 : eqOk (.lst (l.map fun x => .str (sL x))) (.lst (l.map fun x => .str (sL x))) = true := by
    simp [eqOk, D.pl, pls_S, D.dep, deps_S]
  have h2 : D.eqv (.lst (l.map fun x => .str (sL x))) (.lst (l.map fun x => .str (sL x))) = true := eqvs_S l
  rw [h1, h2]
  rfl
end Ly
set_option Elab.async false
set_option linter.all false
set_option maxRecDepth 100000
set_option maxHeartbeats 2000000
/-! Ly26: programs. -/
namespace Ly
open PySem PySem.Spec PyProof.Rows L2
inductive Un where | way | first | second
  deriving DecidableEq
inductive Bi where | give | pair | plus
  deriving DecidableEq
inductive P where
  | name (i : Int)
  | whole (i : Int)
  | un (w : Un) (p : P)
  | bi (w : Bi) (p q : P)
  | look (p q r : P)
def Un.s : Un → String
  | .way => "way"
  | .first => "first"
  | .second => "second"
def Bi.s : Bi → String
  | .give => "give"
  | .pair => "pair"
  | .plus => "plus"
def P.enc : P → D
  | .name i => .tup [.str "name", .int i]
  | .whole i => .tup [.str "whole", .int i]
  | .un w p => .tup [.str w.s, p.enc]
  | .bi w p q => .tup [.str w.s, p.enc, q.enc]
  | .look p q r => .tup [.str "look", p.enc, q.enc, r.enc]
def P.tag : P → String
  | .name _ => "name"
  | .whole _ => "whole"
  | .un w _ => w.s
  | .bi w _ _ => w.s
  | .look _ _ _ => "look"
def P.inner : P → List P
  | .name _ => []
  | .whole _ => []
  | .un _ p => [p]
  | .bi _ p q => [p, q]
  | .look p q r => [p, q, r]
def P.dep : P → Nat
  | .name _ => 0
  | .whole _ => 0
  | .un _ p => p.dep + 1
  | .bi _ p q => max p.dep q.dep + 1
  | .look p q r => max p.dep (max q.dep r.dep) + 1
def P.sz : P → Nat
  | .name _ => 1
  | .whole _ => 1
  | .un _ p => p.sz + 1
  | .bi _ p q => p.sz + q.sz + 1
  | .look p q r => p.sz + q.sz + r.sz + 1
def P.leaf : P → Bool
  | .name _ => true
  | .whole _ => true
  | _ => false
@[simp] theorem e_name (i : Int) : (P.name i).enc = .tup [.str "name", .int i] := id rfl
@[simp] theorem e_whole (i : Int) : (P.whole i).enc = .tup [.str "whole", .int i] := id rfl
@[simp] theorem e_way (p : P) : (P.un .way p).enc = .tup [.str "way", p.enc] := id rfl
@[simp] theorem e_first (p : P) : (P.un .first p).enc = .tup [.str "first", p.enc] := id rfl
@[simp] theorem e_second (p : P) : (P.un .second p).enc = .tup [.str "second", p.enc] := id rfl
@[simp] theorem e_give (p q : P) : (P.bi .give p q).enc = .tup [.str "give", p.enc, q.enc] := id rfl
@[simp] theorem e_pair (p q : P) : (P.bi .pair p q).enc = .tup [.str "pair", p.enc, q.enc] := id rfl
@[simp] theorem e_plus (p q : P) : (P.bi .plus p q).enc = .tup [.str "plus", p.enc, q.enc] := id rfl
@[simp] theorem e_look (p q r : P) : (P.look p q r).enc = .tup [.str "look", p.enc, q.enc, r.enc] := id rfl
@[simp] theorem deref_P (m : Mem) (p : P) : deref m p.enc = some p.enc := by cases p <;> rfl
@[simp] theorem typed_P (p : P) : D.typed p.enc = true := by cases p <;> rfl
@[simp] theorem non_P (p : P) : D.isNon p.enc = false := by cases p <;> rfl
theorem enc_un (w : Un) (p : P) : (P.un w p).enc = .tup [.str w.s, p.enc] := rfl
theorem enc_bi (w : Bi) (p q : P) : (P.bi w p q).enc = .tup [.str w.s, p.enc, q.enc] := rfl
/-- the first sign of a program's word -/
theorem tag_ix (p : P) : opIx p.enc (.int 0) = some (.str p.tag) := by cases p <;> rfl
theorem enc_node (p : P) (h : p.leaf = false) : p.enc = .tup (.str p.tag :: p.inner.map P.enc) := by
  cases p <;> first | rfl | cases h
theorem inner_dep (p : P) : ∀ q ∈ p.inner, q.dep < p.dep := by
  cases p <;> simp [P.inner, P.dep] <;> omega
theorem inner_leaf (p : P) : p.leaf = true ↔ p.inner = [] := by cases p <;> simp [P.leaf, P.inner]
mutual
theorem pl_P : ∀ p : P, D.pl p.enc = true
  | .name _ => rfl
  | .whole _ => rfl
  | .un w p => by simp [enc_un, D.pl, D.pls, pl_P p]
  | .bi w p q => by simp [enc_bi, D.pl, D.pls, pl_P p, pl_P q]
  | .look p q r => by simp [D.pl, D.pls, pl_P p, pl_P q, pl_P r]
end
theorem dep_P : ∀ p : P, D.dep p.enc = p.dep + 1
  | .name _ => by simp [D.dep, D.deps, P.dep]
  | .whole _ => by simp [D.dep, D.deps, P.dep]
  | .un w p => by simp [enc_un, D.dep, D.deps, dep_P p, P.dep]
  | .bi w p q => by simp only [enc_bi, D.dep, D.deps, dep_P p, dep_P q, P.dep]; omega
  | .look p q r => by simp only [e_look, D.dep, D.deps, dep_P p, dep_P q, dep_P r, P.dep]; omega
theorem un_s_inj {a b : Un} (h : a.s = b.s) : a = b := by cases a <;> cases b <;> first | rfl | exact absurd h (by decide)
theorem bi_s_inj {a b : Bi} (h : a.s = b.s) : a = b := by cases a <;> cases b <;> first | rfl | exact absurd h (by decide)
theorem enc_inj : ∀ p q : P, p.enc = q.enc → p = q := by
  intro p
  induction p with
  | name i =>
    intro q h
    cases q with
    | name j => simp at h; rw [h]
    | un w p => cases w <;> simp [ofStr_inj] at h
    | _ => simp [enc_bi, ofStr_inj] at h
  | whole i =>
    intro q h
    cases q with
    | whole j => simp at h; rw [h]
    | un w p => cases w <;> simp [ofStr_inj] at h
    | _ => simp [enc_bi, ofStr_inj] at h
  | un w p ih =>
    intro q h
    cases q with
    | un w' p' =>
      simp only [enc_un, D.tup.injEq, List.cons.injEq, D.str.injEq, ofStr_inj] at h
      rw [un_s_inj h.1, ih _ h.2.1]
    | name j => cases w <;> simp [ofStr_inj] at h
    | whole j => cases w <;> simp [ofStr_inj] at h
    | _ => simp [enc_un, enc_bi, ofStr_inj] at h
  | bi w p q ih1 ih2 =>
    intro q h
    cases q with
    | bi w' p' q' =>
      simp only [enc_bi, D.tup.injEq, List.cons.injEq, D.str.injEq, ofStr_inj] at h
      rw [bi_s_inj h.1, ih1 _ h.2.1, ih2 _ h.2.2.1]
    | _ => simp [enc_un, enc_bi, ofStr_inj] at h
  | look p q r ih1 ih2 ih3 =>
    intro q h
    cases q with
    | look p' q' r' =>
      simp only [e_look, D.tup.injEq, List.cons.injEq] at h
      rw [ih1 _ h.2.1, ih2 _ h.2.2.1, ih3 _ h.2.2.2.1]
    | _ => simp [enc_un, enc_bi, ofStr_inj] at h
mutual
/-- no truths: alike is the same -/
def D.nbt : D → Bool
  | .int _ => true
  | .str _ => true
  | .tup xs => D.nbts xs
  | .lst xs => D.nbts xs
  | .non => true
  | _ => false
def D.nbts : List D → Bool
  | [] => true
  | x :: xs => D.nbt x && D.nbts xs
end
mutual
theorem eqv_nbt : ∀ a b : D, D.nbt a = true → D.nbt b = true → (D.eqv a b = true ↔ a = b)
  | .int i, b, _, hb => by cases b <;> simp [D.eqv, D.nbt] at hb ⊢
  | .str i, b, _, hb => by cases b <;> simp [D.eqv, D.nbt] at hb ⊢
  | .non, b, _, hb => by cases b <;> simp [D.eqv, D.nbt] at hb ⊢
  | .tup xs, b, ha, hb => by
    cases b <;> simp [D.eqv, D.nbt] at hb ⊢
    exact eqvs_nbt xs _ ha hb
  | .lst xs, b, ha, hb => by
    cases b <;> simp [D.eqv, D.nbt] at hb ⊢
    exact eqvs_nbt xs _ ha hb
  | .bl _, _, ha, _ => nomatch ha
  | .dct _ _, _, ha, _ => nomatch ha
  | .ref _, _, ha, _ => nomatch ha
  | .scr _, _, ha, _ => nomatch ha
theorem eqvs_nbt : ∀ a b : List D, D.nbts a = true → D.nbts b = true → (D.eqvs a b = true ↔ a = b)
  | [], [], _, _ => by simp [D.eqvs]
  | [], _ :: _, _, _ => by simp [D.eqvs]
  | _ :: _, [], _, _ => by simp [D.eqvs]
  | x :: xs, y :: ys, ha, hb => by
    obtain ⟨h1, h2⟩ := Bool.and_eq_true_iff.mp (show (D.nbt x && D.nbts xs) = true from ha)
    obtain ⟨h3, h4⟩ := Bool.and_eq_true_iff.mp (show (D.nbt y && D.nbts ys) = true from hb)
    have i1 := eqv_nbt x y h1 h3
    have i2 := eqvs_nbt xs ys h2 h4
    simp [D.eqvs, i1, i2]
end
theorem nbt_P : ∀ p : P, D.nbt p.enc = true
  | .name _ => rfl
  | .whole _ => rfl
  | .un w p => by simp [enc_un, D.nbt, D.nbts, nbt_P p]
  | .bi w p q => by simp [enc_bi, D.nbt, D.nbts, nbt_P p, nbt_P q]
  | .look p q r => by simp [D.nbt, D.nbts, nbt_P p, nbt_P q, nbt_P r]
instance : DecidableEq P := fun p q => if h : D.beq p.enc q.enc = true then isTrue (enc_inj p q (beq_eq _ _ h)) else isFalse fun e => h (by
  subst e
  have refl : ∀ d : D, D.nbt d = true → D.beq d d = true := by
    intro d hd
    have go : ∀ n (d : D), D.dep d < n → D.nbt d = true → D.beq d d = true := by
      intro n
      induction n with
      | zero => intro d h; omega
      | succ n ih =>
        intro d hdep hd
        have gos : ∀ xs : List D, D.deps xs < n → D.nbts xs = true → D.beqs xs xs = true := by
          intro xs
          induction xs with
          | nil => intro _ _; rfl
          | cons x xs ihx =>
            intro h1 h2
            obtain ⟨h3, h4⟩ := Bool.and_eq_true_iff.mp (show (D.nbt x && D.nbts xs) = true from h2)
            have h1 : max (D.dep x) (D.deps xs) < n := h1
            show (D.beq x x && D.beqs xs xs) = true
            rw [ih x (by omega) h3, ihx (by omega) h4]
            rfl
        cases d with
        | int i => simp [D.beq]
        | str i => simp [D.beq]
        | non => rfl
        | tup xs => exact gos xs (by simp [D.dep] at hdep; omega) hd
        | lst xs => exact gos xs (by simp [D.dep] at hdep; omega) hd
        | _ => cases hd
    exact go _ d (Nat.lt_succ_self _) hd
  exact refl _ (nbt_P p))
theorem eq_P (p q : P) (h : min p.dep q.dep ≤ 199) : opCmp .eq p.enc q.enc = some (decide (p = q)) := by
  have e : opCmp .eq p.enc q.enc = if eqOk p.enc q.enc then some (D.eqv p.enc q.enc) else none := by
    cases p <;> cases q <;> rfl
  have h1 : eqOk p.enc q.enc = true := by
    simp only [eqOk, pl_P, dep_P, Bool.true_and, decide_eq_true_eq]
    omega
  rw [e, if_pos h1]
  by_cases c : p = q
  · subst c
    rw [(eqv_nbt _ _ (nbt_P p) (nbt_P p)).mpr rfl]
    simp
  · have : ¬ D.eqv p.enc q.enc = true := fun z => c (enc_inj _ _ ((eqv_nbt _ _ (nbt_P p) (nbt_P q)).mp z))
    simp only [Bool.not_eq_true] at this
    rw [this]
    simp [c]
theorem ne_P (p q : P) (h : min p.dep q.dep ≤ 199) : opCmp .ne p.enc q.enc = some (!decide (p = q)) := by
  show (opEq p.enc q.enc).map (!·) = _
  rw [show opEq p.enc q.enc = some (decide (p = q)) from eq_P p q h]
  rfl
theorem sz_pos (p : P) : 0 < p.sz := by cases p <;> simp [P.sz]
end Ly
set_option Elab.async false
set_option linter.all false
set_option maxRecDepth 100000
set_option maxHeartbeats 4000000
/-! Ly27: the program's own small functions. -/
namespace Ly
open PySem PySem.Spec PyProof.Rows L2
namespace H
def t_MANY : TabI := ("MANY", [("name", 0), ("way", 1), ("give", 2), ("pair", 2), ("first", 1), ("second", 1), ("whole", 0), ("plus", 2), ("look", 3)])
def g_MANY : D := tabD t_MANY
def b_inner : List St := [
  .ife (.cmp .eq (.ix (.g "MANY" g_MANY) (.ix (.v 0) (.c (.int 0)))) (.c (.int 0))) [
    .ret (.tup [])] [],
  .ret (.sl (.v 0) (.c (.int 1)) (.nil))]
def f_inner : Fn := ⟨1, 1, [], b_inner⟩
def b_at_place : List St := [
  .for_ (.v 2) .seq [.v 1] [
    .asg (.v 3) (.call "inner" [.v 0]),
    .ife (.not (.chn .le .lt (.c (.int 0)) (.v 2) (.blt .len [.v 3]))) [
      .ret (.c .non)] [],
    .asg (.v 0) (.ix (.v 3) (.v 2))],
  .ret (.v 0)]
def f_at_place : Fn := ⟨2, 4, [], b_at_place⟩
def b_goes : List St := [
  .asg (.v 1) (.ix (.v 0) (.c (.int 0))),
  .ife (.cmp .eq (.v 1) (.c (.str "give"))) [
    .ret (.cmp .eq (.ix (.ix (.v 0) (.c (.int 1))) (.c (.int 0))) (.c (.str "way")))] [],
  .ife (.cmp .in_ (.v 1) (.tup [.c (.str "first"), .c (.str "second")])) [
    .ret (.cmp .eq (.ix (.ix (.v 0) (.c (.int 1))) (.c (.int 0))) (.c (.str "pair")))] [],
  .ife (.cmp .eq (.v 1) (.c (.str "plus"))) [
    .ret (.and (.cmp .eq (.ix (.ix (.v 0) (.c (.int 1))) (.c (.int 0))) (.c (.str "whole"))) (.cmp .eq (.ix (.ix (.v 0) (.c (.int 2))) (.c (.int 0))) (.c (.str "whole"))))] [],
  .ret (.and (.cmp .eq (.v 1) (.c (.str "look"))) (.cmp .eq (.ix (.ix (.v 0) (.c (.int 1))) (.c (.int 0))) (.c (.str "whole"))))]
def f_goes : Fn := ⟨1, 2, [], b_goes⟩
def b__law_can : List St := [
  .ife (.cmp .eq (.ix (.v 0) (.c (.int 0))) (.c (.str "give"))) [
    .ret (.cmp .eq (.ix (.ix (.v 0) (.c (.int 1))) (.c (.int 0))) (.c (.str "way")))] [],
  .ife (.cmp .in_ (.ix (.v 0) (.c (.int 0))) (.tup [.c (.str "first"), .c (.str "second")])) [
    .ret (.cmp .eq (.ix (.ix (.v 0) (.c (.int 1))) (.c (.int 0))) (.c (.str "pair")))] [],
  .ife (.cmp .eq (.ix (.v 0) (.c (.int 0))) (.c (.str "plus"))) [
    .ret (.and (.cmp .eq (.ix (.ix (.v 0) (.c (.int 1))) (.c (.int 0))) (.c (.str "whole"))) (.cmp .eq (.ix (.ix (.v 0) (.c (.int 2))) (.c (.int 0))) (.c (.str "whole"))))] [],
  .ret (.and (.cmp .eq (.ix (.v 0) (.c (.int 0))) (.c (.str "look"))) (.cmp .eq (.ix (.ix (.v 0) (.c (.int 1))) (.c (.int 0))) (.c (.str "whole"))))]
def f__law_can : Fn := ⟨1, 1, [], b__law_can⟩
def b_can_go : List St := [
  .asg (.v 2) (.call "at_place" [.v 0, .v 1]),
  .ret (.and (.cmp .isn (.v 2) (.c .non)) (.call "goes" [.v 2]))]
def f_can_go : Fn := ⟨2, 3, [], b_can_go⟩
def b_is_answer : List St := [
  .ife (.cmp .eq (.ix (.v 0) (.c (.int 0))) (.c (.str "pair"))) [
    .ret (.and (.call "is_answer" [.ix (.v 0) (.c (.int 1))]) (.call "is_answer" [.ix (.v 0) (.c (.int 2))]))] [],
  .ret (.cmp .in_ (.ix (.v 0) (.c (.int 0))) (.tup [.c (.str "whole"), .c (.str "way")]))]
def f_is_answer : Fn := ⟨1, 1, [], b_is_answer⟩
def b__law_is_answer : List St := [
  .ife (.cmp .eq (.ix (.v 0) (.c (.int 0))) (.c (.str "pair"))) [
    .ret (.and (.call "_law_is_answer" [.ix (.v 0) (.c (.int 1))]) (.call "_law_is_answer" [.ix (.v 0) (.c (.int 2))]))] [],
  .ret (.cmp .in_ (.ix (.v 0) (.c (.int 0))) (.tup [.c (.str "whole"), .c (.str "way")]))]
def f__law_is_answer : Fn := ⟨1, 1, [], b__law_is_answer⟩
end H
theorem cut1 (x : D) (xs : List D) : cutD (x :: xs) (some 1) none = xs := by
  have := cut_hi (xs := x :: xs) (k := 1) (by simp)
  simpa using this
def P.isW : P → Bool
  | .un .way _ => true
  | _ => false
def P.isP : P → Bool
  | .bi .pair _ _ => true
  | _ => false
def P.isN : P → Bool
  | .whole _ => true
  | _ => false
def P.goes : P → Bool
  | .bi .give p _ => p.isW
  | .un .first p => p.isP
  | .un .second p => p.isP
  | .bi .plus p q => p.isN && q.isN
  | .look p _ _ => p.isN
  | _ => false
def P.ans : P → Bool
  | .bi .pair p q => p.ans && q.ans
  | .whole _ => true
  | .un .way _ => true
  | _ => false
def P.at : P → List Int → Option P
  | p, [] => some p
  | p, k :: ks => if 0 ≤ k then (match p.inner[k.toNat]? with | some q => q.at ks | none => none) else none
theorem tag_way (p : P) : decide (p.tag = "way") = p.isW := by
  cases p with
  | un w p => cases w <;> rfl
  | bi w p q => cases w <;> rfl
  | _ => rfl
theorem tag_pair (p : P) : decide (p.tag = "pair") = p.isP := by
  cases p with
  | un w p => cases w <;> rfl
  | bi w p q => cases w <;> rfl
  | _ => rfl
theorem tag_whole (p : P) : decide (p.tag = "whole") = p.isN := by
  cases p with
  | un w p => cases w <;> rfl
  | bi w p q => cases w <;> rfl
  | _ => rfl
theorem isW_eq {p : P} (h : p.isW = true) : ∃ q, p = .un .way q := by
  cases p with
  | un w p => cases w <;> first | exact ⟨p, rfl⟩ | cases h
  | bi w p q => cases h
  | _ => cases h
theorem isP_eq {p : P} (h : p.isP = true) : ∃ q r, p = .bi .pair q r := by
  cases p with
  | bi w p q => cases w <;> first | exact ⟨p, q, rfl⟩ | cases h
  | _ => cases h
theorem isN_eq {p : P} (h : p.isN = true) : ∃ i, p = .whole i := by
  cases p with
  | whole i => exact ⟨i, rfl⟩
  | _ => cases h
theorem in2 (x a b : String) : anyEq (.str x) [.str a, .str b] = some (decide (x = a) || decide (x = b)) := by
  simp [anyEq, D.pl, D.pls, D.dep, D.eqv, ofStr_inj]
  rw [decide_eq_decide.mpr (eq_comm (a := a) (b := x)), decide_eq_decide.mpr (eq_comm (a := b) (b := x))]
@[simp] theorem many_name : opIx H.g_MANY (.str "name") = some (.int 0) := by kernel_rfl
@[simp] theorem many_way : opIx H.g_MANY (.str "way") = some (.int 1) := by kernel_rfl
@[simp] theorem many_give : opIx H.g_MANY (.str "give") = some (.int 2) := by kernel_rfl
@[simp] theorem many_pair : opIx H.g_MANY (.str "pair") = some (.int 2) := by kernel_rfl
@[simp] theorem many_first : opIx H.g_MANY (.str "first") = some (.int 1) := by kernel_rfl
@[simp] theorem many_second : opIx H.g_MANY (.str "second") = some (.int 1) := by kernel_rfl
@[simp] theorem many_whole : opIx H.g_MANY (.str "whole") = some (.int 0) := by kernel_rfl
@[simp] theorem many_plus : opIx H.g_MANY (.str "plus") = some (.int 2) := by kernel_rfl
@[simp] theorem many_look : opIx H.g_MANY (.str "look") = some (.int 3) := by kernel_rfl
@[simp] theorem deref_many (m : Mem) : deref m H.g_MANY = some H.g_MANY := id rfl
section
variable {ft : Str → Option Fn}
theorem inner_ev (h : ft "inner" = some H.f_inner) (p : P) (n : Nat) (m : Mem) : cfN ft (n + 1) "inner" [p.enc] m = .ok (.tup (p.inner.map P.enc)) false m := by
  rw [cf_s h _ rfl]
  cases p with
  | un w p => cases w <;> simp [H.f_inner, H.b_inner, runF, env0, P.inner, cut1]
  | bi w p q => cases w <;> simp [H.f_inner, H.b_inner, runF, env0, P.inner, cut1]
  | _ => simp [H.f_inner, H.b_inner, runF, env0, P.inner, cut1]
theorem ix_P (p : P) (i : Nat) (q : P) (h : p.inner[i]? = some q) : opIx (.tup (p.inner.map P.enc)) (.int (i : Int)) = some q.enc := by
  show L2.atI (p.inner.map P.enc) (i : Int) = _
  have hl := (List.getElem?_eq_some_iff.mp h).1
  rw [at_nat (by simpa using hl), List.getElem?_map, h]
  rfl
theorem at_ev (h0 : ft "inner" = some H.f_inner) (h : ft "at_place" = some H.f_at_place) (p : P) (pl : List Int) (n : Nat) (m : Mem) : cfN ft (n + 2) "at_place" [p.enc, .tup (pl.map D.int)] m = .ok (match p.at pl with | some q => q.enc | none => .non) false m := by
  have loop : ∀ (pl : List Int) (p : P) (w : D) (x y : Option (D × Bool)), ∃ s' : S, s'.mem = m ∧ forL (fun x s => asgT [] (.v 2) x false s) (fun s => evSs ft (cfN ft (n + 1)) [] [
    .asg (.v 3) (.call "inner" [.v 0]),
    .ife (.not (.chn .le .lt (.c (.int 0)) (.v 2) (.blt .len [.v 3]))) [
      .ret (.c .non)] [],
    .asg (.v 0) (.ix (.v 3) (.v 2))] s) (pl.map D.int) ⟨[some (p.enc, false), some (w, false), x, y], m⟩ = match p.at pl with
      | none => .ok (.rt .non false) s'
      | some q => .ok .nx ⟨[some (q.enc, false), some (w, false), (s'.env[2]?).join, (s'.env[3]?).join], m⟩ := by
    intro pl
    induction pl with
    | nil => intro p w x y; exact ⟨⟨[none, none, x, y], m⟩, rfl, by cases p <;> rfl⟩
    | cons k ks ih =>
      intro p w x y
      have hi := inner_ev h0 p n m
      by_cases hk : 0 ≤ k
      · cases hq : p.inner[k.toNat]? with
        | none =>
          refine ⟨⟨[some (p.enc, false), some (w, false), some (.int k, false), some (.tup (p.inner.map P.enc), false)], m⟩, rfl, ?_⟩
          have hl : ¬ k < (p.inner.length : Int) := by
            have := List.getElem?_eq_none_iff.mp hq
            omega
          have e : p.at (k :: ks) = none := by simp [P.at, hk, hq]
          rw [e, List.map_cons, fo_s]
          simp [ev_call ft _ _ h0, show H.f_inner.sh = [] from rfl, show H.f_inner.ps = 1 from rfl, hi, hk, hl]
        | some q =>
          obtain ⟨s', e1, e2⟩ := ih q w (some (.int k, false)) (some (.tup (p.inner.map P.enc), false))
          refine ⟨s', e1, ?_⟩
          have hl : k < (p.inner.length : Int) := by
            have := (List.getElem?_eq_some_iff.mp hq).1
            omega
          obtain ⟨kn, rfl⟩ : ∃ kn : Nat, k = (kn : Int) := ⟨k.toNat, by omega⟩
          have hx : L2.atI (p.inner.map P.enc) (kn : Int) = some q.enc := ix_P p kn q (by simpa using hq)
          have e : p.at ((kn : Int) :: ks) = q.at ks := by
            have hq' : p.inner[kn]? = some q := by simpa using hq
            simp [P.at, hq']
          have hl' : kn < p.inner.length := by omega
          rw [e, ← e2, List.map_cons, fo_s]
          simp [ev_call ft _ _ h0, show H.f_inner.sh = [] from rfl, show H.f_inner.ps = 1 from rfl, hi, hl', hx]
      · refine ⟨⟨[some (p.enc, false), some (w, false), some (.int k, false), some (.tup (p.inner.map P.enc), false)], m⟩, rfl, ?_⟩
        have e : p.at (k :: ks) = none := by simp [P.at, hk]
        rw [e, List.map_cons, fo_s]
        simp [ev_call ft _ _ h0, show H.f_inner.sh = [] from rfl, show H.f_inner.ps = 1 from rfl, hi, hk]
  obtain ⟨s', h1, h2⟩ := loop pl p (.tup (pl.map D.int)) none none
  rw [cf_r h _ rfl]
  show crOf (evSs ft (cfN ft (n + 1)) [] H.b_at_place ⟨[some (p.enc, false), some (.tup (pl.map D.int), false), none, none], m⟩) = _
  unfold H.b_at_place
  rw [ss_cons, for_at (ds := [.tup (pl.map D.int)]) (s1 := ⟨[some (p.enc, false), some (.tup (pl.map D.int), false), none, none], m⟩) (by simp) (xs := pl.map D.int) rfl, h2]
  cases p.at pl with
  | none => simp [crOf, h1]
  | some u => simp [crOf]
theorem goes_ev (h : ft "goes" = some H.f_goes) (p : P) (n : Nat) (m : Mem) : cfN ft (n + 1) "goes" [p.enc] m = .ok (.bl p.goes) false m := by
  rw [cf_s h _ rfl]
  cases p with
  | un w p => cases w <;> simp [H.f_goes, H.b_goes, runF, env0, in2, ofStr_inj, tag_ix, P.goes, tag_pair]
  | bi w p q =>
    cases w <;> simp [H.f_goes, H.b_goes, runF, env0, in2, ofStr_inj, tag_ix, P.goes, tag_way, tag_whole]
    cases hn : p.isN <;> simp [tag_ix, ofStr_inj, tag_whole]
  | look p q r => simp [H.f_goes, H.b_goes, runF, env0, in2, ofStr_inj, tag_ix, P.goes, tag_whole]
  | _ => simp [H.f_goes, H.b_goes, runF, env0, in2, ofStr_inj, tag_ix, P.goes]
theorem lcan_ev (h : ft "_law_can" = some H.f__law_can) (p : P) (n : Nat) (m : Mem) : cfN ft (n + 1) "_law_can" [p.enc] m = .ok (.bl p.goes) false m := by
  rw [cf_s h _ rfl]
  cases p with
  | un w p => cases w <;> simp [H.f__law_can, H.b__law_can, runF, env0, in2, ofStr_inj, tag_ix, P.goes, tag_pair]
  | bi w p q =>
    cases w <;> simp [H.f__law_can, H.b__law_can, runF, env0, in2, ofStr_inj, tag_ix, P.goes, tag_way, tag_whole]
    cases hn : p.isN <;> simp [tag_ix, ofStr_inj, tag_whole]
  | look p q r => simp [H.f__law_can, H.b__law_can, runF, env0, in2, ofStr_inj, tag_ix, P.goes, tag_whole]
  | _ => simp [H.f__law_can, H.b__law_can, runF, env0, in2, ofStr_inj, tag_ix, P.goes]
theorem can_ev (h0 : ft "inner" = some H.f_inner) (h1 : ft "at_place" = some H.f_at_place) (h2 : ft "goes" = some H.f_goes) (h : ft "can_go" = some H.f_can_go) (p : P) (pl : List Int) (n : Nat) (m : Mem) :
    cfN ft (n + 3) "can_go" [p.enc, .tup (pl.map D.int)] m = .ok (.bl (match p.at pl with | some q => q.goes | none => false)) false m := by
  have e := at_ev h0 h1 p pl n m
  rw [cf_s h _ rfl]
  cases hp : p.at pl with
  | none =>
    rw [hp] at e
    simp [H.f_can_go, H.b_can_go, runF, env0, ev_call ft _ _ h1, show H.f_at_place.sh = [] from rfl, show H.f_at_place.ps = 2 from rfl, e]
  | some q =>
    rw [hp] at e
    have g := goes_ev h2 q (n + 1) m
    simp [H.f_can_go, H.b_can_go, runF, env0, ev_call ft _ _ h1, show H.f_at_place.sh = [] from rfl, show H.f_at_place.ps = 2 from rfl, e, ev_call ft _ _ h2, show H.f_goes.sh = [] from rfl, show H.f_goes.ps = 1 from rfl, g]
theorem isans_ev (h : ft "is_answer" = some H.f_is_answer) : ∀ (p : P) (n : Nat) (m : Mem), p.dep < n → cfN ft n "is_answer" [p.enc] m = .ok (.bl p.ans) false m := by
  intro p
  induction p with
  | bi w p q ih1 ih2 =>
    intro n m hn
    obtain ⟨n, rfl⟩ : ∃ k, n = k + 1 := ⟨n - 1, by omega⟩
    have hn : max p.dep q.dep + 1 < n + 1 := hn
    have h1 := ih1 n m (by omega)
    have h2 := ih2 n m (by omega)
    rw [cf_s h _ rfl]
    cases w with
    | pair => cases hl : p.ans <;> rw [hl] at h1 <;> simp [H.f_is_answer, H.b_is_answer, runF, env0, ev_call ft _ _ h, h1, h2, P.ans, hl, show H.f_is_answer.sh = [] from rfl]
    | _ => simp [H.f_is_answer, H.b_is_answer, runF, env0, in2, ofStr_inj, P.ans]
  | un w p ih =>
    intro n m hn
    obtain ⟨n, rfl⟩ : ∃ k, n = k + 1 := ⟨n - 1, by omega⟩
    rw [cf_s h _ rfl]
    cases w <;> simp [H.f_is_answer, H.b_is_answer, runF, env0, in2, ofStr_inj, P.ans]
  | _ =>
    intro n m hn
    obtain ⟨n, rfl⟩ : ∃ k, n = k + 1 := ⟨n - 1, by omega⟩
    rw [cf_s h _ rfl]
    simp [H.f_is_answer, H.b_is_answer, runF, env0, in2, ofStr_inj, P.ans]
theorem lisans_ev (h : ft "_law_is_answer" = some H.f__law_is_answer) : ∀ (p : P) (n : Nat) (m : Mem), p.dep < n → cfN ft n "_law_is_answer" [p.enc] m = .ok (.bl p.ans) false m := by
  intro p
  induction p with
  | bi w p q ih1 ih2 =>
    intro n m hn
    obtain ⟨n, rfl⟩ : ∃ k, n = k + 1 := ⟨n - 1, by omega⟩
    have hn : max p.dep q.dep + 1 < n + 1 := hn
    have h1 := ih1 n m (by omega)
    have h2 := ih2 n m (by omega)
    rw [cf_s h _ rfl]
    cases w with
    | pair => cases hl : p.ans <;> rw [hl] at h1 <;> simp [H.f__law_is_answer, H.b__law_is_answer, runF, env0, ev_call ft _ _ h, h1, h2, P.ans, hl, show H.f__law_is_answer.sh = [] from rfl]
    | _ => simp [H.f__law_is_answer, H.b__law_is_answer, runF, env0, in2, ofStr_inj, P.ans]
  | un w p ih =>
    intro n m hn
    obtain ⟨n, rfl⟩ : ∃ k, n = k + 1 := ⟨n - 1, by omega⟩
    rw [cf_s h _ rfl]
    cases w <;> simp [H.f__law_is_answer, H.b__law_is_answer, runF, env0, in2, ofStr_inj, P.ans]
  | _ =>
    intro n m hn
    obtain ⟨n, rfl⟩ : ∃ k, n = k + 1 := ⟨n - 1, by omega⟩
    rw [cf_s h _ rfl]
    simp [H.f__law_is_answer, H.b__law_is_answer, runF, env0, in2, ofStr_inj, P.ans]
end
end Ly
set_option Elab.async false
set_option linter.all false
set_option maxRecDepth 100000
set_option maxHeartbeats 4000000
/-! Ly28: programs drawn; lifted, put in. -/
namespace Ly
open PySem PySem.Spec PyProof.Rows L2
/-- a comprehension that gives g of each -/
theorem lc_mapA {α : Type} {ft : Str → Option Fn} {cf : Str → List D → Mem → CR} {elt : E} {tg : T} {k : IK} {its : List E} {own : List Nat} {s : S} {env : Env} {m : Mem} (l : List α) (e g : α → D)
    (h0 : ((evEs ft cf its s).bind fun ds s => liftO s (walkD k ds)) = .ok (l.map e) ⟨env, m⟩) (ho : ownFree env own = true) (hl : l.length ≤ sizeLine)
    (h : ∀ a ∈ l, ∃ env' fr, wipeE env' own = wipeE env own ∧ ((asgT [] tg (e a) false ⟨wipeE env own, m⟩).bind fun _ s => evE ft cf elt s) = .ok (g a, fr) ⟨env', m⟩) :
    evE ft cf (.lc elt tg k its [] own) s = .ok (.lst (l.map g), true) ⟨env, m⟩ := by
  have loop : ∀ (l : List α) (acc : List D) (env1 : Env), wipeE env1 own = wipeE env own → acc.length + l.length ≤ sizeLine → (∀ a ∈ l, ∃ env' fr, wipeE env' own = wipeE env own ∧ ((asgT [] tg (e a) false ⟨wipeE env own, m⟩).bind fun _ s => evE ft cf elt s) = .ok (g a, fr) ⟨env', m⟩) →
      ∃ env', wipeE env' own = wipeE env own ∧ lcLoop (fun s => (evTs ft cf [] s).bind fun b s => if b then (evE ft cf elt s).bind fun p s => .ok (some p.1) s else .ok none s) tg own (l.map e) acc ⟨env1, m⟩ = .ok (acc ++ l.map g) ⟨env', m⟩ := by
    intro l
    induction l with
    | nil => intro acc env1 hw _ _; exact ⟨env1, hw, by rw [List.map_nil, List.map_nil, List.append_nil]; rfl⟩
    | cons x xs ih =>
      intro acc env1 hw hl h
      obtain ⟨env2, fr, w2, e2⟩ := h x List.mem_cons_self
      obtain ⟨env3, w3, e3⟩ := ih (acc ++ [g x]) env2 w2 (by simp at hl ⊢; omega) fun y hy => h y (List.mem_cons_of_mem _ hy)
      refine ⟨env3, w3, ?_⟩
      rw [List.map_cons]
      show ((asgT [] tg (e x) false ⟨wipeE env1 own, m⟩).bind fun _ s1 => ((evE ft cf elt s1).bind fun p s => R.ok (some p.1) s).bind fun o s2 => match o with
        | none => lcLoop _ tg own (xs.map e) acc s2
        | some d => if acc.length < sizeLine then lcLoop _ tg own (xs.map e) (acc ++ [d]) s2 else .no) = _
      rw [hw, ← R.assoc, ← R.assoc, e2]
      show (if acc.length < sizeLine then _ else R.no) = _
      rw [if_pos (by simp at hl; omega)]
      refine e3.trans ?_
      simp
  obtain ⟨env', w, e1⟩ := loop l [] env rfl (by simpa using hl) h
  rw [Ly.ev_lc, h0]
  show (if ownFree env own then _ else _) = _
  rw [if_pos ho, e1]
  show R.ok (D.lst ([] ++ l.map g), true) ⟨backE env env' own, m⟩ = _
  rw [back_eq w, back_self]
  rfl
@[simp] theorem at_4 {β : Type} (a b c e g : β) (l : List β) : L2.atI (a :: b :: c :: e :: g :: l) 4 = some g := by
  have := at_nat (l := a :: b :: c :: e :: g :: l) (n := 4) (by simp)
  simpa using this
theorem cut_t1 (x : D) (xs : List D) : cutD (x :: xs) none (some 1) = [x] := by
  have := cut_lo (xs := x :: xs) (k := 1) (by simp)
  simpa using this
theorem sz_dep : ∀ p : P, p.sz ≤ 3 ^ (p.dep + 1)
  | .name _ => by simp [P.sz, P.dep]
  | .whole _ => by simp [P.sz, P.dep]
  | .un w p => by
    have h := sz_dep p
    show p.sz + 1 ≤ 3 ^ ((p.dep + 1) + 1)
    rw [Nat.pow_succ 3 (p.dep + 1)]
    have : 0 < 3 ^ (p.dep + 1) := Nat.pow_pos (by omega)
    omega
  | .bi w p q => by
    have h1 := sz_dep p
    have h2 := sz_dep q
    show p.sz + q.sz + 1 ≤ 3 ^ ((max p.dep q.dep + 1) + 1)
    have h3 : 3 ^ (p.dep + 1) ≤ 3 ^ (max p.dep q.dep + 1) := Nat.pow_le_pow_right (by omega) (by omega)
    have h4 : 3 ^ (q.dep + 1) ≤ 3 ^ (max p.dep q.dep + 1) := Nat.pow_le_pow_right (by omega) (by omega)
    rw [Nat.pow_succ 3 (max p.dep q.dep + 1)]
    have : 0 < 3 ^ (max p.dep q.dep + 1) := Nat.pow_pos (by omega)
    omega
  | .look p q r => by
    have h1 := sz_dep p
    have h2 := sz_dep q
    have h5 := sz_dep r
    show p.sz + q.sz + r.sz + 1 ≤ 3 ^ ((max p.dep (max q.dep r.dep) + 1) + 1)
    have h3 : 3 ^ (p.dep + 1) ≤ 3 ^ (max p.dep (max q.dep r.dep) + 1) := Nat.pow_le_pow_right (by omega) (by omega)
    have h4 : 3 ^ (q.dep + 1) ≤ 3 ^ (max p.dep (max q.dep r.dep) + 1) := Nat.pow_le_pow_right (by omega) (by omega)
    have h6 : 3 ^ (r.dep + 1) ≤ 3 ^ (max p.dep (max q.dep r.dep) + 1) := Nat.pow_le_pow_right (by omega) (by omega)
    rw [Nat.pow_succ 3 (max p.dep (max q.dep r.dep) + 1)]
    have key : p.sz + q.sz + r.sz ≤ 3 ^ (max p.dep (max q.dep r.dep) + 1) * 3 := by omega
    rcases Nat.lt_or_ge (p.sz + q.sz + r.sz) (3 ^ (max p.dep (max q.dep r.dep) + 1) * 3) with h | h
    · omega
    · -- the powers are odd, the sizes of leaves are one: not all three are full
      exfalso
      have full : ∀ p : P, p.sz < 3 ^ (p.dep + 1) := by
        intro p
        induction p with
        | name _ => simp [P.sz, P.dep]
        | whole _ => simp [P.sz, P.dep]
        | un w p ih =>
          show p.sz + 1 < 3 ^ ((p.dep + 1) + 1)
          rw [Nat.pow_succ 3 (p.dep + 1)]
          omega
        | bi w p q i1 i2 =>
          show p.sz + q.sz + 1 < 3 ^ ((max p.dep q.dep + 1) + 1)
          have h3 : 3 ^ (p.dep + 1) ≤ 3 ^ (max p.dep q.dep + 1) := Nat.pow_le_pow_right (by omega) (by omega)
          have h4 : 3 ^ (q.dep + 1) ≤ 3 ^ (max p.dep q.dep + 1) := Nat.pow_le_pow_right (by omega) (by omega)
          rw [Nat.pow_succ 3 (max p.dep q.dep + 1)]
          omega
        | look p q r i1 i2 i3 =>
          show p.sz + q.sz + r.sz + 1 < 3 ^ ((max p.dep (max q.dep r.dep) + 1) + 1)
          have h3 : 3 ^ (p.dep + 1) ≤ 3 ^ (max p.dep (max q.dep r.dep) + 1) := Nat.pow_le_pow_right (by omega) (by omega)
          have h4 : 3 ^ (q.dep + 1) ≤ 3 ^ (max p.dep (max q.dep r.dep) + 1) := Nat.pow_le_pow_right (by omega) (by omega)
          have h6 : 3 ^ (r.dep + 1) ≤ 3 ^ (max p.dep (max q.dep r.dep) + 1) := Nat.pow_le_pow_right (by omega) (by omega)
          rw [Nat.pow_succ 3 (max p.dep (max q.dep r.dep) + 1)]
          omega
      have f1 := full p
      omega
theorem sz_small (p : P) (h : p.dep ≤ 10) : p.sz ≤ 200000 := by
  have h1 := sz_dep p
  have h2 : 3 ^ (p.dep + 1) ≤ 3 ^ 11 := Nat.pow_le_pow_right (by omega) (by omega)
  omega
namespace H
def b__law_wild : List St := [
  .asg (.v 4) (.call "_law_take" [.v 0, .c (.int 12)]),
  .asg (.v 5) (.bin .fdiv (.bin .sub (.v 2) (.c (.int 1))) (.c (.int 2))),
  .ife (.or (.cmp .lt (.v 2) (.c (.int 2))) (.or (.cmp .lt (.v 3) (.c (.int 1))) (.cmp .lt (.v 4) (.c (.int 2))))) [
    .ife (.and (.cmp .gt (.v 1) (.c (.int 0))) (.cmp .gt (.call "_law_take" [.v 0, .c (.int 3)]) (.c (.int 0)))) [
      .ret (.tup [.c (.str "name"), .call "_law_take" [.v 0, .v 1]])] [],
    .ret (.call "_law_whole" [.v 0])] [],
  .ife (.cmp .lt (.v 4) (.c (.int 4))) [
    .ret (.tup [.c (.str "way"), .call "_law_wild" [.v 0, .bin .add (.v 1) (.c (.int 1)), .bin .sub (.v 2) (.c (.int 1)), .bin .sub (.v 3) (.c (.int 1))]])] [],
  .ife (.cmp .lt (.v 4) (.c (.int 6))) [
    .ret (.tup [.ix (.lst [.c (.str "first"), .c (.str "second")]) (.bin .sub (.v 4) (.c (.int 4))), .call "_law_wild" [.v 0, .v 1, .bin .sub (.v 2) (.c (.int 1)), .bin .sub (.v 3) (.c (.int 1))]])] [],
  .ife (.cmp .eq (.v 4) (.c (.int 6))) [
    .asg (.v 7) (.bin .fdiv (.bin .sub (.v 2) (.c (.int 1))) (.c (.int 3))),
    .asg (.v 8) (.call "_law_wild" [.v 0, .v 1, .v 7, .bin .sub (.v 3) (.c (.int 1))]),
    .asg (.v 6) (.call "_law_wild" [.v 0, .v 1, .v 7, .bin .sub (.v 3) (.c (.int 1))]),
    .ret (.tup [.c (.str "look"), .v 8, .v 6, .call "_law_wild" [.v 0, .v 1, .v 7, .bin .sub (.v 3) (.c (.int 1))]])] [],
  .asg (.v 6) (.call "_law_wild" [.v 0, .v 1, .v 5, .bin .sub (.v 3) (.c (.int 1))]),
  .ret (.tup [.ix (.lst [.c (.str "give"), .c (.str "give"), .c (.str "give"), .c (.str "plus"), .c (.str "pair")]) (.bin .sub (.v 4) (.c (.int 7))), .v 6, .call "_law_wild" [.v 0, .v 1, .v 5, .bin .sub (.v 3) (.c (.int 1))]])]
def f__law_wild : Fn := ⟨4, 9, [0], b__law_wild⟩
def b__law_deeper : List St := [
  .for_ (.v 2) .rng [.bin .mul (.call "_law_take" [.v 0, .c (.int 19)]) (.blt .int [.cmp .eq (.call "_law_take" [.v 0, .c (.int 3)]) (.c (.int 0))])] [
    .asg (.v 3) (.ix (.lst [.c (.str "way"), .c (.str "way"), .c (.str "first"), .c (.str "give")]) (.call "_law_take" [.v 0, .c (.int 4)])),
    .asg (.v 1) (.tup [.v 3, .v 1]),
    .ife (.cmp .eq (.v 3) (.c (.str "give"))) [
      .asg (.v 1) (.bin .add (.v 1) (.tup [.tup [.c (.str "name"), .call "_law_take" [.v 0, .c (.int 20)]]]))] []],
  .ret (.v 1)]
def f__law_deeper : Fn := ⟨2, 4, [0], b__law_deeper⟩
def wildLeaf : List St := [
    .ife (.and (.cmp .gt (.v 1) (.c (.int 0))) (.cmp .gt (.call "_law_take" [.v 0, .c (.int 3)]) (.c (.int 0)))) [
      .ret (.tup [.c (.str "name"), .call "_law_take" [.v 0, .v 1]])] [],
    .ret (.call "_law_whole" [.v 0])]
def wildB : List St := [
  .asg (.v 4) (.call "_law_take" [.v 0, .c (.int 12)]),
  .asg (.v 5) (.bin .fdiv (.bin .sub (.v 2) (.c (.int 1))) (.c (.int 2))),
  .ife (.or (.cmp .lt (.v 2) (.c (.int 2))) (.or (.cmp .lt (.v 3) (.c (.int 1))) (.cmp .lt (.v 4) (.c (.int 2))))) wildLeaf [],
  .ife (.cmp .lt (.v 4) (.c (.int 4))) [
    .ret (.tup [.c (.str "way"), .call "_law_wild" [.v 0, .bin .add (.v 1) (.c (.int 1)), .bin .sub (.v 2) (.c (.int 1)), .bin .sub (.v 3) (.c (.int 1))]])] [],
  .ife (.cmp .lt (.v 4) (.c (.int 6))) [
    .ret (.tup [.ix (.lst [.c (.str "first"), .c (.str "second")]) (.bin .sub (.v 4) (.c (.int 4))), .call "_law_wild" [.v 0, .v 1, .bin .sub (.v 2) (.c (.int 1)), .bin .sub (.v 3) (.c (.int 1))]])] [],
  .ife (.cmp .eq (.v 4) (.c (.int 6))) [
    .asg (.v 7) (.bin .fdiv (.bin .sub (.v 2) (.c (.int 1))) (.c (.int 3))),
    .asg (.v 8) (.call "_law_wild" [.v 0, .v 1, .v 7, .bin .sub (.v 3) (.c (.int 1))]),
    .asg (.v 6) (.call "_law_wild" [.v 0, .v 1, .v 7, .bin .sub (.v 3) (.c (.int 1))]),
    .ret (.tup [.c (.str "look"), .v 8, .v 6, .call "_law_wild" [.v 0, .v 1, .v 7, .bin .sub (.v 3) (.c (.int 1))]])] [],
  .asg (.v 6) (.call "_law_wild" [.v 0, .v 1, .v 5, .bin .sub (.v 3) (.c (.int 1))]),
  .ret (.tup [.ix (.lst [.c (.str "give"), .c (.str "give"), .c (.str "give"), .c (.str "plus"), .c (.str "pair")]) (.bin .sub (.v 4) (.c (.int 7))), .v 6, .call "_law_wild" [.v 0, .v 1, .v 5, .bin .sub (.v 3) (.c (.int 1))]])]
theorem wildB_eq : b__law_wild = wildB := rfl
def deepB : List St := [
    .asg (.v 3) (.ix (.lst [.c (.str "way"), .c (.str "way"), .c (.str "first"), .c (.str "give")]) (.call "_law_take" [.v 0, .c (.int 4)])),
    .asg (.v 1) (.tup [.v 3, .v 1]),
    .ife (.cmp .eq (.v 3) (.c (.str "give"))) [
      .asg (.v 1) (.bin .add (.v 1) (.tup [.tup [.c (.str "name"), .call "_law_take" [.v 0, .c (.int 20)]]]))] []]
end H
/-- all names are told by numbers from nought on -/
def P.nn : P → Bool
  | .name i => decide (0 ≤ i)
  | .whole _ => true
  | .un _ p => p.nn
  | .bi _ p q => p.nn && q.nn
  | .look p q r => p.nn && q.nn && r.nn
section
variable {ft : Str → Option Fn} (ht : ft "_law_take" = some H.f__law_take) (hw : ft "_law_whole" = some H.f__law_whole) (hq : ft "_law_wild" = some H.f__law_wild)
include ht
@[simp] theorem c_take_ (cf : Str → List D → Mem → CR) (s : S) (es : List E) : evE ft cf (.call "_law_take" es) s = (evAs ft cf [0] 0 es s).bind fun ds s => if ds.length = 2 then ofCR s (cf "_law_take" ds s.mem) else .no := ev_call ft cf s ht es
include hw
theorem wleaf_p {M : Fd → Mem} {r : Nat} (hM : Cell M r) (f : Fd) (many : Int) (h0 : 0 ≤ many) (h1 : many < 1000) : ∃ (p : P) (f' : Fd), p.dep = 0 ∧ p.nn = true ∧ ∀ (n : Nat) (a b c e x y z : Option (D × Bool)),
    evSs ft (cfN ft (n + 2)) [0] H.wildLeaf ⟨[some (.ref r, false), some (.int many, false), a, b, c, e, x, y, z], M f⟩ = .ok (.rt p.enc false) ⟨[some (.ref r, false), some (.int many, false), a, b, c, e, x, y, z], M f'⟩ := by
  have hb : many < 18446744073709551616 := by omega
  have cw : ∀ (cf : Str → List D → Mem → CR) (s : S) (es : List E), evE ft cf (.call "_law_whole" es) s = (evAs ft cf [0] 0 es s).bind fun ds s => if ds.length = 1 then ofCR s (cf "_law_whole" ds s.mem) else .no := fun cf s es => ev_call ft cf s hw es
  by_cases c1 : 0 < many
  · by_cases c2 : 0 < tk 3 f
    · refine ⟨.name (tk many (tn 3 f)), tn many (tn 3 f), rfl, by simp [P.nn]; exact tk_lo c1 _, fun n a b c e x y z => ?_⟩
      simp [H.wildLeaf, c_take_ ht, take_c ht hM, c1, c2, hb]
    · obtain ⟨i, f', hh⟩ := whole_c ht hw (tn 3 f)
      refine ⟨.whole i, f', rfl, rfl, fun n a b c e x y z => ?_⟩
      simp [H.wildLeaf, c_take_ ht, cw, take_c ht hM, c1, c2, hb, hh n M r hM]
  · obtain ⟨i, f', hh⟩ := whole_c ht hw f
    refine ⟨.whole i, f', rfl, rfl, fun n a b c e x y z => ?_⟩
    simp [H.wildLeaf, cw, c1, hh n M r hM]
include hq
theorem wild0_p {M : Fd → Mem} {r : Nat} (hM : Cell M r) (f : Fd) (many room deep : Int) (h0 : 0 ≤ many) (h1 : many < 1000) (hc : room < 2 ∨ deep < 1 ∨ tk 12 f < 2) : ∃ (p : P) (f' : Fd), p.dep = 0 ∧ p.nn = true ∧ ∀ (n : Nat),
    cfN ft (n + 3) "_law_wild" [.ref r, .int many, .int room, .int deep] (M f) = .ok p.enc false (M f') := by
  obtain ⟨p, f', hd, hn, hl⟩ := wleaf_p ht hw hM (tn 12 f) many h0 h1
  refine ⟨p, f', hd, hn, fun n => ?_⟩
  have hl := hl n
  rw [cf_s hq _ rfl]
  by_cases c1 : room < 2
  · simp [H.f__law_wild, H.wildB_eq, H.wildB, runF, env0, c_take_ ht, take_c ht hM, hl, c1]
  · by_cases c2 : deep < 1
    · simp [H.f__law_wild, H.wildB_eq, H.wildB, runF, env0, c_take_ ht, take_c ht hM, hl, c1, c2]
    · have c3 : tk 12 f < 2 := by omega
      simp [H.f__law_wild, H.wildB_eq, H.wildB, runF, env0, c_take_ ht, take_c ht hM, hl, c1, c2, c3]
theorem wild_p {M : Fd → Mem} {r : Nat} (hM : Cell M r) : ∀ (k : Nat) (f : Fd) (many room deep : Int), 0 ≤ many → many + k < 500 → deep ≤ k → ∃ (p : P) (f' : Fd), p.dep ≤ k ∧ p.nn = true ∧ ∀ (n : Nat),
    cfN ft (n + k + 3) "_law_wild" [.ref r, .int many, .int room, .int deep] (M f) = .ok p.enc false (M f')
  | 0, f, many, room, deep, h0, h1, h2 => by
    obtain ⟨p, f', hd, hn, hl⟩ := wild0_p ht hw hq hM f many room deep h0 (by omega) (by omega)
    exact ⟨p, f', by omega, hn, hl⟩
  | k + 1, f, many, room, deep, h0, h1, h2 => by
    have cq : ∀ (cf : Str → List D → Mem → CR) (s : S) (es : List E), evE ft cf (.call "_law_wild" es) s = (evAs ft cf [0] 0 es s).bind fun ds s => if ds.length = 4 then ofCR s (cf "_law_wild" ds s.mem) else .no := fun cf s es => ev_call ft cf s hq es
    by_cases hc : room < 2 ∨ deep < 1 ∨ tk 12 f < 2
    · obtain ⟨p, f', hd, hn, hl⟩ := wild0_p ht hw hq hM f many room deep h0 (by omega) hc
      exact ⟨p, f', by omega, hn, fun n => hl (n + (k + 1))⟩
    · have c1 : ¬ room < 2 := by omega
      have c2 : ¬ deep < 1 := by omega
      have c3 : ¬ tk 12 f < 2 := by omega
      have t0 := tk_hi (many := 12) (by decide) f
      by_cases c4 : tk 12 f < 4
      · obtain ⟨d, f', hd, hn, hl⟩ := wild_p hM k (tn 12 f) (many + 1) (room - 1) (deep - 1) (by omega) (by omega) (by omega)
        refine ⟨.un .way d, f', by simp only [P.dep]; omega, by simp [P.nn, hn], fun n => ?_⟩
        have hl := hl n
        show cfN ft ((n + k + 3) + 1) _ _ _ = _
        rw [cf_s hq _ rfl]
        simp [H.f__law_wild, H.wildB_eq, H.wildB, runF, env0, c_take_ ht, cq, take_c ht hM, hl, c1, c2, c3, c4]
      · by_cases c5 : tk 12 f < 6
        · obtain ⟨d, f', hd, hn, hl⟩ := wild_p hM k (tn 12 f) many (room - 1) (deep - 1) (by omega) (by omega) (by omega)
          have cs : tk 12 f = 4 ∨ tk 12 f = 5 := by omega
          rcases cs with c | c
          · refine ⟨.un .first d, f', by simp only [P.dep]; omega, by simp [P.nn, hn], fun n => ?_⟩
            have hl := hl n
            show cfN ft ((n + k + 3) + 1) _ _ _ = _
            rw [cf_s hq _ rfl]
            simp [H.f__law_wild, H.wildB_eq, H.wildB, runF, env0, c_take_ ht, cq, take_c ht hM, hl, c1, c2, c]
          · refine ⟨.un .second d, f', by simp only [P.dep]; omega, by simp [P.nn, hn], fun n => ?_⟩
            have hl := hl n
            show cfN ft ((n + k + 3) + 1) _ _ _ = _
            rw [cf_s hq _ rfl]
            simp [H.f__law_wild, H.wildB_eq, H.wildB, runF, env0, c_take_ ht, cq, take_c ht hM, hl, c1, c2, c]
        · by_cases c6 : tk 12 f = 6
          · obtain ⟨d1, f1, e1, s1, l1⟩ := wild_p hM k (tn 12 f) many ((room - 1) / 3) (deep - 1) (by omega) (by omega) (by omega)
            obtain ⟨d2, f2, e2, s2, l2⟩ := wild_p hM k f1 many ((room - 1) / 3) (deep - 1) (by omega) (by omega) (by omega)
            obtain ⟨d3, f3, e3, s3, l3⟩ := wild_p hM k f2 many ((room - 1) / 3) (deep - 1) (by omega) (by omega) (by omega)
            refine ⟨.look d1 d2 d3, f3, by simp only [P.dep]; omega, by simp [P.nn, s1, s2, s3], fun n => ?_⟩
            have l1 := l1 n
            have l2 := l2 n
            have l3 := l3 n
            show cfN ft ((n + k + 3) + 1) _ _ _ = _
            rw [cf_s hq _ rfl]
            simp [H.f__law_wild, H.wildB_eq, H.wildB, runF, env0, c_take_ ht, cq, take_c ht hM, l1, l2, l3, c1, c2, c6]
          · obtain ⟨d1, f1, e1, s1, l1⟩ := wild_p hM k (tn 12 f) many ((room - 1) / 2) (deep - 1) (by omega) (by omega) (by omega)
            obtain ⟨d2, f2, e2, s2, l2⟩ := wild_p hM k f1 many ((room - 1) / 2) (deep - 1) (by omega) (by omega) (by omega)
            have cs : tk 12 f = 7 ∨ tk 12 f = 8 ∨ tk 12 f = 9 ∨ tk 12 f = 10 ∨ tk 12 f = 11 := by omega
            have give : (tk 12 f = 7 ∨ tk 12 f = 8 ∨ tk 12 f = 9) → ∃ (p : P) (f' : Fd), p.dep ≤ k + 1 ∧ p.nn = true ∧ ∀ (n : Nat), cfN ft (n + (k + 1) + 3) "_law_wild" [.ref r, .int many, .int room, .int deep] (M f) = .ok p.enc false (M f') := fun h => by
              refine ⟨.bi .give d1 d2, f2, by simp only [P.dep]; omega, by simp [P.nn, s1, s2], fun n => ?_⟩
              have l1 := l1 n
              have l2 := l2 n
              show cfN ft ((n + k + 3) + 1) _ _ _ = _
              rw [cf_s hq _ rfl]
              rcases h with c | c | c <;> simp [H.f__law_wild, H.wildB_eq, H.wildB, runF, env0, c_take_ ht, cq, take_c ht hM, l1, l2, c1, c2, c]
            rcases cs with c | c | c | c | c
            · exact give (.inl c)
            · exact give (.inr (.inl c))
            · exact give (.inr (.inr c))
            · refine ⟨.bi .plus d1 d2, f2, by simp only [P.dep]; omega, by simp [P.nn, s1, s2], fun n => ?_⟩
              have l1 := l1 n
              have l2 := l2 n
              show cfN ft ((n + k + 3) + 1) _ _ _ = _
              rw [cf_s hq _ rfl]
              simp [H.f__law_wild, H.wildB_eq, H.wildB, runF, env0, c_take_ ht, cq, take_c ht hM, l1, l2, c1, c2, c]
            · refine ⟨.bi .pair d1 d2, f2, by simp only [P.dep]; omega, by simp [P.nn, s1, s2], fun n => ?_⟩
              have l1 := l1 n
              have l2 := l2 n
              show cfN ft ((n + k + 3) + 1) _ _ _ = _
              rw [cf_s hq _ rfl]
              simp [H.f__law_wild, H.wildB_eq, H.wildB, runF, env0, c_take_ ht, cq, take_c ht hM, l1, l2, c1, c2, c]
omit hw hq
theorem deeper_p (hd : ft "_law_deeper" = some H.f__law_deeper) {M : Fd → Mem} {r : Nat} (hM : Cell M r) (p : P) (hp : p.nn = true) (f : Fd) (n : Nat) : ∃ (q : P) (f' : Fd), q.dep ≤ p.dep + 18 ∧ q.sz ≤ p.sz + 36 ∧ q.nn = true ∧
    cfN ft (n + 2) "_law_deeper" [.ref r, p.enc] (M f) = .ok q.enc false (M f') := by
  have a0 := tk_lo (many := 19) (by decide) f
  have a1 := tk_hi (many := 19) (by decide) f
  obtain ⟨c, hc, c0, c1⟩ : ∃ c : Int, tk 19 f * (if tk 3 (tn 19 f) = 0 then 1 else 0) = c ∧ 0 ≤ c ∧ c ≤ 18 := by
    by_cases h : tk 3 (tn 19 f) = 0
    · rw [if_pos h]; exact ⟨_, rfl, by omega, by omega⟩
    · rw [if_neg h]; exact ⟨_, rfl, by omega, by omega⟩
  obtain ⟨⟨q, f', x2, x3⟩, ⟨h1, h2, h3⟩, hl⟩ := for_go (tgt := fun x s => asgT [0] (.v 2) x false s) (body := fun s => evSs ft (cfN ft (n + 1)) [0] H.deepB s)
    (fun a : P × Fd × Option (D × Bool) × Option (D × Bool) => ⟨[some (.ref r, false), some (a.1.enc, false), a.2.2.1, a.2.2.2], M a.2.1⟩) (fun xs a => a.1.dep + xs.length ≤ p.dep + 18 ∧ a.1.sz + 2 * xs.length ≤ p.sz + 36 ∧ a.1.nn = true) (fun x xs a ⟨h1, h2, h3⟩ => by
      obtain ⟨q, f, x2, x3⟩ := a
      have h1 : q.dep + (xs.length + 1) ≤ p.dep + 18 := h1
      have h2 : q.sz + 2 * (xs.length + 1) ≤ p.sz + 36 := h2
      have h3 : q.nn = true := h3
      have b0 := tk_lo (many := 4) (by decide) f
      have b1 := tk_hi (many := 4) (by decide) f
      have cs : tk 4 f = 0 ∨ tk 4 f = 1 ∨ tk 4 f = 2 ∨ tk 4 f = 3 := by omega
      rcases cs with c | c | c | c
      · refine ⟨(.un .way q, tn 4 f, some (x, false), some (.str "way", false)), ⟨by simp only [P.dep]; omega, by simp only [P.sz]; omega, by simp [P.nn, h3]⟩, .inl ?_⟩
        simp [H.deepB, c_take_ ht, take_c ht hM, c, ofStr_inj]
      · refine ⟨(.un .way q, tn 4 f, some (x, false), some (.str "way", false)), ⟨by simp only [P.dep]; omega, by simp only [P.sz]; omega, by simp [P.nn, h3]⟩, .inl ?_⟩
        simp [H.deepB, c_take_ ht, take_c ht hM, c, ofStr_inj]
      · refine ⟨(.un .first q, tn 4 f, some (x, false), some (.str "first", false)), ⟨by simp only [P.dep]; omega, by simp only [P.sz]; omega, by simp [P.nn, h3]⟩, .inl ?_⟩
        simp [H.deepB, c_take_ ht, take_c ht hM, c, ofStr_inj]
      · refine ⟨(.bi .give q (.name (tk 20 (tn 4 f))), tn 20 (tn 4 f), some (x, false), some (.str "give", false)), ⟨by simp only [P.dep]; omega, by simp only [P.sz]; omega, by simp [P.nn, h3]; exact tk_lo (by decide) _⟩, .inl ?_⟩
        simp [H.deepB, c_take_ ht, take_c ht hM, c, ofStr_inj])
    (rngL 0 c.toNat) (p, tn 3 (tn 19 f), none, none) ⟨by simp [rngL]; omega, by simp [rngL]; omega, hp⟩
  have hs : small62 c = true := by unfold small62; simp; omega
  have L1 := (for_at (ft := ft) (cf := cfN ft (n + 1)) (sh := [0]) (t := .v 2) (k := .rng) (es := [.bin .mul (.call "_law_take" [.v 0, .c (.int 19)]) (.blt .int [.cmp .eq (.call "_law_take" [.v 0, .c (.int 3)]) (.c (.int 0))])]) (body := H.deepB)
    (s := ⟨[some (.ref r, false), some (p.enc, false), none, none], M f⟩) (ds := [.int c]) (by
      have hb : (inB (if tk 3 (tn 19 f) = 0 then 1 else 0) || inB (tk 19 f)) = true := by
        have : inB (if tk 3 (tn 19 f) = 0 then 1 else 0) = true := by split <;> decide
        rw [this]; rfl
      simp [-inB_lit, c_take_ ht, take_c ht hM, hc, hb]) (xs := rngL 0 c.toNat) (by simp [hs])).trans hl
  refine ⟨q, f', by simpa using h1, by simpa using h2, h3, ?_⟩
  rw [cf_r hd _ rfl]
  show crOf (evSs ft (cfN ft (n + 1)) [0] [.for_ (.v 2) .rng [.bin .mul (.call "_law_take" [.v 0, .c (.int 19)]) (.blt .int [.cmp .eq (.call "_law_take" [.v 0, .c (.int 3)]) (.c (.int 0))])] H.deepB, .ret (.v 1)] ⟨[some (.ref r, false), some (p.enc, false), none, none], M f⟩) = _
  simp [L1, crOf]
end
end Ly
set_option Elab.async false
set_option linter.all false
set_option maxRecDepth 100000
set_option maxHeartbeats 4000000
/-! Ly29: lifted, put in. -/
namespace Ly
open PySem PySem.Spec PyProof.Rows L2
namespace H
def b_with_inner : List St := [
  .ife (.cmp .eq (.blt .len [.v 1]) (.c (.int 0))) [
    .ret (.v 0)] [],
  .ret (.bin .add (.sl (.v 0) (.nil) (.c (.int 1))) (.blt .tuple [.v 1]))]
def f_with_inner : Fn := ⟨2, 2, [], b_with_inner⟩
def b_ways_more : List St := [
  .ret (.bin .add (.v 1) (.blt .int [.cmp .eq (.ix (.v 0) (.c (.int 0))) (.c (.str "way"))]))]
def f_ways_more : Fn := ⟨2, 2, [], b_ways_more⟩
def b_lifted : List St := [
  .ife (.cmp .eq (.ix (.v 0) (.c (.int 0))) (.c (.str "name"))) [
    .ife (.cmp .lt (.ix (.v 0) (.c (.int 1))) (.v 2)) [
      .ret (.v 0)] [],
    .ret (.tup [.c (.str "name"), .bin .add (.ix (.v 0) (.c (.int 1))) (.v 1)])] [],
  .ret (.call "with_inner" [.v 0, .lc (.call "lifted" [.v 3, .v 1, .call "ways_more" [.v 0, .v 2]]) (.v 3) .seq [.call "inner" [.v 0]] [] [3]])]
def f_lifted : Fn := ⟨3, 4, [], b_lifted⟩
def b_put_under : List St := [
  .ife (.cmp .eq (.ix (.v 0) (.c (.int 0))) (.c (.str "name"))) [
    .ife (.cmp .lt (.ix (.v 0) (.c (.int 1))) (.v 2)) [
      .ret (.v 0)] [],
    .ife (.cmp .eq (.ix (.v 0) (.c (.int 1))) (.v 2)) [
      .ret (.call "lifted" [.v 1, .v 2, .c (.int 0)])] [],
    .ret (.tup [.c (.str "name"), .bin .sub (.ix (.v 0) (.c (.int 1))) (.c (.int 1))])] [],
  .ret (.call "with_inner" [.v 0, .lc (.call "put_under" [.v 3, .v 1, .call "ways_more" [.v 0, .v 2]]) (.v 3) .seq [.call "inner" [.v 0]] [] [3]])]
def f_put_under : Fn := ⟨3, 4, [], b_put_under⟩
def b_put_in : List St := [
  .ret (.call "put_under" [.v 0, .v 1, .c (.int 0)])]
def f_put_in : Fn := ⟨2, 2, [], b_put_in⟩
end H
theorem tag_ne_name (p : P) (h : p.leaf = false) : decide (p.tag = "name") = false := by
  cases p with
  | un w p => cases w <;> rfl
  | bi w p q => cases w <;> rfl
  | look _ _ _ => rfl
  | _ => cases h
theorem tag_ne_whole (p : P) (h : p.leaf = false) : decide (p.tag = "whole") = false := by
  cases p with
  | un w p => cases w <;> rfl
  | bi w p q => cases w <;> rfl
  | look _ _ _ => rfl
  | _ => cases h
/-- the same program, f in the place of each inner one -/
def P.mapI (f : P → P) : P → P
  | .un w p => .un w (f p)
  | .bi w p q => .bi w (f p) (f q)
  | .look p q r => .look (f p) (f q) (f r)
  | p => p
theorem enc_mapI (f : P → P) (p : P) (h : p.leaf = false) : (p.mapI f).enc = .tup (.str p.tag :: p.inner.map fun q => (f q).enc) := by
  cases p <;> first | rfl | cases h
def lift (many : Int) : Int → P → P
  | least, .name i => if i < least then .name i else .name (i + many)
  | _, .whole i => .whole i
  | least, .un w p => .un w (lift many (least + b2i (decide (w = .way))) p)
  | least, .bi w p q => .bi w (lift many least p) (lift many least q)
  | least, .look p q r => .look (lift many least p) (lift many least q) (lift many least r)
theorem lift_node (many least : Int) (p : P) (h : p.leaf = false) : lift many least p = p.mapI (lift many (least + b2i p.isW)) := by
  cases p with
  | un w p => cases w <;> simp [lift, P.mapI, P.isW]
  | bi w p q => simp [lift, P.mapI, P.isW]
  | look p q r => simp [lift, P.mapI, P.isW]
  | _ => cases h
def putU (o : P) : Int → P → P
  | ways, .name i => if i < ways then .name i else if i = ways then lift ways 0 o else .name (i - 1)
  | _, .whole i => .whole i
  | ways, .un w p => .un w (putU o (ways + b2i (decide (w = .way))) p)
  | ways, .bi w p q => .bi w (putU o ways p) (putU o ways q)
  | ways, .look p q r => .look (putU o ways p) (putU o ways q) (putU o ways r)
theorem putU_node (o : P) (ways : Int) (p : P) (h : p.leaf = false) : putU o ways p = p.mapI (putU o (ways + b2i p.isW)) := by
  cases p with
  | un w p => cases w <;> simp [putU, P.mapI, P.isW]
  | bi w p q => simp [putU, P.mapI, P.isW]
  | look p q r => simp [putU, P.mapI, P.isW]
  | _ => cases h
theorem lift_dep (many : Int) : ∀ (p : P) (least : Int), (lift many least p).dep = p.dep
  | .name i, least => by unfold lift; split <;> rfl
  | .whole i, least => rfl
  | .un w p, least => by simp [lift, P.dep, lift_dep many p]
  | .bi w p q, least => by simp [lift, P.dep, lift_dep many p, lift_dep many q]
  | .look p q r, least => by simp [lift, P.dep, lift_dep many p, lift_dep many q, lift_dep many r]
theorem lift_sz (many : Int) : ∀ (p : P) (least : Int), (lift many least p).sz = p.sz
  | .name i, least => by unfold lift; split <;> rfl
  | .whole i, least => rfl
  | .un w p, least => by simp [lift, P.sz, lift_sz many p]
  | .bi w p q, least => by simp [lift, P.sz, lift_sz many p, lift_sz many q]
  | .look p q r, least => by simp [lift, P.sz, lift_sz many p, lift_sz many q, lift_sz many r]
theorem putU_dep (o : P) : ∀ (p : P) (ways : Int), (putU o ways p).dep ≤ p.dep + o.dep
  | .name i, ways => by
    unfold putU
    split
    · simp [P.dep]
    · split
      · rw [lift_dep]; simp [P.dep]
      · simp [P.dep]
  | .whole i, ways => by simp [putU, P.dep]
  | .un w p, ways => by
    have := putU_dep o p (ways + b2i (decide (w = .way)))
    simp only [putU, P.dep]; omega
  | .bi w p q, ways => by
    have := putU_dep o p ways
    have := putU_dep o q ways
    simp only [putU, P.dep]; omega
  | .look p q r, ways => by
    have := putU_dep o p ways
    have := putU_dep o q ways
    have := putU_dep o r ways
    simp only [putU, P.dep]; omega
theorem inner_len (p : P) : p.inner.length ≤ 3 := by cases p <;> simp [P.inner]
theorem inner_mapI (f : P → P) (p : P) : (p.mapI f).inner = p.inner.map f := by cases p <;> rfl
section
variable {ft : Str → Option Fn} (hi : ft "inner" = some H.f_inner) (hw : ft "with_inner" = some H.f_with_inner) (hm : ft "ways_more" = some H.f_ways_more) (hl : ft "lifted" = some H.f_lifted) (hu : ft "put_under" = some H.f_put_under) (hp : ft "put_in" = some H.f_put_in)
include hw in
theorem with0_ev (p : P) (n : Nat) (m : Mem) : cfN ft (n + 1) "with_inner" [p.enc, .lst []] m = .ok p.enc false m := by
  rw [cf_s hw _ rfl]
  simp [H.f_with_inner, H.b_with_inner, runF, env0]
include hw in
theorem with1_ev (x : D) (xs ys : List D) (h0 : ys ≠ []) (h1 : ys.length ≤ 1000) (n : Nat) (m : Mem) : cfN ft (n + 1) "with_inner" [.tup (x :: xs), .lst ys] m = .ok (.tup (x :: ys)) false m := by
  have hl : 0 < ys.length := List.length_pos_iff.mpr h0
  have z : 1 + ys.length ≤ sizeLine := sl_le (by omega)
  rw [cf_s hw _ rfl]
  simp [H.f_with_inner, H.b_with_inner, runF, env0, h0, cut_t1, z]
include hm in
theorem more_ev (p : P) (w : Int) (n : Nat) (m : Mem) : cfN ft (n + 1) "ways_more" [p.enc, .int w] m = .ok (.int (w + b2i p.isW)) false m := by
  have ht := tag_way p
  rw [cf_s hm _ rfl]
  cases hc : p.isW with
  | true =>
    rw [hc] at ht
    simp [H.f_ways_more, H.b_ways_more, runF, env0, tag_ix, ofStr_inj, of_decide_eq_true ht]
  | false =>
    rw [hc] at ht
    simp [H.f_ways_more, H.b_ways_more, runF, env0, tag_ix, ofStr_inj, of_decide_eq_false ht]
include hi hw hm hl in
theorem lifted_ev : ∀ (n : Nat) (p : P) (many least : Int) (m : Mem), p.dep + 1 < n → cfN ft n "lifted" [p.enc, .int many, .int least] m = .ok (lift many least p).enc false m := by
  intro n
  induction n with
  | zero => intro p many least m h; omega
  | succ n ih =>
    intro p many least m hn
    have ci := fun (cf : Str → List D → Mem → CR) (s : S) (es : List E) => ev_call ft cf s hi es
    have cw := fun (cf : Str → List D → Mem → CR) (s : S) (es : List E) => ev_call ft cf s hw es
    have cm := fun (cf : Str → List D → Mem → CR) (s : S) (es : List E) => ev_call ft cf s hm es
    have cl := fun (cf : Str → List D → Mem → CR) (s : S) (es : List E) => ev_call ft cf s hl es
    have s1 : H.f_inner.sh = [] := rfl
    have s2 : H.f_with_inner.sh = [] := rfl
    have s3 : H.f_ways_more.sh = [] := rfl
    have s4 : H.f_lifted.sh = [] := rfl
    have p1 : H.f_inner.ps = 1 := rfl
    have p2 : H.f_with_inner.ps = 2 := rfl
    have p3 : H.f_ways_more.ps = 2 := rfl
    have p4 : H.f_lifted.ps = 3 := rfl
    obtain ⟨n, rfl⟩ : ∃ k, n = k + 1 := ⟨n - 1, by omega⟩
    rw [cf_r hl _ rfl]
    show crOf (evSs ft (cfN ft (n + 1)) [] H.b_lifted ⟨[some (p.enc, false), some (.int many, false), some (.int least, false), none], m⟩) = _
    cases hlf : p.leaf with
    | true =>
      cases p with
      | name i =>
        by_cases c : i < least
        · simp [H.b_lifted, lift, c, crOf]
        · simp [H.b_lifted, lift, c, crOf]
      | whole i =>
        have hlc := lc_mapA (ft := ft) (cf := cfN ft (n + 1)) (elt := .call "lifted" [.v 3, .v 1, .call "ways_more" [.v 0, .v 2]]) (tg := .v 3) (k := .seq) (its := [.call "inner" [.v 0]]) (own := [3])
          (s := ⟨[some ((P.whole i).enc, false), some (.int many, false), some (.int least, false), none], m⟩) (env := [some ((P.whole i).enc, false), some (.int many, false), some (.int least, false), none]) (m := m) (P.inner (.whole i)) P.enc P.enc
          (by
            have hin := inner_ev hi (.whole i) n m
            simp only [e_whole, P.inner, List.map_nil] at hin
            simp [ci, s1, p1, hin, P.inner]) rfl (by simp [P.inner]) (fun a ha => nomatch ha)
        have e0 := with0_ev hw (.whole i) n m
        simp only [e_whole, P.inner, List.map_nil] at hlc e0
        simp [H.b_lifted, lift, hlc, cw, s2, p2, e0, ofStr_inj, crOf]
      | _ => cases hlf
    | false =>
      have hlc := lc_mapA (ft := ft) (cf := cfN ft (n + 1)) (elt := .call "lifted" [.v 3, .v 1, .call "ways_more" [.v 0, .v 2]]) (tg := .v 3) (k := .seq) (its := [.call "inner" [.v 0]]) (own := [3])
        (s := ⟨[some (p.enc, false), some (.int many, false), some (.int least, false), none], m⟩) (env := [some (p.enc, false), some (.int many, false), some (.int least, false), none]) (m := m) p.inner P.enc (fun q => (lift many (least + b2i p.isW) q).enc)
        (by simp [ci, s1, p1, inner_ev hi p n m]) rfl (by have := inner_len p; exact sl_le (by omega)) (fun a ha => by
          have hd := inner_dep p a ha
          refine ⟨[some (p.enc, false), some (.int many, false), some (.int least, false), some (a.enc, false)], false, rfl, ?_⟩
          simp [wipeE, cl, s4, p4, cm, s3, p3, more_ev hm p least n m, ih a many (least + b2i p.isW) m (by omega)])
      have ht := of_decide_eq_false (tag_ne_name p hlf)
      have e1 := with1_ev hw (.str p.tag) (p.inner.map P.enc) (p.inner.map fun q => (lift many (least + b2i p.isW) q).enc) (by
        intro z
        have : p.inner = [] := List.map_eq_nil_iff.mp z
        rw [(inner_leaf p).mpr this] at hlf
        cases hlf) (by have := inner_len p; simp; omega) n m
      rw [← enc_node p hlf] at e1
      rw [lift_node many least p hlf, enc_mapI _ p hlf]
      simp [H.b_lifted, tag_ix, ofStr_inj, ht, hlc, cw, s2, p2, e1, crOf]
include hi hw hm hl hu in
theorem under_ev (o : P) : ∀ (n : Nat) (p : P) (ways : Int) (m : Mem), p.dep + o.dep + 2 < n → cfN ft n "put_under" [p.enc, o.enc, .int ways] m = .ok (putU o ways p).enc false m := by
  intro n
  induction n with
  | zero => intro p ways m h; omega
  | succ n ih =>
    intro p ways m hn
    have ci := fun (cf : Str → List D → Mem → CR) (s : S) (es : List E) => ev_call ft cf s hi es
    have cw := fun (cf : Str → List D → Mem → CR) (s : S) (es : List E) => ev_call ft cf s hw es
    have cm := fun (cf : Str → List D → Mem → CR) (s : S) (es : List E) => ev_call ft cf s hm es
    have cl := fun (cf : Str → List D → Mem → CR) (s : S) (es : List E) => ev_call ft cf s hl es
    have cu := fun (cf : Str → List D → Mem → CR) (s : S) (es : List E) => ev_call ft cf s hu es
    have s1 : H.f_inner.sh = [] := rfl
    have s2 : H.f_with_inner.sh = [] := rfl
    have s3 : H.f_ways_more.sh = [] := rfl
    have s4 : H.f_lifted.sh = [] := rfl
    have s5 : H.f_put_under.sh = [] := rfl
    have p1 : H.f_inner.ps = 1 := rfl
    have p2 : H.f_with_inner.ps = 2 := rfl
    have p3 : H.f_ways_more.ps = 2 := rfl
    have p4 : H.f_lifted.ps = 3 := rfl
    have p5 : H.f_put_under.ps = 3 := rfl
    obtain ⟨n, rfl⟩ : ∃ k, n = k + 1 := ⟨n - 1, by omega⟩
    rw [cf_r hu _ rfl]
    show crOf (evSs ft (cfN ft (n + 1)) [] H.b_put_under ⟨[some (p.enc, false), some (o.enc, false), some (.int ways, false), none], m⟩) = _
    cases hlf : p.leaf with
    | true =>
      cases p with
      | name i =>
        by_cases c : i < ways
        · simp [H.b_put_under, putU, c, crOf]
        · by_cases c2 : i = ways
          · subst c2
            have hq := lifted_ev hi hw hm hl (n + 1) o i 0 m (by omega)
            simp [H.b_put_under, putU, crOf, cl, s4, p4, hq]
          · simp [H.b_put_under, putU, c, c2, crOf]
      | whole i =>
        have hlc := lc_mapA (ft := ft) (cf := cfN ft (n + 1)) (elt := .call "put_under" [.v 3, .v 1, .call "ways_more" [.v 0, .v 2]]) (tg := .v 3) (k := .seq) (its := [.call "inner" [.v 0]]) (own := [3])
          (s := ⟨[some ((P.whole i).enc, false), some (o.enc, false), some (.int ways, false), none], m⟩) (env := [some ((P.whole i).enc, false), some (o.enc, false), some (.int ways, false), none]) (m := m) (P.inner (.whole i)) P.enc P.enc
          (by
            have hin := inner_ev hi (.whole i) n m
            simp only [e_whole, P.inner, List.map_nil] at hin
            simp [ci, s1, p1, hin, P.inner]) rfl (by simp [P.inner]) (fun a ha => nomatch ha)
        have e0 := with0_ev hw (.whole i) n m
        simp only [e_whole, P.inner, List.map_nil] at hlc e0
        simp [H.b_put_under, putU, hlc, cw, s2, p2, e0, ofStr_inj, crOf]
      | _ => cases hlf
    | false =>
      have hlc := lc_mapA (ft := ft) (cf := cfN ft (n + 1)) (elt := .call "put_under" [.v 3, .v 1, .call "ways_more" [.v 0, .v 2]]) (tg := .v 3) (k := .seq) (its := [.call "inner" [.v 0]]) (own := [3])
        (s := ⟨[some (p.enc, false), some (o.enc, false), some (.int ways, false), none], m⟩) (env := [some (p.enc, false), some (o.enc, false), some (.int ways, false), none]) (m := m) p.inner P.enc (fun q => (putU o (ways + b2i p.isW) q).enc)
        (by simp [ci, s1, p1, inner_ev hi p n m]) rfl (by have := inner_len p; exact sl_le (by omega)) (fun a ha => by
          have hd := inner_dep p a ha
          refine ⟨[some (p.enc, false), some (o.enc, false), some (.int ways, false), some (a.enc, false)], false, rfl, ?_⟩
          simp [wipeE, cu, s5, p5, cm, s3, p3, more_ev hm p ways n m, ih a (ways + b2i p.isW) m (by omega)])
      have ht := of_decide_eq_false (tag_ne_name p hlf)
      have e1 := with1_ev hw (.str p.tag) (p.inner.map P.enc) (p.inner.map fun q => (putU o (ways + b2i p.isW) q).enc) (by
        intro z
        have : p.inner = [] := List.map_eq_nil_iff.mp z
        rw [(inner_leaf p).mpr this] at hlf
        cases hlf) (by have := inner_len p; simp; omega) n m
      rw [← enc_node p hlf] at e1
      rw [putU_node o ways p hlf, enc_mapI _ p hlf]
      simp [H.b_put_under, tag_ix, ofStr_inj, ht, hlc, cw, s2, p2, e1, crOf]
include hi hw hm hl hu hp in
theorem putin_ev (p o : P) (n : Nat) (m : Mem) (hn : p.dep + o.dep + 2 < n) : cfN ft (n + 1) "put_in" [p.enc, o.enc] m = .ok (putU o 0 p).enc false m := by
  rw [cf_s hp _ rfl]
  simp [H.f_put_in, H.b_put_in, runF, env0, ev_call ft _ _ hu, show H.f_put_under.sh = [] from rfl, show H.f_put_under.ps = 3 from rfl, under_ev hi hw hm hl hu o n p 0 m hn]
end
end Ly
set_option Elab.async false
set_option linter.all false
set_option maxRecDepth 100000
set_option maxHeartbeats 4000000
/-! Ly30: all places of a program; filters. -/
namespace Ly
open PySem PySem.Spec PyProof.Rows L2
/-- a comprehension that gives g of those that pass -/
theorem lc_filter {α : Type} {ft : Str → Option Fn} {cf : Str → List D → Mem → CR} {elt : E} {tg : T} {k : IK} {its ifs : List E} {own : List Nat} {s : S} {env : Env} {m : Mem} (l : List α) (e g : α → D) (t : α → Bool)
    (h0 : ((evEs ft cf its s).bind fun ds s => liftO s (walkD k ds)) = .ok (l.map e) ⟨env, m⟩) (ho : ownFree env own = true) (hl : l.length ≤ sizeLine)
    (h : ∀ a ∈ l, ∃ env', wipeE env' own = wipeE env own ∧ ((asgT [] tg (e a) false ⟨wipeE env own, m⟩).bind fun _ s => (evTs ft cf ifs s).bind fun b s => if b then (evE ft cf elt s).bind fun p s => .ok (some p.1) s else .ok none s) = .ok (if t a then some (g a) else none) ⟨env', m⟩) :
    evE ft cf (.lc elt tg k its ifs own) s = .ok (.lst ((l.filter t).map g), true) ⟨env, m⟩ := by
  have loop : ∀ (l : List α) (acc : List D) (env1 : Env), wipeE env1 own = wipeE env own → acc.length + l.length ≤ sizeLine → (∀ a ∈ l, ∃ env', wipeE env' own = wipeE env own ∧ ((asgT [] tg (e a) false ⟨wipeE env own, m⟩).bind fun _ s => (evTs ft cf ifs s).bind fun b s => if b then (evE ft cf elt s).bind fun p s => .ok (some p.1) s else .ok none s) = .ok (if t a then some (g a) else none) ⟨env', m⟩) →
      ∃ env', wipeE env' own = wipeE env own ∧ lcLoop (fun s => (evTs ft cf ifs s).bind fun b s => if b then (evE ft cf elt s).bind fun p s => .ok (some p.1) s else .ok none s) tg own (l.map e) acc ⟨env1, m⟩ = .ok (acc ++ (l.filter t).map g) ⟨env', m⟩ := by
    intro l
    induction l with
    | nil => intro acc env1 hw _ _; exact ⟨env1, hw, by simp [lcLoop]⟩
    | cons x xs ih =>
      intro acc env1 hw hl h
      obtain ⟨env2, w2, e2⟩ := h x List.mem_cons_self
      cases ht : t x with
      | true =>
        obtain ⟨env3, w3, e3⟩ := ih (acc ++ [g x]) env2 w2 (by simp at hl ⊢; omega) fun y hy => h y (List.mem_cons_of_mem _ hy)
        refine ⟨env3, w3, ?_⟩
        rw [ht] at e2
        rw [List.map_cons]
        show ((asgT [] tg (e x) false ⟨wipeE env1 own, m⟩).bind fun _ s1 => ((evTs ft cf ifs s1).bind fun b s => if b then (evE ft cf elt s).bind fun p s => R.ok (some p.1) s else R.ok none s).bind fun o s2 => match o with
          | none => lcLoop _ tg own (xs.map e) acc s2
          | some d => if acc.length < sizeLine then lcLoop _ tg own (xs.map e) (acc ++ [d]) s2 else .no) = _
        rw [hw, ← R.assoc, e2]
        show (if acc.length < sizeLine then _ else R.no) = _
        rw [if_pos (by simp at hl; omega)]
        refine e3.trans ?_
        simp [ht]
      | false =>
        obtain ⟨env3, w3, e3⟩ := ih acc env2 w2 (by simp at hl ⊢; omega) fun y hy => h y (List.mem_cons_of_mem _ hy)
        refine ⟨env3, w3, ?_⟩
        rw [ht] at e2
        rw [List.map_cons]
        show ((asgT [] tg (e x) false ⟨wipeE env1 own, m⟩).bind fun _ s1 => ((evTs ft cf ifs s1).bind fun b s => if b then (evE ft cf elt s).bind fun p s => R.ok (some p.1) s else R.ok none s).bind fun o s2 => match o with
          | none => lcLoop _ tg own (xs.map e) acc s2
          | some d => if acc.length < sizeLine then lcLoop _ tg own (xs.map e) (acc ++ [d]) s2 else .no) = _
        rw [hw, ← R.assoc, e2]
        refine e3.trans ?_
        simp [ht]
  obtain ⟨env', w, e1⟩ := loop l [] env rfl (by simpa using hl) h
  rw [Ly.ev_lc, h0]
  show (if ownFree env own then _ else _) = _
  rw [if_pos ho, e1]
  show R.ok (D.lst ([] ++ (l.filter t).map g), true) ⟨backE env env' own, m⟩ = _
  rw [back_eq w, back_self]
  rfl
theorem cut_take (xs : List D) (k : Nat) : cutD xs none (some (k : Int)) = xs.take k := by
  unfold cutD
  rw [HT.sIx_none, HT.sIx_nat]
  simp
/-- a place -/
def encP (pl : List Int) : D := .tup (pl.map D.int)
@[simp] theorem deref_encP (m : Mem) (pl : List Int) : deref m (encP pl) = some (encP pl) := id rfl
theorem nbts_I : ∀ l : List Int, D.nbts (l.map D.int) = true
  | [] => rfl
  | _ :: l => nbts_I l
theorem pls_I : ∀ l : List Int, D.pls (l.map D.int) = true
  | [] => rfl
  | _ :: l => pls_I l
theorem deps_I : ∀ l : List Int, D.deps (l.map D.int) = 0
  | [] => rfl
  | _ :: l => by show max 0 _ = 0; rw [deps_I l]; rfl
theorem intD_inj : ∀ a b : List Int, a.map D.int = b.map D.int ↔ a = b
  | [], [] => by simp
  | [], _ :: _ => by simp
  | _ :: _, [] => by simp
  | x :: a, y :: b => by simp [intD_inj a b]
theorem ne_encP (a b : List Int) : opCmp .ne (encP a) (encP b) = some (!decide (a = b)) := by
  have e : opCmp .ne (encP a) (encP b) = (if eqOk (encP a) (encP b) then some (D.eqv (encP a) (encP b)) else none).map (!·) := rfl
  have h : eqOk (encP a) (encP b) = true := by simp [eqOk, encP, D.pl, pls_I, D.dep, deps_I]
  rw [e, if_pos h]
  have q := eqv_nbt (encP a) (encP b) (nbts_I a) (nbts_I b)
  by_cases c : a = b
  · subst c
    rw [q.mpr rfl]
    simp
  · have : ¬ D.eqv (encP a) (encP b) = true := fun z => c (by
      have := q.mp z
      simp only [encP, D.tup.injEq] at this
      exact (intD_inj a b).mp this)
    simp only [Bool.not_eq_true] at this
    rw [this]
    simp [c]
abbrev Pt := List Int × P
def allP : P → List Int → List Pt
  | .name i, pl => [(pl, .name i)]
  | .whole i, pl => [(pl, .whole i)]
  | .un u a, pl => (pl, .un u a) :: allP a (pl ++ [0])
  | .bi u a b, pl => (pl, .bi u a b) :: (allP a (pl ++ [0]) ++ allP b (pl ++ [1]))
  | .look a b c, pl => (pl, .look a b c) :: (allP a (pl ++ [0]) ++ (allP b (pl ++ [1]) ++ allP c (pl ++ [2])))
theorem allP_len : ∀ (p : P) (pl : List Int), (allP p pl).length = p.sz
  | .name _, _ => rfl
  | .whole _, _ => rfl
  | .un u a, pl => by simp [allP, P.sz, allP_len a]
  | .bi u a b, pl => by simp [allP, P.sz, allP_len a, allP_len b]
  | .look a b c, pl => by simp [allP, P.sz, allP_len a, allP_len b, allP_len c]; omega
theorem at_app : ∀ (pl : List Int) (F q r : P) (i : Nat), F.at pl = some q → q.inner[i]? = some r → F.at (pl ++ [(i : Int)]) = some r
  | [], F, q, r, i, h, hi => by
    cases h
    simp [P.at, hi]
  | k :: ks, F, q, r, i, h, hi => by
    have h : (if 0 ≤ k then (match F.inner[k.toNat]? with | some q => q.at ks | none => none) else none) = some q := h
    by_cases hk : 0 ≤ k
    · rw [if_pos hk] at h
      cases hx : F.inner[k.toNat]? with
      | none => rw [hx] at h; cases h
      | some x =>
        rw [hx] at h
        have := at_app ks x q r i h hi
        show (if 0 ≤ k then (match F.inner[k.toNat]? with | some q => q.at (ks ++ [(i : Int)]) | none => none) else none) = some r
        rw [if_pos hk, hx]
        exact this
    · rw [if_neg hk] at h; cases h
theorem allP_at : ∀ (p F : P) (pl : List Int), F.at pl = some p → ∀ x ∈ allP p pl, F.at x.1 = some x.2
  | .name i, F, pl, h => fun x hx => by
    have : x = (pl, .name i) := by simpa [allP] using hx
    subst this; exact h
  | .whole i, F, pl, h => fun x hx => by
    have : x = (pl, .whole i) := by simpa [allP] using hx
    subst this; exact h
  | .un u a, F, pl, h => fun x hx => by
    rcases List.mem_cons.mp hx with rfl | hx
    · exact h
    · exact allP_at a F _ (at_app pl F _ _ 0 h rfl) x hx
  | .bi u a b, F, pl, h => fun x hx => by
    rcases List.mem_cons.mp hx with rfl | hx
    · exact h
    · rcases List.mem_append.mp hx with hx | hx
      · exact allP_at a F _ (at_app pl F _ _ 0 h rfl) x hx
      · exact allP_at b F _ (at_app pl F _ _ 1 h rfl) x hx
  | .look a b c, F, pl, h => fun x hx => by
    rcases List.mem_cons.mp hx with rfl | hx
    · exact h
    · rcases List.mem_append.mp hx with hx | hx
      · exact allP_at a F _ (at_app pl F _ _ 0 h rfl) x hx
      · rcases List.mem_append.mp hx with hx | hx
        · exact allP_at b F _ (at_app pl F _ _ 1 h rfl) x hx
        · exact allP_at c F _ (at_app pl F _ _ 2 h rfl) x hx
theorem at_len : ∀ (pl : List Int) (F q : P), F.at pl = some q → pl.length + q.dep ≤ F.dep
  | [], F, q, h => by cases h; simp
  | k :: ks, F, q, h => by
    have h : (if 0 ≤ k then (match F.inner[k.toNat]? with | some q => q.at ks | none => none) else none) = some q := h
    by_cases hk : 0 ≤ k
    · rw [if_pos hk] at h
      cases hx : F.inner[k.toNat]? with
      | none => rw [hx] at h; cases h
      | some x =>
        rw [hx] at h
        have h1 := at_len ks x q h
        have h2 := inner_dep F x (List.mem_of_getElem? hx)
        simp
        omega
    · rw [if_neg hk] at h; cases h
theorem at_app_none (pl : List Int) (F q : P) (ks : List Int) : F.at pl = some q → F.at (pl ++ ks) = q.at ks := by
  induction pl generalizing F with
  | nil => intro h; cases h; rfl
  | cons k pl ih =>
    intro h
    have h : (if 0 ≤ k then (match F.inner[k.toNat]? with | some q => q.at pl | none => none) else none) = some q := h
    show (if 0 ≤ k then (match F.inner[k.toNat]? with | some q => q.at (pl ++ ks) | none => none) else none) = _
    by_cases hk : 0 ≤ k
    · rw [if_pos hk] at h ⊢
      cases hx : F.inner[k.toNat]? with
      | none => rw [hx] at h; cases h
      | some x => rw [hx] at h; exact ih x h
    · rw [if_neg hk] at h; cases h
/-- the store as it goes with a list -/
structure CellL (M : List D → Mem) (r : Nat) : Prop where
  get : ∀ l, (M l)[r]? = some (.lst l)
  put : ∀ l l', (M l).set r (.lst l') = M l'
theorem CellL.app (pre : Mem) : CellL (fun l => pre ++ [.lst l]) pre.length := ⟨fun l => by simp, fun l l' => by simp⟩
theorem Cell.app (pre : Mem) : Cell (fun f => pre ++ [mo f]) pre.length := ⟨fun f => by simp, fun f g => by simp⟩
namespace H
def b_places_behind : List St := [
  .ex (.mw .append (.v 2) [.v 0]),
  .for_ (.tup [3, 4]) .enm [.call "inner" [.v 1]] [
    .ex (.call "places_behind" [.bin .add (.v 0) (.tup [.v 3]), .v 4, .v 2])]]
def f_places_behind : Fn := ⟨3, 5, [2], b_places_behind⟩
def b_places : List St := [
  .asg (.v 1) (.lst []),
  .ex (.call "places_behind" [.tup [], .v 0, .v 1]),
  .ret (.v 1)]
def f_places : Fn := ⟨1, 2, [1], b_places⟩
end H
section
variable {ft : Str → Option Fn} (hi : ft "inner" = some H.f_inner) (hb : ft "places_behind" = some H.f_places_behind)
include hi hb
theorem behind_ev : ∀ (n : Nat) (p : P) (pl : List Int) (M : List D → Mem) (r : Nat) (acc : List D), CellL M r → p.dep + 1 < n → pl.length + p.dep ≤ 1000 → acc.length + p.sz ≤ 2000000 →
    cfN ft n "places_behind" [encP pl, p.enc, .ref r] (M acc) = .ok .non false (M (acc ++ (allP p pl).map fun x => encP x.1)) := by
  intro n
  induction n with
  | zero => intro p pl M r acc _ h; omega
  | succ n ih =>
    intro p pl M r acc hM hn hl hz
    obtain ⟨n, rfl⟩ : ∃ k, n = k + 1 := ⟨n - 1, by omega⟩
    have ci := fun (cf : Str → List D → Mem → CR) (s : S) (es : List E) => ev_call ft cf s hi es
    have cb := fun (cf : Str → List D → Mem → CR) (s : S) (es : List E) => ev_call ft cf s hb es
    have s1 : H.f_inner.sh = [] := rfl
    have s2 : H.f_places_behind.sh = [2] := rfl
    have p1 : H.f_inner.ps = 1 := rfl
    have p2 : H.f_places_behind.ps = 3 := rfl
    have app : ∀ (i : Int), opBin .add (encP pl) (.tup [.int i]) = some (encP (pl ++ [i]), false) := fun i => by
      unfold encP
      rw [b_addT, if_pos (sl_le (by simp; omega))]
      simp
    have hin := inner_ev hi p n
    have ih := fun (p : P) (pl : List Int) (acc : List D) => ih p pl M r acc hM
    have z0 : acc.length < sizeLine := sl_lt (by have := sz_pos p; omega)
    have g : (M acc)[r]? = some (.lst acc) := hM.get acc
    rw [cf_s hb _ rfl]
    cases p with
    | name i =>
      simp [P.inner] at hin
      simp [H.f_places_behind, H.b_places_behind, runF, env0, g, z0, putE, putV, putM, D.mo, hM.put, ci, s1, p1, hin, st_for, enmD, allP]
    | whole i =>
      simp [P.inner] at hin
      simp [H.f_places_behind, H.b_places_behind, runF, env0, g, z0, putE, putV, putM, D.mo, hM.put, ci, s1, p1, hin, st_for, enmD, allP]
    | un u a =>
      have hn : a.dep + 1 + 1 < n + 1 + 1 := hn
      have hl : pl.length + (a.dep + 1) ≤ 1000 := hl
      have hz : acc.length + (a.sz + 1) ≤ 2000000 := hz
      have e1 := ih a (pl ++ [0]) (acc ++ [encP pl]) (by omega) (by simp; omega) (by simp; omega)
      cases u <;> simp [P.inner] at hin <;> simp [H.f_places_behind, H.b_places_behind, runF, env0, g, z0, putE, putV, putM, D.mo, hM.put, ci, s1, p1, hin, st_for, enmD, allP, fo_s, asgs, cb, s2, p2, app, e1]
    | bi u a b =>
      have hn : max a.dep b.dep + 1 + 1 < n + 1 + 1 := hn
      have hl : pl.length + (max a.dep b.dep + 1) ≤ 1000 := hl
      have hz : acc.length + (a.sz + b.sz + 1) ≤ 2000000 := hz
      have e1 := ih a (pl ++ [0]) (acc ++ [encP pl]) (by omega) (by simp; omega) (by simp; omega)
      have e2 := ih b (pl ++ [1]) (acc ++ [encP pl] ++ (allP a (pl ++ [0])).map fun x => encP x.1) (by omega) (by simp; omega) (by simp [allP_len]; omega)
      simp at e1 e2
      cases u <;> simp [P.inner] at hin <;> simp [H.f_places_behind, H.b_places_behind, runF, env0, g, z0, putE, putV, putM, D.mo, hM.put, ci, s1, p1, hin, st_for, enmD, allP, fo_s, asgs, cb, s2, p2, app, e1, e2]
    | look a b c =>
      have hn : max a.dep (max b.dep c.dep) + 1 + 1 < n + 1 + 1 := hn
      have hl : pl.length + (max a.dep (max b.dep c.dep) + 1) ≤ 1000 := hl
      have hz : acc.length + (a.sz + b.sz + c.sz + 1) ≤ 2000000 := hz
      have e1 := ih a (pl ++ [0]) (acc ++ [encP pl]) (by omega) (by simp; omega) (by simp; omega)
      have e2 := ih b (pl ++ [1]) (acc ++ [encP pl] ++ (allP a (pl ++ [0])).map fun x => encP x.1) (by omega) (by simp; omega) (by simp [allP_len]; omega)
      have e3 := ih c (pl ++ [2]) (acc ++ [encP pl] ++ ((allP a (pl ++ [0])).map fun x => encP x.1) ++ (allP b (pl ++ [1])).map fun x => encP x.1) (by omega) (by simp; omega) (by simp [allP_len]; omega)
      simp [P.inner] at hin
      simp at e1 e2 e3
      simp [H.f_places_behind, H.b_places_behind, runF, env0, g, z0, putE, putV, putM, D.mo, hM.put, ci, s1, p1, hin, st_for, enmD, allP, fo_s, asgs, cb, s2, p2, app, e1, e2, e3]
theorem places_ev (hp : ft "places" = some H.f_places) (p : P) (n : Nat) (m : Mem) (hn : p.dep + 1 < n) (hd : p.dep ≤ 900) (hz : p.sz ≤ 1000000) :
    cfN ft (n + 1) "places" [p.enc] m = .ok (.ref m.length) false (m ++ [.lst ((allP p []).map fun x => encP x.1)]) := by
  have e := behind_ev hi hb n p [] (fun l => m ++ [.lst l]) m.length [] (CellL.app m) hn (by simp; omega) (by simp; omega)
  have e : cfN ft n "places_behind" [.tup [], p.enc, .ref m.length] (m ++ [.lst []]) = _ := e
  rw [cf_s hp _ rfl]
  simp [H.f_places, H.b_places, runF, env0, ev_call ft _ _ hb, show H.f_places_behind.sh = [2] from rfl, show H.f_places_behind.ps = 3 from rfl, e]
end
end Ly
set_option Elab.async false
set_option linter.all false
set_option maxRecDepth 100000
set_option maxHeartbeats 4000000
/-! Ly31: sorts, and programs drawn of a sort. -/
namespace Ly
open PySem PySem.Spec PyProof.Rows L2
inductive Srt where
  | n
  | f (a b : Srt)
  | p (a b : Srt)
  deriving DecidableEq
def Srt.enc : Srt → D
  | .n => .str "n"
  | .f a b => .tup [.str "f", a.enc, b.enc]
  | .p a b => .tup [.str "p", a.enc, b.enc]
def Srt.dep : Srt → Nat
  | .n => 0
  | .f a b => max a.dep b.dep + 1
  | .p a b => max a.dep b.dep + 1
@[simp] theorem y_n : Srt.n.enc = .str "n" := id rfl
@[simp] theorem y_f (a b : Srt) : (Srt.f a b).enc = .tup [.str "f", a.enc, b.enc] := id rfl
@[simp] theorem y_p (a b : Srt) : (Srt.p a b).enc = .tup [.str "p", a.enc, b.enc] := id rfl
@[simp] theorem deref_Y (m : Mem) (t : Srt) : deref m t.enc = some t.enc := by cases t <;> rfl
@[simp] theorem typed_Y (t : Srt) : D.typed t.enc = true := by cases t <;> rfl
@[simp] theorem non_Y (t : Srt) : D.isNon t.enc = false := by cases t <;> rfl
theorem pl_Y : ∀ t : Srt, D.pl t.enc = true
  | .n => rfl
  | .f a b => by simp [D.pl, D.pls, pl_Y a, pl_Y b]
  | .p a b => by simp [D.pl, D.pls, pl_Y a, pl_Y b]
theorem dep_Y : ∀ t : Srt, D.dep t.enc = t.dep
  | .n => rfl
  | .f a b => by simp only [y_f, D.dep, D.deps, dep_Y a, dep_Y b, Srt.dep]; omega
  | .p a b => by simp only [y_p, D.dep, D.deps, dep_Y a, dep_Y b, Srt.dep]; omega
theorem nbt_Y : ∀ t : Srt, D.nbt t.enc = true
  | .n => rfl
  | .f a b => by simp [D.nbt, D.nbts, nbt_Y a, nbt_Y b]
  | .p a b => by simp [D.nbt, D.nbts, nbt_Y a, nbt_Y b]
theorem enc_injY : ∀ s t : Srt, s.enc = t.enc → s = t := by
  intro s
  induction s with
  | n => intro t h; cases t <;> simp at h ⊢
  | f a b ih1 ih2 =>
    intro t h
    cases t <;> simp [ofStr_inj] at h
    rw [ih1 _ h.1, ih2 _ h.2]
  | p a b ih1 ih2 =>
    intro t h
    cases t <;> simp [ofStr_inj] at h
    rw [ih1 _ h.1, ih2 _ h.2]
theorem eq_Y (s t : Srt) (h : min s.dep t.dep ≤ 199) : opCmp .eq s.enc t.enc = some (decide (s = t)) := by
  have e : opCmp .eq s.enc t.enc = if eqOk s.enc t.enc then some (D.eqv s.enc t.enc) else none := by
    cases s <;> cases t <;> rfl
  have h1 : eqOk s.enc t.enc = true := by
    simp only [eqOk, pl_Y, dep_Y, Bool.true_and, decide_eq_true_eq]
    omega
  rw [e, if_pos h1]
  by_cases c : s = t
  · subst c
    rw [(eqv_nbt _ _ (nbt_Y s) (nbt_Y s)).mpr rfl]
    simp
  · have : ¬ D.eqv s.enc t.enc = true := fun z => c (enc_injY _ _ ((eqv_nbt _ _ (nbt_Y s) (nbt_Y t)).mp z))
    simp only [Bool.not_eq_true] at this
    rw [this]
    simp [c]
theorem isn_Y (t : Srt) : opCmp .eq t.enc (.str "n") = some (decide (t = .n)) := eq_Y t .n (by simp [Srt.dep])
/-- so many names are bound; wholes of nine figures -/
def P.cl : P → Nat → Bool
  | .name i, m => decide (0 ≤ i ∧ i < m)
  | .whole i, _ => decide (-999999999 ≤ i ∧ i ≤ 999999999)
  | .un w p, m => p.cl (if w = .way then m + 1 else m)
  | .bi _ p q, m => p.cl m && q.cl m
  | .look p q r, m => p.cl m && q.cl m && r.cl m
namespace H
def b__law_type : List St := [
  .asg (.v 2) (.call "_law_take" [.v 0, .c (.int 6)]),
  .ife (.or (.cmp .eq (.v 1) (.c (.int 0))) (.cmp .lt (.v 2) (.c (.int 3)))) [
    .ret (.c (.str "n"))] [],
  .asg (.v 3) (.call "_law_type" [.v 0, .bin .sub (.v 1) (.c (.int 1))]),
  .ret (.tup [.ix (.lst [.c (.str "f"), .c (.str "p"), .c (.str "f")]) (.bin .sub (.v 2) (.c (.int 3))), .v 3, .call "_law_type" [.v 0, .bin .sub (.v 1) (.c (.int 1))]])]
def f__law_type : Fn := ⟨2, 4, [0], b__law_type⟩
def b__law_least : List St := [
  .ife (.cmp .eq (.v 1) (.c (.str "n"))) [
    .ret (.call "_law_whole" [.v 0])] [],
  .ife (.cmp .eq (.ix (.v 1) (.c (.int 0))) (.c (.str "p"))) [
    .asg (.v 2) (.call "_law_least" [.v 0, .ix (.v 1) (.c (.int 1))]),
    .ret (.tup [.c (.str "pair"), .v 2, .call "_law_least" [.v 0, .ix (.v 1) (.c (.int 2))]])] [],
  .ret (.tup [.c (.str "way"), .call "_law_least" [.v 0, .ix (.v 1) (.c (.int 2))]])]
def f__law_least : Fn := ⟨2, 3, [0], b__law_least⟩
def b__law_made : List St := [
  .asg (.v 5) (.bin .fdiv (.bin .sub (.v 3) (.c (.int 1))) (.c (.int 2))),
  .ife (.cmp .eq (.v 1) (.c (.str "n"))) [
    .ife (.cmp .eq (.call "_law_take" [.v 0, .c (.int 3)]) (.c (.int 0))) [
      .ret (.call "_law_whole" [.v 0])] [],
    .asg (.v 6) (.call "_law_typed" [.v 0, .c (.str "n"), .v 2, .v 5, .bin .sub (.v 4) (.c (.int 1))]),
    .ret (.tup [.c (.str "plus"), .v 6, .call "_law_typed" [.v 0, .c (.str "n"), .v 2, .v 5, .bin .sub (.v 4) (.c (.int 1))]])] [],
  .ife (.cmp .eq (.ix (.v 1) (.c (.int 0))) (.c (.str "p"))) [
    .asg (.v 6) (.call "_law_typed" [.v 0, .ix (.v 1) (.c (.int 1)), .v 2, .v 5, .bin .sub (.v 4) (.c (.int 1))]),
    .ret (.tup [.c (.str "pair"), .v 6, .call "_law_typed" [.v 0, .ix (.v 1) (.c (.int 2)), .v 2, .v 5, .bin .sub (.v 4) (.c (.int 1))]])] [],
  .ret (.tup [.c (.str "way"), .call "_law_typed" [.v 0, .ix (.v 1) (.c (.int 2)), .bin .add (.lst [.ix (.v 1) (.c (.int 1))]) (.v 2), .bin .sub (.v 3) (.c (.int 1)), .bin .sub (.v 4) (.c (.int 1))]])]
def f__law_made : Fn := ⟨5, 7, [0], b__law_made⟩
def b__law_used : List St := [
  .asg (.v 5) (.call "_law_take" [.v 0, .c (.int 6)]),
  .asg (.v 6) (.call "_law_type" [.v 0, .c (.int 1)]),
  .asg (.v 7) (.bin .fdiv (.bin .sub (.v 3) (.c (.int 1))) (.c (.int 2))),
  .ife (.cmp .eq (.v 5) (.c (.int 0))) [
    .ret (.tup [.c (.str "first"), .call "_law_typed" [.v 0, .tup [.c (.str "p"), .v 1, .v 6], .v 2, .bin .sub (.v 3) (.c (.int 1)), .bin .sub (.v 4) (.c (.int 1))]])] [],
  .ife (.cmp .eq (.v 5) (.c (.int 1))) [
    .ret (.tup [.c (.str "second"), .call "_law_typed" [.v 0, .tup [.c (.str "p"), .v 6, .v 1], .v 2, .bin .sub (.v 3) (.c (.int 1)), .bin .sub (.v 4) (.c (.int 1))]])] [],
  .ife (.cmp .eq (.v 5) (.c (.int 2))) [
    .asg (.v 9) (.bin .fdiv (.bin .sub (.v 3) (.c (.int 1))) (.c (.int 3))),
    .asg (.v 10) (.call "_law_typed" [.v 0, .c (.str "n"), .v 2, .v 9, .bin .sub (.v 4) (.c (.int 1))]),
    .asg (.v 8) (.call "_law_typed" [.v 0, .v 1, .v 2, .v 9, .bin .sub (.v 4) (.c (.int 1))]),
    .ret (.tup [.c (.str "look"), .v 10, .v 8, .call "_law_typed" [.v 0, .v 1, .v 2, .v 9, .bin .sub (.v 4) (.c (.int 1))]])] [],
  .asg (.v 8) (.call "_law_typed" [.v 0, .tup [.c (.str "f"), .v 6, .v 1], .v 2, .v 7, .bin .sub (.v 4) (.c (.int 1))]),
  .ret (.tup [.c (.str "give"), .v 8, .call "_law_typed" [.v 0, .v 6, .v 2, .v 7, .bin .sub (.v 4) (.c (.int 1))]])]
def f__law_used : Fn := ⟨5, 11, [0], b__law_used⟩
def b__law_typed : List St := [
  .asg (.v 5) (.lc (.v 7) (.v 7) .rng [.blt .len [.v 2]] [.cmp .eq (.ix (.v 2) (.v 7)) (.v 1)] [7]),
  .asg (.v 6) (.call "_law_take" [.v 0, .c (.int 7)]),
  .ife (.and (.cmp .gt (.blt .len [.v 5]) (.c (.int 0))) (.or (.cmp .lt (.v 6) (.c (.int 3))) (.cmp .lt (.v 3) (.c (.int 3))))) [
    .ret (.tup [.c (.str "name"), .ix (.v 5) (.call "_law_take" [.v 0, .blt .len [.v 5]])])] [],
  .ife (.or (.cmp .lt (.v 3) (.c (.int 3))) (.cmp .lt (.v 4) (.c (.int 1)))) [
    .ret (.call "_law_least" [.v 0, .v 1])] [],
  .ife (.cmp .gt (.v 6) (.c (.int 3))) [
    .ret (.call "_law_used" [.v 0, .v 1, .v 2, .v 3, .v 4])] [],
  .ret (.call "_law_made" [.v 0, .v 1, .v 2, .v 3, .v 4])]
def f__law_typed : Fn := ⟨5, 8, [0], b__law_typed⟩
end H
structure GenT (ft : Str → Option Fn) : Prop where
  l_take : ft "_law_take" = some H.f__law_take
  l_whole : ft "_law_whole" = some H.f__law_whole
  l_type : ft "_law_type" = some H.f__law_type
  l_least : ft "_law_least" = some H.f__law_least
  l_made : ft "_law_made" = some H.f__law_made
  l_used : ft "_law_used" = some H.f__law_used
  l_typed : ft "_law_typed" = some H.f__law_typed
theorem GenT.c_l_take {ft : Str → Option Fn} (g : GenT ft) (cf : Str → List D → Mem → CR) (s : S) (es : List E) : evE ft cf (.call "_law_take" es) s = (evAs ft cf [0] 0 es s).bind fun ds s => if ds.length = 2 then ofCR s (cf "_law_take" ds s.mem) else .no := ev_call ft cf s g.l_take es
theorem GenT.c_l_whole {ft : Str → Option Fn} (g : GenT ft) (cf : Str → List D → Mem → CR) (s : S) (es : List E) : evE ft cf (.call "_law_whole" es) s = (evAs ft cf [0] 0 es s).bind fun ds s => if ds.length = 1 then ofCR s (cf "_law_whole" ds s.mem) else .no := ev_call ft cf s g.l_whole es
theorem GenT.c_l_type {ft : Str → Option Fn} (g : GenT ft) (cf : Str → List D → Mem → CR) (s : S) (es : List E) : evE ft cf (.call "_law_type" es) s = (evAs ft cf [0] 0 es s).bind fun ds s => if ds.length = 2 then ofCR s (cf "_law_type" ds s.mem) else .no := ev_call ft cf s g.l_type es
theorem GenT.c_l_least {ft : Str → Option Fn} (g : GenT ft) (cf : Str → List D → Mem → CR) (s : S) (es : List E) : evE ft cf (.call "_law_least" es) s = (evAs ft cf [0] 0 es s).bind fun ds s => if ds.length = 2 then ofCR s (cf "_law_least" ds s.mem) else .no := ev_call ft cf s g.l_least es
theorem GenT.c_l_made {ft : Str → Option Fn} (g : GenT ft) (cf : Str → List D → Mem → CR) (s : S) (es : List E) : evE ft cf (.call "_law_made" es) s = (evAs ft cf [0] 0 es s).bind fun ds s => if ds.length = 5 then ofCR s (cf "_law_made" ds s.mem) else .no := ev_call ft cf s g.l_made es
theorem GenT.c_l_used {ft : Str → Option Fn} (g : GenT ft) (cf : Str → List D → Mem → CR) (s : S) (es : List E) : evE ft cf (.call "_law_used" es) s = (evAs ft cf [0] 0 es s).bind fun ds s => if ds.length = 5 then ofCR s (cf "_law_used" ds s.mem) else .no := ev_call ft cf s g.l_used es
theorem GenT.c_l_typed {ft : Str → Option Fn} (g : GenT ft) (cf : Str → List D → Mem → CR) (s : S) (es : List E) : evE ft cf (.call "_law_typed" es) s = (evAs ft cf [0] 0 es s).bind fun ds s => if ds.length = 5 then ofCR s (cf "_law_typed" ds s.mem) else .no := ev_call ft cf s g.l_typed es
theorem whole_b {ft : Str → Option Fn} (g : GenT ft) {M : Fd → Mem} {r : Nat} (hM : Cell M r) (f : Fd) : ∃ (p : P) (f' : Fd), p.dep = 0 ∧ (∀ m, p.cl m = true) ∧ ∀ (n : Nat), cfN ft (n + 2) "_law_whole" [.ref r] (M f) = .ok p.enc false (M f') := by
  have a0 := tk_lo (many := 8) (by decide) f
  have a1 := tk_hi (many := 8) (by decide) f
  by_cases c1 : tk 8 f < 4
  · have cs : tk 8 f = 0 ∨ tk 8 f = 1 ∨ tk 8 f = 2 ∨ tk 8 f = 3 := by omega
    have ix : ∃ i : Int, L2.atI [D.int 0, .int 1, .int (-1), .int 2] (tk 8 f) = some (.int i) ∧ -999999999 ≤ i ∧ i ≤ 999999999 := by
      rcases cs with c | c | c | c <;> rw [c] <;> exact ⟨_, rfl, by omega, by omega⟩
    obtain ⟨i, hi, h1, h2⟩ := ix
    refine ⟨.whole i, tn 8 f, rfl, fun m => by simp [P.cl, h1, h2], fun n => ?_⟩
    rw [cf_s g.l_whole _ rfl]
    simp [H.f__law_whole, H.b__law_whole, runF, env0, g.c_l_take, take_c g.l_take hM, c1, hi]
  · by_cases c2 : tk 8 f < 7
    · have b0 := tk_lo (many := 13) (by decide) (tn 8 f)
      have b1 := tk_hi (many := 13) (by decide) (tn 8 f)
      refine ⟨.whole (tk 13 (tn 8 f) - 5), tn 13 (tn 8 f), rfl, fun m => by simp [P.cl]; omega, fun n => ?_⟩
      rw [cf_s g.l_whole _ rfl]
      simp [H.f__law_whole, H.b__law_whole, runF, env0, g.c_l_take, take_c g.l_take hM, c1, c2]
    · have b0 := tk_lo (many := 1999999999) (by decide) (tn 8 f)
      have b1 := tk_hi (many := 1999999999) (by decide) (tn 8 f)
      refine ⟨.whole (tk 1999999999 (tn 8 f) - 999999999), tn 1999999999 (tn 8 f), rfl, fun m => by simp [P.cl]; omega, fun n => ?_⟩
      rw [cf_s g.l_whole _ rfl]
      simp [H.f__law_whole, H.b__law_whole, runF, env0, g.c_l_take, take_c g.l_take hM, c1, c2]
theorem type_p {ft : Str → Option Fn} (g : GenT ft) {M : Fd → Mem} {r : Nat} (hM : Cell M r) : ∀ (k : Nat) (f : Fd) (deep : Int), 0 ≤ deep → deep ≤ k → ∃ (t : Srt) (f' : Fd), t.dep ≤ deep ∧ ∀ n : Nat, cfN ft (n + k + 2) "_law_type" [.ref r, .int deep] (M f) = .ok t.enc false (M f')
  | k, f, deep, h0, h1 => by
    have a0 := tk_lo (many := 6) (by decide) f
    have a1 := tk_hi (many := 6) (by decide) f
    by_cases c1 : deep = 0
    · refine ⟨.n, tn 6 f, by simp [Srt.dep]; omega, fun n => ?_⟩
      rw [cf_s g.l_type _ rfl]
      simp [H.f__law_type, H.b__law_type, runF, env0, g.c_l_take, take_c g.l_take hM, c1]
    · by_cases c2 : tk 6 f < 3
      · refine ⟨.n, tn 6 f, by simp [Srt.dep]; omega, fun n => ?_⟩
        rw [cf_s g.l_type _ rfl]
        simp [H.f__law_type, H.b__law_type, runF, env0, g.c_l_take, take_c g.l_take hM, c1, c2]
      · obtain ⟨k, rfl⟩ : ∃ j, k = j + 1 := ⟨k - 1, by omega⟩
        obtain ⟨t1, f1, d1, e1⟩ := type_p g hM k (tn 6 f) (deep - 1) (by omega) (by omega)
        obtain ⟨t2, f2, d2, e2⟩ := type_p g hM k f1 (deep - 1) (by omega) (by omega)
        have cs : tk 6 f = 3 ∨ tk 6 f = 4 ∨ tk 6 f = 5 := by omega
        rcases cs with c | c | c
        · refine ⟨.f t1 t2, f2, by simp only [Srt.dep]; omega, fun n => ?_⟩
          have e1 := e1 n
          have e2 := e2 n
          show cfN ft ((n + k + 2) + 1) _ _ _ = _
          rw [cf_s g.l_type _ rfl]
          simp [H.f__law_type, H.b__law_type, runF, env0, g.c_l_take, g.c_l_type, take_c g.l_take hM, c1, c, e1, e2]
        · refine ⟨.p t1 t2, f2, by simp only [Srt.dep]; omega, fun n => ?_⟩
          have e1 := e1 n
          have e2 := e2 n
          show cfN ft ((n + k + 2) + 1) _ _ _ = _
          rw [cf_s g.l_type _ rfl]
          simp [H.f__law_type, H.b__law_type, runF, env0, g.c_l_take, g.c_l_type, take_c g.l_take hM, c1, c, e1, e2]
        · refine ⟨.f t1 t2, f2, by simp only [Srt.dep]; omega, fun n => ?_⟩
          have e1 := e1 n
          have e2 := e2 n
          show cfN ft ((n + k + 2) + 1) _ _ _ = _
          rw [cf_s g.l_type _ rfl]
          simp [H.f__law_type, H.b__law_type, runF, env0, g.c_l_take, g.c_l_type, take_c g.l_take hM, c1, c, e1, e2]
theorem least_p {ft : Str → Option Fn} (g : GenT ft) {M : Fd → Mem} {r : Nat} (hM : Cell M r) : ∀ (t : Srt) (f : Fd), ∃ (p : P) (f' : Fd), p.dep ≤ t.dep ∧ (∀ m, p.cl m = true) ∧ ∀ n : Nat, t.dep + 3 ≤ n → cfN ft n "_law_least" [.ref r, t.enc] (M f) = .ok p.enc false (M f')
  | .n, f => by
    obtain ⟨p, f', d, c, e⟩ := whole_b g hM f
    refine ⟨p, f', by omega, c, fun n hn => ?_⟩
    obtain ⟨n, rfl⟩ : ∃ j, n = j + 3 := ⟨n - 3, by simp [Srt.dep] at hn; omega⟩
    rw [cf_s g.l_least _ rfl]
    simp [H.f__law_least, H.b__law_least, runF, env0, g.c_l_whole, e]
  | .f a b, f => by
    obtain ⟨p, f', d, c, e⟩ := least_p g hM b f
    refine ⟨.un .way p, f', by simp only [P.dep, Srt.dep]; omega, fun m => by simp [P.cl, c], fun n hn => ?_⟩
    have hn : max a.dep b.dep + 1 + 3 ≤ n := hn
    obtain ⟨n, rfl⟩ : ∃ j, n = j + 1 := ⟨n - 1, by omega⟩
    have e := e n (by omega)
    have q := isn_Y (.f a b)
    simp only [y_f] at q
    rw [cf_s g.l_least _ rfl]
    simp [H.f__law_least, H.b__law_least, runF, env0, g.c_l_least, q, ofStr_inj, e]
  | .p a b, f => by
    obtain ⟨p1, f1, d1, c1, e1⟩ := least_p g hM a f
    obtain ⟨p2, f2, d2, c2, e2⟩ := least_p g hM b f1
    refine ⟨.bi .pair p1 p2, f2, by simp only [P.dep, Srt.dep]; omega, fun m => by simp [P.cl, c1, c2], fun n hn => ?_⟩
    have hn : max a.dep b.dep + 1 + 3 ≤ n := hn
    obtain ⟨n, rfl⟩ : ∃ j, n = j + 1 := ⟨n - 1, by omega⟩
    have e1 := e1 n (by omega)
    have e2 := e2 n (by omega)
    have q := isn_Y (.p a b)
    simp only [y_p] at q
    rw [cf_s g.l_least _ rfl]
    simp [H.f__law_least, H.b__law_least, runF, env0, g.c_l_least, q, ofStr_inj, e1, e2]
theorem small_in (c : Int) (h0 : 0 ≤ c) (h1 : c < 1000000) : small62 c = true := by
  unfold small62
  simp
  omega
theorem some_ev {ft : Str → Option Fn} (cf : Str → List D → Mem → CR) (want : Srt) (names : List Srt) (hn : names.length ≤ 1000) (hd : want.dep ≤ 190) (x0 x3 x4 : Option (D × Bool)) (m : Mem) :
    evE ft cf (.lc (.v 7) (.v 7) .rng [.blt .len [.v 2]] [.cmp .eq (.ix (.v 2) (.v 7)) (.v 1)] [7]) ⟨[x0, some (want.enc, false), some (.lst (names.map Srt.enc), false), x3, x4, none, none, none], m⟩ =
      .ok (.lst (((List.range names.length).filter fun i => names[i]? == some want).map fun i : Nat => D.int (i : Int)), true) ⟨[x0, some (want.enc, false), some (.lst (names.map Srt.enc), false), x3, x4, none, none, none], m⟩ := by
  obtain ⟨L, hL, q3⟩ : ∃ L : Int, (names.length : Int) = L ∧ L ≤ 1000 := ⟨_, rfl, by omega⟩
  have hs : small62 L = true := small_in _ (by omega) (by omega)
  have hN : L.toNat = names.length := by omega
  refine lc_filter (List.range names.length) (fun i : Nat => D.int (i : Int)) (fun i : Nat => D.int (i : Int)) (fun i => names[i]? == some want) ?_ rfl (by simp; exact sl_le (by omega)) fun i hi => ?_
  · simp [hL, hs, rngL, hN]
  · have hi : i < names.length := List.mem_range.mp hi
    refine ⟨[x0, some (want.enc, false), some (.lst (names.map Srt.enc), false), x3, x4, none, none, some (.int (i : Int), false)], rfl, ?_⟩
    have e : opIx (.lst (names.map Srt.enc)) (.int (i : Int)) = some (names[i]).enc := by
      show L2.atI (names.map Srt.enc) (i : Int) = _
      rw [at_nat (by simpa using hi)]
      simp [hi]
    have q := eq_Y names[i] want (by omega)
    have hg : names[i]? = some names[i] := List.getElem?_eq_getElem hi
    generalize names[i] = nm at e q hg
    by_cases c : nm = want
    · subst c
      simp [wipeE, e, q, hg]
    · simp [wipeE, e, q, hg, c]
def TypOk (ft : Str → Option Fn) (M : Fd → Mem) (r : Nat) (k : Nat) : Prop := ∀ (f : Fd) (want : Srt) (names : List Srt) (room deep : Int) (w : Nat), deep ≤ k → want.dep ≤ w → 1 ≤ w → w + k ≤ 150 → names.length + k ≤ 500 →
  ∃ (p : P) (f' : Fd), p.dep ≤ 2 * k + w ∧ p.cl names.length = true ∧ ∀ n : Nat, 3 * k + w + 6 ≤ n → cfN ft n "_law_typed" [.ref r, want.enc, .lst (names.map Srt.enc), .int room, .int deep] (M f) = .ok p.enc false (M f')
section
variable {ft : Str → Option Fn} (g : GenT ft) {M : Fd → Mem} {r : Nat} (hM : Cell M r)
include g hM
theorem made_p (k : Nat) (ih : TypOk ft M r k) (f : Fd) (want : Srt) (names : List Srt) (room deep : Int) (w : Nat) (h1 : deep ≤ k + 1) (h2 : want.dep ≤ w) (h3 : 1 ≤ w) (h4 : w + (k + 1) ≤ 150) (h5 : names.length + (k + 1) ≤ 500) :
    ∃ (p : P) (f' : Fd), p.dep ≤ 2 * (k + 1) + w ∧ p.cl names.length = true ∧ ∀ n : Nat, 3 * k + w + 8 ≤ n → cfN ft n "_law_made" [.ref r, want.enc, .lst (names.map Srt.enc), .int room, .int deep] (M f) = .ok p.enc false (M f') := by
  cases want with
  | n =>
    by_cases c1 : tk 3 f = 0
    · obtain ⟨p, g1, d1, l1, e1⟩ := whole_b g hM (tn 3 f)
      refine ⟨p, g1, by omega, l1 _, fun n hn => ?_⟩
      obtain ⟨n, rfl⟩ : ∃ j, n = j + 3 := ⟨n - 3, by omega⟩
      have e1 := e1 n
      rw [cf_s g.l_made _ rfl]
      simp [H.f__law_made, H.b__law_made, runF, env0, g.c_l_take, g.c_l_whole, take_c g.l_take hM, c1, e1]
    · obtain ⟨p1, g1, d1, l1, e1⟩ := ih (tn 3 f) .n names ((room - 1) / 2) (deep - 1) w (by omega) h2 h3 (by omega) (by omega)
      obtain ⟨p2, g2, d2, l2, e2⟩ := ih g1 .n names ((room - 1) / 2) (deep - 1) w (by omega) h2 h3 (by omega) (by omega)
      refine ⟨.bi .plus p1 p2, g2, by simp only [P.dep]; omega, by simp [P.cl, l1, l2], fun n hn => ?_⟩
      obtain ⟨n, rfl⟩ : ∃ j, n = j + 2 := ⟨n - 2, by omega⟩
      have e1 := e1 (n + 1) (by omega)
      have e2 := e2 (n + 1) (by omega)
      simp only [y_n] at e1 e2
      rw [cf_s g.l_made _ rfl]
      simp [H.f__law_made, H.b__law_made, runF, env0, g.c_l_take, g.c_l_typed, take_c g.l_take hM, c1, e1, e2]
  | p a b =>
    have hd : max a.dep b.dep + 1 ≤ w := h2
    obtain ⟨p1, g1, d1, l1, e1⟩ := ih f a names ((room - 1) / 2) (deep - 1) w (by omega) (by omega) h3 (by omega) (by omega)
    obtain ⟨p2, g2, d2, l2, e2⟩ := ih g1 b names ((room - 1) / 2) (deep - 1) w (by omega) (by omega) h3 (by omega) (by omega)
    refine ⟨.bi .pair p1 p2, g2, by simp only [P.dep]; omega, by simp [P.cl, l1, l2], fun n hn => ?_⟩
    obtain ⟨n, rfl⟩ : ∃ j, n = j + 2 := ⟨n - 2, by omega⟩
    have e1 := e1 (n + 1) (by omega)
    have e2 := e2 (n + 1) (by omega)
    have q := isn_Y (.p a b)
    simp only [y_p] at q
    rw [cf_s g.l_made _ rfl]
    simp [H.f__law_made, H.b__law_made, runF, env0, g.c_l_take, g.c_l_typed, take_c g.l_take hM, q, ofStr_inj, e1, e2]
  | f a b =>
    have hd : max a.dep b.dep + 1 ≤ w := h2
    obtain ⟨p1, g1, d1, l1, e1⟩ := ih f b (a :: names) (room - 1) (deep - 1) w (by omega) (by omega) h3 (by omega) (by simp; omega)
    refine ⟨.un .way p1, g1, by simp only [P.dep]; omega, by simpa [P.cl] using l1, fun n hn => ?_⟩
    obtain ⟨n, rfl⟩ : ∃ j, n = j + 2 := ⟨n - 2, by omega⟩
    have e1 := e1 (n + 1) (by omega)
    have q := isn_Y (.f a b)
    simp only [y_f] at q
    have z : names.length + 1 ≤ sizeLine := sl_le (by omega)
    have z2 : 1 + names.length ≤ sizeLine := sl_le (by omega)
    simp only [List.map_cons] at e1
    rw [cf_s g.l_made _ rfl]
    simp [H.f__law_made, H.b__law_made, runF, env0, g.c_l_take, g.c_l_typed, take_c g.l_take hM, q, ofStr_inj, e1, z, z2]
theorem used_p (k : Nat) (ih : TypOk ft M r k) (f : Fd) (want : Srt) (names : List Srt) (room deep : Int) (w : Nat) (h1 : deep ≤ k + 1) (h2 : want.dep ≤ w) (h3 : 1 ≤ w) (h4 : w + (k + 1) ≤ 150) (h5 : names.length + (k + 1) ≤ 500) :
    ∃ (p : P) (f' : Fd), p.dep ≤ 2 * (k + 1) + w ∧ p.cl names.length = true ∧ ∀ n : Nat, 3 * k + w + 8 ≤ n → cfN ft n "_law_used" [.ref r, want.enc, .lst (names.map Srt.enc), .int room, .int deep] (M f) = .ok p.enc false (M f') := by
  obtain ⟨o, f2, hd, eo⟩ := type_p g hM 1 (tn 6 f) 1 (by omega) (by omega)
  have hd : o.dep ≤ 1 := by omega
  by_cases c0 : tk 6 f = 0
  · obtain ⟨p1, g1, d1, l1, e1⟩ := ih f2 (.p want o) names (room - 1) (deep - 1) (w + 1) (by omega) (by simp only [Srt.dep]; omega) (by omega) (by omega) (by omega)
    refine ⟨.un .first p1, g1, by simp only [P.dep]; omega, by simpa [P.cl] using l1, fun n hn => ?_⟩
    obtain ⟨n, rfl⟩ : ∃ j, n = j + 4 := ⟨n - 4, by omega⟩
    have e1 := e1 (n + 3) (by omega)
    have eo := eo n
    simp only [y_p] at e1
    rw [cf_s g.l_used _ rfl]
    simp [H.f__law_used, H.b__law_used, runF, env0, g.c_l_take, g.c_l_typed, g.c_l_type, take_c g.l_take hM, c0, eo, e1]
  · by_cases c1 : tk 6 f = 1
    · obtain ⟨p1, g1, d1, l1, e1⟩ := ih f2 (.p o want) names (room - 1) (deep - 1) (w + 1) (by omega) (by simp only [Srt.dep]; omega) (by omega) (by omega) (by omega)
      refine ⟨.un .second p1, g1, by simp only [P.dep]; omega, by simpa [P.cl] using l1, fun n hn => ?_⟩
      obtain ⟨n, rfl⟩ : ∃ j, n = j + 4 := ⟨n - 4, by omega⟩
      have e1 := e1 (n + 3) (by omega)
      have eo := eo n
      simp only [y_p] at e1
      rw [cf_s g.l_used _ rfl]
      simp [H.f__law_used, H.b__law_used, runF, env0, g.c_l_take, g.c_l_typed, g.c_l_type, take_c g.l_take hM, c1, eo, e1]
    · by_cases c2 : tk 6 f = 2
      · obtain ⟨p1, g1, d1, l1, e1⟩ := ih f2 .n names ((room - 1) / 3) (deep - 1) w (by omega) (by simp [Srt.dep]) (by omega) (by omega) (by omega)
        obtain ⟨p2, g2, d2, l2, e2⟩ := ih g1 want names ((room - 1) / 3) (deep - 1) w (by omega) h2 (by omega) (by omega) (by omega)
        obtain ⟨p3, g3, d3, l3, e3⟩ := ih g2 want names ((room - 1) / 3) (deep - 1) w (by omega) h2 (by omega) (by omega) (by omega)
        refine ⟨.look p1 p2 p3, g3, by simp only [P.dep]; omega, by simp [P.cl, l1, l2, l3], fun n hn => ?_⟩
        obtain ⟨n, rfl⟩ : ∃ j, n = j + 4 := ⟨n - 4, by omega⟩
        have e1 := e1 (n + 3) (by omega)
        have e2 := e2 (n + 3) (by omega)
        have e3 := e3 (n + 3) (by omega)
        have eo := eo n
        simp only [y_n] at e1
        rw [cf_s g.l_used _ rfl]
        simp [H.f__law_used, H.b__law_used, runF, env0, g.c_l_take, g.c_l_typed, g.c_l_type, take_c g.l_take hM, c2, eo, e1, e2, e3]
      · obtain ⟨p1, g1, d1, l1, e1⟩ := ih f2 (.f o want) names ((room - 1) / 2) (deep - 1) (w + 1) (by omega) (by simp only [Srt.dep]; omega) (by omega) (by omega) (by omega)
        obtain ⟨p2, g2, d2, l2, e2⟩ := ih g1 o names ((room - 1) / 2) (deep - 1) w (by omega) (by omega) (by omega) (by omega) (by omega)
        refine ⟨.bi .give p1 p2, g2, by simp only [P.dep]; omega, by simp [P.cl, l1, l2], fun n hn => ?_⟩
        obtain ⟨n, rfl⟩ : ∃ j, n = j + 4 := ⟨n - 4, by omega⟩
        have e1 := e1 (n + 3) (by omega)
        have e2 := e2 (n + 3) (by omega)
        have eo := eo n
        simp only [y_f] at e1
        rw [cf_s g.l_used _ rfl]
        simp [H.f__law_used, H.b__law_used, runF, env0, g.c_l_take, g.c_l_typed, g.c_l_type, take_c g.l_take hM, c0, c1, c2, eo, e1, e2]
end
end Ly
set_option Elab.async false
set_option linter.all false
set_option maxRecDepth 100000
set_option maxHeartbeats 4000000
/-! Ly32: any program of a sort. -/
namespace Ly
open PySem PySem.Spec PyProof.Rows L2
theorem cf_rt {ft : Str → Option Fn} {f : Str} {F : Fn} (h : ft f = some F) (n : Nat) {ds : List D} {m : Mem} (hl : ds.length = F.ps) {d : D} {s : S} (e : evSs ft (cfN ft n) F.sh F.body ⟨env0 F ds, m⟩ = .ok (.rt d false) s) : cfN ft (n + 1) f ds m = .ok d false s.mem := by
  rw [cf_r h n hl, e]
  rfl
section
variable {ft : Str → Option Fn} (g : GenT ft) {M : Fd → Mem} {r : Nat} (hM : Cell M r)
include g hM
/-- the head of `_law_typed`: a name, the least one, or what follows -/
theorem typed_p : ∀ k : Nat, TypOk ft M r k := by
  intro k
  have leaf : ∀ (k : Nat) (f : Fd) (want : Srt) (names : List Srt) (room deep : Int) (w : Nat), want.dep ≤ w → 1 ≤ w → w + k ≤ 150 → names.length + k ≤ 500 →
      ((List.range names.length).filter (fun i => names[i]? == some want) ≠ [] ∧ (tk 7 f < 3 ∨ room < 3)) ∨ room < 3 ∨ deep < 1 →
      ∃ (p : P) (f' : Fd), p.dep ≤ 2 * k + w ∧ p.cl names.length = true ∧ ∀ n : Nat, 3 * k + w + 6 ≤ n → cfN ft n "_law_typed" [.ref r, want.enc, .lst (names.map Srt.enc), .int room, .int deep] (M f) = .ok p.enc false (M f') := by
    intro k f want names room deep w h2 h3 h4 h5 hc
    have sm := fun cf => some_ev (ft := ft) cf want names (by omega) (by omega)
    generalize hxs : (List.range names.length).filter (fun i => names[i]? == some want) = xs at hc sm
    have hlt : ∀ i ∈ xs, i < names.length := fun i hi => by
      rw [← hxs] at hi
      exact List.mem_range.mp (List.mem_filter.mp hi).1
    have hlen : xs.length ≤ names.length := by
      rw [← hxs]
      exact Nat.le_trans (List.length_filter_le _ _) (by simp)
    obtain ⟨L, hL, q3⟩ : ∃ L : Int, (xs.length : Int) = L ∧ L ≤ 1000 := ⟨_, rfl, by omega⟩
    by_cases c1 : xs ≠ [] ∧ (tk 7 f < 3 ∨ room < 3)
    · obtain ⟨c0, c1⟩ := c1
      have lp : 0 < xs.length := List.length_pos_iff.mpr c0
      have q0 : 0 < L := by omega
      have q1 : L < 18446744073709551616 := by omega
      have b0 := tk_lo q0 (tn 7 f)
      have b1 := tk_hi q0 (tn 7 f)
      obtain ⟨j, hj⟩ : ∃ j : Nat, tk L (tn 7 f) = j := ⟨(tk L (tn 7 f)).toNat, by omega⟩
      have hjl : j < xs.length := by omega
      have ix : opIx (.lst (xs.map fun i : Nat => D.int (i : Int))) (.int (tk L (tn 7 f))) = some (.int ((xs[j] : Nat) : Int)) := by
        show L2.atI _ _ = _
        rw [hj, at_nat (by simpa using hjl)]
        simp [hjl]
      have hi := hlt xs[j] (List.getElem_mem hjl)
      refine ⟨.name (xs[j] : Nat), tn L (tn 7 f), by simp [P.dep], by simp [P.cl, hi], fun n hn => ?_⟩
      obtain ⟨n, rfl⟩ : ∃ j, n = j + 2 := ⟨n - 2, by omega⟩
      rcases c1 with c1 | c1
      · refine cf_rt g.l_typed (n + 1) rfl (s := ⟨[some (.ref r, false), some (want.enc, false), some (.lst (names.map Srt.enc), false), some (.int room, false), some (.int deep, false), some (.lst (xs.map fun i : Nat => D.int (i : Int)), true), some (.int (tk 7 f), false), none], M (tn L (tn 7 f))⟩) ?_
        show evSs ft (cfN ft (n + 1)) [0] H.b__law_typed ⟨[some (.ref r, false), some (want.enc, false), some (.lst (names.map Srt.enc), false), some (.int room, false), some (.int deep, false), none, none, none], M f⟩ = _
        simp [H.b__law_typed, g.c_l_take, take_c g.l_take hM, sm, hL, q0, q1, c1, ix]
      · by_cases c2 : tk 7 f < 3
        · refine cf_rt g.l_typed (n + 1) rfl (s := ⟨[some (.ref r, false), some (want.enc, false), some (.lst (names.map Srt.enc), false), some (.int room, false), some (.int deep, false), some (.lst (xs.map fun i : Nat => D.int (i : Int)), true), some (.int (tk 7 f), false), none], M (tn L (tn 7 f))⟩) ?_
          show evSs ft (cfN ft (n + 1)) [0] H.b__law_typed ⟨[some (.ref r, false), some (want.enc, false), some (.lst (names.map Srt.enc), false), some (.int room, false), some (.int deep, false), none, none, none], M f⟩ = _
          simp [H.b__law_typed, g.c_l_take, take_c g.l_take hM, sm, hL, q0, q1, c1, c2, ix]
        · refine cf_rt g.l_typed (n + 1) rfl (s := ⟨[some (.ref r, false), some (want.enc, false), some (.lst (names.map Srt.enc), false), some (.int room, false), some (.int deep, false), some (.lst (xs.map fun i : Nat => D.int (i : Int)), true), some (.int (tk 7 f), false), none], M (tn L (tn 7 f))⟩) ?_
          show evSs ft (cfN ft (n + 1)) [0] H.b__law_typed ⟨[some (.ref r, false), some (want.enc, false), some (.lst (names.map Srt.enc), false), some (.int room, false), some (.int deep, false), none, none, none], M f⟩ = _
          simp [H.b__law_typed, g.c_l_take, take_c g.l_take hM, sm, hL, q0, q1, c1, c2, ix]
    · have c2 : room < 3 ∨ deep < 1 := by
        rcases hc with hc | hc
        · exact absurd hc c1
        · exact hc
      obtain ⟨p, g1, d1, l1, e1⟩ := least_p g hM want (tn 7 f)
      refine ⟨p, g1, by omega, l1 _, fun n hn => ?_⟩
      obtain ⟨n, rfl⟩ : ∃ j, n = j + 2 := ⟨n - 2, by omega⟩
      have e1 := e1 (n + 1) (by omega)
      by_cases c0 : xs = []
      · subst c0
        by_cases c3 : room < 3
        · refine cf_rt g.l_typed (n + 1) rfl (s := ⟨[some (.ref r, false), some (want.enc, false), some (.lst (names.map Srt.enc), false), some (.int room, false), some (.int deep, false), some (.lst [], true), some (.int (tk 7 f), false), none], M g1⟩) ?_
          show evSs ft (cfN ft (n + 1)) [0] H.b__law_typed ⟨[some (.ref r, false), some (want.enc, false), some (.lst (names.map Srt.enc), false), some (.int room, false), some (.int deep, false), none, none, none], M f⟩ = _
          simp [H.b__law_typed, g.c_l_take, g.c_l_least, take_c g.l_take hM, sm, c3, e1]
        · have c4 : deep < 1 := by omega
          refine cf_rt g.l_typed (n + 1) rfl (s := ⟨[some (.ref r, false), some (want.enc, false), some (.lst (names.map Srt.enc), false), some (.int room, false), some (.int deep, false), some (.lst [], true), some (.int (tk 7 f), false), none], M g1⟩) ?_
          show evSs ft (cfN ft (n + 1)) [0] H.b__law_typed ⟨[some (.ref r, false), some (want.enc, false), some (.lst (names.map Srt.enc), false), some (.int room, false), some (.int deep, false), none, none, none], M f⟩ = _
          simp [H.b__law_typed, g.c_l_take, g.c_l_least, take_c g.l_take hM, sm, c3, c4, e1]
      · have lp : 0 < xs.length := List.length_pos_iff.mpr c0
        have q0 : 0 < L := by omega
        have c5 : ¬ tk 7 f < 3 := fun z => c1 ⟨c0, .inl z⟩
        have c3 : ¬ room < 3 := fun z => c1 ⟨c0, .inr z⟩
        have c4 : deep < 1 := by omega
        refine cf_rt g.l_typed (n + 1) rfl (s := ⟨[some (.ref r, false), some (want.enc, false), some (.lst (names.map Srt.enc), false), some (.int room, false), some (.int deep, false), some (.lst (xs.map fun i : Nat => D.int (i : Int)), true), some (.int (tk 7 f), false), none], M g1⟩) ?_
        show evSs ft (cfN ft (n + 1)) [0] H.b__law_typed ⟨[some (.ref r, false), some (want.enc, false), some (.lst (names.map Srt.enc), false), some (.int room, false), some (.int deep, false), none, none, none], M f⟩ = _
        simp [H.b__law_typed, g.c_l_take, g.c_l_least, take_c g.l_take hM, sm, hL, q0, c3, c4, c5, e1]
  induction k with
  | zero => exact fun f want names room deep w h1 h2 h3 h4 h5 => leaf 0 f want names room deep w h2 h3 h4 h5 (.inr (.inr (by omega)))
  | succ k ih =>
    intro f want names room deep w h1 h2 h3 h4 h5
    by_cases hc : ((List.range names.length).filter (fun i => names[i]? == some want) ≠ [] ∧ (tk 7 f < 3 ∨ room < 3)) ∨ room < 3 ∨ deep < 1
    · exact leaf (k + 1) f want names room deep w h2 h3 h4 h5 hc
    · have sm := fun cf => some_ev (ft := ft) cf want names (by omega) (by omega)
      generalize hxs : (List.range names.length).filter (fun i => names[i]? == some want) = xs at hc sm
      have c3 : ¬ room < 3 := fun z => hc (.inr (.inl z))
      have c4 : ¬ deep < 1 := fun z => hc (.inr (.inr z))
      have hq : xs = [] ∨ ¬ tk 7 f < 3 := by
        by_cases c0 : xs = []
        · exact .inl c0
        · exact .inr fun z => hc (.inl ⟨c0, .inl z⟩)
      obtain ⟨L, hL⟩ : ∃ L : Int, (xs.length : Int) = L := ⟨_, rfl⟩
      have lp : xs ≠ [] → 0 < L := fun z => by
        have := List.length_pos_iff.mpr z
        omega
      by_cases c5 : 3 < tk 7 f
      · obtain ⟨p, g1, d1, l1, e1⟩ := used_p g hM k ih (tn 7 f) want names room deep w (by omega) h2 h3 (by omega) (by omega)
        refine ⟨p, g1, d1, l1, fun n hn => ?_⟩
        obtain ⟨n, rfl⟩ : ∃ j, n = j + 2 := ⟨n - 2, by omega⟩
        have e1 := e1 (n + 1) (by omega)
        have c6 : ¬ tk 7 f < 3 := by omega
        by_cases c0 : xs = []
        · subst c0
          refine cf_rt g.l_typed (n + 1) rfl (s := ⟨[some (.ref r, false), some (want.enc, false), some (.lst (names.map Srt.enc), false), some (.int room, false), some (.int deep, false), some (.lst [], true), some (.int (tk 7 f), false), none], M g1⟩) ?_
          show evSs ft (cfN ft (n + 1)) [0] H.b__law_typed ⟨[some (.ref r, false), some (want.enc, false), some (.lst (names.map Srt.enc), false), some (.int room, false), some (.int deep, false), none, none, none], M f⟩ = _
          simp [H.b__law_typed, g.c_l_take, g.c_l_used, take_c g.l_take hM, sm, c3, c4, c5, e1]
        · refine cf_rt g.l_typed (n + 1) rfl (s := ⟨[some (.ref r, false), some (want.enc, false), some (.lst (names.map Srt.enc), false), some (.int room, false), some (.int deep, false), some (.lst (xs.map fun i : Nat => D.int (i : Int)), true), some (.int (tk 7 f), false), none], M g1⟩) ?_
          show evSs ft (cfN ft (n + 1)) [0] H.b__law_typed ⟨[some (.ref r, false), some (want.enc, false), some (.lst (names.map Srt.enc), false), some (.int room, false), some (.int deep, false), none, none, none], M f⟩ = _
          simp [H.b__law_typed, g.c_l_take, g.c_l_used, take_c g.l_take hM, sm, hL, lp c0, c3, c4, c5, c6, e1]
      · obtain ⟨p, g1, d1, l1, e1⟩ := made_p g hM k ih (tn 7 f) want names room deep w (by omega) h2 h3 (by omega) (by omega)
        refine ⟨p, g1, d1, l1, fun n hn => ?_⟩
        obtain ⟨n, rfl⟩ : ∃ j, n = j + 2 := ⟨n - 2, by omega⟩
        have e1 := e1 (n + 1) (by omega)
        by_cases c0 : xs = []
        · subst c0
          refine cf_rt g.l_typed (n + 1) rfl (s := ⟨[some (.ref r, false), some (want.enc, false), some (.lst (names.map Srt.enc), false), some (.int room, false), some (.int deep, false), some (.lst [], true), some (.int (tk 7 f), false), none], M g1⟩) ?_
          show evSs ft (cfN ft (n + 1)) [0] H.b__law_typed ⟨[some (.ref r, false), some (want.enc, false), some (.lst (names.map Srt.enc), false), some (.int room, false), some (.int deep, false), none, none, none], M f⟩ = _
          simp [H.b__law_typed, g.c_l_take, g.c_l_made, take_c g.l_take hM, sm, c3, c4, c5, e1]
        · have c6 : ¬ tk 7 f < 3 := by
            rcases hq with h | h
            · exact absurd h c0
            · exact h
          refine cf_rt g.l_typed (n + 1) rfl (s := ⟨[some (.ref r, false), some (want.enc, false), some (.lst (names.map Srt.enc), false), some (.int room, false), some (.int deep, false), some (.lst (xs.map fun i : Nat => D.int (i : Int)), true), some (.int (tk 7 f), false), none], M g1⟩) ?_
          show evSs ft (cfN ft (n + 1)) [0] H.b__law_typed ⟨[some (.ref r, false), some (want.enc, false), some (.lst (names.map Srt.enc), false), some (.int room, false), some (.int deep, false), none, none, none], M f⟩ = _
          simp [H.b__law_typed, g.c_l_take, g.c_l_made, take_c g.l_take hM, sm, hL, lp c0, c3, c4, c5, c6, e1]
end
end Ly
set_option Elab.async false
set_option linter.all false
set_option maxRecDepth 100000
set_option maxHeartbeats 4000000
/-! Ly33: closed programs drawn. -/
namespace Ly
open PySem PySem.Spec PyProof.Rows L2
namespace H
def b__law_loop : List St := [
  .asg (.v 1) (.tup [.c (.str "give"), .tup [.c (.str "give"), .tup [.c (.str "name"), .c (.int 1)], .tup [.c (.str "name"), .c (.int 1)]], .tup [.c (.str "plus"), .tup [.c (.str "name"), .c (.int 0)], .tup [.c (.str "whole"), .neg (.c (.int 1))]]]),
  .asg (.v 2) (.ix (.lst [.v 1, .tup [.c (.str "plus"), .call "_law_whole" [.v 0], .v 1], .tup [.c (.str "plus"), .tup [.c (.str "name"), .c (.int 0)], .v 1]]) (.call "_law_take" [.v 0, .c (.int 3)])),
  .asg (.v 3) (.ix (.lst [.call "_law_whole" [.v 0], .tup [.c (.str "pair"), .call "_law_whole" [.v 0], .tup [.c (.str "name"), .c (.int 0)]], .tup [.c (.str "name"), .c (.int 1)]]) (.bin .mod (.call "_law_take" [.v 0, .c (.int 3)]) (.c (.int 3)))),
  .ife (.cmp .ne (.v 2) (.v 1)) [
    .asg (.v 3) (.call "_law_whole" [.v 0])] [],
  .asg (.v 4) (.tup [.c (.str "way"), .tup [.c (.str "way"), .tup [.c (.str "look"), .tup [.c (.str "name"), .c (.int 0)], .v 3, .v 2]]]),
  .ret (.tup [.c (.str "give"), .tup [.c (.str "give"), .v 4, .v 4], .tup [.c (.str "whole"), .call "_law_take" [.v 0, .c (.int 5)]]])]
def f__law_loop : Fn := ⟨1, 5, [0], b__law_loop⟩
def b__law_parts : List St := [
  .ret (.bin .add (.c (.int 1)) (.blt .sum [.lc (.call "_law_parts" [.v 1]) (.v 1) .seq [.sl (.v 0) (.c (.int 1)) (.nil)] [.isi (.v 1) .tuple] [1]]))]
def f__law_parts : Fn := ⟨1, 2, [], b__law_parts⟩
def b__law_program : List St := [
  .asg (.v 1) (.call "_law_take" [.v 0, .c (.int 8)]),
  .ife (.cmp .eq (.v 1) (.c (.int 6))) [
    .ret (.call "_law_loop" [.v 0])] [],
  .ife (.cmp .eq (.v 1) (.c (.int 7))) [
    .asg (.v 2) (.call "_law_wild" [.v 0, .c (.int 0), .bin .add (.c (.int 4)) (.call "_law_take" [.v 0, .c (.int 40)]), .c (.int 14)])] [
    .asg (.v 2) (.call "_law_typed" [.v 0, .call "_law_type" [.v 0, .call "_law_take" [.v 0, .c (.int 3)]], .lst [], .bin .add (.c (.int 4)) (.call "_law_take" [.v 0, .c (.int 40)]), .c (.int 12)])],
  .ife (.cmp .gt (.call "_law_parts" [.v 2]) (.c (.int 60))) [
    .ret (.tup [.c (.str "plus"), .tup [.c (.str "plus"), .call "_law_whole" [.v 0], .call "_law_whole" [.v 0]], .call "_law_whole" [.v 0]])] [],
  .ret (.v 2)]
def f__law_program : Fn := ⟨1, 3, [0], b__law_program⟩
def progA : List St := b__law_program.take 3
end H
structure GenP (ft : Str → Option Fn) : Prop extends GenT ft where
  l_loop : ft "_law_loop" = some H.f__law_loop
  l_wild : ft "_law_wild" = some H.f__law_wild
  l_parts : ft "_law_parts" = some H.f__law_parts
  l_program : ft "_law_program" = some H.f__law_program
theorem GenP.c_l_loop {ft : Str → Option Fn} (g : GenP ft) (cf : Str → List D → Mem → CR) (s : S) (es : List E) : evE ft cf (.call "_law_loop" es) s = (evAs ft cf [0] 0 es s).bind fun ds s => if ds.length = 1 then ofCR s (cf "_law_loop" ds s.mem) else .no := ev_call ft cf s g.l_loop es
theorem GenP.c_l_wild {ft : Str → Option Fn} (g : GenP ft) (cf : Str → List D → Mem → CR) (s : S) (es : List E) : evE ft cf (.call "_law_wild" es) s = (evAs ft cf [0] 0 es s).bind fun ds s => if ds.length = 4 then ofCR s (cf "_law_wild" ds s.mem) else .no := ev_call ft cf s g.l_wild es
theorem GenP.c_l_parts {ft : Str → Option Fn} (g : GenP ft) (cf : Str → List D → Mem → CR) (s : S) (es : List E) : evE ft cf (.call "_law_parts" es) s = (evAs ft cf [] 0 es s).bind fun ds s => if ds.length = 1 then ofCR s (cf "_law_parts" ds s.mem) else .no := ev_call ft cf s g.l_parts es
theorem GenP.c_l_program {ft : Str → Option Fn} (g : GenP ft) (cf : Str → List D → Mem → CR) (s : S) (es : List E) : evE ft cf (.call "_law_program" es) s = (evAs ft cf [0] 0 es s).bind fun ds s => if ds.length = 1 then ofCR s (cf "_law_program" ds s.mem) else .no := ev_call ft cf s g.l_program es
theorem leaf_sz (p : P) (h : p.dep = 0) : p.sz = 1 := by
  cases p <;> simp [P.dep] at h <;> rfl
section
variable {ft : Str → Option Fn} (g : GenP ft)
include g
theorem wleaf_c {M : Fd → Mem} {r : Nat} (hM : Cell M r) (f : Fd) (many : Int) (h0 : 0 ≤ many) (h1 : many < 1000) : ∃ (p : P) (f' : Fd), p.dep = 0 ∧ p.cl many.toNat = true ∧ ∀ (n : Nat) (a b c e x y z : Option (D × Bool)),
    evSs ft (cfN ft (n + 2)) [0] H.wildLeaf ⟨[some (.ref r, false), some (.int many, false), a, b, c, e, x, y, z], M f⟩ = .ok (.rt p.enc false) ⟨[some (.ref r, false), some (.int many, false), a, b, c, e, x, y, z], M f'⟩ := by
  have hb : many < 18446744073709551616 := by omega
  by_cases c1 : 0 < many
  · by_cases c2 : 0 < tk 3 f
    · refine ⟨.name (tk many (tn 3 f)), tn many (tn 3 f), rfl, by have a0 := tk_lo c1 (tn 3 f); have a1 := tk_hi c1 (tn 3 f); simp [P.cl]; omega, fun n a b c e x y z => ?_⟩
      simp [H.wildLeaf, g.c_l_take, take_c g.l_take hM, c1, c2, hb]
    · obtain ⟨i, f', hd, hl, hh⟩ := whole_b g.toGenT hM (tn 3 f)
      refine ⟨i, f', hd, hl _, fun n a b c e x y z => ?_⟩
      simp [H.wildLeaf, g.c_l_take, g.c_l_whole, take_c g.l_take hM, c1, c2, hb, hh n]
  · obtain ⟨i, f', hd, hl, hh⟩ := whole_b g.toGenT hM f
    refine ⟨i, f', hd, hl _, fun n a b c e x y z => ?_⟩
    simp [H.wildLeaf, g.c_l_whole, c1, hh n]
theorem wild0_c {M : Fd → Mem} {r : Nat} (hM : Cell M r) (f : Fd) (many room deep : Int) (h0 : 0 ≤ many) (h1 : many < 1000) (hc : room < 2 ∨ deep < 1 ∨ tk 12 f < 2) : ∃ (p : P) (f' : Fd), p.dep = 0 ∧ p.cl many.toNat = true ∧ ∀ (n : Nat),
    cfN ft (n + 3) "_law_wild" [.ref r, .int many, .int room, .int deep] (M f) = .ok p.enc false (M f') := by
  obtain ⟨p, f', hd, hn, hl⟩ := wleaf_c g hM (tn 12 f) many h0 h1
  refine ⟨p, f', hd, hn, fun n => ?_⟩
  have hl := hl n
  rw [cf_s g.l_wild _ rfl]
  by_cases c1 : room < 2
  · simp [H.f__law_wild, H.wildB_eq, H.wildB, runF, env0, g.c_l_take, take_c g.l_take hM, hl, c1]
  · by_cases c2 : deep < 1
    · simp [H.f__law_wild, H.wildB_eq, H.wildB, runF, env0, g.c_l_take, take_c g.l_take hM, hl, c1, c2]
    · have c3 : tk 12 f < 2 := by omega
      simp [H.f__law_wild, H.wildB_eq, H.wildB, runF, env0, g.c_l_take, take_c g.l_take hM, hl, c1, c2, c3]
theorem wild_c {M : Fd → Mem} {r : Nat} (hM : Cell M r) : ∀ (k : Nat) (f : Fd) (many room deep : Int), 0 ≤ many → many + k < 500 → deep ≤ k → ∃ (p : P) (f' : Fd), p.dep ≤ k ∧ p.cl many.toNat = true ∧ ∀ (n : Nat),
    cfN ft (n + k + 3) "_law_wild" [.ref r, .int many, .int room, .int deep] (M f) = .ok p.enc false (M f')
  | 0, f, many, room, deep, h0, h1, h2 => by
    obtain ⟨p, f', hd, hn, hl⟩ := wild0_c g hM f many room deep h0 (by omega) (by omega)
    exact ⟨p, f', by omega, hn, hl⟩
  | k + 1, f, many, room, deep, h0, h1, h2 => by
    by_cases hc : room < 2 ∨ deep < 1 ∨ tk 12 f < 2
    · obtain ⟨p, f', hd, hn, hl⟩ := wild0_c g hM f many room deep h0 (by omega) hc
      exact ⟨p, f', by omega, hn, fun n => hl (n + (k + 1))⟩
    · have c1 : ¬ room < 2 := by omega
      have c2 : ¬ deep < 1 := by omega
      have c3 : ¬ tk 12 f < 2 := by omega
      have t0 := tk_hi (many := 12) (by decide) f
      by_cases c4 : tk 12 f < 4
      · obtain ⟨d, f', hd, hn, hl⟩ := wild_c hM k (tn 12 f) (many + 1) (room - 1) (deep - 1) (by omega) (by omega) (by omega)
        refine ⟨.un .way d, f', by simp only [P.dep]; omega, by rw [show (many + 1).toNat = many.toNat + 1 from by omega] at hn; simp [P.cl, hn], fun n => ?_⟩
        have hl := hl n
        show cfN ft ((n + k + 3) + 1) _ _ _ = _
        rw [cf_s g.l_wild _ rfl]
        simp [H.f__law_wild, H.wildB_eq, H.wildB, runF, env0, g.c_l_take, g.c_l_wild, take_c g.l_take hM, hl, c1, c2, c3, c4]
      · by_cases c5 : tk 12 f < 6
        · obtain ⟨d, f', hd, hn, hl⟩ := wild_c hM k (tn 12 f) many (room - 1) (deep - 1) (by omega) (by omega) (by omega)
          have cs : tk 12 f = 4 ∨ tk 12 f = 5 := by omega
          rcases cs with c | c
          · refine ⟨.un .first d, f', by simp only [P.dep]; omega, by simp [P.cl, hn], fun n => ?_⟩
            have hl := hl n
            show cfN ft ((n + k + 3) + 1) _ _ _ = _
            rw [cf_s g.l_wild _ rfl]
            simp [H.f__law_wild, H.wildB_eq, H.wildB, runF, env0, g.c_l_take, g.c_l_wild, take_c g.l_take hM, hl, c1, c2, c]
          · refine ⟨.un .second d, f', by simp only [P.dep]; omega, by simp [P.cl, hn], fun n => ?_⟩
            have hl := hl n
            show cfN ft ((n + k + 3) + 1) _ _ _ = _
            rw [cf_s g.l_wild _ rfl]
            simp [H.f__law_wild, H.wildB_eq, H.wildB, runF, env0, g.c_l_take, g.c_l_wild, take_c g.l_take hM, hl, c1, c2, c]
        · by_cases c6 : tk 12 f = 6
          · obtain ⟨d1, f1, e1, s1, l1⟩ := wild_c hM k (tn 12 f) many ((room - 1) / 3) (deep - 1) (by omega) (by omega) (by omega)
            obtain ⟨d2, f2, e2, s2, l2⟩ := wild_c hM k f1 many ((room - 1) / 3) (deep - 1) (by omega) (by omega) (by omega)
            obtain ⟨d3, f3, e3, s3, l3⟩ := wild_c hM k f2 many ((room - 1) / 3) (deep - 1) (by omega) (by omega) (by omega)
            refine ⟨.look d1 d2 d3, f3, by simp only [P.dep]; omega, by simp [P.cl, s1, s2, s3], fun n => ?_⟩
            have l1 := l1 n
            have l2 := l2 n
            have l3 := l3 n
            show cfN ft ((n + k + 3) + 1) _ _ _ = _
            rw [cf_s g.l_wild _ rfl]
            simp [H.f__law_wild, H.wildB_eq, H.wildB, runF, env0, g.c_l_take, g.c_l_wild, take_c g.l_take hM, l1, l2, l3, c1, c2, c6]
          · obtain ⟨d1, f1, e1, s1, l1⟩ := wild_c hM k (tn 12 f) many ((room - 1) / 2) (deep - 1) (by omega) (by omega) (by omega)
            obtain ⟨d2, f2, e2, s2, l2⟩ := wild_c hM k f1 many ((room - 1) / 2) (deep - 1) (by omega) (by omega) (by omega)
            have cs : tk 12 f = 7 ∨ tk 12 f = 8 ∨ tk 12 f = 9 ∨ tk 12 f = 10 ∨ tk 12 f = 11 := by omega
            have give : (tk 12 f = 7 ∨ tk 12 f = 8 ∨ tk 12 f = 9) → ∃ (p : P) (f' : Fd), p.dep ≤ k + 1 ∧ p.cl many.toNat = true ∧ ∀ (n : Nat), cfN ft (n + (k + 1) + 3) "_law_wild" [.ref r, .int many, .int room, .int deep] (M f) = .ok p.enc false (M f') := fun h => by
              refine ⟨.bi .give d1 d2, f2, by simp only [P.dep]; omega, by simp [P.cl, s1, s2], fun n => ?_⟩
              have l1 := l1 n
              have l2 := l2 n
              show cfN ft ((n + k + 3) + 1) _ _ _ = _
              rw [cf_s g.l_wild _ rfl]
              rcases h with c | c | c <;> simp [H.f__law_wild, H.wildB_eq, H.wildB, runF, env0, g.c_l_take, g.c_l_wild, take_c g.l_take hM, l1, l2, c1, c2, c]
            rcases cs with c | c | c | c | c
            · exact give (.inl c)
            · exact give (.inr (.inl c))
            · exact give (.inr (.inr c))
            · refine ⟨.bi .plus d1 d2, f2, by simp only [P.dep]; omega, by simp [P.cl, s1, s2], fun n => ?_⟩
              have l1 := l1 n
              have l2 := l2 n
              show cfN ft ((n + k + 3) + 1) _ _ _ = _
              rw [cf_s g.l_wild _ rfl]
              simp [H.f__law_wild, H.wildB_eq, H.wildB, runF, env0, g.c_l_take, g.c_l_wild, take_c g.l_take hM, l1, l2, c1, c2, c]
            · refine ⟨.bi .pair d1 d2, f2, by simp only [P.dep]; omega, by simp [P.cl, s1, s2], fun n => ?_⟩
              have l1 := l1 n
              have l2 := l2 n
              show cfN ft ((n + k + 3) + 1) _ _ _ = _
              rw [cf_s g.l_wild _ rfl]
              simp [H.f__law_wild, H.wildB_eq, H.wildB, runF, env0, g.c_l_take, g.c_l_wild, take_c g.l_take hM, l1, l2, c1, c2, c]
theorem loop_p {M : Fd → Mem} {r : Nat} (hM : Cell M r) (f : Fd) : ∃ (p : P) (f' : Fd), p.dep ≤ 8 ∧ p.sz ≤ 60 ∧ (∀ m, p.cl m = true) ∧ ∀ n : Nat, cfN ft (n + 3) "_law_loop" [.ref r] (M f) = .ok p.enc false (M f') := by
  obtain ⟨w1, f1, d1, l1, e1⟩ := whole_b g.toGenT hM f
  obtain ⟨w2, f3, d2, l2, e2⟩ := whole_b g.toGenT hM (tn 3 f1)
  obtain ⟨w3, f4, d3, l3, e3⟩ := whole_b g.toGenT hM f3
  obtain ⟨w4, f6, d4, l4, e4⟩ := whole_b g.toGenT hM (tn 3 f4)
  have z1 := leaf_sz w1 d1
  have z2 := leaf_sz w2 d2
  have z3 := leaf_sz w3 d3
  have z4 := leaf_sz w4 d4
  have t0 := tk_lo (many := 3) (by decide) f1
  have t1 := tk_hi (many := 3) (by decide) f1
  have u0 := tk_lo (many := 3) (by decide) f4
  have u1 := tk_hi (many := 3) (by decide) f4
  let ag : P := .bi .give (.bi .give (.name 1) (.name 1)) (.bi .plus (.name 0) (.whole (-1)))
  have q1 := ne_P ag ag (by decide)
  have q2 := ne_P (.bi .plus w1 ag) ag (by simp only [P.dep, ag]; omega)
  have q3 := ne_P (.bi .plus (.name 0) ag) ag (by simp only [P.dep, ag]; omega)
  have n2 : ¬ (P.bi .plus w1 ag = ag) := by simp [ag]
  have n3 : ¬ (P.bi .plus (.name 0) ag = ag) := by simp [ag]
  simp only [n2, n3, decide_true, decide_false, Bool.not_true, Bool.not_false] at q1 q2 q3
  simp only [ag, e_give, e_plus, e_name, e_whole] at q1 q2 q3
  let mk : P → P → Int → P := fun base step t => .bi .give (.bi .give (.un .way (.un .way (.look (.name 0) base step))) (.un .way (.un .way (.look (.name 0) base step)))) (.whole t)
  have ok : ∀ (base step : P) (h : Fd), base.dep ≤ 1 → step.dep ≤ 3 → base.sz ≤ 3 → step.sz ≤ 9 → (∀ m, base.cl (m + 2) = true) → (∀ m, step.cl (m + 2) = true) → (mk base step (tk 5 h)).dep ≤ 8 ∧ (mk base step (tk 5 h)).sz ≤ 60 ∧ (∀ m, (mk base step (tk 5 h)).cl m = true) := fun base step h a1 a2 a3 a4 a5 a6 => by
    have v0 := tk_lo (many := 5) (by decide) h
    have v1 := tk_hi (many := 5) (by decide) h
    refine ⟨by simp only [mk, P.dep]; omega, by simp only [mk, P.sz]; omega, fun m => ?_⟩
    simp [mk, P.cl, a5, a6]
    omega
  have bs : tk 3 f4 % 3 = tk 3 f4 := by omega
  have cs : tk 3 f1 = 0 ∨ tk 3 f1 = 1 ∨ tk 3 f1 = 2 := by omega
  rcases cs with c | c | c
  · have cs : tk 3 f4 = 0 ∨ tk 3 f4 = 1 ∨ tk 3 f4 = 2 := by omega
    rcases cs with c' | c' | c'
    · obtain ⟨o1, o2, o3⟩ := ok w2 ag (tn 3 f4) (by omega) (by simp [ag, P.dep]) (by omega) (by simp [ag, P.sz]) (fun m => l2 _) (fun m => by simp [ag, P.cl] <;> omega)
      refine ⟨_, tn 5 (tn 3 f4), o1, o2, o3, fun n => ?_⟩
      rw [cf_s g.l_loop _ rfl]
      simp [H.f__law_loop, H.b__law_loop, runF, env0, g.c_l_take, g.c_l_whole, take_c g.l_take hM, e1, e2, e3, c, c', q1, mk, ag]
    · obtain ⟨o1, o2, o3⟩ := ok (.bi .pair w3 (.name 0)) ag (tn 3 f4) (by simp only [P.dep]; omega) (by simp [ag, P.dep]) (by simp only [P.sz]; omega) (by simp [ag, P.sz]) (fun m => by simp [P.cl, l3] <;> omega) (fun m => by simp [ag, P.cl] <;> omega)
      refine ⟨_, tn 5 (tn 3 f4), o1, o2, o3, fun n => ?_⟩
      rw [cf_s g.l_loop _ rfl]
      simp [H.f__law_loop, H.b__law_loop, runF, env0, g.c_l_take, g.c_l_whole, take_c g.l_take hM, e1, e2, e3, c, c', q1, mk, ag]
    · obtain ⟨o1, o2, o3⟩ := ok (.name 1) ag (tn 3 f4) (by simp [P.dep]) (by simp [ag, P.dep]) (by simp [P.sz]) (by simp [ag, P.sz]) (fun m => by simp [P.cl] <;> omega) (fun m => by simp [ag, P.cl] <;> omega)
      refine ⟨_, tn 5 (tn 3 f4), o1, o2, o3, fun n => ?_⟩
      rw [cf_s g.l_loop _ rfl]
      simp [H.f__law_loop, H.b__law_loop, runF, env0, g.c_l_take, g.c_l_whole, take_c g.l_take hM, e1, e2, e3, c, c', q1, mk, ag]
  · have b0 : ∃ d : D, L2.atI [w2.enc, .tup [.str "pair", w3.enc, .tup [.str "name", .int 0]], .tup [.str "name", .int 1]] (tk 3 f4) = some d := by
      have cs : tk 3 f4 = 0 ∨ tk 3 f4 = 1 ∨ tk 3 f4 = 2 := by omega
      rcases cs with c | c | c <;> rw [c] <;> exact ⟨_, rfl⟩
    obtain ⟨d, b0⟩ := b0
    obtain ⟨o1, o2, o3⟩ := ok w4 (.bi .plus w1 ag) f6 (by omega) (by simp only [ag, P.dep]; omega) (by omega) (by simp only [ag, P.sz]; omega) (fun m => l4 _) (fun m => by simp [ag, P.cl, l1] <;> omega)
    refine ⟨_, tn 5 f6, o1, o2, o3, fun n => ?_⟩
    rw [cf_s g.l_loop _ rfl]
    simp [H.f__law_loop, H.b__law_loop, runF, env0, g.c_l_take, g.c_l_whole, take_c g.l_take hM, e1, e2, e3, e4, c, bs, b0, q2, mk, ag]
  · have b0 : ∃ d : D, L2.atI [w2.enc, .tup [.str "pair", w3.enc, .tup [.str "name", .int 0]], .tup [.str "name", .int 1]] (tk 3 f4) = some d := by
      have cs : tk 3 f4 = 0 ∨ tk 3 f4 = 1 ∨ tk 3 f4 = 2 := by omega
      rcases cs with c | c | c <;> rw [c] <;> exact ⟨_, rfl⟩
    obtain ⟨d, b0⟩ := b0
    obtain ⟨o1, o2, o3⟩ := ok w4 (.bi .plus (.name 0) ag) f6 (by omega) (by simp [ag, P.dep]) (by omega) (by simp [ag, P.sz]) (fun m => l4 _) (fun m => by simp [ag, P.cl] <;> omega)
    refine ⟨_, tn 5 f6, o1, o2, o3, fun n => ?_⟩
    rw [cf_s g.l_loop _ rfl]
    simp [H.f__law_loop, H.b__law_loop, runF, env0, g.c_l_take, g.c_l_whole, take_c g.l_take hM, e1, e2, e3, e4, c, bs, b0, q3, mk, ag]
omit g
theorem sl_in (p : P) (h : p.leaf = false) : opSl p.enc (some 1) none = some (.tup (p.inner.map P.enc), false) := by
  rw [enc_node p h]
  show some (D.tup (cutD (.str p.tag :: p.inner.map P.enc) (some 1) none), false) = _
  rw [cut1]
theorem sl_nm (i : Int) : opSl (.tup [.str "name", .int i]) (some 1) none = some (.tup [.int i], false) := by
  show some (D.tup (cutD [.str "name", .int i] (some 1) none), false) = _
  rw [cut1]
theorem sl_wh (i : Int) : opSl (.tup [.str "whole", .int i]) (some 1) none = some (.tup [.int i], false) := by
  show some (D.tup (cutD [.str "whole", .int i] (some 1) none), false) = _
  rw [cut1]
@[simp] theorem ints_n : D.ints? [] = some [] := id rfl
@[simp] theorem ints_c (i : Int) (xs : List D) : D.ints? (.int i :: xs) = (D.ints? xs).map (i :: ·) := id rfl
@[simp] theorem tup_P (p : P) : isTy p.enc .tuple = true := by cases p <;> rfl
include g
theorem parts_ev : ∀ (n : Nat) (p : P) (m : Mem), p.dep < n → cfN ft n "_law_parts" [p.enc] m = .ok (.int p.sz) false m := by
  intro n
  induction n with
  | zero => intro p m h; omega
  | succ n ih =>
    intro p m hn
    have nodes : p.leaf = false → evE ft (cfN ft n) (.lc (.call "_law_parts" [.v 1]) (.v 1) .seq [.sl (.v 0) (.c (.int 1)) .nil] [.isi (.v 1) .tuple] [1]) ⟨[some (p.enc, false), none], m⟩ = .ok (.lst (p.inner.map fun q => .int q.sz), true) ⟨[some (p.enc, false), none], m⟩ := fun hlf => by
      have h := lc_filter (ft := ft) (cf := cfN ft n) (elt := .call "_law_parts" [.v 1]) (tg := .v 1) (k := .seq) (its := [.sl (.v 0) (.c (.int 1)) .nil]) (ifs := [.isi (.v 1) .tuple]) (own := [1]) (s := ⟨[some (p.enc, false), none], m⟩) (env := [some (p.enc, false), none]) (m := m)
        p.inner P.enc (fun q => .int q.sz) (fun _ => true) (by simp [sl_in p hlf]) rfl (by have := inner_len p; exact sl_le (by omega)) fun a ha => by
          have hd := inner_dep p a ha
          exact ⟨[some (p.enc, false), some (a.enc, false)], rfl, by simp [wipeE, g.c_l_parts, ih a m (by omega)]⟩
      rwa [List.filter_eq_self.mpr (fun _ _ => rfl)] at h
    have leaves : ∀ d i, p.enc = d → opSl d (some 1) none = some (.tup [.int i], false) → evE ft (cfN ft n) (.lc (.call "_law_parts" [.v 1]) (.v 1) .seq [.sl (.v 0) (.c (.int 1)) .nil] [.isi (.v 1) .tuple] [1]) ⟨[some (p.enc, false), none], m⟩ = .ok (.lst [], true) ⟨[some (p.enc, false), none], m⟩ := fun d i hd hs => by
      subst hd
      exact lc_filter (ft := ft) (cf := cfN ft n) (elt := .call "_law_parts" [.v 1]) (tg := .v 1) (k := .seq) (its := [.sl (.v 0) (.c (.int 1)) .nil]) (ifs := [.isi (.v 1) .tuple]) (own := [1]) (s := ⟨[some (p.enc, false), none], m⟩) (env := [some (p.enc, false), none]) (m := m)
        [()] (fun _ => D.int i) (fun _ => D.int i) (fun _ => false) (by simp [hs]) rfl (sl_le (by simp)) fun a _ => by
          exact ⟨[some (p.enc, false), some (.int i, false)], rfl, by simp [wipeE]⟩
    rw [cf_s g.l_parts _ rfl]
    cases p with
    | name i =>
      have h := leaves _ i (e_name i) (sl_nm i)
      simp only [e_name] at h
      simp [H.f__law_parts, H.b__law_parts, runF, env0, h, P.sz]
    | whole i =>
      have h := leaves _ i (e_whole i) (sl_wh i)
      simp only [e_whole] at h
      simp [H.f__law_parts, H.b__law_parts, runF, env0, h, P.sz]
    | un w a =>
      have h := nodes rfl
      simp only [P.inner, List.map_cons, List.map_nil] at h
      simp [H.f__law_parts, H.b__law_parts, runF, env0, h, P.sz]
      omega
    | bi w a b =>
      have h := nodes rfl
      simp only [P.inner, List.map_cons, List.map_nil] at h
      simp [H.f__law_parts, H.b__law_parts, runF, env0, h, P.sz]
      omega
    | look a b c =>
      have h := nodes rfl
      simp only [e_look, P.inner, List.map_cons, List.map_nil] at h
      simp [H.f__law_parts, H.b__law_parts, runF, env0, h, P.sz]
      omega
/-- a closed program of at most sixty parts -/
theorem program_p {M : Fd → Mem} {r : Nat} (hM : Cell M r) (f : Fd) : ∃ (p : P) (f' : Fd), p.dep ≤ 26 ∧ p.sz ≤ 60 ∧ p.cl 0 = true ∧ ∀ n : Nat, cfN ft (n + 45) "_law_program" [.ref r] (M f) = .ok p.enc false (M f') := by
  have t0 := tk_lo (many := 8) (by decide) f
  have t1 := tk_hi (many := 8) (by decide) f
  have fin : ∀ (p : P) (f1 : Fd), p.dep ≤ 26 → p.cl 0 = true → ∃ (q : P) (f' : Fd), q.dep ≤ 26 ∧ q.sz ≤ 60 ∧ q.cl 0 = true ∧ ∀ (n : Nat) (x : Option (D × Bool)),
      evSs ft (cfN ft (n + 44)) [0] [.ife (.cmp .gt (.call "_law_parts" [.v 2]) (.c (.int 60))) [
    .ret (.tup [.c (.str "plus"), .tup [.c (.str "plus"), .call "_law_whole" [.v 0], .call "_law_whole" [.v 0]], .call "_law_whole" [.v 0]])] [],
  .ret (.v 2)] ⟨[some (.ref r, false), x, some (p.enc, false)], M f1⟩ = .ok (.rt q.enc false) ⟨[some (.ref r, false), x, some (p.enc, false)], M f'⟩ := fun p f1 hd hc => by
    have hp := fun n => parts_ev g (n + 44) p (M f1) (by omega)
    by_cases c : 60 < p.sz
    · obtain ⟨w1, g1, d1, l1, e1⟩ := whole_b g.toGenT hM f1
      obtain ⟨w2, g2, d2, l2, e2⟩ := whole_b g.toGenT hM g1
      obtain ⟨w3, g3, d3, l3, e3⟩ := whole_b g.toGenT hM g2
      have z1 := leaf_sz w1 d1
      have z2 := leaf_sz w2 d2
      have z3 := leaf_sz w3 d3
      refine ⟨.bi .plus (.bi .plus w1 w2) w3, g3, by simp only [P.dep]; omega, by simp only [P.sz]; omega, by simp [P.cl, l1, l2, l3], fun n x => ?_⟩
      have c : (60 : Int) < p.sz := by omega
      simp [hp, g.c_l_parts, g.c_l_whole, c, e1, e2, e3]
    · have c : ¬ (60 : Int) < p.sz := by omega
      exact ⟨p, f1, hd, by omega, hc, fun n x => by simp [hp, g.c_l_parts, c]⟩
  by_cases c6 : tk 8 f = 6
  · obtain ⟨p, f', h1, h2, h3, h4⟩ := loop_p g hM (tn 8 f)
    refine ⟨p, f', by omega, h2, h3 0, fun n => ?_⟩
    rw [cf_s g.l_program _ rfl]
    simp [H.f__law_program, H.b__law_program, runF, env0, g.c_l_take, g.c_l_loop, take_c g.l_take hM, c6, h4]
  · by_cases c7 : tk 8 f = 7
    · obtain ⟨p, f1, h1, h2, h3⟩ := wild_c g hM 14 (tn 40 (tn 8 f)) 0 (4 + tk 40 (tn 8 f)) 14 (by omega) (by omega) (by omega)
      obtain ⟨q, f', q1, q2, q3, q4⟩ := fin p f1 (by omega) h2
      refine ⟨q, f', q1, q2, q3, fun n => ?_⟩
      have h3 : cfN ft (n + 44) "_law_wild" [.ref r, .int 0, .int (4 + tk 40 (tn 8 f)), .int 14] (M (tn 40 (tn 8 f))) = _ := h3 (n + 27)
      refine cf_rt g.l_program (n + 44) rfl (s := ⟨[some (.ref r, false), some (.int 7, false), some (p.enc, false)], M f'⟩) ?_
      refine (ss_next (a := H.progA) ?_).trans (q4 n _)
      show evSs ft (cfN ft (n + 44)) [0] H.progA ⟨[some (.ref r, false), none, none], M f⟩ = _
      simp [H.progA, H.b__law_program, g.c_l_take, g.c_l_wild, take_c g.l_take hM, c7, h3]
    · obtain ⟨t, f1, ht, e1⟩ := type_p g.toGenT hM 3 (tn 3 (tn 8 f)) (tk 3 (tn 8 f)) (tk_lo (by decide) _) (by have := tk_hi (many := 3) (by decide) (tn 8 f); omega)
      have u := tk_hi (many := 3) (by decide) (tn 8 f)
      obtain ⟨p, f2, h1, h2, h3⟩ := typed_p g.toGenT hM 12 (tn 40 f1) t [] (4 + tk 40 f1) 12 2 (by omega) (by omega) (by omega) (by omega) (by simp)
      obtain ⟨q, f', q1, q2, q3, q4⟩ := fin p f2 (by omega) h2
      refine ⟨q, f', q1, q2, q3, fun n => ?_⟩
      have h3 := h3 (n + 44) (by omega)
      have e1 : cfN ft (n + 44) "_law_type" [.ref r, .int (tk 3 (tn 8 f))] (M (tn 3 (tn 8 f))) = _ := e1 (n + 39)
      simp only [List.map_nil] at h3
      refine cf_rt g.l_program (n + 44) rfl (s := ⟨[some (.ref r, false), some (.int (tk 8 f), false), some (p.enc, false)], M f'⟩) ?_
      refine (ss_next (a := H.progA) ?_).trans (q4 n _)
      show evSs ft (cfN ft (n + 44)) [0] H.progA ⟨[some (.ref r, false), none, none], M f⟩ = _
      simp [H.progA, H.b__law_program, g.c_l_take, g.c_l_type, g.c_l_typed, take_c g.l_take hM, c6, c7, h3, e1]
end
end Ly
set_option Elab.async false
set_option linter.all false
set_option maxRecDepth 100000
set_option maxHeartbeats 4000000
/-! Ly34: programs with heads at which a rule can go. -/
namespace Ly
open PySem PySem.Spec PyProof.Rows L2
namespace H
def b__law_leaf : List St := [
  .ife (.and (.cmp .gt (.v 1) (.c (.int 0))) (.cmp .gt (.call "_law_take" [.v 0, .c (.int 3)]) (.c (.int 0)))) [
    .ret (.tup [.c (.str "name"), .call "_law_take" [.v 0, .v 1]])] [],
  .ret (.call "_law_whole" [.v 0])]
def f__law_leaf : Fn := ⟨2, 2, [0], b__law_leaf⟩
def b__law_headed : List St := [
  .asg (.v 5) (.bin .fdiv (.bin .sub (.v 3) (.c (.int 2))) (.c (.int 2))),
  .ife (.cmp .lt (.v 1) (.c (.int 4))) [
    .asg (.v 9) (.call "_law_any" [.v 0, .bin .add (.v 2) (.c (.int 1)), .v 5, .bin .sub (.v 4) (.c (.int 2))]),
    .ret (.tup [.c (.str "give"), .tup [.c (.str "way"), .v 9], .call "_law_any" [.v 0, .v 2, .v 5, .bin .sub (.v 4) (.c (.int 2))]])] [],
  .ife (.cmp .eq (.v 1) (.c (.int 4))) [
    .ret (.tup [.c (.str "plus"), .call "_law_whole" [.v 0], .call "_law_whole" [.v 0]])] [],
  .ife (.cmp .eq (.v 1) (.c (.int 5))) [
    .asg (.v 6) (.call "_law_any" [.v 0, .v 2, .v 5, .bin .sub (.v 4) (.c (.int 2))]),
    .ret (.tup [.c (.str "look"), .call "_law_whole" [.v 0], .v 6, .call "_law_any" [.v 0, .v 2, .v 5, .bin .sub (.v 4) (.c (.int 2))]])] [],
  .asg (.v 6) (.call "_law_any" [.v 0, .v 2, .v 5, .bin .sub (.v 4) (.c (.int 2))]),
  .asg (.v 7) (.ix (.lst [.c (.str "first"), .c (.str "second"), .c (.str "give"), .c (.str "plus"), .c (.str "look")]) (.bin .sub (.v 1) (.c (.int 6)))),
  .ife (.cmp .lt (.v 1) (.c (.int 8))) [
    .ret (.tup [.v 7, .tup [.c (.str "pair"), .v 6, .call "_law_any" [.v 0, .v 2, .v 5, .bin .sub (.v 4) (.c (.int 2))]]])] [],
  .ife (.cmp .eq (.v 1) (.c (.int 10))) [
    .ret (.tup [.c (.str "look"), .tup [.c (.str "way"), .v 6], .tup [.c (.str "whole"), .c (.int 0)], .call "_law_leaf" [.v 0, .v 2]])] [],
  .asg (.v 8) (.ix (.lst [.tup [.c (.str "pair"), .v 6, .call "_law_leaf" [.v 0, .v 2]], .tup [.c (.str "whole"), .c (.int 0)]]) (.bin .sub (.v 1) (.c (.int 8)))),
  .ret (.tup [.v 7, .v 8, .call "_law_any" [.v 0, .v 2, .bin .sub (.v 5) (.c (.int 1)), .bin .sub (.v 4) (.c (.int 2))]])]
def f__law_headed : Fn := ⟨5, 10, [0], b__law_headed⟩
def b__law_any : List St := [
  .asg (.v 4) (.call "_law_take" [.v 0, .c (.int 18)]),
  .asg (.v 5) (.bin .fdiv (.bin .sub (.v 2) (.c (.int 1))) (.c (.int 2))),
  .ife (.or (.cmp .lt (.v 2) (.c (.int 6))) (.cmp .lt (.v 3) (.c (.int 3)))) [
    .ret (.call "_law_leaf" [.v 0, .v 1])] [],
  .ife (.cmp .lt (.v 4) (.c (.int 11))) [
    .ret (.call "_law_headed" [.v 0, .v 4, .v 1, .v 2, .v 3])] [],
  .ife (.cmp .lt (.v 4) (.c (.int 13))) [
    .ret (.tup [.c (.str "way"), .call "_law_any" [.v 0, .bin .add (.v 1) (.c (.int 1)), .bin .sub (.v 2) (.c (.int 1)), .bin .sub (.v 3) (.c (.int 1))]])] [],
  .ife (.cmp .lt (.v 4) (.c (.int 15))) [
    .ret (.tup [.ix (.lst [.c (.str "first"), .c (.str "second")]) (.bin .sub (.v 4) (.c (.int 13))), .call "_law_any" [.v 0, .v 1, .bin .sub (.v 2) (.c (.int 1)), .bin .sub (.v 3) (.c (.int 1))]])] [],
  .ife (.cmp .eq (.v 4) (.c (.int 17))) [
    .asg (.v 6) (.call "_law_any" [.v 0, .v 1, .bin .fdiv (.v 5) (.c (.int 2)), .bin .sub (.v 3) (.c (.int 1))]),
    .asg (.v 7) (.call "_law_any" [.v 0, .v 1, .bin .fdiv (.v 5) (.c (.int 2)), .bin .sub (.v 3) (.c (.int 1))]),
    .ret (.tup [.c (.str "look"), .v 6, .v 7, .call "_law_any" [.v 0, .v 1, .bin .sub (.v 5) (.c (.int 1)), .bin .sub (.v 3) (.c (.int 1))]])] [],
  .asg (.v 6) (.call "_law_any" [.v 0, .v 1, .v 5, .bin .sub (.v 3) (.c (.int 1))]),
  .ret (.tup [.ix (.lst [.c (.str "pair"), .c (.str "plus")]) (.bin .sub (.v 4) (.c (.int 15))), .v 6, .call "_law_any" [.v 0, .v 1, .v 5, .bin .sub (.v 3) (.c (.int 1))]])]
def f__law_any : Fn := ⟨4, 8, [0], b__law_any⟩
end H
structure GenA (ft : Str → Option Fn) : Prop extends GenP ft where
  l_leaf : ft "_law_leaf" = some H.f__law_leaf
  l_headed : ft "_law_headed" = some H.f__law_headed
  l_any : ft "_law_any" = some H.f__law_any
theorem GenA.c_l_leaf {ft : Str → Option Fn} (g : GenA ft) (cf : Str → List D → Mem → CR) (s : S) (es : List E) : evE ft cf (.call "_law_leaf" es) s = (evAs ft cf [0] 0 es s).bind fun ds s => if ds.length = 2 then ofCR s (cf "_law_leaf" ds s.mem) else .no := ev_call ft cf s g.l_leaf es
theorem GenA.c_l_headed {ft : Str → Option Fn} (g : GenA ft) (cf : Str → List D → Mem → CR) (s : S) (es : List E) : evE ft cf (.call "_law_headed" es) s = (evAs ft cf [0] 0 es s).bind fun ds s => if ds.length = 5 then ofCR s (cf "_law_headed" ds s.mem) else .no := ev_call ft cf s g.l_headed es
theorem GenA.c_l_any {ft : Str → Option Fn} (g : GenA ft) (cf : Str → List D → Mem → CR) (s : S) (es : List E) : evE ft cf (.call "_law_any" es) s = (evAs ft cf [0] 0 es s).bind fun ds s => if ds.length = 4 then ofCR s (cf "_law_any" ds s.mem) else .no := ev_call ft cf s g.l_any es
theorem cl_mono : ∀ (p : P) (m n : Nat), m ≤ n → p.cl m = true → p.cl n = true
  | .name i, m, n, h, hp => by simp [P.cl] at hp ⊢; omega
  | .whole i, m, n, h, hp => hp
  | .un w p, m, n, h, hp => by
    have hp : p.cl (if w = .way then m + 1 else m) = true := hp
    show p.cl (if w = .way then n + 1 else n) = true
    exact cl_mono p _ _ (by split <;> omega) hp
  | .bi w p q, m, n, h, hp => by
    simp only [P.cl, Bool.and_eq_true] at hp ⊢
    exact ⟨cl_mono p m n h hp.1, cl_mono q m n h hp.2⟩
  | .look p q r, m, n, h, hp => by
    simp only [P.cl, Bool.and_eq_true] at hp ⊢
    exact ⟨⟨cl_mono p m n h hp.1.1, cl_mono q m n h hp.1.2⟩, cl_mono r m n h hp.2⟩
section
variable {ft : Str → Option Fn} (g : GenA ft) {M : Fd → Mem} {r : Nat} (hM : Cell M r)
include g hM
theorem leaf_p (f : Fd) (many : Int) (h0 : 0 ≤ many) (h1 : many < 1000) : ∃ (p : P) (f' : Fd), p.dep = 0 ∧ p.cl many.toNat = true ∧ ∀ n : Nat, cfN ft (n + 3) "_law_leaf" [.ref r, .int many] (M f) = .ok p.enc false (M f') := by
  have hb : many < 18446744073709551616 := by omega
  by_cases c1 : 0 < many
  · by_cases c2 : 0 < tk 3 f
    · have a0 := tk_lo c1 (tn 3 f)
      have a1 := tk_hi c1 (tn 3 f)
      refine ⟨.name (tk many (tn 3 f)), tn many (tn 3 f), rfl, by simp [P.cl]; omega, fun n => ?_⟩
      rw [cf_s g.l_leaf _ rfl]
      simp [H.f__law_leaf, H.b__law_leaf, runF, env0, g.c_l_take, take_c g.l_take hM, c1, c2, hb]
    · obtain ⟨p, f', d, l, e⟩ := whole_b g.toGenT hM (tn 3 f)
      refine ⟨p, f', d, l _, fun n => ?_⟩
      rw [cf_s g.l_leaf _ rfl]
      simp [H.f__law_leaf, H.b__law_leaf, runF, env0, g.c_l_take, g.c_l_whole, take_c g.l_take hM, c1, c2, hb, e]
  · obtain ⟨p, f', d, l, e⟩ := whole_b g.toGenT hM f
    refine ⟨p, f', d, l _, fun n => ?_⟩
    rw [cf_s g.l_leaf _ rfl]
    simp [H.f__law_leaf, H.b__law_leaf, runF, env0, g.c_l_take, g.c_l_whole, c1, e]
/-- what _law_any tells at some depth -/
def AnyOk (ft : Str → Option Fn) (M : Fd → Mem) (r : Nat) (k : Nat) : Prop := ∀ (f : Fd) (many room deep : Int), 0 ≤ many → many + k < 500 → deep ≤ k → ∃ (p : P) (f' : Fd), p.dep ≤ k ∧ p.sz ≤ max room.toNat 1 ∧ p.cl many.toNat = true ∧ ∀ n : Nat, cfN ft (n + k + 4) "_law_any" [.ref r, .int many, .int room, .int deep] (M f) = .ok p.enc false (M f')
theorem headed_p (k : Nat) (ih : AnyOk ft M r k) (f : Fd) (form many room deep : Int) (f0 : 0 ≤ form) (f1 : form < 11) (h0 : 0 ≤ many) (h1 : many + k + 2 < 500) (h2 : deep ≤ k + 2) (hr : 6 ≤ room) : ∃ (p : P) (f' : Fd), p.dep ≤ k + 2 ∧ p.sz ≤ room.toNat ∧ p.cl many.toNat = true ∧
    ∀ n : Nat, cfN ft (n + k + 5) "_law_headed" [.ref r, .int form, .int many, .int room, .int deep] (M f) = .ok p.enc false (M f') := by
  by_cases c1 : form < 4
  · obtain ⟨p1, g1, d1, s1, l1, e1⟩ := ih f (many + 1) ((room - 2) / 2) (deep - 2) (by omega) (by omega) (by omega)
    obtain ⟨p2, g2, d2, s2, l2, e2⟩ := ih g1 many ((room - 2) / 2) (deep - 2) (by omega) (by omega) (by omega)
    refine ⟨.bi .give (.un .way p1) p2, g2, by simp only [P.dep]; omega, by simp only [P.sz]; omega, by rw [show (many + 1).toNat = many.toNat + 1 from by omega] at l1; simp [P.cl, *], fun n => ?_⟩
    have e1 := e1 n
    have e2 := e2 n
    rw [cf_s g.l_headed _ rfl]
    simp [H.f__law_headed, H.b__law_headed, runF, env0, g.c_l_take, g.c_l_whole, g.c_l_leaf, g.c_l_headed, g.c_l_any, c1, e1, e2]
  · by_cases c2 : form = 4
    · obtain ⟨i, g1, di, li, e1⟩ := whole_b g.toGenT hM f
      have zi := leaf_sz i di
      obtain ⟨j, g2, dj, lj, e2⟩ := whole_b g.toGenT hM g1
      have zj := leaf_sz j dj
      refine ⟨.bi .plus i j, g2, by simp only [P.dep]; omega, by simp only [P.sz]; omega, by simp [P.cl, *], fun n => ?_⟩
      have e1 := e1 (n + k + 2)
      have e2 := e2 (n + k + 2)
      rw [cf_s g.l_headed _ rfl]
      simp [H.f__law_headed, H.b__law_headed, runF, env0, g.c_l_take, g.c_l_whole, g.c_l_leaf, g.c_l_headed, g.c_l_any, c1, c2, e1, e2]
    · by_cases c3 : form = 5
      · obtain ⟨p1, g1, d1, s1, l1, e1⟩ := ih f many ((room - 2) / 2) (deep - 2) (by omega) (by omega) (by omega)
        obtain ⟨i, g2, di, li, e2⟩ := whole_b g.toGenT hM g1
        have zi := leaf_sz i di
        obtain ⟨p3, g3, d3, s3, l3, e3⟩ := ih g2 many ((room - 2) / 2) (deep - 2) (by omega) (by omega) (by omega)
        refine ⟨.look i p1 p3, g3, by simp only [P.dep]; omega, by simp only [P.sz]; omega, by simp [P.cl, *], fun n => ?_⟩
        have e1 := e1 n
        have e2 := e2 (n + k + 2)
        have e3 := e3 n
        rw [cf_s g.l_headed _ rfl]
        simp [H.f__law_headed, H.b__law_headed, runF, env0, g.c_l_take, g.c_l_whole, g.c_l_leaf, g.c_l_headed, g.c_l_any, c1, c2, c3, e1, e2, e3]
      · obtain ⟨p1, g1, d1, s1, l1, e1⟩ := ih f many ((room - 2) / 2) (deep - 2) (by omega) (by omega) (by omega)
        have cs : form = 6 ∨ form = 7 ∨ form = 8 ∨ form = 9 ∨ form = 10 := by omega
        rcases cs with c | c | c | c | c
        · obtain ⟨p2, g2, d2, s2, l2, e2⟩ := ih g1 many ((room - 2) / 2) (deep - 2) (by omega) (by omega) (by omega)
          refine ⟨.un .first (.bi .pair p1 p2), g2, by simp only [P.dep]; omega, by simp only [P.sz]; omega, by simp [P.cl, *], fun n => ?_⟩
          have e1 := e1 n
          have e2 := e2 n
          rw [cf_s g.l_headed _ rfl]
          simp [H.f__law_headed, H.b__law_headed, runF, env0, g.c_l_take, g.c_l_whole, g.c_l_leaf, g.c_l_headed, g.c_l_any, c, e1, e2]
        · obtain ⟨p2, g2, d2, s2, l2, e2⟩ := ih g1 many ((room - 2) / 2) (deep - 2) (by omega) (by omega) (by omega)
          refine ⟨.un .second (.bi .pair p1 p2), g2, by simp only [P.dep]; omega, by simp only [P.sz]; omega, by simp [P.cl, *], fun n => ?_⟩
          have e1 := e1 n
          have e2 := e2 n
          rw [cf_s g.l_headed _ rfl]
          simp [H.f__law_headed, H.b__law_headed, runF, env0, g.c_l_take, g.c_l_whole, g.c_l_leaf, g.c_l_headed, g.c_l_any, c, e1, e2]
        · obtain ⟨p2, g2, d2, l2, e2⟩ := leaf_p g hM g1 many h0 (by omega)
          have z2 := leaf_sz p2 d2
          obtain ⟨p3, g3, d3, s3, l3, e3⟩ := ih g2 many ((room - 2) / 2 - 1) (deep - 2) (by omega) (by omega) (by omega)
          refine ⟨.bi .give (.bi .pair p1 p2) p3, g3, by simp only [P.dep]; omega, by simp only [P.sz]; omega, by simp [P.cl, *], fun n => ?_⟩
          have e1 := e1 n
          have e2 := e2 (n + k + 1)
          have e3 := e3 n
          rw [cf_s g.l_headed _ rfl]
          simp [H.f__law_headed, H.b__law_headed, runF, env0, g.c_l_take, g.c_l_whole, g.c_l_leaf, g.c_l_headed, g.c_l_any, c, e1, e2, e3]
        · obtain ⟨p2, g2, d2, l2, e2⟩ := leaf_p g hM g1 many h0 (by omega)
          have z2 := leaf_sz p2 d2
          obtain ⟨p3, g3, d3, s3, l3, e3⟩ := ih g2 many ((room - 2) / 2 - 1) (deep - 2) (by omega) (by omega) (by omega)
          refine ⟨.bi .plus (.whole 0) p3, g3, by simp only [P.dep]; omega, by simp only [P.sz]; omega, by simp [P.cl, *], fun n => ?_⟩
          have e1 := e1 n
          have e2 := e2 (n + k + 1)
          have e3 := e3 n
          rw [cf_s g.l_headed _ rfl]
          simp [H.f__law_headed, H.b__law_headed, runF, env0, g.c_l_take, g.c_l_whole, g.c_l_leaf, g.c_l_headed, g.c_l_any, c, e1, e2, e3]
        · obtain ⟨p2, g2, d2, l2, e2⟩ := leaf_p g hM g1 many h0 (by omega)
          have z2 := leaf_sz p2 d2
          refine ⟨.look (.un .way p1) (.whole 0) p2, g2, by simp only [P.dep]; omega, by simp only [P.sz]; omega, by have := cl_mono p1 _ (many.toNat + 1) (by omega) l1; simp [P.cl, *], fun n => ?_⟩
          have e1 := e1 n
          have e2 := e2 (n + k + 1)
          rw [cf_s g.l_headed _ rfl]
          simp [H.f__law_headed, H.b__law_headed, runF, env0, g.c_l_take, g.c_l_whole, g.c_l_leaf, g.c_l_headed, g.c_l_any, c, e1, e2]
theorem any_leaf (f : Fd) (many room deep : Int) (h0 : 0 ≤ many) (h1 : many < 500) (hc : room < 6 ∨ deep < 3) : ∃ (p : P) (f' : Fd), p.dep = 0 ∧ p.cl many.toNat = true ∧ ∀ n : Nat, cfN ft (n + 4) "_law_any" [.ref r, .int many, .int room, .int deep] (M f) = .ok p.enc false (M f') := by
  obtain ⟨p, f', d, l, e⟩ := leaf_p g hM (tn 18 f) many h0 (by omega)
  refine ⟨p, f', d, l, fun n => ?_⟩
  rw [cf_s g.l_any _ rfl]
  by_cases c1 : room < 6
  · simp [H.f__law_any, H.b__law_any, runF, env0, g.c_l_take, g.c_l_whole, g.c_l_leaf, g.c_l_headed, g.c_l_any, take_c g.l_take hM, c1, e]
  · have c2 : deep < 3 := by omega
    simp [H.f__law_any, H.b__law_any, runF, env0, g.c_l_take, g.c_l_whole, g.c_l_leaf, g.c_l_headed, g.c_l_any, take_c g.l_take hM, c1, c2, e]
theorem any_p : ∀ k : Nat, AnyOk ft M r k := by
  have key : ∀ k : Nat, AnyOk ft M r k ∧ AnyOk ft M r (k + 1) ∧ AnyOk ft M r (k + 2) := by
    have low : ∀ k : Nat, k < 3 → AnyOk ft M r k := fun k hk f many room deep h0 h1 h2 => by
      obtain ⟨p, f', d, l, e⟩ := any_leaf g hM f many room deep h0 (by omega) (by omega)
      exact ⟨p, f', by omega, by have := leaf_sz p d; omega, l, fun n => e (n + k)⟩
    intro k
    induction k with
    | zero => exact ⟨low 0 (by omega), low 1 (by omega), low 2 (by omega)⟩
    | succ k ih =>
      obtain ⟨i0, i1, i2⟩ := ih
      refine ⟨i1, i2, fun f many room deep h0 h1 h2 => ?_⟩
      by_cases hc : room < 6 ∨ deep < 3
      · obtain ⟨p, f', d, l, e⟩ := any_leaf g hM f many room deep h0 (by omega) hc
        exact ⟨p, f', by omega, by have := leaf_sz p d; omega, l, fun n => e (n + (k + 1 + 2))⟩
      · have c1 : ¬ room < 6 := by omega
        have c2 : ¬ deep < 3 := by omega
        have t0 := tk_lo (many := 18) (by decide) f
        have t1 := tk_hi (many := 18) (by decide) f
        by_cases c3 : tk 18 f < 11
        · obtain ⟨p, f', d, s, l, e⟩ := headed_p g hM (k + 1) i1 (tn 18 f) (tk 18 f) many room deep t0 c3 h0 (by omega) (by omega) (by omega)
          refine ⟨p, f', by omega, by omega, l, fun n => ?_⟩
          have e := e n
          show cfN ft ((n + (k + 1) + 5) + 1) _ _ _ = _
          rw [cf_s g.l_any _ rfl]
          simp [H.f__law_any, H.b__law_any, runF, env0, g.c_l_take, g.c_l_whole, g.c_l_leaf, g.c_l_headed, g.c_l_any, take_c g.l_take hM, c1, c2, c3, e]
        · by_cases c4 : tk 18 f < 13
          · obtain ⟨p, f', d, s, l, e⟩ := i2 (tn 18 f) (many + 1) (room - 1) (deep - 1) (by omega) (by omega) (by omega)
            refine ⟨.un .way p, f', by simp only [P.dep]; omega, by simp only [P.sz]; omega, by rw [show (many + 1).toNat = many.toNat + 1 from by omega] at l; simp [P.cl, *], fun n => ?_⟩
            have e := e n
            show cfN ft ((n + (k + 2) + 4) + 1) _ _ _ = _
            rw [cf_s g.l_any _ rfl]
            simp [H.f__law_any, H.b__law_any, runF, env0, g.c_l_take, g.c_l_whole, g.c_l_leaf, g.c_l_headed, g.c_l_any, take_c g.l_take hM, c1, c2, c3, c4, e]
          · by_cases c5 : tk 18 f < 15
            · obtain ⟨p, f', d, s, l, e⟩ := i2 (tn 18 f) many (room - 1) (deep - 1) (by omega) (by omega) (by omega)
              have cs : tk 18 f = 13 ∨ tk 18 f = 14 := by omega
              rcases cs with c | c
              · refine ⟨.un .first p, f', by simp only [P.dep]; omega, by simp only [P.sz]; omega, by simp [P.cl, *], fun n => ?_⟩
                have e := e n
                show cfN ft ((n + (k + 2) + 4) + 1) _ _ _ = _
                rw [cf_s g.l_any _ rfl]
                simp [H.f__law_any, H.b__law_any, runF, env0, g.c_l_take, g.c_l_whole, g.c_l_leaf, g.c_l_headed, g.c_l_any, take_c g.l_take hM, c1, c2, c, e]
              · refine ⟨.un .second p, f', by simp only [P.dep]; omega, by simp only [P.sz]; omega, by simp [P.cl, *], fun n => ?_⟩
                have e := e n
                show cfN ft ((n + (k + 2) + 4) + 1) _ _ _ = _
                rw [cf_s g.l_any _ rfl]
                simp [H.f__law_any, H.b__law_any, runF, env0, g.c_l_take, g.c_l_whole, g.c_l_leaf, g.c_l_headed, g.c_l_any, take_c g.l_take hM, c1, c2, c, e]
            · by_cases c6 : tk 18 f = 17
              · obtain ⟨p1, g1, d1, s1, l1, e1⟩ := i2 (tn 18 f) many ((room - 1) / 2 / 2) (deep - 1) (by omega) (by omega) (by omega)
                obtain ⟨p2, g2, d2, s2, l2, e2⟩ := i2 g1 many ((room - 1) / 2 / 2) (deep - 1) (by omega) (by omega) (by omega)
                obtain ⟨p3, g3, d3, s3, l3, e3⟩ := i2 g2 many ((room - 1) / 2 - 1) (deep - 1) (by omega) (by omega) (by omega)
                refine ⟨.look p1 p2 p3, g3, by simp only [P.dep]; omega, by simp only [P.sz]; omega, by simp [P.cl, *], fun n => ?_⟩
                have e1 := e1 n
                have e2 := e2 n
                have e3 := e3 n
                show cfN ft ((n + (k + 2) + 4) + 1) _ _ _ = _
                rw [cf_s g.l_any _ rfl]
                simp [H.f__law_any, H.b__law_any, runF, env0, g.c_l_take, g.c_l_whole, g.c_l_leaf, g.c_l_headed, g.c_l_any, take_c g.l_take hM, c1, c2, c6, e1, e2, e3]
              · obtain ⟨p1, g1, d1, s1, l1, e1⟩ := i2 (tn 18 f) many ((room - 1) / 2) (deep - 1) (by omega) (by omega) (by omega)
                obtain ⟨p2, g2, d2, s2, l2, e2⟩ := i2 g1 many ((room - 1) / 2) (deep - 1) (by omega) (by omega) (by omega)
                have cs : tk 18 f = 15 ∨ tk 18 f = 16 := by omega
                rcases cs with c | c
                · refine ⟨.bi .pair p1 p2, g2, by simp only [P.dep]; omega, by simp only [P.sz]; omega, by simp [P.cl, *], fun n => ?_⟩
                  have e1 := e1 n
                  have e2 := e2 n
                  show cfN ft ((n + (k + 2) + 4) + 1) _ _ _ = _
                  rw [cf_s g.l_any _ rfl]
                  simp [H.f__law_any, H.b__law_any, runF, env0, g.c_l_take, g.c_l_whole, g.c_l_leaf, g.c_l_headed, g.c_l_any, take_c g.l_take hM, c1, c2, c, e1, e2]
                · refine ⟨.bi .plus p1 p2, g2, by simp only [P.dep]; omega, by simp only [P.sz]; omega, by simp [P.cl, *], fun n => ?_⟩
                  have e1 := e1 n
                  have e2 := e2 n
                  show cfN ft ((n + (k + 2) + 4) + 1) _ _ _ = _
                  rw [cf_s g.l_any _ rfl]
                  simp [H.f__law_any, H.b__law_any, runF, env0, g.c_l_take, g.c_l_whole, g.c_l_leaf, g.c_l_headed, g.c_l_any, take_c g.l_take hM, c1, c2, c, e1, e2]
  exact fun k => (key k).1
end
end Ly
set_option Elab.async false
set_option linter.all false
set_option maxRecDepth 100000
set_option maxHeartbeats 4000000
/-! Ly35: places where a rule can go. -/
namespace Ly
open PySem PySem.Spec PyProof.Rows L2
theorem cf_rtf {ft : Str → Option Fn} {f : Str} {F : Fn} (h : ft f = some F) (n : Nat) {ds : List D} {m : Mem} (hl : ds.length = F.ps) {d : D} {b : Bool} {s : S} (e : evSs ft (cfN ft n) F.sh F.body ⟨env0 F ds, m⟩ = .ok (.rt d b) s) : cfN ft (n + 1) f ds m = .ok d b s.mem := by
  rw [cf_r h n hl, e]
  rfl
namespace H
def b_rule_places : List St := [
  .ret (.lcR (.v 1) (.v 1) (.call "places" [.v 0]) [.call "can_go" [.v 0, .v 1]] [1])]
def f_rule_places : Fn := ⟨1, 2, [], b_rule_places⟩
def b__law_at : List St := [
  .for_ (.v 2) .seq [.v 1] [
    .asg (.v 0) (.ix (.v 0) (.bin .add (.c (.int 1)) (.v 2)))],
  .ret (.v 0)]
def f__law_at : Fn := ⟨2, 3, [], b__law_at⟩
def b__law_places : List St := [
  .asg (.v 1) (.lst [.tup []]),
  .for_ (.v 2) .rng [.bin .sub (.blt .len [.v 0]) (.c (.int 1))] [
    .ife (.isi (.ix (.v 0) (.bin .add (.c (.int 1)) (.v 2))) .tuple) [
      .asg (.v 1) (.bin .add (.v 1) (.lc (.bin .add (.tup [.v 2]) (.v 3)) (.v 3) .seq [.call "_law_places" [.ix (.v 0) (.bin .add (.c (.int 1)) (.v 2))]] [] [3]))] []],
  .ret (.v 1)]
def f__law_places : Fn := ⟨1, 4, [], b__law_places⟩
def b__law_alike : List St := [
  .ife (.isi (.v 1) .tuple) [
    .ife (.or (.not (.isi (.v 0) .tuple)) (.cmp .ne (.blt .len [.v 0]) (.blt .len [.v 1]))) [
      .ret (.c (.bl false))] [],
    .ret (.blt .all [.lc (.call "_law_alike" [.v 2, .v 3]) (.tup [2, 3]) .zip [.v 0, .v 1] [] [2, 3]])] [],
  .ife (.isi (.v 1) .str) [
    .ret (.and (.isi (.v 0) .str) (.cmp .eq (.v 0) (.v 1)))] [],
  .ret (.and (.isi (.v 0) .int) (.and (.not (.isi (.v 0) .bool)) (.cmp .eq (.v 0) (.v 1))))]
def f__law_alike : Fn := ⟨2, 4, [], b__law_alike⟩
end H
/-- a comprehension over a list of the store that gives g of those that pass; the store stays -/
theorem lcR_filter {α : Type} {ft : Str → Option Fn} {cf : Str → List D → Mem → CR} {elt e0 : E} {tg : T} {ifs : List E} {own : List Nat} {s : S} {env : Env} {m : Mem} {r : Nat} {fr : Bool} (l : List α) (e g : α → D) (t : α → Bool)
    (h0 : evE ft cf e0 s = .ok (.ref r, fr) ⟨env, m⟩) (hm : m[r]? = some (.lst (l.map e))) (ho : ownFree env own = true) (hl : l.length ≤ 1000000)
    (h : ∀ a ∈ l, ∃ env', wipeE env' own = wipeE env own ∧ ((asgT [] tg (e a) false ⟨wipeE env own, m⟩).bind fun _ s => (evTs ft cf ifs s).bind fun b s => if b then (evE ft cf elt s).bind fun p s => .ok (some p.1) s else .ok none s) = .ok (if t a then some (g a) else none) ⟨env', m⟩) :
    evE ft cf (.lcR elt tg e0 ifs own) s = .ok (.lst ((l.filter t).map g), true) ⟨env, m⟩ := by
  have loop : ∀ (k : Nat) (pre post : List α) (acc : List D) (env1 : Env), l = pre ++ post → wipeE env1 own = wipeE env own → acc.length + post.length ≤ 1000000 → post.length < k →
      ∃ env', wipeE env' own = wipeE env own ∧ lcRL (fun s => (evTs ft cf ifs s).bind fun b s => if b then (evE ft cf elt s).bind fun p s => .ok (some p.1) s else .ok none s) tg own r k pre.length acc ⟨env1, m⟩ = .ok (acc ++ (post.filter t).map g) ⟨env', m⟩ := by
    intro k
    induction k with
    | zero => intro pre post acc env1 _ _ _ h; omega
    | succ k ih =>
      intro pre post acc env1 hpp hw hz hk
      cases post with
      | nil =>
        refine ⟨env1, hw, ?_⟩
        show (match m[r]? with
          | some (.lst xs) => match xs[pre.length]? with
            | some x => (asgT [] tg x false { env := wipeE env1 own, mem := m }).bind fun _ s1 => ((evTs ft cf ifs s1).bind fun b s => if b then (evE ft cf elt s).bind fun p s => .ok (some p.1) s else .ok none s).bind fun o s2 => match o with
              | none => lcRL _ tg own r k (pre.length + 1) acc s2
              | some d => if acc.length < sizeLine then lcRL _ tg own r k (pre.length + 1) (acc ++ [d]) s2 else .no
            | none => .ok acc ⟨env1, m⟩
          | _ => .no) = _
        rw [hm]
        have hx : (l.map e)[pre.length]? = none := by rw [hpp]; simp
        simp only [hx]
        simp
      | cons a post =>
        obtain ⟨env2, w2, e2⟩ := h a (by rw [hpp]; simp)
        have hx : (l.map e)[pre.length]? = some (e a) := by rw [hpp]; simp
        have hz : acc.length + (post.length + 1) ≤ 1000000 := hz
        have hk : post.length + 1 < k + 1 := hk
        have hpp' : l = (pre ++ [a]) ++ post := by rw [hpp]; simp
        have hlen : (pre ++ [a]).length = pre.length + 1 := by simp
        have hs : lcRL (fun s => (evTs ft cf ifs s).bind fun b s => if b then (evE ft cf elt s).bind fun p s => .ok (some p.1) s else .ok none s) tg own r (k + 1) pre.length acc ⟨env1, m⟩ = (if t a then (if acc.length < sizeLine then lcRL (fun s => (evTs ft cf ifs s).bind fun b s => if b then (evE ft cf elt s).bind fun p s => .ok (some p.1) s else .ok none s) tg own r k (pre.length + 1) (acc ++ [g a]) ⟨env2, m⟩ else .no) else lcRL (fun s => (evTs ft cf ifs s).bind fun b s => if b then (evE ft cf elt s).bind fun p s => .ok (some p.1) s else .ok none s) tg own r k (pre.length + 1) acc ⟨env2, m⟩) := by
          show (match m[r]? with
          | some (.lst xs) => match xs[pre.length]? with
            | some x => (asgT [] tg x false { env := wipeE env1 own, mem := m }).bind fun _ s1 => ((evTs ft cf ifs s1).bind fun b s => if b then (evE ft cf elt s).bind fun p s => .ok (some p.1) s else .ok none s).bind fun o s2 => match o with
              | none => lcRL _ tg own r k (pre.length + 1) acc s2
              | some d => if acc.length < sizeLine then lcRL _ tg own r k (pre.length + 1) (acc ++ [d]) s2 else .no
            | none => .ok acc ⟨env1, m⟩
          | _ => .no) = _
          rw [hm]
          simp only [hx]
          rw [hw, ← R.assoc, e2]
          cases t a <;> rfl
        rw [hs]
        cases ht : t a with
        | true =>
          rw [if_pos rfl, if_pos (sl_lt (by omega)), ← hlen]
          obtain ⟨env3, w3, e3⟩ := ih (pre ++ [a]) post (acc ++ [g a]) env2 hpp' w2 (by simp; omega) (by omega)
          exact ⟨env3, w3, by rw [e3]; simp [ht]⟩
        | false =>
          rw [if_neg Bool.false_ne_true, ← hlen]
          obtain ⟨env3, w3, e3⟩ := ih (pre ++ [a]) post acc env2 hpp' w2 (by omega) (by omega)
          exact ⟨env3, w3, by rw [e3]; simp [ht]⟩
  obtain ⟨env', w, e1⟩ := loop whFuel [] l [] env rfl rfl (by simpa using hl) (by show _ < 1048576; omega)
  show (evE ft cf e0 s).bind _ = _
  rw [h0]
  show (if ownFree env own then _ else _) = _
  rw [if_pos ho]
  show ((lcRL _ tg own r whFuel 0 [] ⟨env, m⟩).noX.bind _) = _
  rw [show lcRL _ tg own r whFuel 0 [] ⟨env, m⟩ = _ from e1]
  show R.ok (D.lst ([] ++ (l.filter t).map g), true) ⟨backE env env' own, m⟩ = _
  rw [back_eq w, back_self]
  rfl
/-- the places where a rule can go -/
def goesP (p : P) : List Pt := (allP p []).filter fun x => x.2.goes
theorem rulep_ev {ft : Str → Option Fn} (hi : ft "inner" = some H.f_inner) (hb : ft "places_behind" = some H.f_places_behind) (hp : ft "places" = some H.f_places) (ha : ft "at_place" = some H.f_at_place) (hg : ft "goes" = some H.f_goes) (hc : ft "can_go" = some H.f_can_go) (hr : ft "rule_places" = some H.f_rule_places)
    (p : P) (n : Nat) (m : Mem) (hn : p.dep < n) (hd : p.dep ≤ 900) (hz : p.sz ≤ 1000000) :
    cfN ft (n + 4) "rule_places" [p.enc] m = .ok (.lst ((goesP p).map fun x => encP x.1)) true (m ++ [.lst ((allP p []).map fun x => encP x.1)]) := by
  have e := places_ev hi hb hp p (n + 2) m (by omega) hd hz
  have c := lcR_filter (ft := ft) (cf := cfN ft (n + 3)) (elt := .v 1) (tg := .v 1) (e0 := .call "places" [.v 0]) (ifs := [.call "can_go" [.v 0, .v 1]]) (own := [1]) (s := ⟨[some (p.enc, false), none], m⟩) (env := [some (p.enc, false), none])
    (m := m ++ [.lst ((allP p []).map fun x => encP x.1)]) (r := m.length) (fr := false) (allP p []) (fun x => encP x.1) (fun x => encP x.1) (fun x => x.2.goes)
    (by simp [ev_call ft _ _ hp, show H.f_places.sh = [1] from rfl, show H.f_places.ps = 1 from rfl, e]) (by simp) rfl (by rw [allP_len]; exact hz) (fun x hx => by
      have q := allP_at p p [] rfl x hx
      have e := can_ev hi ha hg hc p x.1 n (m ++ [.lst ((allP p []).map fun x => encP x.1)])
      rw [q] at e
      refine ⟨[some (p.enc, false), some (encP x.1, false)], rfl, ?_⟩
      have e : cfN ft (n + 3) "can_go" [p.enc, encP x.1] (m ++ [.lst ((allP p []).map fun x => encP x.1)]) = .ok (.bl x.2.goes) false _ := e
      cases hgo : x.2.goes <;> rw [hgo] at e <;> simp [wipeE, ev_call ft _ _ hc, show H.f_can_go.sh = [] from rfl, show H.f_can_go.ps = 2 from rfl, e])
  refine cf_rtf hr (n + 3) rfl (s := ⟨[some (p.enc, false), none], _⟩) ?_
  show evSs ft (cfN ft (n + 3)) [] H.b_rule_places ⟨[some (p.enc, false), none], m⟩ = _
  simp [H.b_rule_places, c, goesP]
theorem lat_ev {ft : Str → Option Fn} (h : ft "_law_at" = some H.f__law_at) (p : P) (pl : List Int) (q : P) (hq : p.at pl = some q) (n : Nat) (m : Mem) : cfN ft (n + 1) "_law_at" [p.enc, encP pl] m = .ok q.enc false m := by
  have loop : ∀ (pl : List Int) (p : P) (w : D) (x : Option (D × Bool)), p.at pl = some q → ∃ x', forL (fun x s => asgT [] (.v 2) x false s) (fun s => evSs ft (cfN ft n) [] [.asg (.v 0) (.ix (.v 0) (.bin .add (.c (.int 1)) (.v 2)))] s) (pl.map D.int) ⟨[some (p.enc, false), some (w, false), x], m⟩ = .ok .nx ⟨[some (q.enc, false), some (w, false), x'], m⟩ := by
    intro pl
    induction pl with
    | nil => intro p w x h; cases h; exact ⟨x, rfl⟩
    | cons k ks ih =>
      intro p w x h
      have h : (if 0 ≤ k then (match p.inner[k.toNat]? with | some q => q.at ks | none => none) else none) = some q := h
      by_cases hk : 0 ≤ k
      · rw [if_pos hk] at h
        cases hx : p.inner[k.toNat]? with
        | none => rw [hx] at h; cases h
        | some r =>
          rw [hx] at h
          obtain ⟨x', e⟩ := ih r w (some (.int k, false)) h
          refine ⟨x', ?_⟩
          have hlf : p.leaf = false := by cases p <;> first | rfl | simp [P.inner] at hx
          have e1 : opIx p.enc (.int (1 + k)) = some r.enc := by
            rw [enc_node p hlf]
            obtain ⟨kn, rfl⟩ : ∃ kn : Nat, k = (kn : Int) := ⟨k.toNat, by omega⟩
            have hx : p.inner[kn]? = some r := by simpa using hx
            have hl := (List.getElem?_eq_some_iff.mp hx).1
            show L2.atI _ _ = _
            rw [show (1 + (kn : Int)) = ((kn + 1 : Nat) : Int) from by omega, at_nat (by simp; omega)]
            simp [hx]
          rw [← e, List.map_cons, fo_s]
          simp [e1]
      · rw [if_neg hk] at h; cases h
  obtain ⟨x', e⟩ := loop pl p (encP pl) none hq
  refine cf_rt h n rfl (s := ⟨[some (q.enc, false), some (encP pl, false), x'], m⟩) ?_
  show evSs ft (cfN ft n) [] H.b__law_at ⟨[some (p.enc, false), some (encP pl, false), none], m⟩ = _
  unfold H.b__law_at
  rw [ss_cons, for_at (ds := [encP pl]) (s1 := ⟨[some (p.enc, false), some (encP pl, false), none], m⟩) (by simp) (xs := pl.map D.int) rfl, e]
  simp
def relP : P → List (List Int)
  | .name _ => [[]]
  | .whole _ => [[]]
  | .un _ a => [] :: (relP a).map (0 :: ·)
  | .bi _ a b => [] :: ((relP a).map (0 :: ·) ++ (relP b).map (1 :: ·))
  | .look a b c => [] :: ((relP a).map (0 :: ·) ++ (relP b).map (1 :: ·) ++ (relP c).map (2 :: ·))
theorem rel_all : ∀ (p : P) (pl : List Int), (allP p pl).map (·.1) = (relP p).map (pl ++ ·)
  | .name i, pl => by simp [allP, relP]
  | .whole i, pl => by simp [allP, relP]
  | .un u a, pl => by simp [allP, relP, rel_all a, Function.comp_def]
  | .bi u a b, pl => by simp [allP, relP, rel_all a, rel_all b, Function.comp_def]
  | .look a b c, pl => by simp [allP, relP, rel_all a, rel_all b, rel_all c, Function.comp_def]
theorem rel_len (p : P) : (relP p).length = p.sz := by
  have := congrArg List.length (rel_all p [])
  simp [allP_len] at this
  omega
theorem fo_nx {tgt : D → S → R Unit} {body : S → R Fl} {x : D} {xs : List D} {s s' : S} (h : ((tgt x s).bind fun _ s => body s) = .ok .nx s') : forL tgt body (x :: xs) s = forL tgt body xs s' := by
  rw [fo_s, ← R.assoc, h]
  rfl
theorem lplaces_ev {ft : Str → Option Fn} (h : ft "_law_places" = some H.f__law_places) : ∀ (n : Nat) (p : P) (m : Mem), p.dep < n → p.dep ≤ 900 → p.sz ≤ 1000000 → cfN ft n "_law_places" [p.enc] m = .ok (.lst ((relP p).map encP)) true m := by
  intro n
  induction n with
  | zero => intro p m h; omega
  | succ n ih =>
    intro p m hn hd hz
    have cp : ∀ (cf : Str → List D → Mem → CR) (s : S) (es : List E), evE ft cf (.call "_law_places" es) s = (evAs ft cf [] 0 es s).bind fun ds s => if ds.length = 1 then ofCR s (cf "_law_places" ds s.mem) else .no := fun cf s es => ev_call ft cf s h es
    have step : ∀ (k : Int) (q : P) (acc : List D) (x2 : Option (D × Bool)), opIx p.enc (.int (1 + k)) = some q.enc → q.dep < n → q.dep ≤ 900 → acc.length + q.sz ≤ 1000000 → (∀ pl ∈ relP q, pl.length ≤ 1000) →
        ((asgT [] (.v 2) (.int k) false ⟨[some (p.enc, false), some (.lst acc, true), x2, none], m⟩).bind fun _ s => evSs ft (cfN ft n) [] [.ife (.isi (.ix (.v 0) (.bin .add (.c (.int 1)) (.v 2))) .tuple) [
      .asg (.v 1) (.bin .add (.v 1) (.lc (.bin .add (.tup [.v 2]) (.v 3)) (.v 3) .seq [.call "_law_places" [.ix (.v 0) (.bin .add (.c (.int 1)) (.v 2))]] [] [3]))] []] s) = .ok .nx ⟨[some (p.enc, false), some (.lst (acc ++ (relP q).map fun pl => encP (k :: pl)), true), some (.int k, false), none], m⟩ := fun k q acc x2 hix h1 h2 h3 h4 => by
      have hq := ih q m h1 h2 (by omega)
      have c := lc_mapA (ft := ft) (cf := cfN ft n) (elt := .bin .add (.tup [.v 2]) (.v 3)) (tg := .v 3) (k := .seq) (its := [.call "_law_places" [.ix (.v 0) (.bin .add (.c (.int 1)) (.v 2))]]) (own := [3]) (s := ⟨[some (p.enc, false), some (.lst acc, true), some (.int k, false), none], m⟩) (env := [some (p.enc, false), some (.lst acc, true), some (.int k, false), none]) (m := m)
        (relP q) encP (fun pl => encP (k :: pl)) (by simp [cp, hix, hq]) rfl (by rw [rel_len]; exact sl_le (by omega)) fun pl hp => by
          have z := h4 pl hp
          have z1 : pl.length + 1 ≤ sizeLine := sl_le (by omega)
          refine ⟨[some (p.enc, false), some (.lst acc, true), some (.int k, false), some (encP pl, false)], false, rfl, ?_⟩
          simp [wipeE]
          unfold encP
          rw [b_addT, if_pos (by simp; omega)]
          rfl
      have z2 : acc.length + (relP q).length ≤ sizeLine := by rw [rel_len]; exact sl_le (by omega)
      simp [hix, c, z2]
    have lens : ∀ (q : P) (pl : List Int), pl ∈ relP q → q.dep ≤ 900 → pl.length ≤ 1000 := fun q pl hp hq => by
      obtain ⟨x, hx, e⟩ := List.mem_map.mp (show pl ∈ (allP q []).map (·.1) by rw [rel_all]; simpa using hp)
      have h1 := allP_at q q [] rfl x hx
      have h2 := at_len x.1 q x.2 h1
      rw [← e]
      omega
    have fin : ∀ (xs : List D), xs = (relP p).map encP → ∀ x2, evSs ft (cfN ft n) [] [.ret (.v 1)] ⟨[some (p.enc, false), some (.lst xs, true), x2, none], m⟩ = .ok (.rt (.lst ((relP p).map encP)) true) ⟨[some (p.enc, false), some (.lst xs, true), x2, none], m⟩ := fun xs hx x2 => by
      subst hx
      simp
    have done : ∀ (x2 : Option (D × Bool)) (ks : List D) (hw : ∃ c : Int, evEs ft (cfN ft n) [.bin .sub (.blt .len [.v 0]) (.c (.int 1))] ⟨[some (p.enc, false), some (.lst [.tup []], true), none, none], m⟩ = .ok [.int c] ⟨[some (p.enc, false), some (.lst [.tup []], true), none, none], m⟩ ∧ walkD .rng [.int c] = some ks),
        forL (fun x s => asgT [] (.v 2) x false s) (fun s => evSs ft (cfN ft n) [] [.ife (.isi (.ix (.v 0) (.bin .add (.c (.int 1)) (.v 2))) .tuple) [
      .asg (.v 1) (.bin .add (.v 1) (.lc (.bin .add (.tup [.v 2]) (.v 3)) (.v 3) .seq [.call "_law_places" [.ix (.v 0) (.bin .add (.c (.int 1)) (.v 2))]] [] [3]))] []] s) ks ⟨[some (p.enc, false), some (.lst [.tup []], true), none, none], m⟩ = .ok .nx ⟨[some (p.enc, false), some (.lst ((relP p).map encP), true), x2, none], m⟩ →
        cfN ft (n + 1) "_law_places" [p.enc] m = .ok (.lst ((relP p).map encP)) true m := fun x2 ks ⟨c, hw, hk⟩ hl => by
      refine cf_rtf h n rfl (s := ⟨[some (p.enc, false), some (.lst ((relP p).map encP), true), x2, none], m⟩) ?_
      have f1 : evS ft (cfN ft n) [] (.for_ (.v 2) .rng [.bin .sub (.blt .len [.v 0]) (.c (.int 1))] [
    .ife (.isi (.ix (.v 0) (.bin .add (.c (.int 1)) (.v 2))) .tuple) [
      .asg (.v 1) (.bin .add (.v 1) (.lc (.bin .add (.tup [.v 2]) (.v 3)) (.v 3) .seq [.call "_law_places" [.ix (.v 0) (.bin .add (.c (.int 1)) (.v 2))]] [] [3]))] []]) ⟨[some (p.enc, false), some (.lst [.tup []], true), none, none], m⟩ = _ := (for_at hw hk).trans hl
      refine (ss_next (a := [.asg (.v 1) (.lst [.tup []]), .for_ (.v 2) .rng [.bin .sub (.blt .len [.v 0]) (.c (.int 1))] [
    .ife (.isi (.ix (.v 0) (.bin .add (.c (.int 1)) (.v 2))) .tuple) [
      .asg (.v 1) (.bin .add (.v 1) (.lc (.bin .add (.tup [.v 2]) (.v 3)) (.v 3) .seq [.call "_law_places" [.ix (.v 0) (.bin .add (.c (.int 1)) (.v 2))]] [] [3]))] []]]) ?_).trans (fin _ rfl x2)
      show evSs ft (cfN ft n) [] _ ⟨[some (p.enc, false), none, none, none], m⟩ = _
      simp [f1]
    have len0 : (encP []) = .tup [] := rfl
    cases p with
    | name i =>
      refine done (some (.int 0, false)) [.int 0] ⟨1, by simp, rfl⟩ ?_
      refine (fo_nx (s' := ⟨[some ((P.name i).enc, false), some (.lst [.tup []], true), some (.int 0, false), none], m⟩) ?_).trans rfl
      simp
    | whole i =>
      refine done (some (.int 0, false)) [.int 0] ⟨1, by simp, rfl⟩ ?_
      refine (fo_nx (s' := ⟨[some ((P.whole i).enc, false), some (.lst [.tup []], true), some (.int 0, false), none], m⟩) ?_).trans rfl
      simp
    | un w a =>
      have hn : a.dep + 1 < n + 1 := hn
      have hd : a.dep + 1 ≤ 900 := hd
      have hz : a.sz + 1 ≤ 1000000 := hz
      refine done (some (.int 0, false)) [.int 0] ⟨1, by simp [enc_un], rfl⟩ ?_
      refine (fo_nx (step 0 a [.tup []] none (by simp [enc_un]) (by omega) (by omega) (by simp; omega) fun pl hp => lens a pl hp (by omega))).trans ?_
      simp [relP, encP, Function.comp_def]
    | bi w a b =>
      have hn : max a.dep b.dep + 1 < n + 1 := hn
      have hd : max a.dep b.dep + 1 ≤ 900 := hd
      have hz : a.sz + b.sz + 1 ≤ 1000000 := hz
      refine done (some (.int 1, false)) [.int 0, .int 1] ⟨2, by simp [enc_bi], rfl⟩ ?_
      refine (fo_nx (step 0 a [.tup []] none (by simp [enc_bi]) (by omega) (by omega) (by simp; omega) fun pl hp => lens a pl hp (by omega))).trans ?_
      refine (fo_nx (step 1 b _ _ (by simp [enc_bi]) (by omega) (by omega) (by simp [rel_len]; omega) fun pl hp => lens b pl hp (by omega))).trans ?_
      simp [relP, encP, Function.comp_def]
    | look a b c =>
      have hn : max a.dep (max b.dep c.dep) + 1 < n + 1 := hn
      have hd : max a.dep (max b.dep c.dep) + 1 ≤ 900 := hd
      have hz : a.sz + b.sz + c.sz + 1 ≤ 1000000 := hz
      refine done (some (.int 2, false)) [.int 0, .int 1, .int 2] ⟨3, by simp, rfl⟩ ?_
      refine (fo_nx (step 0 a [.tup []] none (by simp) (by omega) (by omega) (by simp; omega) fun pl hp => lens a pl hp (by omega))).trans ?_
      refine (fo_nx (step 1 b _ _ (by simp) (by omega) (by omega) (by simp [rel_len]; omega) fun pl hp => lens b pl hp (by omega))).trans ?_
      refine (fo_nx (step 2 c _ _ (by simp) (by omega) (by omega) (by simp [rel_len]; omega) fun pl hp => lens c pl hp (by omega))).trans ?_
      simp [relP, encP, Function.comp_def]
mutual
/-- tuples of texts and whole numbers -/
def D.pt : D → Bool
  | .int _ => true
  | .str _ => true
  | .tup xs => decide (xs.length ≤ 1000000) && D.pts xs
  | _ => false
def D.pts : List D → Bool
  | [] => true
  | x :: xs => D.pt x && D.pts xs
end
theorem pts_mem : ∀ (xs : List D), D.pts xs = true → ∀ x ∈ xs, D.pt x = true
  | y :: ys, h, x, hx => by
    obtain ⟨h1, h2⟩ := Bool.and_eq_true_iff.mp (show (D.pt y && D.pts ys) = true from h)
    rcases List.mem_cons.mp hx with rfl | hx
    · exact h1
    · exact pts_mem ys h2 x hx
theorem deps_mem : ∀ (xs : List D), ∀ x ∈ xs, D.dep x ≤ D.deps xs
  | y :: ys, x, hx => by
    show _ ≤ max (D.dep y) (D.deps ys)
    rcases List.mem_cons.mp hx with rfl | hx
    · omega
    · have := deps_mem ys x hx; omega
theorem bls_all {α : Type} : ∀ (l : List α), D.bls? (l.map fun _ => D.bl true) = some (l.map fun _ => true)
  | [] => rfl
  | i :: l => by
    show (D.bls? (l.map fun _ => D.bl true)).map (true :: ·) = _
    rw [bls_all l]
    rfl
theorem zip_same (l : List D) : zipD l l = l.map fun i => .tup [i, i] := by
  induction l with
  | nil => rfl
  | cons i l ih => simp [zipD, ih]
theorem alike_refl {ft : Str → Option Fn} (h : ft "_law_alike" = some H.f__law_alike) : ∀ (n : Nat) (d : D) (m : Mem), d.pt = true → d.dep < n → cfN ft n "_law_alike" [d, d] m = .ok (.bl true) false m := by
  intro n
  induction n with
  | zero => intro d m _ h; omega
  | succ n ih =>
    intro d m hp hd
    have cp : ∀ (cf : Str → List D → Mem → CR) (s : S) (es : List E), evE ft cf (.call "_law_alike" es) s = (evAs ft cf [] 0 es s).bind fun ds s => if ds.length = 2 then ofCR s (cf "_law_alike" ds s.mem) else .no := fun cf s es => ev_call ft cf s h es
    cases d with
    | int i =>
      rw [cf_s h _ rfl]
      simp [H.f__law_alike, H.b__law_alike, runF, env0]
    | str x =>
      rw [cf_s h _ rfl]
      simp [H.f__law_alike, H.b__law_alike, runF, env0]
    | tup xs =>
      obtain ⟨h1, h2⟩ := Bool.and_eq_true_iff.mp (show (decide (xs.length ≤ 1000000) && D.pts xs) = true from hp)
      have h1 := of_decide_eq_true h1
      have hd : D.deps xs + 1 < n + 1 := by simp [D.dep] at hd; omega
      have c := lc_mapA (ft := ft) (cf := cfN ft n) (elt := .call "_law_alike" [.v 2, .v 3]) (tg := .tup [2, 3]) (k := .zip) (its := [.v 0, .v 1]) (own := [2, 3])
        (s := ⟨[some (.tup xs, false), some (.tup xs, false), none, none], m⟩) (env := [some (.tup xs, false), some (.tup xs, false), none, none]) (m := m) xs (fun x => .tup [x, x]) (fun _ => .bl true)
        (by simp [walkD, zip_same]) rfl (sl_le (by omega)) (fun x hx => by
          refine ⟨[some (.tup xs, false), some (.tup xs, false), some (x, false), some (x, false)], false, rfl, ?_⟩
          simp [wipeE, asgT, asgs, cp, ih x m (pts_mem xs h2 x hx) (by have := deps_mem xs x hx; omega)])
      rw [cf_s h _ rfl]
      simp [H.f__law_alike, H.b__law_alike, runF, env0, c, bls_all]
    | _ => cases hp
end Ly
set_option Elab.async false
set_option linter.all false
set_option maxRecDepth 100000
set_option maxHeartbeats 4000000
/-! Ly36: what is wanted of a run, step by step. -/
namespace Ly
open PySem PySem.Spec PyProof.Rows L2
@[simp] theorem wp_ok {α : Type} (a : α) (s : S) (W : α → S → Prop) (Z : Str → List D → S → Prop) : (R.ok a s).wp W Z = W a s := id rfl
@[simp] theorem wp_no {α : Type} (W : α → S → Prop) (Z : Str → List D → S → Prop) : (R.no : R α).wp W Z = False := id rfl
theorem toB_b {α : Type} (m : R α) (f : α → S → R (D × Bool)) : toB (m.bind f) = m.bind fun a s => toB (f a s) := by
  cases m <;> rfl
theorem toB_call (s : S) (r : CR) : toB (ofCR s r) = (ofCR s r).bind fun p s => toB (.ok p s) := by
  cases r <;> rfl
theorem toB_if {c : Prop} [Decidable c] (a b : R (D × Bool)) : toB (if c then a else b) = if c then toB a else toB b := by
  by_cases h : c <;> simp [h]
theorem w_two {a b P Q : Prop} (h1 : a → P) (h2 : b → Q) : (a → P) ∧ (b → Q) := ⟨h1, h2⟩
@[simp] theorem or_one {c : Prop} [Decidable c] {b fr : Bool} {s : S} : (if c then R.ok (D.bl true, fr) s else R.ok (D.bl b, fr) s) = R.ok (D.bl (decide c || b), fr) s := by
  by_cases h : c <;> simp [h]
@[simp] theorem and_one {c : Prop} [Decidable c] {b fr : Bool} {s : S} : (if c then R.ok (D.bl b, fr) s else R.ok (D.bl false, fr) s) = R.ok (D.bl (decide c && b), fr) s := by
  by_cases h : c <;> simp [h]
def CR.wp (r : CR) (W : D → Bool → Mem → Prop) (X : Str → List D → Mem → Prop) : Prop := match r with
  | .ok d fr m => W d fr m
  | .exc c fs m => X c fs m
  | .no => False
section
variable (ft : Str → Option Fn) (cf : Str → List D → Mem → CR) (s : S) (ks vs : List E) (r : R (D × Bool)) (d : D)
@[simp] theorem ev_dct : evE ft cf (.dct ks vs) s = (evEs ft cf ks s).bind fun dk s => (evEs ft cf vs s).bind fun dv s => .ok (.dct dk dv, true) s := id rfl
@[simp] theorem opO_dct : opO (.dct ks vs) r s = r.bind fun p s => .ok p.1 s := id rfl
@[simp] theorem seeE_dct : seeE s (.dct ks vs) d = deref s.mem d := id rfl
@[simp] theorem retV_dct : retV (.dct ks vs) r s = r := id rfl
@[simp] theorem x_dct (dk dv : List D) (k : D) : opIx (.dct dk dv) k = if kfit k dk dv then dLook k dk dv else none := by cases k <;> rfl
end
abbrev NoX : Str → List D → S → Prop := fun _ _ _ => False
abbrev NoC : Str → List D → Mem → Prop := fun _ _ _ => False
theorem w_abs {α : Type} {m : R α} {Q : α → S → Prop} {Z : Str → List D → S → Prop} (h : ∀ Q' : α → S → Prop, (∀ a s, Q a s → Q' a s) → m.wp Q' Z) : m.wp Q Z := h Q fun _ _ q => q
theorem wp_mn {α : Type} {m : R α} {Q Q' : α → S → Prop} {Z : Str → List D → S → Prop} (h : m.wp Q Z) (q : ∀ a s, Q a s → Q' a s) : m.wp Q' Z := by
  cases m with
  | ok a s => exact q _ _ h
  | exc c fs s => exact h
  | no => exact h
theorem w_if {α : Type} {c : Prop} [Decidable c] {a b : R α} {Q : α → S → Prop} {Z : Str → List D → S → Prop} (h1 : c → a.wp Q Z) (h2 : ¬ c → b.wp Q Z) : (if c then a else b).wp Q Z := by
  by_cases h : c
  · rw [if_pos h]; exact h1 h
  · rw [if_neg h]; exact h2 h
theorem w_ifb {α β : Type} {c : Prop} [Decidable c] {a b : R β} {k : β → S → R α} {Q : α → S → Prop} {Z : Str → List D → S → Prop} (h1 : c → (a.bind k).wp Q Z) (h2 : ¬ c → (b.bind k).wp Q Z) : ((if c then a else b).bind k).wp Q Z := by
  by_cases h : c
  · rw [if_pos h]; exact h1 h
  · rw [if_neg h]; exact h2 h
theorem w_call {α : Type} {r : CR} {s : S} {W : D → Bool → Mem → Prop} {X : Str → List D → Mem → Prop} {k : D × Bool → S → R α} {Q : α → S → Prop} {Z : Str → List D → S → Prop} (h : r.wp W X) (hk : ∀ d fr m, W d fr m → (k (d, fr) ⟨s.env, m⟩).wp Q Z) (hx : ∀ c fs m, X c fs m → Z c fs ⟨s.env, m⟩) : ((ofCR s r).bind k).wp Q Z := by
  cases r with
  | ok d fr m => exact hk _ _ _ h
  | exc c fs m => exact hx _ _ _ h
  | no => exact h
section
variable {ft : Str → Option Fn} {cf : Str → List D → Mem → CR} {sh : List Nat} {s : S} {sts : List St} {Q : Fl → S → Prop} {Z : Str → List D → S → Prop}
theorem w_nil (h : Q .nx s) : (evSs ft cf sh [] s).wp Q Z := h
theorem w_asg {t : T} {e : E} (h : (evE ft cf e s).wp (fun p s => (asgT sh t p.1 p.2 s).wp (fun _ s => (evSs ft cf sh sts s).wp Q Z) Z) Z) : (evSs ft cf sh (.asg t e :: sts) s).wp Q Z := by
  rw [ss_cons, st_asg, R.assoc, wp_bind]
  refine wp_mn h fun p s q => ?_
  rw [R.assoc, wp_bind]
  exact q
theorem w_ex {e : E} (h : (evE ft cf e s).wp (fun _ s => (evSs ft cf sh sts s).wp Q Z) Z) : (evSs ft cf sh (.ex e :: sts) s).wp Q Z := by
  rw [ss_cons, st_ex, R.assoc, wp_bind]
  exact h
theorem w_ret {e : E} (h : (retV e (evE ft cf e s) s).wp (fun p s => Q (.rt p.1 p.2) s) Z) : (evSs ft cf sh (.ret e :: sts) s).wp Q Z := by
  rw [ss_cons, st_ret, R.assoc, wp_bind]
  exact h
theorem w_ife {c : E} {a b : List St} (h : (toB (evE ft cf c s)).wp (fun k s => (k = true → (evSs ft cf sh (a ++ sts) s).wp Q Z) ∧ (k = false → (evSs ft cf sh (b ++ sts) s).wp Q Z)) Z) : (evSs ft cf sh (.ife c a b :: sts) s).wp Q Z := by
  rw [ss_cons, st_ife, R.assoc, wp_bind]
  refine wp_mn h fun k s q => ?_
  cases k with
  | true =>
    have := q.1 rfl
    rw [ss_app] at this
    exact this
  | false =>
    have := q.2 rfl
    rw [ss_app] at this
    exact this
theorem w_st {st : St} (h : (evS ft cf sh st s).wp (fun f s => match f with
    | .nx => (evSs ft cf sh sts s).wp Q Z
    | f => Q f s) Z) : (evSs ft cf sh (st :: sts) s).wp Q Z := by
  rw [ss_cons, wp_bind]
  refine wp_mn h fun f s q => ?_
  cases f <;> exact q
end
theorem w_run {ft : Str → Option Fn} {f : Str} {F : Fn} (h : ft f = some F) {n : Nat} {ds : List D} {m : Mem} (hl : ds.length = F.ps) {W : D → Bool → Mem → Prop} {X : Str → List D → Mem → Prop}
    (hw : (evSs ft (cfN ft n) F.sh F.body ⟨env0 F ds, m⟩).wp (fun fl s => match fl with | .rt d fr => W d fr s.mem | .nx => W .non false s.mem | _ => False) (fun c fs s => X c fs s.mem)) : (cfN ft (n + 1) f ds m).wp W X := by
  rw [cf_r h n hl]
  cases e : evSs ft (cfN ft n) F.sh F.body ⟨env0 F ds, m⟩ with
  | ok fl s =>
    rw [e] at hw
    cases fl <;> exact hw
  | exc c fs s => rw [e] at hw; exact hw
  | no => rw [e] at hw; exact hw.elim
/-! what is drawn -/
def Gen (ft : Str → Option Fn) (M : Fd → Mem) (r : Nat) (f : Str) (args : List D) (N : Nat) (Pd : D → Prop) : Prop := ∀ n, N ≤ n → ∀ fd, (cfN ft n f (.ref r :: args) (M fd)).wp (fun d fr m => fr = false ∧ ∃ fd', m = M fd' ∧ Pd d) NoC
section
variable {ft : Str → Option Fn} {M : Fd → Mem} {r : Nat} {f : Str} {args : List D} {n N : Nat} {Pd : D → Prop}
theorem Gen.w (g : Gen ft M r f args N Pd) (hn : N ≤ n) {α : Type} {env : Env} {fd : Fd} {k : D × Bool → S → R α} {Q : α → S → Prop} {Z : Str → List D → S → Prop} (hk : ∀ d fd', Pd d → (k (d, false) ⟨env, M fd'⟩).wp Q Z) :
    ((ofCR ⟨env, M fd⟩ (cfN ft n f (.ref r :: args) (M fd))).bind k).wp Q Z := by
  refine w_call (g n hn fd) (fun d fr m h => ?_) fun c fs m h => h.elim
  obtain ⟨rfl, fd', rfl, hp⟩ := h
  exact hk d fd' hp
theorem Gen.w0 (g : Gen ft M r f args N Pd) (hn : N ≤ n) {env : Env} {fd : Fd} {Q : D × Bool → S → Prop} {Z : Str → List D → S → Prop} (hk : ∀ d fd', Pd d → Q (d, false) ⟨env, M fd'⟩) :
    (ofCR ⟨env, M fd⟩ (cfN ft n f (.ref r :: args) (M fd))).wp Q Z := by
  have h := g n hn fd
  cases e : cfN ft n f (.ref r :: args) (M fd) with
  | ok d fr m =>
    rw [e] at h
    obtain ⟨rfl, fd', rfl, hp⟩ := h
    exact hk d fd' hp
  | exc c fs m => rw [e] at h; exact h.elim
  | no => rw [e] at h; exact h.elim
theorem Gen.mono {N' : Nat} {P' : D → Prop} (g : Gen ft M r f args N Pd) (hn : N ≤ N') (h : ∀ d, Pd d → P' d) : Gen ft M r f args N' P' := fun n hn' fd => by
  have h2 := g n (Nat.le_trans hn hn') fd
  cases e : cfN ft n f (.ref r :: args) (M fd) with
  | ok d fr m =>
    rw [e] at h2
    obtain ⟨a, fd', b, hp⟩ := h2
    exact ⟨a, fd', b, h _ hp⟩
  | exc c fs m => rw [e] at h2; exact h2.elim
  | no => rw [e] at h2; exact h2.elim
/-- a draw's end, told -/
theorem Gen.ex (g : Gen ft M r f args N Pd) (hn : N ≤ n) (fd : Fd) : ∃ d fd', Pd d ∧ cfN ft n f (.ref r :: args) (M fd) = .ok d false (M fd') := by
  have h := g n hn fd
  cases e : cfN ft n f (.ref r :: args) (M fd) with
  | ok d fr m =>
    rw [e] at h
    obtain ⟨rfl, fd', rfl, hp⟩ := h
    exact ⟨d, fd', hp, rfl⟩
  | exc c fs m => rw [e] at h; exact h.elim
  | no => rw [e] at h; exact h.elim
theorem Gen.of {F : Fn} (h : ft f = some F) (hl : args.length + 1 = F.ps) (hw : ∀ n, N ≤ n → ∀ fd, (evSs ft (cfN ft n) F.sh F.body ⟨env0 F (.ref r :: args), M fd⟩).wp (fun fl s => match fl with | .rt d fr => fr = false ∧ ∃ fd', s.mem = M fd' ∧ Pd d | .nx => ∃ fd', s.mem = M fd' ∧ Pd .non | _ => False) NoX) : Gen ft M r f args (N + 1) Pd := fun n hn fd => by
  obtain ⟨n, rfl⟩ : ∃ j, n = j + 1 := ⟨n - 1, by omega⟩
  refine w_run h (by simpa using hl) ?_
  have q := hw n (by omega) fd
  cases e : evSs ft (cfN ft n) F.sh F.body ⟨env0 F (.ref r :: args), M fd⟩ with
  | ok fl s =>
    rw [e] at q
    cases fl <;> first | exact q | exact ⟨rfl, q⟩
  | exc c fs s => rw [e] at q; exact q.elim
  | no => rw [e] at q; exact q.elim
theorem Gen.of_ex (hw : ∀ n, N ≤ n → ∀ fd, ∃ d fd', Pd d ∧ cfN ft n f (.ref r :: args) (M fd) = .ok d false (M fd')) : Gen ft M r f args N Pd := fun n hn fd => by
  obtain ⟨d, fd', hp, e⟩ := hw n hn fd
  rw [e]
  exact ⟨rfl, fd', rfl, hp⟩
end
theorem Gen.take {ft : Str → Option Fn} (h : ft "_law_take" = some H.f__law_take) {M : Fd → Mem} {r : Nat} (hM : Cell M r) (many : Int) (h0 : 0 < many) (h1 : many < 18446744073709551616) : Gen ft M r "_law_take" [.int many] 1 fun d => ∃ v : Int, d = .int v ∧ 0 ≤ v ∧ v < many := fun n hn fd => by
  obtain ⟨n, rfl⟩ : ∃ j, n = j + 1 := ⟨n - 1, by omega⟩
  rw [take_c h hM n fd many h0 h1]
  exact ⟨rfl, _, rfl, _, rfl, tk_lo h0 fd, tk_hi h0 fd⟩
theorem Gen.take1 {ft : Str → Option Fn} (h : ft "_law_take" = some H.f__law_take) {M : Fd → Mem} {r : Nat} (hM : Cell M r) : Gen ft M r "_law_take" [.int 1] 1 fun d => d = .int 0 :=
  (Gen.take h hM 1 (by decide) (by decide)).mono (Nat.le_refl _) fun d ⟨v, e, h0, h1⟩ => by rw [e, show v = 0 by omega]
theorem Gen.take2 {ft : Str → Option Fn} (h : ft "_law_take" = some H.f__law_take) {M : Fd → Mem} {r : Nat} (hM : Cell M r) : Gen ft M r "_law_take" [.int 2] 1 fun d => d = .int 0 ∨ d = .int 1 :=
  (Gen.take h hM 2 (by decide) (by decide)).mono (Nat.le_refl _) fun d ⟨v, e, h0, h1⟩ => by
    subst e
    have : v = 0 ∨ v = 1 := by omega
    rcases this with rfl | rfl <;> simp
theorem Gen.take3 {ft : Str → Option Fn} (h : ft "_law_take" = some H.f__law_take) {M : Fd → Mem} {r : Nat} (hM : Cell M r) : Gen ft M r "_law_take" [.int 3] 1 fun d => d = .int 0 ∨ d = .int 1 ∨ d = .int 2 :=
  (Gen.take h hM 3 (by decide) (by decide)).mono (Nat.le_refl _) fun d ⟨v, e, h0, h1⟩ => by
    subst e
    have : v = 0 ∨ v = 1 ∨ v = 2 := by omega
    rcases this with rfl | rfl | rfl <;> simp
theorem Gen.take4 {ft : Str → Option Fn} (h : ft "_law_take" = some H.f__law_take) {M : Fd → Mem} {r : Nat} (hM : Cell M r) : Gen ft M r "_law_take" [.int 4] 1 fun d => d = .int 0 ∨ d = .int 1 ∨ d = .int 2 ∨ d = .int 3 :=
  (Gen.take h hM 4 (by decide) (by decide)).mono (Nat.le_refl _) fun d ⟨v, e, h0, h1⟩ => by
    subst e
    have : v = 0 ∨ v = 1 ∨ v = 2 ∨ v = 3 := by omega
    rcases this with rfl | rfl | rfl | rfl <;> simp
theorem w_atI {α β : Type} {l : List D} {i : Int} {f : D → β} {s : S} {k : β → S → R α} {Q : α → S → Prop} {Z : Str → List D → S → Prop} (h0 : 0 ≤ i) (h1 : i < l.length) (h : ∀ d ∈ l, (k (f d) s).wp Q Z) : ((liftO s ((L2.atI l i).map f)).bind k).wp Q Z := by
  obtain ⟨j, rfl⟩ : ∃ j : Nat, i = (j : Int) := ⟨i.toNat, by omega⟩
  have hj : j < l.length := by omega
  rw [at_nat hj, List.getElem?_eq_getElem hj]
  exact h _ (List.getElem_mem hj)
theorem w_atI0 {β : Type} {l : List D} {i : Int} {f : D → β} {s : S} {Q : β → S → Prop} {Z : Str → List D → S → Prop} (h0 : 0 ≤ i) (h1 : i < l.length) (h : ∀ d ∈ l, Q (f d) s) : (liftO s ((L2.atI l i).map f)).wp Q Z := by
  obtain ⟨j, rfl⟩ : ∃ j : Nat, i = (j : Int) := ⟨i.toNat, by omega⟩
  have hj : j < l.length := by omega
  rw [at_nat hj, List.getElem?_eq_getElem hj]
  exact h _ (List.getElem_mem hj)
/-- an item of a written row at a drawn place -/
theorem atI_mem {l : List D} {i : Int} {Q : D → Prop} (h0 : 0 ≤ i) (h1 : i < l.length) (h : ∀ d ∈ l, Q d) : ∃ d, L2.atI l i = some d ∧ Q d := by
  obtain ⟨j, rfl⟩ : ∃ j : Nat, i = (j : Int) := ⟨i.toNat, by omega⟩
  have hj : j < l.length := by omega
  exact ⟨l[j], by rw [at_nat hj, List.getElem?_eq_getElem hj], h _ (List.getElem_mem hj)⟩
/-- a comprehension that gives g of each, by what is wanted of a turn -/
theorem lc_w {α : Type} {ft : Str → Option Fn} {cf : Str → List D → Mem → CR} {elt : E} {tg : T} {k : IK} {its : List E} {own : List Nat} {s : S} {env : Env} {m : Mem} (l : List α) (e g : α → D)
    (h0 : ((evEs ft cf its s).bind fun ds s => liftO s (walkD k ds)) = .ok (l.map e) ⟨env, m⟩) (ho : ownFree env own = true) (hl : l.length ≤ sizeLine)
    (h : ∀ a ∈ l, ((asgT [] tg (e a) false ⟨wipeE env own, m⟩).bind fun _ s => evE ft cf elt s).wp (fun p s' => p.1 = g a ∧ wipeE s'.env own = wipeE env own ∧ s'.mem = m) NoX) :
    evE ft cf (.lc elt tg k its [] own) s = .ok (.lst (l.map g), true) ⟨env, m⟩ := lc_mapA l e g h0 ho hl fun a ha => by
  have q := h a ha
  cases e1 : (asgT [] tg (e a) false ⟨wipeE env own, m⟩).bind fun _ s => evE ft cf elt s with
  | ok p s' =>
    rw [e1] at q
    obtain ⟨q1, q2, q3⟩ := q
    obtain ⟨d, fr⟩ := p
    obtain ⟨env', m'⟩ := s'
    cases q3
    cases q1
    exact ⟨env', fr, q2, rfl⟩
  | exc c fs s' => rw [e1] at q; exact q.elim
  | no => rw [e1] at q; exact q.elim
/-- .. that tests each -/
theorem lc_wf {α : Type} {ft : Str → Option Fn} {cf : Str → List D → Mem → CR} {elt : E} {tg : T} {k : IK} {its ifs : List E} {own : List Nat} {s : S} {env : Env} {m : Mem} (l : List α) (e g : α → D) (t : α → Bool)
    (h0 : ((evEs ft cf its s).bind fun ds s => liftO s (walkD k ds)) = .ok (l.map e) ⟨env, m⟩) (ho : ownFree env own = true) (hl : l.length ≤ sizeLine)
    (h : ∀ a ∈ l, ((asgT [] tg (e a) false ⟨wipeE env own, m⟩).bind fun _ s => (evTs ft cf ifs s).bind fun b s => if b then (evE ft cf elt s).bind fun p s => .ok (some p.1) s else .ok none s).wp (fun p s' => p = (if t a then some (g a) else none) ∧ wipeE s'.env own = wipeE env own ∧ s'.mem = m) NoX) :
    evE ft cf (.lc elt tg k its ifs own) s = .ok (.lst ((l.filter t).map g), true) ⟨env, m⟩ := lc_filter l e g t h0 ho hl fun a ha => by
  have q := h a ha
  cases e1 : (asgT [] tg (e a) false ⟨wipeE env own, m⟩).bind fun _ s => (evTs ft cf ifs s).bind fun b s => if b then (evE ft cf elt s).bind fun p s => .ok (some p.1) s else .ok none s with
  | ok p s' =>
    rw [e1] at q
    obtain ⟨q1, q2, q3⟩ := q
    obtain ⟨env', m'⟩ := s'
    cases q3
    cases q1
    exact ⟨env', q2, rfl⟩
  | exc c fs s' => rw [e1] at q; exact q.elim
  | no => rw [e1] at q; exact q.elim
/-! loops -/
theorem forL_w {tgt : D → S → R Unit} {body : S → R Fl} {I : List D → S → Prop} {B : S → Prop} {V : D → Bool → S → Prop} {Z : Str → List D → S → Prop}
    (hs : ∀ x xs s, I (x :: xs) s → (tgt x s).wp (fun _ s => (body s).wp (fun fl s' => match fl with | .nx => I xs s' | .ct => I xs s' | .br => B s' | .rt d fr => V d fr s') Z) Z) :
    ∀ (xs : List D) (s : S), I xs s → (forL tgt body xs s).wp (fun fl s' => match fl with | .nx => I [] s' ∨ B s' | .rt d fr => V d fr s' | _ => False) Z
  | [], s, h => .inl h
  | x :: xs, s, h => by
    have q := hs x xs s h
    rw [fo_s, wp_bind]
    refine wp_mn q fun _ s1 q1 => ?_
    rw [wp_bind]
    refine wp_mn q1 fun fl s2 q2 => ?_
    cases fl with
    | nx => exact forL_w hs xs s2 q2
    | ct => exact forL_w hs xs s2 q2
    | br => exact .inr q2
    | rt d fr => exact q2
section
variable {ft : Str → Option Fn} {cf : Str → List D → Mem → CR} {sh : List Nat} {s s1 : S} {sts : List St} {Q : Fl → S → Prop} {Z : Str → List D → S → Prop}
theorem w_for {t : T} {k : IK} {es : List E} {body : List St} {ds xs : List D} (I : List D → S → Prop) (he : evEs ft cf es s = .ok ds s1) (hw : walkD k ds = some xs) (h0 : I xs s1)
    (hs : ∀ x xs s, I (x :: xs) s → (asgT sh t x false s).wp (fun _ s => (evSs ft cf sh body s).wp (fun fl s' => match fl with | .nx => I xs s' | .ct => I xs s' | .br => (evSs ft cf sh sts s').wp Q Z | .rt d fr => Q (.rt d fr) s') Z) Z)
    (hd : ∀ s, I [] s → (evSs ft cf sh sts s).wp Q Z) : (evSs ft cf sh (.for_ t k es body :: sts) s).wp Q Z := by
  refine w_st ?_
  rw [for_at he hw]
  refine wp_mn (forL_w (I := I) (B := fun s' => (evSs ft cf sh sts s').wp Q Z) (V := fun d fr s' => Q (.rt d fr) s') hs xs s1 h0) fun fl s' q => ?_
  cases fl with
  | nx => exact q.elim (hd s') id
  | rt d fr => exact q
  | br => exact q.elim
  | ct => exact q.elim
end
theorem law_w {r : CR} (h : r.wp (fun d fr _ => d = .bl true ∧ fr = false) NoC) : ∃ m, r = .ok (.bl true) false m := by
  cases r with
  | ok d fr m => obtain ⟨rfl, rfl⟩ := h; exact ⟨m, rfl⟩
  | exc c fs m => exact h.elim
  | no => exact h.elim
/-- a feed's making, told -/
theorem feed_x {ft : Str → Option Fn} (h : ft "_law_feed" = some H.f__law_feed) (ns : List Int) (k : Int) (hk : 0 ≤ k) : ∃ f : Fd, ∀ (n : Nat) (m : Mem), 1 ≤ n → cfN ft n "_law_feed" [.scr ns, .int k] m = .ok (.lst [.int f.1, .int f.2]) true m := by
  obtain ⟨f, hf⟩ := feed_evk h ns k hk
  exact ⟨f, fun n m hn => by obtain ⟨n, rfl⟩ : ∃ j, n = j + 1 := ⟨n - 1, by omega⟩; exact hf n m⟩
theorem mo_eq (f : Fd) : MO.lst [.int f.1, .int f.2] = mo f := rfl
end Ly
set_option Elab.async false
set_option linter.all false
set_option maxRecDepth 100000
set_option maxHeartbeats 4000000
/-! Ly37: texts, once more. -/
namespace Ly
open PySem PySem.Spec PyProof.Rows L2
theorem cr_eq {r : CR} {d : D} {fr : Bool} {m : Mem} (h : r.wp (fun d' fr' m' => d' = d ∧ fr' = fr ∧ m' = m) NoC) : r = .ok d fr m := by
  cases r with
  | ok d' fr' m' => obtain ⟨rfl, rfl, rfl⟩ := h; rfl
  | exc c fs m => exact h.elim
  | no => exact h.elim
theorem sw_one (l : List Nat) (c : Nat) : Txt.startswith (sL l) (sL [c]) = decide (l.head? = some c) := by
  unfold Txt.startswith Builtin.Str.subAt
  cases l with
  | nil => simp [sL_len]
  | cons a t =>
    have h1 : (⟨#[c]⟩ : Str).length = 1 := rfl
    have h2 : (⟨(a :: t).toArray⟩ : Str).length = t.length + 1 := by simp [Str.length]
    simp [sL, h1, h2]
    by_cases h : a = c <;> simp [h]
theorem cut_S1 (l : List Nat) : cutS (sL l) (some 1) none = sL l.tail := by
  have h1 : HT.sIx (sL l).length 0 (some (1 : Int)) = min 1 l.length := by
    have := HT.sIx_nat (n := (sL l).length) (d := 0) (k := 1)
    simpa using this
  unfold cutS
  rw [h1, HT.sIx_none, sL_cps, sL_len]
  cases l with
  | nil => rfl
  | cons a t => simp [sL]
theorem cut_S01 (l : List Nat) : cutS (sL l) none (some 1) = sL (l.take 1) := by
  have h1 : HT.sIx (sL l).length (sL l).length (some (1 : Int)) = min 1 l.length := by
    have := HT.sIx_nat (n := (sL l).length) (d := (sL l).length) (k := 1)
    simpa using this
  unfold cutS
  rw [h1, HT.sIx_none, sL_cps]
  cases l with
  | nil => rfl
  | cons a t => simp [sL]
/-- the signs of a text, as texts -/
abbrev sg (l : List Nat) : List D := l.map fun c => .str (sL [c])
theorem str_L (x : Str) : x = sL x.cps.toList := by simp [sL]
theorem ix_one (x : Str) (h0 : 1 ≤ x.length) (h1 : x.length ≤ 1000) : ∃ c, opIx (.str x) (.int 0) = some (.str (sL [c])) := by
  rw [str_L x]
  have h0 : 1 ≤ x.cps.toList.length := by simpa [Str.length] using h0
  cases e : x.cps.toList with
  | nil => rw [e] at h0; exact absurd h0 (by simp)
  | cons a t =>
    have : (a :: t).length ≤ 1000000 := by rw [← e]; simp [Str.length] at h1 ⊢; omega
    exact ⟨a, ix_S this (at_zero a t)⟩
@[simp] theorem mr_up (x : Str) : mrd .upper (.str x) [] = if x.length ≤ 5592405 then some (.str (Txt.upper x)) else none := id rfl
@[simp] theorem rr_up (x : Str) : recvR .upper (.str x) = true := id rfl
@[simp] theorem mr_sw (x y : Str) : mrd .startswith (.str x) [.str y] = some (.bl (Txt.startswith x y)) := id rfl
@[simp] theorem rr_sw (x : Str) : recvR .startswith (.str x) = true := id rfl
@[simp] theorem sl_S (x : Str) (lo hi : Option Int) : opSl (.str x) lo hi = if x.length ≤ sizeLine then some (.str (cutS x lo hi), false) else none := id rfl
theorem len_app (x y : Str) : (x ++ y).length = x.length + y.length := by
  show (x.cps ++ y.cps).size = _
  rw [Array.size_append]
  rfl
theorem len_lit (s : String) : (Str.ofString s).length = s.length := by
  rw [lit_L, sL_len, List.length_map, String.length_toList]
/-- the body's end is this value -/
def RetIs (d : D) (fr : Bool) (m : Mem) : Fl → S → Prop := fun fl s => match fl with
  | .rt d' fr' => d' = d ∧ fr' = fr ∧ s.mem = m
  | .nx => d = .non ∧ fr = false ∧ s.mem = m
  | _ => False
theorem cf_is {ft : Str → Option Fn} {f : Str} {F : Fn} (h : ft f = some F) {n : Nat} {ds : List D} {m m' : Mem} {d : D} {fr : Bool} (hl : ds.length = F.ps) (hw : (evSs ft (cfN ft n) F.sh F.body ⟨env0 F ds, m⟩).wp (RetIs d fr m') NoX) : cfN ft (n + 1) f ds m = .ok d fr m' := by
  refine cr_eq (w_run h hl (wp_mono hw (fun fl s q => ?_) fun c fs s z => z))
  cases fl with
  | nx => obtain ⟨rfl, rfl, rfl⟩ := q; exact ⟨rfl, rfl, rfl⟩
  | rt d' fr' => exact q
  | br => exact q
  | ct => exact q
theorem ret_is {d d' : D} {fr : Bool} {m : Mem} {env : Env} (h : d' = d) : RetIs d fr m (.rt d' fr) ⟨env, m⟩ := ⟨h, rfl, rfl⟩
theorem ret_nx {m : Mem} {env : Env} : RetIs .non false m .nx ⟨env, m⟩ := ⟨rfl, rfl, rfl⟩
theorem ix_in {z : List Nat} {w : Int} (h0 : 0 ≤ w) (h1 : w < z.length) (hz : z.length ≤ 1000) : ∃ c, c ∈ z ∧ opIx (.str (sL z)) (.int w) = some (.str (sL [c])) := by
  obtain ⟨j, rfl⟩ : ∃ j : Nat, w = (j : Int) := ⟨w.toNat, by omega⟩
  have hj : j < z.length := by omega
  exact ⟨z[j], List.getElem_mem hj, ix_S (by omega) (by rw [at_nat hj, List.getElem?_eq_getElem hj])⟩
/-- a comprehension that draws -/
theorem w_lcD {ft : Str → Option Fn} {cf : Str → List D → Mem → CR} {elt : E} {tg : T} {k : IK} {its : List E} {own : List Nat} {s : S} {Q : D × Bool → S → Prop} {Z : Str → List D → S → Prop} (M : Fd → Mem) (Pd : D → Prop)
    (h : ((evEs ft cf its s).bind fun ds s => liftO s (walkD k ds)).wp (fun xs s1 => ∃ env fd, s1 = ⟨env, M fd⟩ ∧ ownFree env own = true ∧ xs.length ≤ sizeLine ∧
      (∀ x ∈ xs, ∀ fd, ((asgT [] tg x false ⟨wipeE env own, M fd⟩).bind fun _ s => evE ft cf elt s).wp (fun p s' => Pd p.1 ∧ wipeE s'.env own = wipeE env own ∧ ∃ fd', s'.mem = M fd') NoX) ∧
      ∀ ds fd', ds.length = xs.length → (∀ d ∈ ds, Pd d) → Q (.lst ds, true) ⟨env, M fd'⟩) Z) : (evE ft cf (.lc elt tg k its [] own) s).wp Q Z := by
  cases e : (evEs ft cf its s).bind fun ds s => liftO s (walkD k ds) with
  | ok xs s1 =>
    rw [e] at h
    obtain ⟨env, fd, rfl, ho, hl, he, hk⟩ := h
    obtain ⟨ds, fd', h1, h2, h3⟩ := lc_ev (ft := ft) (cf := cf) (M := M) (elt := elt) (tg := tg) (k := k) (its := its) (own := own) (s := s) (env := env) (xs := xs) (Pd := Pd) fd e ho hl fun x hx fd => by
      have q := he x hx fd
      cases e1 : (asgT [] tg x false ⟨wipeE env own, M fd⟩).bind fun _ s => evE ft cf elt s with
      | ok p s' =>
        rw [e1] at q
        obtain ⟨q1, q2, fd', q3⟩ := q
        obtain ⟨d, fr⟩ := p
        obtain ⟨env', m'⟩ := s'
        cases q3
        exact ⟨d, fd', env', fr, q1, q2, rfl⟩
      | exc c fs s' => rw [e1] at q; exact q.elim
      | no => rw [e1] at q; exact q.elim
    rw [h3]
    exact hk ds fd' h1 h2
  | exc c fs s1 =>
    rw [e] at h
    rw [Ly.ev_lc, e]
    exact h
  | no => rw [e] at h; exact h.elim
theorem wp_bd {α β : Type} {m : R α} {g : α → S → R β} {W : β → S → Prop} {Z : Str → List D → S → Prop} (h : m.wp (fun a s => (g a s).wp W Z) Z) : (m.bind g).wp W Z := wp_bind.mpr h
theorem whL_w {c : S → R Bool} {body : S → R Fl} {I : Nat → S → Prop} {B : S → Prop} {V : D → Bool → S → Prop} {Z : Str → List D → S → Prop}
    (hs : ∀ n s, I n s → (c s).wp (fun b s => (b = true → (body s).wp (fun fl s' => match fl with | .nx => ∃ n', n' < n ∧ I n' s' | .ct => ∃ n', n' < n ∧ I n' s' | .br => B s' | .rt d fr => V d fr s') Z) ∧ (b = false → B s)) Z) :
    ∀ (k n : Nat) (s : S), n < k → I n s → (whL c body k s).wp (fun fl s' => match fl with | .nx => B s' | .rt d fr => V d fr s' | _ => False) Z
  | 0, n, s, h, _ => by omega
  | k + 1, n, s, hk, h => by
    rw [wh_s, wp_bind]
    refine wp_mn (hs n s h) fun b s1 ⟨q1, q2⟩ => ?_
    cases b with
    | false => exact q2 rfl
    | true =>
      simp only [if_true]
      rw [wp_bind]
      refine wp_mn (q1 rfl) fun fl s2 q => ?_
      cases fl with
      | nx => obtain ⟨n', hn, hi⟩ := q; exact whL_w hs k n' s2 (by omega) hi
      | ct => obtain ⟨n', hn, hi⟩ := q; exact whL_w hs k n' s2 (by omega) hi
      | br => exact q
      | rt d fr => exact q
theorem w_whl {ft : Str → Option Fn} {cf : Str → List D → Mem → CR} {sh : List Nat} {s : S} {sts : List St} {Q : Fl → S → Prop} {Z : Str → List D → S → Prop} {c : E} {body : List St} (I : Nat → S → Prop) (n : Nat) (hn : n < 1048576) (h0 : I n s)
    (hs : ∀ n s, I n s → (toB (evE ft cf c s)).wp (fun b s => (b = true → (evSs ft cf sh body s).wp (fun fl s' => match fl with | .nx => ∃ n', n' < n ∧ I n' s' | .ct => ∃ n', n' < n ∧ I n' s' | .br => (evSs ft cf sh sts s').wp Q Z | .rt d fr => Q (.rt d fr) s') Z) ∧ (b = false → (evSs ft cf sh sts s).wp Q Z)) Z) :
    (evSs ft cf sh (.whl c body :: sts) s).wp Q Z := by
  refine w_st ?_
  rw [st_whl]
  refine wp_mn (whL_w (I := I) (B := fun s' => (evSs ft cf sh sts s').wp Q Z) (V := fun d fr s' => Q (.rt d fr) s') hs whFuel n s hn h0) fun fl s' q => ?_
  cases fl with
  | nx => exact q
  | rt d fr => exact q
  | br => exact q.elim
  | ct => exact q.elim
/-- the law's end -/
def LawIs : Fl → S → Prop := fun fl s => match fl with
  | .rt d fr => d = .bl true ∧ fr = false
  | _ => False
theorem law_is {ft : Str → Option Fn} {f : Str} {F : Fn} (h : ft f = some F) {n : Nat} {ds : List D} {m : Mem} (hl : ds.length = F.ps) (hw : (evSs ft (cfN ft n) F.sh F.body ⟨env0 F ds, m⟩).wp LawIs NoX) : ∃ m', cfN ft (n + 1) f ds m = .ok (.bl true) false m' := by
  refine law_w (w_run h hl (wp_mono hw (fun fl s q => ?_) fun c fs s z => z))
  cases fl with
  | rt d fr => exact q
  | _ => exact q.elim
theorem law_tt {s : S} : LawIs (.rt (.bl true) false) s := ⟨rfl, rfl⟩
theorem str_int (i : Int) (h0 : -18446744073709551616 < i) (h1 : i < 18446744073709551616) : bfn .str [.int i] = some (.str (Str.ofString (toString i)), false) := by
  show (if (decide (-(2 ^ 64) < i) && decide (i < 2 ^ 64)) = true then some _ else none) = _
  rw [if_pos]
  rw [decide_eq_true (show -(2 ^ 64) < i from h0), decide_eq_true (show i < 2 ^ 64 from h1)]
  rfl
end Ly
set_option Elab.async false
set_option linter.all false
set_option maxRecDepth 100000
set_option maxHeartbeats 4000000
/-! Ly38: written data of bounded rows; kinds as data, their order. -/
namespace Ly
open PySem PySem.Spec PyProof.Rows L2
mutual
/-- data without objects of the store, rows at most so long -/
def D.gl (L : Nat) : D → Bool
  | .tup xs => decide (xs.length ≤ L) && D.gls L xs
  | .lst xs => decide (xs.length ≤ L) && D.gls L xs
  | .dct _ _ => false
  | .ref _ => false
  | .scr _ => false
  | _ => true
def D.gls (L : Nat) : List D → Bool
  | [] => true
  | x :: xs => D.gl L x && D.gls L xs
end
theorem gls_iff {L : Nat} : ∀ {xs : List D}, D.gls L xs = true ↔ ∀ x ∈ xs, D.gl L x = true
  | [] => by simp [D.gls]
  | x :: xs => by
    rw [show D.gls L (x :: xs) = (D.gl L x && D.gls L xs) from rfl, Bool.and_eq_true, gls_iff (xs := xs)]
    simp
theorem gl_tup {L : Nat} {xs : List D} : D.gl L (.tup xs) = true ↔ xs.length ≤ L ∧ ∀ x ∈ xs, D.gl L x = true := by
  rw [show D.gl L (.tup xs) = (decide (xs.length ≤ L) && D.gls L xs) from rfl, Bool.and_eq_true, gls_iff, decide_eq_true_eq]
theorem gl_lst {L : Nat} {xs : List D} : D.gl L (.lst xs) = true ↔ xs.length ≤ L ∧ ∀ x ∈ xs, D.gl L x = true := gl_tup
theorem gls_cons {L : Nat} {x : D} {xs : List D} (h : D.gls L (x :: xs) = true) : D.gl L x = true ∧ D.gls L xs = true := Bool.and_eq_true_iff.mp h
mutual
theorem gl_mono {L M : Nat} (h : L ≤ M) : ∀ d : D, D.gl L d = true → D.gl M d = true
  | .tup xs, q => Bool.and_eq_true_iff.mpr ⟨decide_eq_true (Nat.le_trans (of_decide_eq_true (Bool.and_eq_true_iff.mp q).1) h), gls_mono h xs (Bool.and_eq_true_iff.mp q).2⟩
  | .lst xs, q => Bool.and_eq_true_iff.mpr ⟨decide_eq_true (Nat.le_trans (of_decide_eq_true (Bool.and_eq_true_iff.mp q).1) h), gls_mono h xs (Bool.and_eq_true_iff.mp q).2⟩
  | .non, _ => rfl
  | .bl _, _ => rfl
  | .int _, _ => rfl
  | .str _, _ => rfl
  | .dct _ _, q => nomatch q
  | .ref _, q => nomatch q
  | .scr _, q => nomatch q
theorem gls_mono {L M : Nat} (h : L ≤ M) : ∀ xs : List D, D.gls L xs = true → D.gls M xs = true
  | [], _ => rfl
  | y :: ys, q => Bool.and_eq_true_iff.mpr ⟨gl_mono h y (gls_cons q).1, gls_mono h ys (gls_cons q).2⟩
end
mutual
theorem pl_gl' {L : Nat} : ∀ d : D, D.gl L d = true → D.pl d = true
  | .tup xs, q => pls_gl' xs (Bool.and_eq_true_iff.mp q).2
  | .lst xs, q => pls_gl' xs (Bool.and_eq_true_iff.mp q).2
  | .non, _ => rfl
  | .bl _, _ => rfl
  | .int _, _ => rfl
  | .str _, _ => rfl
  | .dct _ _, q => nomatch q
  | .ref _, q => nomatch q
  | .scr _, q => nomatch q
theorem pls_gl' {L : Nat} : ∀ xs : List D, D.gls L xs = true → D.pls xs = true
  | [], _ => rfl
  | y :: ys, q => Bool.and_eq_true_iff.mpr ⟨pl_gl' y (gls_cons q).1, pls_gl' ys (gls_cons q).2⟩
end
theorem pl_gl {L : Nat} {d : D} (h : D.gl L d = true) : D.pl d = true := pl_gl' d h
theorem pls_gl {L : Nat} {xs : List D} (h : ∀ x ∈ xs, D.gl L x = true) : D.pls xs = true := pls_gl' xs (gls_iff.mpr h)
theorem typed_gl {L : Nat} {d : D} (h : D.gl L d = true) : D.typed d = true := by cases d <;> first | rfl | exact nomatch h
theorem deref_gl {L : Nat} {d : D} (h : D.gl L d = true) (m : Mem) : deref m d = some d := by cases d <;> first | rfl | exact nomatch h
theorem dep_tup (xs : List D) : D.dep (.tup xs) = D.deps xs + 1 := rfl
theorem dep_lst (xs : List D) : D.dep (.lst xs) = D.deps xs + 1 := rfl
theorem deps_iff : ∀ {xs : List D} {k : Nat}, D.deps xs ≤ k ↔ ∀ x ∈ xs, D.dep x ≤ k
  | [], k => by simp [D.deps]
  | x :: xs, k => by
    have := deps_iff (xs := xs) (k := k)
    rw [show D.deps (x :: xs) = max (D.dep x) (D.deps xs) from rfl]
    simp only [List.mem_cons, forall_eq_or_imp, ← this]
    omega
theorem bls_map {α : Type} (g : α → Bool) : ∀ l : List α, D.bls? (l.map fun x => .bl (g x)) = some (l.map g)
  | [] => rfl
  | x :: l => by
    show (D.bls? (l.map fun x => .bl (g x))).map (g x :: ·) = _
    rw [bls_map g l]; rfl
theorem bls_one (b : Bool) : D.bls? [.bl b] = some [b] := rfl
/-! kinds -/
def isI : D → Bool
  | .int _ => true
  | _ => false
def ansD : D → Bool
  | .tup (.str w :: _) => decide (w = "is") || decide (w = "some") || decide (w = "both")
  | _ => false
def inOrd : List D → Bool
  | x :: y :: r => !D.lt y x && inOrd (y :: r)
  | _ => true
mutual
def isK : D → Bool
  | .tup xs => isKl xs
  | _ => false
def isKl : List D → Bool
  | [.str w] => decide (w = "some")
  | [.str w, x] => (decide (w = "is") && isI x) || ((decide (w = "left") || decide (w = "right")) && isK x)
  | [.str w, x, y] => (decide (w = "way") && isBg x && isK y) || (decide (w = "both") && isK x && isK y && ansD x && ansD y)
  | _ => false
def isBg : D → Bool
  | .tup xs => isKs xs && inOrd xs
  | _ => false
def isKs : List D → Bool
  | [] => true
  | x :: xs => isK x && isKs xs
end
theorem isKs_iff : ∀ {xs : List D}, isKs xs = true ↔ ∀ x ∈ xs, isK x = true
  | [] => by simp [isKs]
  | x :: xs => by
    rw [show isKs (x :: xs) = (isK x && isKs xs) from by simp only [isKs], Bool.and_eq_true, isKs_iff (xs := xs)]
    simp
theorem isKs_all (xs : List D) : isKs xs = xs.all isK := by
  induction xs with
  | nil => simp [isKs]
  | cons x xs ih => simp [isKs, ih]
/-- how a kind looks -/
inductive KForm : D → Prop where
  | is (i : Int) : KForm (.tup [.str "is", .int i])
  | some : KForm (.tup [.str "some"])
  | left (k : D) : isK k = true → KForm (.tup [.str "left", k])
  | right (k : D) : isK k = true → KForm (.tup [.str "right", k])
  | way (b : List D) (k : D) : isKs b = true → inOrd b = true → isK k = true → KForm (.tup [.str "way", .tup b, k])
  | both (a b : D) : isK a = true → isK b = true → ansD a = true → ansD b = true → KForm (.tup [.str "both", a, b])
theorem isK_form : ∀ d : D, isK d = true → KForm d := by
  intro d h
  cases d with
  | tup xs =>
    rw [show isK (.tup xs) = isKl xs from by simp only [isK]] at h
    match xs, h with
    | [.str w], h => simp only [isKl, decide_eq_true_eq] at h; subst h; exact .some
    | [.str w, x], h =>
      simp only [isKl, Bool.or_eq_true, Bool.and_eq_true, decide_eq_true_eq] at h
      rcases h with ⟨rfl, h⟩ | ⟨rfl | rfl, h⟩
      · cases x <;> first | exact .is _ | exact nomatch h
      · exact .left _ h
      · exact .right _ h
    | [.str w, x, y], h =>
      simp only [isKl, Bool.or_eq_true, Bool.and_eq_true, decide_eq_true_eq] at h
      rcases h with ⟨⟨rfl, h⟩, h2⟩ | ⟨⟨⟨⟨rfl, h1⟩, h2⟩, h3⟩, h4⟩
      · cases x with
        | tup b =>
          simp only [isBg, Bool.and_eq_true] at h
          exact .way _ _ h.1 h.2 h2
        | _ => simp [isBg] at h
      · exact .both _ _ h1 h2 h3 h4
  | _ => simp [isK] at h
theorem form_isK {d : D} (h : KForm d) : isK d = true := by
  cases h <;> simp_all [isK, isKl, isBg, isI]
theorem str_ne {a b : Str} (h : a ≠ b) : ¬ (a = b) := h
theorem sd_Kn : ∀ (n : Nat) (d : D), D.dep d ≤ n → isK d = true → D.sd d = true
  | 0, d, hd, h => by cases isK_form d h <;> simp [D.dep] at hd
  | n + 1, d, hd, h => by
    cases isK_form d h with
    | is i => rfl
    | some => rfl
    | left k hk =>
      simp only [D.dep, D.deps] at hd
      simp [D.sd, D.sds, sd_Kn n k (by omega) hk]
    | right k hk =>
      simp only [D.dep, D.deps] at hd
      simp [D.sd, D.sds, sd_Kn n k (by omega) hk]
    | way b k hb ho hk =>
      simp only [D.dep, D.deps] at hd
      have e : D.sds b = true := sds_of fun x hx => sd_Kn n x (by have := deps_memS hx; omega) (isKs_iff.mp hb x hx)
      simp [D.sd, D.sds, sd_Kn n k (by omega) hk, e]
    | both a b ha hb _ _ =>
      simp only [D.dep, D.deps] at hd
      simp [D.sd, D.sds, sd_Kn n a (by omega) ha, sd_Kn n b (by omega) hb]
theorem sd_K {d : D} (h : isK d = true) : D.sd d = true := sd_Kn _ d (Nat.le_refl _) h
theorem sds_K {xs : List D} (h : isKs xs = true) : D.sds xs = true := sds_of fun x hx => sd_K (isKs_iff.mp h x hx)
theorem coks_s {w v : Str} {a b : List D} (h : w = v → D.coks a b = true) : D.coks (.str w :: a) (.str v :: b) = true := by
  show (bif D.eqv (.str w) (.str v) then D.coks a b else D.cok (.str w) (.str v)) = true
  rw [show D.eqv (.str w) (.str v) = decide (w = v) from rfl]
  by_cases e : w = v
  · rw [decide_eq_true e]; exact h e
  · rw [decide_eq_false e]; rfl
theorem coks_c {x y : D} {a b : List D} (h1 : D.cok x y = true) (h2 : D.coks a b = true) : D.coks (x :: a) (y :: b) = true := by
  show (bif D.eqv x y then D.coks a b else D.cok x y) = true
  cases D.eqv x y
  · exact h1
  · exact h2
theorem coks_n (b : List D) : D.coks [] b = true := by cases b <;> rfl
theorem coks_n2 (b : List D) : D.coks b [] = true := by cases b <;> rfl
theorem coks_of : ∀ {xs ys : List D}, (∀ x ∈ xs, ∀ y ∈ ys, D.cok x y = true) → D.coks xs ys = true
  | [], ys, _ => coks_n _
  | _ :: _, [], _ => coks_n2 _
  | x :: xs, y :: ys, h => coks_c (h x (by simp) y (by simp)) (coks_of fun a ha b hb => h a (by simp [ha]) b (by simp [hb]))
theorem cok_Kn : ∀ (n : Nat) (x y : D), D.dep x ≤ n → isK x = true → isK y = true → D.cok x y = true
  | 0, d, _, hd, h, _ => by cases isK_form d h <;> simp [D.dep] at hd
  | n + 1, x, y, hd, h, q => by
    cases isK_form x h with
    | is i =>
      cases isK_form y q <;> refine coks_s fun e => ?_ <;> first
        | exact absurd e (by decide)
        | exact coks_c rfl (coks_n _)
    | some =>
      cases isK_form y q <;> refine coks_s fun e => ?_ <;> first
        | exact absurd e (by decide)
        | exact coks_n _
    | left k hk =>
      simp only [D.dep, D.deps] at hd
      cases isK_form y q <;> refine coks_s fun e => ?_ <;> first
        | exact absurd e (by decide)
        | exact coks_c (cok_Kn n _ _ (by omega) hk (by assumption)) (coks_n _)
    | right k hk =>
      simp only [D.dep, D.deps] at hd
      cases isK_form y q <;> refine coks_s fun e => ?_ <;> first
        | exact absurd e (by decide)
        | exact coks_c (cok_Kn n _ _ (by omega) hk (by assumption)) (coks_n _)
    | way b k hb ho hk =>
      simp only [D.dep, D.deps] at hd
      cases isK_form y q with
      | way b' k' hb' ho' hk' =>
        refine coks_s fun e => coks_c ?_ (coks_c (cok_Kn n _ _ (by omega) hk hk') (coks_n _))
        exact coks_of fun a ha c hc => cok_Kn n a c (by have := deps_memS ha; omega) (isKs_iff.mp hb a ha) (isKs_iff.mp hb' c hc)
      | _ => exact coks_s fun e => absurd e (by decide)
    | both a b ha hb _ _ =>
      simp only [D.dep, D.deps] at hd
      cases isK_form y q with
      | both a' b' ha' hb' _ _ => exact coks_s fun e => coks_c (cok_Kn n _ _ (by omega) ha ha') (coks_c (cok_Kn n _ _ (by omega) hb hb') (coks_n _))
      | _ => exact coks_s fun e => absurd e (by decide)
theorem cok_K {x y : D} (h : isK x = true) (q : isK y = true) : D.cok x y = true := cok_Kn _ x y (Nat.le_refl _) h q
theorem coks_K {xs ys : List D} (h : isKs xs = true) (q : isKs ys = true) : D.coks xs ys = true := coks_of fun x hx y hy => cok_K (isKs_iff.mp h x hx) (isKs_iff.mp q y hy)
theorem hdS_K {x : D} (h : isK x = true) : hdS x = true := by cases isK_form x h <;> rfl
theorem srt_K {xs : List D} (h : isKs xs = true) (hd : D.deps xs ≤ 200) : srtOk xs = true := by
  unfold srtOk
  rw [sds_K h, decide_eq_true hd, show xs.all hdS = true from List.all_eq_true.mpr fun x hx => hdS_K (isKs_iff.mp h x hx),
    show (xs.all fun x => xs.all fun y => D.cok x y) = true from List.all_eq_true.mpr fun x hx => List.all_eq_true.mpr fun y hy => cok_K (isKs_iff.mp h x hx) (isKs_iff.mp h y hy)]
  simp
theorem ints_K {x : D} {xs : List D} (h : isK x = true) : D.ints? (x :: xs) = none := by cases isK_form x h <;> rfl
theorem sorted_KT {xs : List D} (h : isKs xs = true) (hd : D.deps xs ≤ 200) : bfn .sorted [.tup xs] = some (.lst (sortD xs), true) := by
  cases xs with
  | nil => rfl
  | cons x xs =>
    show (match D.ints? (x :: xs) with | some ns => some (D.lst ((sortI ns).map D.int), true) | none => if srtOk (x :: xs) then some (.lst (sortD (x :: xs)), true) else none) = _
    rw [ints_K (isKs_iff.mp h x (by simp)), srt_K h hd]; rfl
theorem sorted_KL {xs : List D} (h : isKs xs = true) (hd : D.deps xs ≤ 200) : bfn .sorted [.lst xs] = some (.lst (sortD xs), true) := by
  cases xs with
  | nil => rfl
  | cons x xs =>
    show (match D.ints? (x :: xs) with | some ns => some (D.lst ((sortI ns).map D.int), true) | none => if srtOk (x :: xs) then some (.lst (sortD (x :: xs)), true) else none) = _
    rw [ints_K (isKs_iff.mp h x (by simp)), srt_K h hd]; rfl
/-! order -/
theorem lt_leD {x y : D} : D.lt y x = false ↔ leD x y := by
  rw [lt_no, ord_swap x y]
  show _ ↔ D.ord x y ≠ .gt
  cases D.ord x y <;> simp
theorem inOrd_pw : ∀ {xs : List D}, inOrd xs = true ↔ xs.Pairwise leD
  | [] => by simp [inOrd]
  | [x] => by simp [inOrd]
  | x :: y :: r => by
    rw [show inOrd (x :: y :: r) = (!D.lt y x && inOrd (y :: r)) from rfl, Bool.and_eq_true, inOrd_pw (xs := y :: r), Bool.not_eq_true', lt_leD, List.pairwise_cons (a := x)]
    constructor
    · rintro ⟨h1, h2⟩
      refine ⟨fun z hz => ?_, h2⟩
      rcases List.mem_cons.mp hz with rfl | hz
      · exact h1
      · exact leD_tr h1 ((List.pairwise_cons.mp h2).1 z hz)
    · rintro ⟨h1, h2⟩
      exact ⟨h1 y (by simp), h2⟩
theorem inOrd_sort (xs : List D) : inOrd (sortD xs) = true := inOrd_pw.mpr (sortD_sorted xs)
theorem sds_perm {xs ys : List D} (h : xs.Perm ys) (q : D.sds xs = true) : D.sds ys = true := sds_of fun x hx => sds_mem q x (h.mem_iff.mpr hx)
theorem sds_sort {xs : List D} (q : D.sds xs = true) : D.sds (sortD xs) = true := sds_perm (sortD_perm xs).symm q
theorem sortD_id {xs : List D} (q : D.sds xs = true) (h : inOrd xs = true) : sortD xs = xs := srtD_uniq (sortD_perm xs) (sds_sort q) (sortD_sorted xs) (inOrd_pw.mp h)
theorem sortD_eqv {xs : List D} (q : D.sds xs = true) : D.eqvs xs (sortD xs) = inOrd xs := by
  cases e : inOrd xs with
  | true => rw [sortD_id q e]; exact (eqvs_sd xs xs q q).mpr rfl
  | false =>
    cases e2 : D.eqvs xs (sortD xs) with
    | false => rfl
    | true =>
      have := (eqvs_sd xs _ q (sds_sort q)).mp e2
      rw [this, inOrd_sort] at e
      cases e
theorem sortD_len (xs : List D) : (sortD xs).length = xs.length := (sortD_perm xs).length_eq
theorem isKs_sort {xs : List D} (h : isKs xs = true) : isKs (sortD xs) = true := isKs_iff.mpr fun x hx => isKs_iff.mp h x ((sortD_perm xs).mem_iff.mp hx)
theorem deps_sort (xs : List D) : D.deps (sortD xs) = D.deps xs := by
  refine Nat.le_antisymm (deps_iff.mpr fun x hx => ?_) (deps_iff.mpr fun x hx => ?_)
  · exact deps_memS ((sortD_perm xs).mem_iff.mp hx)
  · exact deps_memS ((sortD_perm xs).mem_iff.mpr hx)
theorem gls_sort {L : Nat} {xs : List D} (h : ∀ x ∈ xs, D.gl L x = true) : ∀ x ∈ sortD xs, D.gl L x = true := fun x hx => h x ((sortD_perm xs).mem_iff.mp hx)
end Ly
set_option Elab.async false
set_option linter.all false
set_option maxRecDepth 100000
set_option maxHeartbeats 4000000
/-! Ly39: is_kind, of_answer as the program has them. -/
namespace Ly
open PySem PySem.Spec PyProof.Rows L2
namespace H
def t_SIZES : TabI := ("SIZES", [("is", 2), ("some", 1), ("way", 3), ("left", 2), ("right", 2), ("both", 3)])
def g_SIZES : D := tabD t_SIZES
end H
namespace H
def b_is_number : List St := [
  .ret (.and (.isi (.v 0) .int) (.not (.isi (.v 0) .bool)))]
def f_is_number : Fn := ⟨1, 1, [], b_is_number⟩
def b_is_bag : List St := [
  .ife (.or (.not (.isi (.v 0) .tuple)) (.not (.blt .all [.lc (.call "is_kind" [.v 1]) (.v 1) .seq [.v 0] [] [1]]))) [
    .ret (.c (.bl false))] [],
  .ret (.cmp .eq (.blt .list [.v 0]) (.blt .sorted [.v 0]))]
def f_is_bag : Fn := ⟨1, 2, [], b_is_bag⟩
def b_is_kind : List St := [
  .ife (.or (.not (.isi (.v 0) .tuple)) (.or (.cmp .eq (.blt .len [.v 0]) (.c (.int 0))) (.not (.isi (.ix (.v 0) (.c (.int 0))) .str)))) [
    .ret (.c (.bl false))] [],
  .ife (.cmp .ne (.mr .get (.g "SIZES" g_SIZES) [.ix (.v 0) (.c (.int 0))]) (.blt .len [.v 0])) [
    .ret (.c (.bl false))] [],
  .ife (.cmp .eq (.ix (.v 0) (.c (.int 0))) (.c (.str "is"))) [
    .ret (.call "is_number" [.ix (.v 0) (.c (.int 1))])] [],
  .ife (.cmp .eq (.ix (.v 0) (.c (.int 0))) (.c (.str "way"))) [
    .ret (.and (.call "is_bag" [.ix (.v 0) (.c (.int 1))]) (.call "is_kind" [.ix (.v 0) (.c (.int 2))]))] [],
  .ife (.cmp .eq (.ix (.v 0) (.c (.int 0))) (.c (.str "both"))) [
    .ret (.and (.call "is_kind" [.ix (.v 0) (.c (.int 1))]) (.and (.call "is_kind" [.ix (.v 0) (.c (.int 2))]) (.and (.call "of_answer" [.ix (.v 0) (.c (.int 1))]) (.call "of_answer" [.ix (.v 0) (.c (.int 2))]))))] [],
  .ret (.or (.cmp .eq (.ix (.v 0) (.c (.int 0))) (.c (.str "some"))) (.call "is_kind" [.ix (.v 0) (.c (.int 1))]))]
def f_is_kind : Fn := ⟨1, 1, [], b_is_kind⟩
def b_of_answer : List St := [
  .ret (.cmp .in_ (.ix (.v 0) (.c (.int 0))) (.tup [.c (.str "is"), .c (.str "some"), .c (.str "both")]))]
def f_of_answer : Fn := ⟨1, 1, [], b_of_answer⟩
end H
structure KinP (ft : Str → Option Fn) : Prop where
  is_number : ft "is_number" = some H.f_is_number
  is_bag : ft "is_bag" = some H.f_is_bag
  is_kind : ft "is_kind" = some H.f_is_kind
  of_answer : ft "of_answer" = some H.f_of_answer
theorem KinP.c_is_number {ft : Str → Option Fn} (g : KinP ft) (cf : Str → List D → Mem → CR) (s : S) (es : List E) : evE ft cf (.call "is_number" es) s = (evAs ft cf [] 0 es s).bind fun ds s => if ds.length = 1 then ofCR s (cf "is_number" ds s.mem) else .no := ev_call ft cf s g.is_number es
theorem KinP.c_is_bag {ft : Str → Option Fn} (g : KinP ft) (cf : Str → List D → Mem → CR) (s : S) (es : List E) : evE ft cf (.call "is_bag" es) s = (evAs ft cf [] 0 es s).bind fun ds s => if ds.length = 1 then ofCR s (cf "is_bag" ds s.mem) else .no := ev_call ft cf s g.is_bag es
theorem KinP.c_is_kind {ft : Str → Option Fn} (g : KinP ft) (cf : Str → List D → Mem → CR) (s : S) (es : List E) : evE ft cf (.call "is_kind" es) s = (evAs ft cf [] 0 es s).bind fun ds s => if ds.length = 1 then ofCR s (cf "is_kind" ds s.mem) else .no := ev_call ft cf s g.is_kind es
theorem KinP.c_of_answer {ft : Str → Option Fn} (g : KinP ft) (cf : Str → List D → Mem → CR) (s : S) (es : List E) : evE ft cf (.call "of_answer" es) s = (evAs ft cf [] 0 es s).bind fun ds s => if ds.length = 1 then ofCR s (cf "of_answer" ds s.mem) else .no := ev_call ft cf s g.of_answer es
/-- how many things stand in a kind of this word -/
def szD (w : Str) : D := if w = "is" then .int 2 else if w = "some" then .int 1 else if w = "way" then .int 3 else if w = "left" then .int 2 else if w = "right" then .int 2 else if w = "both" then .int 3 else .non
theorem sz_get (w : Str) : mrd .get H.g_SIZES [.str w] = some (szD w) := by
  show (if kfit (.str w) (H.t_SIZES.2.map fun p => D.str p.1) (H.t_SIZES.2.map fun p => D.int p.2) then some ((dLook (.str w) (H.t_SIZES.2.map fun p => D.str p.1) (H.t_SIZES.2.map fun p => D.int p.2)).getD .non) else none) = _
  rw [show kfit (.str w) (H.t_SIZES.2.map fun p => D.str p.1) (H.t_SIZES.2.map fun p => D.int p.2) = true from rfl, if_pos rfl]
  congr 1
  simp only [H.t_SIZES, List.map, dLook, D.beq, szD, decide_eq_true_eq]
  repeat' (first | rfl | split)
theorem sz_rr : recvR .get H.g_SIZES = true := rfl
theorem sz_deref (m : Mem) : deref m H.g_SIZES = some H.g_SIZES := rfl
@[simp] theorem sz_see (w : Str) (m : Mem) : deref m (szD w) = some (szD w) := by
  unfold szD
  repeat' (first | rfl | split)
/-- the word wants another count -/
def szN (w : Str) (n : Nat) : Bool := !(((decide (w = "is") || decide (w = "left") || decide (w = "right")) && decide (n = 2)) || (decide (w = "some") && decide (n = 1)) || ((decide (w = "way") || decide (w = "both")) && decide (n = 3)))
theorem ne_int (a : D) (i : Int) (h : a = .non ∨ ∃ j, a = .int j) : opCmp .ne a (.int i) = some (!(match a with | .int j => decide (j = i) | _ => false)) := by
  rcases h with rfl | ⟨j, rfl⟩ <;> rfl
theorem sz_ne (w : Str) (n : Nat) : opCmp .ne (szD w) (.int (n : Int)) = some (szN w n) := by
  rw [ne_int _ _ (by unfold szD; repeat' (first | exact .inl rfl | exact .inr ⟨_, rfl⟩ | split))]
  congr 1
  unfold szN szD
  by_cases h1 : w = "is"
  · subst h1; simp [ofStr_inj]; omega
  by_cases h2 : w = "some"
  · subst h2; simp [ofStr_inj]; omega
  by_cases h3 : w = "way"
  · subst h3; simp [ofStr_inj]; omega
  by_cases h4 : w = "left"
  · subst h4; simp [ofStr_inj]; omega
  by_cases h5 : w = "right"
  · subst h5; simp [ofStr_inj]; omega
  by_cases h6 : w = "both"
  · subst h6; simp [ofStr_inj]; omega
  simp [h1, h2, h3, h4, h5, h6]
theorem sz_is : opCmp .ne (szD "is") (.int 2) = some false := rfl
theorem sz_some : opCmp .ne (szD "some") (.int 1) = some false := rfl
theorem sz_left : opCmp .ne (szD "left") (.int 2) = some false := rfl
theorem sz_right : opCmp .ne (szD "right") (.int 2) = some false := rfl
theorem sz_way : opCmp .ne (szD "way") (.int 3) = some false := rfl
theorem sz_both : opCmp .ne (szD "both") (.int 3) = some false := rfl
theorem in_strs (x : Str) (l : List Str) : anyEq (.str x) (l.map D.str) = some (decide (x ∈ l)) := by
  have p : ∀ l : List Str, D.pls (l.map D.str) = true := fun l => by induction l with | nil => rfl | cons a l ih => exact ih
  have q : ∀ l : List Str, ((l.map D.str).any fun y => D.eqv y (.str x)) = decide (x ∈ l) := fun l => by
    induction l with
    | nil => simp
    | cons a l ih =>
      rw [List.map_cons, List.any_cons, ih, show D.eqv (.str a) (.str x) = decide (a = x) from rfl, ← Bool.decide_or]
      simp only [List.mem_cons, eq_comm]
  show (if D.pl (.str x) && D.pls (l.map D.str) && decide (D.dep (.str x) ≤ 200) then some _ else none) = _
  rw [p l, q l]; rfl
theorem in3 (x a b c : Str) : anyEq (.str x) [.str a, .str b, .str c] = some (decide (x = a) || decide (x = b) || decide (x = c)) := by
  rw [show [D.str a, .str b, .str c] = [a, b, c].map D.str from rfl, in_strs]
  simp [Bool.decide_or, Bool.or_assoc]
/-! is_number, of_answer -/
section
variable {ft : Str → Option Fn} (g : KinP ft)
include g
theorem isnum_ev (d : D) (hd : D.typed d = true) (m0 : Mem) (hm : deref m0 d = some d) (n : Nat) : cfN ft (n + 1) "is_number" [d] m0 = .ok (.bl (isI d)) false m0 := by
  rw [cf_s g.is_number _ rfl]
  simp [H.f_is_number, H.b_is_number, runF, env0, hm, hd]
  cases d <;> rfl
theorem ofans_ev (w : Str) (r : List D) (m0 : Mem) (n : Nat) : cfN ft (n + 1) "of_answer" [.tup (.str w :: r)] m0 = .ok (.bl (ansD (.tup (.str w :: r)))) false m0 := by
  rw [cf_s g.of_answer _ rfl]
  simp [H.f_of_answer, H.b_of_answer, runF, env0, in3, ansD]
theorem ofans_K {d : D} (h : isK d = true) (m0 : Mem) (n : Nat) : cfN ft (n + 1) "of_answer" [d] m0 = .ok (.bl (ansD d)) false m0 := by
  cases isK_form d h <;> exact ofans_ev g _ _ m0 n
omit g
theorem eq_lst {xs ys : List D} (h : eqOk (.lst xs) (.lst ys) = true) : opCmp .eq (.lst xs) (.lst ys) = some (D.eqvs xs ys) := by
  show (if eqOk (.lst xs) (.lst ys) then some (D.eqv (.lst xs) (.lst ys)) else none) = _
  rw [if_pos h]; rfl
theorem eqOk_sort {xs : List D} (hp : D.sds xs = true) (hd : D.deps xs < 200) : eqOk (.lst xs) (.lst (sortD xs)) = true := by
  simp only [eqOk, D.pl, sds_pl xs hp, sds_pl _ (sds_sort hp), D.dep, deps_sort, Bool.and_eq_true, decide_eq_true_eq, true_and]
  omega
include g
/-- is_bag, where is_kind does its work -/
theorem isbag_of {d : D} {L : Nat} (hL : L ≤ 100000) (hg : D.gl L d = true) (hd : D.dep d ≤ 200) (n : Nat) (m0 : Mem)
    (ih : ∀ xs, d = .tup xs → ∀ x ∈ xs, cfN ft n "is_kind" [x] m0 = .ok (.bl (isK x)) false m0) : cfN ft (n + 1) "is_bag" [d] m0 = .ok (.bl (isBg d)) false m0 := by
  have no : (∀ xs, d ≠ .tup xs) → cfN ft (n + 1) "is_bag" [d] m0 = .ok (.bl (isBg d)) false m0 := fun hx => by
    have e2 : isBg d = false := by cases d <;> first | exact absurd rfl (hx _) | simp [isBg]
    have e1 : isTy d .tuple = false := by cases d <;> first | exact absurd rfl (hx _) | rfl
    rw [cf_s g.is_bag _ rfl]
    simp [H.f_is_bag, H.b_is_bag, runF, env0, deref_gl hg, typed_gl hg, e1, e2]
  cases d with
  | tup xs =>
    have hg := gl_tup.mp hg
    have hd : D.deps xs + 1 ≤ 200 := hd
    have lc := lc_mapA (ft := ft) (cf := cfN ft n) (elt := .call "is_kind" [.v 1]) (tg := .v 1) (k := .seq) (its := [.v 0]) (own := [1]) (s := ⟨[some (.tup xs, false), none], m0⟩) (env := [some (.tup xs, false), none]) (m := m0)
      xs id (fun x => .bl (isK x)) (by simp) rfl (sl_le (by omega)) (fun x hx => by
        have := ih xs rfl x hx
        exact ⟨[some (.tup xs, false), some (x, false)], false, rfl, by simp [g.c_is_kind, wipeE, this]⟩)
    rw [cf_s g.is_bag _ rfl]
    by_cases hk : isKs xs = true
    · have hk' : (xs.all isK) = true := by rw [← isKs_all]; exact hk
      have e := eq_lst (eqOk_sort (sds_K hk) (by omega))
      rw [sortD_eqv (sds_K hk)] at e
      have e2 : isBg (.tup xs) = inOrd xs := by simp [isBg, hk]
      simp [H.f_is_bag, H.b_is_bag, runF, env0, lc, bls_map, sorted_KT hk (by omega), e, e2, List.all_map, Function.comp_def, hk']
    · have hk : isKs xs = false := by simpa using hk
      have hk' : (xs.all isK) = false := by rw [← isKs_all]; exact hk
      have e2 : isBg (.tup xs) = false := by simp [isBg, hk]
      simp [H.f_is_bag, H.b_is_bag, runF, env0, lc, bls_map, e2, List.all_map, Function.comp_def, hk']
  | _ => exact no (by intro xs h; cases h)
/-- is_kind of any written thing -/
theorem iskind_ev {L : Nat} (hL : L ≤ 100000) : ∀ (n : Nat) (d : D) (m0 : Mem), D.dep d < n → D.gl L d = true → D.dep d ≤ 200 → cfN ft (n + 1) "is_kind" [d] m0 = .ok (.bl (isK d)) false m0
  | 0, d, m0, h, _, _ => by omega
  | n + 1, d, m0, h, hg, hd => by
    have no : (∀ xs, d ≠ .tup xs) → cfN ft (n + 1 + 1) "is_kind" [d] m0 = .ok (.bl (isK d)) false m0 := fun hx => by
      have e2 : isK d = false := by cases d <;> first | exact absurd rfl (hx _) | simp [isK]
      have e1 : isTy d .tuple = false := by cases d <;> first | exact absurd rfl (hx _) | rfl
      rw [cf_s g.is_kind _ rfl]
      simp [H.f_is_kind, H.b_is_kind, runF, env0, deref_gl hg, typed_gl hg, e1, e2]
    cases d with
    | tup xs =>
      have hg := (gl_tup.mp hg).2
      have hd : D.deps xs + 1 ≤ 200 := hd
      have h : D.deps xs + 1 < n + 1 := h
      have ih : ∀ x ∈ xs, cfN ft (n + 1) "is_kind" [x] m0 = .ok (.bl (isK x)) false m0 := fun x hx => by
        have := deps_memS hx
        exact iskind_ev hL n x m0 (by omega) (hg x hx) (by omega)
      have ib : ∀ x ∈ xs, cfN ft (n + 1) "is_bag" [x] m0 = .ok (.bl (isBg x)) false m0 := fun x hx => by
        have h1 := deps_memS hx
        refine isbag_of g hL (hg x hx) (by omega) n m0 fun ys e y hy => ?_
        subst e
        have h2 := deps_memS hy
        have h3 : D.deps ys + 1 ≤ D.deps xs := h1
        obtain ⟨k, rfl⟩ : ∃ k, n = k + 1 := ⟨n - 1, by omega⟩
        exact iskind_ev hL k y m0 (by omega) ((gl_tup.mp (hg _ hx)).2 y hy) (by omega)
      cases xs with
      | nil =>
        rw [cf_s g.is_kind _ rfl]
        simp [H.f_is_kind, H.b_is_kind, runF, env0, isK, isKl]
      | cons w r =>
        by_cases hw : ∃ s, w = .str s
        · obtain ⟨w, rfl⟩ := hw
          have hs := sz_ne w (r.length + 1)
          have pre : ∀ b, szN w (r.length + 1) = b → (b = true → isK (.tup (.str w :: r)) = false) → True := fun _ _ _ => trivial
          by_cases hn : szN w (r.length + 1) = true
          · have e : isK (.tup (.str w :: r)) = false := by
              cases hk : isK (.tup (.str w :: r)) with
              | false => rfl
              | true =>
                exfalso
                revert hn
                cases isK_form _ hk <;> simp [szN, ofStr_inj]
            rw [hn] at hs
            have hs : opCmp .ne (szD w) (.int ((r.length : Int) + 1)) = some true := hs
            have h0 : ¬ ((r.length : Int) + 1 = 0) := by omega
            rw [cf_s g.is_kind _ rfl]
            simp [H.f_is_kind, H.b_is_kind, runF, env0, sz_get, sz_rr, sz_deref, hs, e, h0]
          · have hn : szN w (r.length + 1) = false := by simpa using hn
            rw [hn] at hs
            have cs : (w = "is" ∨ w = "left" ∨ w = "right") ∧ r.length = 1 ∨ w = "some" ∧ r.length = 0 ∨ (w = "way" ∨ w = "both") ∧ r.length = 2 := by
              simp only [szN, Bool.not_eq_false', Bool.or_eq_true, Bool.and_eq_true, decide_eq_true_eq] at hn
              rcases hn with (⟨a, b⟩ | ⟨a, b⟩) | ⟨a, b⟩
              · exact .inl ⟨by rcases a with (a | a) | a <;> simp [a], by omega⟩
              · exact .inr (.inl ⟨a, by omega⟩)
              · exact .inr (.inr ⟨a, by omega⟩)
            rcases cs with ⟨hw, hl⟩ | ⟨hw, hl⟩ | ⟨hw, hl⟩
            · obtain ⟨x, rfl⟩ := List.length_eq_one_iff.mp hl
              have i1 := ih x (by simp)
              have hx := hg x (by simp)
              have i2 := isnum_ev g x (typed_gl hx) m0 (deref_gl hx m0) n
              rw [cf_s g.is_kind _ rfl]
              rcases hw with rfl | rfl | rfl
              · simp [H.f_is_kind, H.b_is_kind, runF, env0, sz_get, sz_rr, sz_deref, sz_is, i1, i2, g.c_is_kind, g.c_is_number, ofStr_inj, isK, isKl]
              · simp [H.f_is_kind, H.b_is_kind, runF, env0, sz_get, sz_rr, sz_deref, sz_left, i1, i2, g.c_is_kind, g.c_is_number, ofStr_inj, isK, isKl]
              · simp [H.f_is_kind, H.b_is_kind, runF, env0, sz_get, sz_rr, sz_deref, sz_right, i1, i2, g.c_is_kind, g.c_is_number, ofStr_inj, isK, isKl]
            · obtain rfl := List.length_eq_zero_iff.mp hl
              subst hw
              rw [cf_s g.is_kind _ rfl]
              simp [H.f_is_kind, H.b_is_kind, runF, env0, sz_get, sz_rr, sz_deref, sz_some, ofStr_inj, isK, isKl]
            · match r, hl, hg, ih, ib with
              | [x, y], hl, hg, ih, ib =>
              have i1 := ih x (by simp)
              have i2 := ih y (by simp)
              have b1 := ib x (by simp)
              have a1 : isK x = true → cfN ft (n + 1) "of_answer" [x] m0 = .ok (.bl (ansD x)) false m0 := fun h => ofans_K g h m0 n
              have a2 : isK y = true → cfN ft (n + 1) "of_answer" [y] m0 = .ok (.bl (ansD y)) false m0 := fun h => ofans_K g h m0 n
              rw [cf_s g.is_kind _ rfl]
              rcases hw with rfl | rfl
              · simp [H.f_is_kind, H.b_is_kind, runF, env0, sz_get, sz_rr, sz_deref, sz_way, i1, i2, b1, g.c_is_kind, g.c_is_bag, ofStr_inj, isK, isKl]
              · simp [H.f_is_kind, H.b_is_kind, runF, env0, sz_get, sz_rr, sz_deref, sz_both, i1, i2, g.c_is_kind, g.c_of_answer, ofStr_inj, isK, isKl]
                cases e1 : isK x with
                | false => simp
                | true =>
                  cases e2 : isK y with
                  | false => simp
                  | true =>
                    simp [a1 e1, a2 e2]
        · rw [cf_s g.is_kind _ rfl]
          have e1 : isTy w .str = false := by cases w <;> first | exact absurd ⟨_, rfl⟩ hw | rfl
          have e2 : isK (.tup (w :: r)) = false := by
            cases hk : isK (.tup (w :: r)) with
            | false => rfl
            | true => cases isK_form _ hk <;> exact absurd ⟨_, rfl⟩ hw
          have hx := hg w (by simp)
          simp [H.f_is_kind, H.b_is_kind, runF, env0, deref_gl hx, typed_gl hx, e1, e2]
    | _ => exact no (by intro xs h; cases h)
end
end Ly
set_option Elab.async false
set_option linter.all false
set_option maxRecDepth 100000
set_option maxHeartbeats 4000000
/-! Ly40: comprehensions that draw; ranges. -/
namespace Ly
open PySem PySem.Spec PyProof.Rows L2
@[simp] theorem rngL_len (a : Int) (n : Nat) : (rngL a n).length = n := by simp [rngL]
theorem rngL_mem {a : Int} {n : Nat} {d : D} (h : d ∈ rngL a n) : ∃ k : Nat, k < n ∧ d = .int (a + k) := by
  obtain ⟨k, hk, rfl⟩ := List.mem_map.mp h
  exact ⟨k, List.mem_range.mp hk, rfl⟩
theorem w_R2 (a b : Int) : walkD .rng [.int a, .int b] = if small62 a && small62 b then some (rngL a (b - a).toNat) else none := id rfl
theorem small_rg {i : Int} (h0 : -1000000000000 ≤ i) (h1 : i ≤ 1000000000000) : small62 i = true := by
  unfold small62
  rw [Bool.and_eq_true, decide_eq_true_eq, decide_eq_true_eq]
  exact ⟨by omega, by omega⟩
theorem walk_rg {i : Int} (h0 : 0 ≤ i) (h1 : i ≤ 1000000) : walkD .rng [.int i] = some (rngL 0 i.toNat) := by
  rw [w_R, small_rg (by omega) (by omega)]; rfl
theorem walk_rg2 {a b : Int} (h0 : 0 ≤ a) (h1 : a ≤ 1000000) (h2 : 0 ≤ b) (h3 : b ≤ 1000000) : walkD .rng [.int a, .int b] = some (rngL a (b - a).toNat) := by
  rw [w_R2, small_rg (by omega) (by omega), small_rg (by omega) (by omega)]; rfl
theorem w_l {α : Type} {m : R α} {Q : α → S → Prop} {Z : Str → List D → S → Prop} (h : m.wp Q Z) : m.wp Q Z ∧ True := ⟨h, True.intro⟩
theorem w_r {α : Type} {m : R α} {Q : α → S → Prop} {Z : Str → List D → S → Prop} (h : m.wp Q Z) : True ∧ m.wp Q Z := ⟨True.intro, h⟩
/-! a drawn def's promise, its end fresh or not -/
def GenB (ft : Str → Option Fn) (M : Fd → Mem) (r : Nat) (f : Str) (args : List D) (N : Nat) (Pd : D → Prop) : Prop := ∀ n, N ≤ n → ∀ fd, (cfN ft n f (.ref r :: args) (M fd)).wp (fun d _ m => ∃ fd', m = M fd' ∧ Pd d) NoC
section
variable {ft : Str → Option Fn} {M : Fd → Mem} {r : Nat} {f : Str} {args : List D} {n N : Nat} {Pd : D → Prop}
theorem GenB.w (g : GenB ft M r f args N Pd) (hn : N ≤ n) {α : Type} {env : Env} {fd : Fd} {k : D × Bool → S → R α} {Q : α → S → Prop} {Z : Str → List D → S → Prop} (hk : ∀ d fr fd', Pd d → (k (d, fr) ⟨env, M fd'⟩).wp Q Z) :
    ((ofCR ⟨env, M fd⟩ (cfN ft n f (.ref r :: args) (M fd))).bind k).wp Q Z := by
  refine w_call (g n hn fd) (fun d fr m h => ?_) fun c fs m h => h.elim
  obtain ⟨fd', rfl, hp⟩ := h
  exact hk d fr fd' hp
theorem GenB.w0 (g : GenB ft M r f args N Pd) (hn : N ≤ n) {env : Env} {fd : Fd} {Q : D × Bool → S → Prop} {Z : Str → List D → S → Prop} (hk : ∀ d fr fd', Pd d → Q (d, fr) ⟨env, M fd'⟩) :
    (ofCR ⟨env, M fd⟩ (cfN ft n f (.ref r :: args) (M fd))).wp Q Z := by
  have h := g n hn fd
  cases e : cfN ft n f (.ref r :: args) (M fd) with
  | ok d fr m =>
    rw [e] at h
    obtain ⟨fd', rfl, hp⟩ := h
    exact hk d fr fd' hp
  | exc c fs m => rw [e] at h; exact h.elim
  | no => rw [e] at h; exact h.elim
theorem GenB.mono {N' : Nat} {P' : D → Prop} (g : GenB ft M r f args N Pd) (hn : N ≤ N') (h : ∀ d, Pd d → P' d) : GenB ft M r f args N' P' := fun n hn' fd => by
  have h2 := g n (Nat.le_trans hn hn') fd
  cases e : cfN ft n f (.ref r :: args) (M fd) with
  | ok d fr m =>
    rw [e] at h2
    obtain ⟨fd', b, hp⟩ := h2
    exact ⟨fd', b, h _ hp⟩
  | exc c fs m => rw [e] at h2; exact h2.elim
  | no => rw [e] at h2; exact h2.elim
theorem GenB.of {F : Fn} (h : ft f = some F) (hl : args.length + 1 = F.ps) (hw : ∀ n, N ≤ n → ∀ fd, (evSs ft (cfN ft n) F.sh F.body ⟨env0 F (.ref r :: args), M fd⟩).wp (fun fl s => match fl with | .rt d _ => ∃ fd', s.mem = M fd' ∧ Pd d | .nx => ∃ fd', s.mem = M fd' ∧ Pd .non | _ => False) NoX) : GenB ft M r f args (N + 1) Pd := fun n hn fd => by
  obtain ⟨n, rfl⟩ : ∃ j, n = j + 1 := ⟨n - 1, by omega⟩
  refine w_run h (by simpa using hl) ?_
  have q := hw n (by omega) fd
  cases e : evSs ft (cfN ft n) F.sh F.body ⟨env0 F (.ref r :: args), M fd⟩ with
  | ok fl s =>
    rw [e] at q
    cases fl <;> exact q
  | exc c fs s => rw [e] at q; exact q.elim
  | no => rw [e] at q; exact q.elim
end
/-- a comprehension whose turns draw -/
theorem lc_gen {M : Fd → Mem} {ft : Str → Option Fn} {cf : Str → List D → Mem → CR} {elt : E} {tg : T} {k : IK} {its : List E} {own : List Nat} {s : S} (env : Env) (X : List D → Prop) (Pd : D → Prop)
    {Q : D × Bool → S → Prop} {Z : Str → List D → S → Prop}
    (h0 : ((evEs ft cf its s).bind fun ds s => liftO s (walkD k ds)).wp (fun xs s' => s'.env = env ∧ (∃ fd, s'.mem = M fd) ∧ xs.length ≤ sizeLine ∧ X xs) NoX) (ho : ownFree env own = true)
    (h : ∀ xs, X xs → ∀ x ∈ xs, ∀ fd : Fd, ((asgT [] tg x false ⟨wipeE env own, M fd⟩).bind fun _ s => evE ft cf elt s).wp (fun p s' => Pd p.1 ∧ wipeE s'.env own = wipeE env own ∧ ∃ fd', s'.mem = M fd') NoX)
    (hQ : ∀ xs ds fd, X xs → ds.length = xs.length → (∀ d ∈ ds, Pd d) → Q (.lst ds, true) ⟨env, M fd⟩) : (evE ft cf (.lc elt tg k its [] own) s).wp Q Z := by
  cases e : (evEs ft cf its s).bind fun ds s => liftO s (walkD k ds) with
  | ok xs s' =>
    rw [e] at h0
    obtain ⟨h1, ⟨fd, h2⟩, hl, hx⟩ := h0
    obtain ⟨env1, m1⟩ := s'
    subst h1 h2
    obtain ⟨ds, fd', l1, l2, l3⟩ := lc_ev (M := M) (ft := ft) (cf := cf) (elt := elt) (tg := tg) (k := k) (its := its) (own := own) (s := s) (xs := xs) (Pd := Pd) fd e ho hl (fun x hm a => by
      have q := h xs hx x hm a
      cases e1 : (asgT [] tg x false ⟨wipeE env1 own, M a⟩).bind fun _ s => evE ft cf elt s with
      | ok p s2 =>
        rw [e1] at q
        obtain ⟨q1, q2, fd2, q3⟩ := q
        obtain ⟨d, fr⟩ := p
        obtain ⟨env2, m2⟩ := s2
        cases q3
        exact ⟨d, fd2, env2, fr, q1, q2, rfl⟩
      | exc c fs s2 => rw [e1] at q; exact q.elim
      | no => rw [e1] at q; exact q.elim)
    rw [l3]
    exact hQ xs ds fd' hx l1 l2
  | exc c fs s' => rw [e] at h0; exact h0.elim
  | no => rw [e] at h0; exact h0.elim
end Ly
set_option Elab.async false
set_option linter.all false
set_option maxRecDepth 100000
set_option maxHeartbeats 4000000
/-! Ly41: the drawing of kinds. -/
namespace Ly
open PySem PySem.Spec PyProof.Rows L2
namespace H
def b__law_number : List St := [
  .asg (.v 1) (.call "_law_take" [.v 0, .c (.int 9)]),
  .ife (.cmp .lt (.v 1) (.c (.int 4))) [
    .ret (.ix (.lst [.c (.int 0), .c (.int 1), .neg (.c (.int 1)), .c (.int 2)]) (.v 1))] [],
  .ife (.cmp .lt (.v 1) (.c (.int 7))) [
    .ret (.bin .sub (.call "_law_take" [.v 0, .c (.int 23)]) (.c (.int 11)))] [],
  .ife (.cmp .eq (.v 1) (.c (.int 7))) [
    .ret (.ix (.lst [.c (.int 999999999999), .neg (.c (.int 999999999999)), .c (.int 10), .neg (.c (.int 10)), .c (.int 100000000000)]) (.call "_law_take" [.v 0, .c (.int 5)]))] [],
  .ret (.bin .sub (.call "_law_take" [.v 0, .c (.int 1999999999999)]) (.c (.int 999999999999)))]
def f__law_number : Fn := ⟨1, 2, [0], b__law_number⟩
def b__law_answer_kind : List St := [
  .asg (.v 2) (.call "_law_take" [.v 0, .c (.int 6)]),
  .ife (.and (.cmp .gt (.v 1) (.c (.int 0))) (.cmp .gt (.v 2) (.c (.int 3)))) [
    .asg (.v 3) (.call "_law_answer_kind" [.v 0, .bin .sub (.v 1) (.c (.int 1))]),
    .ret (.tup [.c (.str "both"), .v 3, .call "_law_answer_kind" [.v 0, .bin .sub (.v 1) (.c (.int 1))]])] [],
  .ife (.cmp .eq (.v 2) (.c (.int 0))) [
    .ret (.tup [.c (.str "some")])] [],
  .ret (.tup [.c (.str "is"), .call "_law_number" [.v 0]])]
def f__law_answer_kind : Fn := ⟨2, 4, [0], b__law_answer_kind⟩
def b__law_kind : List St := [
  .asg (.v 2) (.call "_law_take" [.v 0, .c (.int 8)]),
  .ife (.or (.cmp .eq (.v 1) (.c (.int 0))) (.cmp .lt (.v 2) (.c (.int 3)))) [
    .ret (.call "_law_answer_kind" [.v 0, .blt .min [.v 1, .c (.int 2)]])] [],
  .ife (.cmp .lt (.v 2) (.c (.int 5))) [
    .ret (.tup [.ix (.lst [.c (.str "left"), .c (.str "right")]) (.bin .sub (.v 2) (.c (.int 3))), .call "_law_kind" [.v 0, .bin .sub (.v 1) (.c (.int 1))]])] [],
  .asg (.v 3) (.lc (.call "_law_kind" [.v 0, .bin .sub (.v 1) (.c (.int 1))]) (.v 4) .rng [.call "_law_take" [.v 0, .c (.int 4)]] [] [4]),
  .ife (.and (.cmp .gt (.blt .len [.v 3]) (.c (.int 1))) (.cmp .eq (.call "_law_take" [.v 0, .c (.int 2)]) (.c (.int 0)))) [
    .seti (.v 3) (.c (.int 1)) (.ix (.v 3) (.c (.int 0)))] [],
  .ret (.tup [.c (.str "way"), .blt .tuple [.blt .sorted [.v 3]], .call "_law_kind" [.v 0, .bin .sub (.v 1) (.c (.int 1))]])]
def f__law_kind : Fn := ⟨2, 5, [0], b__law_kind⟩
end H
structure GenKd (ft : Str → Option Fn) : Prop where
  l_take : ft "_law_take" = some H.f__law_take
  l_number : ft "_law_number" = some H.f__law_number
  l_answer_kind : ft "_law_answer_kind" = some H.f__law_answer_kind
  l_kind : ft "_law_kind" = some H.f__law_kind
theorem GenKd.c_l_take {ft : Str → Option Fn} (g : GenKd ft) (cf : Str → List D → Mem → CR) (s : S) (es : List E) : evE ft cf (.call "_law_take" es) s = (evAs ft cf [0] 0 es s).bind fun ds s => if ds.length = 2 then ofCR s (cf "_law_take" ds s.mem) else .no := ev_call ft cf s g.l_take es
theorem GenKd.c_l_number {ft : Str → Option Fn} (g : GenKd ft) (cf : Str → List D → Mem → CR) (s : S) (es : List E) : evE ft cf (.call "_law_number" es) s = (evAs ft cf [0] 0 es s).bind fun ds s => if ds.length = 1 then ofCR s (cf "_law_number" ds s.mem) else .no := ev_call ft cf s g.l_number es
theorem GenKd.c_l_answer_kind {ft : Str → Option Fn} (g : GenKd ft) (cf : Str → List D → Mem → CR) (s : S) (es : List E) : evE ft cf (.call "_law_answer_kind" es) s = (evAs ft cf [0] 0 es s).bind fun ds s => if ds.length = 2 then ofCR s (cf "_law_answer_kind" ds s.mem) else .no := ev_call ft cf s g.l_answer_kind es
theorem GenKd.c_l_kind {ft : Str → Option Fn} (g : GenKd ft) (cf : Str → List D → Mem → CR) (s : S) (es : List E) : evE ft cf (.call "_law_kind" es) s = (evAs ft cf [0] 0 es s).bind fun ds s => if ds.length = 2 then ofCR s (cf "_law_kind" ds s.mem) else .no := ev_call ft cf s g.l_kind es
/-- written data: rows at most so long, so deep -/
def Gd (L b : Nat) (d : D) : Prop := D.gl L d = true ∧ D.dep d ≤ b
theorem Gd.mono {L b L' b' : Nat} {d : D} (h : Gd L b d) (h1 : L ≤ L') (h2 : b ≤ b') : Gd L' b' d := ⟨gl_mono h1 d h.1, Nat.le_trans h.2 h2⟩
theorem gdT {L b : Nat} {xs : List D} : Gd L (b + 1) (.tup xs) ↔ xs.length ≤ L ∧ ∀ x ∈ xs, Gd L b x := by
  unfold Gd
  rw [gl_tup, dep_tup]
  constructor
  · rintro ⟨⟨h1, h2⟩, h3⟩
    exact ⟨h1, fun x hx => ⟨h2 x hx, Nat.le_trans (deps_memS hx) (by omega)⟩⟩
  · rintro ⟨h1, h2⟩
    exact ⟨⟨h1, fun x hx => (h2 x hx).1⟩, by have := deps_iff.mpr fun x hx => (h2 x hx).2; omega⟩
theorem gdL {L b : Nat} {xs : List D} : Gd L (b + 1) (.lst xs) ↔ xs.length ≤ L ∧ ∀ x ∈ xs, Gd L b x := gdT
theorem gdS {L b : Nat} (x : Str) : Gd L b (.str x) := ⟨rfl, Nat.zero_le _⟩
theorem gdI {L b : Nat} (x : Int) : Gd L b (.int x) := ⟨rfl, Nat.zero_le _⟩
theorem gdB {L b : Nat} (x : Bool) : Gd L b (.bl x) := ⟨rfl, Nat.zero_le _⟩
theorem gdN {L b : Nat} : Gd L b .non := ⟨rfl, Nat.zero_le _⟩
/-- a kind, so deep -/
def KdP (b : Nat) (d : D) : Prop := isK d = true ∧ Gd 100 b d
def AkP (b : Nat) (d : D) : Prop := KdP b d ∧ ansD d = true
theorem KdP.mono {b c : Nat} {d : D} (h : KdP b d) (q : b ≤ c) : KdP c d := ⟨h.1, h.2.mono (Nat.le_refl _) q⟩
theorem AkP.mono {b c : Nat} {d : D} (h : AkP b d) (q : b ≤ c) : AkP c d := ⟨h.1.mono q, h.2⟩
theorem AkP.is (b : Nat) (i : Int) : AkP (b + 1) (.tup [.str "is", .int i]) := ⟨⟨form_isK (.is i), gdT.mpr ⟨by simp, by simp [gdS, gdI]⟩⟩, rfl⟩
theorem AkP.some (b : Nat) : AkP (b + 1) (.tup [.str "some"]) := ⟨⟨form_isK .some, gdT.mpr ⟨by simp, by simp [gdS]⟩⟩, rfl⟩
theorem AkP.both {b : Nat} {x y : D} (h : AkP b x) (q : AkP b y) : AkP (b + 1) (.tup [.str "both", x, y]) := ⟨⟨form_isK (.both x y h.1.1 q.1.1 h.2 q.2), gdT.mpr ⟨by simp, by simp [gdS, h.1.2, q.1.2]⟩⟩, rfl⟩
theorem KdP.left {b : Nat} {x : D} (h : KdP b x) : KdP (b + 1) (.tup [.str "left", x]) := ⟨form_isK (.left x h.1), gdT.mpr ⟨by simp, by simp [gdS, h.2]⟩⟩
theorem KdP.right {b : Nat} {x : D} (h : KdP b x) : KdP (b + 1) (.tup [.str "right", x]) := ⟨form_isK (.right x h.1), gdT.mpr ⟨by simp, by simp [gdS, h.2]⟩⟩
theorem kds_ks {b : Nat} {xs : List D} (h : ∀ x ∈ xs, KdP b x) : isKs xs = true := isKs_iff.mpr fun x hx => (h x hx).1
theorem kds_deps {b : Nat} {xs : List D} (h : ∀ x ∈ xs, KdP b x) : D.deps xs ≤ b := deps_iff.mpr fun x hx => (h x hx).2.2
theorem KdP.way {b : Nat} {xs : List D} {k : D} (h : ∀ x ∈ xs, KdP b x) (hl : xs.length ≤ 100) (hk : KdP (b + 1) k) : KdP (b + 2) (.tup [.str "way", .tup (sortD xs), k]) := by
  refine ⟨form_isK (.way _ k (isKs_sort (kds_ks h)) (inOrd_sort xs) hk.1), gdT.mpr ⟨by simp, ?_⟩⟩
  have : Gd 100 (b + 1) (.tup (sortD xs)) := gdT.mpr ⟨by rw [sortD_len]; exact hl, fun x hx => (h x ((sortD_perm xs).mem_iff.mp hx)).2⟩
  simp [gdS, this, hk.2]
theorem sort_kds {b : Nat} {xs : List D} (h : ∀ x ∈ xs, KdP b x) (hb : b ≤ 200) : bfn .sorted [.lst xs] = some (.lst (sortD xs), true) := sorted_KL (kds_ks h) (Nat.le_trans (kds_deps h) hb)
section
variable {ft : Str → Option Fn} (g : GenKd ft) {M : Fd → Mem} {r : Nat} (hM : Cell M r)
include g hM
theorem number_g : Gen ft M r "_law_number" [] 2 (fun d => ∃ i, d = .int i) := by
  refine Gen.of g.l_number rfl fun n hn fd => ?_
  dsimp only [H.f__law_number, H.b__law_number, env0, List.map, List.cons_append, List.nil_append, List.replicate]
  repeat' (first
    | (with_reducible refine w_asg (w_abs fun Q1 hQ => ?_); simp [R.assoc, toB_b, toB_call, toB_if, g.c_l_take])
    | (with_reducible refine w_ret (w_abs fun Q1 hQ => ?_); simp [R.assoc, toB_b, toB_call, toB_if, g.c_l_take])
    | (with_reducible refine w_ife (w_abs fun Q1 hQ => ?_); simp [R.assoc, toB_b, toB_call, toB_if, g.c_l_take])
    | (with_reducible refine w_ex (w_abs fun Q1 hQ => ?_); simp [R.assoc, toB_b, toB_call, toB_if, g.c_l_take])
    | (refine Gen.w (Gen.take g.l_take hM _ (by omega) (by omega)) (by omega) ?_; rintro _ fd ⟨v, rfl, h0, h1⟩; try simp [R.assoc, toB_b, toB_call, toB_if, g.c_l_take])
    | (refine Gen.w0 (Gen.take g.l_take hM _ (by omega) (by omega)) (by omega) ?_; rintro _ fd ⟨v, rfl, h0, h1⟩; try simp [R.assoc, toB_b, toB_call, toB_if, g.c_l_take])
    | (refine w_atI (by omega) (by simp only [List.length_cons, List.length_nil]; omega) ?_; simp only [List.forall_mem_cons, List.forall_mem_nil, and_true]; and_intros <;> try simp [R.assoc, toB_b, toB_call, toB_if, g.c_l_take])
    | (refine w_atI0 (by omega) (by simp only [List.length_cons, List.length_nil]; omega) ?_; simp only [List.forall_mem_cons, List.forall_mem_nil, and_true]; and_intros <;> try simp [R.assoc, toB_b, toB_call, toB_if, g.c_l_take])
    | (refine w_if (fun hc => ?_) (fun hc => ?_) <;> try simp [R.assoc, toB_b, toB_call, toB_if, g.c_l_take])
    | (refine w_ifb (fun hc => ?_) (fun hc => ?_) <;> try simp [R.assoc, toB_b, toB_call, toB_if, g.c_l_take])
    | (refine hQ _ _ ?_; clear hQ Q1; try simp only [asgT_v, asgT_t, List.contains_cons, List.contains_nil, Nat.reduceBEq, Bool.or_false, Bool.false_or, Bool.false_eq_true, if_false, if_true, wp_ok, List.set_cons_succ, List.set_cons_zero, List.cons_append, List.nil_append, decide_eq_true_eq, decide_eq_false_iff_not, Bool.or_eq_true, Bool.and_eq_true, Bool.or_eq_false_iff, Bool.and_eq_false_iff, Bool.not_eq_true', Bool.not_eq_false', true_implies, false_implies, Bool.true_eq_false])
    | (with_reducible refine w_l ?_)
    | (with_reducible refine w_r ?_)
    | (refine w_two ?_ ?_ <;> intro hc <;> try simp only [reduceCtorEq] at hc))
  all_goals exact ⟨by simp, _, rfl, _, rfl⟩
theorem akind_g : ∀ (k : Nat) (deep : Int), 0 ≤ deep → deep ≤ k → Gen ft M r "_law_answer_kind" [.int deep] (k + 3) (AkP (k + 1)) := by
  intro k
  induction k with
  | zero =>
    intro deep a0 a1
    obtain rfl : deep = 0 := by omega
    refine Gen.of g.l_answer_kind rfl fun n hn fd => ?_
    dsimp only [H.f__law_answer_kind, H.b__law_answer_kind, env0, List.map, List.cons_append, List.nil_append, List.replicate]
    repeat' (first
      | (with_reducible refine w_asg (w_abs fun Q1 hQ => ?_); simp [R.assoc, toB_b, toB_call, toB_if, g.c_l_take, g.c_l_answer_kind, g.c_l_number])
      | (with_reducible refine w_ret (w_abs fun Q1 hQ => ?_); simp [R.assoc, toB_b, toB_call, toB_if, g.c_l_take, g.c_l_answer_kind, g.c_l_number])
      | (with_reducible refine w_ife (w_abs fun Q1 hQ => ?_); simp [R.assoc, toB_b, toB_call, toB_if, g.c_l_take, g.c_l_answer_kind, g.c_l_number])
      | (with_reducible refine w_ex (w_abs fun Q1 hQ => ?_); simp [R.assoc, toB_b, toB_call, toB_if, g.c_l_take, g.c_l_answer_kind, g.c_l_number])
      | (refine Gen.w (Gen.take g.l_take hM _ (by omega) (by omega)) (by omega) ?_; rintro _ fd ⟨v, rfl, h0, h1⟩; try simp [R.assoc, toB_b, toB_call, toB_if, g.c_l_take, g.c_l_answer_kind, g.c_l_number])
      | (refine Gen.w0 (Gen.take g.l_take hM _ (by omega) (by omega)) (by omega) ?_; rintro _ fd ⟨v, rfl, h0, h1⟩; try simp [R.assoc, toB_b, toB_call, toB_if, g.c_l_take, g.c_l_answer_kind, g.c_l_number])
      | (refine Gen.w (number_g g hM) (by omega) ?_; rintro _ fd ⟨i, rfl⟩; try simp [R.assoc, toB_b, toB_call, toB_if, g.c_l_take, g.c_l_answer_kind, g.c_l_number])
      | (refine Gen.w0 (number_g g hM) (by omega) ?_; rintro _ fd ⟨i, rfl⟩; try simp [R.assoc, toB_b, toB_call, toB_if, g.c_l_take, g.c_l_answer_kind, g.c_l_number])
      | (refine w_atI (by omega) (by simp only [List.length_cons, List.length_nil]; omega) ?_; simp only [List.forall_mem_cons, List.forall_mem_nil, and_true]; and_intros <;> try simp [R.assoc, toB_b, toB_call, toB_if, g.c_l_take, g.c_l_answer_kind, g.c_l_number])
      | (refine w_atI0 (by omega) (by simp only [List.length_cons, List.length_nil]; omega) ?_; simp only [List.forall_mem_cons, List.forall_mem_nil, and_true]; and_intros <;> try simp [R.assoc, toB_b, toB_call, toB_if, g.c_l_take, g.c_l_answer_kind, g.c_l_number])
      | (refine w_if (fun hc => ?_) (fun hc => ?_) <;> try simp [R.assoc, toB_b, toB_call, toB_if, g.c_l_take, g.c_l_answer_kind, g.c_l_number])
      | (refine w_ifb (fun hc => ?_) (fun hc => ?_) <;> try simp [R.assoc, toB_b, toB_call, toB_if, g.c_l_take, g.c_l_answer_kind, g.c_l_number])
      | (refine hQ _ _ ?_; clear hQ Q1; try simp only [asgT_v, asgT_t, List.contains_cons, List.contains_nil, Nat.reduceBEq, Bool.or_false, Bool.false_or, Bool.false_eq_true, if_false, if_true, wp_ok, List.set_cons_succ, List.set_cons_zero, List.cons_append, List.nil_append, decide_eq_true_eq, decide_eq_false_iff_not, Bool.or_eq_true, Bool.and_eq_true, Bool.or_eq_false_iff, Bool.and_eq_false_iff, Bool.not_eq_true', Bool.not_eq_false', true_implies, false_implies, Bool.true_eq_false])
      | (with_reducible refine w_l ?_)
      | (with_reducible refine w_r ?_)
      | (refine w_two ?_ ?_ <;> intro hc <;> try simp only [reduceCtorEq] at hc))
    all_goals first
      | exact ⟨by simp, _, rfl, AkP.some _⟩
      | exact ⟨by simp, _, rfl, AkP.is _ _⟩
  | succ k ih =>
    intro deep a0 a1
    refine Gen.of g.l_answer_kind rfl fun n hn fd => ?_
    dsimp only [H.f__law_answer_kind, H.b__law_answer_kind, env0, List.map, List.cons_append, List.nil_append, List.replicate]
    by_cases hd : 0 < deep
    · skip
      repeat' (first
        | (with_reducible refine w_asg (w_abs fun Q1 hQ => ?_); simp [R.assoc, toB_b, toB_call, toB_if, g.c_l_take, g.c_l_answer_kind, g.c_l_number, hd])
        | (with_reducible refine w_ret (w_abs fun Q1 hQ => ?_); simp [R.assoc, toB_b, toB_call, toB_if, g.c_l_take, g.c_l_answer_kind, g.c_l_number, hd])
        | (with_reducible refine w_ife (w_abs fun Q1 hQ => ?_); simp [R.assoc, toB_b, toB_call, toB_if, g.c_l_take, g.c_l_answer_kind, g.c_l_number, hd])
        | (with_reducible refine w_ex (w_abs fun Q1 hQ => ?_); simp [R.assoc, toB_b, toB_call, toB_if, g.c_l_take, g.c_l_answer_kind, g.c_l_number, hd])
        | (refine Gen.w (Gen.take g.l_take hM _ (by omega) (by omega)) (by omega) ?_; rintro _ fd ⟨v, rfl, h0, h1⟩; try simp [R.assoc, toB_b, toB_call, toB_if, g.c_l_take, g.c_l_answer_kind, g.c_l_number, hd])
        | (refine Gen.w0 (Gen.take g.l_take hM _ (by omega) (by omega)) (by omega) ?_; rintro _ fd ⟨v, rfl, h0, h1⟩; try simp [R.assoc, toB_b, toB_call, toB_if, g.c_l_take, g.c_l_answer_kind, g.c_l_number, hd])
        | (refine Gen.w (number_g g hM) (by omega) ?_; rintro _ fd ⟨i, rfl⟩; try simp [R.assoc, toB_b, toB_call, toB_if, g.c_l_take, g.c_l_answer_kind, g.c_l_number, hd])
        | (refine Gen.w0 (number_g g hM) (by omega) ?_; rintro _ fd ⟨i, rfl⟩; try simp [R.assoc, toB_b, toB_call, toB_if, g.c_l_take, g.c_l_answer_kind, g.c_l_number, hd])
        | (refine Gen.w (ih (deep - 1) (by omega) (by omega)) (by omega) ?_; rintro _ fd hq; try simp [R.assoc, toB_b, toB_call, toB_if, g.c_l_take, g.c_l_answer_kind, g.c_l_number, hd])
        | (refine Gen.w0 (ih (deep - 1) (by omega) (by omega)) (by omega) ?_; rintro _ fd hq; try simp [R.assoc, toB_b, toB_call, toB_if, g.c_l_take, g.c_l_answer_kind, g.c_l_number, hd])
        | (refine w_atI (by omega) (by simp only [List.length_cons, List.length_nil]; omega) ?_; simp only [List.forall_mem_cons, List.forall_mem_nil, and_true]; and_intros <;> try simp [R.assoc, toB_b, toB_call, toB_if, g.c_l_take, g.c_l_answer_kind, g.c_l_number, hd])
        | (refine w_atI0 (by omega) (by simp only [List.length_cons, List.length_nil]; omega) ?_; simp only [List.forall_mem_cons, List.forall_mem_nil, and_true]; and_intros <;> try simp [R.assoc, toB_b, toB_call, toB_if, g.c_l_take, g.c_l_answer_kind, g.c_l_number, hd])
        | (refine w_if (fun hc => ?_) (fun hc => ?_) <;> try simp [R.assoc, toB_b, toB_call, toB_if, g.c_l_take, g.c_l_answer_kind, g.c_l_number, hd])
        | (refine w_ifb (fun hc => ?_) (fun hc => ?_) <;> try simp [R.assoc, toB_b, toB_call, toB_if, g.c_l_take, g.c_l_answer_kind, g.c_l_number, hd])
        | (refine hQ _ _ ?_; clear hQ Q1; try simp only [asgT_v, asgT_t, List.contains_cons, List.contains_nil, Nat.reduceBEq, Bool.or_false, Bool.false_or, Bool.false_eq_true, if_false, if_true, wp_ok, List.set_cons_succ, List.set_cons_zero, List.cons_append, List.nil_append, decide_eq_true_eq, decide_eq_false_iff_not, Bool.or_eq_true, Bool.and_eq_true, Bool.or_eq_false_iff, Bool.and_eq_false_iff, Bool.not_eq_true', Bool.not_eq_false', true_implies, false_implies, Bool.true_eq_false])
        | (with_reducible refine w_l ?_)
        | (with_reducible refine w_r ?_)
        | (refine w_two ?_ ?_ <;> intro hc <;> try simp only [reduceCtorEq] at hc))
      all_goals first
        | exact ⟨by simp, _, rfl, AkP.some _⟩
        | exact ⟨by simp, _, rfl, AkP.is _ _⟩
        | exact ⟨by simp, _, rfl, AkP.both (by assumption) (by assumption)⟩
    · skip
      repeat' (first
        | (with_reducible refine w_asg (w_abs fun Q1 hQ => ?_); simp [R.assoc, toB_b, toB_call, toB_if, g.c_l_take, g.c_l_answer_kind, g.c_l_number, hd])
        | (with_reducible refine w_ret (w_abs fun Q1 hQ => ?_); simp [R.assoc, toB_b, toB_call, toB_if, g.c_l_take, g.c_l_answer_kind, g.c_l_number, hd])
        | (with_reducible refine w_ife (w_abs fun Q1 hQ => ?_); simp [R.assoc, toB_b, toB_call, toB_if, g.c_l_take, g.c_l_answer_kind, g.c_l_number, hd])
        | (with_reducible refine w_ex (w_abs fun Q1 hQ => ?_); simp [R.assoc, toB_b, toB_call, toB_if, g.c_l_take, g.c_l_answer_kind, g.c_l_number, hd])
        | (refine Gen.w (Gen.take g.l_take hM _ (by omega) (by omega)) (by omega) ?_; rintro _ fd ⟨v, rfl, h0, h1⟩; try simp [R.assoc, toB_b, toB_call, toB_if, g.c_l_take, g.c_l_answer_kind, g.c_l_number, hd])
        | (refine Gen.w0 (Gen.take g.l_take hM _ (by omega) (by omega)) (by omega) ?_; rintro _ fd ⟨v, rfl, h0, h1⟩; try simp [R.assoc, toB_b, toB_call, toB_if, g.c_l_take, g.c_l_answer_kind, g.c_l_number, hd])
        | (refine Gen.w (number_g g hM) (by omega) ?_; rintro _ fd ⟨i, rfl⟩; try simp [R.assoc, toB_b, toB_call, toB_if, g.c_l_take, g.c_l_answer_kind, g.c_l_number, hd])
        | (refine Gen.w0 (number_g g hM) (by omega) ?_; rintro _ fd ⟨i, rfl⟩; try simp [R.assoc, toB_b, toB_call, toB_if, g.c_l_take, g.c_l_answer_kind, g.c_l_number, hd])
        | (refine w_atI (by omega) (by simp only [List.length_cons, List.length_nil]; omega) ?_; simp only [List.forall_mem_cons, List.forall_mem_nil, and_true]; and_intros <;> try simp [R.assoc, toB_b, toB_call, toB_if, g.c_l_take, g.c_l_answer_kind, g.c_l_number, hd])
        | (refine w_atI0 (by omega) (by simp only [List.length_cons, List.length_nil]; omega) ?_; simp only [List.forall_mem_cons, List.forall_mem_nil, and_true]; and_intros <;> try simp [R.assoc, toB_b, toB_call, toB_if, g.c_l_take, g.c_l_answer_kind, g.c_l_number, hd])
        | (refine w_if (fun hc => ?_) (fun hc => ?_) <;> try simp [R.assoc, toB_b, toB_call, toB_if, g.c_l_take, g.c_l_answer_kind, g.c_l_number, hd])
        | (refine w_ifb (fun hc => ?_) (fun hc => ?_) <;> try simp [R.assoc, toB_b, toB_call, toB_if, g.c_l_take, g.c_l_answer_kind, g.c_l_number, hd])
        | (refine hQ _ _ ?_; clear hQ Q1; try simp only [asgT_v, asgT_t, List.contains_cons, List.contains_nil, Nat.reduceBEq, Bool.or_false, Bool.false_or, Bool.false_eq_true, if_false, if_true, wp_ok, List.set_cons_succ, List.set_cons_zero, List.cons_append, List.nil_append, decide_eq_true_eq, decide_eq_false_iff_not, Bool.or_eq_true, Bool.and_eq_true, Bool.or_eq_false_iff, Bool.and_eq_false_iff, Bool.not_eq_true', Bool.not_eq_false', true_implies, false_implies, Bool.true_eq_false])
        | (with_reducible refine w_l ?_)
        | (with_reducible refine w_r ?_)
        | (refine w_two ?_ ?_ <;> intro hc <;> try simp only [reduceCtorEq] at hc))
      all_goals first
        | exact ⟨by simp, _, rfl, AkP.some _⟩
        | exact ⟨by simp, _, rfl, AkP.is _ _⟩
theorem kind0_g : Gen ft M r "_law_kind" [.int 0] 7 (AkP 1) := by
  refine Gen.of g.l_kind rfl fun n hn fd => ?_
  dsimp only [H.f__law_kind, H.b__law_kind, env0, List.map, List.cons_append, List.nil_append, List.replicate]
  repeat' (first
    | (with_reducible refine w_asg (w_abs fun Q1 hQ => ?_); simp [R.assoc, toB_b, toB_call, toB_if, g.c_l_take, g.c_l_answer_kind])
    | (with_reducible refine w_ret (w_abs fun Q1 hQ => ?_); simp [R.assoc, toB_b, toB_call, toB_if, g.c_l_take, g.c_l_answer_kind])
    | (with_reducible refine w_ife (w_abs fun Q1 hQ => ?_); simp [R.assoc, toB_b, toB_call, toB_if, g.c_l_take, g.c_l_answer_kind])
    | (with_reducible refine w_ex (w_abs fun Q1 hQ => ?_); simp [R.assoc, toB_b, toB_call, toB_if, g.c_l_take, g.c_l_answer_kind])
    | (refine Gen.w (Gen.take g.l_take hM _ (by omega) (by omega)) (by omega) ?_; rintro _ fd ⟨v, rfl, h0, h1⟩; try simp [R.assoc, toB_b, toB_call, toB_if, g.c_l_take, g.c_l_answer_kind])
    | (refine Gen.w0 (Gen.take g.l_take hM _ (by omega) (by omega)) (by omega) ?_; rintro _ fd ⟨v, rfl, h0, h1⟩; try simp [R.assoc, toB_b, toB_call, toB_if, g.c_l_take, g.c_l_answer_kind])
    | (refine Gen.w (akind_g g hM 0 0 (by omega) (by omega)) (by omega) ?_; rintro _ fd hq; try simp [R.assoc, toB_b, toB_call, toB_if, g.c_l_take, g.c_l_answer_kind])
    | (refine Gen.w0 (akind_g g hM 0 0 (by omega) (by omega)) (by omega) ?_; rintro _ fd hq; try simp [R.assoc, toB_b, toB_call, toB_if, g.c_l_take, g.c_l_answer_kind])
    | (refine w_atI (by omega) (by simp only [List.length_cons, List.length_nil]; omega) ?_; simp only [List.forall_mem_cons, List.forall_mem_nil, and_true]; and_intros <;> try simp [R.assoc, toB_b, toB_call, toB_if, g.c_l_take, g.c_l_answer_kind])
    | (refine w_atI0 (by omega) (by simp only [List.length_cons, List.length_nil]; omega) ?_; simp only [List.forall_mem_cons, List.forall_mem_nil, and_true]; and_intros <;> try simp [R.assoc, toB_b, toB_call, toB_if, g.c_l_take, g.c_l_answer_kind])
    | (refine w_if (fun hc => ?_) (fun hc => ?_) <;> try simp [R.assoc, toB_b, toB_call, toB_if, g.c_l_take, g.c_l_answer_kind])
    | (refine w_ifb (fun hc => ?_) (fun hc => ?_) <;> try simp [R.assoc, toB_b, toB_call, toB_if, g.c_l_take, g.c_l_answer_kind])
    | (refine hQ _ _ ?_; clear hQ Q1; try simp only [asgT_v, asgT_t, List.contains_cons, List.contains_nil, Nat.reduceBEq, Bool.or_false, Bool.false_or, Bool.false_eq_true, if_false, if_true, wp_ok, List.set_cons_succ, List.set_cons_zero, List.cons_append, List.nil_append, decide_eq_true_eq, decide_eq_false_iff_not, Bool.or_eq_true, Bool.and_eq_true, Bool.or_eq_false_iff, Bool.and_eq_false_iff, Bool.not_eq_true', Bool.not_eq_false', true_implies, false_implies, Bool.true_eq_false])
    | (with_reducible refine w_l ?_)
    | (with_reducible refine w_r ?_)
    | (refine w_two ?_ ?_ <;> intro hc <;> try simp only [reduceCtorEq] at hc))
  all_goals exact ⟨by simp, _, rfl, by assumption⟩
theorem kind_g : ∀ (k : Nat) (deep : Int), 0 ≤ deep → deep ≤ k → k ≤ 60 → Gen ft M r "_law_kind" [.int deep] (k + 7) (KdP (2 * k + 3)) := by
  intro k
  induction k with
  | zero =>
    intro deep a0 a1 _
    obtain rfl : deep = 0 := by omega
    exact (kind0_g g hM).mono (by omega) fun d h => h.1.mono (by omega)
  | succ k ih =>
    intro deep a0 a1 hk
    by_cases hd : deep = 0
    · subst hd
      exact (kind0_g g hM).mono (by omega) fun d h => h.1.mono (by omega)
    have ih := ih (deep - 1) (by omega) (by omega) (by omega)
    have am : Gen ft M r "_law_answer_kind" [.int (if 2 < deep then 2 else deep)] (2 + 3) (AkP (2 + 1)) := akind_g g hM 2 _ (by split <;> omega) (by split <;> omega)
    refine Gen.of g.l_kind rfl fun n hn fd => ?_
    dsimp only [H.f__law_kind, H.b__law_kind, env0, List.map, List.cons_append, List.nil_append, List.replicate]
    repeat' (first
      | (with_reducible refine w_asg (w_abs fun Q1 hQ => ?_); simp [R.assoc, toB_b, toB_call, toB_if, g.c_l_take, g.c_l_answer_kind, g.c_l_kind, hd])
      | (with_reducible refine w_ret (w_abs fun Q1 hQ => ?_); simp [R.assoc, toB_b, toB_call, toB_if, g.c_l_take, g.c_l_answer_kind, g.c_l_kind, hd])
      | (with_reducible refine w_ife (w_abs fun Q1 hQ => ?_); simp [R.assoc, toB_b, toB_call, toB_if, g.c_l_take, g.c_l_answer_kind, g.c_l_kind, hd])
      | (with_reducible refine w_ex (w_abs fun Q1 hQ => ?_); simp [R.assoc, toB_b, toB_call, toB_if, g.c_l_take, g.c_l_answer_kind, g.c_l_kind, hd])
      | (refine Gen.w (Gen.take g.l_take hM _ (by omega) (by omega)) (by omega) ?_; rintro _ fd ⟨v, rfl, h0, h1⟩; try simp [R.assoc, toB_b, toB_call, toB_if, g.c_l_take, g.c_l_answer_kind, g.c_l_kind, hd])
      | (refine Gen.w0 (Gen.take g.l_take hM _ (by omega) (by omega)) (by omega) ?_; rintro _ fd ⟨v, rfl, h0, h1⟩; try simp [R.assoc, toB_b, toB_call, toB_if, g.c_l_take, g.c_l_answer_kind, g.c_l_kind, hd])
      | (refine Gen.w (am) (by omega) ?_; rintro _ fd hq; try simp [R.assoc, toB_b, toB_call, toB_if, g.c_l_take, g.c_l_answer_kind, g.c_l_kind, hd])
      | (refine Gen.w0 (am) (by omega) ?_; rintro _ fd hq; try simp [R.assoc, toB_b, toB_call, toB_if, g.c_l_take, g.c_l_answer_kind, g.c_l_kind, hd])
      | (refine Gen.w (ih) (by omega) ?_; rintro _ fd hq; try simp [R.assoc, toB_b, toB_call, toB_if, g.c_l_take, g.c_l_answer_kind, g.c_l_kind, hd])
      | (refine Gen.w0 (ih) (by omega) ?_; rintro _ fd hq; try simp [R.assoc, toB_b, toB_call, toB_if, g.c_l_take, g.c_l_answer_kind, g.c_l_kind, hd])
      | (refine w_atI (by omega) (by simp only [List.length_cons, List.length_nil]; omega) ?_; simp only [List.forall_mem_cons, List.forall_mem_nil, and_true]; and_intros <;> try simp [R.assoc, toB_b, toB_call, toB_if, g.c_l_take, g.c_l_answer_kind, g.c_l_kind, hd])
      | (refine w_atI0 (by omega) (by simp only [List.length_cons, List.length_nil]; omega) ?_; simp only [List.forall_mem_cons, List.forall_mem_nil, and_true]; and_intros <;> try simp [R.assoc, toB_b, toB_call, toB_if, g.c_l_take, g.c_l_answer_kind, g.c_l_kind, hd])
      | (refine w_if (fun hc => ?_) (fun hc => ?_) <;> try simp [R.assoc, toB_b, toB_call, toB_if, g.c_l_take, g.c_l_answer_kind, g.c_l_kind, hd])
      | (refine w_ifb (fun hc => ?_) (fun hc => ?_) <;> try simp [R.assoc, toB_b, toB_call, toB_if, g.c_l_take, g.c_l_answer_kind, g.c_l_kind, hd])
      | (refine hQ _ _ ?_; clear hQ Q1; try simp only [asgT_v, asgT_t, List.contains_cons, List.contains_nil, Nat.reduceBEq, Bool.or_false, Bool.false_or, Bool.false_eq_true, if_false, if_true, wp_ok, List.set_cons_succ, List.set_cons_zero, List.cons_append, List.nil_append, decide_eq_true_eq, decide_eq_false_iff_not, Bool.or_eq_true, Bool.and_eq_true, Bool.or_eq_false_iff, Bool.and_eq_false_iff, Bool.not_eq_true', Bool.not_eq_false', true_implies, false_implies, Bool.true_eq_false])
      | (with_reducible refine w_l ?_)
      | (with_reducible refine w_r ?_)
      | (refine w_two ?_ ?_ <;> intro hc <;> try simp only [reduceCtorEq] at hc))
    all_goals first
      | exact ⟨by simp, _, rfl, KdP.mono (AkP.mono (by assumption) (by omega : 3 ≤ 2 * (k + 1) + 3)).1 (Nat.le_refl _)⟩
      | exact ⟨by simp, _, rfl, (KdP.left (by assumption)).mono (by omega)⟩
      | exact ⟨by simp, _, rfl, (KdP.right (by assumption)).mono (by omega)⟩
      | skip
    refine w_asg (w_abs fun Q1 hQ => ?_)
    refine lc_gen (M := M) (own := [4]) (env := [some (.ref r, false), some (.int deep, false), some (.int v, false), none, none]) (fun xs => xs.length ≤ 3) (KdP (2 * k + 3)) ?_ rfl ?_ ?_
    · skip
      simp [R.assoc, toB_b, toB_call, toB_if, g.c_l_take]
      refine Gen.w (Gen.take g.l_take hM _ (by omega) (by omega)) (by omega) ?_
      rintro _ fd ⟨w, rfl, z0, z1⟩
      simp [small_rg (i := w) (by omega) (by omega)]
      refine ⟨⟨fd.1, fd.2, rfl⟩, ?_, by omega⟩
      have := sl_le (n := 3) (by omega)
      omega
    · intro xs hxs x hx fd
      simp [wipeE, g.c_l_kind, -Prod.exists]
      refine Gen.w0 ih (by omega) ?_
      rintro _ fd hq
      exact ⟨hq, rfl, fd, rfl⟩
    · intro xs ds fd hx hl hds
      refine hQ _ _ ?_
      clear hQ Q1
      simp only [asgT_t, List.contains_cons, List.contains_nil, Nat.reduceBEq, Bool.or_false, Bool.false_or, Bool.false_eq_true, if_false, if_true, wp_ok, List.set_cons_succ, List.set_cons_zero]
      have hl : ds.length ≤ 3 := by omega
      match ds, hl, hds with
      | [], _, hds =>
        have so := sort_kds hds (by omega)
        repeat' (first
          | (with_reducible refine w_asg (w_abs fun Q1 hQ => ?_); simp [R.assoc, toB_b, toB_call, toB_if, g.c_l_take, g.c_l_kind, so])
          | (with_reducible refine w_ret (w_abs fun Q1 hQ => ?_); simp [R.assoc, toB_b, toB_call, toB_if, g.c_l_take, g.c_l_kind, so])
          | (with_reducible refine w_ife (w_abs fun Q1 hQ => ?_); simp [R.assoc, toB_b, toB_call, toB_if, g.c_l_take, g.c_l_kind, so])
          | (with_reducible refine w_ex (w_abs fun Q1 hQ => ?_); simp [R.assoc, toB_b, toB_call, toB_if, g.c_l_take, g.c_l_kind, so])
          | (refine Gen.w (Gen.take2 g.l_take hM) (by omega) ?_; rintro _ fd (rfl | rfl); try simp [R.assoc, toB_b, toB_call, toB_if, g.c_l_take, g.c_l_kind, so])
          | (refine Gen.w0 (Gen.take2 g.l_take hM) (by omega) ?_; rintro _ fd (rfl | rfl); try simp [R.assoc, toB_b, toB_call, toB_if, g.c_l_take, g.c_l_kind, so])
          | (refine Gen.w (ih) (by omega) ?_; rintro _ fd hq; try simp [R.assoc, toB_b, toB_call, toB_if, g.c_l_take, g.c_l_kind, so])
          | (refine Gen.w0 (ih) (by omega) ?_; rintro _ fd hq; try simp [R.assoc, toB_b, toB_call, toB_if, g.c_l_take, g.c_l_kind, so])
          | (refine w_atI (by omega) (by simp only [List.length_cons, List.length_nil]; omega) ?_; simp only [List.forall_mem_cons, List.forall_mem_nil, and_true]; and_intros <;> try simp [R.assoc, toB_b, toB_call, toB_if, g.c_l_take, g.c_l_kind, so])
          | (refine w_atI0 (by omega) (by simp only [List.length_cons, List.length_nil]; omega) ?_; simp only [List.forall_mem_cons, List.forall_mem_nil, and_true]; and_intros <;> try simp [R.assoc, toB_b, toB_call, toB_if, g.c_l_take, g.c_l_kind, so])
          | (refine w_if (fun hc => ?_) (fun hc => ?_) <;> try simp [R.assoc, toB_b, toB_call, toB_if, g.c_l_take, g.c_l_kind, so])
          | (refine w_ifb (fun hc => ?_) (fun hc => ?_) <;> try simp [R.assoc, toB_b, toB_call, toB_if, g.c_l_take, g.c_l_kind, so])
          | (refine hQ _ _ ?_; clear hQ Q1; try simp only [asgT_v, asgT_t, List.contains_cons, List.contains_nil, Nat.reduceBEq, Bool.or_false, Bool.false_or, Bool.false_eq_true, if_false, if_true, wp_ok, List.set_cons_succ, List.set_cons_zero, List.cons_append, List.nil_append, decide_eq_true_eq, decide_eq_false_iff_not, Bool.or_eq_true, Bool.and_eq_true, Bool.or_eq_false_iff, Bool.and_eq_false_iff, Bool.not_eq_true', Bool.not_eq_false', true_implies, false_implies, Bool.true_eq_false])
          | (with_reducible refine w_l ?_)
          | (with_reducible refine w_r ?_)
          | (refine w_two ?_ ?_ <;> intro hc <;> try simp only [reduceCtorEq] at hc))
        all_goals exact ⟨by simp, _, rfl, KdP.way hds (by simp) (hq.mono (by omega))⟩
      | [a], _, hds =>
        have so := sort_kds hds (by omega)
        repeat' (first
          | (with_reducible refine w_asg (w_abs fun Q1 hQ => ?_); simp [R.assoc, toB_b, toB_call, toB_if, g.c_l_take, g.c_l_kind, so])
          | (with_reducible refine w_ret (w_abs fun Q1 hQ => ?_); simp [R.assoc, toB_b, toB_call, toB_if, g.c_l_take, g.c_l_kind, so])
          | (with_reducible refine w_ife (w_abs fun Q1 hQ => ?_); simp [R.assoc, toB_b, toB_call, toB_if, g.c_l_take, g.c_l_kind, so])
          | (with_reducible refine w_ex (w_abs fun Q1 hQ => ?_); simp [R.assoc, toB_b, toB_call, toB_if, g.c_l_take, g.c_l_kind, so])
          | (refine Gen.w (Gen.take2 g.l_take hM) (by omega) ?_; rintro _ fd (rfl | rfl); try simp [R.assoc, toB_b, toB_call, toB_if, g.c_l_take, g.c_l_kind, so])
          | (refine Gen.w0 (Gen.take2 g.l_take hM) (by omega) ?_; rintro _ fd (rfl | rfl); try simp [R.assoc, toB_b, toB_call, toB_if, g.c_l_take, g.c_l_kind, so])
          | (refine Gen.w (ih) (by omega) ?_; rintro _ fd hq; try simp [R.assoc, toB_b, toB_call, toB_if, g.c_l_take, g.c_l_kind, so])
          | (refine Gen.w0 (ih) (by omega) ?_; rintro _ fd hq; try simp [R.assoc, toB_b, toB_call, toB_if, g.c_l_take, g.c_l_kind, so])
          | (refine w_atI (by omega) (by simp only [List.length_cons, List.length_nil]; omega) ?_; simp only [List.forall_mem_cons, List.forall_mem_nil, and_true]; and_intros <;> try simp [R.assoc, toB_b, toB_call, toB_if, g.c_l_take, g.c_l_kind, so])
          | (refine w_atI0 (by omega) (by simp only [List.length_cons, List.length_nil]; omega) ?_; simp only [List.forall_mem_cons, List.forall_mem_nil, and_true]; and_intros <;> try simp [R.assoc, toB_b, toB_call, toB_if, g.c_l_take, g.c_l_kind, so])
          | (refine w_if (fun hc => ?_) (fun hc => ?_) <;> try simp [R.assoc, toB_b, toB_call, toB_if, g.c_l_take, g.c_l_kind, so])
          | (refine w_ifb (fun hc => ?_) (fun hc => ?_) <;> try simp [R.assoc, toB_b, toB_call, toB_if, g.c_l_take, g.c_l_kind, so])
          | (refine hQ _ _ ?_; clear hQ Q1; try simp only [asgT_v, asgT_t, List.contains_cons, List.contains_nil, Nat.reduceBEq, Bool.or_false, Bool.false_or, Bool.false_eq_true, if_false, if_true, wp_ok, List.set_cons_succ, List.set_cons_zero, List.cons_append, List.nil_append, decide_eq_true_eq, decide_eq_false_iff_not, Bool.or_eq_true, Bool.and_eq_true, Bool.or_eq_false_iff, Bool.and_eq_false_iff, Bool.not_eq_true', Bool.not_eq_false', true_implies, false_implies, Bool.true_eq_false])
          | (with_reducible refine w_l ?_)
          | (with_reducible refine w_r ?_)
          | (refine w_two ?_ ?_ <;> intro hc <;> try simp only [reduceCtorEq] at hc))
        all_goals exact ⟨by simp, _, rfl, KdP.way hds (by simp) (hq.mono (by omega))⟩
      | [a, b], _, hds =>
        have so := sort_kds hds (by omega)
        have hds2 : ∀ x ∈ [a, a], KdP (2 * k + 3) x := by simp at hds ⊢; exact hds.1
        have so2 := sort_kds hds2 (by omega)
        repeat' (first
          | (with_reducible refine w_asg (w_abs fun Q1 hQ => ?_); simp [R.assoc, toB_b, toB_call, toB_if, g.c_l_take, g.c_l_kind, so, so2])
          | (with_reducible refine w_ret (w_abs fun Q1 hQ => ?_); simp [R.assoc, toB_b, toB_call, toB_if, g.c_l_take, g.c_l_kind, so, so2])
          | (with_reducible refine w_ife (w_abs fun Q1 hQ => ?_); simp [R.assoc, toB_b, toB_call, toB_if, g.c_l_take, g.c_l_kind, so, so2])
          | (with_reducible refine w_ex (w_abs fun Q1 hQ => ?_); simp [R.assoc, toB_b, toB_call, toB_if, g.c_l_take, g.c_l_kind, so, so2])
          | (refine Gen.w (Gen.take2 g.l_take hM) (by omega) ?_; rintro _ fd (rfl | rfl); try simp [R.assoc, toB_b, toB_call, toB_if, g.c_l_take, g.c_l_kind, so, so2])
          | (refine Gen.w0 (Gen.take2 g.l_take hM) (by omega) ?_; rintro _ fd (rfl | rfl); try simp [R.assoc, toB_b, toB_call, toB_if, g.c_l_take, g.c_l_kind, so, so2])
          | (refine Gen.w (ih) (by omega) ?_; rintro _ fd hq; try simp [R.assoc, toB_b, toB_call, toB_if, g.c_l_take, g.c_l_kind, so, so2])
          | (refine Gen.w0 (ih) (by omega) ?_; rintro _ fd hq; try simp [R.assoc, toB_b, toB_call, toB_if, g.c_l_take, g.c_l_kind, so, so2])
          | (refine w_atI (by omega) (by simp only [List.length_cons, List.length_nil]; omega) ?_; simp only [List.forall_mem_cons, List.forall_mem_nil, and_true]; and_intros <;> try simp [R.assoc, toB_b, toB_call, toB_if, g.c_l_take, g.c_l_kind, so, so2])
          | (refine w_atI0 (by omega) (by simp only [List.length_cons, List.length_nil]; omega) ?_; simp only [List.forall_mem_cons, List.forall_mem_nil, and_true]; and_intros <;> try simp [R.assoc, toB_b, toB_call, toB_if, g.c_l_take, g.c_l_kind, so, so2])
          | (refine w_if (fun hc => ?_) (fun hc => ?_) <;> try simp [R.assoc, toB_b, toB_call, toB_if, g.c_l_take, g.c_l_kind, so, so2])
          | (refine w_ifb (fun hc => ?_) (fun hc => ?_) <;> try simp [R.assoc, toB_b, toB_call, toB_if, g.c_l_take, g.c_l_kind, so, so2])
          | (refine hQ _ _ ?_; clear hQ Q1; try simp only [asgT_v, asgT_t, List.contains_cons, List.contains_nil, Nat.reduceBEq, Bool.or_false, Bool.false_or, Bool.false_eq_true, if_false, if_true, wp_ok, List.set_cons_succ, List.set_cons_zero, List.cons_append, List.nil_append, decide_eq_true_eq, decide_eq_false_iff_not, Bool.or_eq_true, Bool.and_eq_true, Bool.or_eq_false_iff, Bool.and_eq_false_iff, Bool.not_eq_true', Bool.not_eq_false', true_implies, false_implies, Bool.true_eq_false])
          | (with_reducible refine w_l ?_)
          | (with_reducible refine w_r ?_)
          | (refine w_two ?_ ?_ <;> intro hc <;> try simp only [reduceCtorEq] at hc))
        all_goals first
          | exact ⟨by simp, _, rfl, KdP.way hds (by simp) (hq.mono (by omega))⟩
          | skip
        all_goals refine w_st (w_abs fun Q1 hQ => ?_)
        all_goals simp [setD, putE, putV, show Int.toNat 1 = 1 from rfl]
        all_goals refine hQ _ _ ?_
        all_goals clear hQ Q1
        all_goals simp only [List.set_cons_succ, List.set_cons_zero, show Int.toNat 1 = 1 from rfl]
        repeat' (first
          | (with_reducible refine w_asg (w_abs fun Q1 hQ => ?_); simp [R.assoc, toB_b, toB_call, toB_if, g.c_l_take, g.c_l_kind, so, so2])
          | (with_reducible refine w_ret (w_abs fun Q1 hQ => ?_); simp [R.assoc, toB_b, toB_call, toB_if, g.c_l_take, g.c_l_kind, so, so2])
          | (with_reducible refine w_ife (w_abs fun Q1 hQ => ?_); simp [R.assoc, toB_b, toB_call, toB_if, g.c_l_take, g.c_l_kind, so, so2])
          | (with_reducible refine w_ex (w_abs fun Q1 hQ => ?_); simp [R.assoc, toB_b, toB_call, toB_if, g.c_l_take, g.c_l_kind, so, so2])
          | (refine Gen.w (Gen.take2 g.l_take hM) (by omega) ?_; rintro _ fd (rfl | rfl); try simp [R.assoc, toB_b, toB_call, toB_if, g.c_l_take, g.c_l_kind, so, so2])
          | (refine Gen.w0 (Gen.take2 g.l_take hM) (by omega) ?_; rintro _ fd (rfl | rfl); try simp [R.assoc, toB_b, toB_call, toB_if, g.c_l_take, g.c_l_kind, so, so2])
          | (refine Gen.w (ih) (by omega) ?_; rintro _ fd hq; try simp [R.assoc, toB_b, toB_call, toB_if, g.c_l_take, g.c_l_kind, so, so2])
          | (refine Gen.w0 (ih) (by omega) ?_; rintro _ fd hq; try simp [R.assoc, toB_b, toB_call, toB_if, g.c_l_take, g.c_l_kind, so, so2])
          | (refine w_atI (by omega) (by simp only [List.length_cons, List.length_nil]; omega) ?_; simp only [List.forall_mem_cons, List.forall_mem_nil, and_true]; and_intros <;> try simp [R.assoc, toB_b, toB_call, toB_if, g.c_l_take, g.c_l_kind, so, so2])
          | (refine w_atI0 (by omega) (by simp only [List.length_cons, List.length_nil]; omega) ?_; simp only [List.forall_mem_cons, List.forall_mem_nil, and_true]; and_intros <;> try simp [R.assoc, toB_b, toB_call, toB_if, g.c_l_take, g.c_l_kind, so, so2])
          | (refine w_if (fun hc => ?_) (fun hc => ?_) <;> try simp [R.assoc, toB_b, toB_call, toB_if, g.c_l_take, g.c_l_kind, so, so2])
          | (refine w_ifb (fun hc => ?_) (fun hc => ?_) <;> try simp [R.assoc, toB_b, toB_call, toB_if, g.c_l_take, g.c_l_kind, so, so2])
          | (refine hQ _ _ ?_; clear hQ Q1; try simp only [asgT_v, asgT_t, List.contains_cons, List.contains_nil, Nat.reduceBEq, Bool.or_false, Bool.false_or, Bool.false_eq_true, if_false, if_true, wp_ok, List.set_cons_succ, List.set_cons_zero, List.cons_append, List.nil_append, decide_eq_true_eq, decide_eq_false_iff_not, Bool.or_eq_true, Bool.and_eq_true, Bool.or_eq_false_iff, Bool.and_eq_false_iff, Bool.not_eq_true', Bool.not_eq_false', true_implies, false_implies, Bool.true_eq_false])
          | (with_reducible refine w_l ?_)
          | (with_reducible refine w_r ?_)
          | (refine w_two ?_ ?_ <;> intro hc <;> try simp only [reduceCtorEq] at hc))
        all_goals first
          | exact ⟨by simp, _, rfl, KdP.way hds (by simp) (hq.mono (by omega))⟩
          | exact ⟨by simp, _, rfl, KdP.way hds2 (by simp) (hq.mono (by omega))⟩
      | [a, b, c], _, hds =>
        have so := sort_kds hds (by omega)
        have hds2 : ∀ x ∈ [a, a, c], KdP (2 * k + 3) x := by simp at hds ⊢; exact ⟨hds.1, hds.2.2⟩
        have so2 := sort_kds hds2 (by omega)
        repeat' (first
          | (with_reducible refine w_asg (w_abs fun Q1 hQ => ?_); simp [R.assoc, toB_b, toB_call, toB_if, g.c_l_take, g.c_l_kind, so, so2])
          | (with_reducible refine w_ret (w_abs fun Q1 hQ => ?_); simp [R.assoc, toB_b, toB_call, toB_if, g.c_l_take, g.c_l_kind, so, so2])
          | (with_reducible refine w_ife (w_abs fun Q1 hQ => ?_); simp [R.assoc, toB_b, toB_call, toB_if, g.c_l_take, g.c_l_kind, so, so2])
          | (with_reducible refine w_ex (w_abs fun Q1 hQ => ?_); simp [R.assoc, toB_b, toB_call, toB_if, g.c_l_take, g.c_l_kind, so, so2])
          | (refine Gen.w (Gen.take2 g.l_take hM) (by omega) ?_; rintro _ fd (rfl | rfl); try simp [R.assoc, toB_b, toB_call, toB_if, g.c_l_take, g.c_l_kind, so, so2])
          | (refine Gen.w0 (Gen.take2 g.l_take hM) (by omega) ?_; rintro _ fd (rfl | rfl); try simp [R.assoc, toB_b, toB_call, toB_if, g.c_l_take, g.c_l_kind, so, so2])
          | (refine Gen.w (ih) (by omega) ?_; rintro _ fd hq; try simp [R.assoc, toB_b, toB_call, toB_if, g.c_l_take, g.c_l_kind, so, so2])
          | (refine Gen.w0 (ih) (by omega) ?_; rintro _ fd hq; try simp [R.assoc, toB_b, toB_call, toB_if, g.c_l_take, g.c_l_kind, so, so2])
          | (refine w_atI (by omega) (by simp only [List.length_cons, List.length_nil]; omega) ?_; simp only [List.forall_mem_cons, List.forall_mem_nil, and_true]; and_intros <;> try simp [R.assoc, toB_b, toB_call, toB_if, g.c_l_take, g.c_l_kind, so, so2])
          | (refine w_atI0 (by omega) (by simp only [List.length_cons, List.length_nil]; omega) ?_; simp only [List.forall_mem_cons, List.forall_mem_nil, and_true]; and_intros <;> try simp [R.assoc, toB_b, toB_call, toB_if, g.c_l_take, g.c_l_kind, so, so2])
          | (refine w_if (fun hc => ?_) (fun hc => ?_) <;> try simp [R.assoc, toB_b, toB_call, toB_if, g.c_l_take, g.c_l_kind, so, so2])
          | (refine w_ifb (fun hc => ?_) (fun hc => ?_) <;> try simp [R.assoc, toB_b, toB_call, toB_if, g.c_l_take, g.c_l_kind, so, so2])
          | (refine hQ _ _ ?_; clear hQ Q1; try simp only [asgT_v, asgT_t, List.contains_cons, List.contains_nil, Nat.reduceBEq, Bool.or_false, Bool.false_or, Bool.false_eq_true, if_false, if_true, wp_ok, List.set_cons_succ, List.set_cons_zero, List.cons_append, List.nil_append, decide_eq_true_eq, decide_eq_false_iff_not, Bool.or_eq_true, Bool.and_eq_true, Bool.or_eq_false_iff, Bool.and_eq_false_iff, Bool.not_eq_true', Bool.not_eq_false', true_implies, false_implies, Bool.true_eq_false])
          | (with_reducible refine w_l ?_)
          | (with_reducible refine w_r ?_)
          | (refine w_two ?_ ?_ <;> intro hc <;> try simp only [reduceCtorEq] at hc))
        all_goals first
          | exact ⟨by simp, _, rfl, KdP.way hds (by simp) (hq.mono (by omega))⟩
          | skip
        all_goals refine w_st (w_abs fun Q1 hQ => ?_)
        all_goals simp [setD, putE, putV, show Int.toNat 1 = 1 from rfl]
        all_goals refine hQ _ _ ?_
        all_goals clear hQ Q1
        all_goals simp only [List.set_cons_succ, List.set_cons_zero, show Int.toNat 1 = 1 from rfl]
        repeat' (first
          | (with_reducible refine w_asg (w_abs fun Q1 hQ => ?_); simp [R.assoc, toB_b, toB_call, toB_if, g.c_l_take, g.c_l_kind, so, so2])
          | (with_reducible refine w_ret (w_abs fun Q1 hQ => ?_); simp [R.assoc, toB_b, toB_call, toB_if, g.c_l_take, g.c_l_kind, so, so2])
          | (with_reducible refine w_ife (w_abs fun Q1 hQ => ?_); simp [R.assoc, toB_b, toB_call, toB_if, g.c_l_take, g.c_l_kind, so, so2])
          | (with_reducible refine w_ex (w_abs fun Q1 hQ => ?_); simp [R.assoc, toB_b, toB_call, toB_if, g.c_l_take, g.c_l_kind, so, so2])
          | (refine Gen.w (Gen.take2 g.l_take hM) (by omega) ?_; rintro _ fd (rfl | rfl); try simp [R.assoc, toB_b, toB_call, toB_if, g.c_l_take, g.c_l_kind, so, so2])
          | (refine Gen.w0 (Gen.take2 g.l_take hM) (by omega) ?_; rintro _ fd (rfl | rfl); try simp [R.assoc, toB_b, toB_call, toB_if, g.c_l_take, g.c_l_kind, so, so2])
          | (refine Gen.w (ih) (by omega) ?_; rintro _ fd hq; try simp [R.assoc, toB_b, toB_call, toB_if, g.c_l_take, g.c_l_kind, so, so2])
          | (refine Gen.w0 (ih) (by omega) ?_; rintro _ fd hq; try simp [R.assoc, toB_b, toB_call, toB_if, g.c_l_take, g.c_l_kind, so, so2])
          | (refine w_atI (by omega) (by simp only [List.length_cons, List.length_nil]; omega) ?_; simp only [List.forall_mem_cons, List.forall_mem_nil, and_true]; and_intros <;> try simp [R.assoc, toB_b, toB_call, toB_if, g.c_l_take, g.c_l_kind, so, so2])
          | (refine w_atI0 (by omega) (by simp only [List.length_cons, List.length_nil]; omega) ?_; simp only [List.forall_mem_cons, List.forall_mem_nil, and_true]; and_intros <;> try simp [R.assoc, toB_b, toB_call, toB_if, g.c_l_take, g.c_l_kind, so, so2])
          | (refine w_if (fun hc => ?_) (fun hc => ?_) <;> try simp [R.assoc, toB_b, toB_call, toB_if, g.c_l_take, g.c_l_kind, so, so2])
          | (refine w_ifb (fun hc => ?_) (fun hc => ?_) <;> try simp [R.assoc, toB_b, toB_call, toB_if, g.c_l_take, g.c_l_kind, so, so2])
          | (refine hQ _ _ ?_; clear hQ Q1; try simp only [asgT_v, asgT_t, List.contains_cons, List.contains_nil, Nat.reduceBEq, Bool.or_false, Bool.false_or, Bool.false_eq_true, if_false, if_true, wp_ok, List.set_cons_succ, List.set_cons_zero, List.cons_append, List.nil_append, decide_eq_true_eq, decide_eq_false_iff_not, Bool.or_eq_true, Bool.and_eq_true, Bool.or_eq_false_iff, Bool.and_eq_false_iff, Bool.not_eq_true', Bool.not_eq_false', true_implies, false_implies, Bool.true_eq_false])
          | (with_reducible refine w_l ?_)
          | (with_reducible refine w_r ?_)
          | (refine w_two ?_ ?_ <;> intro hc <;> try simp only [reduceCtorEq] at hc))
        all_goals first
          | exact ⟨by simp, _, rfl, KdP.way hds (by simp) (hq.mono (by omega))⟩
          | exact ⟨by simp, _, rfl, KdP.way hds2 (by simp) (hq.mono (by omega))⟩
end
end Ly
set_option Elab.async false
set_option linter.all false
set_option maxRecDepth 100000
set_option maxHeartbeats 2000000
namespace Ly.K
open PySem PySem.Spec PyProof.Rows L2
def top (i : Nat) : Stmt := PySem.Challenge.pw_kindbags_k03_open_names_and_lifted.main.body.getD i (.Pass ⟨0, 0, 0, 0⟩)
def t_MANY : TabI := ("MANY", [("name", 0), ("way", 1), ("give", 2), ("pair", 2), ("first", 1), ("second", 1), ("whole", 0), ("plus", 2), ("look", 3)])
def g_MANY : D := tabD t_MANY
def G : List (Str × D) := []
def ts : List TabI := [t_MANY]
def b_inner : List St := [
  .ife (.cmp .eq (.ix (.g "MANY" g_MANY) (.ix (.v 0) (.c (.int 0)))) (.c (.int 0))) [
    .ret (.tup [])] [],
  .ret (.sl (.v 0) (.c (.int 1)) (.nil))]
def f_inner : Fn := ⟨1, 1, [], b_inner⟩
def n_inner : List Str := ["program"]
def d_inner : DefE := ⟨"inner", "inner", f_inner, n_inner, ["program"], defArgs (top 2), defBody (top 2), defScope (top 2)⟩
def b_with_inner : List St := [
  .ife (.cmp .eq (.blt .len [.v 1]) (.c (.int 0))) [
    .ret (.v 0)] [],
  .ret (.bin .add (.sl (.v 0) (.nil) (.c (.int 1))) (.blt .tuple [.v 1]))]
def f_with_inner : Fn := ⟨2, 2, [], b_with_inner⟩
def n_with_inner : List Str := ["program", "some"]
def d_with_inner : DefE := ⟨"with_inner", "with_inner", f_with_inner, n_with_inner, ["program", "some"], defArgs (top 3), defBody (top 3), defScope (top 3)⟩
def b_ways_more : List St := [
  .ret (.bin .add (.v 1) (.blt .int [.cmp .eq (.ix (.v 0) (.c (.int 0))) (.c (.str "way"))]))]
def f_ways_more : Fn := ⟨2, 2, [], b_ways_more⟩
def n_ways_more : List Str := ["program", "ways"]
def d_ways_more : DefE := ⟨"ways_more", "ways_more", f_ways_more, n_ways_more, ["program", "ways"], defArgs (top 5), defBody (top 5), defScope (top 5)⟩
def b_opened : List St := [
  .ife (.and (.cmp .eq (.ix (.v 0) (.c (.int 0))) (.c (.str "name"))) (.cmp .ge (.ix (.v 0) (.c (.int 1))) (.v 1))) [
    .setd (.v 2) (.bin .sub (.ix (.v 0) (.c (.int 1))) (.v 1)) (.c (.bl true))] [],
  .for_ (.v 3) .seq [.call "inner" [.v 0]] [
    .ex (.call "opened" [.v 3, .call "ways_more" [.v 0, .v 1], .v 2])]]
def f_opened : Fn := ⟨3, 4, [2], b_opened⟩
def n_opened : List Str := ["program", "ways", "found", "part"]
def d_opened : DefE := ⟨"opened", "opened", f_opened, n_opened, ["program", "ways", "found"], defArgs (top 6), defBody (top 6), defScope (top 6)⟩
def b_open_names : List St := [
  .asg (.v 1) (.dctK),
  .ex (.call "opened" [.v 0, .c (.int 0), .v 1]),
  .ret (.blt .sorted [.v 1])]
def f_open_names : Fn := ⟨1, 2, [1], b_open_names⟩
def n_open_names : List Str := ["program", "found"]
def d_open_names : DefE := ⟨"open_names", "open_names", f_open_names, n_open_names, ["program"], defArgs (top 7), defBody (top 7), defScope (top 7)⟩
def b_lifted : List St := [
  .ife (.cmp .eq (.ix (.v 0) (.c (.int 0))) (.c (.str "name"))) [
    .ife (.cmp .lt (.ix (.v 0) (.c (.int 1))) (.v 2)) [
      .ret (.v 0)] [],
    .ret (.tup [.c (.str "name"), .bin .add (.ix (.v 0) (.c (.int 1))) (.v 1)])] [],
  .ret (.call "with_inner" [.v 0, .lc (.call "lifted" [.v 3, .v 1, .call "ways_more" [.v 0, .v 2]]) (.v 3) .seq [.call "inner" [.v 0]] [] [3]])]
def f_lifted : Fn := ⟨3, 4, [], b_lifted⟩
def n_lifted : List Str := ["program", "many", "least", "part"]
def d_lifted : DefE := ⟨"lifted", "lifted", f_lifted, n_lifted, ["program", "many", "least"], defArgs (top 8), defBody (top 8), defScope (top 8)⟩
def b__law_feed : List St := [
  .asg (.v 2) (.bin .add (.bin .mul (.c (.int 7919)) (.v 1)) (.c (.int 12345))),
  .ife (.cmp .lt (.v 1) (.blt .len [.v 0])) [
    .asg (.v 2) (.ix (.v 0) (.v 1))] [
    .ife (.cmp .gt (.blt .len [.v 0]) (.c (.int 0))) [
      .asg (.v 2) (.bin .add (.bin .mul (.bin .mod (.ix (.v 0) (.bin .mod (.v 1) (.blt .len [.v 0]))) (.c (.int 2147483629))) (.c (.int 31))) (.bin .mul (.c (.int 7919)) (.v 1)))] []],
  .asg (.v 3) (.c (.int 0)),
  .ife (.cmp .ge (.v 2) (.bin .pow (.c (.int 10)) (.c (.int 18)))) [
    .asg (.v 3) (.v 2)] [],
  .ret (.lst [.v 3, .bin .add (.bin .mod (.bin .add (.bin .mul (.bin .mod (.v 2) (.c (.int 2147483629))) (.c (.int 48271))) (.bin .mul (.c (.int 40692)) (.v 1))) (.c (.int 2147483646))) (.c (.int 1))])]
def f__law_feed : Fn := ⟨2, 4, [], b__law_feed⟩
def n__law_feed : List Str := ["_law_script", "_law_k", "_law_cell", "_law_own"]
def d__law_feed : DefE := ⟨"_law_feed", "_law_feed", f__law_feed, n__law_feed, ["_law_script", "_law_k"], defArgs (top 10), defBody (top 10), defScope (top 10)⟩
def b__law_take : List St := [
  .ife (.cmp .gt (.ix (.v 0) (.c (.int 0))) (.c (.int 0))) [
    .asg (.v 3) (.bin .mod (.ix (.v 0) (.c (.int 0))) (.v 1)),
    .seti (.v 0) (.c (.int 0)) (.bin .fdiv (.ix (.v 0) (.c (.int 0))) (.v 1)),
    .ret (.v 3)] [],
  .asg (.v 2) (.bin .mod (.bin .mul (.ix (.v 0) (.c (.int 1))) (.c (.int 69621))) (.c (.int 2147483647))),
  .seti (.v 0) (.c (.int 1)) (.bin .add (.bin .mod (.bin .add (.bin .mul (.v 2) (.c (.int 48271))) (.c (.int 30103))) (.c (.int 2147483646))) (.c (.int 1))),
  .ret (.bin .mod (.bin .fdiv (.bin .add (.bin .mul (.v 2) (.c (.int 2147483647))) (.ix (.v 0) (.c (.int 1)))) (.c (.int 8191))) (.v 1))]
def f__law_take : Fn := ⟨2, 4, [0], b__law_take⟩
def n__law_take : List Str := ["_law_feed_here", "_law_many", "_law_one", "_law_digit"]
def d__law_take : DefE := ⟨"_law_take", "_law_take", f__law_take, n__law_take, ["_law_feed_here", "_law_many"], defArgs (top 11), defBody (top 11), defScope (top 11)⟩
def b__law_whole : List St := [
  .asg (.v 1) (.call "_law_take" [.v 0, .c (.int 8)]),
  .ife (.cmp .lt (.v 1) (.c (.int 4))) [
    .ret (.tup [.c (.str "whole"), .ix (.lst [.c (.int 0), .c (.int 1), .neg (.c (.int 1)), .c (.int 2)]) (.v 1)])] [],
  .ife (.cmp .lt (.v 1) (.c (.int 7))) [
    .ret (.tup [.c (.str "whole"), .bin .sub (.call "_law_take" [.v 0, .c (.int 13)]) (.c (.int 5))])] [],
  .ret (.tup [.c (.str "whole"), .bin .sub (.call "_law_take" [.v 0, .c (.int 1999999999)]) (.c (.int 999999999))])]
def f__law_whole : Fn := ⟨1, 2, [0], b__law_whole⟩
def n__law_whole : List Str := ["_law_feed_here", "_law_form"]
def d__law_whole : DefE := ⟨"_law_whole", "_law_whole", f__law_whole, n__law_whole, ["_law_feed_here"], defArgs (top 12), defBody (top 12), defScope (top 12)⟩
def b__law_wild : List St := [
  .asg (.v 4) (.call "_law_take" [.v 0, .c (.int 12)]),
  .asg (.v 5) (.bin .fdiv (.bin .sub (.v 2) (.c (.int 1))) (.c (.int 2))),
  .ife (.or (.cmp .lt (.v 2) (.c (.int 2))) (.or (.cmp .lt (.v 3) (.c (.int 1))) (.cmp .lt (.v 4) (.c (.int 2))))) [
    .ife (.and (.cmp .gt (.v 1) (.c (.int 0))) (.cmp .gt (.call "_law_take" [.v 0, .c (.int 3)]) (.c (.int 0)))) [
      .ret (.tup [.c (.str "name"), .call "_law_take" [.v 0, .v 1]])] [],
    .ret (.call "_law_whole" [.v 0])] [],
  .ife (.cmp .lt (.v 4) (.c (.int 4))) [
    .ret (.tup [.c (.str "way"), .call "_law_wild" [.v 0, .bin .add (.v 1) (.c (.int 1)), .bin .sub (.v 2) (.c (.int 1)), .bin .sub (.v 3) (.c (.int 1))]])] [],
  .ife (.cmp .lt (.v 4) (.c (.int 6))) [
    .ret (.tup [.ix (.lst [.c (.str "first"), .c (.str "second")]) (.bin .sub (.v 4) (.c (.int 4))), .call "_law_wild" [.v 0, .v 1, .bin .sub (.v 2) (.c (.int 1)), .bin .sub (.v 3) (.c (.int 1))]])] [],
  .ife (.cmp .eq (.v 4) (.c (.int 6))) [
    .asg (.v 7) (.bin .fdiv (.bin .sub (.v 2) (.c (.int 1))) (.c (.int 3))),
    .asg (.v 8) (.call "_law_wild" [.v 0, .v 1, .v 7, .bin .sub (.v 3) (.c (.int 1))]),
    .asg (.v 6) (.call "_law_wild" [.v 0, .v 1, .v 7, .bin .sub (.v 3) (.c (.int 1))]),
    .ret (.tup [.c (.str "look"), .v 8, .v 6, .call "_law_wild" [.v 0, .v 1, .v 7, .bin .sub (.v 3) (.c (.int 1))]])] [],
  .asg (.v 6) (.call "_law_wild" [.v 0, .v 1, .v 5, .bin .sub (.v 3) (.c (.int 1))]),
  .ret (.tup [.ix (.lst [.c (.str "give"), .c (.str "give"), .c (.str "give"), .c (.str "plus"), .c (.str "pair")]) (.bin .sub (.v 4) (.c (.int 7))), .v 6, .call "_law_wild" [.v 0, .v 1, .v 5, .bin .sub (.v 3) (.c (.int 1))]])]
def f__law_wild : Fn := ⟨4, 9, [0], b__law_wild⟩
def n__law_wild : List Str := ["_law_feed_here", "_law_many", "_law_room", "_law_deep", "_law_form", "_law_half", "_law_one", "_law_third", "_law_asked"]
def d__law_wild : DefE := ⟨"_law_wild", "_law_wild", f__law_wild, n__law_wild, ["_law_feed_here", "_law_many", "_law_room", "_law_deep"], defArgs (top 13), defBody (top 13), defScope (top 13)⟩
def b__law_spots : List St := [
  .ife (.cmp .in_ (.ix (.v 0) (.c (.int 0))) (.tup [.c (.str "name"), .c (.str "whole")])) [
    .ret (.lst [.tup [.v 1, .v 2, .v 0]])] [],
  .asg (.v 3) (.lst []),
  .for_ (.v 4) .rng [.c (.int 1), .blt .len [.v 0]] [
    .asg (.v 3) (.bin .add (.v 3) (.call "_law_spots" [.ix (.v 0) (.v 4), .bin .add (.v 1) (.tup [.bin .sub (.v 4) (.c (.int 1))]), .bin .add (.v 2) (.blt .int [.cmp .eq (.ix (.v 0) (.c (.int 0))) (.c (.str "way"))])]))],
  .ret (.v 3)]
def f__law_spots : Fn := ⟨3, 5, [], b__law_spots⟩
def n__law_spots : List Str := ["_law_program", "_law_place", "_law_ways", "_law_found", "_law_k"]
def d__law_spots : DefE := ⟨"_law_spots", "_law_spots", f__law_spots, n__law_spots, ["_law_program", "_law_place", "_law_ways"], defArgs (top 14), defBody (top 14), defScope (top 14)⟩
def b__law_frame : List St := [
  .ife (.cmp .in_ (.ix (.v 0) (.c (.int 0))) (.tup [.c (.str "name"), .c (.str "whole")])) [
    .ret (.sl (.v 0) (.nil) (.c (.int 1)))] [],
  .ret (.bin .add (.sl (.v 0) (.nil) (.c (.int 1))) (.blt .tuple [.lc (.call "_law_frame" [.v 1]) (.v 1) .seq [.sl (.v 0) (.c (.int 1)) (.nil)] [] [1]]))]
def f__law_frame : Fn := ⟨1, 2, [], b__law_frame⟩
def n__law_frame : List Str := ["_law_program", "_law_part"]
def d__law_frame : DefE := ⟨"_law_frame", "_law_frame", f__law_frame, n__law_frame, ["_law_program"], defArgs (top 15), defBody (top 15), defScope (top 15)⟩
def b__law_lift : List St := [
  .ife (.cmp .eq (.ix (.v 0) (.c (.int 0))) (.c (.str "whole"))) [
    .ret (.v 0)] [],
  .ife (.cmp .eq (.ix (.v 0) (.c (.int 0))) (.c (.str "name"))) [
    .ret (.tup [.c (.str "name"), .bin .add (.ix (.v 0) (.c (.int 1))) (.bin .mul (.v 1) (.blt .int [.cmp .ge (.bin .sub (.ix (.v 0) (.c (.int 1))) (.v 3)) (.v 2)]))])] [],
  .asg (.v 4) (.bin .add (.v 3) (.blt .int [.cmp .eq (.ix (.v 0) (.c (.int 0))) (.c (.str "way"))])),
  .ret (.bin .add (.sl (.v 0) (.nil) (.c (.int 1))) (.blt .tuple [.lc (.call "_law_lift" [.v 5, .v 1, .v 2, .v 4]) (.v 5) .seq [.sl (.v 0) (.c (.int 1)) (.nil)] [] [5]]))]
def f__law_lift : Fn := ⟨4, 6, [], b__law_lift⟩
def n__law_lift : List Str := ["_law_program", "_law_many", "_law_least", "_law_ways", "_law_around", "_law_part"]
def d__law_lift : DefE := ⟨"_law_lift", "_law_lift", f__law_lift, n__law_lift, ["_law_program", "_law_many", "_law_least", "_law_ways"], defArgs (top 16), defBody (top 16), defScope (top 16)⟩
def b__law_deeper : List St := [
  .for_ (.v 2) .rng [.bin .mul (.call "_law_take" [.v 0, .c (.int 19)]) (.blt .int [.cmp .eq (.call "_law_take" [.v 0, .c (.int 3)]) (.c (.int 0))])] [
    .asg (.v 3) (.ix (.lst [.c (.str "way"), .c (.str "way"), .c (.str "first"), .c (.str "give")]) (.call "_law_take" [.v 0, .c (.int 4)])),
    .asg (.v 1) (.tup [.v 3, .v 1]),
    .ife (.cmp .eq (.v 3) (.c (.str "give"))) [
      .asg (.v 1) (.bin .add (.v 1) (.tup [.tup [.c (.str "name"), .call "_law_take" [.v 0, .c (.int 20)]]]))] []],
  .ret (.v 1)]
def f__law_deeper : Fn := ⟨2, 4, [0], b__law_deeper⟩
def n__law_deeper : List Str := ["_law_feed_here", "_law_program", "_law_k", "_law_word"]
def d__law_deeper : DefE := ⟨"_law_deeper", "_law_deeper", f__law_deeper, n__law_deeper, ["_law_feed_here", "_law_program"], defArgs (top 17), defBody (top 17), defScope (top 17)⟩
def b_law : List St := [
  .for_ (.v 1) .rng [.blt .max [.c (.int 2), .blt .len [.sl (.v 0) (.nil) (.c (.int 8))]]] [
    .asg (.v 2) (.call "_law_feed" [.v 0, .v 1]),
    .asg (.v 3) (.call "_law_deeper" [.v 2, .call "_law_wild" [.v 2, .call "_law_take" [.v 2, .c (.int 7)], .bin .add (.c (.int 3)) (.call "_law_take" [.v 2, .c (.int 16)]), .c (.int 10)]]),
    .asg (.v 4) (.lc (.bin .sub (.ix (.v 13) (.c (.int 1))) (.v 12)) (.tup [11, 12, 13]) .seq [.call "_law_spots" [.v 3, .tup [], .c (.int 0)]] [.cmp .eq (.ix (.v 13) (.c (.int 0))) (.c (.str "name"))] [11, 12, 13]),
    .asg (.v 5) (.sset (.lc (.v 14) (.v 14) .seq [.v 4] [.cmp .gt (.v 14) (.neg (.c (.int 1)))] [14])),
    .asg (.v 6) (.call "open_names" [.v 3]),
    .ife (.or (.not (.isi (.v 6) .list)) (.or (.cmp .ne (.v 6) (.v 5)) (.cmp .in_ (.c (.bl true)) (.lcR (.isi (.v 13) .bool) (.v 13) (.v 6) [] [13])))) [
      .ret (.c (.bl false))] [],
    .ex (.mw .append (.v 6) [.c (.int 3)]),
    .asg (.v 7) (.call "_law_take" [.v 2, .c (.int 31)]),
    .asg (.v 8) (.call "_law_take" [.v 2, .c (.int 8)]),
    .asg (.v 9) (.call "lifted" [.v 3, .v 7, .v 8]),
    .ife (.or (.cmp .ne (.v 9) (.call "_law_lift" [.v 3, .v 7, .v 8, .c (.int 0)])) (.cmp .ne (.call "_law_frame" [.v 9]) (.call "_law_frame" [.v 3]))) [
      .ret (.c (.bl false))] [],
    .ife (.or (.cmp .ne (.call "lifted" [.v 3, .c (.int 0), .v 8]) (.v 3)) (.cmp .ne (.call "lifted" [.v 9, .c (.int 2), .v 8]) (.call "lifted" [.v 3, .bin .add (.v 7) (.c (.int 2)), .v 8]))) [
      .ret (.c (.bl false))] [],
    .asg (.v 10) (.blt .sorted [.lc (.bin .add (.v 13) (.bin .mul (.v 7) (.blt .int [.cmp .ge (.v 13) (.v 8)]))) (.v 13) .seq [.v 5] [] [13]]),
    .ife (.or (.cmp .ne (.call "open_names" [.v 3]) (.v 5)) (.cmp .ne (.call "open_names" [.v 9]) (.v 10))) [
      .ret (.c (.bl false))] []],
  .ret (.c (.bl true))]
def f_law : Fn := ⟨1, 15, [2, 6], b_law⟩
def n_law : List Str := ["_law_script", "_law_k", "_law_feed_here", "_law_program", "_law_spots_here", "_law_due", "_law_found", "_law_many", "_law_least", "_law_up", "_law_higher", "_law_place", "_law_ways", "_law_one", "_law_number"]
def d_law : DefE := ⟨"law", "law", f_law, n_law, ["_law_script"], defArgs (top 18), defBody (top 18), defScope (top 18)⟩
def defs : List DefE := [d_inner, d_with_inner, d_ways_more, d_opened, d_open_names, d_lifted, d__law_feed, d__law_take, d__law_whole, d__law_wild, d__law_spots, d__law_frame, d__law_lift, d__law_deeper, d_law]
theorem bnds : BindsAll defs := ⟨fun _ _ _ _ _ _ us hl => match us, hl with | [_], _ => rfl,
  fun _ _ _ _ _ _ us hl => match us, hl with | [_, _], _ => rfl,
  fun _ _ _ _ _ _ us hl => match us, hl with | [_, _], _ => rfl,
  fun _ _ _ _ _ _ us hl => match us, hl with | [_, _, _], _ => rfl,
  fun _ _ _ _ _ _ us hl => match us, hl with | [_], _ => rfl,
  fun _ _ _ _ _ _ us hl => match us, hl with | [_, _, _], _ => rfl,
  fun _ _ _ _ _ _ us hl => match us, hl with | [_, _], _ => rfl,
  fun _ _ _ _ _ _ us hl => match us, hl with | [_, _], _ => rfl,
  fun _ _ _ _ _ _ us hl => match us, hl with | [_], _ => rfl,
  fun _ _ _ _ _ _ us hl => match us, hl with | [_, _, _, _], _ => rfl,
  fun _ _ _ _ _ _ us hl => match us, hl with | [_, _, _], _ => rfl,
  fun _ _ _ _ _ _ us hl => match us, hl with | [_], _ => rfl,
  fun _ _ _ _ _ _ us hl => match us, hl with | [_, _, _, _], _ => rfl,
  fun _ _ _ _ _ _ us hl => match us, hl with | [_, _], _ => rfl,
  fun _ _ _ _ _ _ us hl => match us, hl with | [_], _ => rfl, trivial⟩
theorem defs_chk : defs.all (DefE.ok (GT G ts)) = true := by kernel_rfl
abbrev ft : Str → Option Fn := ftOf defs
theorem t_inner : ft "inner" = some f_inner := by kernel_rfl
@[simp] theorem c_inner (cf : Str → List D → Mem → CR) (s : S) (es : List E) : evE ft cf (.call "inner" es) s = (evAs ft cf [] 0 es s).bind fun ds s => if ds.length = 1 then ofCR s (cf "inner" ds s.mem) else .no := ev_call ft cf s t_inner es
theorem t_with_inner : ft "with_inner" = some f_with_inner := by kernel_rfl
@[simp] theorem c_with_inner (cf : Str → List D → Mem → CR) (s : S) (es : List E) : evE ft cf (.call "with_inner" es) s = (evAs ft cf [] 0 es s).bind fun ds s => if ds.length = 2 then ofCR s (cf "with_inner" ds s.mem) else .no := ev_call ft cf s t_with_inner es
theorem t_ways_more : ft "ways_more" = some f_ways_more := by kernel_rfl
@[simp] theorem c_ways_more (cf : Str → List D → Mem → CR) (s : S) (es : List E) : evE ft cf (.call "ways_more" es) s = (evAs ft cf [] 0 es s).bind fun ds s => if ds.length = 2 then ofCR s (cf "ways_more" ds s.mem) else .no := ev_call ft cf s t_ways_more es
theorem t_opened : ft "opened" = some f_opened := by kernel_rfl
@[simp] theorem c_opened (cf : Str → List D → Mem → CR) (s : S) (es : List E) : evE ft cf (.call "opened" es) s = (evAs ft cf [2] 0 es s).bind fun ds s => if ds.length = 3 then ofCR s (cf "opened" ds s.mem) else .no := ev_call ft cf s t_opened es
theorem t_open_names : ft "open_names" = some f_open_names := by kernel_rfl
@[simp] theorem c_open_names (cf : Str → List D → Mem → CR) (s : S) (es : List E) : evE ft cf (.call "open_names" es) s = (evAs ft cf [1] 0 es s).bind fun ds s => if ds.length = 1 then ofCR s (cf "open_names" ds s.mem) else .no := ev_call ft cf s t_open_names es
theorem t_lifted : ft "lifted" = some f_lifted := by kernel_rfl
@[simp] theorem c_lifted (cf : Str → List D → Mem → CR) (s : S) (es : List E) : evE ft cf (.call "lifted" es) s = (evAs ft cf [] 0 es s).bind fun ds s => if ds.length = 3 then ofCR s (cf "lifted" ds s.mem) else .no := ev_call ft cf s t_lifted es
theorem t__law_feed : ft "_law_feed" = some f__law_feed := by kernel_rfl
@[simp] theorem c__law_feed (cf : Str → List D → Mem → CR) (s : S) (es : List E) : evE ft cf (.call "_law_feed" es) s = (evAs ft cf [] 0 es s).bind fun ds s => if ds.length = 2 then ofCR s (cf "_law_feed" ds s.mem) else .no := ev_call ft cf s t__law_feed es
theorem t__law_take : ft "_law_take" = some f__law_take := by kernel_rfl
@[simp] theorem c__law_take (cf : Str → List D → Mem → CR) (s : S) (es : List E) : evE ft cf (.call "_law_take" es) s = (evAs ft cf [0] 0 es s).bind fun ds s => if ds.length = 2 then ofCR s (cf "_law_take" ds s.mem) else .no := ev_call ft cf s t__law_take es
theorem t__law_whole : ft "_law_whole" = some f__law_whole := by kernel_rfl
@[simp] theorem c__law_whole (cf : Str → List D → Mem → CR) (s : S) (es : List E) : evE ft cf (.call "_law_whole" es) s = (evAs ft cf [0] 0 es s).bind fun ds s => if ds.length = 1 then ofCR s (cf "_law_whole" ds s.mem) else .no := ev_call ft cf s t__law_whole es
theorem t__law_wild : ft "_law_wild" = some f__law_wild := by kernel_rfl
@[simp] theorem c__law_wild (cf : Str → List D → Mem → CR) (s : S) (es : List E) : evE ft cf (.call "_law_wild" es) s = (evAs ft cf [0] 0 es s).bind fun ds s => if ds.length = 4 then ofCR s (cf "_law_wild" ds s.mem) else .no := ev_call ft cf s t__law_wild es
theorem t__law_spots : ft "_law_spots" = some f__law_spots := by kernel_rfl
@[simp] theorem c__law_spots (cf : Str → List D → Mem → CR) (s : S) (es : List E) : evE ft cf (.call "_law_spots" es) s = (evAs ft cf [] 0 es s).bind fun ds s => if ds.length = 3 then ofCR s (cf "_law_spots" ds s.mem) else .no := ev_call ft cf s t__law_spots es
theorem t__law_frame : ft "_law_frame" = some f__law_frame := by kernel_rfl
@[simp] theorem c__law_frame (cf : Str → List D → Mem → CR) (s : S) (es : List E) : evE ft cf (.call "_law_frame" es) s = (evAs ft cf [] 0 es s).bind fun ds s => if ds.length = 1 then ofCR s (cf "_law_frame" ds s.mem) else .no := ev_call ft cf s t__law_frame es
theorem t__law_lift : ft "_law_lift" = some f__law_lift := by kernel_rfl
@[simp] theorem c__law_lift (cf : Str → List D → Mem → CR) (s : S) (es : List E) : evE ft cf (.call "_law_lift" es) s = (evAs ft cf [] 0 es s).bind fun ds s => if ds.length = 4 then ofCR s (cf "_law_lift" ds s.mem) else .no := ev_call ft cf s t__law_lift es
theorem t__law_deeper : ft "_law_deeper" = some f__law_deeper := by kernel_rfl
@[simp] theorem c__law_deeper (cf : Str → List D → Mem → CR) (s : S) (es : List E) : evE ft cf (.call "_law_deeper" es) s = (evAs ft cf [0] 0 es s).bind fun ds s => if ds.length = 2 then ofCR s (cf "_law_deeper" ds s.mem) else .no := ev_call ft cf s t__law_deeper es
theorem t_law : ft "law" = some f_law := by kernel_rfl
@[simp] theorem c_law (cf : Str → List D → Mem → CR) (s : S) (es : List E) : evE ft cf (.call "law" es) s = (evAs ft cf [2, 6] 0 es s).bind fun ds s => if ds.length = 1 then ofCR s (cf "law" ds s.mem) else .no := ev_call ft cf s t_law es
theorem h_inner : ft "inner" = some H.f_inner := by kernel_rfl
theorem h_with_inner : ft "with_inner" = some H.f_with_inner := by kernel_rfl
theorem h_ways_more : ft "ways_more" = some H.f_ways_more := by kernel_rfl
theorem h_lifted : ft "lifted" = some H.f_lifted := by kernel_rfl
theorem h__law_feed : ft "_law_feed" = some H.f__law_feed := by kernel_rfl
theorem h__law_take : ft "_law_take" = some H.f__law_take := by kernel_rfl
theorem h__law_whole : ft "_law_whole" = some H.f__law_whole := by kernel_rfl
theorem h__law_wild : ft "_law_wild" = some H.f__law_wild := by kernel_rfl
theorem h__law_deeper : ft "_law_deeper" = some H.f__law_deeper := by kernel_rfl
end Ly.K
set_option Elab.async false
set_option linter.all false
set_option maxRecDepth 100000
set_option maxHeartbeats 4000000
namespace Ly.K
open PySem PySem.Spec PyProof.Rows L2
abbrev Sp := List Int × Int × P
def spots : P → List Int → Int → List Sp
  | .name i, pl, w => [(pl, w, .name i)]
  | .whole i, pl, w => [(pl, w, .whole i)]
  | .un u a, pl, w => spots a (pl ++ [0]) (w + b2i (decide (u = .way)))
  | .bi _ a b, pl, w => spots a (pl ++ [0]) w ++ spots b (pl ++ [1]) w
  | .look a b c, pl, w => spots a (pl ++ [0]) w ++ spots b (pl ++ [1]) w ++ spots c (pl ++ [2]) w
def encS (x : Sp) : D := .tup [encP x.1, .int x.2.1, x.2.2.enc]
theorem spots_len : ∀ (p : P) (pl : List Int) (w : Int), (spots p pl w).length ≤ p.sz
  | .name _, _, _ => by simp [spots, P.sz]
  | .whole _, _, _ => by simp [spots, P.sz]
  | .un u a, pl, w => by
    have := spots_len a (pl ++ [0]) (w + b2i (decide (u = .way)))
    simp only [spots, P.sz]; omega
  | .bi u a b, pl, w => by
    have := spots_len a (pl ++ [0]) w
    have := spots_len b (pl ++ [1]) w
    simp only [spots, P.sz, List.length_append]; omega
  | .look a b c, pl, w => by
    have := spots_len a (pl ++ [0]) w
    have := spots_len b (pl ++ [1]) w
    have := spots_len c (pl ++ [2]) w
    simp only [spots, P.sz, List.length_append]; omega
theorem lift_0 : ∀ (p : P) (l : Int), lift 0 l p = p
  | .name i, l => by unfold lift; split <;> simp
  | .whole i, l => rfl
  | .un u a, l => by simp [lift, lift_0 a]
  | .bi u a b, l => by simp [lift, lift_0 a, lift_0 b]
  | .look a b c, l => by simp [lift, lift_0 a, lift_0 b, lift_0 c]
@[simp] theorem w_R12 : walkD .rng [.int 1, .int 2] = some [.int 1] := by kernel_rfl
@[simp] theorem w_R13 : walkD .rng [.int 1, .int 3] = some [.int 1, .int 2] := by kernel_rfl
@[simp] theorem w_R14 : walkD .rng [.int 1, .int 4] = some [.int 1, .int 2, .int 3] := by kernel_rfl
theorem spots_ev : ∀ (n : Nat) (p : P) (pl : List Int) (w : Int) (m : Mem), p.dep < n → p.sz ≤ 1000000 → pl.length + p.dep ≤ 1000 → cfN ft n "_law_spots" [p.enc, encP pl, .int w] m = .ok (.lst ((spots p pl w).map encS)) true m := by
  intro n
  induction n with
  | zero => intro p pl w m h; omega
  | succ n ih =>
    intro p pl w m hn hz hl
    have app : ∀ (i : Int), opBin .add (encP pl) (.tup [.int i]) = some (encP (pl ++ [i]), false) := fun i => by
      unfold encP
      rw [b_addT, if_pos (sl_le (by simp; omega))]
      simp
    rw [cf_s t__law_spots _ rfl]
    cases p with
    | name i => simp [f__law_spots, b__law_spots, runF, env0, in2, ofStr_inj, spots, encS]
    | whole i => simp [f__law_spots, b__law_spots, runF, env0, in2, ofStr_inj, spots, encS]
    | un u a =>
      have hn : a.dep + 1 < n + 1 := hn
      have hz : a.sz + 1 ≤ 1000000 := hz
      have hl : pl.length + (a.dep + 1) ≤ 1000 := hl
      have e := ih a (pl ++ [0]) (w + b2i (decide (u = .way))) m (by omega) (by omega) (by simp; omega)
      have z := spots_len a (pl ++ [0]) (w + b2i (decide (u = .way)))
      have z1 : (spots a (pl ++ [0]) (w + b2i (decide (u = .way)))).length ≤ sizeLine := sl_le (by omega)
      cases u <;> simp at e z1 <;> simp [f__law_spots, b__law_spots, runF, env0, in2, ofStr_inj, spots, st_for, fo_s, app, e, z1]
    | bi u a b =>
      have hn : max a.dep b.dep + 1 < n + 1 := hn
      have hz : a.sz + b.sz + 1 ≤ 1000000 := hz
      have hl : pl.length + (max a.dep b.dep + 1) ≤ 1000 := hl
      have e1 := ih a (pl ++ [0]) w m (by omega) (by omega) (by simp; omega)
      have e2 := ih b (pl ++ [1]) w m (by omega) (by omega) (by simp; omega)
      have g1 := spots_len a (pl ++ [0]) w
      have g2 := spots_len b (pl ++ [1]) w
      have z1 : (spots a (pl ++ [0]) w).length ≤ sizeLine := sl_le (by omega)
      have z2 : (spots a (pl ++ [0]) w).length + (spots b (pl ++ [1]) w).length ≤ sizeLine := sl_le (by omega)
      cases u <;> simp [f__law_spots, b__law_spots, runF, env0, in2, ofStr_inj, spots, st_for, fo_s, app, e1, e2, z1, z2]
    | look a b c =>
      have hn : max a.dep (max b.dep c.dep) + 1 < n + 1 := hn
      have hz : a.sz + b.sz + c.sz + 1 ≤ 1000000 := hz
      have hl : pl.length + (max a.dep (max b.dep c.dep) + 1) ≤ 1000 := hl
      have e1 := ih a (pl ++ [0]) w m (by omega) (by omega) (by simp; omega)
      have e2 := ih b (pl ++ [1]) w m (by omega) (by omega) (by simp; omega)
      have e3 := ih c (pl ++ [2]) w m (by omega) (by omega) (by simp; omega)
      have g1 := spots_len a (pl ++ [0]) w
      have g2 := spots_len b (pl ++ [1]) w
      have g3 := spots_len c (pl ++ [2]) w
      have z1 : (spots a (pl ++ [0]) w).length ≤ sizeLine := sl_le (by omega)
      have z2 : (spots a (pl ++ [0]) w).length + (spots b (pl ++ [1]) w).length ≤ sizeLine := sl_le (by omega)
      have z3 : (spots a (pl ++ [0]) w).length + ((spots b (pl ++ [1]) w).length + (spots c (pl ++ [2]) w).length) ≤ sizeLine := sl_le (by omega)
      have z4 : (spots a (pl ++ [0]) w).length + (spots b (pl ++ [1]) w).length + (spots c (pl ++ [2]) w).length ≤ sizeLine := sl_le (by omega)
      simp [f__law_spots, b__law_spots, runF, env0, in2, ofStr_inj, spots, st_for, fo_s, app, e1, e2, e3, z1, z2, z3, z4]
theorem sl_P1 (p : P) (h : p.leaf = false) : opSl p.enc (some 1) none = some (.tup (p.inner.map P.enc), false) := by
  rw [enc_node p h]
  show some (D.tup (cutD (.str p.tag :: p.inner.map P.enc) (some 1) none), false) = _
  rw [cut1]
theorem sl_Pt (p : P) (h : p.leaf = false) : opSl p.enc none (some 1) = some (.tup [.str p.tag], false) := by
  rw [enc_node p h]
  show some (D.tup (cutD (.str p.tag :: p.inner.map P.enc) none (some 1)), false) = _
  rw [cut_t1]
theorem llift_ev : ∀ (n : Nat) (p : P) (many least ways : Int) (m : Mem), p.dep < n → cfN ft n "_law_lift" [p.enc, .int many, .int least, .int ways] m = .ok (lift many (least + ways) p).enc false m := by
  intro n
  induction n with
  | zero => intro p many least ways m h; omega
  | succ n ih =>
    intro p many least ways m hn
    rw [cf_r t__law_lift _ rfl]
    show crOf (evSs ft (cfN ft n) [] b__law_lift ⟨[some (p.enc, false), some (.int many, false), some (.int least, false), some (.int ways, false), none, none], m⟩) = _
    cases hlf : p.leaf with
    | true =>
      cases p with
      | name i =>
        have b0 : inB 0 = true := by decide
        have b1 : inB 1 = true := by decide
        by_cases c : least ≤ i - ways
        · have c2 : ¬ i < least + ways := by omega
          simp [-inB_lit, b__law_lift, lift, c, c2, b0, b1, ofStr_inj, crOf]
        · have c2 : i < least + ways := by omega
          simp [-inB_lit, b__law_lift, lift, c, c2, b0, b1, ofStr_inj, crOf]
      | whole i => simp [b__law_lift, lift, ofStr_inj, crOf]
      | _ => cases hlf
    | false =>
      have ht := of_decide_eq_false (tag_ne_name p hlf)
      have ht2 := of_decide_eq_false (tag_ne_whole p hlf)
      have hw : ∀ b : Bool, p.isW = b → (if p.tag = "way" then (1 : Int) else 0) = b2i b := fun b hb => by
        have := tag_way p
        rw [hb] at this
        cases b with
        | true => rw [if_pos (of_decide_eq_true this)]; rfl
        | false => rw [if_neg (of_decide_eq_false this)]; rfl
      have hw := hw _ rfl
      have hlc := lc_mapA (ft := ft) (cf := cfN ft n) (elt := .call "_law_lift" [.v 5, .v 1, .v 2, .v 4]) (tg := .v 5) (k := .seq) (its := [.sl (.v 0) (.c (.int 1)) .nil]) (own := [5])
        (s := ⟨[some (p.enc, false), some (.int many, false), some (.int least, false), some (.int ways, false), some (.int (ways + b2i p.isW), false), none], m⟩) (env := [some (p.enc, false), some (.int many, false), some (.int least, false), some (.int ways, false), some (.int (ways + b2i p.isW), false), none]) (m := m) p.inner P.enc (fun q => (lift many (least + (ways + b2i p.isW)) q).enc)
        (by simp [sl_P1 p hlf]) rfl (by have := inner_len p; exact sl_le (by omega)) (fun a ha => by
          have hd := inner_dep p a ha
          refine ⟨[some (p.enc, false), some (.int many, false), some (.int least, false), some (.int ways, false), some (.int (ways + b2i p.isW), false), some (a.enc, false)], false, rfl, ?_⟩
          simp [wipeE, ih a many least (ways + b2i p.isW) m (by omega)])
      have e : least + ways + b2i p.isW = least + (ways + b2i p.isW) := by omega
      have z : 1 + p.inner.length ≤ sizeLine := by have := inner_len p; exact sl_le (by omega)
      rw [lift_node many _ p hlf, enc_mapI _ p hlf, e]
      simp [b__law_lift, tag_ix, ofStr_inj, ht, ht2, hw, hlc, sl_Pt p hlf, z, crOf]
/-- the open names' numbers, as they are met -/
def onm : P → Int → List Int
  | .name i, w => if w ≤ i then [i - w] else []
  | .whole _, _ => []
  | .un u a, w => onm a (w + b2i (decide (u = .way)))
  | .bi _ a b, w => onm a w ++ onm b w
  | .look a b c, w => onm a w ++ (onm b w ++ onm c w)
theorem onm_len : ∀ (p : P) (w : Int), (onm p w).length ≤ p.sz
  | .name i, w => by unfold onm; split <;> simp [P.sz]
  | .whole _, _ => by simp [onm, P.sz]
  | .un u a, w => by
    have := onm_len a (w + b2i (decide (u = .way)))
    simp only [onm, P.sz]; omega
  | .bi u a b, w => by
    have := onm_len a w
    have := onm_len b w
    simp only [onm, P.sz, List.length_append]; omega
  | .look a b c, w => by
    have := onm_len a w
    have := onm_len b w
    have := onm_len c w
    simp only [onm, P.sz, List.length_append]; omega
def spN (x : Sp) : Bool := match x.2.2 with
  | .name _ => true
  | _ => false
def spV (x : Sp) : Int := match x.2.2 with
  | .name i => i - x.2.1
  | _ => 0
theorem spots_onm : ∀ (p : P) (pl : List Int) (w : Int), (((spots p pl w).filter spN).map spV).filter (fun k => decide (-1 < k)) = onm p w
  | .name i, pl, w => by
    by_cases h : w ≤ i
    · have : (-1 : Int) < i - w := by omega
      have e1 : spN (pl, w, P.name i) = true := rfl
      have e2 : spV (pl, w, P.name i) = i - w := rfl
      simp [spots, e1, e2, onm, h, this]
    · have : ¬ (-1 : Int) < i - w := by omega
      have e1 : spN (pl, w, P.name i) = true := rfl
      have e2 : spV (pl, w, P.name i) = i - w := rfl
      simp [spots, e1, e2, onm, h, this]
  | .whole i, pl, w => by
    have e1 : spN (pl, w, P.whole i) = false := rfl
    simp [spots, e1, onm]
  | .un u a, pl, w => spots_onm a _ _
  | .bi u a b, pl, w => by simp only [spots, List.filter_append, List.map_append, onm, spots_onm a, spots_onm b]
  | .look a b c, pl, w => by simp only [spots, List.filter_append, List.map_append, onm, spots_onm a, spots_onm b, spots_onm c, List.append_assoc]
theorem onm_lift (m l : Int) (hm : 0 ≤ m) (hl : 0 ≤ l) : ∀ (p : P) (w : Int), onm (lift m (l + w) p) w = (onm p w).map fun k => if l ≤ k then k + m else k
  | .name i, w => by
    by_cases h : i < l + w
    · by_cases h2 : w ≤ i
      · have : ¬ l ≤ i - w := by omega
        simp [lift, h, onm, h2, this]
      · simp [lift, h, onm, h2]
    · have h2 : w ≤ i := by omega
      have h3 : l ≤ i - w := by omega
      have h4 : w ≤ i + m := by omega
      simp [lift, h, onm, h2, h3, h4]
      omega
  | .whole _, w => rfl
  | .un u a, w => by
    have := onm_lift m l hm hl a (w + b2i (decide (u = .way)))
    rw [← Int.add_assoc] at this
    simpa [lift, onm] using this
  | .bi u a b, w => by simp [lift, onm, onm_lift m l hm hl a w, onm_lift m l hm hl b w]
  | .look a b c, w => by simp [lift, onm, onm_lift m l hm hl a w, onm_lift m l hm hl b w, onm_lift m l hm hl c w]
theorem lift_lift (m k : Int) (hm : 0 ≤ m) : ∀ (p : P) (l : Int), lift k l (lift m l p) = lift (m + k) l p
  | .name i, l => by
    by_cases h : i < l
    · simp [lift, h]
    · have : ¬ i + m < l := by omega
      simp [lift, h, this]
      omega
  | .whole i, l => rfl
  | .un u a, l => by simp [lift, lift_lift m k hm a]
  | .bi u a b, l => by simp [lift, lift_lift m k hm a, lift_lift m k hm b]
  | .look a b c, l => by simp [lift, lift_lift m k hm a, lift_lift m k hm b, lift_lift m k hm c]
/-- a program with names' and wholes' numbers left out -/
def frm : P → D
  | .name _ => .tup [.str "name"]
  | .whole _ => .tup [.str "whole"]
  | .un u a => .tup [.str u.s, frm a]
  | .bi u a b => .tup [.str u.s, frm a, frm b]
  | .look a b c => .tup [.str "look", frm a, frm b, frm c]
theorem frm_lift (m : Int) : ∀ (p : P) (l : Int), frm (lift m l p) = frm p
  | .name i, l => by unfold lift; split <;> rfl
  | .whole i, l => rfl
  | .un u a, l => by simp [lift, frm, frm_lift m a]
  | .bi u a b, l => by simp [lift, frm, frm_lift m a, frm_lift m b]
  | .look a b c, l => by simp [lift, frm, frm_lift m a, frm_lift m b, frm_lift m c]
theorem deref_frm (m : Mem) (p : P) : deref m (frm p) = some (frm p) := by cases p <;> rfl
theorem frm_dep : ∀ p : P, (frm p).dep ≤ p.dep + 1
  | .name _ => by simp [frm, D.dep, D.deps]
  | .whole _ => by simp [frm, D.dep, D.deps]
  | .un u a => by
    have := frm_dep a
    simp [frm, D.dep, D.deps, P.dep]; omega
  | .bi u a b => by
    have := frm_dep a
    have := frm_dep b
    simp [frm, D.dep, D.deps, P.dep]; omega
  | .look a b c => by
    have := frm_dep a
    have := frm_dep b
    have := frm_dep c
    simp [frm, D.dep, D.deps, P.dep]; omega
theorem frm_sd : ∀ p : P, (frm p).sd = true
  | .name _ => rfl
  | .whole _ => rfl
  | .un u a => by simp [frm, D.sd, D.sds, frm_sd a]
  | .bi u a b => by simp [frm, D.sd, D.sds, frm_sd a, frm_sd b]
  | .look a b c => by simp [frm, D.sd, D.sds, frm_sd a, frm_sd b, frm_sd c]
theorem frm_tup (p : P) : ∃ xs, frm p = .tup xs := by cases p <;> exact ⟨_, rfl⟩
theorem ne_self {d : D} (ht : ∃ xs, d = .tup xs) (h : d.sd = true) (hd : d.dep ≤ 200) : opCmp .ne d d = some false := by
  have e : D.eqv d d = true := (eqv_sd d d h h).mpr rfl
  have k : eqOk d d = true := by simp [eqOk, sd_pl d h, hd]
  obtain ⟨xs, rfl⟩ := ht
  show (if eqOk (.tup xs) (.tup xs) then some (D.eqv (.tup xs) (.tup xs)) else none).map (!·) = _
  rw [if_pos k, e]; rfl
theorem ints_sd (l : List Int) : D.sds (l.map D.int) = true := sds_of fun x hx => by obtain ⟨i, _, rfl⟩ := List.mem_map.mp hx; rfl
theorem ints_deps (l : List Int) : D.deps (l.map D.int) = 0 := deps_I l
theorem ne_ints (l : List Int) : opCmp .ne (.lst (l.map D.int)) (.lst (l.map D.int)) = some false := by
  have e : D.eqvs (l.map D.int) (l.map D.int) = true := (eqvs_sd _ _ (ints_sd l) (ints_sd l)).mpr rfl
  have k : eqOk (.lst (l.map D.int)) (.lst (l.map D.int)) = true := by simp [eqOk, D.pl, sds_pl _ (ints_sd l), D.dep, ints_deps]
  show ((if eqOk (.lst (l.map D.int)) (.lst (l.map D.int)) then some (D.eqvs (l.map D.int) (l.map D.int)) else none)).map (!·) = _
  rw [if_pos k, e]; rfl
theorem frame_ev : ∀ (n : Nat) (p : P) (m0 : Mem), p.dep < n → cfN ft n "_law_frame" [p.enc] m0 = .ok (frm p) false m0 := by
  intro n
  induction n with
  | zero => intro p m0 h; omega
  | succ n ih =>
    intro p m0 hn
    cases hlf : p.leaf with
    | true =>
      cases p with
      | name i => rw [cf_s t__law_frame _ rfl]; simp [f__law_frame, b__law_frame, runF, env0, in2, ofStr_inj, frm, cutD, HT.sIx]
      | whole i => rw [cf_s t__law_frame _ rfl]; simp [f__law_frame, b__law_frame, runF, env0, in2, ofStr_inj, frm, cutD, HT.sIx]
      | _ => cases hlf
    | false =>
      have ht := of_decide_eq_false (tag_ne_name p hlf)
      have ht2 := of_decide_eq_false (tag_ne_whole p hlf)
      have hlc := lc_mapA (ft := ft) (cf := cfN ft n) (elt := .call "_law_frame" [.v 1]) (tg := .v 1) (k := .seq) (its := [.sl (.v 0) (.c (.int 1)) .nil]) (own := [1])
        (s := ⟨[some (p.enc, false), none], m0⟩) (env := [some (p.enc, false), none]) (m := m0) p.inner P.enc frm (by simp [sl_P1 p hlf]) rfl (by have := inner_len p; exact sl_le (by omega)) (fun a ha => by
          have hd := inner_dep p a ha
          exact ⟨[some (p.enc, false), some (a.enc, false)], false, rfl, by simp [wipeE, ih a m0 (by omega)]⟩)
      have z : 1 + p.inner.length ≤ sizeLine := by have := inner_len p; exact sl_le (by omega)
      have e : frm p = .tup (.str p.tag :: p.inner.map frm) := by cases p <;> first | (cases hlf; done) | rfl
      rw [cf_s t__law_frame _ rfl, e]
      simp [f__law_frame, b__law_frame, runF, env0, tag_ix, in2, ofStr_inj, ht, ht2, hlc, sl_Pt p hlf, z]
end Ly.K
set_option Elab.async false
set_option linter.all false
set_option maxRecDepth 100000
set_option maxHeartbeats 4000000
namespace Ly.K
open PySem PySem.Spec PyProof.Rows L2
/-- a number noted once -/
def putI (ks : List Int) (k : Int) : List Int := if k ∈ ks then ks else ks ++ [k]
abbrev tt (ks : List Int) : List D := ks.map fun _ => .bl true
abbrev ii (ks : List Int) : List D := ks.map D.int
def mdI (ks : List Int) : MO := .dct (ii ks) (tt ks)
theorem putI_mem (ks : List Int) (k z : Int) : z ∈ putI ks k ↔ z ∈ ks ∨ z = k := by
  unfold putI
  split
  · rename_i h
    exact ⟨.inl, fun q => q.elim id fun e => e ▸ h⟩
  · simp
theorem putI_nodup {ks : List Int} (h : ks.Nodup) (k : Int) : (putI ks k).Nodup := by
  unfold putI
  split
  · exact h
  · rename_i q
    exact List.nodup_append.mpr ⟨h, by simp, fun a ha b hb => by simp at hb; subst hb; exact fun e => q (e ▸ ha)⟩
theorem putI_len (ks : List Int) (k : Int) : (putI ks k).length ≤ ks.length + 1 := by unfold putI; split <;> simp
theorem fold_mem : ∀ (l ks : List Int) (z : Int), z ∈ l.foldl putI ks ↔ z ∈ ks ∨ z ∈ l
  | [], ks, z => by simp
  | a :: l, ks, z => by
    rw [List.foldl_cons, fold_mem l, putI_mem, List.mem_cons, or_assoc]
theorem fold_nodup : ∀ (l ks : List Int), ks.Nodup → (l.foldl putI ks).Nodup
  | [], ks, h => h
  | a :: l, ks, h => fold_nodup l _ (putI_nodup h a)
theorem fold_len : ∀ (l ks : List Int), (l.foldl putI ks).length ≤ ks.length + l.length
  | [], ks => by simp
  | a :: l, ks => by
    have := fold_len l (putI ks a)
    have := putI_len ks a
    simp only [List.foldl_cons, List.length_cons]; omega
theorem dk_put (k : Int) : ∀ ks : List Int, dPutK (.int k) (ii ks) = ii (putI ks k)
  | [] => rfl
  | a :: ks => by
    have ih := dk_put k ks
    show (if D.beq (.int k) (.int a) = true then D.int a :: ii ks else D.int a :: dPutK (.int k) (ii ks)) = _
    rw [show D.beq (.int k) (.int a) = decide (k = a) from rfl, ih]
    by_cases e : k = a
    · subst e; simp [putI]
    · by_cases h : k ∈ ks <;> simp [putI, e, h]
theorem dv_put (k : Int) : ∀ ks : List Int, dPutV (.int k) (.bl true) (ii ks) (tt ks) = tt (putI ks k)
  | [] => rfl
  | a :: ks => by
    have ih := dv_put k ks
    show (if D.beq (.int k) (.int a) = true then D.bl true :: tt ks else D.bl true :: dPutV (.int k) (.bl true) (ii ks) (tt ks)) = _
    rw [show D.beq (.int k) (.int a) = decide (k = a) from rfl, ih]
    by_cases e : k = a
    · subst e; simp [putI, tt]
    · by_cases h : k ∈ ks <;> simp [putI, e, h, tt]
theorem kI_all (ks : List Int) : (ii ks).all D.kI = true := List.all_eq_true.mpr fun x hx => by obtain ⟨i, _, rfl⟩ := List.mem_map.mp hx; rfl
theorem set_ev (k : Int) (ks : List Int) (h : ks.length < 1000) : setM (.dct (ii ks) (tt ks)) (.int k) (.bl true) = some (.dct (ii (putI ks k)) (tt (putI ks k))) := by
  have f : kfit (.int k) (ii ks) (tt ks) = true := by
    unfold kfit
    rw [if_pos (by simp), kI_all]
    simp [D.kI]
  have z : (ii ks).length < sizeLine := sl_lt (by simp; omega)
  show (if (kfit (.int k) (ii ks) (tt ks) && decide ((ii ks).length < sizeLine)) = true then some (D.dct (dPutK (.int k) (ii ks)) (dPutV (.int k) (.bl true) (ii ks) (tt ks))) else none) = _
  rw [f, decide_eq_true z, dk_put, dv_put]; rfl
structure CellD (M : List Int → Mem) (r : Nat) : Prop where
  get : ∀ ks, (M ks)[r]? = some (mdI ks)
  put : ∀ ks js, (M ks).set r (mdI js) = M js
theorem opened_ev {M : List Int → Mem} {r : Nat} (hM : CellD M r) : ∀ (n : Nat) (p : P) (w : Int) (ks : List Int), p.dep + 1 < n → ks.length + p.sz < 1000 → cfN ft n "opened" [p.enc, .int w, .ref r] (M ks) = .ok .non false (M ((onm p w).foldl putI ks)) := by
  intro n
  induction n with
  | zero => intro p w ks h; omega
  | succ n ih =>
    intro p w ks hn hz
    obtain ⟨n, rfl⟩ : ∃ j, n = j + 1 := ⟨n - 1, by omega⟩
    have hin : ∀ p n m, cfN ft (n + 1) "inner" [P.enc p] m = .ok (.tup (p.inner.map P.enc)) false m := inner_ev h_inner
    have hmo : ∀ p w n m, cfN ft (n + 1) "ways_more" [P.enc p, .int w] m = .ok (.int (w + b2i p.isW)) false m := more_ev h_ways_more
    rw [cf_s t_opened _ rfl]
    cases p with
    | name i =>
      by_cases h : w ≤ i
      · have e := set_ev (i - w) ks (by omega)
        have g := hM.get ks
        have pt := hM.put ks (putI ks (i - w))
        have hi := hin (.name i) n (M (putI ks (i - w)))
        have ol : onm (.name i) w = [i - w] := by simp [onm, h]
        simp only [mdI] at g pt
        rw [e_name] at hi
        simp [f_opened, b_opened, runF, env0, h, g, e, putE, putV, putM, D.mo, pt, hi, P.inner, st_for, fo_s, ofStr_inj, ol]
      · have ol : onm (.name i) w = [] := by simp [onm, h]
        have hi := hin (.name i) n (M ks)
        rw [e_name] at hi
        simp [f_opened, b_opened, runF, env0, h, hi, P.inner, st_for, fo_s, ofStr_inj, ol]
    | whole i =>
      have hi := hin (.whole i) n (M ks)
      rw [e_whole] at hi
      simp [f_opened, b_opened, runF, env0, hi, P.inner, st_for, fo_s, ofStr_inj, onm]
    | un u a =>
      have hn : a.dep + 1 + 1 < n + 1 + 1 := hn
      have hz : ks.length + (a.sz + 1) < 1000 := hz
      have e1 := ih a (w + b2i (decide (u = .way))) ks (by omega) (by omega)
      have hi := hin (.un u a) n (M ks)
      have h2 := hmo (.un u a) w n (M ks)
      cases u <;> (simp only [e_way, e_first, e_second, P.isW] at hi h2; simp at e1; simp [f_opened, b_opened, runF, env0, hi, h2, P.inner, st_for, fo_s, ofStr_inj, onm, e1])
    | bi u a b =>
      have hn : max a.dep b.dep + 1 + 1 < n + 1 + 1 := hn
      have hz : ks.length + (a.sz + b.sz + 1) < 1000 := hz
      have l1 := onm_len a w
      have f1 := fold_len (onm a w) ks
      have e1 := ih a w ks (by omega) (by omega)
      have e2 := ih b w ((onm a w).foldl putI ks) (by omega) (by omega)
      have hi := hin (.bi u a b) n (M ks)
      have h2 := hmo (.bi u a b) w n (M ks)
      have h3 := hmo (.bi u a b) w n (M ((onm a w).foldl putI ks))
      cases u <;> (simp only [e_give, e_pair, e_plus, P.isW, b2i_f, Int.add_zero] at hi h2 h3; simp [f_opened, b_opened, runF, env0, hi, h2, h3, P.inner, st_for, fo_s, ofStr_inj, onm, e1, e2, List.foldl_append])
    | look a b c =>
      have hn : max a.dep (max b.dep c.dep) + 1 + 1 < n + 1 + 1 := hn
      have hz : ks.length + (a.sz + b.sz + c.sz + 1) < 1000 := hz
      have l1 := onm_len a w
      have f1 := fold_len (onm a w) ks
      have l2 := onm_len b w
      have f2 := fold_len (onm b w) ((onm a w).foldl putI ks)
      have e1 := ih a w ks (by omega) (by omega)
      have e2 := ih b w ((onm a w).foldl putI ks) (by omega) (by omega)
      have e3 := ih c w ((onm b w).foldl putI ((onm a w).foldl putI ks)) (by omega) (by omega)
      have hi := hin (.look a b c) n (M ks)
      have h2 := hmo (.look a b c) w n (M ks)
      have h3 := hmo (.look a b c) w n (M ((onm a w).foldl putI ks))
      have h4 := hmo (.look a b c) w n (M ((onm b w).foldl putI ((onm a w).foldl putI ks)))
      simp only [e_look, P.isW, b2i_f, Int.add_zero] at hi h2 h3 h4
      simp [f_opened, b_opened, runF, env0, hi, h2, h3, h4, P.inner, st_for, fo_s, ofStr_inj, onm, e1, e2, e3, List.foldl_append]
/-- the open names' numbers, rising, each once -/
def opn (p : P) : List Int := sortI (dedupI (onm p 0))
theorem keys_opn (p : P) : sortI ((onm p 0).foldl putI []) = opn p := by
  have nd := fold_nodup (onm p 0) [] List.nodup_nil
  refine lt_uniq (lt_of_le (sortI_sorted _) ((sortI_perm _).nodup_iff.mpr nd)) (sset_lt _) fun k => ?_
  rw [(sortI_perm _).mem_iff, fold_mem, opn, sset_mem]
  simp
theorem ints_ii : ∀ l : List Int, D.ints? (ii l) = some l
  | [] => rfl
  | a :: l => by
    show (D.ints? (ii l)).map (a :: ·) = _
    rw [ints_ii l]; rfl
theorem sortD_ev (ks : List Int) (h : ks.length < 64) : bfn .sorted [.dct (ii ks) (tt ks)] = some (.lst (ii (sortI ks)), true) := by
  show (if (ii ks).length < 64 ∧ (tt ks).length = (ii ks).length then (D.ints? (ii ks)).map fun ns => (D.lst ((sortI ns).map D.int), true) else none) = _
  rw [if_pos ⟨by simpa using h, by simp⟩, ints_ii]; rfl
theorem open_ev (p : P) (n : Nat) (m : Mem) (hn : p.dep + 1 < n) (hz : p.sz < 900) (hl : (onm p 0).length < 64) : cfN ft (n + 1) "open_names" [p.enc] m = .ok (.lst (ii (opn p))) true (m ++ [mdI ((onm p 0).foldl putI [])]) := by
  have hM : CellD (fun ks => m ++ [mdI ks]) m.length := ⟨fun ks => by simp, fun ks js => by simp⟩
  have e := opened_ev hM n p 0 [] hn (by simp; omega)
  have fl := fold_len (onm p 0) []
  have s := sortD_ev ((onm p 0).foldl putI []) (by simp at fl; omega)
  rw [keys_opn] at s
  have g : (m ++ [mdI ((onm p 0).foldl putI [])])[m.length]? = some (mdI ((onm p 0).foldl putI [])) := by simp
  have e0 : m ++ [MO.dct [] []] = (fun ks => m ++ [mdI ks]) [] := rfl
  rw [cf_s t_open_names _ rfl]
  generalize (onm p 0).foldl putI [] = ks at *
  rw [mdI] at g
  simp only [← e0] at e
  simp [f_open_names, b_open_names, runF, env0, e, s]
  simp [mdI, s, g]
end Ly.K
set_option Elab.async false
set_option linter.all false
set_option maxRecDepth 100000
set_option maxHeartbeats 4000000
namespace Ly.K
open PySem PySem.Spec PyProof.Rows L2
/-- leaves -/
def lv : P → Nat
  | .name _ => 1
  | .whole _ => 1
  | .un _ a => lv a
  | .bi _ a b => lv a + lv b
  | .look a b c => lv a + lv b + lv c
theorem onm_lv : ∀ (p : P) (w : Int), (onm p w).length ≤ lv p
  | .name i, w => by unfold onm; split <;> simp [lv]
  | .whole _, _ => by simp [onm, lv]
  | .un u a, w => onm_lv a _
  | .bi u a b, w => by
    have := onm_lv a w
    have := onm_lv b w
    simp only [onm, lv, List.length_append]; omega
  | .look a b c, w => by
    have := onm_lv a w
    have := onm_lv b w
    have := onm_lv c w
    simp only [onm, lv, List.length_append]; omega
theorem lv_lift (m : Int) : ∀ (p : P) (l : Int), lv (lift m l p) = lv p
  | .name i, l => by unfold lift; split <;> rfl
  | .whole i, l => rfl
  | .un u a, l => by simp [lift, lv, lv_lift m a]
  | .bi u a b, l => by simp [lift, lv, lv_lift m a, lv_lift m b]
  | .look a b c, l => by simp [lift, lv, lv_lift m a, lv_lift m b, lv_lift m c]
/-- a drawn program: so deep, of such room -/
def WP (k : Nat) (room : Int) (d : D) : Prop := ∃ p : P, d = p.enc ∧ p.dep ≤ k ∧ p.nn = true ∧ (p.sz = 1 ∨ (p.sz : Int) ≤ 2 * room) ∧ (lv p = 1 ∨ 2 * (lv p : Int) ≤ 3 * room)
theorem WP.name {k : Nat} {room v : Int} (h : 0 ≤ v) : WP k room (.tup [.str "name", .int v]) := ⟨.name v, rfl, Nat.zero_le _, by simpa [P.nn] using h, .inl rfl, .inl rfl⟩
theorem WP.whole {k : Nat} {room v : Int} : WP k room (P.whole v).enc := ⟨.whole v, rfl, Nat.zero_le _, rfl, .inl rfl, .inl rfl⟩
theorem WP.un {k : Nat} {r1 room : Int} {x : D} (w : Un) (h : WP k r1 x) (h0 : 2 ≤ room) (h1 : r1 = room - 1) : WP (k + 1) room (.tup [.str w.s, x]) := by
  obtain ⟨p, rfl, a, b, c, d⟩ := h
  exact ⟨.un w p, rfl, by simp only [P.dep]; omega, b, by simp only [P.sz]; omega, by simp only [lv]; omega⟩
theorem WP.bi {k : Nat} {r1 room : Int} {x y : D} (w : Bi) (h : WP k r1 x) (q : WP k r1 y) (h0 : 2 ≤ room) (h1 : r1 = (room - 1) / 2) : WP (k + 1) room (.tup [.str w.s, x, y]) := by
  obtain ⟨p, rfl, a, b, c, d⟩ := h
  obtain ⟨p', rfl, a', b', c', d'⟩ := q
  exact ⟨.bi w p p', rfl, by simp only [P.dep]; omega, by simp [P.nn, b, b'], by simp only [P.sz]; omega, by simp only [lv]; omega⟩
theorem WP.look {k : Nat} {r1 room : Int} {x y z : D} (h : WP k r1 x) (q : WP k r1 y) (q2 : WP k r1 z) (h0 : 2 ≤ room) (h1 : r1 = (room - 1) / 3) : WP (k + 1) room (.tup [.str "look", x, y, z]) := by
  obtain ⟨p, rfl, a, b, c, d⟩ := h
  obtain ⟨p', rfl, a', b', c', d'⟩ := q
  obtain ⟨p2, rfl, a2, b2, c2, d2⟩ := q2
  exact ⟨.look p p' p2, rfl, by simp only [P.dep]; omega, by simp [P.nn, b, b', b2], by simp only [P.sz]; omega, by simp only [lv]; omega⟩
section
variable {M : Fd → Mem} {r : Nat} (hM : Cell M r)
include hM
theorem whole_gg : Gen ft M r "_law_whole" [] 2 fun d => ∃ i, d = (P.whole i).enc := Gen.of_ex fun n hn fd => by
  obtain ⟨i, f', h⟩ := whole_c h__law_take h__law_whole fd
  obtain ⟨n, rfl⟩ : ∃ k, n = k + 2 := ⟨n - 2, by omega⟩
  exact ⟨_, f', ⟨i, rfl⟩, h n M r hM⟩
theorem wild_s : ∀ (k : Nat) (many room deep : Int), 0 ≤ many → many + k < 500 → deep ≤ k → Gen ft M r "_law_wild" [.int many, .int room, .int deep] (k + 3) (WP k room) := by
  intro k
  induction k with
  | zero =>
    intro many room deep h0 h1 h2
    refine Gen.of t__law_wild rfl fun n hn fd => ?_
    dsimp only [f__law_wild, b__law_wild, env0, List.map, List.cons_append, List.nil_append, List.replicate]
    have hd : deep < 1 := by omega
    by_cases hm : 0 < many
    · skip
      repeat' (first
        | (with_reducible refine w_asg (w_abs fun Q1 hQ => ?_); simp [R.assoc, toB_b, toB_call, toB_if, hd, hm])
        | (with_reducible refine w_ret (w_abs fun Q1 hQ => ?_); simp [R.assoc, toB_b, toB_call, toB_if, hd, hm])
        | (with_reducible refine w_ife (w_abs fun Q1 hQ => ?_); simp [R.assoc, toB_b, toB_call, toB_if, hd, hm])
        | (with_reducible refine w_ex (w_abs fun Q1 hQ => ?_); simp [R.assoc, toB_b, toB_call, toB_if, hd, hm])
        | (refine Gen.w (Gen.take h__law_take hM 12 (by omega) (by omega)) (by omega) ?_; rintro _ fd ⟨v, rfl, v0, v1⟩; try simp [R.assoc, toB_b, toB_call, toB_if, hd, hm])
        | (refine Gen.w0 (Gen.take h__law_take hM 12 (by omega) (by omega)) (by omega) ?_; rintro _ fd ⟨v, rfl, v0, v1⟩; try simp [R.assoc, toB_b, toB_call, toB_if, hd, hm])
        | (refine Gen.w (Gen.take h__law_take hM 3 (by omega) (by omega)) (by omega) ?_; rintro _ fd ⟨v, rfl, v0, v1⟩; try simp [R.assoc, toB_b, toB_call, toB_if, hd, hm])
        | (refine Gen.w0 (Gen.take h__law_take hM 3 (by omega) (by omega)) (by omega) ?_; rintro _ fd ⟨v, rfl, v0, v1⟩; try simp [R.assoc, toB_b, toB_call, toB_if, hd, hm])
        | (refine Gen.w (Gen.take h__law_take hM many (by omega) (by omega)) (by omega) ?_; rintro _ fd ⟨v, rfl, v0, v1⟩; try simp [R.assoc, toB_b, toB_call, toB_if, hd, hm])
        | (refine Gen.w0 (Gen.take h__law_take hM many (by omega) (by omega)) (by omega) ?_; rintro _ fd ⟨v, rfl, v0, v1⟩; try simp [R.assoc, toB_b, toB_call, toB_if, hd, hm])
        | (refine Gen.w (whole_gg hM) (by omega) ?_; rintro _ fd ⟨i, rfl⟩; try simp [R.assoc, toB_b, toB_call, toB_if, hd, hm])
        | (refine Gen.w0 (whole_gg hM) (by omega) ?_; rintro _ fd ⟨i, rfl⟩; try simp [R.assoc, toB_b, toB_call, toB_if, hd, hm])
        | (refine w_atI (by omega) (by simp only [List.length_cons, List.length_nil]; omega) ?_; simp only [List.forall_mem_cons, List.forall_mem_nil, and_true]; and_intros <;> try simp [R.assoc, toB_b, toB_call, toB_if, hd, hm])
        | (refine w_atI0 (by omega) (by simp only [List.length_cons, List.length_nil]; omega) ?_; simp only [List.forall_mem_cons, List.forall_mem_nil, and_true]; and_intros <;> try simp [R.assoc, toB_b, toB_call, toB_if, hd, hm])
        | (refine w_if (fun hc => ?_) (fun hc => ?_) <;> try simp [R.assoc, toB_b, toB_call, toB_if, hd, hm])
        | (refine w_ifb (fun hc => ?_) (fun hc => ?_) <;> try simp [R.assoc, toB_b, toB_call, toB_if, hd, hm])
        | (refine hQ _ _ ?_; clear hQ Q1; try simp only [asgT_v, asgT_t, List.contains_cons, List.contains_nil, Nat.reduceBEq, Bool.or_false, Bool.false_or, Bool.false_eq_true, if_false, if_true, wp_ok, List.set_cons_succ, List.set_cons_zero, List.cons_append, List.nil_append, decide_eq_true_eq, decide_eq_false_iff_not, Bool.or_eq_true, Bool.and_eq_true, Bool.or_eq_false_iff, Bool.and_eq_false_iff, Bool.not_eq_true', Bool.not_eq_false', true_implies, false_implies, Bool.true_eq_false])
        | (with_reducible refine w_l ?_)
        | (with_reducible refine w_r ?_)
        | (refine w_two ?_ ?_ <;> intro hc <;> try simp only [reduceCtorEq] at hc))
      all_goals first
        | exact ⟨by simp, _, rfl, WP.name (by assumption)⟩
        | exact ⟨by simp, _, rfl, WP.whole⟩
        | (exfalso; omega)
    · skip
      repeat' (first
        | (with_reducible refine w_asg (w_abs fun Q1 hQ => ?_); simp [R.assoc, toB_b, toB_call, toB_if, hd, hm])
        | (with_reducible refine w_ret (w_abs fun Q1 hQ => ?_); simp [R.assoc, toB_b, toB_call, toB_if, hd, hm])
        | (with_reducible refine w_ife (w_abs fun Q1 hQ => ?_); simp [R.assoc, toB_b, toB_call, toB_if, hd, hm])
        | (with_reducible refine w_ex (w_abs fun Q1 hQ => ?_); simp [R.assoc, toB_b, toB_call, toB_if, hd, hm])
        | (refine Gen.w (Gen.take h__law_take hM 12 (by omega) (by omega)) (by omega) ?_; rintro _ fd ⟨v, rfl, v0, v1⟩; try simp [R.assoc, toB_b, toB_call, toB_if, hd, hm])
        | (refine Gen.w0 (Gen.take h__law_take hM 12 (by omega) (by omega)) (by omega) ?_; rintro _ fd ⟨v, rfl, v0, v1⟩; try simp [R.assoc, toB_b, toB_call, toB_if, hd, hm])
        | (refine Gen.w (whole_gg hM) (by omega) ?_; rintro _ fd ⟨i, rfl⟩; try simp [R.assoc, toB_b, toB_call, toB_if, hd, hm])
        | (refine Gen.w0 (whole_gg hM) (by omega) ?_; rintro _ fd ⟨i, rfl⟩; try simp [R.assoc, toB_b, toB_call, toB_if, hd, hm])
        | (refine w_atI (by omega) (by simp only [List.length_cons, List.length_nil]; omega) ?_; simp only [List.forall_mem_cons, List.forall_mem_nil, and_true]; and_intros <;> try simp [R.assoc, toB_b, toB_call, toB_if, hd, hm])
        | (refine w_atI0 (by omega) (by simp only [List.length_cons, List.length_nil]; omega) ?_; simp only [List.forall_mem_cons, List.forall_mem_nil, and_true]; and_intros <;> try simp [R.assoc, toB_b, toB_call, toB_if, hd, hm])
        | (refine w_if (fun hc => ?_) (fun hc => ?_) <;> try simp [R.assoc, toB_b, toB_call, toB_if, hd, hm])
        | (refine w_ifb (fun hc => ?_) (fun hc => ?_) <;> try simp [R.assoc, toB_b, toB_call, toB_if, hd, hm])
        | (refine hQ _ _ ?_; clear hQ Q1; try simp only [asgT_v, asgT_t, List.contains_cons, List.contains_nil, Nat.reduceBEq, Bool.or_false, Bool.false_or, Bool.false_eq_true, if_false, if_true, wp_ok, List.set_cons_succ, List.set_cons_zero, List.cons_append, List.nil_append, decide_eq_true_eq, decide_eq_false_iff_not, Bool.or_eq_true, Bool.and_eq_true, Bool.or_eq_false_iff, Bool.and_eq_false_iff, Bool.not_eq_true', Bool.not_eq_false', true_implies, false_implies, Bool.true_eq_false])
        | (with_reducible refine w_l ?_)
        | (with_reducible refine w_r ?_)
        | (refine w_two ?_ ?_ <;> intro hc <;> try simp only [reduceCtorEq] at hc))
      all_goals first
        | exact ⟨by simp, _, rfl, WP.whole⟩
        | (exfalso; omega)
  | succ k ih =>
    intro many room deep h0 h1 h2
    have i1 := ih (many + 1) (room - 1) (deep - 1) (by omega) (by omega) (by omega)
    have i2 := ih many (room - 1) (deep - 1) (by omega) (by omega) (by omega)
    have i3 := ih many ((room - 1) / 3) (deep - 1) (by omega) (by omega) (by omega)
    have i4 := ih many ((room - 1) / 2) (deep - 1) (by omega) (by omega) (by omega)
    refine Gen.of t__law_wild rfl fun n hn fd => ?_
    dsimp only [f__law_wild, b__law_wild, env0, List.map, List.cons_append, List.nil_append, List.replicate]
    by_cases hm : 0 < many
    · skip
      repeat' (first
        | (with_reducible refine w_asg (w_abs fun Q1 hQ => ?_); simp [R.assoc, toB_b, toB_call, toB_if, hm])
        | (with_reducible refine w_ret (w_abs fun Q1 hQ => ?_); simp [R.assoc, toB_b, toB_call, toB_if, hm])
        | (with_reducible refine w_ife (w_abs fun Q1 hQ => ?_); simp [R.assoc, toB_b, toB_call, toB_if, hm])
        | (with_reducible refine w_ex (w_abs fun Q1 hQ => ?_); simp [R.assoc, toB_b, toB_call, toB_if, hm])
        | (refine Gen.w (Gen.take h__law_take hM 12 (by omega) (by omega)) (by omega) ?_; rintro _ fd ⟨v, rfl, v0, v1⟩; try simp [R.assoc, toB_b, toB_call, toB_if, hm])
        | (refine Gen.w0 (Gen.take h__law_take hM 12 (by omega) (by omega)) (by omega) ?_; rintro _ fd ⟨v, rfl, v0, v1⟩; try simp [R.assoc, toB_b, toB_call, toB_if, hm])
        | (refine Gen.w (Gen.take h__law_take hM 3 (by omega) (by omega)) (by omega) ?_; rintro _ fd ⟨u, rfl, u0, u1⟩; try simp [R.assoc, toB_b, toB_call, toB_if, hm])
        | (refine Gen.w0 (Gen.take h__law_take hM 3 (by omega) (by omega)) (by omega) ?_; rintro _ fd ⟨u, rfl, u0, u1⟩; try simp [R.assoc, toB_b, toB_call, toB_if, hm])
        | (refine Gen.w (Gen.take h__law_take hM many (by omega) (by omega)) (by omega) ?_; rintro _ fd ⟨u, rfl, u0, u1⟩; try simp [R.assoc, toB_b, toB_call, toB_if, hm])
        | (refine Gen.w0 (Gen.take h__law_take hM many (by omega) (by omega)) (by omega) ?_; rintro _ fd ⟨u, rfl, u0, u1⟩; try simp [R.assoc, toB_b, toB_call, toB_if, hm])
        | (refine Gen.w (whole_gg hM) (by omega) ?_; rintro _ fd ⟨i, rfl⟩; try simp [R.assoc, toB_b, toB_call, toB_if, hm])
        | (refine Gen.w0 (whole_gg hM) (by omega) ?_; rintro _ fd ⟨i, rfl⟩; try simp [R.assoc, toB_b, toB_call, toB_if, hm])
        | (refine Gen.w (i1) (by omega) ?_; rintro _ fd hq; try simp [R.assoc, toB_b, toB_call, toB_if, hm])
        | (refine Gen.w0 (i1) (by omega) ?_; rintro _ fd hq; try simp [R.assoc, toB_b, toB_call, toB_if, hm])
        | (refine Gen.w (i2) (by omega) ?_; rintro _ fd hq; try simp [R.assoc, toB_b, toB_call, toB_if, hm])
        | (refine Gen.w0 (i2) (by omega) ?_; rintro _ fd hq; try simp [R.assoc, toB_b, toB_call, toB_if, hm])
        | (refine Gen.w (i3) (by omega) ?_; rintro _ fd hq; try simp [R.assoc, toB_b, toB_call, toB_if, hm])
        | (refine Gen.w0 (i3) (by omega) ?_; rintro _ fd hq; try simp [R.assoc, toB_b, toB_call, toB_if, hm])
        | (refine Gen.w (i4) (by omega) ?_; rintro _ fd hq; try simp [R.assoc, toB_b, toB_call, toB_if, hm])
        | (refine Gen.w0 (i4) (by omega) ?_; rintro _ fd hq; try simp [R.assoc, toB_b, toB_call, toB_if, hm])
        | (refine w_atI (by omega) (by simp only [List.length_cons, List.length_nil]; omega) ?_; simp only [List.forall_mem_cons, List.forall_mem_nil, and_true]; and_intros <;> try simp [R.assoc, toB_b, toB_call, toB_if, hm])
        | (refine w_atI0 (by omega) (by simp only [List.length_cons, List.length_nil]; omega) ?_; simp only [List.forall_mem_cons, List.forall_mem_nil, and_true]; and_intros <;> try simp [R.assoc, toB_b, toB_call, toB_if, hm])
        | (refine w_if (fun hc => ?_) (fun hc => ?_) <;> try simp [R.assoc, toB_b, toB_call, toB_if, hm])
        | (refine w_ifb (fun hc => ?_) (fun hc => ?_) <;> try simp [R.assoc, toB_b, toB_call, toB_if, hm])
        | (refine hQ _ _ ?_; clear hQ Q1; try simp only [asgT_v, asgT_t, List.contains_cons, List.contains_nil, Nat.reduceBEq, Bool.or_false, Bool.false_or, Bool.false_eq_true, if_false, if_true, wp_ok, List.set_cons_succ, List.set_cons_zero, List.cons_append, List.nil_append, decide_eq_true_eq, decide_eq_false_iff_not, Bool.or_eq_true, Bool.and_eq_true, Bool.or_eq_false_iff, Bool.and_eq_false_iff, Bool.not_eq_true', Bool.not_eq_false', true_implies, false_implies, Bool.true_eq_false])
        | (with_reducible refine w_l ?_)
        | (with_reducible refine w_r ?_)
        | (refine w_two ?_ ?_ <;> intro hc <;> try simp only [reduceCtorEq] at hc))
      all_goals first
        | exact ⟨by simp, _, rfl, WP.name (by assumption)⟩
        | exact ⟨by simp, _, rfl, WP.whole⟩
        | exact ⟨by simp, _, rfl, WP.un .way (by assumption) (by omega) rfl⟩
        | exact ⟨by simp, _, rfl, WP.un .first (by assumption) (by omega) rfl⟩
        | exact ⟨by simp, _, rfl, WP.un .second (by assumption) (by omega) rfl⟩
        | exact ⟨by simp, _, rfl, WP.look (by assumption) (by assumption) (by assumption) (by omega) rfl⟩
        | exact ⟨by simp, _, rfl, WP.bi .give (by assumption) (by assumption) (by omega) rfl⟩
        | exact ⟨by simp, _, rfl, WP.bi .plus (by assumption) (by assumption) (by omega) rfl⟩
        | exact ⟨by simp, _, rfl, WP.bi .pair (by assumption) (by assumption) (by omega) rfl⟩
        | (exfalso; omega)
    · skip
      repeat' (first
        | (with_reducible refine w_asg (w_abs fun Q1 hQ => ?_); simp [R.assoc, toB_b, toB_call, toB_if, hm])
        | (with_reducible refine w_ret (w_abs fun Q1 hQ => ?_); simp [R.assoc, toB_b, toB_call, toB_if, hm])
        | (with_reducible refine w_ife (w_abs fun Q1 hQ => ?_); simp [R.assoc, toB_b, toB_call, toB_if, hm])
        | (with_reducible refine w_ex (w_abs fun Q1 hQ => ?_); simp [R.assoc, toB_b, toB_call, toB_if, hm])
        | (refine Gen.w (Gen.take h__law_take hM 12 (by omega) (by omega)) (by omega) ?_; rintro _ fd ⟨v, rfl, v0, v1⟩; try simp [R.assoc, toB_b, toB_call, toB_if, hm])
        | (refine Gen.w0 (Gen.take h__law_take hM 12 (by omega) (by omega)) (by omega) ?_; rintro _ fd ⟨v, rfl, v0, v1⟩; try simp [R.assoc, toB_b, toB_call, toB_if, hm])
        | (refine Gen.w (whole_gg hM) (by omega) ?_; rintro _ fd ⟨i, rfl⟩; try simp [R.assoc, toB_b, toB_call, toB_if, hm])
        | (refine Gen.w0 (whole_gg hM) (by omega) ?_; rintro _ fd ⟨i, rfl⟩; try simp [R.assoc, toB_b, toB_call, toB_if, hm])
        | (refine Gen.w (i1) (by omega) ?_; rintro _ fd hq; try simp [R.assoc, toB_b, toB_call, toB_if, hm])
        | (refine Gen.w0 (i1) (by omega) ?_; rintro _ fd hq; try simp [R.assoc, toB_b, toB_call, toB_if, hm])
        | (refine Gen.w (i2) (by omega) ?_; rintro _ fd hq; try simp [R.assoc, toB_b, toB_call, toB_if, hm])
        | (refine Gen.w0 (i2) (by omega) ?_; rintro _ fd hq; try simp [R.assoc, toB_b, toB_call, toB_if, hm])
        | (refine Gen.w (i3) (by omega) ?_; rintro _ fd hq; try simp [R.assoc, toB_b, toB_call, toB_if, hm])
        | (refine Gen.w0 (i3) (by omega) ?_; rintro _ fd hq; try simp [R.assoc, toB_b, toB_call, toB_if, hm])
        | (refine Gen.w (i4) (by omega) ?_; rintro _ fd hq; try simp [R.assoc, toB_b, toB_call, toB_if, hm])
        | (refine Gen.w0 (i4) (by omega) ?_; rintro _ fd hq; try simp [R.assoc, toB_b, toB_call, toB_if, hm])
        | (refine w_atI (by omega) (by simp only [List.length_cons, List.length_nil]; omega) ?_; simp only [List.forall_mem_cons, List.forall_mem_nil, and_true]; and_intros <;> try simp [R.assoc, toB_b, toB_call, toB_if, hm])
        | (refine w_atI0 (by omega) (by simp only [List.length_cons, List.length_nil]; omega) ?_; simp only [List.forall_mem_cons, List.forall_mem_nil, and_true]; and_intros <;> try simp [R.assoc, toB_b, toB_call, toB_if, hm])
        | (refine w_if (fun hc => ?_) (fun hc => ?_) <;> try simp [R.assoc, toB_b, toB_call, toB_if, hm])
        | (refine w_ifb (fun hc => ?_) (fun hc => ?_) <;> try simp [R.assoc, toB_b, toB_call, toB_if, hm])
        | (refine hQ _ _ ?_; clear hQ Q1; try simp only [asgT_v, asgT_t, List.contains_cons, List.contains_nil, Nat.reduceBEq, Bool.or_false, Bool.false_or, Bool.false_eq_true, if_false, if_true, wp_ok, List.set_cons_succ, List.set_cons_zero, List.cons_append, List.nil_append, decide_eq_true_eq, decide_eq_false_iff_not, Bool.or_eq_true, Bool.and_eq_true, Bool.or_eq_false_iff, Bool.and_eq_false_iff, Bool.not_eq_true', Bool.not_eq_false', true_implies, false_implies, Bool.true_eq_false])
        | (with_reducible refine w_l ?_)
        | (with_reducible refine w_r ?_)
        | (refine w_two ?_ ?_ <;> intro hc <;> try simp only [reduceCtorEq] at hc))
      all_goals first
        | exact ⟨by simp, _, rfl, WP.whole⟩
        | exact ⟨by simp, _, rfl, WP.un .way (by assumption) (by omega) rfl⟩
        | exact ⟨by simp, _, rfl, WP.un .first (by assumption) (by omega) rfl⟩
        | exact ⟨by simp, _, rfl, WP.un .second (by assumption) (by omega) rfl⟩
        | exact ⟨by simp, _, rfl, WP.look (by assumption) (by assumption) (by assumption) (by omega) rfl⟩
        | exact ⟨by simp, _, rfl, WP.bi .give (by assumption) (by assumption) (by omega) rfl⟩
        | exact ⟨by simp, _, rfl, WP.bi .plus (by assumption) (by assumption) (by omega) rfl⟩
        | exact ⟨by simp, _, rfl, WP.bi .pair (by assumption) (by assumption) (by omega) rfl⟩
        | (exfalso; omega)
/-- deeper: so many turns at most -/
theorem deeper_s (p : P) (hp : p.nn = true) : Gen ft M r "_law_deeper" [p.enc] 3 (fun d => ∃ q : P, d = q.enc ∧ q.dep ≤ p.dep + 18 ∧ q.sz ≤ p.sz + 36 ∧ q.nn = true ∧ lv q ≤ lv p + 18) := by
  refine Gen.of t__law_deeper rfl fun n hn fd => ?_
  dsimp only [f__law_deeper, b__law_deeper, env0, List.map, List.cons_append, List.nil_append, List.replicate]
  obtain ⟨_, fd1, ⟨c, rfl, c0, c1⟩, e1⟩ := (Gen.take h__law_take hM 19 (by omega) (by omega)).ex (n := n) (by omega) fd
  obtain ⟨_, fd2, ⟨v, rfl, v0, v1⟩, e2⟩ := (Gen.take h__law_take hM 3 (by omega) (by omega)).ex (n := n) (by omega) fd1
  obtain ⟨t, t0, t1, he⟩ : ∃ t : Int, 0 ≤ t ∧ t < 19 ∧ evEs ft (cfN ft n) [.bin .mul (.call "_law_take" [.v 0, .c (.int 19)]) (.blt .int [.cmp .eq (.call "_law_take" [.v 0, .c (.int 3)]) (.c (.int 0))])] ⟨[some (.ref r, false), some (p.enc, false), none, none], M fd⟩ = .ok [.int t] ⟨[some (.ref r, false), some (p.enc, false), none, none], M fd2⟩ := by
    have b0 : inB 0 = true := by decide
    have b1 : inB 1 = true := by decide
    by_cases h : v = 0
    · exact ⟨c, c0, c1, by simp [-inB_lit, R.assoc, e1, e2, h, b0, b1]⟩
    · exact ⟨0, by omega, by omega, by simp [-inB_lit, R.assoc, e1, e2, h, b0, b1]⟩
  refine w_for (fun xs s => xs.length ≤ 18 ∧ ∃ (fd : Fd) (q : P) (x2 x3 : Option (D × Bool)), s = ⟨[some (.ref r, false), some (q.enc, false), x2, x3], M fd⟩ ∧ q.dep + xs.length ≤ p.dep + 18 ∧ q.sz + 2 * xs.length ≤ p.sz + 36 ∧ q.nn = true ∧ lv q + xs.length ≤ lv p + 18) he (walk_rg (by omega) (by omega)) ⟨by simp; omega, fd2, p, _, _, rfl, by simp; omega, by simp; omega, hp, by simp; omega⟩ ?_ ?_
  · rintro x xs s ⟨hl, fd, q, x2, x3, rfl, h1, h2, h3, h4⟩
    simp only [List.length_cons] at hl h1 h2 h4
    simp only [asgT_v, wp_ok, List.set_cons_succ, List.set_cons_zero]
    repeat' (first
      | (with_reducible refine w_asg (w_abs fun Q1 hQ => ?_); simp [R.assoc, toB_b, toB_call, toB_if, ofStr_inj])
      | (with_reducible refine w_ret (w_abs fun Q1 hQ => ?_); simp [R.assoc, toB_b, toB_call, toB_if, ofStr_inj])
      | (with_reducible refine w_ife (w_abs fun Q1 hQ => ?_); simp [R.assoc, toB_b, toB_call, toB_if, ofStr_inj])
      | (with_reducible refine w_ex (w_abs fun Q1 hQ => ?_); simp [R.assoc, toB_b, toB_call, toB_if, ofStr_inj])
      | (refine Gen.w (Gen.take4 h__law_take hM) (by omega) ?_; rintro _ fd (rfl | rfl | rfl | rfl); try simp [R.assoc, toB_b, toB_call, toB_if, ofStr_inj])
      | (refine Gen.w0 (Gen.take4 h__law_take hM) (by omega) ?_; rintro _ fd (rfl | rfl | rfl | rfl); try simp [R.assoc, toB_b, toB_call, toB_if, ofStr_inj])
      | (refine Gen.w (Gen.take h__law_take hM 20 (by omega) (by omega)) (by omega) ?_; rintro _ fd ⟨u, rfl, u0, u1⟩; try simp [R.assoc, toB_b, toB_call, toB_if, ofStr_inj])
      | (refine Gen.w0 (Gen.take h__law_take hM 20 (by omega) (by omega)) (by omega) ?_; rintro _ fd ⟨u, rfl, u0, u1⟩; try simp [R.assoc, toB_b, toB_call, toB_if, ofStr_inj])
      | (refine w_atI (by omega) (by simp only [List.length_cons, List.length_nil]; omega) ?_; simp only [List.forall_mem_cons, List.forall_mem_nil, and_true]; and_intros <;> try simp [R.assoc, toB_b, toB_call, toB_if, ofStr_inj])
      | (refine w_atI0 (by omega) (by simp only [List.length_cons, List.length_nil]; omega) ?_; simp only [List.forall_mem_cons, List.forall_mem_nil, and_true]; and_intros <;> try simp [R.assoc, toB_b, toB_call, toB_if, ofStr_inj])
      | (refine w_if (fun hc => ?_) (fun hc => ?_) <;> try simp [R.assoc, toB_b, toB_call, toB_if, ofStr_inj])
      | (refine w_ifb (fun hc => ?_) (fun hc => ?_) <;> try simp [R.assoc, toB_b, toB_call, toB_if, ofStr_inj])
      | (refine hQ _ _ ?_; clear hQ Q1; try simp only [asgT_v, asgT_t, List.contains_cons, List.contains_nil, Nat.reduceBEq, Bool.or_false, Bool.false_or, Bool.false_eq_true, if_false, if_true, wp_ok, List.set_cons_succ, List.set_cons_zero, List.cons_append, List.nil_append, decide_eq_true_eq, decide_eq_false_iff_not, Bool.or_eq_true, Bool.and_eq_true, Bool.or_eq_false_iff, Bool.and_eq_false_iff, Bool.not_eq_true', Bool.not_eq_false', true_implies, false_implies, Bool.true_eq_false])
      | (with_reducible refine w_l ?_)
      | (with_reducible refine w_r ?_)
      | (refine w_two ?_ ?_ <;> intro hc <;> try simp only [reduceCtorEq] at hc))
    all_goals first
      | (exfalso; omega)
      | exact w_nil ⟨by omega, fd, .un .way q, _, _, rfl, by simp only [P.dep]; omega, by simp only [P.sz]; omega, h3, by simp only [lv]; omega⟩
      | exact w_nil ⟨by omega, fd, .un .first q, _, _, rfl, by simp only [P.dep]; omega, by simp only [P.sz]; omega, h3, by simp only [lv]; omega⟩
      | exact w_nil ⟨by omega, fd, .bi .give q (.name u), _, _, rfl, by simp only [P.dep]; omega, by simp only [P.sz]; omega, by simp [P.nn, h3, u0], by simp only [lv]; omega⟩
  · rintro s ⟨hl, fd, q, x2, x3, rfl, h1, h2, h3, h4⟩
    repeat' (first
      | (with_reducible refine w_asg (w_abs fun Q1 hQ => ?_); simp [R.assoc, toB_b, toB_call, toB_if])
      | (with_reducible refine w_ret (w_abs fun Q1 hQ => ?_); simp [R.assoc, toB_b, toB_call, toB_if])
      | (with_reducible refine w_ife (w_abs fun Q1 hQ => ?_); simp [R.assoc, toB_b, toB_call, toB_if])
      | (with_reducible refine w_ex (w_abs fun Q1 hQ => ?_); simp [R.assoc, toB_b, toB_call, toB_if])
      | (refine w_atI (by omega) (by simp only [List.length_cons, List.length_nil]; omega) ?_; simp only [List.forall_mem_cons, List.forall_mem_nil, and_true]; and_intros <;> try simp [R.assoc, toB_b, toB_call, toB_if])
      | (refine w_atI0 (by omega) (by simp only [List.length_cons, List.length_nil]; omega) ?_; simp only [List.forall_mem_cons, List.forall_mem_nil, and_true]; and_intros <;> try simp [R.assoc, toB_b, toB_call, toB_if])
      | (refine w_if (fun hc => ?_) (fun hc => ?_) <;> try simp [R.assoc, toB_b, toB_call, toB_if])
      | (refine w_ifb (fun hc => ?_) (fun hc => ?_) <;> try simp [R.assoc, toB_b, toB_call, toB_if])
      | (refine hQ _ _ ?_; clear hQ Q1; try simp only [asgT_v, asgT_t, List.contains_cons, List.contains_nil, Nat.reduceBEq, Bool.or_false, Bool.false_or, Bool.false_eq_true, if_false, if_true, wp_ok, List.set_cons_succ, List.set_cons_zero, List.cons_append, List.nil_append, decide_eq_true_eq, decide_eq_false_iff_not, Bool.or_eq_true, Bool.and_eq_true, Bool.or_eq_false_iff, Bool.and_eq_false_iff, Bool.not_eq_true', Bool.not_eq_false', true_implies, false_implies, Bool.true_eq_false])
      | (with_reducible refine w_l ?_)
      | (with_reducible refine w_r ?_)
      | (refine w_two ?_ ?_ <;> intro hc <;> try simp only [reduceCtorEq] at hc))
    all_goals exact ⟨by simp, _, rfl, q, rfl, by simpa using h1, by simpa using h2, h3, by simpa using h4⟩
end
end Ly.K
set_option Elab.async false
set_option linter.all false
set_option maxRecDepth 100000
set_option maxHeartbeats 4000000
namespace Ly.K
open PySem PySem.Spec PyProof.Rows L2
theorem Cell.app (m : Mem) : Cell (fun f => m ++ [mo f]) m.length := ⟨fun f => by simp, fun f g => by simp⟩
theorem Cell.ext {M : Fd → Mem} {r : Nat} (h : Cell M r) (x : Mem) : Cell (fun f => M f ++ x) r := by
  have lt : ∀ f, r < (M f).length := fun f => (List.getElem?_eq_some_iff.mp (h.get f)).1
  exact ⟨fun f => by rw [List.getElem?_append_left (lt f)]; exact h.get f, fun f g => by rw [List.set_append_left _ _ (lt f), h.put]⟩
theorem spots_e (p : P) (n : Nat) (m : Mem) (hn : p.dep < n) (hz : p.sz ≤ 1000000) (hd : p.dep ≤ 100) : cfN ft n "_law_spots" [p.enc, .tup [], .int 0] m = .ok (.lst ((spots p [] 0).map encS)) true m := spots_ev n p [] 0 m hn hz (by simp; omega)
theorem spots_small (p : P) : (spots p [] 0).length ≤ p.sz := spots_len p [] 0
theorem anyT (l : List Int) : anyEq (.bl true) (l.map fun _ => .bl false) = some false := by
  have e : (l.map fun _ => D.bl false) = (l.map fun _ => false).map D.bl := by rw [List.map_map]; rfl
  have p : ∀ l : List Bool, D.pls (l.map D.bl) = true := fun l => by induction l with | nil => rfl | cons a l ih => exact ih
  have q : ∀ l : List Int, ((l.map fun _ => D.bl false).any fun y => D.eqv y (.bl true)) = false := fun l => by
    induction l with
    | nil => rfl
    | cons a l ih => rw [List.map_cons, List.any_cons, ih]; rfl
  show (if D.pl (.bl true) && D.pls (l.map fun _ => D.bl false) && decide (D.dep (.bl true) ≤ 200) then some ((l.map fun _ => D.bl false).any fun y => D.eqv y (.bl true)) else none) = _
  rw [q, e, p]; rfl
theorem sset_ev (l : List Int) (h : l.length < 64) : ssetO (.lst (ii l)) = some (.lst (ii (sortI (dedupI l))), true) := by
  show (D.ints? (ii l)).bind _ = _
  rw [ints_ii]
  exact if_pos h
theorem sortL_ev (l : List Int) : bfn .sorted [.lst (ii l)] = some (.lst (ii (sortI l)), true) := by
  show (match D.ints? (ii l) with | some ns => some (D.lst ((sortI ns).map D.int), true) | none => if srtOk (ii l) then some (.lst (sortD (ii l)), true) else none) = _
  rw [ints_ii]
/-- a number behind the lifting -/
def up (m l k : Int) : Int := k + m * (if l ≤ k then 1 else 0)
theorem up_lt (m l : Int) (hm : 0 ≤ m) {a b : Int} (h : a < b) : up m l a < up m l b := by
  unfold up
  split <;> split <;> omega
theorem opn_lift (m l : Int) (hm : 0 ≤ m) (hl : 0 ≤ l) (p : P) : opn (lift m l p) = sortI ((opn p).map (up m l)) := by
  have pw : ((opn p).map (up m l)).Pairwise (· < ·) := List.pairwise_map.mpr ((sset_lt (onm p 0)).imp fun h => up_lt m l hm h)
  have nd : ((opn p).map (up m l)).Nodup := pw.imp fun h e => by omega
  refine lt_uniq (sset_lt _) (lt_of_le (sortI_sorted _) ((sortI_perm _).nodup_iff.mpr nd)) fun k => ?_
  have e := onm_lift m l hm hl p 0
  rw [Int.add_zero] at e
  rw [(sortI_perm _).mem_iff, show opn (lift m l p) = sortI (dedupI (onm (lift m l p) 0)) from rfl, sset_mem, e, List.mem_map, List.mem_map]
  constructor
  · rintro ⟨j, hj, rfl⟩
    refine ⟨j, (sset_mem _ _).mpr hj, ?_⟩
    unfold up; split <;> omega
  · rintro ⟨j, hj, rfl⟩
    refine ⟨j, (sset_mem _ _).mp hj, ?_⟩
    unfold up; split <;> omega
theorem cut_le0 (xs : List D) (lo hi : Option Int) : (cutD xs lo hi).length ≤ xs.length := by
  unfold cutD
  rw [List.length_take, List.length_drop]
  omega
theorem dedupI_len : ∀ l : List Int, (dedupI l).length ≤ l.length
  | [] => Nat.le_refl _
  | i :: r => by
    have := dedupI_len r
    unfold dedupI
    split
    · simp only [List.length_cons]; omega
    · simp only [List.length_cons]; omega
def bodyO : List St := match b_law with
  | [.for_ _ _ _ b, _] => b
  | _ => []
/-- what holds of the drawn program -/
structure Good (p : P) : Prop where
  dep : p.dep ≤ 28
  sz : p.sz ≤ 80
  lv : lv p ≤ 45
theorem Good.lift {p : P} (h : Good p) (m l : Int) : Good (lift m l p) := ⟨by rw [lift_dep]; exact h.dep, by rw [lift_sz]; exact h.sz, by rw [lv_lift]; exact h.lv⟩
theorem Good.on {p : P} (h : Good p) : (onm p 0).length < 64 := by have := onm_lv p 0; have := h.lv; omega
theorem lc4 (p : P) (hp : Good p) (ns : List Int) (x1 x2 x4 x5 x6 x7 x8 x9 x10 : Option (D × Bool)) (m : Mem) :
    evE ft (cfN ft 99) (.lc (.bin .sub (.ix (.v 13) (.c (.int 1))) (.v 12)) (.tup [11, 12, 13]) .seq [.call "_law_spots" [.v 3, .tup [], .c (.int 0)]] [.cmp .eq (.ix (.v 13) (.c (.int 0))) (.c (.str "name"))] [11, 12, 13])
      ⟨[some (.scr ns, false), x1, x2, some (p.enc, false), x4, x5, x6, x7, x8, x9, x10, none, none, none, none], m⟩ = .ok (.lst (ii (((spots p [] 0).filter spN).map spV)), true) ⟨[some (.scr ns, false), x1, x2, some (p.enc, false), x4, x5, x6, x7, x8, x9, x10, none, none, none, none], m⟩ := by
  have hs := spots_e p 99 m (by have := hp.dep; omega) (by have := hp.sz; omega) (by have := hp.dep; omega)
  have hl := spots_small p
  have := hp.sz
  have q := lc_wf (ft := ft) (cf := cfN ft 99) (elt := .bin .sub (.ix (.v 13) (.c (.int 1))) (.v 12)) (tg := .tup [11, 12, 13]) (k := .seq) (its := [.call "_law_spots" [.v 3, .tup [], .c (.int 0)]]) (ifs := [.cmp .eq (.ix (.v 13) (.c (.int 0))) (.c (.str "name"))]) (own := [11, 12, 13])
    (s := ⟨[some (.scr ns, false), x1, x2, some (p.enc, false), x4, x5, x6, x7, x8, x9, x10, none, none, none, none], m⟩) (env := [some (.scr ns, false), x1, x2, some (p.enc, false), x4, x5, x6, x7, x8, x9, x10, none, none, none, none]) (m := m)
    (spots p [] 0) encS (fun x => .int (spV x)) spN (by simp [hs]) rfl (sl_le (by omega)) (fun a ha => by
      obtain ⟨pl, w, q⟩ := a
      cases q with
      | name i =>
        have e1 : spN (pl, w, P.name i) = true := rfl
        have e2 : spV (pl, w, P.name i) = i - w := rfl
        simp [wipeE, encS, asgs, e1, e2]
      | whole i =>
        have e1 : spN (pl, w, P.whole i) = false := rfl
        simp [wipeE, encS, asgs, e1, ofStr_inj]
      | un u b =>
        have e1 : spN (pl, w, P.un u b) = false := rfl
        cases u <;> simp [wipeE, encS, asgs, e1, ofStr_inj]
      | bi u b c =>
        have e1 : spN (pl, w, P.bi u b c) = false := rfl
        cases u <;> simp [wipeE, encS, asgs, e1, ofStr_inj]
      | look b c d =>
        have e1 : spN (pl, w, P.look b c d) = false := rfl
        simp [wipeE, encS, asgs, e1, ofStr_inj])
  rw [q]
  simp only [ii, List.map_map]
  rfl
theorem lc5 (l : List Int) (hl : l.length ≤ 1000) (x0 x1 x2 x3 x5 x6 x7 x8 x9 x10 : Option (D × Bool)) (m : Mem) :
    evE ft (cfN ft 99) (.lc (.v 14) (.v 14) .seq [.v 4] [.cmp .gt (.v 14) (.neg (.c (.int 1)))] [14]) ⟨[x0, x1, x2, x3, some (.lst (ii l), true), x5, x6, x7, x8, x9, x10, none, none, none, none], m⟩
      = .ok (.lst (ii (l.filter fun k => decide (-1 < k))), true) ⟨[x0, x1, x2, x3, some (.lst (ii l), false), x5, x6, x7, x8, x9, x10, none, none, none, none], m⟩ := by
  exact lc_wf (ft := ft) (cf := cfN ft 99) (elt := .v 14) (tg := .v 14) (k := .seq) (its := [.v 4]) (ifs := [.cmp .gt (.v 14) (.neg (.c (.int 1)))]) (own := [14])
    (s := ⟨[x0, x1, x2, x3, some (.lst (ii l), true), x5, x6, x7, x8, x9, x10, none, none, none, none], m⟩) (env := [x0, x1, x2, x3, some (.lst (ii l), false), x5, x6, x7, x8, x9, x10, none, none, none, none]) (m := m)
    l D.int D.int (fun k => decide (-1 < k)) (by simp) rfl (sl_le (by omega)) (fun k hk => by
      by_cases h : -1 < k <;> simp [wipeE, h])
theorem lc10 (l : List Int) (hl : l.length ≤ 1000) (mm ll : Int) (x0 x1 x2 x3 x4 x6 x9 x10 : Option (D × Bool)) (m : Mem) :
    evE ft (cfN ft 99) (.lc (.bin .add (.v 13) (.bin .mul (.v 7) (.blt .int [.cmp .ge (.v 13) (.v 8)]))) (.v 13) .seq [.v 5] [] [13]) ⟨[x0, x1, x2, x3, x4, some (.lst (ii l), true), x6, some (.int mm, false), some (.int ll, false), x9, x10, none, none, none, none], m⟩
      = .ok (.lst (ii (l.map (up mm ll))), true) ⟨[x0, x1, x2, x3, x4, some (.lst (ii l), false), x6, some (.int mm, false), some (.int ll, false), x9, x10, none, none, none, none], m⟩ := by
  have b0 : inB 0 = true := by decide
  have b1 : inB 1 = true := by decide
  have q := lc_mapA (ft := ft) (cf := cfN ft 99) (elt := .bin .add (.v 13) (.bin .mul (.v 7) (.blt .int [.cmp .ge (.v 13) (.v 8)]))) (tg := .v 13) (k := .seq) (its := [.v 5]) (own := [13])
    (s := ⟨[x0, x1, x2, x3, x4, some (.lst (ii l), true), x6, some (.int mm, false), some (.int ll, false), x9, x10, none, none, none, none], m⟩) (env := [x0, x1, x2, x3, x4, some (.lst (ii l), false), x6, some (.int mm, false), some (.int ll, false), x9, x10, none, none, none, none]) (m := m)
    l D.int (fun k => .int (up mm ll k)) (by simp) rfl (sl_le (by omega)) (fun k hk => by
      refine ⟨[x0, x1, x2, x3, x4, some (.lst (ii l), false), x6, some (.int mm, false), some (.int ll, false), x9, x10, none, none, some (.int k, false), none], false, rfl, ?_⟩
      by_cases h : ll ≤ k <;> simp [-inB_lit, wipeE, h, up, b0, b1])
  rw [q]
  simp only [ii, List.map_map]
  rfl
theorem lc6 (l : List Int) (hl : l.length ≤ 1000) (r6 : Nat) (x0 x1 x2 x3 x4 x5 x7 x8 x9 x10 : Option (D × Bool)) (m : Mem) (hm : m[r6]? = some (.lst (ii l))) :
    evE ft (cfN ft 99) (.lcR (.isi (.v 13) .bool) (.v 13) (.v 6) [] [13]) ⟨[x0, x1, x2, x3, x4, x5, some (.ref r6, false), x7, x8, x9, x10, none, none, none, none], m⟩
      = .ok (.lst (l.map fun _ => .bl false), true) ⟨[x0, x1, x2, x3, x4, x5, some (.ref r6, false), x7, x8, x9, x10, none, none, none, none], m⟩ := by
  have q := lcR_filter (ft := ft) (cf := cfN ft 99) (elt := .isi (.v 13) .bool) (e0 := .v 6) (tg := .v 13) (ifs := []) (own := [13])
    (s := ⟨[x0, x1, x2, x3, x4, x5, some (.ref r6, false), x7, x8, x9, x10, none, none, none, none], m⟩) (env := [x0, x1, x2, x3, x4, x5, some (.ref r6, false), x7, x8, x9, x10, none, none, none, none]) (m := m) (r := r6) (fr := false)
    l D.int (fun _ => .bl false) (fun _ => true) (by simp) hm rfl (by omega) (fun k hk => ⟨[x0, x1, x2, x3, x4, x5, some (.ref r6, false), x7, x8, x9, x10, none, none, some (.int k, false), none], rfl, by simp [wipeE]⟩)
  rw [q, List.filter_eq_self.mpr (by simp)]
end Ly.K
set_option Elab.async false
set_option linter.all false
set_option maxRecDepth 100000
set_option maxHeartbeats 4000000
namespace Ly.K
open PySem PySem.Spec PyProof.Rows L2
theorem sl_R (ns : List Int) (lo hi : Option Int) : opSl (.scr ns) lo hi = some (.lst (cutD (ns.map D.int) lo hi), true) := rfl
def I1 (ns : List Int) (xs : List D) (s : S) : Prop := ∃ (x1 x2 x3 x4 x5 x6 x7 x8 x9 x10 : Option (D × Bool)) (m : Mem), s = ⟨[some (.scr ns, false), x1, x2, x3, x4, x5, x6, x7, x8, x9, x10, none, none, none, none], m⟩ ∧ ∀ x ∈ xs, ∃ k : Int, 0 ≤ k ∧ x = .int k
theorem law_val (ns : List Int) (hns : ns.length ≤ 63) : ∃ m, cfN (ftOf defs) 100 "law" [.scr ns] [] = .ok (.bl true) false m := by
  have hc := cut_le0 (ns.map D.int) none (some 8)
  rw [List.length_map] at hc
  refine law_w (w_run t_law rfl ?_)
  show (evSs ft (cfN ft 99) [2, 6] b_law ⟨[some (.scr ns, false), none, none, none, none, none, none, none, none, none, none, none, none, none, none], []⟩).wp _ _
  unfold b_law
  obtain ⟨c, c0, c1, he⟩ : ∃ c : Int, 2 ≤ c ∧ c ≤ 63 ∧ evEs ft (cfN ft 99) [.blt .max [.c (.int 2), .blt .len [.sl (.v 0) (.nil) (.c (.int 8))]]] ⟨[some (.scr ns, false), none, none, none, none, none, none, none, none, none, none, none, none, none, none], []⟩ = .ok [.int c] ⟨[some (.scr ns, false), none, none, none, none, none, none, none, none, none, none, none, none, none, none], []⟩ := by
    by_cases h : (2 : Int) < ((cutD (ns.map D.int) none (some 8)).length : Int)
    · have h' : 2 < (cutD (ns.map D.int) none (some 8)).length := by omega
      exact ⟨((cutD (ns.map D.int) none (some 8)).length : Int), by omega, by omega, by simp [h, h', sl_R]⟩
    · have h' : ¬ 2 < (cutD (ns.map D.int) none (some 8)).length := by omega
      exact ⟨2, by omega, by omega, by simp [h, h', sl_R]⟩
  refine w_for (I1 ns) he (walk_rg (by omega) (by omega)) ⟨_, _, _, _, _, _, _, _, _, _, _, rfl, fun x hx => ?_⟩ ?_ ?_
  · obtain ⟨k, _, rfl⟩ := rngL_mem hx
    exact ⟨0 + k, by omega, rfl⟩
  · rintro x xs s ⟨x1, x2, x3, x4, x5, x6, x7, x8, x9, x10, m, rfl, hx⟩
    obtain ⟨k, k0, rfl⟩ := hx x (by simp)
    simp only [asgT_v, wp_ok, List.set_cons_succ, List.set_cons_zero]
    obtain ⟨f0, hf⟩ := feed_x h__law_feed ns k k0
    have hf := hf 99 m (by omega)
    refine w_asg (w_abs fun Q1 hQ => ?_)
    simp [R.assoc, toB_b, toB_call, toB_if, hf]
    refine hQ _ _ ?_
    clear hQ Q1
    simp only [asgT_t, List.contains_cons, List.contains_nil, Nat.reduceBEq, Bool.or_false, Bool.false_or, Bool.false_eq_true, if_false, if_true, wp_ok, List.set_cons_succ, List.set_cons_zero, alloc_l, mo_eq]
    obtain ⟨M, hMe⟩ : ∃ M : Fd → Mem, M = fun f => m ++ [mo f] := ⟨_, rfl⟩
    have hM : Cell M m.length := by rw [hMe]; exact Cell.app m
    have Ml : ∀ f, (M f).length = m.length + 1 := fun f => by rw [hMe]; simp
    rw [show m ++ [mo f0] = M f0 by rw [hMe]]
    repeat' (first
      | (with_reducible refine w_asg (w_abs fun Q1 hQ => ?_); simp [R.assoc, toB_b, toB_call, toB_if])
      | (with_reducible refine w_ret (w_abs fun Q1 hQ => ?_); simp [R.assoc, toB_b, toB_call, toB_if])
      | (with_reducible refine w_ife (w_abs fun Q1 hQ => ?_); simp [R.assoc, toB_b, toB_call, toB_if])
      | (with_reducible refine w_ex (w_abs fun Q1 hQ => ?_); simp [R.assoc, toB_b, toB_call, toB_if])
      | (refine Gen.w (Gen.take h__law_take hM 7 (by omega) (by omega)) (by omega) ?_; rintro _ fd ⟨a, rfl, a0, a1⟩; try simp [R.assoc, toB_b, toB_call, toB_if])
      | (refine Gen.w0 (Gen.take h__law_take hM 7 (by omega) (by omega)) (by omega) ?_; rintro _ fd ⟨a, rfl, a0, a1⟩; try simp [R.assoc, toB_b, toB_call, toB_if])
      | (refine Gen.w (Gen.take h__law_take hM 16 (by omega) (by omega)) (by omega) ?_; rintro _ fd ⟨b, rfl, b0, b1⟩; try simp [R.assoc, toB_b, toB_call, toB_if])
      | (refine Gen.w0 (Gen.take h__law_take hM 16 (by omega) (by omega)) (by omega) ?_; rintro _ fd ⟨b, rfl, b0, b1⟩; try simp [R.assoc, toB_b, toB_call, toB_if])
      | (refine Gen.w (wild_s hM 10 a (3 + b) 10 (by omega) (by omega) (by omega)) (by omega) ?_; rintro _ fd ⟨q, rfl, q1, q2, q3, q4⟩; try simp [R.assoc, toB_b, toB_call, toB_if])
      | (refine Gen.w0 (wild_s hM 10 a (3 + b) 10 (by omega) (by omega) (by omega)) (by omega) ?_; rintro _ fd ⟨q, rfl, q1, q2, q3, q4⟩; try simp [R.assoc, toB_b, toB_call, toB_if])
      | (refine Gen.w (deeper_s hM q q2) (by omega) ?_; rintro _ fd ⟨p, rfl, p1, p2, p3, p4⟩; try simp [R.assoc, toB_b, toB_call, toB_if])
      | (refine Gen.w0 (deeper_s hM q q2) (by omega) ?_; rintro _ fd ⟨p, rfl, p1, p2, p3, p4⟩; try simp [R.assoc, toB_b, toB_call, toB_if])
      | (refine w_atI (by omega) (by simp only [List.length_cons, List.length_nil]; omega) ?_; simp only [List.forall_mem_cons, List.forall_mem_nil, and_true]; and_intros <;> try simp [R.assoc, toB_b, toB_call, toB_if])
      | (refine w_atI0 (by omega) (by simp only [List.length_cons, List.length_nil]; omega) ?_; simp only [List.forall_mem_cons, List.forall_mem_nil, and_true]; and_intros <;> try simp [R.assoc, toB_b, toB_call, toB_if])
      | (refine w_if (fun hc => ?_) (fun hc => ?_) <;> try simp [R.assoc, toB_b, toB_call, toB_if])
      | (refine w_ifb (fun hc => ?_) (fun hc => ?_) <;> try simp [R.assoc, toB_b, toB_call, toB_if])
      | (refine hQ _ _ ?_; clear hQ Q1; try simp only [asgT_v, asgT_t, List.contains_cons, List.contains_nil, Nat.reduceBEq, Bool.or_false, Bool.false_or, Bool.false_eq_true, if_false, if_true, wp_ok, List.set_cons_succ, List.set_cons_zero, List.cons_append, List.nil_append, decide_eq_true_eq, decide_eq_false_iff_not, Bool.or_eq_true, Bool.and_eq_true, Bool.or_eq_false_iff, Bool.and_eq_false_iff, Bool.not_eq_true', Bool.not_eq_false', true_implies, false_implies, Bool.true_eq_false])
      | (with_reducible refine w_l ?_)
      | (with_reducible refine w_r ?_)
      | (refine w_two ?_ ?_ <;> intro hc <;> try simp only [reduceCtorEq] at hc))
    have hp : Good p := ⟨by omega, by omega, by omega⟩
    have hon := hp.on
    have hol : (opn p).length < 64 := by
      have : (opn p).length ≤ (onm p 0).length := by
        unfold opn
        rw [(sortI_perm _).length_eq]
        exact dedupI_len _
      omega
    have pd := hp.dep
    have ps := hp.sz
    -- the law's own numbers
    refine w_asg (w_abs fun Q1 hQ => ?_)
    rw [lc4 p hp]
    refine hQ _ _ ?_
    clear hQ Q1
    simp only [asgT_t, List.contains_cons, List.contains_nil, Nat.reduceBEq, Bool.or_false, Bool.false_or, Bool.false_eq_true, if_false, wp_ok, List.set_cons_succ, List.set_cons_zero]
    have l4 : (((spots p [] 0).filter spN).map spV).length ≤ 1000 := by
      have := spots_small p
      have := List.length_filter_le spN (spots p [] 0)
      rw [List.length_map]; omega
    have so := spots_onm p [] 0
    generalize ((spots p [] 0).filter spN).map spV = L at *
    have e5 := fun a b c d e f g h i j mm => lc5 _ l4 a b c d e f g h i j mm
    rw [so] at e5
    have ss := sset_ev (onm p 0) hon
    rw [show sortI (dedupI (onm p 0)) = opn p from rfl] at ss
    refine w_asg (w_abs fun Q1 hQ => ?_)
    simp [R.assoc, toB_b, toB_call, toB_if, e5, ss]
    refine hQ _ _ ?_
    clear hQ Q1
    simp only [asgT_t, List.contains_cons, List.contains_nil, Nat.reduceBEq, Bool.or_false, Bool.false_or, Bool.false_eq_true, if_false, wp_ok, List.set_cons_succ, List.set_cons_zero]
    -- the program's
    have eo := fun mm => open_ev p 98 mm (by omega) (by omega) hon
    refine w_asg (w_abs fun Q1 hQ => ?_)
    simp [R.assoc, toB_b, toB_call, toB_if, eo]
    refine hQ _ _ ?_
    clear hQ Q1
    simp only [asgT_t, List.contains_cons, List.contains_nil, Nat.reduceBEq, Bool.or_false, Bool.false_or, Bool.true_or, Bool.or_true, Bool.false_eq_true, if_false, if_true, wp_ok, List.set_cons_succ, List.set_cons_zero, alloc_l]
    generalize mdI ((onm p 0).foldl putI []) = D0 at *
    rw [show (M fd ++ [D0]).length = m.length + 2 by simp [Ml]]
    have hg6 : (M fd ++ [D0] ++ [MO.lst (ii (opn p))])[m.length + 2]? = some (.lst (ii (opn p))) := by
      rw [List.getElem?_append_right (by simp [Ml])]
      simp [Ml]
    obtain ⟨M2, hM2e⟩ : ∃ M2 : Fd → Mem, M2 = fun f => M f ++ [D0] ++ [MO.lst (ii (opn p) ++ [.int 3])] := ⟨_, rfl⟩
    have hM2 : Cell M2 m.length := by rw [hM2e]; exact Ly.K.Cell.ext (Ly.K.Cell.ext hM [D0]) [MO.lst (ii (opn p) ++ [.int 3])]
    have hset : (M fd ++ [D0] ++ [MO.lst (ii (opn p))]).set (m.length + 2) (.lst (ii (opn p) ++ [.int 3])) = M2 fd := by
      rw [hM2e, List.set_append_right _ _ (by simp [Ml])]
      simp [Ml]
    generalize M fd ++ [D0] ++ [MO.lst (ii (opn p))] = mem1 at *
    have e6 := fun a b c d e f g h i j => lc6 (opn p) (by omega) (m.length + 2) a b c d e f g h i j mem1 hg6
    have zl : (ii (opn p)).length < sizeLine := sl_lt (by simp; omega)
    have zl2 : (opn p).length < sizeLine := sl_lt (by omega)
    have lf := fun (q : P) (hq : q.dep ≤ 28) a b mm => lifted_ev h_inner h_with_inner h_ways_more h_lifted 99 q a b mm (by omega)
    have lf1 := lf p pd
    have ty : ∀ xs : List D, recvW (.lst xs) = true := fun _ => rfl
    repeat' (first
      | (with_reducible refine w_asg (w_abs fun Q1 hQ => ?_); simp [R.assoc, toB_b, toB_call, toB_if, hg6, e6, anyT, ne_ints, hset, zl, zl2, putE, putV, putM, D.mo, lf1])
      | (with_reducible refine w_ret (w_abs fun Q1 hQ => ?_); simp [R.assoc, toB_b, toB_call, toB_if, hg6, e6, anyT, ne_ints, hset, zl, zl2, putE, putV, putM, D.mo, lf1])
      | (with_reducible refine w_ife (w_abs fun Q1 hQ => ?_); simp [R.assoc, toB_b, toB_call, toB_if, hg6, e6, anyT, ne_ints, hset, zl, zl2, putE, putV, putM, D.mo, lf1])
      | (with_reducible refine w_ex (w_abs fun Q1 hQ => ?_); simp [R.assoc, toB_b, toB_call, toB_if, hg6, e6, anyT, ne_ints, hset, zl, zl2, putE, putV, putM, D.mo, lf1])
      | (refine Gen.w (Gen.take h__law_take hM2 31 (by omega) (by omega)) (by omega) ?_; rintro _ fd ⟨mm, rfl, mm0, mm1⟩; try simp [R.assoc, toB_b, toB_call, toB_if, hg6, e6, anyT, ne_ints, hset, zl, zl2, putE, putV, putM, D.mo, lf1])
      | (refine Gen.w0 (Gen.take h__law_take hM2 31 (by omega) (by omega)) (by omega) ?_; rintro _ fd ⟨mm, rfl, mm0, mm1⟩; try simp [R.assoc, toB_b, toB_call, toB_if, hg6, e6, anyT, ne_ints, hset, zl, zl2, putE, putV, putM, D.mo, lf1])
      | (refine Gen.w (Gen.take h__law_take hM2 8 (by omega) (by omega)) (by omega) ?_; rintro _ fd ⟨ll, rfl, ll0, ll1⟩; try simp [R.assoc, toB_b, toB_call, toB_if, hg6, e6, anyT, ne_ints, hset, zl, zl2, putE, putV, putM, D.mo, lf1])
      | (refine Gen.w0 (Gen.take h__law_take hM2 8 (by omega) (by omega)) (by omega) ?_; rintro _ fd ⟨ll, rfl, ll0, ll1⟩; try simp [R.assoc, toB_b, toB_call, toB_if, hg6, e6, anyT, ne_ints, hset, zl, zl2, putE, putV, putM, D.mo, lf1])
      | (refine w_atI (by omega) (by simp only [List.length_cons, List.length_nil]; omega) ?_; simp only [List.forall_mem_cons, List.forall_mem_nil, and_true]; and_intros <;> try simp [R.assoc, toB_b, toB_call, toB_if, hg6, e6, anyT, ne_ints, hset, zl, zl2, putE, putV, putM, D.mo, lf1])
      | (refine w_atI0 (by omega) (by simp only [List.length_cons, List.length_nil]; omega) ?_; simp only [List.forall_mem_cons, List.forall_mem_nil, and_true]; and_intros <;> try simp [R.assoc, toB_b, toB_call, toB_if, hg6, e6, anyT, ne_ints, hset, zl, zl2, putE, putV, putM, D.mo, lf1])
      | (refine w_if (fun hc => ?_) (fun hc => ?_) <;> try simp [R.assoc, toB_b, toB_call, toB_if, hg6, e6, anyT, ne_ints, hset, zl, zl2, putE, putV, putM, D.mo, lf1])
      | (refine w_ifb (fun hc => ?_) (fun hc => ?_) <;> try simp [R.assoc, toB_b, toB_call, toB_if, hg6, e6, anyT, ne_ints, hset, zl, zl2, putE, putV, putM, D.mo, lf1])
      | (refine hQ _ _ ?_; clear hQ Q1; try simp only [asgT_v, asgT_t, List.contains_cons, List.contains_nil, Nat.reduceBEq, Bool.or_false, Bool.false_or, Bool.false_eq_true, if_false, if_true, wp_ok, List.set_cons_succ, List.set_cons_zero, List.cons_append, List.nil_append, decide_eq_true_eq, decide_eq_false_iff_not, Bool.or_eq_true, Bool.and_eq_true, Bool.or_eq_false_iff, Bool.and_eq_false_iff, Bool.not_eq_true', Bool.not_eq_false', true_implies, false_implies, Bool.true_eq_false])
      | (with_reducible refine w_l ?_)
      | (with_reducible refine w_r ?_)
      | (refine w_two ?_ ?_ <;> intro hc <;> try simp only [reduceCtorEq] at hc))
    have ud := lift_dep mm p ll
    have hu := hp.lift mm ll
    have ll2 : ∀ mx, cfN ft 99 "_law_lift" [p.enc, .int mm, .int ll, .int 0] mx = .ok (lift mm ll p).enc false mx := fun mx => by
      have := llift_ev 99 p mm ll 0 mx (by omega)
      rwa [Int.add_zero] at this
    have fr1 := fun mx => frame_ev 99 p mx (by omega)
    have fr2 : ∀ mx, cfN ft 99 "_law_frame" [(lift mm ll p).enc] mx = .ok (frm p) false mx := fun mx => by
      have := frame_ev 99 (lift mm ll p) mx (by omega)
      rwa [frm_lift] at this
    have fd' := frm_dep p
    have ne1 := ne_P (lift mm ll p) (lift mm ll p) (by omega)
    have ne2 := ne_self (frm_tup p) (frm_sd p) (by omega)
    have ne3 := ne_P p p (by omega)
    have ne4 := ne_P (lift (mm + 2) ll p) (lift (mm + 2) ll p) (by rw [lift_dep]; omega)
    have lf0 : ∀ mx, cfN ft 99 "lifted" [p.enc, .int 0, .int ll] mx = .ok p.enc false mx := fun mx => by
      have := lf1 0 ll mx
      rwa [lift_0] at this
    have lf2 : ∀ mx, cfN ft 99 "lifted" [(lift mm ll p).enc, .int 2, .int ll] mx = .ok (lift (mm + 2) ll p).enc false mx := fun mx => by
      have := lf (lift mm ll p) hu.dep 2 ll mx
      rwa [lift_lift mm 2 mm0] at this
    have df := fun mx => deref_frm mx p
    have e10 := fun a b c d e f g h mx => lc10 (opn p) (by omega) mm ll a b c d e f g h mx
    have s10 := sortL_ev ((opn p).map (up mm ll))
    rw [← opn_lift mm ll mm0 ll0 p] at s10
    have eo2 := fun mx => open_ev (lift mm ll p) 98 mx (by omega) (by have := hu.sz; omega) hu.on
    have ne5 := ne_ints (opn p)
    have ne6 := ne_ints (opn (lift mm ll p))
    generalize hup : lift mm ll p = u at *
    generalize frm p = fp at *
    generalize (opn p).map (up mm ll) = hi at *
    simp at ne1 ne3 ne4
    simp [R.assoc, toB_b, toB_call, toB_if, ll2, fr1, fr2, ne1, ne2, df]
    refine hQ _ _ ?_
    clear hQ Q1
    simp only [true_implies, false_implies, Bool.true_eq_false, Bool.false_eq_true, List.nil_append, List.cons_append]
    repeat' (first
      | (with_reducible refine w_asg (w_abs fun Q1 hQ => ?_); simp [R.assoc, toB_b, toB_call, toB_if, lf0, lf1, lf2, ne1, ne3, ne4, e10, s10, eo, eo2, ne5, ne6])
      | (with_reducible refine w_ret (w_abs fun Q1 hQ => ?_); simp [R.assoc, toB_b, toB_call, toB_if, lf0, lf1, lf2, ne1, ne3, ne4, e10, s10, eo, eo2, ne5, ne6])
      | (with_reducible refine w_ife (w_abs fun Q1 hQ => ?_); simp [R.assoc, toB_b, toB_call, toB_if, lf0, lf1, lf2, ne1, ne3, ne4, e10, s10, eo, eo2, ne5, ne6])
      | (with_reducible refine w_ex (w_abs fun Q1 hQ => ?_); simp [R.assoc, toB_b, toB_call, toB_if, lf0, lf1, lf2, ne1, ne3, ne4, e10, s10, eo, eo2, ne5, ne6])
      | (refine w_atI (by omega) (by simp only [List.length_cons, List.length_nil]; omega) ?_; simp only [List.forall_mem_cons, List.forall_mem_nil, and_true]; and_intros <;> try simp [R.assoc, toB_b, toB_call, toB_if, lf0, lf1, lf2, ne1, ne3, ne4, e10, s10, eo, eo2, ne5, ne6])
      | (refine w_atI0 (by omega) (by simp only [List.length_cons, List.length_nil]; omega) ?_; simp only [List.forall_mem_cons, List.forall_mem_nil, and_true]; and_intros <;> try simp [R.assoc, toB_b, toB_call, toB_if, lf0, lf1, lf2, ne1, ne3, ne4, e10, s10, eo, eo2, ne5, ne6])
      | (refine w_if (fun hc => ?_) (fun hc => ?_) <;> try simp [R.assoc, toB_b, toB_call, toB_if, lf0, lf1, lf2, ne1, ne3, ne4, e10, s10, eo, eo2, ne5, ne6])
      | (refine w_ifb (fun hc => ?_) (fun hc => ?_) <;> try simp [R.assoc, toB_b, toB_call, toB_if, lf0, lf1, lf2, ne1, ne3, ne4, e10, s10, eo, eo2, ne5, ne6])
      | (refine hQ _ _ ?_; clear hQ Q1; try simp only [asgT_v, asgT_t, List.contains_cons, List.contains_nil, Nat.reduceBEq, Bool.or_false, Bool.false_or, Bool.false_eq_true, if_false, if_true, wp_ok, List.set_cons_succ, List.set_cons_zero, List.cons_append, List.nil_append, decide_eq_true_eq, decide_eq_false_iff_not, Bool.or_eq_true, Bool.and_eq_true, Bool.or_eq_false_iff, Bool.and_eq_false_iff, Bool.not_eq_true', Bool.not_eq_false', true_implies, false_implies, Bool.true_eq_false])
      | (with_reducible refine w_l ?_)
      | (with_reducible refine w_r ?_)
      | (refine w_two ?_ ?_ <;> intro hc <;> try simp only [reduceCtorEq] at hc))
    all_goals exact w_nil ⟨_, _, _, _, _, _, _, _, _, _, _, rfl, fun y hy => hx y (by simp [hy])⟩
  · rintro s ⟨x1, x2, x3, x4, x5, x6, x7, x8, x9, x10, m, rfl, hx⟩
    repeat' (first
      | (with_reducible refine w_asg (w_abs fun Q1 hQ => ?_); simp [R.assoc, toB_b, toB_call, toB_if])
      | (with_reducible refine w_ret (w_abs fun Q1 hQ => ?_); simp [R.assoc, toB_b, toB_call, toB_if])
      | (with_reducible refine w_ife (w_abs fun Q1 hQ => ?_); simp [R.assoc, toB_b, toB_call, toB_if])
      | (with_reducible refine w_ex (w_abs fun Q1 hQ => ?_); simp [R.assoc, toB_b, toB_call, toB_if])
      | (refine w_atI (by omega) (by simp only [List.length_cons, List.length_nil]; omega) ?_; simp only [List.forall_mem_cons, List.forall_mem_nil, and_true]; and_intros <;> try simp [R.assoc, toB_b, toB_call, toB_if])
      | (refine w_atI0 (by omega) (by simp only [List.length_cons, List.length_nil]; omega) ?_; simp only [List.forall_mem_cons, List.forall_mem_nil, and_true]; and_intros <;> try simp [R.assoc, toB_b, toB_call, toB_if])
      | (refine w_if (fun hc => ?_) (fun hc => ?_) <;> try simp [R.assoc, toB_b, toB_call, toB_if])
      | (refine w_ifb (fun hc => ?_) (fun hc => ?_) <;> try simp [R.assoc, toB_b, toB_call, toB_if])
      | (refine hQ _ _ ?_; clear hQ Q1; try simp only [asgT_v, asgT_t, List.contains_cons, List.contains_nil, Nat.reduceBEq, Bool.or_false, Bool.false_or, Bool.false_eq_true, if_false, if_true, wp_ok, List.set_cons_succ, List.set_cons_zero, List.cons_append, List.nil_append, decide_eq_true_eq, decide_eq_false_iff_not, Bool.or_eq_true, Bool.and_eq_true, Bool.or_eq_false_iff, Bool.and_eq_false_iff, Bool.not_eq_true', Bool.not_eq_false', true_implies, false_implies, Bool.true_eq_false])
      | (with_reducible refine w_l ?_)
      | (with_reducible refine w_r ?_)
      | (refine w_two ?_ ?_ <;> intro hc <;> try simp only [reduceCtorEq] at hc))
    all_goals simp
end Ly.K
set_option Elab.async false
set_option linter.all false
set_option maxRecDepth 100000
set_option maxHeartbeats 0
namespace Ly.K
open PySem PySem.Spec PyProof.Rows L2
abbrev Ro : PySem.W.OpenRow := PySem.W.OpenLaw.row PySem.Challenge.rw_kindbags_k03_open_names_and_lifted
def loose : List Str := ["MANY", "inner", "with_inner", "ways_more", "opened", "open_names", "lifted", "_law_feed", "_law_take", "_law_whole", "_law_wild", "_law_spots", "_law_frame", "_law_lift", "_law_deeper"]
def fa : List He.Fa := faT defs G ts
def fn : List He.DefD := fnL defs
abbrev hk : PySem.W.Hook := hookI 4 fa fn ts
def ob (s : PySem.W.SharedT) : AlI := obsIG 4 fa fn ts (HandSHeadRun.getT s)
theorem ob_eq (s : PySem.W.SharedT) : ob s = hk.obs s.abs := obsIG_eq (HandSHeadRun.getT_eq s)
theorem run (w : World) : HandSHeadRun.RunEq Ro (PySem.W.view Ro.prog [18]) hk ob 3000 loose w := PySem.W.byRow2 "special-get-raises" (P := fun w => HandSHeadRun.RunEq Ro (PySem.W.view Ro.prog [18]) hk ob 3000 loose w) (fun w => by intro os; kernel_rfl) (fun w => by intro os; kernel_rfl) w
end Ly.K
open PySem PySem.W PySem.Calls PyProof.Rows
theorem PySem.Challenge.cw_kindbags_k03_open_names_and_lifted_holds : PySem.Challenge.rw_kindbags_k03_open_names_and_lifted.Holds := by
  w_on; o_law
  refine HandSHeadRun.head_any (r := OpenLaw.row PySem.Challenge.rw_kindbags_k03_open_names_and_lifted) (q := view (OpenLaw.row PySem.Challenge.rw_kindbags_k03_open_names_and_lifted).prog [18]) (H := Ly.K.hk) (ob := Ly.K.ob) (M := 3000) (loose := Ly.K.loose) (d := HandSHeadRun.topDef (OpenLaw.row PySem.Challenge.rw_kindbags_k03_open_names_and_lifted).prog 18) (kwd := []) Ly.K.ob_eq
    (by kernel_rfl) (fun s => by kernel_rfl) Ly.K.run (by kernel_rfl) (by kernel_rfl) (by kernel_rfl) (by rfl) (by first | assumption | decide +kernel) (by decide +kernel) ⟨rfl, rfl, rfl, rfl, rfl, by decide +kernel⟩ ?hw ?hc
  case hw => w_witness2
  case hc =>
    exact Ly.walk_lyT (law := Ly.K.d_law) (F := Ly.K.f_law) (x := "_law_script") (defs := Ly.K.defs) (G := Ly.K.G) (ts := Ly.K.ts) 14 100 rfl (by kernel_rfl) ⟨rfl, by decide, by decide⟩ (by kernel_rfl) Ly.K.bnds rfl (by kernel_rfl) Ly.K.defs_chk rfl rfl (by kernel_rfl) rfl rfl Ly.K.law_val
