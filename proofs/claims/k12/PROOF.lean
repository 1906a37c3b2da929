import PyProof.Rows.All
import Wide.All
import OpenK.AllK
import Wide.FinOn
import KE.KStateDown
import HandS.More
import HandS.Words
import HandS.WordsExc
import HandS.Head0
import HandS.Head1
import HandS.Head2
import HandS.HeadEnd
import HandS.HeadHook1
import PyProof.EqAt
import PyProof.EqKinds
import PyProof.TupleCall
import HandS.ForMost
import HandS.Style
import HandS.TupLe
import HandS.TupAny
import HandS.IsInst
import HandS.Deep
import HandS.Defaults
import HandS.Flow
import HandS.Wide
import KE.SortData
import PyProof.StrLawsRepr
import PyProof.Rows.RegFStrParts
import PyProof.Rows.ReprOcc
import PyProof.TableCode
import HandS.Replace
import HandS.Text
import KE.DataMinMax
import HandS.SortKw
import HandS.Gcd
import HandS.Zip
import HandS.Rev
import KE.GoesEnum
import KE.KItemsList
import HandS.Comp
import HandS.List
import HandS.TupSets
import HandS.SetKeys
import HandS.Conv
import HandS.RevRange
import HandS.StrMore
import HandS.Codes
import HandS.Ends
import HandS.HeadHook2
import PySem.Challenge.RW_spelledonce_k12_whole_stretches_and_stre
set_option Elab.async false
set_option linter.all false
set_option Elab.async false
set_option maxRecDepth 100000
set_option maxHeartbeats 2000000
/-! A small functional reading of Python: data, own lists, slots; expressions and statements over slots, by plain functions. -/
namespace Pu
open PySem

/-! ### data -/
inductive D where
  | non | bl (b : Bool) | int (i : Int) | str (s : List Nat) | lst (xs : List D) | tup (xs : List D)
  deriving Inhabited
mutual
def toPy : D → PyData
  | .non => .none
  | .bl b => .bool b
  | .int i => .int i
  | .str s => .str ⟨s.toArray⟩
  | .lst xs => .list (toPys xs)
  | .tup xs => .tuple (toPys xs)
def toPys : List D → List PyData
  | [] => []
  | x :: xs => toPy x :: toPys xs
end
def line : Nat := 16777216
/-- Python's == -/
def D.eqv (a b : D) : Bool := PyData.eqv (toPy a) (toPy b)
def D.ok (a : D) : Bool := SeqAt.shaped (toPy a)
/-- whether its repr is known to be short -/
def D.showy (a : D) : Bool := (toPy a).canLay0 && ((toPy a).showable && (decide ((toPy a).shown.length ≤ line) && (decide ((toPy a).depth ≤ 40) && (toPy a).shown.cps.toList.all (fun c => decide (c < 0x110000)))))
def D.repr (a : D) : List Nat := (toPy a).shown.cps.toList

/-- an atom: nothing that stands at an address -/
def D.atom : D → Bool
  | .lst _ => false
  | .tup _ => false
  | _ => true

/-! ### values: data that nobody changes; lists of one's own -/
inductive Val where
  | d (x : D) | ol (xs : List Val)
  deriving Inhabited
mutual
def Val.data : Val → D
  | .d x => x
  | .ol xs => .lst (Val.datas xs)
def Val.datas : List Val → List D
  | [] => []
  | x :: xs => x.data :: Val.datas xs
end
/-- a value, with no own list within an own list -/
def Val.isD : Val → Bool
  | .d _ => true
  | _ => false
def Val.flat : Val → Bool
  | .d _ => true
  | .ol xs => xs.all Val.isD
def Val.atom : Val → Bool
  | .d x => x.atom
  | .ol _ => false

inductive Slot where
  | un | lo (v : Val) | rd (ns : List Int)
  deriving Inhabited
abbrev Env := List Slot
inductive R where
  | v (x : Val) | pk (i : Nat) | rd (ns : List Int)
  deriving Inhabited

def getS (ρ : Env) (i : Nat) : Option Val :=
  match ρ[i]? with
  | some (.lo v) => some v
  | _ => none
/-- another value at the same object's place, or a frozen one -/
def putS (ρ : Env) (i : Nat) (v : Val) : Env := ρ.set i (.lo v)
/-- data that is only looked at -/
def dat (ρ : Env) : R → Option D
  | .v x => some x.data
  | .pk i => (getS ρ i).map Val.data
  | .rd ns => some (.lst (ns.map .int))
/-- the same, where parts of it are handed on -/
def fdat (ρ : Env) : R → Option D
  | .v x => some x.data
  | .pk i => match getS ρ i with
    | some v => if v.flat then some v.data else none
    | none => none
  | .rd _ => none
/-- the same, the script let -/
def gdat (ρ : Env) : R → Option D
  | .rd ns => some (.lst (ns.map .int))
  | r => fdat ρ r
/-- a value that is stored somewhere else: an own list of a slot is frozen -/
def esc (ρ : Env) : R → Option (Val × Env)
  | .v x => some (x, ρ)
  | .pk i => match getS ρ i with
    | some v => some (.d v.data, putS ρ i (.d v.data))
    | none => none
  | .rd _ => none
/-- a value that is stored in a slot, or handed back: an own list of a slot moves (not one that was handed in) -/
def mov (io : Nat → Bool) (ρ : Env) : R → Option (Val × Env)
  | .v x => some (x, ρ)
  | .pk i => match getS ρ i with
    | some v => if io i then some (.d v.data, putS ρ i (.d v.data)) else some (v, ρ.set i .un)
    | none => none
  | .rd _ => none

/-! ### operators -/
inductive Op where
  | add | sub | mul | fdiv | mod | pow
  deriving DecidableEq, Inhabited
inductive Cm where
  | eq | ne | lt | le | gt | ge | in_ | nin | is_ | isn
  deriving DecidableEq, Inhabited

def small64 (i : Int) : Bool := decide (-(2 ^ 64) < i) && decide (i < 2 ^ 64)
def binop : Op → D → D → Option Val
  | .add, .int i, .int j => some (.d (.int (i + j)))
  | .add, .str s, .str t => if s.length + t.length ≤ line then some (.d (.str (s ++ t))) else none
  | .add, .lst xs, .lst ys => if xs.length + ys.length ≤ line then some (.ol ((xs ++ ys).map .d)) else none
  | .add, .tup xs, .tup ys => if xs.length + ys.length ≤ line then some (.d (.tup (xs ++ ys))) else none
  | .sub, .int i, .int j => some (.d (.int (i - j)))
  | .mul, .int i, .int j => if small64 i || (small64 j || decide (i.natAbs.log2 + j.natAbs.log2 < 1000000)) then some (.d (.int (i * j))) else none
  | .mul, .str s, .int k => if s.length * k.toNat ≤ line ∧ -(2 ^ 63) ≤ k ∧ k < 2 ^ 63 then some (.d (.str (List.replicate k.toNat s).flatten)) else none
  | .mul, .lst xs, .int k => if xs.length * k.toNat ≤ line ∧ -(2 ^ 63) ≤ k ∧ k < 2 ^ 63 then some (.ol ((List.replicate k.toNat xs).flatten.map .d)) else none
  | .fdiv, .int i, .int j => if j ≠ 0 ∧ j.natAbs < 1073741824 then some (.d (.int (i.fdiv j))) else none
  | .mod, .int i, .int j => if j ≠ 0 then some (.d (.int (i.fmod j))) else none
  | .pow, .int i, .int j => if 0 ≤ j ∧ j ≤ 1000000 ∧ i.natAbs < 2 ^ 64 then some (.d (.int (i ^ j.toNat))) else none
  | _, _, _ => none

/-- where a text stands in a text -/
def occAt (s t : List Nat) (i : Nat) : Bool := decide (i + t.length ≤ s.length) && ((s.drop i).take t.length == t)
def firstAt (s t : List Nat) : Option Nat := (List.range (s.length + 1)).find? (occAt s t)
def ltStr (s t : List Nat) : Bool := decide (s < t)
def inD : D → D → Option Bool
  | .str [c], .str z => some (decide (c ∈ z))
  | .str t, .str z => some (firstAt z t).isSome
  | x, .lst ys => if x.ok && D.ok (.lst ys) then some (ys.any fun y => D.eqv y x) else none
  | _, _ => none
def cmpop : Cm → D → D → Option Bool
  | .eq, a, b => if a.ok && b.ok then some (a.eqv b) else none
  | .ne, a, b => if a.ok && b.ok then some (!a.eqv b) else none
  | .lt, .int i, .int j => some (decide (i < j))
  | .le, .int i, .int j => some (decide (i ≤ j))
  | .gt, .int i, .int j => some (decide (j < i))
  | .ge, .int i, .int j => some (decide (j ≤ i))
  | .lt, .str s, .str t => some (ltStr s t)
  | .le, .str s, .str t => some (!ltStr t s)
  | .gt, .str s, .str t => some (ltStr t s)
  | .ge, .str s, .str t => some (!ltStr s t)
  | .in_, a, b => inD a b
  | .nin, a, b => (inD a b).map (!·)
  | .is_, a, .non => some (match a with | .non => true | _ => false)
  | .isn, a, .non => some (match a with | .non => false | _ => true)
  | .is_, .bl a, .bl b => some (a == b)
  | .isn, .bl a, .bl b => some (a != b)
  | _, _, _ => none

def cut {α : Type} (xs : List α) (lo hi : Option Int) : List α := (xs.drop (HT.sIx xs.length 0 lo)).take (HT.sIx xs.length xs.length hi - HT.sIx xs.length 0 lo)
def index : D → D → Option D
  | .lst xs, .int i => L2.atI xs i
  | .tup xs, .int i => L2.atI xs i
  | .str s, .int i => (L2.atI s i).map fun c => .str [c]
  | _, _ => none
def slice : D → Option Int → Option Int → Option Val
  | .lst xs, lo, hi => some (.ol ((cut xs lo hi).map .d))
  | .tup xs, lo, hi => some (.d (.tup (cut xs lo hi)))
  | .str s, lo, hi => some (.d (.str (cut s lo hi)))
  | _, _, _ => none
/-- Python's order, for data alike -/
def dle (a b : D) : Bool := PySem.W.dataLe false toPy a b
def sortableD (xs : List D) : Bool := (xs.all fun x => xs.all fun y => PySem.W.alike (toPy x) (toPy y)) && ((xs.all (fun x => match x with
    | .tup (_ :: _) => true
    | _ => false) || xs.all (fun x => match x with
    | .non => false
    | .tup _ => false
    | _ => true)) && xs.all (fun x => decide ((toPy x).depth ≤ 40)))
def mkS (s : List Nat) : Str := ⟨s.toArray⟩
def dlt (a b : D) : Bool := PySem.W.dataLt (toPy a) (toPy b)
/-- all can be compared with one another -/
def alikeD (xs : List D) : Bool := (xs.all fun x => xs.all fun y => PySem.W.alike (toPy x) (toPy y)) && (xs.all (fun x => match x with
    | .non => false
    | _ => true) && decide ((PyData.depthAll (toPys xs)) ≤ 40))
/-- the first of the best: b a y says that y is better than a -/
def bestD (b : D → D → Bool) : List D → Option D
  | [] => none
  | x :: xs => if alikeD (x :: xs) then some (xs.foldl (fun a y => if b a y then y else a) x) else none
def revd : D → Option Val
  | .lst xs => some (.ol (xs.reverse.map .d))
  | .str s => some (.d (.str s.reverse))
  | _ => none

/-! ### built-in functions -/
inductive B1 where
  | len | abs | sum | all | any | int | list | tuple | repr | max | min | sorted | bool
  deriving DecidableEq, Inhabited
inductive B2 where
  | max | min | divmod | gcd | join | maxd
  deriving DecidableEq, Inhabited
def ints? : List D → Option (List Int)
  | [] => some []
  | .int i :: xs => (ints? xs).map (i :: ·)
  | _ :: _ => none
def bls? : List D → Option (List Bool)
  | [] => some []
  | .bl i :: xs => (bls? xs).map (i :: ·)
  | _ :: _ => none
def strs? : List D → Option (List (List Nat))
  | [] => some []
  | .str i :: xs => (strs? xs).map (i :: ·)
  | _ :: _ => none
def joinL (s : List Nat) : List (List Nat) → List Nat
  | [] => []
  | [x] => x
  | x :: xs => x ++ s ++ joinL s xs
def maxI : List Int → Option Int
  | [] => none
  | x :: xs => some (xs.foldl max x)
def minI : List Int → Option Int
  | [] => none
  | x :: xs => some (xs.foldl min x)
def b1 : B1 → D → Option Val
  | .len, .lst xs => some (.d (.int xs.length))
  | .len, .tup xs => some (.d (.int xs.length))
  | .len, .str s => some (.d (.int s.length))
  | .abs, .int i => some (.d (.int (if i < 0 then -i else i)))
  | .sum, .lst xs => (ints? xs).map fun ns => .d (.int ns.sum)
  | .all, .lst xs => (bls? xs).map fun bs => .d (.bl (bs.all id))
  | .any, .lst xs => (bls? xs).map fun bs => .d (.bl (bs.any id))
  | .int, .int i => some (.d (.int i))
  | .int, .bl b => some (.d (.int (if b then 1 else 0)))
  | .bool, .int i => some (.d (.bl (i != 0)))
  | .bool, .bl b => some (.d (.bl b))
  | .list, .lst xs => some (.ol (xs.map .d))
  | .list, .tup xs => some (.ol (xs.map .d))
  | .list, .str s => some (.ol (s.map fun c => .d (.str [c])))
  | .sorted, .lst xs => if sortableD xs then some (.ol ((xs.mergeSort dle).map .d)) else none
  | .sorted, .str s => some (.ol ((s.mergeSort fun a b => decide (a ≤ b)).map fun c => .d (.str [c])))
  | .tuple, .lst xs => some (.d (.tup xs))
  | .tuple, .tup xs => some (.d (.tup xs))
  | .repr, x => if x.showy then some (.d (.str x.repr)) else none
  | .max, .lst xs => match ints? xs with
    | some ns => (maxI ns).map fun m => .d (.int m)
    | none => (bestD (fun a y => dlt a y) xs).map .d
  | .min, .lst xs => match ints? xs with
    | some ns => (minI ns).map fun m => .d (.int m)
    | none => (bestD (fun a y => dlt y a) xs).map .d
  | _, _ => none
def b2 : B2 → D → D → Option Val
  | .max, .int i, .int j => some (.d (.int (if j > i then j else i)))
  | .min, .int i, .int j => some (.d (.int (if j < i then j else i)))
  | .maxd, .lst xs, .int j => (ints? xs).map fun ns => .d (.int ((maxI ns).getD j))
  | .divmod, .int i, .int j => if 0 < j ∧ j < 1073741824 then some (.d (.tup [.int (i / j), .int (i % j)])) else none
  | .gcd, .int i, .int j => some (.d (.int ((Nat.gcd i.natAbs j.natAbs : Nat) : Int)))
  | .join, .str s, .lst xs => (strs? xs).bind fun ss => if (ss.map List.length).sum + ss.length * s.length ≤ line then some (.d (.str (joinL s ss))) else none
  | _, _, _ => none

/-! ### sets -/
mutual
def D.same : D → D → Bool
  | .non, .non => true
  | .bl a, .bl b => a == b
  | .int i, .int j => decide (i = j)
  | .str s, .str t => decide (s = t)
  | .lst xs, .lst ys => D.sames xs ys
  | .tup xs, .tup ys => D.sames xs ys
  | _, _ => false
def D.sames : List D → List D → Bool
  | [], [] => true
  | x :: xs, y :: ys => D.same x y && D.sames xs ys
  | _, _ => false
end
/-- each once -/
def dd : List D → List D
  | [] => []
  | x :: xs => x :: (dd xs).filter fun y => !D.same x y
def leafD : D → Bool
  | .int _ => true
  | .str _ => true
  | _ => false
def flatD : D → Bool
  | .tup xs => xs.all leafD
  | _ => false
/-- these can be a set's: numbers and texts, or tuples of such, not too many -/
def hashable (xs : List D) : Bool := (xs.all leafD && decide (xs.length + 1 < 4096)) || (xs.all flatD && decide ((dd xs).length < 64))
inductive Bs where
  | sset | lset
  deriving DecidableEq, Inhabited
/-- sorted(set(xs)), len(set(xs)) -/
def bsop : Bs → D → Option Val
  | .sset, .lst xs => if hashable xs && sortableD (dd xs) then some (.ol (((dd xs).mergeSort dle).map .d)) else none
  | .sset, .tup xs => if hashable xs && sortableD (dd xs) then some (.ol (((dd xs).mergeSort dle).map .d)) else none
  | .lset, .lst xs => if hashable xs then some (.d (.int (dd xs).length)) else none
  | .lset, .tup xs => if hashable xs then some (.d (.int (dd xs).length)) else none
  | _, _ => none

/-! ### methods -/
inductive Mt where
  | index | startswith | endswith
  deriving DecidableEq, Inhabited
/-- what kind of thing has the method -/
def mkd : Mt → D → Bool
  | _, .str _ => true
  | .index, .lst _ => true
  | _, _ => false
def mt : Mt → D → D → Option D
  | .index, .str s, .str t => (firstAt s t).map fun (i : Nat) => D.int (i : Int)
  | .index, .lst xs, y => if D.ok (.lst xs) && y.ok then (xs.findIdx? (fun z => D.eqv z y)).map fun (i : Nat) => D.int (i : Int) else none
  | .startswith, .str s, .str t => some (.bl (t.isPrefixOf s))
  | .endswith, .str s, .str t => some (.bl (t.isSuffixOf s))
  | _, _, _ => none

/-- s.startswith(t, i) -/
def sw3 : D → D → D → Option D
  | .str s, .str t, .int i => if 0 ≤ i ∧ i ≤ s.length then some (.bl (t.isPrefixOf (s.drop i.toNat))) else none
  | _, _, _ => none

/-! ### types, for isinstance -/
inductive Ty where
  | int | bool | str | list | tuple
  deriving DecidableEq, Inhabited
def hasTy : D → Ty → Bool
  | .bl _, .int => true
  | .bl _, .bool => true
  | .int _, .int => true
  | .str _, .str => true
  | .lst _, .list => true
  | .tup _, .tuple => true
  | _, _ => false
end Pu

set_option Elab.async false
set_option maxRecDepth 100000
set_option maxHeartbeats 2000000
namespace Pu
open PySem

/-! ### the written form -/
inductive Ik where
  | seq | rng1 | rng2 | rng3 | zip | enum | enzip | rev
  deriving DecidableEq, Inhabited
mutual
inductive E where
  | var (i : Nat) | cst (x : D)
  | bin (o : Op) (a b : E) | neg (a : E) | not (a : E) | and (a b : E) | or (a b : E)
  | cmp (o : Cm) (a b : E) | chn (o p : Cm) (a b c : E)
  | ite (t : T) (a b : E)
  | idx (a b : E) | sl (a : E) (lo hi : Eo) | rev (a : E)
  | tup (es : Es) | lst (es : Es)
  | comp (own : List Nat) (k : Ik) (src : Es) (tg : Tg) (t : T) (elt : E)
  | comp2 (own own2 : List Nat) (k : Ik) (src : Es) (tg : Tg) (t : T) (k2 : Ik) (src2 : Es) (tg2 : Tg) (t2 : T) (elt : E)
  | call (f : Nat) (as : Es) (dfl : List D)
  | callk (f : Nat) (as kas : Es) (perm : List Nat)
  | fz (a : E)
  | isi (a : E) (ts : List Ty)
  | b1 (o : B1) (a : E) | b2 (o : B2) (a b : E) | met (o : Mt) (a b : E) | bs (o : Bs) (a : E) | sw3 (a b c : E) | pop (i : Nat) (k : Option Int) | dlk (ks : List D) (vs : Es) (a : E) | lrng (a b : E)
  deriving Inhabited
inductive Es where
  | nil | cons (e : E) (es : Es)
  deriving Inhabited
inductive Eo where
  | no | so (e : E)
  deriving Inhabited
inductive T where
  | yes | tr (e : E) | no (t : T) | an (t u : T) | orr (t u : T)
  deriving Inhabited
inductive Tg where
  | nm (i : Nat) | ix (i : Nat) (k : E) | tp (ts : Tgs)
  deriving Inhabited
inductive Tgs where
  | nil | cons (t : Tg) (ts : Tgs)
  deriving Inhabited
end
def Es.len : Es → Nat
  | .nil => 0
  | .cons _ es => es.len + 1
inductive S where
  | set (i : Nat) (e : E) | setT (is : List Nat) (es : Es) | unp (t : Tg) (e : E) | aug (i : Nat) (o : Op) (e : E)
  | app (i : Nat) (e : E) | ext (i : Nat) (e : E) | appAt (i : Nat) (k : E) (e : E) | appEach (i j : Nat) (e : E)
  | ex (e : E) | ite (t : T) (a b : S) | whl (t : T) (b : S) | for_ (k : Ik) (src : Es) (tg : Tg) (b : S)
  | ret (e : E) | retN | pass | brk | cont | seq (a b : S) | never
  deriving Inhabited

/-! ### slots -/
/-- a plain store to a name -/
def asg (io : Nat → Bool) (ρ : Env) (i : Nat) (v : Val) : Option Env := if io i = false ∧ i < ρ.length then some (ρ.set i (.lo v)) else none
def isOl (ρ : Env) (i : Nat) : Bool := match getS ρ i with
  | some (.ol _) => true
  | _ => false
/-- data that is asked for its kind, its emptiness -/
def ndat (ρ : Env) : R → Option D
  | .rd _ => none
  | r => dat ρ r
/-- truth -/
def truth : D → Bool
  | .non => false
  | .bl b => b
  | .int i => i != 0
  | .str s => !s.isEmpty
  | .lst xs => !xs.isEmpty
  | .tup xs => !xs.isEmpty
/-- data that is walked: an own list of a slot is frozen -/
def srcD (ρ : Env) (r : R) : Option (D × Env) :=
  match r with
  | .v x => some (x.data, ρ)
  | .pk _ => (esc ρ r).map fun p => (p.1.data, p.2)
  | .rd ns => some (.lst (ns.map .int), ρ)
def srcs (ρ : Env) : List R → Option (List D × Env)
  | [] => some ([], ρ)
  | r :: rs => (srcD ρ r).bind fun p => (srcs p.2 rs).map fun q => (p.1 :: q.1, q.2)
def ranged (lo hi : Int) : List D := (List.range (hi - lo).toNat).map fun (i : Nat) => .int (lo + (i : Int))
def ends62 (i : Int) : Bool := decide (-(2 ^ 62) ≤ i) && decide (i < 2 ^ 62)
def walked : D → Option (List D)
  | .lst xs => some xs
  | .tup xs => some xs
  | .str s => some (s.map fun c => .str [c])
  | _ => none
def pairs (xs ys : List D) : List D := (xs.zip ys).map fun p => .tup [p.1, p.2]
def numbered (k : Nat) : List D → List D
  | [] => []
  | x :: xs => .tup [.int k, x] :: numbered (k + 1) xs
def items : Ik → List D → Option (List D)
  | .seq, [x] => walked x
  | .rng1, [.int j] => if ends62 j then some (ranged 0 j) else none
  | .rng2, [.int i, .int j] => if ends62 i && ends62 j then some (ranged i j) else none
  | .zip, [.lst xs, .lst ys] => some (pairs xs ys)
  | .zip, [.tup xs, .tup ys] => some (pairs xs ys)
  | .enum, [.lst xs] => some (numbered 0 xs)
  | .enzip, [.str s, .str t] => some (numbered 0 (pairs (s.map fun c => .str [c]) (t.map fun c => .str [c])))
  | .rev, [.lst xs] => some xs.reverse
  | _, _ => none

/-! ### calls -/
/-- what is handed to a function: the slots of its parameters; which slot of the caller each was taken out of -/
structure Handed where
  args : List Slot
  out : List (Option Nat)
  deriving Inhabited
def hand (ρ : Env) (fl : Bool) : R → Option (Slot × Option Nat × Env)
  | .v x => some (.lo x, none, ρ)
  | .rd ns => some (.rd ns, none, ρ)
  | .pk i => match getS ρ i with
    | some v => if fl then some (.lo v, some i, ρ.set i .un) else some (.lo (.d v.data), none, putS ρ i (.d v.data))
    | none => none
def handAll (ρ : Env) : List Bool → List R → Option (Handed × Env)
  | _, [] => some (⟨[], []⟩, ρ)
  | fl :: fls, r :: rs => (hand ρ fl r).bind fun p => (handAll p.2.2 fls rs).map fun q => (⟨p.1 :: q.1.args, p.2.1 :: q.1.out⟩, q.2)
  | [], _ :: _ => none
/-- behind the call -/
def back (ρ : Env) : List (Option Nat) → List Slot → Option Env
  | [], [] => some ρ
  | none :: os, _ :: ss => back ρ os ss
  | some i :: os, .lo v :: ss => back (ρ.set i (.lo v)) os ss
  | _, _ => none
abbrev Oracle := Nat → List Slot → Option (Val × List Slot)
/-- rs: the arguments in the parameters' order; where nothing can have been kept, own lists of the caller stay its own -/
def callR (fl : Nat → List Bool) (C : Oracle) (f : Nat) (rs : List R) (ρ : Env) : Option (R × Env) :=
  (handAll ρ (fl f) rs).bind fun p => (C f p.1.args).bind fun q =>
    if q.1.atom && p.1.out.all Option.isNone then some (.v q.1, ρ) else (back p.2 p.1.out q.2).map fun ρ' => (.v q.1, ρ')
def notOl : R → Bool
  | .v (.ol _) => false
  | _ => true
def pickL {α : Type} (perm : List Nat) (xs : List α) : List α := perm.filterMap (xs[·]?)
/-- the arguments in the parameters' order -/
def pickR (perm : List Nat) (rs : List R) : Option (List R) := if rs.all notOl then some (pickL perm rs) else none
/-- what an own list of a slot holds is frozen -/
def fzS (ρ : Env) (i : Nat) : Env := match getS ρ i with
  | some (.ol xs) => if xs.all Val.isD then ρ else putS ρ i (.ol (xs.map fun v => .d v.data))
  | _ => ρ
def fzR (r : R) (ρ : Env) : Env := match r with
  | .pk i => fzS ρ i
  | _ => ρ
/-- the machine: which parameters are handed out and in, what calls give, which slots of this body were handed in -/
structure Mach where
  fl : Nat → List Bool
  C : Oracle
  io : Nat → Bool

/-! ### loops -/
inductive Out where
  | nx (ρ : Env) | rt (v : Val) (ρ : Env) | bk (ρ : Env) | ct (ρ : Env)
  deriving Inhabited
def forL (asgn : D → Env → Option Env) (body : Env → Option Out) : List D → Env → Option Out
  | [], ρ => some (.nx ρ)
  | x :: xs, ρ => match asgn x ρ with
    | none => none
    | some ρ1 => match body ρ1 with
      | some (.nx ρ2) => forL asgn body xs ρ2
      | some (.ct ρ2) => forL asgn body xs ρ2
      | some (.bk ρ2) => some (.nx ρ2)
      | some (.rt v ρ2) => some (.rt v ρ2)
      | none => none
def whileL (test : Env → Option (Bool × Env)) (body : Env → Option Out) : Nat → Env → Option Out
  | 0, _ => none
  | n + 1, ρ => match test ρ with
    | none => none
    | some (false, ρ1) => some (.nx ρ1)
    | some (true, ρ1) => match body ρ1 with
      | some (.nx ρ2) => whileL test body n ρ2
      | some (.ct ρ2) => whileL test body n ρ2
      | some (.bk ρ2) => some (.nx ρ2)
      | some (.rt v ρ2) => some (.rt v ρ2)
      | none => none
def wipe (ρ : Env) : List Nat → Env
  | [] => ρ
  | i :: is => (wipe ρ is).set i .un
def own1 : Slot → Bool
  | .un => true
  | .lo (.d _) => true
  | .rd _ => true
  | _ => false
/-- the slots of a comprehension's names hold nothing own -/
def ownOk (ρ : Env) (own : List Nat) : Bool := decide own.Nodup && own.all fun i => match ρ[i]? with
  | some s => own1 s
  | none => false
/-- put back what stood in them -/
def unwipe (ρ0 ρ : Env) : List Nat → Env
  | [] => ρ
  | i :: is => (unwipe ρ0 ρ is).set i ((ρ0[i]?).getD .un)
/-- a comprehension's loop: turn gives the element (or none, where a test fails) -/
def compL (own : List Nat) (turn : D → Env → Option (Option Val × Env)) : List D → Env → List Val → Option (List Val × Env)
  | [], ρ, acc => some (acc, ρ)
  | x :: xs, ρ, acc => match turn x (wipe ρ own) with
    | none => none
    | some (some v, ρ') => if acc.length < line then compL own turn xs ρ' (acc ++ [v]) else none
    | some (none, ρ') => compL own turn xs ρ' acc

def escs (ρ : Env) : List R → Option (List Val × Env)
  | [] => some ([], ρ)
  | r :: rs => (esc ρ r).bind fun p => (escs p.2 rs).map fun q => (p.1 :: q.1, q.2)

/-- xs.pop(), xs.pop(k): what is left, what is taken -/
def popAt {α : Type} (xs : List α) : Option Int → Option (α × List α)
  | none => (xs[xs.length - 1]?).map fun y => (y, xs.dropLast)
  | some k => (L2.ixN xs.length k).bind fun m => (xs[m]?).map fun y => (y, xs.eraseIdx m)
def sw3R : R → R → R → Option D
  | .v (.d x), .v (.d y), .v (.d z) => sw3 x y z
  | _, _, _ => none
/-- the value at a key -/
def lookD : List D → List D → D → Option D
  | k :: ks, v :: vs, x => if D.same k x then some v else lookD ks vs x
  | _, _, _ => none
/-- the data that a built-in function is given: len may be asked of own lists in own lists, too -/
def bdat (o : B1) (ρ : Env) (r : R) : Option D := match o with
  | .len => dat ρ r
  | _ => gdat ρ r
section
variable (M : Mach)
mutual
def ev : E → Env → Option (R × Env)
  | .var i, ρ => match ρ[i]? with
    | some (.lo (.d x)) => some (.v (.d x), ρ)
    | some (.lo (.ol _)) => some (.pk i, ρ)
    | some (.rd ns) => some (.rd ns, ρ)
    | _ => none
  | .cst x, ρ => some (.v (.d x), ρ)
  | .bin o a b, ρ => (ev a ρ).bind fun p => (ev b p.2).bind fun q => (fdat q.2 p.1).bind fun x => (fdat q.2 q.1).bind fun y => (binop o x y).map fun z => (.v z, q.2)
  | .neg a, ρ => (ev a ρ).bind fun p => (dat p.2 p.1).bind fun x => match x with
    | .int i => some (.v (.d (.int (-i))), p.2)
    | _ => none
  | .not a, ρ => (ev a ρ).bind fun p => match p.1 with
    | .v (.d (.bl b)) => some (.v (.d (.bl (!b))), p.2)
    | _ => none
  | .and a b, ρ => (ev a ρ).bind fun p => match p.1 with
    | .v (.d (.bl true)) => ev b p.2
    | .v (.d (.bl false)) => some (.v (.d (.bl false)), p.2)
    | _ => none
  | .or a b, ρ => (ev a ρ).bind fun p => match p.1 with
    | .v (.d (.bl true)) => some (.v (.d (.bl true)), p.2)
    | .v (.d (.bl false)) => ev b p.2
    | _ => none
  | .cmp o a b, ρ => (ev a ρ).bind fun p => (ev b p.2).bind fun q => (dat q.2 p.1).bind fun x => (dat q.2 q.1).bind fun y => (cmpop o x y).map fun z => (.v (.d (.bl z)), q.2)
  | .chn o o' a b c, ρ => (ev a ρ).bind fun p => (ev b p.2).bind fun q => (dat q.2 p.1).bind fun x => (dat q.2 q.1).bind fun y => (cmpop o x y).bind fun z =>
    match z with
    | false => some (.v (.d (.bl false)), q.2)
    | true => (ev c q.2).bind fun r => (dat r.2 q.1).bind fun y => (dat r.2 r.1).bind fun w => (cmpop o' y w).map fun z => (.v (.d (.bl z)), r.2)
  | .ite t a b, ρ => (evT t ρ).bind fun p => match p.1 with
    | true => ev a p.2
    | false => ev b p.2
  | .idx a b, ρ => (ev a ρ).bind fun p => (ev b p.2).bind fun q => (gdat q.2 p.1).bind fun x => (dat q.2 q.1).bind fun y => (index x y).map fun z => (.v (.d z), q.2)
  | .sl a lo hi, ρ => (ev a ρ).bind fun p => (evO lo p.2).bind fun l => (evO hi l.2).bind fun h => (gdat h.2 p.1).bind fun x => (slice x l.1 h.1).map fun z => (.v z, h.2)
  | .rev a, ρ => (ev a ρ).bind fun p => (fdat p.2 p.1).bind fun x => (revd x).map fun z => (.v z, p.2)
  | .tup es, ρ => (evs es ρ).bind fun p => (escs p.2 p.1).bind fun q => if q.1.length ≤ line then some (.v (.d (.tup (Val.datas q.1))), q.2) else none
  | .lst es, ρ => (evs es ρ).bind fun p => (escs p.2 p.1).bind fun q => if q.1.length ≤ line then some (.v (.ol q.1), q.2) else none
  | .comp own k src tg t elt, ρ => (evs src ρ).bind fun p => (srcs p.2 p.1).bind fun q => (items k q.1).bind fun xs =>
    if ownOk q.2 own && own.all (fun i => !M.io i) then (compL own (fun x ρ' => (asgT tg (.d x) ρ').bind fun ρ1 => (evT t ρ1).bind fun b => match b.1 with
        | true => (ev elt b.2).bind fun e => (esc e.2 e.1).map fun v => (some v.1, v.2)
        | false => some (none, b.2)) xs q.2 []).map fun r => (.v (.ol r.1), unwipe q.2 (wipe r.2 own) own) else none
  | .comp2 _ _ _ _ _ _ _ _ _ _ _, _ => none
  | .call f as dfl, ρ => (evs as ρ).bind fun p => callR M.fl M.C f (p.1 ++ dfl.map fun x => .v (.d x)) p.2
  | .callk f as kas perm, ρ => (evs as ρ).bind fun p => (evs kas p.2).bind fun q => (pickR perm (p.1 ++ q.1)).bind fun rs => callR M.fl M.C f rs q.2
  | .fz a, ρ => (ev a ρ).map fun p => (p.1, fzR p.1 p.2)
  | .isi a ts, ρ => (ev a ρ).bind fun p => (ndat p.2 p.1).map fun x => (.v (.d (.bl (ts.any (hasTy x)))), p.2)
  | .b1 o a, ρ => (ev a ρ).bind fun p => (bdat o p.2 p.1).bind fun x => (b1 o x).map fun z => (.v z, p.2)
  | .b2 o a b, ρ => (ev a ρ).bind fun p => (ev b p.2).bind fun q => (fdat q.2 p.1).bind fun x => (fdat q.2 q.1).bind fun y => (b2 o x y).map fun z => (.v z, q.2)
  | .met o a b, ρ => (ev a ρ).bind fun p => (dat p.2 p.1).bind fun x0 => if mkd o x0 then (ev b p.2).bind fun q => (dat q.2 p.1).bind fun x => (dat q.2 q.1).bind fun y => (mt o x y).map fun z => (.v (.d z), q.2) else none
  | .bs o a, ρ => (ev a ρ).bind fun p => (gdat p.2 p.1).bind fun x => (bsop o x).map fun z => (.v z, p.2)
  | .sw3 a b c, ρ => (ev a ρ).bind fun p => (ev b p.2).bind fun q => (ev c q.2).bind fun r => (sw3R p.1 q.1 r.1).map fun w => (.v (.d w), r.2)
  | .pop i k, ρ => match getS ρ i with
    | some (.ol xs) => (popAt xs k).bind fun q => match q.1 with
      | .d x => some (.v (.d x), putS ρ i (.ol q.2))
      | _ => none
    | _ => none
  | .dlk ks vs a, ρ => (evs vs ρ).bind fun p => (escs p.2 p.1).bind fun q => (ev a q.2).bind fun r => (dat r.2 r.1).bind fun x => if ks.length = q.1.length ∧ q.1.all Val.isD then (lookD ks (Val.datas q.1) x).map fun z => (.v (.d z), r.2) else none
  | .lrng a b, ρ => (ev a ρ).bind fun p => (ev b p.2).bind fun q => (dat q.2 p.1).bind fun x => (dat q.2 q.1).bind fun y => match x, y with
    | .int i, .int j => if ends62 i && ends62 j && decide ((j - i).toNat ≤ line) then some (.v (.ol ((ranged i j).map .d)), q.2) else none
    | _, _ => none
def evO : Eo → Env → Option (Option Int × Env)
  | .no, ρ => some (none, ρ)
  | .so e, ρ => (ev e ρ).bind fun p => match p.1 with
    | .v (.d (.int i)) => some (some i, p.2)
    | _ => none
def evs : Es → Env → Option (List R × Env)
  | .nil, ρ => some ([], ρ)
  | .cons e es, ρ => (ev e ρ).bind fun p => (evs es p.2).map fun q => (p.1 :: q.1, q.2)
def evT : T → Env → Option (Bool × Env)
  | .yes, ρ => some (true, ρ)
  | .tr e, ρ => (ev e ρ).bind fun p => (ndat p.2 p.1).map fun x => (truth x, p.2)
  | .no t, ρ => (evT t ρ).map fun p => (!p.1, p.2)
  | .an t u, ρ => (evT t ρ).bind fun p => match p.1 with
    | true => evT u p.2
    | false => some (false, p.2)
  | .orr t u, ρ => (evT t ρ).bind fun p => match p.1 with
    | true => some (true, p.2)
    | false => evT u p.2
def asgT : Tg → Val → Env → Option Env
  | .nm i, v, ρ => asg M.io ρ i v
  | .ix i k, v, ρ => if isOl ρ i then (ev k ρ).bind fun p => match p.1, getS p.2 i with
    | .v (.d (.int j)), some (.ol xs) => (L2.ixN xs.length j).map fun m => putS p.2 i (.ol (xs.set m v))
    | _, _ => none
    else none
  | .tp ts, v, ρ => match v with
    | .d (.tup xs) => asgTs ts xs ρ
    | _ => none
def asgTs : Tgs → List D → Env → Option Env
  | .nil, [], ρ => some ρ
  | .cons t ts, x :: xs, ρ => (asgT t (.d x) ρ).bind fun ρ' => asgTs ts xs ρ'
  | _, _, _ => none
end
end
end Pu
namespace Pu
open PySem
section
variable (M : Mach)
def turnsMost : Nat := 1000000
/-- what changes in place -/
def augop : Op → D → D → Option D
  | .add, .int i, .int j => some (.int (i + j))
  | .sub, .int i, .int j => some (.int (i - j))
  | _, _, _ => none
def exec : S → Env → Option Out
  | .set i e, ρ => (ev M e ρ).bind fun p => (mov M.io p.2 p.1).bind fun q => (asg M.io q.2 i q.1).map .nx
  | .setT is es, ρ => (evs M es ρ).bind fun p => (movs p.2 p.1).bind fun q => (asgs q.2 is q.1).map .nx
  | .unp t e, ρ => (ev M e ρ).bind fun p => (esc p.2 p.1).bind fun q => (asgT M t q.1 q.2).map .nx
  | .aug i o e, ρ => match getS ρ i with
    | some (.d x) => (ev M e ρ).bind fun p => (dat p.2 p.1).bind fun y => (augop o x y).bind fun z => (asg M.io p.2 i (.d z)).map .nx
    | _ => none
  | .app i e, ρ => if isOl ρ i then (ev M e ρ).bind fun p => (esc p.2 p.1).bind fun q => match getS q.2 i with
    | some (.ol xs) => if xs.length < line then some (.nx (putS q.2 i (.ol (xs ++ [q.1])))) else none
    | _ => none
    else none
  | .ext i e, ρ => if isOl ρ i then (ev M e ρ).bind fun p => (fdat p.2 p.1).bind fun y => match y, getS p.2 i with
    | .lst ys, some (.ol xs) => if xs.length + ys.length ≤ line then some (.nx (putS p.2 i (.ol (xs ++ ys.map .d)))) else none
    | _, _ => none
    else none
  | .appAt i k e, ρ => match k, e, getS ρ i with
    | .cst (.int j), .cst .non, some (.ol xs) => (L2.ixN xs.length j).bind fun m => match xs[m]? with
      | some (.ol ys) => if ys.length < line then some (.nx (putS ρ i (.ol (xs.set m (.ol (ys ++ [.d .non])))))) else none
      | _ => none
    | _, _, _ => none
  | .appEach i j e, ρ => match e, getS ρ i with
    | .cst x, some (.ol xs) => if xs.all (fun v => match v with
          | .ol ys => decide (ys.length < line)
          | .d _ => false) && (i != j && (!M.io j && decide (j < ρ.length))) then some (.nx ((putS ρ i (.ol (xs.map fun v => match v with
          | .ol ys => .ol (ys ++ [.d x])
          | v => v))).set j .un)) else none
    | _, _ => none
  | .ex e, ρ => (ev M e ρ).map fun p => .nx p.2
  | .ite t a b, ρ => (evT M t ρ).bind fun p => match p.1 with
    | true => exec a p.2
    | false => exec b p.2
  | .whl t b, ρ => whileL (evT M t) (exec b) turnsMost ρ
  | .for_ k src tg b, ρ => (evs M src ρ).bind fun p => (srcs p.2 p.1).bind fun q => (items k q.1).bind fun xs => forL (fun x ρ' => asgT M tg (.d x) ρ') (exec b) xs q.2
  | .ret e, ρ => (ev M e ρ).bind fun p => (mov M.io p.2 p.1).map fun q => .rt q.1 q.2
  | .retN, ρ => some (.rt (.d .non) ρ)
  | .pass, ρ => some (.nx ρ)
  | .brk, ρ => some (.bk ρ)
  | .cont, ρ => some (.ct ρ)
  | .seq a b, ρ => (exec a ρ).bind fun o => match o with
    | .nx ρ' => exec b ρ'
    | o => some o
  | .never, _ => none
where
  movs (ρ : Env) : List R → Option (List Val × Env)
    | [] => some ([], ρ)
    | r :: rs => (mov M.io ρ r).bind fun p => (movs p.2 rs).map fun q => (p.1 :: q.1, q.2)
  asgs (ρ : Env) : List Nat → List Val → Option Env
    | [], [] => some ρ
    | i :: is, v :: vs => (asg M.io ρ i v).bind fun ρ' => asgs ρ' is vs
    | _, _ => none
end
/-- a function: how many parameters, how many slots, which parameters are handed out and in, its body -/
structure Fd where
  np : Nat
  n : Nat
  fl : List Bool
  body : S
  deriving Inhabited
def flags (F : Nat → Option Fd) (f : Nat) : List Bool := match F f with
  | some d => d.fl
  | none => []
def callK (F : Nat → Option Fd) : Nat → Oracle
  | 0, _, _ => none
  | k + 1, f, args => match F f with
    | none => none
    | some d => if args.length = d.np then match exec ⟨flags F, callK F k, fun j => d.fl.getD j false⟩ d.body (args ++ List.replicate (d.n - d.np) .un) with
        | some (.rt v ρ) => some (v, ρ.take d.np)
        | some (.nx ρ) => some (.d .non, ρ.take d.np)
        | _ => none
      else none
end Pu

set_option Elab.async false
set_option maxRecDepth 100000
set_option maxHeartbeats 2000000
namespace Pu
open PySem PySem.Builtin.Str PyProof PyProof.Rows

/-! ### the codes of a repr -/
abbrev Good (x : Str) : Prop := ∀ c ∈ x.cps.toList, c < 0x110000
theorem char_lt (c : Char) : c.toNat < 0x110000 := by
  have h := c.valid
  have h2 : c.val.toNat < 0x110000 := by
    rcases h with h | h
    · omega
    · exact h.2
  exact h2
theorem good_app {x y : Str} (hx : Good x) (hy : Good y) : Good (x ++ y) := by
  intro c hc
  have h : (x ++ y).cps.toList = x.cps.toList ++ y.cps.toList := by
    show (x.cps ++ y.cps).toList = _
    simp
  rw [h] at hc
  exact (List.mem_append.mp hc).elim (hx c) (hy c)
theorem hex_good (w c : Nat) : ∀ z ∈ (List.replicate (w - ((Nat.toDigits 16 c).map Char.toNat).length) 48 ++ (Nat.toDigits 16 c).map Char.toNat), z < 0x110000 := by
  intro z hz
  rcases List.mem_append.mp hz with h | h
  · rw [(List.mem_replicate.mp h).2]; omega
  · obtain ⟨d, _, rfl⟩ := List.mem_map.mp h
    exact char_lt d
theorem reprChar_good {q c : Nat} (hc : c < 0x110000) : ∀ z ∈ reprChar q c, z < 0x110000 := by
  intro z hz
  unfold reprChar at hz
  simp only at hz
  split at hz
  · rcases List.mem_cons.mp hz with h | h
    · omega
    · rw [List.mem_singleton.mp h]; exact hc
  split at hz
  · simp at hz; omega
  split at hz
  · simp at hz; omega
  split at hz
  · simp at hz; omega
  split at hz
  · rw [List.mem_singleton.mp hz]; exact hc
  split at hz
  · rcases List.mem_append.mp hz with h | h
    · simp at h; omega
    · exact hex_good _ _ z h
  split at hz
  · rcases List.mem_append.mp hz with h | h
    · simp at h; omega
    · exact hex_good _ _ z h
  · rcases List.mem_append.mp hz with h | h
    · simp at h; omega
    · exact hex_good _ _ z h
theorem fold_good (q : Nat) : ∀ (l : List Nat) (acc : Array Nat), (∀ c ∈ l, c < 0x110000) → (∀ c ∈ acc.toList, c < 0x110000) → ∀ c ∈ (l.foldl (fun out c => out ++ (reprChar q c).toArray) acc).toList, c < 0x110000
  | [], acc, _, ha => ha
  | d :: l, acc, hl, ha => by
    rw [List.foldl_cons]
    refine fold_good q l _ (fun c hc => hl c (List.mem_cons_of_mem _ hc)) fun c hc => ?_
    have h : (acc ++ (reprChar q d).toArray).toList = acc.toList ++ reprChar q d := by simp
    rw [h] at hc
    exact (List.mem_append.mp hc).elim (ha c) (reprChar_good (hl d (List.mem_cons_self ..)) c)
theorem quote_lt (x : Str) : reprQuote x < 0x110000 := by
  unfold reprQuote
  split <;> decide
theorem reprText_good {x : Str} (hx : Good x) : Good (reprText x) := by
  intro c hc
  unfold reprText at hc
  rw [← Array.foldl_toList] at hc
  simp only [Array.toList_push] at hc
  rcases List.mem_append.mp hc with h | h
  · refine fold_good (reprQuote x) x.cps.toList #[reprQuote x] hx (fun c hc => ?_) c h
    have : c = reprQuote x := by simpa using hc
    rw [this]; exact quote_lt x
  · rw [List.mem_singleton.mp h]; exact quote_lt x
theorem textFrom_good : ∀ (ts : List Str) (k : Nat) (acc : Str), Good acc → (∀ t ∈ ts, Good t) → Good (textFrom k acc ts)
  | [], k, acc, ha, _ => ha
  | t :: ts, k, acc, ha, ht => by
    unfold textFrom
    refine textFrom_good ts (k + 1) _ (good_app (good_app ha ?_) (ht t (List.mem_cons_self ..))) fun z hz => ht z (List.mem_cons_of_mem _ hz)
    split <;> (intro c hc; revert c; decide +kernel)
theorem join_good {sep : Str} (hs : Good sep) : ∀ ts : List Str, (∀ t ∈ ts, Good t) → Good (Str.join sep ts)
  | [], _ => by
    have e : Str.join sep [] = Str.empty := rfl
    rw [e]
    intro c hc; revert c; decide +kernel
  | [x], h => h x (List.mem_cons_self ..)
  | x :: y :: r, h => good_app (good_app (h x (List.mem_cons_self ..)) hs) (join_good hs (y :: r) fun t ht => h t (List.mem_cons_of_mem _ ht))
mutual
theorem shown_good : ∀ d : D, (toPy d).canLay0 = true → Good (toPy d).shown
  | .non, _ => by intro c hc; revert c; decide +kernel
  | .bl true, _ => by intro c hc; revert c; decide +kernel
  | .bl false, _ => by intro c hc; revert c; decide +kernel
  | .int i, _ => by
    intro c hc
    by_cases h : c < 0x110000
    · exact h
    · exact absurd hc (shown_int_free' ⟨by omega, by omega⟩ i)
  | .str s, h => by
    refine reprText_good fun c hc => ?_
    have h' : PyData.strOk ⟨s.toArray⟩ = true := by simpa [toPy, PyData.canLay0] using h
    unfold PyData.strOk at h'
    simp at h'
    exact h' c (by simpa using hc)
  | .lst xs, h => by
    have h' : PyData.canLayAll0 (toPys xs) = true := by simpa [toPy, PyData.canLay0] using h
    show Good (listText (PyData.shownAll (toPys xs)))
    unfold listText
    refine good_app (textFrom_good _ _ _ (by intro c hc; revert c; decide +kernel) (showns_good xs h')) (by intro c hc; revert c; decide +kernel)
  | .tup xs, h => by
    have h' : PyData.canLayAll0 (toPys xs) = true := by simpa [toPy, PyData.canLay0] using h
    show Good (tupleText (PyData.shownAll (toPys xs)))
    unfold tupleText
    refine good_app (good_app (by intro c hc; revert c; decide +kernel) (join_good (by intro c hc; revert c; decide +kernel) _ (showns_good xs h'))) ?_
    split <;> (intro c hc; revert c; decide +kernel)
theorem showns_good : ∀ xs : List D, PyData.canLayAll0 (toPys xs) = true → ∀ t ∈ PyData.shownAll (toPys xs), Good t
  | [], _, t, ht => by simp [toPys, PyData.shownAll] at ht
  | x :: xs, h, t, ht => by
    have h' : (toPy x).canLay0 = true ∧ PyData.canLayAll0 (toPys xs) = true := by simpa [toPys, PyData.canLayAll0] using h
    have ht' : t = (toPy x).shown ∨ t ∈ PyData.shownAll (toPys xs) := by simpa [toPys, PyData.shownAll] using ht
    rcases ht' with rfl | ht'
    · exact shown_good x h'.1
    · exact showns_good xs h'.2 t ht'
end
/-- what may be shown: texts well, whole numbers of at most 13 signs -/
theorem showy_of {d : D} (h1 : (toPy d).canLay0 = true) (h2 : (toPy d).depth ≤ 40) (h3 : (toPy d).weight ≤ 2 ^ 20) (h4 : (toPy d).intsShort 13 = true) (h5 : (toPy d).showable = true) : d.showy = true := by
  have l0 : PyData.layable0 (toPy d) = true := by
    unfold PyData.layable0
    simp only [Bool.and_eq_true, decide_eq_true_eq]
    exact ⟨⟨h1, by omega⟩, h3⟩
  have len := shown_le13 l0 h4
  unfold D.showy
  simp only [Bool.and_eq_true, decide_eq_true_eq, List.all_eq_true]
  refine ⟨h1, h5, ?_, h2, fun c hc => shown_good d h1 c hc⟩
  show _ ≤ 16777216
  omega
end Pu

set_option Elab.async false
set_option maxRecDepth 100000
set_option maxHeartbeats 2000000
namespace Pu

/-! ### plain laws of the evaluator -/
section
variable {ρ : Env} {x : D} {xs : List Val} {ys zs : List D} {s t : List Nat} {i j : Int} {lo hi : Option Int} {b : Bool}
theorem dat_d : dat ρ (.v (.d x)) = some x := rfl
theorem dat_ol : dat ρ (.v (.ol xs)) = some (.lst (Val.datas xs)) := rfl
theorem fdat_d : fdat ρ (.v (.d x)) = some x := rfl
theorem fdat_ol : fdat ρ (.v (.ol xs)) = some (.lst (Val.datas xs)) := rfl
theorem gdat_d : gdat ρ (.v (.d x)) = some x := rfl
theorem gdat_ol : gdat ρ (.v (.ol xs)) = some (.lst (Val.datas xs)) := rfl
theorem gdat_rd {ns : List Int} : gdat ρ (.rd ns) = some (.lst (ns.map .int)) := rfl
theorem ndat_d : ndat ρ (.v (.d x)) = some x := rfl
theorem ndat_ol : ndat ρ (.v (.ol xs)) = some (.lst (Val.datas xs)) := rfl
theorem esc_v {v : Val} : esc ρ (.v v) = some (v, ρ) := rfl
theorem mov_v {io : Nat → Bool} {v : Val} : mov io ρ (.v v) = some (v, ρ) := rfl
theorem srcD_d : srcD ρ (.v (.d x)) = some (x, ρ) := rfl
theorem srcD_ol : srcD ρ (.v (.ol xs)) = some (.lst (Val.datas xs), ρ) := rfl
theorem add_int : binop .add (.int i) (.int j) = some (.d (.int (i + j))) := rfl
theorem sub_int : binop .sub (.int i) (.int j) = some (.d (.int (i - j))) := rfl
theorem add_str (h : s.length + t.length ≤ line) : binop .add (.str s) (.str t) = some (.d (.str (s ++ t))) := if_pos h
theorem add_lst (h : ys.length + zs.length ≤ line) : binop .add (.lst ys) (.lst zs) = some (.ol ((ys ++ zs).map .d)) := if_pos h
theorem mul_int (h : small64 j = true) : binop .mul (.int i) (.int j) = some (.d (.int (i * j))) := by
  show (if _ then _ else _) = _
  rw [h]; simp
theorem mul_int' (h : small64 i = true) : binop .mul (.int i) (.int j) = some (.d (.int (i * j))) := by
  show (if _ then _ else _) = _
  rw [h]; simp
theorem mul_str {k : Nat} (h : s.length * k ≤ line) (hk : k < 2 ^ 63) : binop .mul (.str s) (.int (k : Int)) = some (.d (.str (List.replicate k s).flatten)) := by
  show (if _ then _ else _) = _
  rw [if_pos ⟨by simpa using h, by omega, by omega⟩]; rfl
theorem mod_int (h : j ≠ 0) : binop .mod (.int i) (.int j) = some (.d (.int (i.fmod j))) := if_pos h
theorem fdiv_int (h : j ≠ 0) (h' : j.natAbs < 1073741824) : binop .fdiv (.int i) (.int j) = some (.d (.int (i.fdiv j))) := if_pos ⟨h, h'⟩
theorem slice_str : slice (.str s) lo hi = some (.d (.str (cut s lo hi))) := rfl
theorem slice_lst : slice (.lst ys) lo hi = some (.ol ((cut ys lo hi).map .d)) := rfl
theorem len_str : b1 .len (.str s) = some (.d (.int s.length)) := rfl
theorem len_lst : b1 .len (.lst ys) = some (.d (.int ys.length)) := rfl
theorem len_tup : b1 .len (.tup ys) = some (.d (.int ys.length)) := rfl
theorem abs_int : b1 .abs (.int i) = some (.d (.int (if i < 0 then -i else i))) := rfl
theorem int_int : b1 .int (.int i) = some (.d (.int i)) := rfl
theorem int_bl : b1 .int (.bl b) = some (.d (.int (if b then 1 else 0))) := rfl
theorem repr_b1 (h : x.showy = true) : b1 .repr x = some (.d (.str x.repr)) := if_pos h
theorem all_lst {bs : List Bool} (h : bls? ys = some bs) : b1 .all (.lst ys) = some (.d (.bl (bs.all id))) := by show (bls? ys).map _ = _; rw [h]; rfl
theorem any_lst {bs : List Bool} (h : bls? ys = some bs) : b1 .any (.lst ys) = some (.d (.bl (bs.any id))) := by show (bls? ys).map _ = _; rw [h]; rfl
theorem max_b2 : b2 .max (.int i) (.int j) = some (.d (.int (if j > i then j else i))) := rfl
theorem min_b2 : b2 .min (.int i) (.int j) = some (.d (.int (if j < i then j else i))) := rfl
theorem lt_int : cmpop .lt (.int i) (.int j) = some (decide (i < j)) := rfl
theorem le_int : cmpop .le (.int i) (.int j) = some (decide (i ≤ j)) := rfl
theorem gt_int : cmpop .gt (.int i) (.int j) = some (decide (j < i)) := rfl
theorem ge_int : cmpop .ge (.int i) (.int j) = some (decide (j ≤ i)) := rfl
theorem strN_inj {s t : List Nat} : ((⟨s.toArray⟩ : PySem.Str) == ⟨t.toArray⟩) = decide (s = t) := by
  by_cases h : s = t
  · subst h; simp
  · rw [decide_eq_false h]
    refine beq_eq_false_iff_ne.mpr fun e => h ?_
    have e2 : s.toArray = t.toArray := congrArg PySem.Str.cps e
    have e3 := congrArg Array.toList e2
    simpa using e3
theorem eqv_str : D.eqv (.str s) (.str t) = decide (s = t) := strN_inj
theorem eqv_int : D.eqv (.int i) (.int j) = decide (i = j) := rfl
/-- a text with codes in order -/
def okS (s : List Nat) : Bool := s.all fun c => decide (c < 0x110000)
theorem ok_str : D.ok (.str s) = okS s := by
  have e : D.ok (.str s) = (PySem.PyData.canLay0 (.str ⟨s.toArray⟩) && decide (PySem.PyData.depth (.str ⟨s.toArray⟩) ≤ 64)) := rfl
  rw [e]
  simp [PySem.PyData.canLay0, PySem.PyData.strOk, PySem.PyData.depth, okS]
theorem ok_int : D.ok (.int i) = true := rfl
theorem eq_str (hs : okS s = true) (ht : okS t = true) : cmpop .eq (.str s) (.str t) = some (decide (s = t)) := by
  have e : cmpop .eq (.str s) (.str t) = if (D.ok (.str s) && D.ok (.str t)) = true then some (D.eqv (.str s) (.str t)) else none := rfl
  rw [e, ok_str, ok_str, hs, ht, eqv_str]; rfl
theorem ne_str (hs : okS s = true) (ht : okS t = true) : cmpop .ne (.str s) (.str t) = some (!decide (s = t)) := by
  have e : cmpop .ne (.str s) (.str t) = if (D.ok (.str s) && D.ok (.str t)) = true then some (!D.eqv (.str s) (.str t)) else none := rfl
  rw [e, ok_str, ok_str, hs, ht, eqv_str]; rfl
theorem eq_int : cmpop .eq (.int i) (.int j) = some (decide (i = j)) := by
  have e : cmpop .eq (.int i) (.int j) = if (D.ok (.int i) && D.ok (.int j)) = true then some (D.eqv (.int i) (.int j)) else none := rfl
  rw [e, ok_int, ok_int, eqv_int]; rfl
theorem ne_int : cmpop .ne (.int i) (.int j) = some (!decide (i = j)) := by
  have e : cmpop .ne (.int i) (.int j) = if (D.ok (.int i) && D.ok (.int j)) = true then some (!D.eqv (.int i) (.int j)) else none := rfl
  rw [e, ok_int, ok_int, eqv_int]; rfl
theorem is_non : cmpop .is_ x .non = some (match x with | .non => true | _ => false) := rfl
theorem isn_non : cmpop .isn x .non = some (match x with | .non => false | _ => true) := rfl
theorem in_str {c : Nat} : cmpop .in_ (.str [c]) (.str s) = some (decide (c ∈ s)) := rfl
theorem nin_str {c : Nat} : cmpop .nin (.str [c]) (.str s) = some (!decide (c ∈ s)) := rfl
theorem truth_bl : truth (.bl b) = b := rfl
end
/-! ### slices -/
section
variable {α : Type} {xs : List α} {n k : Nat}
theorem cut_from : cut xs (some (k : Int)) none = xs.drop k := by
  unfold cut
  rw [HT.sIx_nat, HT.sIx_none]
  rw [List.take_of_length_le (by rw [List.length_drop]; omega)]
  by_cases h : k ≤ xs.length
  · rw [Nat.min_eq_left h]
  · rw [Nat.min_eq_right (by omega), List.drop_eq_nil_of_le (Nat.le_refl _), List.drop_eq_nil_of_le (by omega)]
theorem cut_to : cut xs none (some (k : Int)) = xs.take k := by
  unfold cut
  rw [HT.sIx_nat, HT.sIx_none, List.drop_zero, Nat.sub_zero]
  by_cases h : k ≤ xs.length
  · rw [Nat.min_eq_left h]
  · rw [Nat.min_eq_right (by omega), List.take_of_length_le (Nat.le_refl _), List.take_of_length_le (by omega)]
theorem cut_last : cut xs none (some (-1)) = xs.dropLast := by
  unfold cut
  have e : HT.sIx xs.length xs.length (some (-1)) = xs.length - 1 := by
    show (if (-1 : Int) < 0 then (-1 + (xs.length : Int)).toNat else min (-1 : Int).toNat xs.length) = _
    rw [if_pos (by omega)]; omega
  rw [e, HT.sIx_none, List.drop_zero, Nat.sub_zero, List.dropLast_eq_take]
end
/-! ### comprehensions and loops -/
theorem compL_map {α : Type} {own : List Nat} {turn : D → Env → Option (Option Val × Env)} (e : α → D) (g : α → Option Val) {ρw : Env} : ∀ (l : List α) (ρ : Env) (acc : List Val), wipe ρ own = ρw → (∀ x ∈ l, ∃ ρ', turn (e x) ρw = some (g x, ρ') ∧ wipe ρ' own = ρw) → acc.length + l.length ≤ line →
    ∃ ρ', compL own turn (l.map e) ρ acc = some (acc ++ l.filterMap g, ρ') ∧ wipe ρ' own = ρw
  | [], ρ, acc, hw, _, _ => ⟨ρ, by simp [compL], hw⟩
  | x :: xs, ρ, acc, hw, h, hl => by
    obtain ⟨ρ1, e1, w1⟩ := h x (List.mem_cons_self ..)
    rw [List.length_cons] at hl
    rw [List.map_cons, compL, hw, e1]
    cases hf : g x with
    | none =>
      obtain ⟨ρ2, e2, w2⟩ := compL_map e g xs ρ1 acc w1 (fun y hy => h y (List.mem_cons_of_mem _ hy)) (by omega)
      exact ⟨ρ2, by simp only [e2, List.filterMap_cons, hf], w2⟩
    | some v =>
      obtain ⟨ρ2, e2, w2⟩ := compL_map e g xs ρ1 (acc ++ [v]) w1 (fun y hy => h y (List.mem_cons_of_mem _ hy)) (by rw [List.length_append, List.length_singleton]; omega)
      refine ⟨ρ2, ?_, w2⟩
      have hlt : acc.length < line := by omega
      simp only [hlt, if_true, e2, List.filterMap_cons, hf, List.append_assoc, List.singleton_append]
theorem datas_d {α : Type} (h : α → D) : ∀ l : List α, Val.datas (l.map fun a => .d (h a)) = l.map h
  | [] => rfl
  | a :: l => by rw [List.map_cons, Val.datas, datas_d h l]; rfl
theorem bls_map {α : Type} (p : α → Bool) : ∀ l : List α, bls? (l.map fun a => D.bl (p a)) = some (l.map p)
  | [] => rfl
  | a :: l => by rw [List.map_cons, bls?, bls_map p l]; rfl
theorem strs_map {α : Type} (p : α → List Nat) : ∀ l : List α, strs? (l.map fun a => D.str (p a)) = some (l.map p)
  | [] => rfl
  | a :: l => by rw [List.map_cons, strs?, strs_map p l]; rfl
theorem filterMap_pure {α β : Type} (g : α → β) (l : List α) : l.filterMap (fun a => some (g a)) = l.map g := by
  induction l with
  | nil => rfl
  | cons a l ih => simp [List.filterMap_cons, ih]
/-- a whole comprehension over data, every turn giving something -/
theorem comp_all {α : Type} {M : Mach} {own : List Nat} {k : Ik} {src : Es} {tg : Tg} {t : T} {elt : E} {ρ ρ1 ρ2 : Env} {rs : List R} {ds : List D} (l : List α) (e : α → D) (g : α → Option Val) (h1 : evs M src ρ = some (rs, ρ1)) (h2 : srcs ρ1 rs = some (ds, ρ2)) (h3 : items k ds = some (l.map e))
    (h4 : (ownOk ρ2 own && own.all (fun i => !M.io i)) = true) (h5 : l.length ≤ line) (h6 : ∀ x ∈ l, ∃ ρa ρb b, asgT M tg (.d (e x)) (wipe ρ2 own) = some ρa ∧ evT M t ρa = some (b, ρb) ∧ (match b with
      | true => ∃ r ρc v ρd, ev M elt ρb = some (r, ρc) ∧ esc ρc r = some (v, ρd) ∧ g x = some v ∧ wipe ρd own = wipe ρ2 own
      | false => g x = none ∧ wipe ρb own = wipe ρ2 own)) :
    ev M (.comp own k src tg t elt) ρ = some (.v (.ol (l.filterMap g)), unwipe ρ2 (wipe ρ2 own) own) := by
  rw [ev, h1]
  simp only [Option.bind_some, h2, h3, h4, if_true]
  obtain ⟨ρ', e1, w1⟩ := compL_map (turn := fun x ρ' => (asgT M tg (.d x) ρ').bind fun ρ1 => (evT M t ρ1).bind fun b => match b.1 with
        | true => (ev M elt b.2).bind fun e => (esc e.2 e.1).map fun v => (some v.1, v.2)
        | false => some (none, b.2)) e g l ρ2 [] rfl (fun x hx => by
    obtain ⟨ρa, ρb, b, a1, a2, a3⟩ := h6 x hx
    cases b with
    | true =>
      obtain ⟨r, ρc, v, ρd, b1, b2, b3, b4⟩ := a3
      exact ⟨ρd, by simp only [a1, a2, Option.bind_some, b1, b2, Option.map_some, b3], b4⟩
    | false => exact ⟨ρb, by simp only [a1, a2, Option.bind_some, a3.1], a3.2⟩) (by simpa using h5)
  refine (congrArg (Option.map fun r => (R.v (.ol r.1), unwipe ρ2 (wipe r.2 own) own)) e1).trans ?_
  simp only [Option.map_some, List.nil_append, w1]
/-- a comprehension whose turns change what is around: by an invariant -/
theorem compL_inv {own : List Nat} {turn : D → Env → Option (Option Val × Env)} (I : Env → Prop) (V : Val → Prop) : ∀ (xs : List D) (ρ : Env) (acc : List Val), I (wipe ρ own) → (∀ x ∈ xs, ∀ ρ, I ρ → ∃ v ρ', turn x ρ = some (some v, ρ') ∧ I (wipe ρ' own) ∧ V v) → acc.length + xs.length ≤ line → (∀ v ∈ acc, V v) →
    ∃ vs ρ', compL own turn xs ρ acc = some (vs, ρ') ∧ I (wipe ρ' own) ∧ vs.length = acc.length + xs.length ∧ ∀ v ∈ vs, V v
  | [], ρ, acc, hw, _, _, ha => ⟨acc, ρ, by simp [compL], hw, by simp, ha⟩
  | x :: xs, ρ, acc, hw, h, hl, ha => by
    obtain ⟨v, ρ1, e1, w1, hv⟩ := h x (List.mem_cons_self ..) _ hw
    rw [List.length_cons] at hl
    obtain ⟨vs, ρ2, e2, w2, l2, v2⟩ := compL_inv I V xs ρ1 (acc ++ [v]) w1 (fun y hy => h y (List.mem_cons_of_mem _ hy)) (by rw [List.length_append, List.length_singleton]; omega) fun z hz => by
      rcases List.mem_append.mp hz with z | z
      · exact ha _ z
      · rw [List.mem_singleton.mp z]; exact hv
    refine ⟨vs, ρ2, ?_, w2, ?_, v2⟩
    · rw [compL, e1]
      have hlt : acc.length < line := by omega
      simp only [hlt, if_true, e2]
    · rw [l2, List.length_append, List.length_singleton, List.length_cons]; omega
theorem bind_some' {α β : Type} (x : α) (f : α → Option β) : (some x).bind f = f x := rfl
theorem map_some' {α β : Type} (x : α) (f : α → β) : (some x).map f = some (f x) := rfl
theorem ev_d {M : Mach} {i : Nat} {ρ : Env} {x : D} (h : ρ[i]? = some (.lo (.d x))) : ev M (.var i) ρ = some (.v (.d x), ρ) := by
  rw [ev, h]
theorem ev_o {M : Mach} {i : Nat} {ρ : Env} {xs : List Val} (h : ρ[i]? = some (.lo (.ol xs))) : ev M (.var i) ρ = some (.pk i, ρ) := by
  rw [ev, h]
theorem ev_r {M : Mach} {i : Nat} {ρ : Env} {ns : List Int} (h : ρ[i]? = some (.rd ns)) : ev M (.var i) ρ = some (.rd ns, ρ) := by
  rw [ev, h]
theorem fz_d {x : D} {ρ : Env} : fzR (.v (.d x)) ρ = ρ := rfl
theorem at0 {α : Type} {x : α} {xs : List α} : (x :: xs)[0]? = some x := rfl
theorem atS {α : Type} {x : α} {xs : List α} {i : Nat} : (x :: xs)[i + 1]? = xs[i]? := rfl
theorem ev_var_ (M : Mach) (ρ : Env) (i : Nat) : ev M (.var i) ρ = match ρ[i]? with
    | some (.lo (.d x)) => some (.v (.d x), ρ)
    | some (.lo (.ol _)) => some (.pk i, ρ)
    | some (.rd ns) => some (.rd ns, ρ)
    | _ => none := by
  rw [ev] <;> rfl
theorem ev_cst_ (M : Mach) (ρ : Env) (x : D) : ev M (.cst x) ρ = some (.v (.d x), ρ) := by
  rw [ev]
theorem ev_bin_ (M : Mach) (ρ : Env) (o : Op) (a b : E) : ev M (.bin o a b) ρ = (ev M a ρ).bind fun p => (ev M b p.2).bind fun q => (fdat q.2 p.1).bind fun x => (fdat q.2 q.1).bind fun y => (binop o x y).map fun z => (.v z, q.2) := by
  rw [ev]
theorem ev_neg_ (M : Mach) (ρ : Env) (a : E) : ev M (.neg a) ρ = (ev M a ρ).bind fun p => (dat p.2 p.1).bind fun x => match x with
    | .int i => some (.v (.d (.int (-i))), p.2)
    | _ => none := by
  rw [ev] <;> rfl
theorem ev_not_ (M : Mach) (ρ : Env) (a : E) : ev M (.not a) ρ = (ev M a ρ).bind fun p => match p.1 with
    | .v (.d (.bl b)) => some (.v (.d (.bl (!b))), p.2)
    | _ => none := by
  rw [ev] <;> rfl
theorem ev_and_ (M : Mach) (ρ : Env) (a b : E) : ev M (.and a b) ρ = (ev M a ρ).bind fun p => match p.1 with
    | .v (.d (.bl true)) => ev M b p.2
    | .v (.d (.bl false)) => some (.v (.d (.bl false)), p.2)
    | _ => none := by
  rw [ev] <;> rfl
theorem ev_or_ (M : Mach) (ρ : Env) (a b : E) : ev M (.or a b) ρ = (ev M a ρ).bind fun p => match p.1 with
    | .v (.d (.bl true)) => some (.v (.d (.bl true)), p.2)
    | .v (.d (.bl false)) => ev M b p.2
    | _ => none := by
  rw [ev] <;> rfl
theorem ev_cmp_ (M : Mach) (ρ : Env) (o : Cm) (a b : E) : ev M (.cmp o a b) ρ = (ev M a ρ).bind fun p => (ev M b p.2).bind fun q => (dat q.2 p.1).bind fun x => (dat q.2 q.1).bind fun y => (cmpop o x y).map fun z => (.v (.d (.bl z)), q.2) := by
  rw [ev]
theorem ev_chn_ (M : Mach) (ρ : Env) (o o' : Cm) (a b c : E) : ev M (.chn o o' a b c) ρ = (ev M a ρ).bind fun p => (ev M b p.2).bind fun q => (dat q.2 p.1).bind fun x => (dat q.2 q.1).bind fun y => (cmpop o x y).bind fun z =>
    match z with
    | false => some (.v (.d (.bl false)), q.2)
    | true => (ev M c q.2).bind fun r => (dat r.2 q.1).bind fun y => (dat r.2 r.1).bind fun w => (cmpop o' y w).map fun z => (.v (.d (.bl z)), r.2) := by
  rw [ev] <;> rfl
theorem ev_ite_ (M : Mach) (ρ : Env) (t : T) (a b : E) : ev M (.ite t a b) ρ = (evT M t ρ).bind fun p => match p.1 with
    | true => ev M a p.2
    | false => ev M b p.2 := by
  rw [ev] <;> rfl
theorem ev_idx_ (M : Mach) (ρ : Env) (a b : E) : ev M (.idx a b) ρ = (ev M a ρ).bind fun p => (ev M b p.2).bind fun q => (gdat q.2 p.1).bind fun x => (dat q.2 q.1).bind fun y => (index x y).map fun z => (.v (.d z), q.2) := by
  rw [ev]
theorem ev_sl_ (M : Mach) (ρ : Env) (a : E) (lo hi : Eo) : ev M (.sl a lo hi) ρ = (ev M a ρ).bind fun p => (evO M lo p.2).bind fun l => (evO M hi l.2).bind fun h => (gdat h.2 p.1).bind fun x => (slice x l.1 h.1).map fun z => (.v z, h.2) := by
  rw [ev]
theorem ev_rev_ (M : Mach) (ρ : Env) (a : E) : ev M (.rev a) ρ = (ev M a ρ).bind fun p => (fdat p.2 p.1).bind fun x => (revd x).map fun z => (.v z, p.2) := by
  rw [ev]
theorem ev_tup_ (M : Mach) (ρ : Env) (es : Es) : ev M (.tup es) ρ = (evs M es ρ).bind fun p => (escs p.2 p.1).bind fun q => if q.1.length ≤ line then some (.v (.d (.tup (Val.datas q.1))), q.2) else none := by
  rw [ev]
theorem ev_lst_ (M : Mach) (ρ : Env) (es : Es) : ev M (.lst es) ρ = (evs M es ρ).bind fun p => (escs p.2 p.1).bind fun q => if q.1.length ≤ line then some (.v (.ol q.1), q.2) else none := by
  rw [ev]
theorem ev_fz_ (M : Mach) (ρ : Env) (a : E) : ev M (.fz a) ρ = (ev M a ρ).map fun p => (p.1, fzR p.1 p.2) := by
  rw [ev]
theorem ev_isi_ (M : Mach) (ρ : Env) (a : E) (ts : List Ty) : ev M (.isi a ts) ρ = (ev M a ρ).bind fun p => (ndat p.2 p.1).map fun x => (.v (.d (.bl (ts.any (hasTy x)))), p.2) := by
  rw [ev]
theorem ev_b1_ (M : Mach) (ρ : Env) (o : B1) (a : E) : ev M (.b1 o a) ρ = (ev M a ρ).bind fun p => (bdat o p.2 p.1).bind fun x => (b1 o x).map fun z => (.v z, p.2) := by
  rw [ev]
theorem ev_met_ (M : Mach) (ρ : Env) (o : Mt) (a b : E) : ev M (.met o a b) ρ = (ev M a ρ).bind fun p => (dat p.2 p.1).bind fun x0 => if mkd o x0 then (ev M b p.2).bind fun q => (dat q.2 p.1).bind fun x => (dat q.2 q.1).bind fun y => (mt o x y).map fun z => (.v (.d z), q.2) else none := by
  conv => lhs; unfold ev
theorem ev_b2_ (M : Mach) (ρ : Env) (o : B2) (a b : E) : ev M (.b2 o a b) ρ = (ev M a ρ).bind fun p => (ev M b p.2).bind fun q => (fdat q.2 p.1).bind fun x => (fdat q.2 q.1).bind fun y => (b2 o x y).map fun z => (.v z, q.2) := by
  rw [ev]
theorem ex_set_ (M : Mach) (ρ : Env) (i : Nat) (e : E) : Pu.exec M (.set i e) ρ = (ev M e ρ).bind fun p => (mov M.io p.2 p.1).bind fun q => (asg M.io q.2 i q.1).map .nx := by
  rw [Pu.exec] <;> rfl
theorem ex_setT_ (M : Mach) (ρ : Env) (is : List Nat) (es : Es) : Pu.exec M (.setT is es) ρ = (evs M es ρ).bind fun p => (exec.movs M p.2 p.1).bind fun q => (exec.asgs M q.2 is q.1).map .nx := by
  rw [Pu.exec] <;> rfl
theorem ex_unp_ (M : Mach) (ρ : Env) (t : Tg) (e : E) : Pu.exec M (.unp t e) ρ = (ev M e ρ).bind fun p => (esc p.2 p.1).bind fun q => (asgT M t q.1 q.2).map .nx := by
  rw [Pu.exec] <;> rfl
theorem ex_aug_ (M : Mach) (ρ : Env) (i : Nat) (o : Op) (e : E) : Pu.exec M (.aug i o e) ρ = match getS ρ i with
    | some (.d x) => (ev M e ρ).bind fun p => (dat p.2 p.1).bind fun y => (augop o x y).bind fun z => (asg M.io p.2 i (.d z)).map .nx
    | _ => none := by
  rw [Pu.exec] <;> rfl
theorem ex_app_ (M : Mach) (ρ : Env) (i : Nat) (e : E) : Pu.exec M (.app i e) ρ = if isOl ρ i then (ev M e ρ).bind fun p => (esc p.2 p.1).bind fun q => match getS q.2 i with
    | some (.ol xs) => if xs.length < line then some (.nx (putS q.2 i (.ol (xs ++ [q.1])))) else none
    | _ => none
    else none := by
  rw [Pu.exec] <;> rfl
theorem ex_ext_ (M : Mach) (ρ : Env) (i : Nat) (e : E) : Pu.exec M (.ext i e) ρ = if isOl ρ i then (ev M e ρ).bind fun p => (fdat p.2 p.1).bind fun y => match y, getS p.2 i with
    | .lst ys, some (.ol xs) => if xs.length + ys.length ≤ line then some (.nx (putS p.2 i (.ol (xs ++ ys.map .d)))) else none
    | _, _ => none
    else none := by
  rw [Pu.exec] <;> rfl
theorem ex_ex_ (M : Mach) (ρ : Env) (e : E) : Pu.exec M (.ex e) ρ = (ev M e ρ).map fun p => .nx p.2 := by
  rw [Pu.exec] <;> rfl
theorem ex_ite_ (M : Mach) (ρ : Env) (t : T) (a b : S) : Pu.exec M (.ite t a b) ρ = (evT M t ρ).bind fun p => match p.1 with
    | true => Pu.exec M a p.2
    | false => Pu.exec M b p.2 := by
  rw [Pu.exec] <;> rfl
theorem ex_ret_ (M : Mach) (ρ : Env) (e : E) : Pu.exec M (.ret e) ρ = (ev M e ρ).bind fun p => (mov M.io p.2 p.1).map fun q => .rt q.1 q.2 := by
  rw [Pu.exec] <;> rfl
theorem ex_retN_ (M : Mach) (ρ : Env)  : Pu.exec M .retN ρ = some (.rt (.d .non) ρ) := by
  rw [Pu.exec] <;> rfl
theorem ex_pass_ (M : Mach) (ρ : Env)  : Pu.exec M .pass ρ = some (.nx ρ) := by
  rw [Pu.exec] <;> rfl
theorem ex_brk_ (M : Mach) (ρ : Env)  : Pu.exec M .brk ρ = some (.bk ρ) := by
  rw [Pu.exec] <;> rfl
theorem ex_cont_ (M : Mach) (ρ : Env)  : Pu.exec M .cont ρ = some (.ct ρ) := by
  rw [Pu.exec] <;> rfl
theorem ex_seq_ (M : Mach) (ρ : Env) (a b : S) : Pu.exec M (.seq a b) ρ = (Pu.exec M a ρ).bind fun o => match o with
    | .nx ρ' => Pu.exec M b ρ'
    | o => some o := by
  rw [Pu.exec] <;> rfl
theorem asgT_nm (M : Mach) (i : Nat) (v : Val) (ρ : Env) : asgT M (.nm i) v ρ = asg M.io ρ i v := by rw [asgT]
theorem asgT_tp (M : Mach) (ts : Tgs) (xs : List D) (ρ : Env) : asgT M (.tp ts) (.d (.tup xs)) ρ = asgTs M ts xs ρ := by rw [asgT]
theorem asgTs_nil (M : Mach) (ρ : Env) : asgTs M .nil [] ρ = some ρ := by rw [asgTs]
theorem asgTs_cons (M : Mach) (t : Tg) (ts : Tgs) (x : D) (xs : List D) (ρ : Env) : asgTs M (.cons t ts) (x :: xs) ρ = (asgT M t (.d x) ρ).bind fun ρ' => asgTs M ts xs ρ' := by rw [asgTs]
/-- the machine of a function's body at a level -/
abbrev Mm (F : Nat → Option Fd) (k : Nat) (d : Fd) : Mach := ⟨flags F, callK F k, fun j => d.fl.getD j false⟩
/-- a call of one's own function, one level down -/
theorem callK_rt {F : Nat → Option Fd} {k f : Nat} {d : Fd} {args : List Slot} {v : Val} {ρ : Env} (hF : F f = some d) (ha : args.length = d.np) (he : Pu.exec (Mm F k d) d.body (args ++ List.replicate (d.n - d.np) .un) = some (.rt v ρ)) : callK F (k + 1) f args = some (v, ρ.take d.np) := by
  rw [callK, hF]
  simp only [ha, if_true, he]
theorem callK_nx {F : Nat → Option Fd} {k f : Nat} {d : Fd} {args : List Slot} {ρ : Env} (hF : F f = some d) (ha : args.length = d.np) (he : Pu.exec (Mm F k d) d.body (args ++ List.replicate (d.n - d.np) .un) = some (.nx ρ)) : callK F (k + 1) f args = some (.d .non, ρ.take d.np) := by
  rw [callK, hF]
  simp only [ha, if_true, he]
/-- a call's answer, what became of its parameters not told -/
def Gv (F : Nat → Option Fd) (k f : Nat) (args : List Slot) (v : Val) : Prop := ∃ o, callK F k f args = some (v, o) ∧ o.length = args.length
theorem gv_rt {F : Nat → Option Fd} {k f : Nat} {d : Fd} {args : List Slot} {v : Val} (hF : F f = some d) (ha : args.length = d.np) (he : ∃ ρ, Pu.exec (Mm F k d) d.body (args ++ List.replicate (d.n - d.np) .un) = some (.rt v ρ) ∧ d.np ≤ ρ.length) : Gv F (k + 1) f args v := by
  obtain ⟨ρ, he, hl⟩ := he
  exact ⟨_, callK_rt hF ha he, by rw [List.length_take, ha]; omega⟩
theorem gv_nx {F : Nat → Option Fd} {k f : Nat} {d : Fd} {args : List Slot} (hF : F f = some d) (ha : args.length = d.np) (he : ∃ ρ, Pu.exec (Mm F k d) d.body (args ++ List.replicate (d.n - d.np) .un) = some (.nx ρ) ∧ d.np ≤ ρ.length) : Gv F (k + 1) f args (.d .non) := by
  obtain ⟨ρ, he, hl⟩ := he
  exact ⟨_, callK_nx hF ha he, by rw [List.length_take, ha]; omega⟩
theorem hand_all {ρ : Env} : ∀ {xs : List D} {fl : List Bool}, xs.length ≤ fl.length → handAll ρ fl (xs.map fun x => .v (.d x)) = some (⟨xs.map fun x => .lo (.d x), xs.map fun _ => none⟩, ρ)
  | [], fl, _ => by cases fl <;> rfl
  | x :: xs, fl :: fls, h => by
    rw [List.map_cons, handAll]
    simp only [hand, Option.bind_some, hand_all (xs := xs) (fl := fls) (by simpa using h), Option.map_some, List.map_cons]
theorem back_none {ρ : Env} : ∀ {xs : List D} {o : List Slot}, o.length = xs.length → back ρ (xs.map fun _ => none) o = some ρ
  | [], [], _ => rfl
  | x :: xs, s :: o, h => by
    rw [List.map_cons]
    have e : back ρ (none :: xs.map fun _ => none) (s :: o) = back ρ (xs.map fun _ => none) o := by cases s <;> rfl
    rw [e]
    exact back_none (by simpa using h)
/-- a call on plain data -/
theorem ev_call {M : Mach} {f : Nat} {as : Es} {ρ ρ' : Env} {xs : List D} {v : Val} {o : List Slot} (h1 : evs M as ρ = some (xs.map fun x => .v (.d x), ρ')) (h2 : M.C f (xs.map fun x => .lo (.d x)) = some (v, o)) (h3 : o.length = (xs.map fun x => Slot.lo (.d x)).length) (h4 : xs.length ≤ (M.fl f).length) :
    ev M (.call f as []) ρ = some (.v v, ρ') := by
  rw [ev, h1]
  simp only [Option.bind_some, List.map_nil, List.append_nil, callR, hand_all h4, h2]
  split
  · rfl
  · rw [List.length_map] at h3
    simp only [back_none h3, Option.map_some]
theorem io_no {F : Nat → Option Fd} {k : Nat} {d : Fd} (h : d.fl.all (fun b => !b) = true) (j : Nat) : (Mm F k d).io j = false := by
  show d.fl.getD j false = false
  rw [List.getD_eq_getElem?_getD]
  cases e : d.fl[j]? with
  | none => rfl
  | some b =>
    have := List.all_eq_true.mp h b (List.mem_of_getElem? e)
    cases b with
    | false => rfl
    | true => cases this
theorem asg_of {io : Nat → Bool} {ρ : Env} {i : Nat} {v : Val} (h : io i = false) (hl : i < ρ.length) : asg io ρ i v = some (ρ.set i (.lo v)) := if_pos ⟨h, hl⟩
theorem ev_gv {F : Nat → Option Fd} {k f : Nat} {d : Fd} {as : Es} {ρ ρ' : Env} (xs : List D) {v : Val} (h1 : evs (Mm F k d) as ρ = some (xs.map fun x => .v (.d x), ρ')) (h2 : Gv F k f (xs.map fun x => .lo (.d x)) v) (h4 : xs.length ≤ (flags F f).length) : ev (Mm F k d) (.call f as []) ρ = some (.v v, ρ') := by
  obtain ⟨o, e, hl⟩ := h2
  exact ev_call (M := Mm F k d) h1 e hl h4
theorem forL_find {α : Type} {asgn : D → Env → Option Env} {body : Env → Option Out} (e : α → D) (p : α → Bool) (r : α → Val) (I : Env → Prop) : ∀ (l : List α) (ρ : Env), I ρ → (∀ a ∈ l, ∀ ρ, I ρ → ∃ ρ1 ρ2, asgn (e a) ρ = some ρ1 ∧ I ρ2 ∧ body ρ1 = some (match p a with | true => .rt (r a) ρ2 | false => .nx ρ2)) →
    ∃ ρ', I ρ' ∧ forL asgn body (l.map e) ρ = some (match l.find? p with | some a => .rt (r a) ρ' | none => .nx ρ')
  | [], ρ, h, _ => ⟨ρ, h, rfl⟩
  | a :: l, ρ, h, st => by
    obtain ⟨ρ1, ρ2, e1, i2, e2⟩ := st a (List.mem_cons_self ..) ρ h
    rw [List.map_cons, forL, e1]
    simp only [e2]
    cases hp : p a with
    | true => exact ⟨ρ2, i2, by simp [List.find?_cons, hp]⟩
    | false =>
      obtain ⟨ρ', i', e'⟩ := forL_find e p r I l ρ2 i2 fun b hb => st b (List.mem_cons_of_mem _ hb)
      refine ⟨ρ', i', ?_⟩
      simp only [e', List.find?_cons, hp]
theorem walked_rng1 {n : Nat} (h : n < 2 ^ 62) : items .rng1 [.int (n : Int)] = some ((List.range n).map fun i => .int ((0 : Int) + (i : Int))) := by
  have e : ends62 (n : Int) = true := by unfold ends62; simp; omega
  show (if ends62 (n : Int) = true then some (ranged 0 n) else none) = _
  rw [if_pos e]
  unfold ranged
  rw [show ((n : Int) - 0).toNat = n by omega]
theorem walked_rng2 {a n : Nat} (h : n < 2 ^ 62) (ha : a < 2 ^ 62) : items .rng2 [.int (a : Int), .int (n : Int)] = some ((List.range (n - a)).map fun i => .int ((a : Int) + (i : Int))) := by
  have e : (ends62 (a : Int) && ends62 (n : Int)) = true := by unfold ends62; simp; omega
  show (if (ends62 (a : Int) && ends62 (n : Int)) = true then some (ranged a n) else none) = _
  rw [if_pos e]
  unfold ranged
  rw [show ((n : Int) - a).toNat = n - a by omega]
theorem ex_for {M : Mach} {k : Ik} {src : Es} {tg : Tg} {b : S} {ρ ρ1 ρ2 : Env} {rs : List R} {ds xs : List D} {o : Out} (h1 : evs M src ρ = some (rs, ρ1)) (h2 : srcs ρ1 rs = some (ds, ρ2)) (h3 : items k ds = some xs) (h4 : forL (fun x ρ' => asgT M tg (.d x) ρ') (Pu.exec M b) xs ρ2 = some o) : Pu.exec M (.for_ k src tg b) ρ = some o := by
  rw [Pu.exec, h1]
  simp only [Option.bind_some, h2, h3]
  exact h4
theorem join_b2 {s : List Nat} {xs : List D} {ss : List (List Nat)} (h : strs? xs = some ss) (hl : (ss.map List.length).sum + ss.length * s.length ≤ line) : b2 .join (.str s) (.lst xs) = some (.d (.str (joinL s ss))) := by
  show (strs? xs).bind _ = _
  rw [h]
  exact if_pos hl
theorem seq_of {M : Mach} {a b : S} {ρ ρ1 : Env} {o : Out} (h1 : Pu.exec M a ρ = some (.nx ρ1)) (h2 : Pu.exec M b ρ1 = some o) : Pu.exec M (.seq a b) ρ = some o := by
  rw [Pu.exec, h1]
  exact h2
theorem lay_ints : ∀ l : List Int, PySem.PyData.canLayAll0 (toPys (l.map .int)) = true ∧ PySem.PyData.depthAll (toPys (l.map .int)) = 0
  | [] => ⟨rfl, rfl⟩
  | i :: l => by
    obtain ⟨h1, h2⟩ := lay_ints l
    refine ⟨?_, ?_⟩
    · show (PySem.PyData.canLay0 (.int i) && PySem.PyData.canLayAll0 (toPys (l.map .int))) = true
      rw [h1]; rfl
    · show max (PySem.PyData.depth (.int i)) (PySem.PyData.depthAll (toPys (l.map .int))) = 0
      rw [h2]; rfl
theorem ne_nil (l : List Int) : cmpop .ne (.lst (l.map .int)) (.lst []) = some (!l.isEmpty) := by
  have e : cmpop .ne (.lst (l.map .int)) (.lst []) = if (D.ok (.lst (l.map .int)) && D.ok (.lst [])) = true then some (!D.eqv (.lst (l.map .int)) (.lst [])) else none := rfl
  have o1 : D.ok (.lst (l.map .int)) = (PySem.PyData.canLayAll0 (toPys (l.map .int)) && decide (PySem.PyData.depthAll (toPys (l.map .int)) + 1 ≤ 64)) := rfl
  have o2 : D.ok (.lst []) = true := by decide
  have e2 : D.eqv (.lst (l.map .int)) (.lst []) = l.isEmpty := by cases l <;> rfl
  rw [e, o1, o2, (lay_ints l).1, (lay_ints l).2, e2]
  rfl
theorem pickL_map {α β : Type} (g : α → β) (xs : List α) : ∀ perm : List Nat, pickL perm (xs.map g) = (pickL perm xs).map g
  | [] => rfl
  | k :: perm => by
    have ih := pickL_map g xs perm
    unfold pickL at ih ⊢
    rw [List.filterMap_cons, List.filterMap_cons, List.getElem?_map]
    cases xs[k]? with
    | none => exact ih
    | some x => simp only [Option.map_some, List.map_cons, ih]
theorem notOl_d (xs : List D) : (xs.map fun x => R.v (.d x)).all notOl = true := by
  induction xs with
  | nil => rfl
  | cons x xs ih => rw [List.map_cons, List.all_cons, ih]; rfl
/-- a call by keywords on plain data -/
theorem ev_gvk {F : Nat → Option Fd} {k f : Nat} {d : Fd} {as kas : Es} {perm : List Nat} {ρ ρ1 ρ2 : Env} (xs ys zs : List D) {v : Val} (h1 : evs (Mm F k d) as ρ = some (xs.map fun x => .v (.d x), ρ1)) (h2 : evs (Mm F k d) kas ρ1 = some (ys.map fun x => .v (.d x), ρ2)) (hp : pickL perm (xs ++ ys) = zs)
    (h3 : Gv F k f (zs.map fun x => .lo (.d x)) v) (h4 : zs.length ≤ (flags F f).length) : ev (Mm F k d) (.callk f as kas perm) ρ = some (.v v, ρ2) := by
  obtain ⟨o, e, hl⟩ := h3
  have hpr : pickR perm ((xs.map fun x => R.v (.d x)) ++ (ys.map fun x => R.v (.d x))) = some (zs.map fun x => R.v (.d x)) := by
    unfold pickR
    rw [← List.map_append, notOl_d, pickL_map, hp]; rfl
  rw [ev, h1]
  simp only [Option.bind_some, h2, hpr, callR, hand_all h4, e]
  split
  · rfl
  · rw [List.length_map] at hl
    simp only [back_none hl, Option.map_some]
end Pu

set_option Elab.async false
set_option maxRecDepth 100000
set_option maxHeartbeats 2000000
/-! Each once: plain facts. -/
namespace Pu
mutual
theorem same_iff : ∀ {x y : D}, D.same x y = true ↔ x = y
  | .non, y => by cases y <;> simp [D.same]
  | .bl a, y => by cases y <;> simp [D.same]
  | .int i, y => by cases y <;> simp [D.same]
  | .str s, y => by cases y <;> simp [D.same]
  | .lst xs, y => by
    cases y with
    | lst ys => rw [D.same, sames_iff]; simp
    | _ => simp [D.same]
  | .tup xs, y => by
    cases y with
    | tup ys => rw [D.same, sames_iff]; simp
    | _ => simp [D.same]
theorem sames_iff : ∀ {xs ys : List D}, D.sames xs ys = true ↔ xs = ys
  | [], ys => by cases ys <;> simp [D.sames]
  | x :: xs, ys => by
    cases ys with
    | nil => simp [D.sames]
    | cons y ys => rw [D.sames, Bool.and_eq_true, same_iff, sames_iff]; simp
end
theorem mem_dd {y : D} : ∀ {xs : List D}, y ∈ dd xs ↔ y ∈ xs
  | [] => by simp [dd]
  | x :: xs => by
    rw [dd, List.mem_cons, List.mem_cons, List.mem_filter, mem_dd, Bool.not_eq_true', ← Bool.not_eq_true, same_iff]
    constructor
    · rintro (h | ⟨h, _⟩)
      · exact .inl h
      · exact .inr h
    · rintro (h | h)
      · exact .inl h
      · by_cases e : y = x
        · exact .inl e
        · exact .inr ⟨h, fun q => e q.symm⟩
theorem nodup_dd : ∀ xs : List D, (dd xs).Nodup
  | [] => List.nodup_nil
  | x :: xs => by
    rw [dd, List.nodup_cons]
    refine ⟨fun h => ?_, (nodup_dd xs).sublist List.filter_sublist⟩
    have := (List.mem_filter.mp h).2
    rw [Bool.not_eq_true', ← Bool.not_eq_true, same_iff] at this
    exact this rfl
theorem dd_len : ∀ xs : List D, (dd xs).length ≤ xs.length
  | [] => Nat.le_refl _
  | x :: xs => by
    rw [dd, List.length_cons, List.length_cons]
    exact Nat.succ_le_succ (Nat.le_trans (List.length_filter_le _ _) (dd_len xs))
/-- each once, of anything -/
def du {α : Type} [DecidableEq α] : List α → List α
  | [] => []
  | x :: xs => x :: (du xs).filter fun y => !decide (x = y)
theorem mem_du {α : Type} [DecidableEq α] {y : α} : ∀ {xs : List α}, y ∈ du xs ↔ y ∈ xs
  | [] => by simp [du]
  | x :: xs => by
    rw [du, List.mem_cons, List.mem_cons, List.mem_filter, mem_du]
    constructor
    · rintro (h | ⟨h, _⟩)
      · exact .inl h
      · exact .inr h
    · rintro (h | h)
      · exact .inl h
      · by_cases e : y = x
        · exact .inl e
        · exact .inr ⟨h, by rw [decide_eq_false (fun q => e q.symm)]; rfl⟩
theorem nodup_du {α : Type} [DecidableEq α] : ∀ xs : List α, (du xs).Nodup
  | [] => List.nodup_nil
  | x :: xs => by
    rw [du, List.nodup_cons]
    refine ⟨fun h => ?_, (nodup_du xs).sublist List.filter_sublist⟩
    have := (List.mem_filter.mp h).2
    rw [decide_eq_true (rfl : x = x)] at this
    cases this
theorem du_len {α : Type} [DecidableEq α] : ∀ xs : List α, (du xs).length ≤ xs.length
  | [] => Nat.le_refl _
  | x :: xs => by
    rw [du, List.length_cons, List.length_cons]
    exact Nat.succ_le_succ (Nat.le_trans (List.length_filter_le _ _) (du_len xs))
theorem dd_map {α : Type} [DecidableEq α] {f : α → D} (hf : ∀ x y, f x = f y → x = y) : ∀ xs : List α, dd (xs.map f) = (du xs).map f
  | [] => rfl
  | x :: xs => by
    rw [List.map_cons, dd, dd_map hf xs, du, List.map_cons, List.filter_map]
    congr 2
    refine List.filter_congr fun y _ => ?_
    show (!D.same (f x) (f y)) = !decide (x = y)
    congr 1
    by_cases h : x = y
    · rw [decide_eq_true h, h]; exact same_iff.mpr rfl
    · rw [decide_eq_false h, ← Bool.not_eq_true, same_iff]
      exact fun q => h (hf _ _ q)
theorem dle_int (x y : Int) : dle (.int x) (.int y) = decide (x ≤ y) := congrFun (congrFun (PySem.W.dataLe_int (fun i : Int => i)) x) y
theorem dle_str (x y : List Nat) : dle (.str x) (.str y) = decide (x ≤ y) := by
  have := congrFun (congrFun (PySem.W.dataLe_str (fun i : List Nat => mkS i)) x) y
  show PySem.W.dataLe false (fun b => PySem.PyData.str (mkS b)) x y = _
  rw [this]
  exact decide_eq_decide.mpr (by simp [mkS])
end Pu

set_option Elab.async false
set_option maxRecDepth 100000
set_option maxHeartbeats 2000000
/-! A program's reading run forward: what holds of an answer. -/
namespace Pu
namespace P
/-- there is an answer, and it is so -/
def P1 {α : Type} (x : Option α) (Q : α → Prop) : Prop := ∃ a, x = some a ∧ Q a
def P2 {α β : Type} (x : Option (α × β)) (Q : α → β → Prop) : Prop := ∃ a b, x = some (a, b) ∧ Q a b
/-- a branch -/
def PIf (b : Bool) (A B : Prop) : Prop := match b with
  | true => A
  | false => B
theorem if_true' {A B : Prop} : PIf true A B = A := rfl
theorem if_false' {A B : Prop} : PIf false A B = B := rfl
theorem wif {b : Bool} {A B : Prop} (h1 : b = true → A) (h2 : b = false → B) : PIf b A B := by
  cases b with
  | true => exact h1 rfl
  | false => exact h2 rfl
theorem wifd {p : Prop} [Decidable p] {A B : Prop} (h1 : p → A) (h2 : ¬p → B) : PIf (decide p) A B := wif (fun h => h1 (of_decide_eq_true h)) fun h => h2 (of_decide_eq_false h)
theorem wifn {p : Prop} [Decidable p] {A B : Prop} (h1 : ¬p → A) (h2 : p → B) : PIf (!decide p) A B := wif (fun h => h1 (by simpa using h)) fun h => h2 (by simpa using h)
section
variable {α β γ : Type}
theorem ok1_some {a : α} {Q : α → Prop} : P1 (some a) Q = Q a := by simp [P1]
theorem ok2_some {a : α} {b : β} {Q : α → β → Prop} : P2 (some (a, b)) Q = Q a b := by
  apply propext
  constructor
  · rintro ⟨a', b', h, q⟩
    cases h
    exact q
  · exact fun q => ⟨a, b, rfl, q⟩
theorem ok1_none {Q : α → Prop} : P1 none Q = False := by simp [P1]
theorem ok2_none {Q : α → β → Prop} : P2 none Q = False := by simp [P2]
theorem ok1_bind {x : Option γ} {f : γ → Option α} {Q : α → Prop} : P1 (x.bind f) Q = P1 x fun c => P1 (f c) Q := by
  cases x <;> simp [P1]
theorem ok2_bind {x : Option γ} {f : γ → Option (α × β)} {Q : α → β → Prop} : P2 (x.bind f) Q = P1 x fun c => P2 (f c) Q := by
  cases x <;> simp [P1, P2]
theorem ok1_map {x : Option γ} {f : γ → α} {Q : α → Prop} : P1 (x.map f) Q = P1 x fun c => Q (f c) := by
  cases x <;> simp [P1]
theorem ok1_p {x : Option (α × β)} {Q : α × β → Prop} : P1 x Q = P2 x fun a b => Q (a, b) := by
  unfold P1 P2
  apply propext
  constructor
  · rintro ⟨⟨a, b⟩, h, q⟩; exact ⟨a, b, h, q⟩
  · rintro ⟨a, b, h, q⟩; exact ⟨(a, b), h, q⟩
theorem ok2_map {x : Option γ} {f : γ → α × β} {Q : α → β → Prop} : P2 (x.map f) Q = P1 x fun c => Q (f c).1 (f c).2 := by
  cases x with
  | none => simp [P1, P2]
  | some c =>
    simp only [Option.map_some, P1, P2]
    apply propext
    constructor
    · rintro ⟨a, b, h, q⟩
      rw [Option.some.injEq] at h
      exact ⟨c, rfl, by rw [h]; exact q⟩
    · rintro ⟨c', h, q⟩
      cases h
      exact ⟨_, _, rfl, q⟩
theorem ok1_if {p : Prop} [Decidable p] {x : Option α} {Q : α → Prop} : P1 (if p then x else none) Q = (p ∧ P1 x Q) := by
  by_cases h : p <;> simp [h, P1]
theorem ok2_if {p : Prop} [Decidable p] {x : Option (α × β)} {Q : α → β → Prop} : P2 (if p then x else none) Q = (p ∧ P2 x Q) := by
  by_cases h : p <;> simp [h, P2]
theorem ok1_mono {x : Option α} {Q R : α → Prop} (h : P1 x Q) (q : ∀ a, Q a → R a) : P1 x R := by
  obtain ⟨a, e, h⟩ := h
  exact ⟨a, e, q a h⟩
theorem ok2_mono {x : Option (α × β)} {Q R : α → β → Prop} (h : P2 x Q) (q : ∀ a b, Q a b → R a b) : P2 x R := by
  obtain ⟨a, b, e, h⟩ := h
  exact ⟨a, b, e, q a b h⟩
end
/-- what stands in a slot -/
def PSl (s : Option Slot) (i : Nat) (ρ : Env) (Q : R → Env → Prop) : Prop := match s with
  | some (.lo (.d x)) => Q (.v (.d x)) ρ
  | some (.lo (.ol _)) => Q (.pk i) ρ
  | some (.rd ns) => Q (.rd ns) ρ
  | _ => False
def PLo (s : Option Slot) (Q : Val → Prop) : Prop := match s with
  | some (.lo v) => Q v
  | _ => False
section
variable {ρ : Env} {i : Nat} {x : D} {xs : List Val} {ns : List Int} {v : Val} {Q : R → Env → Prop} {Q1 : Val → Prop}
theorem okSl_d : PSl (some (.lo (.d x))) i ρ Q = Q (.v (.d x)) ρ := rfl
theorem okSl_ol : PSl (some (.lo (.ol xs))) i ρ Q = Q (.pk i) ρ := rfl
theorem okSl_rd : PSl (some (.rd ns)) i ρ Q = Q (.rd ns) ρ := rfl
theorem okLo_lo : PLo (some (.lo v)) Q1 = Q1 v := rfl
end
theorem okLo_getS {ρ : Env} {i : Nat} {Q : Val → Prop} : P1 (getS ρ i) Q = PLo ρ[i]? Q := by
  unfold getS
  cases e : ρ[i]? with
  | none => simp [P1, PLo]
  | some s => cases s <;> simp [P1, PLo]
/-! ### looking at values -/
section
variable {ρ : Env} {i : Nat} {x : D} {xs : List Val} {ns : List Int} {v : Val} {Q : D → Prop} {io : Nat → Bool} {Q2 : Val → Env → Prop} {Q3 : D → Env → Prop}
theorem ok_dat_d : P1 (dat ρ (.v (.d x))) Q = Q x := ok1_some
theorem ok_dat_ol : P1 (dat ρ (.v (.ol xs))) Q = Q (.lst (Val.datas xs)) := ok1_some
theorem ok_dat_pk : P1 (dat ρ (.pk i)) Q = PLo ρ[i]? fun v => Q v.data := by
  show P1 ((getS ρ i).map Val.data) Q = _
  rw [ok1_map, okLo_getS]
theorem ok_dat_rd : P1 (dat ρ (.rd ns)) Q = Q (.lst (ns.map .int)) := ok1_some
theorem ok_fdat_d : P1 (fdat ρ (.v (.d x))) Q = Q x := ok1_some
theorem ok_fdat_ol : P1 (fdat ρ (.v (.ol xs))) Q = Q (.lst (Val.datas xs)) := ok1_some
theorem ok_fdat_pk : P1 (fdat ρ (.pk i)) Q = PLo ρ[i]? fun v => v.flat = true ∧ Q v.data := by
  have e : fdat ρ (.pk i) = (getS ρ i).bind fun v => if v.flat then some v.data else none := by
    show (match getS ρ i with | some v => if v.flat then some v.data else none | none => none) = _
    cases getS ρ i <;> rfl
  rw [e, ok1_bind, okLo_getS]
  congr 1
  funext v
  rw [ok1_if, ok1_some]
theorem ok_gdat_d : P1 (gdat ρ (.v (.d x))) Q = Q x := ok1_some
theorem ok_gdat_ol : P1 (gdat ρ (.v (.ol xs))) Q = Q (.lst (Val.datas xs)) := ok1_some
theorem ok_gdat_pk : P1 (gdat ρ (.pk i)) Q = PLo ρ[i]? fun v => v.flat = true ∧ Q v.data := ok_fdat_pk
theorem ok_gdat_rd : P1 (gdat ρ (.rd ns)) Q = Q (.lst (ns.map .int)) := ok1_some
theorem ok_ndat_d : P1 (ndat ρ (.v (.d x))) Q = Q x := ok1_some
theorem ok_ndat_ol : P1 (ndat ρ (.v (.ol xs))) Q = Q (.lst (Val.datas xs)) := ok1_some
theorem ok_ndat_pk : P1 (ndat ρ (.pk i)) Q = PLo ρ[i]? fun v => Q v.data := ok_dat_pk
theorem ok_esc_v : P2 (esc ρ (.v v)) Q2 = Q2 v ρ := ok2_some
theorem ok_esc_pk : P2 (esc ρ (.pk i)) Q2 = PLo ρ[i]? fun v => Q2 (.d v.data) (ρ.set i (.lo (.d v.data))) := by
  have e : esc ρ (.pk i) = (getS ρ i).map fun (v : Val) => (Val.d v.data, putS ρ i (Val.d v.data)) := by
    unfold esc; dsimp only
    cases getS ρ i <;> rfl
  rw [e, ok2_map, okLo_getS]; rfl
theorem ok_mov_v : P2 (mov io ρ (.v v)) Q2 = Q2 v ρ := ok2_some
theorem ok_mov_pk : P2 (mov io ρ (.pk i)) Q2 = PLo ρ[i]? fun v => PIf (io i) (Q2 (.d v.data) (ρ.set i (.lo (.d v.data)))) (Q2 v (ρ.set i .un)) := by
  have e : mov io ρ (.pk i) = (getS ρ i).bind fun v => if io i then some (Val.d v.data, putS ρ i (.d v.data)) else some (v, ρ.set i .un) := by
    unfold mov; dsimp only
    cases getS ρ i <;> rfl
  rw [e, ok2_bind, okLo_getS]
  congr 1
  funext v
  cases io i with
  | true => simp only [if_true, ok2_some, if_true']; rfl
  | false => simp only [Bool.false_eq_true, if_false, ok2_some, if_false']
theorem ok_srcD_d : P2 (srcD ρ (.v (.d x))) Q3 = Q3 x ρ := ok2_some
theorem ok_srcD_ol : P2 (srcD ρ (.v (.ol xs))) Q3 = Q3 (.lst (Val.datas xs)) ρ := ok2_some
theorem ok_srcD_pk : P2 (srcD ρ (.pk i)) Q3 = PLo ρ[i]? fun v => Q3 v.data (ρ.set i (.lo (.d v.data))) := by
  show P2 ((esc ρ (.pk i)).map fun p => (p.1.data, p.2)) Q3 = _
  rw [ok2_map, ok1_p, ok_esc_pk]; rfl
theorem ok_srcD_rd : P2 (srcD ρ (.rd ns)) Q3 = Q3 (.lst (ns.map .int)) ρ := ok2_some
theorem ok_asg {i : Nat} {v : Val} {Q : Env → Prop} : P1 (asg io ρ i v) Q = (io i = false ∧ i < ρ.length ∧ Q (ρ.set i (.lo v))) := by
  show P1 (if _ then _ else _) Q = _
  rw [ok1_if, ok1_some, and_assoc]
end
section
variable {ρ : Env} {r : R} {rs : List R} {Q : List D → Env → Prop} {Qv : List Val → Env → Prop}
theorem ok_srcs_nil : P2 (srcs ρ []) Q = Q [] ρ := ok2_some
theorem ok_srcs_cons : P2 (srcs ρ (r :: rs)) Q = P2 (srcD ρ r) fun d ρ1 => P2 (srcs ρ1 rs) fun ds ρ2 => Q (d :: ds) ρ2 := by
  rw [srcs, ok2_bind, ok1_p]
  simp only [ok2_map, ok1_p]
theorem ok_escs_nil : P2 (escs ρ []) Qv = Qv [] ρ := ok2_some
theorem ok_escs_cons : P2 (escs ρ (r :: rs)) Qv = P2 (esc ρ r) fun d ρ1 => P2 (escs ρ1 rs) fun ds ρ2 => Qv (d :: ds) ρ2 := by
  rw [escs, ok2_bind, ok1_p]
  simp only [ok2_map, ok1_p]
end
/-! ### the machine of a body -/
def Mk (F : Nat → Option Fd) (k : Nat) (fl : List Bool) : Mach := ⟨flags F, callK F k, fun j => fl.getD j false⟩
theorem mk_io {F : Nat → Option Fd} {k : Nat} {fl : List Bool} {i : Nat} : (Mk F k fl).io i = fl.getD i false := rfl
section
variable {M : Mach} {ρ : Env} {i j : Nat} {a b c : E} {t u : T} {as es : Es} {Q : R → Env → Prop} {x : D} {o : Op} {q q' : Cm}
theorem we_var : P2 (ev M (.var i) ρ) Q = PSl ρ[i]? i ρ Q := by
  rw [ev_var_]
  cases e : ρ[i]? with
  | none => simp [ok2_some, ok2_none, PSl]
  | some s => cases s with
    | un => simp [ok2_some, ok2_none, PSl]
    | lo v => cases v <;> simp [ok2_some, ok2_none, PSl]
    | rd ns => simp [ok2_some, ok2_none, PSl]
theorem we_cst : P2 (ev M (.cst x) ρ) Q = Q (.v (.d x)) ρ := by rw [ev_cst_, ok2_some]
theorem we_bin : P2 (ev M (.bin o a b) ρ) Q = P2 (ev M a ρ) fun r ρ1 => P2 (ev M b ρ1) fun s ρ2 => P1 (fdat ρ2 r) fun x => P1 (fdat ρ2 s) fun y => P1 (binop o x y) fun z => Q (.v z) ρ2 := by
  rw [ev_bin_]; simp only [ok2_bind, ok1_p, ok2_map]
/-- minus -/
def wneg (Q : D → Prop) : D → Prop
  | .int i => Q (.int (-i))
  | _ => False
theorem wneg_int {Q : D → Prop} {i : Int} : wneg Q (.int i) = Q (.int (-i)) := rfl
theorem we_neg : P2 (ev M (.neg a) ρ) Q = P2 (ev M a ρ) fun r ρ1 => P1 (dat ρ1 r) fun x => wneg (fun z => Q (.v (.d z)) ρ1) x := by
  rw [ev_neg_]; simp only [ok2_bind, ok1_p]
  congr 1; funext r ρ1; congr 1; funext x
  cases x <;> simp [ok2_some, ok2_none, wneg]
def wbool (A B : Prop) (Q : Bool → Prop) : R → Prop
  | .v (.d (.bl b)) => Q b
  | _ => False
def wbl (Q : Bool → Prop) : R → Prop
  | .v (.d (.bl b)) => Q b
  | _ => False
theorem wbl_bl {Q : Bool → Prop} {b : Bool} : wbl Q (.v (.d (.bl b))) = Q b := rfl
theorem we_not : P2 (ev M (.not a) ρ) Q = P2 (ev M a ρ) fun r ρ1 => wbl (fun b => Q (.v (.d (.bl (!b)))) ρ1) r := by
  rw [ev_not_]; simp only [ok2_bind, ok1_p]
  congr 1; funext r ρ1
  rcases r with (_ | _ | _ | _ | _ | _) | _ | _ <;> try simp [ok2_some, ok2_none, wbl]
  rename_i x; cases x <;> simp [ok2_some, ok2_none, wbl]
theorem we_and : P2 (ev M (.and a b) ρ) Q = P2 (ev M a ρ) fun r ρ1 => wbl (fun z => PIf z (P2 (ev M b ρ1) Q) (Q (.v (.d (.bl false))) ρ1)) r := by
  rw [ev_and_]; simp only [ok2_bind, ok1_p]
  congr 1; funext r ρ1
  rcases r with x | _ | _
  · cases x with
    | ol _ => simp [ok2_some, ok2_none, wbl]
    | d x => cases x with
      | bl z => cases z <;> simp [ok2_some, ok2_none, wbl, PIf]
      | _ => simp [ok2_some, ok2_none, wbl]
  · simp [ok2_some, ok2_none, wbl]
  · simp [ok2_some, ok2_none, wbl]
theorem we_or : P2 (ev M (.or a b) ρ) Q = P2 (ev M a ρ) fun r ρ1 => wbl (fun z => PIf z (Q (.v (.d (.bl true))) ρ1) (P2 (ev M b ρ1) Q)) r := by
  rw [ev_or_]; simp only [ok2_bind, ok1_p]
  congr 1; funext r ρ1
  rcases r with x | _ | _
  · cases x with
    | ol _ => simp [ok2_some, ok2_none, wbl]
    | d x => cases x with
      | bl z => cases z <;> simp [ok2_some, ok2_none, wbl, PIf]
      | _ => simp [ok2_some, ok2_none, wbl]
  · simp [ok2_some, ok2_none, wbl]
  · simp [ok2_some, ok2_none, wbl]
theorem we_cmp : P2 (ev M (.cmp q a b) ρ) Q = P2 (ev M a ρ) fun r ρ1 => P2 (ev M b ρ1) fun s ρ2 => P1 (dat ρ2 r) fun x => P1 (dat ρ2 s) fun y => P1 (cmpop q x y) fun z => Q (.v (.d (.bl z))) ρ2 := by
  rw [ev_cmp_]; simp only [ok2_bind, ok1_p, ok2_map]
theorem we_chn : P2 (ev M (.chn q q' a b c) ρ) Q = P2 (ev M a ρ) fun r ρ1 => P2 (ev M b ρ1) fun s ρ2 => P1 (dat ρ2 r) fun x => P1 (dat ρ2 s) fun y => P1 (cmpop q x y) fun z => PIf z (P2 (ev M c ρ2) fun r ρ3 => P1 (dat ρ3 s) fun y => P1 (dat ρ3 r) fun w => P1 (cmpop q' y w) fun z => Q (.v (.d (.bl z))) ρ3) (Q (.v (.d (.bl false))) ρ2) := by
  rw [ev_chn_]; simp only [ok2_bind, ok1_p]
  congr 1; funext r ρ1; congr 1; funext s ρ2; congr 1; funext x; congr 1; funext y; congr 1; funext z
  cases z with
  | true => simp only [ok2_bind, ok1_p, ok2_map, if_true']
  | false => simp only [ok2_some, if_false']
theorem we_ite : P2 (ev M (.ite t a b) ρ) Q = P2 (evT M t ρ) fun z ρ1 => PIf z (P2 (ev M a ρ1) Q) (P2 (ev M b ρ1) Q) := by
  rw [ev_ite_]; simp only [ok2_bind, ok1_p]
  congr 1; funext z ρ1
  cases z <;> rfl
theorem we_idx : P2 (ev M (.idx a b) ρ) Q = P2 (ev M a ρ) fun r ρ1 => P2 (ev M b ρ1) fun s ρ2 => P1 (gdat ρ2 r) fun x => P1 (dat ρ2 s) fun y => P1 (index x y) fun z => Q (.v (.d z)) ρ2 := by
  rw [ev_idx_]; simp only [ok2_bind, ok1_p, ok2_map]
theorem we_sl {lo hi : Eo} : P2 (ev M (.sl a lo hi) ρ) Q = P2 (ev M a ρ) fun r ρ1 => P2 (evO M lo ρ1) fun l ρ2 => P2 (evO M hi ρ2) fun h ρ3 => P1 (gdat ρ3 r) fun x => P1 (slice x l h) fun z => Q (.v z) ρ3 := by
  rw [ev_sl_]; simp only [ok2_bind, ok1_p, ok2_map]
theorem we_rev : P2 (ev M (.rev a) ρ) Q = P2 (ev M a ρ) fun r ρ1 => P1 (fdat ρ1 r) fun x => P1 (revd x) fun z => Q (.v z) ρ1 := by
  rw [ev_rev_]; simp only [ok2_bind, ok1_p, ok2_map]
theorem we_tup : P2 (ev M (.tup es) ρ) Q = P2 (evs M es ρ) fun rs ρ1 => P2 (escs ρ1 rs) fun vs ρ2 => vs.length ≤ line ∧ Q (.v (.d (.tup (Val.datas vs)))) ρ2 := by
  rw [ev_tup_]; simp only [ok2_bind, ok1_p, ok2_if, ok2_some]
theorem we_lst : P2 (ev M (.lst es) ρ) Q = P2 (evs M es ρ) fun rs ρ1 => P2 (escs ρ1 rs) fun vs ρ2 => vs.length ≤ line ∧ Q (.v (.ol vs)) ρ2 := by
  rw [ev_lst_]; simp only [ok2_bind, ok1_p, ok2_if, ok2_some]
/-- the turn of a comprehension -/
def turnC (M : Mach) (tg : Tg) (t : T) (elt : E) (x : D) (ρ' : Env) : Option (Option Val × Env) := (asgT M tg (.d x) ρ').bind fun ρ1 => (evT M t ρ1).bind fun b => match b.1 with
        | true => (ev M elt b.2).bind fun e => (esc e.2 e.1).map fun v => (some v.1, v.2)
        | false => some (none, b.2)
theorem we_turn {tg : Tg} {elt : E} {Q : Option Val → Env → Prop} : P2 (turnC M tg t elt x ρ) Q = P1 (asgT M tg (.d x) ρ) fun ρ1 => P2 (evT M t ρ1) fun b ρ2 => PIf b (P2 (ev M elt ρ2) fun r ρ3 => P2 (esc ρ3 r) fun v ρ4 => Q (some v) ρ4) (Q none ρ2) := by
  unfold turnC
  simp only [ok2_bind]
  congr 1; funext ρ1
  rw [ok1_p]
  congr 1; funext b ρ2
  cases b with
  | true => simp only [ok2_bind, ok1_p, ok2_map, if_true']
  | false => simp only [ok2_some, if_false']
theorem we_comp {own : List Nat} {k : Ik} {tg : Tg} {elt : E} : P2 (ev M (.comp own k as tg t elt) ρ) Q = P2 (evs M as ρ) fun rs ρ1 => P2 (srcs ρ1 rs) fun ds ρ2 => P1 (items k ds) fun xs => (ownOk ρ2 own && own.all (fun i => !M.io i)) = true ∧ P2 (compL own (turnC M tg t elt) xs ρ2 []) fun vs ρ3 => Q (.v (.ol vs)) (unwipe ρ2 (wipe ρ3 own) own) := by
  rw [ev]; simp only [ok2_bind, ok1_p, ok2_if, ok2_map]; rfl
theorem we_call {f : Nat} {dfl : List D} : P2 (ev M (.call f as dfl) ρ) Q = P2 (evs M as ρ) fun rs ρ1 => P2 (callR M.fl M.C f (rs ++ dfl.map fun x => .v (.d x)) ρ1) Q := by
  rw [ev]; simp only [ok2_bind, ok1_p]
theorem we_callk {f : Nat} {kas : Es} {perm : List Nat} : P2 (ev M (.callk f as kas perm) ρ) Q = P2 (evs M as ρ) fun rs ρ1 => P2 (evs M kas ρ1) fun ss ρ2 => P1 (pickR perm (rs ++ ss)) fun rs => P2 (callR M.fl M.C f rs ρ2) Q := by
  rw [ev]; simp only [ok2_bind, ok1_p]
theorem we_fz : P2 (ev M (.fz a) ρ) Q = P2 (ev M a ρ) fun r ρ1 => Q r (fzR r ρ1) := by
  rw [ev_fz_]; simp only [ok2_map, ok1_p]
theorem we_isi {ts : List Ty} : P2 (ev M (.isi a ts) ρ) Q = P2 (ev M a ρ) fun r ρ1 => P1 (ndat ρ1 r) fun x => Q (.v (.d (.bl (ts.any (hasTy x))))) ρ1 := by
  rw [ev_isi_]; simp only [ok2_bind, ok1_p, ok2_map]
theorem we_b1 {o : B1} : P2 (ev M (.b1 o a) ρ) Q = P2 (ev M a ρ) fun r ρ1 => P1 (bdat o ρ1 r) fun x => P1 (b1 o x) fun z => Q (.v z) ρ1 := by
  rw [ev_b1_]; simp only [ok2_bind, ok1_p, ok2_map]
theorem we_b2 {o : B2} : P2 (ev M (.b2 o a b) ρ) Q = P2 (ev M a ρ) fun r ρ1 => P2 (ev M b ρ1) fun s ρ2 => P1 (fdat ρ2 r) fun x => P1 (fdat ρ2 s) fun y => P1 (b2 o x y) fun z => Q (.v z) ρ2 := by
  rw [ev_b2_]; simp only [ok2_bind, ok1_p, ok2_map]
theorem we_met {o : Mt} : P2 (ev M (.met o a b) ρ) Q = P2 (ev M a ρ) fun r ρ1 => P1 (dat ρ1 r) fun x0 => mkd o x0 = true ∧ P2 (ev M b ρ1) fun s ρ2 => P1 (dat ρ2 r) fun x => P1 (dat ρ2 s) fun y => P1 (mt o x y) fun z => Q (.v (.d z)) ρ2 := by
  rw [ev_met_]; simp only [ok2_bind, ok1_p, ok2_if, ok2_map, ok1_bind]
def wint (Q : Int → Prop) : R → Prop
  | .v (.d (.int i)) => Q i
  | _ => False
theorem wint_int {Q : Int → Prop} {i : Int} : wint Q (.v (.d (.int i))) = Q i := rfl
theorem we_ono {Q : Option Int → Env → Prop} : P2 (evO M .no ρ) Q = Q none ρ := by rw [evO, ok2_some]
theorem we_oso {Q : Option Int → Env → Prop} : P2 (evO M (.so a) ρ) Q = P2 (ev M a ρ) fun r ρ1 => wint (fun i => Q (some i) ρ1) r := by
  rw [evO, ok2_bind, ok1_p]
  congr 1; funext r ρ1
  rcases r with x | _ | _
  · cases x with
    | ol _ => simp [ok2_some, ok2_none, wint]
    | d x => cases x <;> simp [ok2_some, ok2_none, wint]
  · simp [ok2_some, ok2_none, wint]
  · simp [ok2_some, ok2_none, wint]
theorem we_nil {Q : List R → Env → Prop} : P2 (evs M .nil ρ) Q = Q [] ρ := by rw [evs, ok2_some]
theorem we_cons {Q : List R → Env → Prop} : P2 (evs M (.cons a es) ρ) Q = P2 (ev M a ρ) fun r ρ1 => P2 (evs M es ρ1) fun rs ρ2 => Q (r :: rs) ρ2 := by
  rw [evs]; simp only [ok2_bind, ok1_p, ok2_map]
variable {Qt : Bool → Env → Prop}
theorem wt_yes : P2 (evT M .yes ρ) Qt = Qt true ρ := by rw [evT, ok2_some]
theorem wt_tr : P2 (evT M (.tr a) ρ) Qt = P2 (ev M a ρ) fun r ρ1 => P1 (ndat ρ1 r) fun x => Qt (truth x) ρ1 := by
  rw [evT]; simp only [ok2_bind, ok1_p, ok2_map]
theorem wt_no : P2 (evT M (.no t) ρ) Qt = P2 (evT M t ρ) fun z ρ1 => Qt (!z) ρ1 := by
  rw [evT]; simp only [ok1_p, ok2_map]
theorem wt_an : P2 (evT M (.an t u) ρ) Qt = P2 (evT M t ρ) fun z ρ1 => PIf z (P2 (evT M u ρ1) Qt) (Qt false ρ1) := by
  rw [evT, ok2_bind, ok1_p]
  congr 1; funext z ρ1
  cases z <;> simp [PIf, ok2_some]
theorem wt_or : P2 (evT M (.orr t u) ρ) Qt = P2 (evT M t ρ) fun z ρ1 => PIf z (Qt true ρ1) (P2 (evT M u ρ1) Qt) := by
  rw [evT, ok2_bind, ok1_p]
  congr 1; funext z ρ1
  cases z <;> simp [PIf, ok2_some]
end
/-! ### statements -/
section
variable {M : Mach} {ρ : Env} {i j : Nat} {a b c : E} {t u : T} {as es : Es} {s s' : S} {Q : Out → Prop} {v : Val}
/-- behind a statement -/
def sq (M : Mach) (s : S) (Q : Out → Prop) : Out → Prop
  | .nx ρ => P1 (Pu.exec M s ρ) Q
  | o => Q o
theorem sq_nx : sq M s Q (.nx ρ) = P1 (Pu.exec M s ρ) Q := rfl
theorem sq_rt : sq M s Q (.rt v ρ) = Q (.rt v ρ) := rfl
theorem sq_bk : sq M s Q (.bk ρ) = Q (.bk ρ) := rfl
theorem sq_ct : sq M s Q (.ct ρ) = Q (.ct ρ) := rfl
theorem ws_seq : P1 (Pu.exec M (.seq s s') ρ) Q = P1 (Pu.exec M s ρ) (sq M s' Q) := by
  rw [ex_seq_, ok1_bind]
  congr 1; funext o
  cases o <;> simp [sq, ok1_some]
theorem ws_set : P1 (Pu.exec M (.set i a) ρ) Q = P2 (ev M a ρ) fun r ρ1 => P2 (mov M.io ρ1 r) fun v ρ2 => P1 (asg M.io ρ2 i v) fun ρ3 => Q (.nx ρ3) := by
  rw [ex_set_]; simp only [ok1_bind, ok1_p, ok1_map]
theorem ws_movs_nil {Q : List Val → Env → Prop} : P2 (exec.movs M ρ []) Q = Q [] ρ := ok2_some
theorem ws_movs_cons {r : R} {rs : List R} {Q : List Val → Env → Prop} : P2 (exec.movs M ρ (r :: rs)) Q = P2 (mov M.io ρ r) fun v ρ1 => P2 (exec.movs M ρ1 rs) fun vs ρ2 => Q (v :: vs) ρ2 := by
  rw [exec.movs]; simp only [ok2_bind, ok1_p, ok2_map]
theorem ws_asgs_nil {Q : Env → Prop} : P1 (exec.asgs M ρ [] []) Q = Q ρ := ok1_some
theorem ws_asgs_cons {is : List Nat} {vs : List Val} {Q : Env → Prop} : P1 (exec.asgs M ρ (i :: is) (v :: vs)) Q = P1 (asg M.io ρ i v) fun ρ1 => P1 (exec.asgs M ρ1 is vs) Q := by
  rw [exec.asgs, ok1_bind]
theorem ws_setT {is : List Nat} : P1 (Pu.exec M (.setT is es) ρ) Q = P2 (evs M es ρ) fun rs ρ1 => P2 (exec.movs M ρ1 rs) fun vs ρ2 => P1 (exec.asgs M ρ2 is vs) fun ρ3 => Q (.nx ρ3) := by
  rw [ex_setT_]; simp only [ok1_bind, ok1_p, ok1_map]
theorem ws_unp {tg : Tg} : P1 (Pu.exec M (.unp tg a) ρ) Q = P2 (ev M a ρ) fun r ρ1 => P2 (esc ρ1 r) fun v ρ2 => P1 (asgT M tg v ρ2) fun ρ3 => Q (.nx ρ3) := by
  rw [ex_unp_]; simp only [ok1_bind, ok1_p, ok1_map]
theorem ws_ex : P1 (Pu.exec M (.ex a) ρ) Q = P2 (ev M a ρ) fun r ρ1 => Q (.nx ρ1) := by
  rw [ex_ex_]; simp only [ok1_p, ok1_map]
theorem ws_ite : P1 (Pu.exec M (.ite t s s') ρ) Q = P2 (evT M t ρ) fun z ρ1 => PIf z (P1 (Pu.exec M s ρ1) Q) (P1 (Pu.exec M s' ρ1) Q) := by
  rw [ex_ite_, ok1_bind, ok1_p]
  congr 1; funext z ρ1
  cases z <;> rfl
theorem ws_ret : P1 (Pu.exec M (.ret a) ρ) Q = P2 (ev M a ρ) fun r ρ1 => P2 (mov M.io ρ1 r) fun v ρ2 => Q (.rt v ρ2) := by
  rw [ex_ret_]; simp only [ok1_bind, ok1_p, ok1_map]
theorem ws_retN : P1 (Pu.exec M .retN ρ) Q = Q (.rt (.d .non) ρ) := by rw [ex_retN_, ok1_some]
theorem ws_pass : P1 (Pu.exec M .pass ρ) Q = Q (.nx ρ) := by rw [ex_pass_, ok1_some]
theorem ws_brk : P1 (Pu.exec M .brk ρ) Q = Q (.bk ρ) := by rw [ex_brk_, ok1_some]
theorem ws_cont : P1 (Pu.exec M .cont ρ) Q = Q (.ct ρ) := by rw [ex_cont_, ok1_some]
/-- the own list that a statement changes -/
def wol (Q : List Val → Prop) : Val → Prop
  | .ol xs => Q xs
  | _ => False
theorem wol_ol {Q : List Val → Prop} {xs : List Val} : wol Q (.ol xs) = Q xs := rfl
theorem isOl_lo {Q : Prop} : (isOl ρ i = true ∧ Q) = PLo ρ[i]? (fun v => wol (fun _ => Q) v) := by
  unfold isOl getS
  cases e : ρ[i]? with
  | none => simp [PLo]
  | some s => cases s with
    | un => simp [PLo]
    | rd _ => simp [PLo]
    | lo v => cases v <;> simp [PLo, wol]
def wda (Q : D → Prop) : Val → Prop
  | .d x => Q x
  | .ol _ => False
theorem wda_d {Q : D → Prop} {x : D} : wda Q (.d x) = Q x := rfl
def wol2 (Q : List Val → Prop) : Option Val → Prop
  | some (.ol ys) => Q ys
  | _ => False
theorem wol2_ol {Q : List Val → Prop} {ys : List Val} : wol2 Q (some (.ol ys)) = Q ys := rfl
theorem ws_appAt {j : Int} : P1 (Pu.exec M (.appAt i (.cst (.int j)) (.cst .non)) ρ) Q = PLo ρ[i]? (wol fun xs => P1 (L2.ixN xs.length j) fun m => wol2 (fun ys => ys.length < line ∧ Q (.nx (ρ.set i (.lo (.ol (xs.set m (.ol (ys ++ [.d .non])))))))) xs[m]?) := by
  rw [← okLo_getS]
  have e : Pu.exec M (.appAt i (.cst (.int j)) (.cst .non)) ρ = match getS ρ i with
      | some (.ol xs) => (L2.ixN xs.length j).bind fun m => match xs[m]? with
        | some (.ol ys) => if ys.length < line then some (.nx (putS ρ i (.ol (xs.set m (.ol (ys ++ [.d .non])))))) else none
        | _ => none
      | _ => none := by
    conv => lhs; unfold Pu.exec
    cases getS ρ i with
    | none => rfl
    | some v => cases v <;> rfl
  rw [e]
  cases getS ρ i with
  | none => simp [P1]
  | some v => cases v with
    | d x => simp [P1, wol]
    | ol xs =>
      rw [show P1 (some (Val.ol xs)) (wol fun xs => P1 (L2.ixN xs.length j) fun m => wol2 (fun ys => ys.length < line ∧ Q (.nx (ρ.set i (.lo (.ol (xs.set m (.ol (ys ++ [.d .non])))))))) xs[m]?) = (P1 (L2.ixN xs.length j) fun m => wol2 (fun ys => ys.length < line ∧ Q (.nx (ρ.set i (.lo (.ol (xs.set m (.ol (ys ++ [.d .non])))))))) xs[m]?) from ok1_some]
      show P1 ((L2.ixN xs.length j).bind _) Q = _
      rw [ok1_bind]
      congr 1
      funext m
      cases xs[m]? with
      | none => simp [P1, wol2]
      | some v => cases v with
        | d x => simp [P1, wol2]
        | ol ys =>
          show P1 (if _ then _ else _) Q = _
          rw [ok1_if, ok1_some]; rfl
theorem ws_aug {o : Op} : P1 (Pu.exec M (.aug i o a) ρ) Q = PLo ρ[i]? (wda fun x => P2 (ev M a ρ) fun r ρ1 => P1 (dat ρ1 r) fun y => P1 (augop o x y) fun z => P1 (asg M.io ρ1 i (.d z)) fun ρ2 => Q (.nx ρ2)) := by
  rw [ex_aug_, ← okLo_getS]
  cases getS ρ i with
  | none => simp [P1]
  | some v => cases v with
    | ol xs => simp [P1, wda]
    | d x =>
      rw [show P1 (some (Val.d x)) (wda fun x => P2 (ev M a ρ) fun r ρ1 => P1 (dat ρ1 r) fun y => P1 (augop o x y) fun z => P1 (asg M.io ρ1 i (.d z)) fun ρ2 => Q (.nx ρ2)) = (P2 (ev M a ρ) fun r ρ1 => P1 (dat ρ1 r) fun y => P1 (augop o x y) fun z => P1 (asg M.io ρ1 i (.d z)) fun ρ2 => Q (.nx ρ2)) from ok1_some]
      simp only [ok1_bind, ok1_p, ok1_map]
theorem ws_app : P1 (Pu.exec M (.app i a) ρ) Q = PLo ρ[i]? (fun v => wol (fun _ => P2 (ev M a ρ) fun r ρ1 => P2 (esc ρ1 r) fun v ρ2 => PLo ρ2[i]? fun u => wol (fun xs => xs.length < line ∧ Q (.nx (ρ2.set i (.lo (.ol (xs ++ [v])))))) u) v) := by
  rw [ex_app_, ← isOl_lo, ok1_if]
  congr 1
  simp only [ok1_bind, ok1_p]
  congr 1; funext r ρ1; congr 1; funext v ρ2
  rw [← okLo_getS]
  cases getS ρ2 i with
  | none => simp [P1]
  | some u => cases u with
    | d _ => simp [P1, wol]
    | ol xs => simp only [ok1_if, ok1_some, wol_ol]; rfl
theorem ws_for {k : Ik} {tg : Tg} : P1 (Pu.exec M (.for_ k as tg s) ρ) Q = P2 (evs M as ρ) fun rs ρ1 => P2 (srcs ρ1 rs) fun ds ρ2 => P1 (items k ds) fun xs => P1 (forL (fun x ρ' => asgT M tg (.d x) ρ') (Pu.exec M s) xs ρ2) Q := by
  rw [Pu.exec]; simp only [ok1_bind, ok1_p]
theorem ws_whl : P1 (Pu.exec M (.whl t s) ρ) Q = P1 (whileL (evT M t) (Pu.exec M s) turnsMost ρ) Q := by
  rw [Pu.exec]
def wlst (Q : List D → Prop) : D → Prop
  | .lst xs => Q xs
  | _ => False
theorem wlst_lst {Q : List D → Prop} {xs : List D} : wlst Q (.lst xs) = Q xs := rfl
theorem ws_ext : P1 (Pu.exec M (.ext i a) ρ) Q = PLo ρ[i]? (fun v => wol (fun _ => P2 (ev M a ρ) fun r ρ1 => P1 (fdat ρ1 r) fun y => wlst (fun ys => PLo ρ1[i]? fun u => wol (fun xs => xs.length + ys.length ≤ line ∧ Q (.nx (ρ1.set i (.lo (.ol (xs ++ ys.map .d)))))) u) y) v) := by
  rw [ex_ext_, ← isOl_lo, ok1_if]
  congr 1
  simp only [ok1_bind, ok1_p]
  congr 1; funext r ρ1; congr 1; funext y
  cases y with
  | lst ys =>
    rw [wlst_lst, ← okLo_getS]
    cases getS ρ1 i with
    | none => simp [P1]
    | some u => cases u with
      | d _ => simp [P1, wol]
      | ol xs => simp only [ok1_if, ok1_some, wol_ol]; rfl
  | _ => simp [P1, wlst]
theorem wa_nm {Q : Env → Prop} : P1 (asgT M (.nm i) v ρ) Q = P1 (asg M.io ρ i v) Q := by rw [asgT_nm]
theorem wa_tp {ts : Tgs} {xs : List D} {Q : Env → Prop} : P1 (asgT M (.tp ts) (.d (.tup xs)) ρ) Q = P1 (asgTs M ts xs ρ) Q := by rw [asgT_tp]
theorem wa_nil {Q : Env → Prop} : P1 (asgTs M .nil [] ρ) Q = Q ρ := by rw [asgTs_nil, ok1_some]
theorem wa_cons {tg : Tg} {ts : Tgs} {x : D} {xs : List D} {Q : Env → Prop} : P1 (asgTs M (.cons tg ts) (x :: xs) ρ) Q = P1 (asgT M tg (.d x) ρ) fun ρ1 => P1 (asgTs M ts xs ρ1) Q := by rw [asgTs_cons, ok1_bind]
theorem wa_ix {Q : Env → Prop} : P1 (asgT M (.ix i a) v ρ) Q = PLo ρ[i]? (fun u => wol (fun _ => P2 (ev M a ρ) fun r ρ1 => wint (fun j => PLo ρ1[i]? fun w => wol (fun xs => P1 (L2.ixN xs.length j) fun m => Q (ρ1.set i (.lo (.ol (xs.set m v))))) w) r) u) := by
  rw [asgT, ← isOl_lo, ok1_if]
  congr 1
  rw [ok1_bind, ok1_p]
  congr 1; funext r ρ1
  rcases r with x | _ | _
  · cases x with
    | ol _ => simp [P1, wint]
    | d x => cases x with
      | int j =>
        rw [wint_int, ← okLo_getS]
        simp only
        cases getS ρ1 i with
        | none => simp [P1]
        | some u => cases u with
          | d _ => simp [P1, wol]
          | ol xs => simp only [ok1_bind, ok1_some, wol_ol, ok1_map]; rfl
      | _ => simp [P1, wint]
  · simp [P1, wint]
  · simp [P1, wint]
/-- two numbers -/
def wid (Q : Int → Prop) : D → Prop
  | .int i => Q i
  | _ => False
theorem wid_int {Q : Int → Prop} {i : Int} : wid Q (.int i) = Q i := rfl
section
variable {a b c : E} {Q : R → Env → Prop}
theorem we_bs {o : Bs} : P2 (ev M (.bs o a) ρ) Q = P2 (ev M a ρ) fun r ρ1 => P1 (gdat ρ1 r) fun x => P1 (bsop o x) fun z => Q (.v z) ρ1 := by
  rw [ev]; simp only [ok2_bind, ok1_p, ok2_map]
theorem we_sw3 : P2 (ev M (.sw3 a b c) ρ) Q = P2 (ev M a ρ) fun r ρ1 => P2 (ev M b ρ1) fun s ρ2 => P2 (ev M c ρ2) fun t ρ3 => P1 (sw3R r s t) fun w => Q (.v (.d w)) ρ3 := by
  rw [ev]; simp only [ok2_bind, ok1_p, ok2_map]
theorem we_pop {i : Nat} {k : Option Int} : P2 (ev M (.pop i k) ρ) Q = PLo ρ[i]? (wol fun xs => P1 (popAt xs k) fun q => wda (fun x => Q (.v (.d x)) (ρ.set i (.lo (.ol q.2)))) q.1) := by
  rw [ev, ← okLo_getS]
  cases getS ρ i with
  | none => simp [P1, P2]
  | some v => cases v with
    | d x => simp [P1, P2, wol]
    | ol xs =>
      rw [show P1 (some (Val.ol xs)) (wol fun xs => P1 (popAt xs k) fun q => wda (fun x => Q (.v (.d x)) (ρ.set i (.lo (.ol q.2)))) q.1) = (P1 (popAt xs k) fun q => wda (fun x => Q (.v (.d x)) (ρ.set i (.lo (.ol q.2)))) q.1) from ok1_some]
      simp only [ok2_bind]
      congr 1
      funext q
      obtain ⟨y, ys⟩ := q
      cases y with
      | d x => simp [ok2_some, wda, putS]
      | ol _ => simp [ok2_none, wda]
theorem we_dlk {ks : List D} {vs : Es} : P2 (ev M (.dlk ks vs a) ρ) Q = P2 (evs M vs ρ) fun rs ρ1 => P2 (escs ρ1 rs) fun us ρ2 => P2 (ev M a ρ2) fun r ρ3 => P1 (dat ρ3 r) fun x => (ks.length = us.length ∧ us.all Val.isD = true) ∧ P1 (lookD ks (Val.datas us) x) fun z => Q (.v (.d z)) ρ3 := by
  rw [ev]; simp only [ok2_bind, ok1_p, ok2_if, ok2_map]
theorem we_lrng : P2 (ev M (.lrng a b) ρ) Q = P2 (ev M a ρ) fun r ρ1 => P2 (ev M b ρ1) fun s ρ2 => P1 (dat ρ2 r) fun x => P1 (dat ρ2 s) fun y => wid (fun i => wid (fun j => (ends62 i && ends62 j && decide ((j - i).toNat ≤ line)) = true ∧ Q (.v (.ol ((ranged i j).map .d))) ρ2) y) x := by
  rw [ev]; simp only [ok2_bind, ok1_p]
  congr 1; funext r ρ1; congr 1; funext s ρ2; congr 1; funext x; congr 1; funext y
  cases x <;> cases y <;> simp [ok2_none, ok2_some, ok2_if, wid]
end
end
end P
/-- what is not looked into (an argument on which another one leans) -/
class Hid {α : Sort u} (Q : α) : Type where
instance {α : Sort u} (Q : α) : Hid Q := ⟨⟩
/-- there is an answer, and it is so -/
def Ok1 {α : Type} (x : Option α) (Q : α → Prop) [Hid Q] : Prop := P.P1 x Q
def Ok2 {α β : Type} (x : Option (α × β)) (Q : α → β → Prop) [Hid Q] : Prop := P.P2 x Q
/-- a branch -/
def If (b : Bool) (A B : Prop) [Hid A] [Hid B] : Prop := P.PIf b A B
/-- what stands in a slot -/
def OkSl (s : Option Slot) (i : Nat) (ρ : Env) (Q : R → Env → Prop) [Hid ρ] [Hid Q] : Prop := P.PSl s i ρ Q
def OkLo (s : Option Slot) (Q : Val → Prop) [Hid Q] : Prop := P.PLo s Q
open P (wneg wbl wint wol wlst sq turnC Mk)
theorem if_true' {A B : Prop} : If true A B = A := P.if_true'
theorem if_false' {A B : Prop} : If false A B = B := P.if_false'
theorem wif {b : Bool} {A B : Prop} (h1 : b = true → A) (h2 : b = false → B) : If b A B := P.wif h1 h2
theorem wifd {p : Prop} [Decidable p] {A B : Prop} (h1 : p → A) (h2 : ¬p → B) : If (decide p) A B := P.wifd h1 h2
theorem wifn {p : Prop} [Decidable p] {A B : Prop} (h1 : ¬p → A) (h2 : p → B) : If (!decide p) A B := P.wifn h1 h2
section
variable {α β γ : Type}
theorem ok1_some {a : α} {Q : α → Prop} : Ok1 (some a) Q = Q a := P.ok1_some
theorem ok2_some {a : α} {b : β} {Q : α → β → Prop} : Ok2 (some (a, b)) Q = Q a b := P.ok2_some
theorem ok1_none {Q : α → Prop} : Ok1 none Q = False := P.ok1_none
theorem ok2_none {Q : α → β → Prop} : Ok2 none Q = False := P.ok2_none
theorem ok1_bind {x : Option γ} {f : γ → Option α} {Q : α → Prop} : Ok1 (x.bind f) Q = Ok1 x fun c => Ok1 (f c) Q := P.ok1_bind
theorem ok2_bind {x : Option γ} {f : γ → Option (α × β)} {Q : α → β → Prop} : Ok2 (x.bind f) Q = Ok1 x fun c => Ok2 (f c) Q := P.ok2_bind
theorem ok1_map {x : Option γ} {f : γ → α} {Q : α → Prop} : Ok1 (x.map f) Q = Ok1 x fun c => Q (f c) := P.ok1_map
theorem ok1_p {x : Option (α × β)} {Q : α × β → Prop} : Ok1 x Q = Ok2 x fun a b => Q (a, b) := P.ok1_p
theorem ok2_map {x : Option γ} {f : γ → α × β} {Q : α → β → Prop} : Ok2 (x.map f) Q = Ok1 x fun c => Q (f c).1 (f c).2 := P.ok2_map
theorem ok1_if {p : Prop} [Decidable p] {x : Option α} {Q : α → Prop} : Ok1 (if p then x else none) Q = (p ∧ Ok1 x Q) := P.ok1_if
theorem ok2_if {p : Prop} [Decidable p] {x : Option (α × β)} {Q : α → β → Prop} : Ok2 (if p then x else none) Q = (p ∧ Ok2 x Q) := P.ok2_if
theorem ok1_mono {x : Option α} {Q R : α → Prop} (h : Ok1 x Q) (q : ∀ a, Q a → R a) : Ok1 x R := P.ok1_mono h q
theorem ok2_mono {x : Option (α × β)} {Q R : α → β → Prop} (h : Ok2 x Q) (q : ∀ a b, Q a b → R a b) : Ok2 x R := P.ok2_mono h q
end
section
variable {ρ : Env} {i : Nat} {x : D} {xs : List Val} {ns : List Int} {v : Val} {Q : R → Env → Prop} {Q1 : Val → Prop}
theorem okSl_d : OkSl (some (.lo (.d x))) i ρ Q = Q (.v (.d x)) ρ := P.okSl_d
theorem okSl_ol : OkSl (some (.lo (.ol xs))) i ρ Q = Q (.pk i) ρ := P.okSl_ol
theorem okSl_rd : OkSl (some (.rd ns)) i ρ Q = Q (.rd ns) ρ := P.okSl_rd
theorem okLo_lo : OkLo (some (.lo v)) Q1 = Q1 v := P.okLo_lo
end
theorem okLo_getS {ρ : Env} {i : Nat} {Q : Val → Prop} : Ok1 (getS ρ i) Q = OkLo ρ[i]? Q := P.okLo_getS
section
variable {ρ : Env} {i : Nat} {x : D} {xs : List Val} {ns : List Int} {v : Val} {Q : D → Prop} {io : Nat → Bool} {Q2 : Val → Env → Prop} {Q3 : D → Env → Prop}
theorem ok_dat_d : Ok1 (dat ρ (.v (.d x))) Q = Q x := P.ok_dat_d
theorem ok_dat_ol : Ok1 (dat ρ (.v (.ol xs))) Q = Q (.lst (Val.datas xs)) := P.ok_dat_ol
theorem ok_dat_pk : Ok1 (dat ρ (.pk i)) Q = OkLo ρ[i]? fun v => Q v.data := P.ok_dat_pk
theorem ok_dat_rd : Ok1 (dat ρ (.rd ns)) Q = Q (.lst (ns.map .int)) := P.ok_dat_rd
theorem ok_fdat_d : Ok1 (fdat ρ (.v (.d x))) Q = Q x := P.ok_fdat_d
theorem ok_fdat_ol : Ok1 (fdat ρ (.v (.ol xs))) Q = Q (.lst (Val.datas xs)) := P.ok_fdat_ol
theorem ok_fdat_pk : Ok1 (fdat ρ (.pk i)) Q = OkLo ρ[i]? fun v => v.flat = true ∧ Q v.data := P.ok_fdat_pk
theorem ok_gdat_d : Ok1 (gdat ρ (.v (.d x))) Q = Q x := P.ok_gdat_d
theorem ok_gdat_ol : Ok1 (gdat ρ (.v (.ol xs))) Q = Q (.lst (Val.datas xs)) := P.ok_gdat_ol
theorem ok_gdat_pk : Ok1 (gdat ρ (.pk i)) Q = OkLo ρ[i]? fun v => v.flat = true ∧ Q v.data := P.ok_gdat_pk
theorem ok_gdat_rd : Ok1 (gdat ρ (.rd ns)) Q = Q (.lst (ns.map .int)) := P.ok_gdat_rd
theorem ok_ndat_d : Ok1 (ndat ρ (.v (.d x))) Q = Q x := P.ok_ndat_d
theorem ok_ndat_ol : Ok1 (ndat ρ (.v (.ol xs))) Q = Q (.lst (Val.datas xs)) := P.ok_ndat_ol
theorem ok_ndat_pk : Ok1 (ndat ρ (.pk i)) Q = OkLo ρ[i]? fun v => Q v.data := P.ok_ndat_pk
theorem ok_esc_v : Ok2 (esc ρ (.v v)) Q2 = Q2 v ρ := P.ok_esc_v
theorem ok_esc_pk : Ok2 (esc ρ (.pk i)) Q2 = OkLo ρ[i]? fun v => Q2 (.d v.data) (ρ.set i (.lo (.d v.data))) := P.ok_esc_pk
theorem ok_mov_v : Ok2 (mov io ρ (.v v)) Q2 = Q2 v ρ := P.ok_mov_v
theorem ok_mov_pk : Ok2 (mov io ρ (.pk i)) Q2 = OkLo ρ[i]? fun v => If (io i) (Q2 (.d v.data) (ρ.set i (.lo (.d v.data)))) (Q2 v (ρ.set i .un)) := P.ok_mov_pk
theorem ok_srcD_d : Ok2 (srcD ρ (.v (.d x))) Q3 = Q3 x ρ := P.ok_srcD_d
theorem ok_srcD_ol : Ok2 (srcD ρ (.v (.ol xs))) Q3 = Q3 (.lst (Val.datas xs)) ρ := P.ok_srcD_ol
theorem ok_srcD_pk : Ok2 (srcD ρ (.pk i)) Q3 = OkLo ρ[i]? fun v => Q3 v.data (ρ.set i (.lo (.d v.data))) := P.ok_srcD_pk
theorem ok_srcD_rd : Ok2 (srcD ρ (.rd ns)) Q3 = Q3 (.lst (ns.map .int)) ρ := P.ok_srcD_rd
theorem ok_asg {i : Nat} {v : Val} {Q : Env → Prop} : Ok1 (asg io ρ i v) Q = (io i = false ∧ i < ρ.length ∧ Q (ρ.set i (.lo v))) := P.ok_asg
end
section
variable {ρ : Env} {r : R} {rs : List R} {Q : List D → Env → Prop} {Qv : List Val → Env → Prop}
theorem ok_srcs_nil : Ok2 (srcs ρ []) Q = Q [] ρ := P.ok_srcs_nil
theorem ok_srcs_cons : Ok2 (srcs ρ (r :: rs)) Q = Ok2 (srcD ρ r) fun d ρ1 => Ok2 (srcs ρ1 rs) fun ds ρ2 => Q (d :: ds) ρ2 := P.ok_srcs_cons
theorem ok_escs_nil : Ok2 (escs ρ []) Qv = Qv [] ρ := P.ok_escs_nil
theorem ok_escs_cons : Ok2 (escs ρ (r :: rs)) Qv = Ok2 (esc ρ r) fun d ρ1 => Ok2 (escs ρ1 rs) fun ds ρ2 => Qv (d :: ds) ρ2 := P.ok_escs_cons
end
section
variable {M : Mach} {ρ : Env} {i j : Nat} {a b c : E} {t u : T} {as es : Es} {Q : R → Env → Prop} {x : D} {o : Op} {q q' : Cm}
theorem we_var : Ok2 (ev M (.var i) ρ) Q = OkSl ρ[i]? i ρ Q := P.we_var
theorem we_cst : Ok2 (ev M (.cst x) ρ) Q = Q (.v (.d x)) ρ := P.we_cst
theorem we_bin : Ok2 (ev M (.bin o a b) ρ) Q = Ok2 (ev M a ρ) fun r ρ1 => Ok2 (ev M b ρ1) fun s ρ2 => Ok1 (fdat ρ2 r) fun x => Ok1 (fdat ρ2 s) fun y => Ok1 (binop o x y) fun z => Q (.v z) ρ2 := P.we_bin
theorem wneg_int {Q : D → Prop} {i : Int} : wneg Q (.int i) = Q (.int (-i)) := P.wneg_int
theorem we_neg : Ok2 (ev M (.neg a) ρ) Q = Ok2 (ev M a ρ) fun r ρ1 => Ok1 (dat ρ1 r) fun x => wneg (fun z => Q (.v (.d z)) ρ1) x := P.we_neg
theorem wbl_bl {Q : Bool → Prop} {b : Bool} : wbl Q (.v (.d (.bl b))) = Q b := P.wbl_bl
theorem we_not : Ok2 (ev M (.not a) ρ) Q = Ok2 (ev M a ρ) fun r ρ1 => wbl (fun b => Q (.v (.d (.bl (!b)))) ρ1) r := P.we_not
theorem we_and : Ok2 (ev M (.and a b) ρ) Q = Ok2 (ev M a ρ) fun r ρ1 => wbl (fun z => If z (Ok2 (ev M b ρ1) Q) (Q (.v (.d (.bl false))) ρ1)) r := P.we_and
theorem we_or : Ok2 (ev M (.or a b) ρ) Q = Ok2 (ev M a ρ) fun r ρ1 => wbl (fun z => If z (Q (.v (.d (.bl true))) ρ1) (Ok2 (ev M b ρ1) Q)) r := P.we_or
theorem we_cmp : Ok2 (ev M (.cmp q a b) ρ) Q = Ok2 (ev M a ρ) fun r ρ1 => Ok2 (ev M b ρ1) fun s ρ2 => Ok1 (dat ρ2 r) fun x => Ok1 (dat ρ2 s) fun y => Ok1 (cmpop q x y) fun z => Q (.v (.d (.bl z))) ρ2 := P.we_cmp
theorem we_chn : Ok2 (ev M (.chn q q' a b c) ρ) Q = Ok2 (ev M a ρ) fun r ρ1 => Ok2 (ev M b ρ1) fun s ρ2 => Ok1 (dat ρ2 r) fun x => Ok1 (dat ρ2 s) fun y => Ok1 (cmpop q x y) fun z => If z (Ok2 (ev M c ρ2) fun r ρ3 => Ok1 (dat ρ3 s) fun y => Ok1 (dat ρ3 r) fun w => Ok1 (cmpop q' y w) fun z => Q (.v (.d (.bl z))) ρ3) (Q (.v (.d (.bl false))) ρ2) := P.we_chn
theorem we_ite : Ok2 (ev M (.ite t a b) ρ) Q = Ok2 (evT M t ρ) fun z ρ1 => If z (Ok2 (ev M a ρ1) Q) (Ok2 (ev M b ρ1) Q) := P.we_ite
theorem we_idx : Ok2 (ev M (.idx a b) ρ) Q = Ok2 (ev M a ρ) fun r ρ1 => Ok2 (ev M b ρ1) fun s ρ2 => Ok1 (gdat ρ2 r) fun x => Ok1 (dat ρ2 s) fun y => Ok1 (index x y) fun z => Q (.v (.d z)) ρ2 := P.we_idx
theorem we_sl {lo hi : Eo} : Ok2 (ev M (.sl a lo hi) ρ) Q = Ok2 (ev M a ρ) fun r ρ1 => Ok2 (evO M lo ρ1) fun l ρ2 => Ok2 (evO M hi ρ2) fun h ρ3 => Ok1 (gdat ρ3 r) fun x => Ok1 (slice x l h) fun z => Q (.v z) ρ3 := P.we_sl
theorem we_rev : Ok2 (ev M (.rev a) ρ) Q = Ok2 (ev M a ρ) fun r ρ1 => Ok1 (fdat ρ1 r) fun x => Ok1 (revd x) fun z => Q (.v z) ρ1 := P.we_rev
theorem we_tup : Ok2 (ev M (.tup es) ρ) Q = Ok2 (evs M es ρ) fun rs ρ1 => Ok2 (escs ρ1 rs) fun vs ρ2 => vs.length ≤ line ∧ Q (.v (.d (.tup (Val.datas vs)))) ρ2 := P.we_tup
theorem we_lst : Ok2 (ev M (.lst es) ρ) Q = Ok2 (evs M es ρ) fun rs ρ1 => Ok2 (escs ρ1 rs) fun vs ρ2 => vs.length ≤ line ∧ Q (.v (.ol vs)) ρ2 := P.we_lst
theorem we_turn {tg : Tg} {elt : E} {Q : Option Val → Env → Prop} : Ok2 (turnC M tg t elt x ρ) Q = Ok1 (asgT M tg (.d x) ρ) fun ρ1 => Ok2 (evT M t ρ1) fun b ρ2 => If b (Ok2 (ev M elt ρ2) fun r ρ3 => Ok2 (esc ρ3 r) fun v ρ4 => Q (some v) ρ4) (Q none ρ2) := P.we_turn
theorem we_comp {own : List Nat} {k : Ik} {tg : Tg} {elt : E} : Ok2 (ev M (.comp own k as tg t elt) ρ) Q = Ok2 (evs M as ρ) fun rs ρ1 => Ok2 (srcs ρ1 rs) fun ds ρ2 => Ok1 (items k ds) fun xs => (ownOk ρ2 own && own.all (fun i => !M.io i)) = true ∧ Ok2 (compL own (turnC M tg t elt) xs ρ2 []) fun vs ρ3 => Q (.v (.ol vs)) (unwipe ρ2 (wipe ρ3 own) own) := P.we_comp
theorem we_call {f : Nat} {dfl : List D} : Ok2 (ev M (.call f as dfl) ρ) Q = Ok2 (evs M as ρ) fun rs ρ1 => Ok2 (callR M.fl M.C f (rs ++ dfl.map fun x => .v (.d x)) ρ1) Q := P.we_call
theorem we_callk {f : Nat} {kas : Es} {perm : List Nat} : Ok2 (ev M (.callk f as kas perm) ρ) Q = Ok2 (evs M as ρ) fun rs ρ1 => Ok2 (evs M kas ρ1) fun ss ρ2 => Ok1 (pickR perm (rs ++ ss)) fun rs => Ok2 (callR M.fl M.C f rs ρ2) Q := P.we_callk
theorem we_fz : Ok2 (ev M (.fz a) ρ) Q = Ok2 (ev M a ρ) fun r ρ1 => Q r (fzR r ρ1) := P.we_fz
theorem we_isi {ts : List Ty} : Ok2 (ev M (.isi a ts) ρ) Q = Ok2 (ev M a ρ) fun r ρ1 => Ok1 (ndat ρ1 r) fun x => Q (.v (.d (.bl (ts.any (hasTy x))))) ρ1 := P.we_isi
theorem we_b1 {o : B1} : Ok2 (ev M (.b1 o a) ρ) Q = Ok2 (ev M a ρ) fun r ρ1 => Ok1 (bdat o ρ1 r) fun x => Ok1 (b1 o x) fun z => Q (.v z) ρ1 := P.we_b1
theorem we_b2 {o : B2} : Ok2 (ev M (.b2 o a b) ρ) Q = Ok2 (ev M a ρ) fun r ρ1 => Ok2 (ev M b ρ1) fun s ρ2 => Ok1 (fdat ρ2 r) fun x => Ok1 (fdat ρ2 s) fun y => Ok1 (b2 o x y) fun z => Q (.v z) ρ2 := P.we_b2
theorem we_met {o : Mt} : Ok2 (ev M (.met o a b) ρ) Q = Ok2 (ev M a ρ) fun r ρ1 => Ok1 (dat ρ1 r) fun x0 => mkd o x0 = true ∧ Ok2 (ev M b ρ1) fun s ρ2 => Ok1 (dat ρ2 r) fun x => Ok1 (dat ρ2 s) fun y => Ok1 (mt o x y) fun z => Q (.v (.d z)) ρ2 := P.we_met
theorem wint_int {Q : Int → Prop} {i : Int} : wint Q (.v (.d (.int i))) = Q i := P.wint_int
theorem we_ono {Q : Option Int → Env → Prop} : Ok2 (evO M .no ρ) Q = Q none ρ := P.we_ono
theorem we_oso {Q : Option Int → Env → Prop} : Ok2 (evO M (.so a) ρ) Q = Ok2 (ev M a ρ) fun r ρ1 => wint (fun i => Q (some i) ρ1) r := P.we_oso
theorem we_nil {Q : List R → Env → Prop} : Ok2 (evs M .nil ρ) Q = Q [] ρ := P.we_nil
theorem we_cons {Q : List R → Env → Prop} : Ok2 (evs M (.cons a es) ρ) Q = Ok2 (ev M a ρ) fun r ρ1 => Ok2 (evs M es ρ1) fun rs ρ2 => Q (r :: rs) ρ2 := P.we_cons
variable {Qt : Bool → Env → Prop}
theorem wt_yes : Ok2 (evT M .yes ρ) Qt = Qt true ρ := P.wt_yes
theorem wt_tr : Ok2 (evT M (.tr a) ρ) Qt = Ok2 (ev M a ρ) fun r ρ1 => Ok1 (ndat ρ1 r) fun x => Qt (truth x) ρ1 := P.wt_tr
theorem wt_no : Ok2 (evT M (.no t) ρ) Qt = Ok2 (evT M t ρ) fun z ρ1 => Qt (!z) ρ1 := P.wt_no
theorem wt_an : Ok2 (evT M (.an t u) ρ) Qt = Ok2 (evT M t ρ) fun z ρ1 => If z (Ok2 (evT M u ρ1) Qt) (Qt false ρ1) := P.wt_an
theorem wt_or : Ok2 (evT M (.orr t u) ρ) Qt = Ok2 (evT M t ρ) fun z ρ1 => If z (Qt true ρ1) (Ok2 (evT M u ρ1) Qt) := P.wt_or
end
section
variable {M : Mach} {ρ : Env} {i j : Nat} {a b c : E} {t u : T} {as es : Es} {s s' : S} {Q : Out → Prop} {v : Val}
theorem sq_nx : sq M s Q (.nx ρ) = Ok1 (Pu.exec M s ρ) Q := P.sq_nx
theorem sq_rt : sq M s Q (.rt v ρ) = Q (.rt v ρ) := P.sq_rt
theorem sq_bk : sq M s Q (.bk ρ) = Q (.bk ρ) := P.sq_bk
theorem sq_ct : sq M s Q (.ct ρ) = Q (.ct ρ) := P.sq_ct
theorem ws_seq : Ok1 (Pu.exec M (.seq s s') ρ) Q = Ok1 (Pu.exec M s ρ) (sq M s' Q) := P.ws_seq
theorem ws_set : Ok1 (Pu.exec M (.set i a) ρ) Q = Ok2 (ev M a ρ) fun r ρ1 => Ok2 (mov M.io ρ1 r) fun v ρ2 => Ok1 (asg M.io ρ2 i v) fun ρ3 => Q (.nx ρ3) := P.ws_set
theorem ws_movs_nil {Q : List Val → Env → Prop} : Ok2 (exec.movs M ρ []) Q = Q [] ρ := P.ws_movs_nil
theorem ws_movs_cons {r : R} {rs : List R} {Q : List Val → Env → Prop} : Ok2 (exec.movs M ρ (r :: rs)) Q = Ok2 (mov M.io ρ r) fun v ρ1 => Ok2 (exec.movs M ρ1 rs) fun vs ρ2 => Q (v :: vs) ρ2 := P.ws_movs_cons
theorem ws_asgs_nil {Q : Env → Prop} : Ok1 (exec.asgs M ρ [] []) Q = Q ρ := P.ws_asgs_nil
theorem ws_asgs_cons {is : List Nat} {vs : List Val} {Q : Env → Prop} : Ok1 (exec.asgs M ρ (i :: is) (v :: vs)) Q = Ok1 (asg M.io ρ i v) fun ρ1 => Ok1 (exec.asgs M ρ1 is vs) Q := P.ws_asgs_cons
theorem ws_setT {is : List Nat} : Ok1 (Pu.exec M (.setT is es) ρ) Q = Ok2 (evs M es ρ) fun rs ρ1 => Ok2 (exec.movs M ρ1 rs) fun vs ρ2 => Ok1 (exec.asgs M ρ2 is vs) fun ρ3 => Q (.nx ρ3) := P.ws_setT
theorem ws_unp {tg : Tg} : Ok1 (Pu.exec M (.unp tg a) ρ) Q = Ok2 (ev M a ρ) fun r ρ1 => Ok2 (esc ρ1 r) fun v ρ2 => Ok1 (asgT M tg v ρ2) fun ρ3 => Q (.nx ρ3) := P.ws_unp
theorem ws_ex : Ok1 (Pu.exec M (.ex a) ρ) Q = Ok2 (ev M a ρ) fun r ρ1 => Q (.nx ρ1) := P.ws_ex
theorem ws_ite : Ok1 (Pu.exec M (.ite t s s') ρ) Q = Ok2 (evT M t ρ) fun z ρ1 => If z (Ok1 (Pu.exec M s ρ1) Q) (Ok1 (Pu.exec M s' ρ1) Q) := P.ws_ite
theorem ws_ret : Ok1 (Pu.exec M (.ret a) ρ) Q = Ok2 (ev M a ρ) fun r ρ1 => Ok2 (mov M.io ρ1 r) fun v ρ2 => Q (.rt v ρ2) := P.ws_ret
theorem ws_retN : Ok1 (Pu.exec M .retN ρ) Q = Q (.rt (.d .non) ρ) := P.ws_retN
theorem ws_pass : Ok1 (Pu.exec M .pass ρ) Q = Q (.nx ρ) := P.ws_pass
theorem ws_brk : Ok1 (Pu.exec M .brk ρ) Q = Q (.bk ρ) := P.ws_brk
theorem ws_cont : Ok1 (Pu.exec M .cont ρ) Q = Q (.ct ρ) := P.ws_cont
theorem wol_ol {Q : List Val → Prop} {xs : List Val} : wol Q (.ol xs) = Q xs := P.wol_ol
theorem wda_d {Q : D → Prop} {x : D} : P.wda Q (.d x) = Q x := rfl
theorem wol2_ol {Q : List Val → Prop} {ys : List Val} : P.wol2 Q (some (.ol ys)) = Q ys := rfl
theorem ws_appAt {j : Int} : Ok1 (Pu.exec M (.appAt i (.cst (.int j)) (.cst .non)) ρ) Q = OkLo ρ[i]? (wol fun xs => Ok1 (L2.ixN xs.length j) fun m => P.wol2 (fun ys => ys.length < line ∧ Q (.nx (ρ.set i (.lo (.ol (xs.set m (.ol (ys ++ [.d .non])))))))) xs[m]?) := P.ws_appAt
theorem ws_aug {o : Op} : Ok1 (Pu.exec M (.aug i o a) ρ) Q = OkLo ρ[i]? (P.wda fun x => Ok2 (ev M a ρ) fun r ρ1 => Ok1 (dat ρ1 r) fun y => Ok1 (augop o x y) fun z => Ok1 (asg M.io ρ1 i (.d z)) fun ρ2 => Q (.nx ρ2)) := P.ws_aug
theorem ws_app : Ok1 (Pu.exec M (.app i a) ρ) Q = OkLo ρ[i]? (fun v => wol (fun _ => Ok2 (ev M a ρ) fun r ρ1 => Ok2 (esc ρ1 r) fun v ρ2 => OkLo ρ2[i]? fun u => wol (fun xs => xs.length < line ∧ Q (.nx (ρ2.set i (.lo (.ol (xs ++ [v])))))) u) v) := P.ws_app
theorem ws_for {k : Ik} {tg : Tg} : Ok1 (Pu.exec M (.for_ k as tg s) ρ) Q = Ok2 (evs M as ρ) fun rs ρ1 => Ok2 (srcs ρ1 rs) fun ds ρ2 => Ok1 (items k ds) fun xs => Ok1 (forL (fun x ρ' => asgT M tg (.d x) ρ') (Pu.exec M s) xs ρ2) Q := P.ws_for
theorem ws_whl : Ok1 (Pu.exec M (.whl t s) ρ) Q = Ok1 (whileL (evT M t) (Pu.exec M s) turnsMost ρ) Q := P.ws_whl
theorem wlst_lst {Q : List D → Prop} {xs : List D} : wlst Q (.lst xs) = Q xs := P.wlst_lst
theorem ws_ext : Ok1 (Pu.exec M (.ext i a) ρ) Q = OkLo ρ[i]? (fun v => wol (fun _ => Ok2 (ev M a ρ) fun r ρ1 => Ok1 (fdat ρ1 r) fun y => wlst (fun ys => OkLo ρ1[i]? fun u => wol (fun xs => xs.length + ys.length ≤ line ∧ Q (.nx (ρ1.set i (.lo (.ol (xs ++ ys.map .d)))))) u) y) v) := P.ws_ext
theorem wa_nm {Q : Env → Prop} : Ok1 (asgT M (.nm i) v ρ) Q = Ok1 (asg M.io ρ i v) Q := P.wa_nm
theorem wa_tp {ts : Tgs} {xs : List D} {Q : Env → Prop} : Ok1 (asgT M (.tp ts) (.d (.tup xs)) ρ) Q = Ok1 (asgTs M ts xs ρ) Q := P.wa_tp
theorem wa_nil {Q : Env → Prop} : Ok1 (asgTs M .nil [] ρ) Q = Q ρ := P.wa_nil
theorem wa_cons {tg : Tg} {ts : Tgs} {x : D} {xs : List D} {Q : Env → Prop} : Ok1 (asgTs M (.cons tg ts) (x :: xs) ρ) Q = Ok1 (asgT M tg (.d x) ρ) fun ρ1 => Ok1 (asgTs M ts xs ρ1) Q := P.wa_cons
theorem wa_ix {Q : Env → Prop} : Ok1 (asgT M (.ix i a) v ρ) Q = OkLo ρ[i]? (fun u => wol (fun _ => Ok2 (ev M a ρ) fun r ρ1 => wint (fun j => OkLo ρ1[i]? fun w => wol (fun xs => Ok1 (L2.ixN xs.length j) fun m => Q (ρ1.set i (.lo (.ol (xs.set m v))))) w) r) u) := P.wa_ix
theorem wid_int {Q : Int → Prop} {i : Int} : P.wid Q (.int i) = Q i := rfl
section
variable {a b c : E} {Q : R → Env → Prop}
theorem we_bs {o : Bs} : Ok2 (ev M (.bs o a) ρ) Q = Ok2 (ev M a ρ) fun r ρ1 => Ok1 (gdat ρ1 r) fun x => Ok1 (bsop o x) fun z => Q (.v z) ρ1 := P.we_bs
theorem we_sw3 : Ok2 (ev M (.sw3 a b c) ρ) Q = Ok2 (ev M a ρ) fun r ρ1 => Ok2 (ev M b ρ1) fun s ρ2 => Ok2 (ev M c ρ2) fun t ρ3 => Ok1 (sw3R r s t) fun w => Q (.v (.d w)) ρ3 := P.we_sw3
theorem we_pop {i : Nat} {k : Option Int} : Ok2 (ev M (.pop i k) ρ) Q = OkLo ρ[i]? (wol fun xs => Ok1 (popAt xs k) fun q => P.wda (fun x => Q (.v (.d x)) (ρ.set i (.lo (.ol q.2)))) q.1) := P.we_pop
theorem we_dlk {ks : List D} {vs : Es} : Ok2 (ev M (.dlk ks vs a) ρ) Q = Ok2 (evs M vs ρ) fun rs ρ1 => Ok2 (escs ρ1 rs) fun us ρ2 => Ok2 (ev M a ρ2) fun r ρ3 => Ok1 (dat ρ3 r) fun x => (ks.length = us.length ∧ us.all Val.isD = true) ∧ Ok1 (lookD ks (Val.datas us) x) fun z => Q (.v (.d z)) ρ3 := P.we_dlk
theorem we_lrng : Ok2 (ev M (.lrng a b) ρ) Q = Ok2 (ev M a ρ) fun r ρ1 => Ok2 (ev M b ρ1) fun s ρ2 => Ok1 (dat ρ2 r) fun x => Ok1 (dat ρ2 s) fun y => P.wid (fun i => P.wid (fun j => (ends62 i && ends62 j && decide ((j - i).toNat ≤ line)) = true ∧ Q (.v (.ol ((ranged i j).map .d))) ρ2) y) x := P.we_lrng
end
end
end Pu

set_option Elab.async false
set_option maxRecDepth 100000
set_option maxHeartbeats 2000000
/-! Rules that run a reading forward: operators, loops, calls. -/
namespace Pu
open P (wneg wbl wint wol wlst sq turnC Mk)
abbrev W (s : List Nat) : Slot := .lo (.d (.str s))
abbrev I (i : Int) : Slot := .lo (.d (.int i))
abbrev A (x : D) : Slot := .lo (.d x)
/-! ### operators -/
section
variable {i j : Int} {s t : List Nat} {xs ys : List D} {x y : D} {b c : Bool} {Q : Val → Prop} {Qb : Bool → Prop} {Qd : D → Prop} {Ql : List D → Prop} {lo hi : Option Int}
theorem o_add_int0 : Ok1 (binop .add (.int i) (.int j)) Q = Q (.d (.int (i + j))) := ok1_some
theorem o_add_int : Ok1 (binop .add (.int i) (.int j)) Q = Ok1 (some (i + j)) fun z => Q (.d (.int z)) := by
  simp only [ok1_some]
  exact o_add_int0
theorem o_add_str0 : Ok1 (binop .add (.str s) (.str t)) Q = (s.length + t.length ≤ line ∧ Q (.d (.str (s ++ t)))) := by
  show Ok1 (if _ then _ else _) Q = _
  rw [ok1_if, ok1_some]
theorem o_add_str : Ok1 (binop .add (.str s) (.str t)) Q = (s.length + t.length ≤ line ∧ Ok1 (some (s ++ t)) fun z => Q (.d (.str z))) := by
  simp only [ok1_some]
  exact o_add_str0
theorem o_add_lst0 : Ok1 (binop .add (.lst xs) (.lst ys)) Q = (xs.length + ys.length ≤ line ∧ Q (.ol ((xs ++ ys).map .d))) := by
  show Ok1 (if _ then _ else _) Q = _
  rw [ok1_if, ok1_some]
theorem o_add_lst : Ok1 (binop .add (.lst xs) (.lst ys)) Q = (xs.length + ys.length ≤ line ∧ Ok1 (some (xs ++ ys)) fun z => Q (.ol (z.map .d))) := by
  simp only [ok1_some]
  exact o_add_lst0
theorem o_add_tup : Ok1 (binop .add (.tup xs) (.tup ys)) Q = (xs.length + ys.length ≤ line ∧ Q (.d (.tup (xs ++ ys)))) := by
  show Ok1 (if _ then _ else _) Q = _
  rw [ok1_if, ok1_some]
theorem o_sub0 : Ok1 (binop .sub (.int i) (.int j)) Q = Q (.d (.int (i - j))) := ok1_some
theorem o_sub : Ok1 (binop .sub (.int i) (.int j)) Q = Ok1 (some (i - j)) fun z => Q (.d (.int z)) := by
  simp only [ok1_some]
  exact o_sub0
theorem o_mul_int0 : Ok1 (binop .mul (.int i) (.int j)) Q = ((small64 i || (small64 j || decide (i.natAbs.log2 + j.natAbs.log2 < 1000000))) = true ∧ Q (.d (.int (i * j)))) := by
  show Ok1 (if _ then _ else _) Q = _
  rw [ok1_if, ok1_some]
theorem o_mul_int : Ok1 (binop .mul (.int i) (.int j)) Q = ((small64 i || (small64 j || decide (i.natAbs.log2 + j.natAbs.log2 < 1000000))) = true ∧ Ok1 (some (i * j)) fun z => Q (.d (.int z))) := by
  simp only [ok1_some]
  exact o_mul_int0
theorem o_mul_str0 : Ok1 (binop .mul (.str s) (.int i)) Q = ((s.length * i.toNat ≤ line ∧ -(2 ^ 63) ≤ i ∧ i < 2 ^ 63) ∧ Q (.d (.str (List.replicate i.toNat s).flatten))) := by
  show Ok1 (if _ then _ else _) Q = _
  rw [ok1_if, ok1_some]
theorem o_mul_str : Ok1 (binop .mul (.str s) (.int i)) Q = ((s.length * i.toNat ≤ line ∧ -(2 ^ 63) ≤ i ∧ i < 2 ^ 63) ∧ Ok1 (some (List.replicate i.toNat s).flatten) fun z => Q (.d (.str z))) := by
  simp only [ok1_some]
  exact o_mul_str0
theorem o_mul_lst : Ok1 (binop .mul (.lst xs) (.int i)) Q = ((xs.length * i.toNat ≤ line ∧ -(2 ^ 63) ≤ i ∧ i < 2 ^ 63) ∧ Q (.ol ((List.replicate i.toNat xs).flatten.map .d))) := by
  show Ok1 (if _ then _ else _) Q = _
  rw [ok1_if, ok1_some]
theorem o_fdiv0 : Ok1 (binop .fdiv (.int i) (.int j)) Q = ((j ≠ 0 ∧ j.natAbs < 1073741824) ∧ Q (.d (.int (i.fdiv j)))) := by
  show Ok1 (if _ then _ else _) Q = _
  rw [ok1_if, ok1_some]
theorem o_fdiv : Ok1 (binop .fdiv (.int i) (.int j)) Q = ((j ≠ 0 ∧ j.natAbs < 1073741824) ∧ Ok1 (some (i.fdiv j)) fun z => Q (.d (.int z))) := by
  simp only [ok1_some]
  exact o_fdiv0
theorem o_mod0 : Ok1 (binop .mod (.int i) (.int j)) Q = (j ≠ 0 ∧ Q (.d (.int (i.fmod j)))) := by
  show Ok1 (if _ then _ else _) Q = _
  rw [ok1_if, ok1_some]
theorem o_mod : Ok1 (binop .mod (.int i) (.int j)) Q = (j ≠ 0 ∧ Ok1 (some (i.fmod j)) fun z => Q (.d (.int z))) := by
  simp only [ok1_some]
  exact o_mod0
theorem o_pow : Ok1 (binop .pow (.int i) (.int j)) Q = ((0 ≤ j ∧ j ≤ 1000000 ∧ i.natAbs < 2 ^ 64) ∧ Q (.d (.int (i ^ j.toNat)))) := by
  show Ok1 (if _ then _ else _) Q = _
  rw [ok1_if, ok1_some]
theorem o_eq_int0 : Ok1 (cmpop .eq (.int i) (.int j)) Qb = Qb (decide (i = j)) := by rw [eq_int, ok1_some]
theorem o_eq_int : Ok1 (cmpop .eq (.int i) (.int j)) Qb = Ok1 (some (decide (i = j))) fun z => Qb z := by
  simp only [ok1_some]
  exact o_eq_int0
theorem o_ne_int0 : Ok1 (cmpop .ne (.int i) (.int j)) Qb = Qb (!decide (i = j)) := by rw [ne_int, ok1_some]
theorem o_ne_int : Ok1 (cmpop .ne (.int i) (.int j)) Qb = Ok1 (some (!decide (i = j))) fun z => Qb z := by
  simp only [ok1_some]
  exact o_ne_int0
theorem o_eq_str0 : Ok1 (cmpop .eq (.str s) (.str t)) Qb = ((okS s = true ∧ okS t = true) ∧ Qb (decide (s = t))) := by
  have e : cmpop .eq (.str s) (.str t) = if (D.ok (.str s) && D.ok (.str t)) = true then some (D.eqv (.str s) (.str t)) else none := rfl
  rw [e, ok_str, ok_str, eqv_str, ok1_if, ok1_some, Bool.and_eq_true]
theorem o_eq_str : Ok1 (cmpop .eq (.str s) (.str t)) Qb = ((okS s = true ∧ okS t = true) ∧ Ok1 (some (decide (s = t))) fun z => Qb z) := by
  simp only [ok1_some]
  exact o_eq_str0
theorem o_ne_str0 : Ok1 (cmpop .ne (.str s) (.str t)) Qb = ((okS s = true ∧ okS t = true) ∧ Qb (!decide (s = t))) := by
  have e : cmpop .ne (.str s) (.str t) = if (D.ok (.str s) && D.ok (.str t)) = true then some (!D.eqv (.str s) (.str t)) else none := rfl
  rw [e, ok_str, ok_str, eqv_str, ok1_if, ok1_some, Bool.and_eq_true]
theorem o_ne_str : Ok1 (cmpop .ne (.str s) (.str t)) Qb = ((okS s = true ∧ okS t = true) ∧ Ok1 (some (!decide (s = t))) fun z => Qb z) := by
  simp only [ok1_some]
  exact o_ne_str0
/-- == of any two values -/
theorem o_eq : Ok1 (cmpop .eq x y) Qb = ((x.ok && y.ok) = true ∧ Qb (x.eqv y)) := by
  have e : cmpop .eq x y = if (x.ok && y.ok) = true then some (x.eqv y) else none := by cases x <;> rfl
  rw [e, ok1_if, ok1_some]
theorem o_ne : Ok1 (cmpop .ne x y) Qb = ((x.ok && y.ok) = true ∧ Qb (!x.eqv y)) := by
  have e : cmpop .ne x y = if (x.ok && y.ok) = true then some (!x.eqv y) else none := by cases x <;> rfl
  rw [e, ok1_if, ok1_some]
theorem o_lt_int0 : Ok1 (cmpop .lt (.int i) (.int j)) Qb = Qb (decide (i < j)) := ok1_some
theorem o_lt_int : Ok1 (cmpop .lt (.int i) (.int j)) Qb = Ok1 (some (decide (i < j))) fun z => Qb z := by
  simp only [ok1_some]
  exact o_lt_int0
theorem o_le_int0 : Ok1 (cmpop .le (.int i) (.int j)) Qb = Qb (decide (i ≤ j)) := ok1_some
theorem o_le_int : Ok1 (cmpop .le (.int i) (.int j)) Qb = Ok1 (some (decide (i ≤ j))) fun z => Qb z := by
  simp only [ok1_some]
  exact o_le_int0
theorem o_gt_int0 : Ok1 (cmpop .gt (.int i) (.int j)) Qb = Qb (decide (j < i)) := ok1_some
theorem o_gt_int : Ok1 (cmpop .gt (.int i) (.int j)) Qb = Ok1 (some (decide (j < i))) fun z => Qb z := by
  simp only [ok1_some]
  exact o_gt_int0
theorem o_ge_int0 : Ok1 (cmpop .ge (.int i) (.int j)) Qb = Qb (decide (j ≤ i)) := ok1_some
theorem o_ge_int : Ok1 (cmpop .ge (.int i) (.int j)) Qb = Ok1 (some (decide (j ≤ i))) fun z => Qb z := by
  simp only [ok1_some]
  exact o_ge_int0
theorem o_lt_str0 : Ok1 (cmpop .lt (.str s) (.str t)) Qb = Qb (ltStr s t) := ok1_some
theorem o_lt_str : Ok1 (cmpop .lt (.str s) (.str t)) Qb = Ok1 (some (ltStr s t)) fun z => Qb z := by
  simp only [ok1_some]
  exact o_lt_str0
theorem o_le_str0 : Ok1 (cmpop .le (.str s) (.str t)) Qb = Qb (!ltStr t s) := ok1_some
theorem o_le_str : Ok1 (cmpop .le (.str s) (.str t)) Qb = Ok1 (some (!ltStr t s)) fun z => Qb z := by
  simp only [ok1_some]
  exact o_le_str0
theorem o_gt_str0 : Ok1 (cmpop .gt (.str s) (.str t)) Qb = Qb (ltStr t s) := ok1_some
theorem o_gt_str : Ok1 (cmpop .gt (.str s) (.str t)) Qb = Ok1 (some (ltStr t s)) fun z => Qb z := by
  simp only [ok1_some]
  exact o_gt_str0
theorem o_ge_str0 : Ok1 (cmpop .ge (.str s) (.str t)) Qb = Qb (!ltStr s t) := ok1_some
theorem o_ge_str : Ok1 (cmpop .ge (.str s) (.str t)) Qb = Ok1 (some (!ltStr s t)) fun z => Qb z := by
  simp only [ok1_some]
  exact o_ge_str0
theorem o_in_str0 {c : Nat} : Ok1 (cmpop .in_ (.str [c]) (.str s)) Qb = Qb (decide (c ∈ s)) := ok1_some
theorem o_in_str {c : Nat} : Ok1 (cmpop .in_ (.str [c]) (.str s)) Qb = Ok1 (some (decide (c ∈ s))) fun z => Qb z := by
  simp only [ok1_some]
  exact o_in_str0
theorem o_nin_str0 {c : Nat} : Ok1 (cmpop .nin (.str [c]) (.str s)) Qb = Qb (!decide (c ∈ s)) := ok1_some
theorem o_nin_str {c : Nat} : Ok1 (cmpop .nin (.str [c]) (.str s)) Qb = Ok1 (some (!decide (c ∈ s))) fun z => Qb z := by
  simp only [ok1_some]
  exact o_nin_str0
/-- whether it is None -/
def isNon : D → Bool
  | .non => true
  | _ => false
theorem isNon_non : isNon .non = true := rfl
theorem isNon_int : isNon (.int i) = false := rfl
theorem isNon_str : isNon (.str s) = false := rfl
theorem isNon_lst : isNon (.lst xs) = false := rfl
theorem isNon_tup : isNon (.tup xs) = false := rfl
theorem isNon_bl : isNon (.bl b) = false := rfl
theorem o_is_non0 : Ok1 (cmpop .is_ x .non) Qb = Qb (isNon x) := by cases x <;> exact ok1_some
theorem o_is_non : Ok1 (cmpop .is_ x .non) Qb = Ok1 (some (isNon x)) fun z => Qb z := by
  simp only [ok1_some]
  exact o_is_non0
theorem o_isn_non0 : Ok1 (cmpop .isn x .non) Qb = Qb (!isNon x) := by cases x <;> exact ok1_some
theorem o_isn_non : Ok1 (cmpop .isn x .non) Qb = Ok1 (some (!isNon x)) fun z => Qb z := by
  simp only [ok1_some]
  exact o_isn_non0
theorem o_is_bl0 : Ok1 (cmpop .is_ (.bl b) (.bl c)) Qb = Qb (b == c) := ok1_some
theorem o_is_bl : Ok1 (cmpop .is_ (.bl b) (.bl c)) Qb = Ok1 (some (b == c)) fun z => Qb z := by
  simp only [ok1_some]
  exact o_is_bl0
theorem o_isn_bl0 : Ok1 (cmpop .isn (.bl b) (.bl c)) Qb = Qb (b != c) := ok1_some
theorem o_isn_bl : Ok1 (cmpop .isn (.bl b) (.bl c)) Qb = Ok1 (some (b != c)) fun z => Qb z := by
  simp only [ok1_some]
  exact o_isn_bl0
theorem o_idx_lst : Ok1 (index (.lst xs) (.int i)) Qd = Ok1 (L2.atI xs i) Qd := rfl
theorem o_idx_tup : Ok1 (index (.tup xs) (.int i)) Qd = Ok1 (L2.atI xs i) Qd := rfl
theorem o_idx_str : Ok1 (index (.str s) (.int i)) Qd = Ok1 (L2.atI s i) fun c => Qd (.str [c]) := ok1_map
theorem o_sl_str0 : Ok1 (slice (.str s) lo hi) Q = Q (.d (.str (cut s lo hi))) := ok1_some
theorem o_sl_str : Ok1 (slice (.str s) lo hi) Q = Ok1 (some (cut s lo hi)) fun z => Q (.d (.str z)) := by
  simp only [ok1_some]
  exact o_sl_str0
theorem o_sl_lst0 : Ok1 (slice (.lst xs) lo hi) Q = Q (.ol ((cut xs lo hi).map .d)) := ok1_some
theorem o_sl_lst : Ok1 (slice (.lst xs) lo hi) Q = Ok1 (some (cut xs lo hi)) fun z => Q (.ol (z.map .d)) := by
  simp only [ok1_some]
  exact o_sl_lst0
theorem o_sl_tup0 : Ok1 (slice (.tup xs) lo hi) Q = Q (.d (.tup (cut xs lo hi))) := ok1_some
theorem o_sl_tup : Ok1 (slice (.tup xs) lo hi) Q = Ok1 (some (cut xs lo hi)) fun z => Q (.d (.tup z)) := by
  simp only [ok1_some]
  exact o_sl_tup0
theorem o_rev_str0 : Ok1 (revd (.str s)) Q = Q (.d (.str s.reverse)) := ok1_some
theorem o_rev_str : Ok1 (revd (.str s)) Q = Ok1 (some (s.reverse)) fun z => Q (.d (.str z)) := by
  simp only [ok1_some]
  exact o_rev_str0
theorem o_rev_lst0 : Ok1 (revd (.lst xs)) Q = Q (.ol (xs.reverse.map .d)) := ok1_some
theorem o_rev_lst : Ok1 (revd (.lst xs)) Q = Ok1 (some (xs.reverse)) fun z => Q (.ol (z.map .d)) := by
  simp only [ok1_some]
  exact o_rev_lst0
theorem o_len_str0 : Ok1 (b1 .len (.str s)) Q = Q (.d (.int s.length)) := ok1_some
theorem o_len_str : Ok1 (b1 .len (.str s)) Q = Ok1 (some (s.length)) fun z => Q (.d (.int z)) := by
  simp only [ok1_some]
  exact o_len_str0
theorem o_len_lst0 : Ok1 (b1 .len (.lst xs)) Q = Q (.d (.int xs.length)) := ok1_some
theorem o_len_lst : Ok1 (b1 .len (.lst xs)) Q = Ok1 (some (xs.length)) fun z => Q (.d (.int z)) := by
  simp only [ok1_some]
  exact o_len_lst0
theorem o_len_tup0 : Ok1 (b1 .len (.tup xs)) Q = Q (.d (.int xs.length)) := ok1_some
theorem o_len_tup : Ok1 (b1 .len (.tup xs)) Q = Ok1 (some (xs.length)) fun z => Q (.d (.int z)) := by
  simp only [ok1_some]
  exact o_len_tup0
theorem o_abs0 : Ok1 (b1 .abs (.int i)) Q = Q (.d (.int (if i < 0 then -i else i))) := ok1_some
theorem o_abs : Ok1 (b1 .abs (.int i)) Q = Ok1 (some (if i < 0 then -i else i)) fun z => Q (.d (.int z)) := by
  simp only [ok1_some]
  exact o_abs0
theorem o_int_int : Ok1 (b1 .int (.int i)) Q = Q (.d (.int i)) := ok1_some
theorem o_int_bl : Ok1 (b1 .int (.bl b)) Q = Q (.d (.int (if b then 1 else 0))) := ok1_some
theorem o_bool_int : Ok1 (b1 .bool (.int i)) Q = Q (.d (.bl (i != 0))) := ok1_some
theorem o_list_lst : Ok1 (b1 .list (.lst xs)) Q = Q (.ol (xs.map .d)) := ok1_some
theorem o_list_tup : Ok1 (b1 .list (.tup xs)) Q = Q (.ol (xs.map .d)) := ok1_some
theorem o_aug_add : Ok1 (augop .add (.int i) (.int j)) Qd = Ok1 (some (i + j)) fun z => Qd (.int z) := by
  simp only [ok1_some]
  exact ok1_some
theorem o_aug_sub : Ok1 (augop .sub (.int i) (.int j)) Qd = Ok1 (some (i - j)) fun z => Qd (.int z) := by
  simp only [ok1_some]
  exact ok1_some
theorem o_enzip : Ok1 (items .enzip [.str s, .str t]) Ql = Ql (numbered 0 (pairs (s.map fun c => .str [c]) (t.map fun c => .str [c]))) := ok1_some
theorem o_list_str : Ok1 (b1 .list (.str s)) Q = Q (.ol (s.map fun c => .d (.str [c]))) := ok1_some
theorem o_sorted_str : Ok1 (b1 .sorted (.str s)) Q = Q (.ol ((s.mergeSort fun a b => decide (a ≤ b)).map fun c => .d (.str [c]))) := ok1_some
theorem o_sorted : Ok1 (b1 .sorted (.lst xs)) Q = (sortableD xs = true ∧ Q (.ol ((xs.mergeSort dle).map .d))) := by
  show Ok1 (if _ then _ else _) Q = _
  rw [ok1_if, ok1_some]
theorem mkd_str {o : Mt} : mkd o (.str s) = True := by cases o <;> exact eq_true rfl
theorem mkd_lst : mkd .index (.lst xs) = True := eq_true rfl
theorem o_ix_str : Ok1 (mt .index (.str s) (.str t)) Qd = Ok1 (firstAt s t) fun i => Qd (.int i) := ok1_map
theorem o_ix_lst : Ok1 (mt .index (.lst xs) y) Qd = ((D.ok (.lst xs) && y.ok) = true ∧ Ok1 (xs.findIdx? (fun z => D.eqv z y)) fun i => Qd (.int i)) := by
  show Ok1 (if _ then _ else _) Qd = _
  rw [ok1_if, ok1_map]
theorem o_sw : Ok1 (mt .startswith (.str s) (.str t)) Qd = Qd (.bl (t.isPrefixOf s)) := ok1_some
theorem o_ew : Ok1 (mt .endswith (.str s) (.str t)) Qd = Qd (.bl (t.isSuffixOf s)) := ok1_some
theorem o_tuple_lst : Ok1 (b1 .tuple (.lst xs)) Q = Q (.d (.tup xs)) := ok1_some
theorem o_tuple_tup : Ok1 (b1 .tuple (.tup xs)) Q = Q (.d (.tup xs)) := ok1_some
theorem o_repr : Ok1 (b1 .repr x) Q = (x.showy = true ∧ Q (.d (.str x.repr))) := by
  have e : b1 .repr x = if x.showy = true then some (.d (.str x.repr)) else none := by cases x <;> rfl
  rw [e, ok1_if, ok1_some]
theorem bls_mapf {α : Type} (f : α → Bool) : ∀ l : List α, bls? (l.map fun a => .bl (f a)) = some (l.map f)
  | [] => rfl
  | a :: l => by rw [List.map_cons, bls?, bls_mapf f l]; rfl
theorem ints_mapf {α : Type} (f : α → Int) : ∀ l : List α, ints? (l.map fun a => .int (f a)) = some (l.map f)
  | [] => rfl
  | a :: l => by rw [List.map_cons, ints?, ints_mapf f l]; rfl
theorem strs_mapf {α : Type} (f : α → List Nat) : ∀ l : List α, strs? (l.map fun a => .str (f a)) = some (l.map f)
  | [] => rfl
  | a :: l => by rw [List.map_cons, strs?, strs_mapf f l]; rfl
theorem o_all0 {α : Type} {f : α → Bool} {l : List α} : Ok1 (b1 .all (.lst (l.map fun a => .bl (f a)))) Q = Q (.d (.bl (l.all f))) := by
  rw [all_lst (bls_mapf f l), ok1_some, List.all_map]; rfl
theorem o_all {α : Type} {f : α → Bool} {l : List α} : Ok1 (b1 .all (.lst (l.map fun a => .bl (f a)))) Q = Ok1 (some (l.all f)) fun z => Q (.d (.bl z)) := by
  simp only [ok1_some]
  exact o_all0
theorem o_any0 {α : Type} {f : α → Bool} {l : List α} : Ok1 (b1 .any (.lst (l.map fun a => .bl (f a)))) Q = Q (.d (.bl (l.any f))) := by
  rw [any_lst (bls_mapf f l), ok1_some, List.any_map]; rfl
theorem o_any {α : Type} {f : α → Bool} {l : List α} : Ok1 (b1 .any (.lst (l.map fun a => .bl (f a)))) Q = Ok1 (some (l.any f)) fun z => Q (.d (.bl z)) := by
  simp only [ok1_some]
  exact o_any0
theorem o_sum {α : Type} {f : α → Int} {l : List α} : Ok1 (b1 .sum (.lst (l.map fun a => .int (f a)))) Q = Q (.d (.int (l.map f).sum)) := by
  show Ok1 ((ints? _).map _) Q = _
  rw [ints_mapf, ok1_map, ok1_some]
theorem o_max {α : Type} {f : α → Int} {l : List α} : Ok1 (b1 .max (.lst (l.map fun a => .int (f a)))) Q = Ok1 (maxI (l.map f)) fun m => Q (.d (.int m)) := by
  have e : b1 .max (.lst (l.map fun a => .int (f a))) = (maxI (l.map f)).map fun m => .d (.int m) := by
    show (match ints? (l.map fun a => D.int (f a)) with | some ns => (maxI ns).map fun m => Val.d (.int m) | none => _) = _
    rw [ints_mapf]
  rw [e, ok1_map]
theorem o_maxd {α : Type} {f : α → Int} {l : List α} : Ok1 (b2 .maxd (.lst (l.map fun a => .int (f a))) (.int j)) Q = Ok1 (some ((maxI (l.map f)).getD j)) fun m => Q (.d (.int m)) := by
  show Ok1 ((ints? _).map _) Q = _
  rw [ints_mapf, ok1_some]; exact ok1_some
theorem o_min {α : Type} {f : α → Int} {l : List α} : Ok1 (b1 .min (.lst (l.map fun a => .int (f a)))) Q = Ok1 (minI (l.map f)) fun m => Q (.d (.int m)) := by
  have e : b1 .min (.lst (l.map fun a => .int (f a))) = (minI (l.map f)).map fun m => .d (.int m) := by
    show (match ints? (l.map fun a => D.int (f a)) with | some ns => (minI ns).map fun m => Val.d (.int m) | none => _) = _
    rw [ints_mapf]
  rw [e, ok1_map]
theorem o_max20 : Ok1 (b2 .max (.int i) (.int j)) Q = Q (.d (.int (if j > i then j else i))) := ok1_some
theorem o_max2 : Ok1 (b2 .max (.int i) (.int j)) Q = Ok1 (some (if j > i then j else i)) fun z => Q (.d (.int z)) := by
  simp only [ok1_some]
  exact o_max20
theorem o_min20 : Ok1 (b2 .min (.int i) (.int j)) Q = Q (.d (.int (if j < i then j else i))) := ok1_some
theorem o_min2 : Ok1 (b2 .min (.int i) (.int j)) Q = Ok1 (some (if j < i then j else i)) fun z => Q (.d (.int z)) := by
  simp only [ok1_some]
  exact o_min20
theorem o_divmod : Ok1 (b2 .divmod (.int i) (.int j)) Q = ((0 < j ∧ j < 1073741824) ∧ Q (.d (.tup [.int (i / j), .int (i % j)]))) := by
  show Ok1 (if _ then _ else _) Q = _
  rw [ok1_if, ok1_some]
theorem o_join0 {α : Type} {f : α → List Nat} {l : List α} : Ok1 (b2 .join (.str s) (.lst (l.map fun a => .str (f a)))) Q = (((l.map f).map List.length).sum + (l.map f).length * s.length ≤ line ∧ Q (.d (.str (joinL s (l.map f))))) := by
  show Ok1 ((strs? _).bind _) Q = _
  rw [strs_mapf, ok1_bind, ok1_some, ok1_if, ok1_some]
theorem o_join {α : Type} {f : α → List Nat} {l : List α} : Ok1 (b2 .join (.str s) (.lst (l.map fun a => .str (f a)))) Q = (((l.map f).map List.length).sum + (l.map f).length * s.length ≤ line ∧ Ok1 (some (joinL s (l.map f))) fun z => Q (.d (.str z))) := by
  simp only [ok1_some]
  exact o_join0
theorem o_seq_lst : Ok1 (items .seq [.lst xs]) Ql = Ql xs := ok1_some
theorem o_seq_tup : Ok1 (items .seq [.tup xs]) Ql = Ql xs := ok1_some
theorem o_seq_str : Ok1 (items .seq [.str s]) Ql = Ql (s.map fun c => .str [c]) := ok1_some
theorem o_rng10 : Ok1 (items .rng1 [.int j]) Ql = (ends62 j = true ∧ Ql (ranged 0 j)) := by
  show Ok1 (if _ then _ else _) Ql = _
  rw [ok1_if, ok1_some]
theorem o_rng1 : Ok1 (items .rng1 [.int j]) Ql = (ends62 j = true ∧ Ok1 (some (ranged 0 j)) fun z => Ql z) := by
  simp only [ok1_some]
  exact o_rng10
theorem o_rng20 : Ok1 (items .rng2 [.int i, .int j]) Ql = ((ends62 i && ends62 j) = true ∧ Ql (ranged i j)) := by
  show Ok1 (if _ then _ else _) Ql = _
  rw [ok1_if, ok1_some]
theorem o_rng2 : Ok1 (items .rng2 [.int i, .int j]) Ql = ((ends62 i && ends62 j) = true ∧ Ok1 (some (ranged i j)) fun z => Ql z) := by
  simp only [ok1_some]
  exact o_rng20
theorem o_zip_lst : Ok1 (items .zip [.lst xs, .lst ys]) Ql = Ql (pairs xs ys) := ok1_some
theorem o_zip_tup : Ok1 (items .zip [.tup xs, .tup ys]) Ql = Ql (pairs xs ys) := ok1_some
theorem o_enum : Ok1 (items .enum [.lst xs]) Ql = Ql (numbered 0 xs) := ok1_some
theorem o_gcd : Ok1 (b2 .gcd (.int i) (.int j)) Q = Q (.d (.int ((Nat.gcd i.natAbs j.natAbs : Nat) : Int))) := ok1_some
theorem o_sset : Ok1 (bsop .sset (.lst xs)) Q = ((hashable xs && sortableD (dd xs)) = true ∧ Q (.ol (((dd xs).mergeSort dle).map .d))) := by
  show Ok1 (if _ then _ else _) Q = _
  rw [ok1_if, ok1_some]
theorem o_ssetT : Ok1 (bsop .sset (.tup xs)) Q = ((hashable xs && sortableD (dd xs)) = true ∧ Q (.ol (((dd xs).mergeSort dle).map .d))) := by
  show Ok1 (if _ then _ else _) Q = _
  rw [ok1_if, ok1_some]
theorem o_lset : Ok1 (bsop .lset (.lst xs)) Q = (hashable xs = true ∧ Q (.d (.int (dd xs).length))) := by
  show Ok1 (if _ then _ else _) Q = _
  rw [ok1_if, ok1_some]
theorem o_lsetT : Ok1 (bsop .lset (.tup xs)) Q = (hashable xs = true ∧ Q (.d (.int (dd xs).length))) := by
  show Ok1 (if _ then _ else _) Q = _
  rw [ok1_if, ok1_some]
theorem o_sw3 {k : Nat} : Ok1 (sw3R (.v (.d (.str s))) (.v (.d (.str t))) (.v (.d (.int (k : Int))))) Qd = (k ≤ s.length ∧ Qd (.bl (t.isPrefixOf (s.drop k)))) := by
  show Ok1 (if _ then _ else _) Qd = _
  rw [ok1_if, ok1_some]
  simp
theorem o_revl : Ok1 (items .rev [.lst xs]) Ql = Ql xs.reverse := ok1_some
end
theorem o_eq_bl {b c : Bool} {Qb : Bool → Prop} : Ok1 (cmpop .eq (.bl b) (.bl c)) Qb = Qb (b == c) := by
  rw [o_eq]
  have e : D.eqv (.bl b) (.bl c) = (b == c) := by cases b <;> cases c <;> rfl
  rw [e]
  exact propext ⟨fun h => h.2, fun h => ⟨by cases b <;> cases c <;> decide, h⟩⟩
theorem o_ne_bl {b c : Bool} {Qb : Bool → Prop} : Ok1 (cmpop .ne (.bl b) (.bl c)) Qb = Qb (b != c) := by
  rw [o_ne]
  have e : D.eqv (.bl b) (.bl c) = (b == c) := by cases b <;> cases c <;> rfl
  rw [e]
  exact propext ⟨fun h => h.2, fun h => ⟨by cases b <;> cases c <;> decide, h⟩⟩
theorem small_lit {i : Int} (h1 : -(2 ^ 64) < i) (h2 : i < 2 ^ 64) : small64 i = true := by
  unfold small64
  rw [decide_eq_true h1, decide_eq_true h2]; rfl
theorem ends62_of {i : Int} (h1 : -(2 ^ 62) ≤ i) (h2 : i < 2 ^ 62) : ends62 i = true := by
  unfold ends62
  rw [decide_eq_true h1, decide_eq_true h2]; rfl
theorem bd_len {ρ : Env} {r : R} {Q : D → Prop} : Ok1 (bdat .len ρ r) Q = Ok1 (dat ρ r) Q := rfl
theorem bd_abs {ρ : Env} {r : R} {Q : D → Prop} : Ok1 (bdat .abs ρ r) Q = Ok1 (gdat ρ r) Q := rfl
theorem bd_sum {ρ : Env} {r : R} {Q : D → Prop} : Ok1 (bdat .sum ρ r) Q = Ok1 (gdat ρ r) Q := rfl
theorem bd_all {ρ : Env} {r : R} {Q : D → Prop} : Ok1 (bdat .all ρ r) Q = Ok1 (gdat ρ r) Q := rfl
theorem bd_any {ρ : Env} {r : R} {Q : D → Prop} : Ok1 (bdat .any ρ r) Q = Ok1 (gdat ρ r) Q := rfl
theorem bd_int {ρ : Env} {r : R} {Q : D → Prop} : Ok1 (bdat .int ρ r) Q = Ok1 (gdat ρ r) Q := rfl
theorem bd_list {ρ : Env} {r : R} {Q : D → Prop} : Ok1 (bdat .list ρ r) Q = Ok1 (gdat ρ r) Q := rfl
theorem bd_tuple {ρ : Env} {r : R} {Q : D → Prop} : Ok1 (bdat .tuple ρ r) Q = Ok1 (gdat ρ r) Q := rfl
theorem bd_repr {ρ : Env} {r : R} {Q : D → Prop} : Ok1 (bdat .repr ρ r) Q = Ok1 (gdat ρ r) Q := rfl
theorem bd_max {ρ : Env} {r : R} {Q : D → Prop} : Ok1 (bdat .max ρ r) Q = Ok1 (gdat ρ r) Q := rfl
theorem bd_min {ρ : Env} {r : R} {Q : D → Prop} : Ok1 (bdat .min ρ r) Q = Ok1 (gdat ρ r) Q := rfl
theorem bd_sorted {ρ : Env} {r : R} {Q : D → Prop} : Ok1 (bdat .sorted ρ r) Q = Ok1 (gdat ρ r) Q := rfl
theorem bd_bool {ρ : Env} {r : R} {Q : D → Prop} : Ok1 (bdat .bool ρ r) Q = Ok1 (gdat ρ r) Q := rfl
/-! ### values -/
theorem data_d {x : D} : Val.data (.d x) = x := rfl
theorem data_ol {xs : List Val} : Val.data (.ol xs) = .lst (Val.datas xs) := rfl
theorem datas_nil : Val.datas [] = [] := rfl
theorem datas_cons {v : Val} {xs : List Val} : Val.datas (v :: xs) = v.data :: Val.datas xs := rfl
theorem datas_app : ∀ xs ys : List Val, Val.datas (xs ++ ys) = Val.datas xs ++ Val.datas ys
  | [], _ => rfl
  | x :: xs, ys => by rw [List.cons_append, datas_cons, datas_cons, datas_app xs ys]; rfl
theorem datas_mapd {α : Type} {h : α → D} {l : List α} : Val.datas (l.map fun a => .d (h a)) = l.map h := datas_d h l
theorem datas_map1 {l : List D} : Val.datas (l.map .d) = l := by
  have := datas_d (fun x : D => x) l
  rwa [List.map_id'] at this
theorem flat_d {x : D} : Val.flat (.d x) = true := rfl
theorem flat_nil : Val.flat (.ol []) = true := rfl
theorem flat_cons {x : D} {xs : List Val} : Val.flat (.ol (.d x :: xs)) = Val.flat (.ol xs) := rfl
theorem flat_mapd {α : Type} {h : α → D} {l : List α} : Val.flat (.ol (l.map fun a => .d (h a))) = true := by
  show (List.map _ _).all Val.isD = true
  rw [List.all_map]
  exact List.all_eq_true.mpr fun _ _ => rfl
theorem flat_app {xs ys : List Val} : Val.flat (.ol (xs ++ ys)) = (Val.flat (.ol xs) && Val.flat (.ol ys)) := by
  show (xs ++ ys).all Val.isD = _
  rw [List.all_append]; rfl
theorem flat_map1 {l : List D} : Val.flat (.ol (l.map .d)) = true := flat_mapd (h := fun x => x)
theorem atom_int {i : Int} : Val.atom (.d (.int i)) = true := rfl
theorem atom_str {s : List Nat} : Val.atom (.d (.str s)) = true := rfl
theorem atom_bl {b : Bool} : Val.atom (.d (.bl b)) = true := rfl
theorem atom_non : Val.atom (.d .non) = true := rfl
/-- a value put behind an own list -/
def appV (x : D) : Val → Val
  | .ol ys => .ol (ys ++ [.d x])
  | v => v
def shortOl : Val → Bool
  | .ol ys => decide (ys.length < line)
  | .d _ => false
theorem appV_ol {x : D} {ys : List Val} : appV x (.ol ys) = .ol (ys ++ [.d x]) := rfl
theorem shortOl_ol {ys : List Val} : shortOl (.ol ys) = decide (ys.length < line) := rfl
theorem each_aux {M : Mach} {xs : List Val} {ρ : Env} {i j : Nat} {x : D} (f : Val → Bool) (g : Val → Val) (hf : f = shortOl) (hg : g = appV x) :
    (if (xs.all f && (i != j && (!M.io j && decide (j < ρ.length)))) = true then some (Out.nx ((putS ρ i (.ol (xs.map g))).set j .un)) else none) = (if (xs.all shortOl && (i != j && (!M.io j && decide (j < ρ.length)))) = true then some (Out.nx ((ρ.set i (.lo (.ol (xs.map (appV x))))).set j .un)) else none) := by
  rw [hf, hg]; rfl
theorem ws_each {F : Nat → Option Fd} {k : Nat} {fl : List Bool} {ρ : Env} {i j : Nat} {x : D} {Q : Out → Prop} : Ok1 (Pu.exec (Mk F k fl) (.appEach i j (.cst x)) ρ) Q = OkLo ρ[i]? fun v => wol (fun xs => xs.all shortOl = true ∧ (i ≠ j ∧ fl.getD j false = false ∧ j < ρ.length) ∧ Q (.nx ((ρ.set i (.lo (.ol (xs.map (appV x))))).set j .un))) v := by
  rw [← okLo_getS]
  unfold Pu.exec
  generalize getS ρ i = z
  cases z with
  | none => exact ok1_none.trans ok1_none.symm
  | some v => cases v with
    | d y => exact ok1_none.trans (by rw [ok1_some]; rfl)
    | ol xs =>
      rw [ok1_some, wol_ol]
      refine (congrArg (fun z => Ok1 z Q) (each_aux (M := Mk F k fl) (xs := xs) (ρ := ρ) (i := i) (j := j) (x := x) _ _ (by funext v; cases v <;> rfl) (by funext v; cases v <;> rfl))).trans ?_
      show Ok1 (if _ then _ else _) Q = _
      rw [ok1_if, ok1_some]
      simp only [Bool.and_eq_true, bne_iff_ne, ne_eq, Bool.not_eq_true', decide_eq_true_eq, and_assoc]
      rfl
/-! ### slots -/
section
variable {a : Slot} {l : List Slot} {n i : Nat} {ρ : Env} {Q : R → Env → Prop} {Q1 : Val → Prop}
theorem sl_s : OkSl (a :: l)[n + 1]? i ρ Q = OkSl l[n]? i ρ Q := by rw [List.getElem?_cons_succ]
theorem sl_0 : OkSl (a :: l)[0]? i ρ Q = OkSl (some a) i ρ Q := rfl
theorem lo_s : OkLo (a :: l)[n + 1]? Q1 = OkLo l[n]? Q1 := by rw [List.getElem?_cons_succ]
theorem lo_0 : OkLo (a :: l)[0]? Q1 = OkLo (some a) Q1 := rfl
end
/-! ### truth -/
theorem truth_bl' {b : Bool} : truth (.bl b) = b := rfl
theorem truth_int {i : Int} : truth (.int i) = (i != 0) := rfl
theorem truth_str {s : List Nat} : truth (.str s) = !s.isEmpty := rfl
theorem truth_lst {xs : List D} : truth (.lst xs) = !xs.isEmpty := rfl
theorem truth_tup {xs : List D} : truth (.tup xs) = !xs.isEmpty := rfl
theorem truth_non : truth .non = false := rfl
/-! ### one's own names -/
theorem ok_asgM {F : Nat → Option Fd} {k : Nat} {fl : List Bool} {ρ : Env} {i : Nat} {v : Val} {Q : Env → Prop} : Ok1 (asg (Mk F k fl).io ρ i v) Q = (fl.getD i false = false ∧ i < ρ.length ∧ Q (ρ.set i (.lo v))) := ok_asg
theorem ok_movM {F : Nat → Option Fd} {k : Nat} {fl : List Bool} {ρ : Env} {i : Nat} {Q : Val → Env → Prop} : Ok2 (mov (Mk F k fl).io ρ (.pk i)) Q = OkLo ρ[i]? fun v => If (fl.getD i false) (Q (.d v.data) (ρ.set i (.lo (.d v.data)))) (Q v (ρ.set i .un)) := ok_mov_pk
theorem we_callM {F : Nat → Option Fd} {k : Nat} {fl : List Bool} {ρ : Env} {f : Nat} {as : Es} {dfl : List D} {Q : R → Env → Prop} : Ok2 (ev (Mk F k fl) (.call f as dfl) ρ) Q = Ok2 (evs (Mk F k fl) as ρ) fun rs ρ1 => Ok2 (callR (flags F) (callK F k) f (rs ++ dfl.map fun x => .v (.d x)) ρ1) Q := we_call
theorem we_callkM {F : Nat → Option Fd} {k : Nat} {fl : List Bool} {ρ : Env} {f : Nat} {as kas : Es} {perm : List Nat} {Q : R → Env → Prop} : Ok2 (ev (Mk F k fl) (.callk f as kas perm) ρ) Q = Ok2 (evs (Mk F k fl) as ρ) fun rs ρ1 => Ok2 (evs (Mk F k fl) kas ρ1) fun ss ρ2 => Ok1 (pickR perm (rs ++ ss)) fun rs => Ok2 (callR (flags F) (callK F k) f rs ρ2) Q := we_callk
theorem ok_pickR {perm : List Nat} {rs : List R} {Q : List R → Prop} : Ok1 (pickR perm rs) Q = (rs.all notOl = true ∧ Q (pickL perm rs)) := by
  unfold pickR
  rw [ok1_if, ok1_some]
theorem notOl_d' {x : D} : notOl (.v (.d x)) = true := rfl
theorem notOl_pk {i : Nat} : notOl (.pk i) = true := rfl
theorem fzR_v {v : Val} {ρ : Env} : fzR (.v v) ρ = ρ := rfl
theorem fzR_rd {ns : List Int} {ρ : Env} : fzR (.rd ns) ρ = ρ := rfl
/-- a name that is looked at where it may be changed meanwhile -/
def FzS (s : Option Slot) (i : Nat) (ρ : Env) (Q : R → Env → Prop) [Hid ρ] [Hid Q] : Prop := match s with
  | some (.lo (.ol xs)) => If (xs.all Val.isD) (Q (.pk i) ρ) (Q (.pk i) (ρ.set i (.lo (.ol (xs.map fun v => .d v.data)))))
  | _ => Q (.pk i) ρ
def Fz (r : R) (ρ : Env) (Q : R → Env → Prop) [Hid ρ] [Hid Q] : Prop := Q r (fzR r ρ)
theorem we_fzF {M : Mach} {a : E} {ρ : Env} {Q : R → Env → Prop} : Ok2 (ev M (.fz a) ρ) Q = Ok2 (ev M a ρ) fun r ρ1 => Fz r ρ1 Q := we_fz
section
variable {ρ : Env} {i n : Nat} {v : Val} {x : D} {xs : List Val} {ns : List Int} {a : Slot} {l : List Slot} {Q : R → Env → Prop}
theorem fz_v : Fz (.v v) ρ Q = Q (.v v) ρ := rfl
theorem fz_rd : Fz (.rd ns) ρ Q = Q (.rd ns) ρ := rfl
theorem fz_pk : Fz (.pk i) ρ Q = FzS ρ[i]? i ρ Q := by
  show Q (.pk i) (fzS ρ i) = _
  unfold fzS getS FzS
  cases e : ρ[i]? with
  | none => rfl
  | some s => cases s with
    | un => rfl
    | rd _ => rfl
    | lo v => cases v with
      | d _ => rfl
      | ol xs =>
        dsimp only
        cases xs.all Val.isD <;> rfl
theorem fzs_ol : FzS (some (.lo (.ol xs))) i ρ Q = If (xs.all Val.isD) (Q (.pk i) ρ) (Q (.pk i) (ρ.set i (.lo (.ol (xs.map fun v => .d v.data))))) := rfl
theorem fzs_s : FzS (a :: l)[n + 1]? i ρ Q = FzS l[n]? i ρ Q := by rw [List.getElem?_cons_succ]
theorem fzs_0 : FzS (a :: l)[0]? i ρ Q = FzS (some a) i ρ Q := rfl
theorem isD_d : Val.isD (.d x) = true := rfl
theorem isD_ol : Val.isD (.ol vs) = false := rfl
theorem isD_map {α : Type} {h : α → D} {l : List α} : (l.map fun a => Val.d (h a)).all Val.isD = true := by
  rw [List.all_map]
  exact List.all_eq_true.mpr fun _ _ => rfl
theorem isD_map1 {l : List D} : (l.map Val.d).all Val.isD = true := isD_map (h := fun x => x)
end
/-! ### the end of a body -/
def fin (P : Val → List Slot → Prop) (np : Nat) : Out → Prop
  | .rt v ρ => P v (ρ.take np)
  | .nx ρ => P (.d .non) (ρ.take np)
  | _ => False
section
variable {P : Val → List Slot → Prop} {np : Nat} {v : Val} {ρ : Env}
theorem fin_rt : fin P np (.rt v ρ) = P v (ρ.take np) := rfl
theorem fin_nx : fin P np (.nx ρ) = P (.d .non) (ρ.take np) := rfl
end
/-- one turn of a loop -/
def lp (I : Env → Prop) (Q : Out → Prop) : Out → Prop
  | .nx ρ => I ρ
  | .ct ρ => I ρ
  | .bk ρ => Q (.nx ρ)
  | .rt v ρ => Q (.rt v ρ)
section
variable {I : Env → Prop} {Q : Out → Prop} {v : Val} {ρ : Env}
theorem lp_nx : lp I Q (.nx ρ) = I ρ := rfl
theorem lp_ct : lp I Q (.ct ρ) = I ρ := rfl
theorem lp_bk : lp I Q (.bk ρ) = Q (.nx ρ) := rfl
theorem lp_rt : lp I Q (.rt v ρ) = Q (.rt v ρ) := rfl
end
/-! ### what a function answers, from a level on -/
def Sp (F : Nat → Option Fd) (n f : Nat) (args : List Slot) (P : Val → List Slot → Prop) : Prop := ∀ k, n ≤ k → Ok2 (callK F k f args) P
theorem Sp.mk {F : Nat → Option Fd} {n f np m : Nat} {fl : List Bool} {b : S} {args : List Slot} {P : Val → List Slot → Prop} (hF : F f = some ⟨np, m, fl, b⟩) (ha : args.length = np) (h : ∀ k, n ≤ k → Ok1 (Pu.exec (Mk F k fl) b (args ++ List.replicate (m - np) .un)) (fin P np)) : Sp F (n + 1) f args P := by
  intro k hk
  obtain ⟨k, rfl⟩ : ∃ j, k = j + 1 := ⟨k - 1, by omega⟩
  obtain ⟨o, e, q⟩ := h k (by omega)
  have e' : Pu.exec (Mm F k ⟨np, m, fl, b⟩) b (args ++ List.replicate (m - np) .un) = some o := e
  cases o with
  | nx ρ => exact ⟨_, _, callK_nx hF ha e', q⟩
  | rt v ρ => exact ⟨_, _, callK_rt hF ha e', q⟩
  | bk ρ => exact q.elim
  | ct ρ => exact q.elim
theorem Sp.mono {F : Nat → Option Fd} {n f : Nat} {args : List Slot} {P P' : Val → List Slot → Prop} (h : Sp F n f args P) (q : ∀ v o, P v o → P' v o) : Sp F n f args P' := fun k hk => ok2_mono (h k hk) q
theorem Sp.up {F : Nat → Option Fd} {n m f : Nat} {args : List Slot} {P : Val → List Slot → Prop} (h : Sp F n f args P) (q : n ≤ m) : Sp F m f args P := fun k hk => h k (by omega)
/-- just this answer -/
def Gs (F : Nat → Option Fd) (n f : Nat) (args : List Slot) (v : Val) : Prop := Sp F n f args fun u o => u = v ∧ o.length = args.length
/-- an answer of this kind -/
def Gp (F : Nat → Option Fd) (n f : Nat) (args : List Slot) (P : Val → Prop) : Prop := Sp F n f args fun u o => P u ∧ o.length = args.length
section
variable {F : Nat → Option Fd} {n k f : Nat} {P : Val → Prop} {v : Val} {ρ : Env} {Q : R → Env → Prop} {x y z w : D}
theorem pcall {xs : List D} (h : Gp F n f (xs.map fun x => .lo (.d x)) P) (hk : n ≤ k) (hl : xs.length ≤ (flags F f).length) (hQ : ∀ v, P v → Q (.v v) ρ) : Ok2 (callR (flags F) (callK F k) f (xs.map fun x => .v (.d x)) ρ) Q := by
  obtain ⟨v, o, e, p, l⟩ := h k hk
  rw [List.length_map] at l
  refine ⟨.v v, ρ, ?_, hQ v p⟩
  simp only [callR, hand_all hl, Option.bind_some, e]
  split
  · rfl
  · simp only [back_none l, Option.map_some]
theorem Gs.gp (h : Gs F n f args v) : Gp F n f args (fun u => u = v) := h
theorem gcall {xs : List D} (h : Gs F n f (xs.map fun x => .lo (.d x)) v) (hk : n ≤ k) (hl : xs.length ≤ (flags F f).length) (hQ : Q (.v v) ρ) : Ok2 (callR (flags F) (callK F k) f (xs.map fun x => .v (.d x)) ρ) Q := pcall h.gp hk hl fun u e => by rw [e]; exact hQ
theorem gcall1 (h : Gs F n f [A x] v) (hk : n ≤ k) (hl : 1 ≤ (flags F f).length) (hQ : Q (.v v) ρ) : Ok2 (callR (flags F) (callK F k) f [.v (.d x)] ρ) Q := gcall (xs := [x]) h hk hl hQ
theorem gcall2 (h : Gs F n f [A x, A y] v) (hk : n ≤ k) (hl : 2 ≤ (flags F f).length) (hQ : Q (.v v) ρ) : Ok2 (callR (flags F) (callK F k) f [.v (.d x), .v (.d y)] ρ) Q := gcall (xs := [x, y]) h hk hl hQ
theorem gcall3 (h : Gs F n f [A x, A y, A z] v) (hk : n ≤ k) (hl : 3 ≤ (flags F f).length) (hQ : Q (.v v) ρ) : Ok2 (callR (flags F) (callK F k) f [.v (.d x), .v (.d y), .v (.d z)] ρ) Q := gcall (xs := [x, y, z]) h hk hl hQ
theorem gcall4 (h : Gs F n f [A x, A y, A z, A w] v) (hk : n ≤ k) (hl : 4 ≤ (flags F f).length) (hQ : Q (.v v) ρ) : Ok2 (callR (flags F) (callK F k) f [.v (.d x), .v (.d y), .v (.d z), .v (.d w)] ρ) Q := gcall (xs := [x, y, z, w]) h hk hl hQ
theorem pcall1 (h : Gp F n f [A x] P) (hk : n ≤ k) (hl : 1 ≤ (flags F f).length) (hQ : ∀ v, P v → Q (.v v) ρ) : Ok2 (callR (flags F) (callK F k) f [.v (.d x)] ρ) Q := pcall (xs := [x]) h hk hl hQ
theorem pcall2 (h : Gp F n f [A x, A y] P) (hk : n ≤ k) (hl : 2 ≤ (flags F f).length) (hQ : ∀ v, P v → Q (.v v) ρ) : Ok2 (callR (flags F) (callK F k) f [.v (.d x), .v (.d y)] ρ) Q := pcall (xs := [x, y]) h hk hl hQ
theorem pcall3 (h : Gp F n f [A x, A y, A z] P) (hk : n ≤ k) (hl : 3 ≤ (flags F f).length) (hQ : ∀ v, P v → Q (.v v) ρ) : Ok2 (callR (flags F) (callK F k) f [.v (.d x), .v (.d y), .v (.d z)] ρ) Q := pcall (xs := [x, y, z]) h hk hl hQ
/-- a value that is handed over as it is -/
def slotR : R → Slot
  | .v x => .lo x
  | .rd ns => .rd ns
  | .pk _ => .un
def isVR : R → Bool
  | .pk _ => false
  | _ => true
theorem hand_vr {ρ : Env} : ∀ {rs : List R} {fl : List Bool}, rs.all isVR = true → rs.length ≤ fl.length → handAll ρ fl rs = some (⟨rs.map slotR, rs.map fun _ => none⟩, ρ)
  | [], fl, _, _ => by cases fl <;> rfl
  | r :: rs, [], _, h => by simp at h
  | r :: rs, fl :: fls, ha, h => by
    rw [List.all_cons, Bool.and_eq_true] at ha
    rw [handAll, List.map_cons, List.map_cons]
    cases r with
    | pk i => cases ha.1
    | v x => simp only [hand, Option.bind_some, hand_vr (rs := rs) (fl := fls) ha.2 (by simpa using h), Option.map_some, slotR]
    | rd ns => simp only [hand, Option.bind_some, hand_vr (rs := rs) (fl := fls) ha.2 (by simpa using h), Option.map_some, slotR]
theorem back_nones {α : Type} {ρ : Env} : ∀ {rs : List α} {o : List Slot}, o.length = rs.length → back ρ (rs.map fun _ => none) o = some ρ
  | [], [], _ => rfl
  | x :: xs, s :: o, h => by
    rw [List.map_cons]
    have e : back ρ (none :: xs.map fun _ => none) (s :: o) = back ρ (xs.map fun _ => none) o := by cases s <;> rfl
    rw [e]
    exact back_nones (by simpa using h)
theorem vcall {rs : List R} {P : Val → Prop} (hr : rs.all isVR = true) (h : Gp F n f (rs.map slotR) P) (hk : n ≤ k) (hl : rs.length ≤ (flags F f).length) (hQ : ∀ v, P v → Q (.v v) ρ) : Ok2 (callR (flags F) (callK F k) f rs ρ) Q := by
  obtain ⟨v, o, e, p, l⟩ := h k hk
  rw [List.length_map] at l
  refine ⟨.v v, ρ, ?_, hQ v p⟩
  simp only [callR, hand_vr hr hl, Option.bind_some, e]
  split
  · rfl
  · simp only [back_nones l, Option.map_some]
theorem vgcall {rs : List R} {v : Val} (hr : rs.all isVR = true) (h : Gs F n f (rs.map slotR) v) (hk : n ≤ k) (hl : rs.length ≤ (flags F f).length) : Ok2 (callR (flags F) (callK F k) f rs ρ) Q = Q (.v v) ρ := by
  have := vcall (Q := fun r ρ' => r = .v v ∧ ρ' = ρ) (ρ := ρ) hr h.gp hk hl fun u e => ⟨by rw [e], rfl⟩
  obtain ⟨a, b, e, rfl, rfl⟩ := this
  rw [e, ok2_some]
/-- a call whose answer stands at no address: own lists of the frame that it looks at stay its own -/
theorem acall {rs : List R} {args : List Slot} {v : Val} (h : Gs F n f args v) (hh : ∃ ρ' outs, handAll ρ (flags F f) rs = some (⟨args, outs⟩, ρ') ∧ outs.all Option.isNone = true) (hk : n ≤ k) (ha : v.atom = true) : Ok2 (callR (flags F) (callK F k) f rs ρ) Q = Q (.v v) ρ := by
  obtain ⟨ρ', outs, e1, e2⟩ := hh
  obtain ⟨u, o, e, rfl, l⟩ := h k hk
  simp only [callR, e1, Option.bind_some, e, ha, e2, Bool.and_self, if_true, ok2_some]
theorem acallQ {rs : List R} {args : List Slot} {v : Val} (h : Gs F n f args v) (hh : ∃ ρ' outs, handAll ρ (flags F f) rs = some (⟨args, outs⟩, ρ') ∧ outs.all Option.isNone = true) (hk : n ≤ k) (ha : v.atom = true) (hQ : Q (.v v) ρ) : Ok2 (callR (flags F) (callK F k) f rs ρ) Q := by
  rw [acall h hh hk ha]; exact hQ
theorem apcall {rs : List R} {args : List Slot} {P : Val → Prop} (h : Gp F n f args P) (hh : ∃ ρ' outs, handAll ρ (flags F f) rs = some (⟨args, outs⟩, ρ') ∧ outs.all Option.isNone = true) (hk : n ≤ k) (hQ : ∀ v, P v → v.atom = true ∧ Q (.v v) ρ) : Ok2 (callR (flags F) (callK F k) f rs ρ) Q := by
  obtain ⟨ρ', outs, e1, e2⟩ := hh
  obtain ⟨u, o, e, p, l⟩ := h k hk
  obtain ⟨ha, q⟩ := hQ u p
  simp only [callR, e1, Option.bind_some, e, ha, e2, Bool.and_self, if_true, ok2_some]
  exact q
/-- a value first, then what is done with it -/
theorem cutE {x : Option (R × Env)} {ρ0 : Env} (r0 : R) (h : Ok2 x fun r ρ' => r = r0 ∧ ρ' = ρ0) (hQ : Q r0 ρ0) : Ok2 x Q := by
  obtain ⟨a, b, e, rfl, rfl⟩ := h
  exact ⟨_, _, e, hQ⟩
theorem valV {M : Mach} {e : E} (r0 : R) (h : Ok2 (ev M e ρ) fun r ρ' => r = r0 ∧ ρ' = ρ) (hQ : Q r0 ρ) : Ok2 (ev M e ρ) Q := cutE r0 h hQ
/-- the rules as equations, for a run by simp -/
theorem gc1 (h : Gs F n f [A x] v) (hk : n ≤ k) (hl : 1 ≤ (flags F f).length) : Ok2 (callR (flags F) (callK F k) f [.v (.d x)] ρ) Q = Q (.v v) ρ := by
  have := gcall1 (Q := fun r ρ' => r = .v v ∧ ρ' = ρ) (ρ := ρ) h hk hl ⟨rfl, rfl⟩
  obtain ⟨a, b, e, rfl, rfl⟩ := this
  rw [e, ok2_some]
theorem gc2 (h : Gs F n f [A x, A y] v) (hk : n ≤ k) (hl : 2 ≤ (flags F f).length) : Ok2 (callR (flags F) (callK F k) f [.v (.d x), .v (.d y)] ρ) Q = Q (.v v) ρ := by
  have := gcall2 (Q := fun r ρ' => r = .v v ∧ ρ' = ρ) (ρ := ρ) h hk hl ⟨rfl, rfl⟩
  obtain ⟨a, b, e, rfl, rfl⟩ := this
  rw [e, ok2_some]
theorem gc3 (h : Gs F n f [A x, A y, A z] v) (hk : n ≤ k) (hl : 3 ≤ (flags F f).length) : Ok2 (callR (flags F) (callK F k) f [.v (.d x), .v (.d y), .v (.d z)] ρ) Q = Q (.v v) ρ := by
  have := gcall3 (Q := fun r ρ' => r = .v v ∧ ρ' = ρ) (ρ := ρ) h hk hl ⟨rfl, rfl⟩
  obtain ⟨a, b, e, rfl, rfl⟩ := this
  rw [e, ok2_some]
theorem gc4 (h : Gs F n f [A x, A y, A z, A w] v) (hk : n ≤ k) (hl : 4 ≤ (flags F f).length) : Ok2 (callR (flags F) (callK F k) f [.v (.d x), .v (.d y), .v (.d z), .v (.d w)] ρ) Q = Q (.v v) ρ := by
  have := gcall4 (Q := fun r ρ' => r = .v v ∧ ρ' = ρ) (ρ := ρ) h hk hl ⟨rfl, rfl⟩
  obtain ⟨a, b, e, rfl, rfl⟩ := this
  rw [e, ok2_some]
end
/-! ### loops -/
section
variable {M : Mach} {tg : Tg} {body : Env → Option Out} {ρ : Env} {Q : Out → Prop}
theorem for_list {α : Type} (l : List α) (e : α → D) {xs : List D} (hx : xs = l.map e) (I : List α → Env → Prop) (h0 : I [] ρ)
    (hs : ∀ pre a post ρ, l = pre ++ a :: post → I pre ρ → Ok1 (asgT M tg (.d (e a)) ρ) fun ρ1 => Ok1 (body ρ1) (lp (I (pre ++ [a])) Q)) (h1 : ∀ ρ, I l ρ → Q (.nx ρ)) : Ok1 (forL (fun x ρ' => asgT M tg (.d x) ρ') body xs ρ) Q := by
  subst hx
  have main : ∀ (post pre : List α) (ρ : Env), l = pre ++ post → I pre ρ → Ok1 (forL (fun x ρ' => asgT M tg (.d x) ρ') body (post.map e) ρ) Q := by
    intro post
    induction post with
    | nil =>
      intro pre ρ hl hi
      rw [List.append_nil] at hl
      subst hl
      exact ⟨_, rfl, h1 ρ hi⟩
    | cons a post ih =>
      intro pre ρ hl hi
      obtain ⟨ρ1, e1, o, e2, q⟩ := hs pre a post ρ hl hi
      rw [List.map_cons, forL, e1]
      simp only [e2]
      cases o with
      | nx ρ2 => exact ih (pre ++ [a]) ρ2 (by rw [hl, List.append_assoc]; rfl) q
      | ct ρ2 => exact ih (pre ++ [a]) ρ2 (by rw [hl, List.append_assoc]; rfl) q
      | bk ρ2 => exact ⟨_, rfl, q⟩
      | rt v ρ2 => exact ⟨_, rfl, q⟩
  exact main l [] ρ rfl h0
theorem ranged_nat {lo hi : Int} {N : Nat} (h : hi = lo + N) : ranged lo hi = (List.range N).map fun i : Nat => .int (lo + (i : Int)) := by
  unfold ranged
  rw [show (hi - lo).toNat = N by omega]
theorem ranged_nil {lo hi : Int} (h : hi ≤ lo) : ranged lo hi = [] := by
  unfold ranged
  rw [show (hi - lo).toNat = 0 by omega]; rfl
theorem for_rng (N : Nat) {lo hi : Int} (hN : hi = lo + N) (I : Nat → Env → Prop) (h0 : I 0 ρ)
    (hs : ∀ i, i < N → ∀ ρ, I i ρ → Ok1 (asgT M tg (.d (.int (lo + (i : Int)))) ρ) fun ρ1 => Ok1 (body ρ1) (lp (I (i + 1)) Q)) (h1 : ∀ ρ, I N ρ → Q (.nx ρ)) : Ok1 (forL (fun x ρ' => asgT M tg (.d x) ρ') body (ranged lo hi) ρ) Q := by
  refine for_list (List.range N) (fun i : Nat => .int (lo + (i : Int))) (ranged_nat hN) (fun pre ρ => I pre.length ρ) h0 ?_ ?_
  · intro pre a post ρ hl hi
    have ha : a = pre.length := by
      have h2 : (List.range N)[pre.length]? = some a := by rw [hl]; simp
      obtain ⟨h3, h4⟩ := List.getElem?_eq_some_iff.mp h2
      rw [List.getElem_range] at h4
      exact h4.symm
    have hlt : a < N := by
      have : a ∈ List.range N := by rw [hl]; simp
      exact List.mem_range.mp this
    subst ha
    have := hs pre.length hlt ρ hi
    rwa [show (pre ++ [pre.length]).length = pre.length + 1 by simp]
  · intro ρ hi
    rw [List.length_range] at hi
    exact h1 ρ hi
theorem wh_inv {test : Env → Option (Bool × Env)} (I : Nat → Env → Prop) (n : Nat) (h0 : I n ρ) (hn : n < 1000000)
    (hs : ∀ m ρ, I m ρ → Ok2 (test ρ) fun b ρ1 => If b (Ok1 (body ρ1) (lp (fun ρ2 => ∃ m', m' < m ∧ I m' ρ2) Q)) (Q (.nx ρ1))) : Ok1 (whileL test body turnsMost ρ) Q := by
  have main : ∀ (N m : Nat) (ρ : Env), m < N → I m ρ → Ok1 (whileL test body N ρ) Q := by
    intro N
    induction N with
    | zero => intro m ρ h; omega
    | succ N ih =>
      intro m ρ h hi
      obtain ⟨b, ρ1, e1, q1⟩ := hs m ρ hi
      rw [whileL, e1]
      cases b with
      | false => exact ⟨_, rfl, q1⟩
      | true =>
        obtain ⟨o, e2, q2⟩ := q1
        simp only [e2]
        cases o with
        | nx ρ2 => obtain ⟨m', h', i'⟩ := q2; exact ih m' ρ2 (by omega) i'
        | ct ρ2 => obtain ⟨m', h', i'⟩ := q2; exact ih m' ρ2 (by omega) i'
        | bk ρ2 => exact ⟨_, rfl, q2⟩
        | rt v ρ2 => exact ⟨_, rfl, q2⟩
  exact main turnsMost n ρ hn h0
end
/-! ### comprehensions -/
def Cmp (M : Mach) (own : List Nat) (tg : Tg) (t : T) (elt : E) (xs : List D) (ρ : Env) (Q : R → Env → Prop) [Hid ρ] [Hid Q] : Prop := (ownOk ρ own && own.all (fun i => !M.io i)) = true ∧ Ok2 (compL own (turnC M tg t elt) xs ρ []) fun vs ρ3 => Q (.v (.ol vs)) (unwipe ρ (wipe ρ3 own) own)
section
variable {M : Mach} {own : List Nat} {k : Ik} {src : Es} {tg : Tg} {t : T} {elt : E} {xs : List D} {ρ : Env} {Q : R → Env → Prop}
theorem we_compC : Ok2 (ev M (.comp own k src tg t elt) ρ) Q = Ok2 (evs M src ρ) fun rs ρ1 => Ok2 (srcs ρ1 rs) fun ds ρ2 => Ok1 (items k ds) fun xs => Cmp M own tg t elt xs ρ2 Q := we_comp
theorem wipe_len (own : List Nat) (ρ : Env) : (wipe ρ own).length = ρ.length := by
  induction own with
  | nil => rfl
  | cons i is ih => rw [wipe, List.length_set, ih]
theorem unwipe_get : ∀ (own : List Nat) (ρ0 ρ : Env) (j : Nat), ρ.length = ρ0.length → (unwipe ρ0 ρ own)[j]? = if j ∈ own ∧ j < ρ0.length then ρ0[j]? else ρ[j]?
  | [], ρ0, ρ, j, _ => by simp [unwipe]
  | i :: is, ρ0, ρ, j, h => by
    have len : ∀ is : List Nat, (unwipe ρ0 ρ is).length = ρ.length := by
      intro is
      induction is with
      | nil => rfl
      | cons i is ih => rw [unwipe, List.length_set, ih]
    rw [unwipe, List.getElem?_set, unwipe_get is ρ0 ρ j h, len]
    by_cases hij : i = j
    · subst hij
      by_cases hl : i < ρ.length
      · have hl' : i < ρ0.length := by omega
        simp [hl, hl']
      · have hl' : ¬ i < ρ0.length := by omega
        simp [hl, hl']
    · have : (j ∈ i :: is ∧ j < ρ0.length) ↔ (j ∈ is ∧ j < ρ0.length) := by
        simp [List.mem_cons, Ne.symm hij]
      simp only [hij, if_false, this]
theorem wipe_get : ∀ (own : List Nat) (ρ : Env) (j : Nat), j ∉ own → (wipe ρ own)[j]? = ρ[j]?
  | [], ρ, j, _ => rfl
  | i :: is, ρ, j, h => by
    rw [wipe, List.getElem?_set]
    have h1 : ¬ i = j := fun e => h (by rw [e]; exact List.mem_cons_self ..)
    rw [if_neg h1]
    exact wipe_get is ρ j fun e => h (List.mem_cons_of_mem _ e)
theorem unwipe_wipe (own : List Nat) (ρ : Env) : unwipe ρ (wipe ρ own) own = ρ := by
  apply List.ext_getElem?
  intro j
  rw [unwipe_get own ρ _ j (wipe_len own ρ)]
  by_cases h : j ∈ own
  · by_cases hl : j < ρ.length
    · simp [h, hl]
    · rw [if_neg (fun h => hl h.2), List.getElem?_eq_none (by rw [wipe_len]; omega), List.getElem?_eq_none (by omega)]
  · rw [if_neg (fun h' => h h'.1), wipe_get own ρ j h]
theorem cmp_fmap {α : Type} (l : List α) (e : α → D) (g : α → Option Val) (hx : xs = l.map e) (ho : (ownOk ρ own && own.all (fun i => !M.io i)) = true) (hl : l.length ≤ line)
    (hs : ∀ a ∈ l, Ok2 (turnC M tg t elt (e a) (wipe ρ own)) fun v ρ' => v = g a ∧ wipe ρ' own = wipe ρ own) (hQ : Q (.v (.ol (l.filterMap g))) ρ) : Cmp M own tg t elt xs ρ Q := by
  subst hx
  refine ⟨ho, ?_⟩
  obtain ⟨ρ', e1, e2⟩ := compL_map (own := own) (turn := turnC M tg t elt) e g (ρw := wipe ρ own) l ρ [] rfl (fun a ha => by
    obtain ⟨v, ρ', e1, rfl, e2⟩ := hs a ha
    exact ⟨ρ', e1, e2⟩) (by rw [List.length_nil]; omega)
  refine ⟨_, _, e1, ?_⟩
  show Q (.v (.ol ([] ++ _))) (unwipe ρ (wipe ρ' own) own)
  rw [e2, unwipe_wipe, List.nil_append]
  exact hQ
theorem cmp_map {α : Type} (l : List α) (e : α → D) (g : α → D) (hx : xs = l.map e) (ho : (ownOk ρ own && own.all (fun i => !M.io i)) = true) (hl : l.length ≤ line)
    (hs : ∀ a ∈ l, Ok2 (turnC M tg t elt (e a) (wipe ρ own)) fun v ρ' => v = some (.d (g a)) ∧ wipe ρ' own = wipe ρ own) (hQ : Q (.v (.ol (l.map fun a => .d (g a)))) ρ) : Cmp M own tg t elt xs ρ Q := by
  refine cmp_fmap l e (fun a => some (.d (g a))) hx ho hl hs ?_
  rw [List.filterMap_eq_map']
  exact hQ
theorem cmp_filter {α : Type} (l : List α) (e : α → D) (p : α → Bool) (g : α → D) (hx : xs = l.map e) (ho : (ownOk ρ own && own.all (fun i => !M.io i)) = true) (hl : l.length ≤ line)
    (hs : ∀ a ∈ l, Ok2 (turnC M tg t elt (e a) (wipe ρ own)) fun v ρ' => v = (if p a = true then some (Val.d (g a)) else none) ∧ wipe ρ' own = wipe ρ own) (hQ : Q (.v (.ol ((l.filter p).map fun a => .d (g a)))) ρ) : Cmp M own tg t elt xs ρ Q := by
  refine cmp_fmap l e (fun a => if p a = true then some (.d (g a)) else none) hx ho hl hs ?_
  have : l.filterMap (fun a => if p a = true then some (Val.d (g a)) else none) = (l.filter p).map fun a => .d (g a) := by
    clear hs hx hl hQ
    induction l with
    | nil => rfl
    | cons a l ih =>
      rw [List.filterMap_cons, List.filter_cons]
      cases h : p a with
      | true => simp [ih]
      | false => simp [ih]
  rw [this]
  exact hQ
/-- a comprehension whose turns change something (a pot) -/
theorem cmp_inv (I : Env → Prop) (P : Val → Prop) (ho : (ownOk ρ own && own.all (fun i => !M.io i)) = true) (hl : xs.length ≤ line) (h0 : I (wipe ρ own))
    (hs : ∀ x ∈ xs, ∀ ρ, I ρ → Ok2 (turnC M tg t elt x ρ) fun v ρ' => I (wipe ρ' own) ∧ ∃ u, v = some u ∧ P u) (hQ : ∀ vs ρ', I (wipe ρ' own) → vs.length = xs.length → (∀ v ∈ vs, P v) → Q (.v (.ol vs)) (unwipe ρ (wipe ρ' own) own)) : Cmp M own tg t elt xs ρ Q := by
  refine ⟨ho, ?_⟩
  have main : ∀ (l : List D) (ρ : Env) (acc : List Val), (∀ x ∈ l, x ∈ xs) → I (wipe ρ own) → acc.length + l.length ≤ line → (∀ v ∈ acc, P v) → ∃ vs ρ', compL own (turnC M tg t elt) l ρ acc = some (vs, ρ') ∧ I (wipe ρ' own) ∧ vs.length = acc.length + l.length ∧ ∀ v ∈ vs, P v := by
    intro l
    induction l with
    | nil => exact fun ρ acc _ h _ p => ⟨acc, ρ, rfl, h, rfl, p⟩
    | cons x l ih =>
      intro ρ acc hm hi hlen hp
      obtain ⟨v, ρ1, e1, i1, u, rfl, pu⟩ := hs x (hm x (List.mem_cons_self ..)) _ hi
      rw [List.length_cons] at hlen
      obtain ⟨vs, ρ', e2, i2, l2, p2⟩ := ih ρ1 (acc ++ [u]) (fun y hy => hm y (List.mem_cons_of_mem _ hy)) i1 (by rw [List.length_append, List.length_singleton]; omega) (fun v hv => by
        rcases List.mem_append.mp hv with h | h
        · exact hp v h
        · rw [List.mem_singleton.mp h]; exact pu)
      refine ⟨vs, ρ', ?_, i2, by rw [l2, List.length_append, List.length_singleton, List.length_cons]; omega, p2⟩
      rw [compL, e1]
      have : acc.length < line := by omega
      simp only [this, if_true, e2]
  obtain ⟨vs, ρ', e, i, l, p⟩ := main xs ρ [] (fun _ h => h) h0 (by rw [List.length_nil]; omega) fun _ h => nomatch h
  exact ⟨vs, ρ', e, hQ vs ρ' i (by rw [l, List.length_nil, Nat.zero_add]) p⟩
end
/-! ### places -/
theorem ixN_nat {n j : Nat} (hj : j < n) : L2.ixN n (j : Int) = some j := by
  unfold L2.ixN
  rw [if_pos (by omega), if_pos (by omega), Int.toNat_natCast]
theorem atI_nat {α : Type} {xs : List α} {n : Nat} (h : n < xs.length) : L2.atI xs (n : Int) = some xs[n] := by
  unfold L2.atI
  rw [ixN_nat h]
  simp [List.getElem?_eq_getElem h]
theorem atI_int {α : Type} {xs : List α} {i : Int} {n : Nat} (e : i = n) (h : n < xs.length) : L2.atI xs i = some xs[n] := by rw [e]; exact atI_nat h
theorem atI_0 {α : Type} {a : α} {l : List α} : L2.atI (a :: l) 0 = some a := atI_int (n := 0) rfl (by simp)
theorem atI_1 {α : Type} {a b : α} {l : List α} : L2.atI (a :: b :: l) 1 = some b := atI_int (n := 1) rfl (by simp)
theorem atI_2 {α : Type} {a b c : α} {l : List α} : L2.atI (a :: b :: c :: l) 2 = some c := atI_int (n := 2) rfl (by simp)
theorem atI_last {α : Type} {xs : List α} (h : xs ≠ []) : L2.atI xs (-1) = some (xs.getLast h) := by
  have hl := List.length_pos_iff.mpr h
  unfold L2.atI
  have e : L2.ixN xs.length (-1) = some (xs.length - 1) := by
    unfold L2.ixN
    rw [if_neg (by omega), if_pos (by omega)]
    congr 1
    omega
  rw [e]
  simp [List.getLast_eq_getElem, List.getElem?_eq_getElem (show xs.length - 1 < xs.length by omega)]
theorem ixN_0 {n : Nat} : L2.ixN (n + 1) 0 = some 0 := ixN_nat (j := 0) (by omega)
theorem ixN_1 {n : Nat} : L2.ixN (n + 2) 1 = some 1 := ixN_nat (j := 1) (by omega)
theorem fmod_nn (a : Int) {n : Int} (hn : 0 < n) : 0 ≤ a.fmod n ∧ a.fmod n < n := ⟨Int.fmod_nonneg_of_pos a hn, Int.fmod_lt_of_pos a hn⟩
theorem fmod_nat (a b : Nat) : Int.fmod (a : Int) (b : Int) = ((a % b : Nat) : Int) := by
  rw [Int.fmod_eq_emod_of_nonneg _ (by omega)]; rfl
theorem fdiv_nat (a b : Nat) : Int.fdiv (a : Int) (b : Int) = ((a / b : Nat) : Int) := by
  rw [Int.fdiv_eq_ediv_of_nonneg _ (by omega)]; rfl
theorem cut_to_0 {α : Type} {xs : List α} : cut xs none (some 0) = xs.take 0 := cut_to (k := 0)
theorem cut_to_1 {α : Type} {xs : List α} : cut xs none (some 1) = xs.take 1 := cut_to (k := 1)
theorem cut_to_2 {α : Type} {xs : List α} : cut xs none (some 2) = xs.take 2 := cut_to (k := 2)
theorem cut_to_3 {α : Type} {xs : List α} : cut xs none (some 3) = xs.take 3 := cut_to (k := 3)
theorem cut_to_4 {α : Type} {xs : List α} : cut xs none (some 4) = xs.take 4 := cut_to (k := 4)
theorem cut_from_1 {α : Type} {xs : List α} : cut xs (some 1) none = xs.drop 1 := cut_from (k := 1)
theorem cut_from_2 {α : Type} {xs : List α} : cut xs (some 2) none = xs.drop 2 := cut_from (k := 2)
theorem cut_from_3 {α : Type} {xs : List α} : cut xs (some 3) none = xs.drop 3 := cut_from (k := 3)
theorem cut_all {α : Type} {xs : List α} : cut xs none none = xs := by
  unfold cut
  rw [HT.sIx_none, HT.sIx_none, List.drop_zero, Nat.sub_zero, List.take_length]
theorem cut_ft {α : Type} {xs : List α} {a b : Nat} : cut xs (some (a : Int)) (some (b : Int)) = (xs.take b).drop a := by
  unfold cut
  rw [HT.sIx_nat, HT.sIx_nat]
  apply List.ext_getElem?
  intro i
  by_cases h : i < min b xs.length - min a xs.length
  · rw [List.getElem?_take_of_lt h, List.getElem?_drop, List.getElem?_drop, List.getElem?_take_of_lt (by omega)]
    congr 1; omega
  · rw [List.getElem?_eq_none (by rw [List.length_take]; omega), List.getElem?_eq_none (by rw [List.length_drop, List.length_take]; omega)]
/-! ### whole numbers, not negative -/
theorem nc_add (a b : Nat) : (a : Int) + (b : Int) = ((a + b : Nat) : Int) := by omega
theorem nc_add1 (a : Nat) : (a : Int) + 1 = ((a + 1 : Nat) : Int) := by omega
theorem nc_1add (a : Nat) : 1 + (a : Int) = ((1 + a : Nat) : Int) := by omega
theorem nc_0add (a : Int) : 0 + a = a := Int.zero_add a
theorem nc_mul (a b : Nat) : (a : Int) * (b : Int) = ((a * b : Nat) : Int) := by rw [Int.natCast_mul]
theorem nc_2mul (a : Nat) : 2 * (a : Int) = ((2 * a : Nat) : Int) := by omega
theorem nc_mul2 (a : Nat) : (a : Int) * 2 = ((a * 2 : Nat) : Int) := by omega
theorem nc_fdiv2 (a : Nat) : Int.fdiv (a : Int) 2 = ((a / 2 : Nat) : Int) := fdiv_nat a 2
theorem nc_sub {a b : Nat} (h : b ≤ a) : (a : Int) - (b : Int) = ((a - b : Nat) : Int) := by omega
theorem nc_sub1 {a : Nat} (h : 0 < a) : (a : Int) - 1 = ((a - 1 : Nat) : Int) := by omega
/-! ### pots: a list of two numbers that is handed on and changed -/
abbrev Pt (a b : Int) : Slot := .lo (.ol [.d (.int a), .d (.int b)])
def pok (a b : Int) : Prop := 0 ≤ a ∧ 0 ≤ b ∧ b < 4294967296
/-- a function that is handed a pot -/
def Pf (F : Nat → Option Fd) (n f : Nat) (xs : List D) (P : Val → Prop) : Prop := ∀ a b, pok a b → Sp F n f (Pt a b :: xs.map fun x => .lo (.d x)) fun v o => ∃ a' b' o', o = Pt a' b' :: o' ∧ o'.length = xs.length ∧ pok a' b' ∧ P v
section
variable {F : Nat → Option Fd} {n k f i : Nat} {P : Val → Prop} {v : Val} {ρ : Env} {Q : R → Env → Prop} {x y z w : D} {a b : Int}
theorem potcall {xs : List D} (h : Pf F n f xs P) (hk : n ≤ k) (hf : (flags F f).head? = some true ∧ xs.length + 1 ≤ (flags F f).length) (hp : pok a b) (hg : ρ[i]? = some (Pt a b)) (hQ : ∀ a' b' v, pok a' b' → P v → Q (.v v) (ρ.set i (Pt a' b'))) : Ok2 (callR (flags F) (callK F k) f (.pk i :: xs.map fun x => .v (.d x)) ρ) Q := by
  obtain ⟨v, o, e, a', b', o', rfl, l, p', pv⟩ := h a b hp k hk
  obtain ⟨h1, h2⟩ := hf
  obtain ⟨fl, hfl⟩ : ∃ fl, flags F f = true :: fl := by
    cases hh : flags F f with
    | nil => rw [hh] at h1; cases h1
    | cons b fl => rw [hh] at h1; cases h1; exact ⟨fl, rfl⟩
  rw [hfl, List.length_cons] at h2
  have hg' : getS ρ i = some (.ol [.d (.int a), .d (.int b)]) := by unfold getS; rw [hg]
  refine ⟨.v v, ρ.set i (Pt a' b'), ?_, hQ a' b' v p' pv⟩
  simp only [callR, hfl, handAll, hand, hg', Option.bind_some, if_true, hand_all (Nat.le_of_succ_le_succ h2), Option.map_some, e]
  rw [if_neg (by simp)]
  simp only [back, back_none l, Option.map_some, List.set_set]
theorem potcall0 (h : Pf F n f [] P) (hk : n ≤ k) (hf : (flags F f).head? = some true ∧ 1 ≤ (flags F f).length) (hp : pok a b) (hg : ρ[i]? = some (Pt a b)) (hQ : ∀ a' b' v, pok a' b' → P v → Q (.v v) (ρ.set i (Pt a' b'))) : Ok2 (callR (flags F) (callK F k) f [.pk i] ρ) Q := potcall (xs := []) h hk hf hp hg hQ
theorem potcall1 (h : Pf F n f [x] P) (hk : n ≤ k) (hf : (flags F f).head? = some true ∧ 2 ≤ (flags F f).length) (hp : pok a b) (hg : ρ[i]? = some (Pt a b)) (hQ : ∀ a' b' v, pok a' b' → P v → Q (.v v) (ρ.set i (Pt a' b'))) : Ok2 (callR (flags F) (callK F k) f [.pk i, .v (.d x)] ρ) Q := potcall (xs := [x]) h hk hf hp hg hQ
theorem potcall2 (h : Pf F n f [x, y] P) (hk : n ≤ k) (hf : (flags F f).head? = some true ∧ 3 ≤ (flags F f).length) (hp : pok a b) (hg : ρ[i]? = some (Pt a b)) (hQ : ∀ a' b' v, pok a' b' → P v → Q (.v v) (ρ.set i (Pt a' b'))) : Ok2 (callR (flags F) (callK F k) f [.pk i, .v (.d x), .v (.d y)] ρ) Q := potcall (xs := [x, y]) h hk hf hp hg hQ
theorem potcall3 (h : Pf F n f [x, y, z] P) (hk : n ≤ k) (hf : (flags F f).head? = some true ∧ 4 ≤ (flags F f).length) (hp : pok a b) (hg : ρ[i]? = some (Pt a b)) (hQ : ∀ a' b' v, pok a' b' → P v → Q (.v v) (ρ.set i (Pt a' b'))) : Ok2 (callR (flags F) (callK F k) f [.pk i, .v (.d x), .v (.d y), .v (.d z)] ρ) Q := potcall (xs := [x, y, z]) h hk hf hp hg hQ
end
end Pu

set_option Elab.async false
set_option maxRecDepth 100000
set_option maxHeartbeats 2000000
/-! Functions that many laws share: pots, draws, words. -/
namespace Pu
open P
local macro_rules | `(tactic| simp! only [$ls,*]) => `(tactic| simp -implicitDefEqProofs -dsimp only [flat_app, datas_app, ↓we_fzF, ↓fz_v, ↓fz_rd, ↓fz_pk, ↓fzs_ol, ↓fzs_s, ↓fzs_0, we_fzF, fz_v, fz_rd, fz_pk, fzs_ol, fzs_s, fzs_0, isD_d, isD_map, isD_map1, ↓ws_each, ws_each, appV_ol, shortOl_ol, ↓bd_len, ↓bd_abs, ↓bd_sum, ↓bd_all, ↓bd_any, ↓bd_int, ↓bd_list, ↓bd_tuple, ↓bd_repr, ↓bd_max, ↓bd_min, ↓bd_sorted, ↓bd_bool, bd_len, bd_abs, bd_sum, bd_all, bd_any, bd_int, bd_list, bd_tuple, bd_repr, bd_max, bd_min, bd_sorted, bd_bool, ↓o_eq_bl, ↓o_ne_bl, o_eq_bl, o_ne_bl, bne_self_eq_false, beq_self_eq_true, Bool.bne_false, Bool.bne_true, ↓okSl_d, ↓okSl_ol, ↓okSl_rd, ↓okLo_lo, ↓ok_dat_d, ↓ok_dat_ol, ↓ok_dat_pk, ↓ok_dat_rd, ↓ok_fdat_d, ↓ok_fdat_ol, ↓ok_fdat_pk, ↓ok_gdat_d, ↓ok_gdat_ol, ↓ok_gdat_pk, ↓ok_gdat_rd, ↓ok_ndat_d, ↓ok_ndat_ol, ↓ok_ndat_pk, ↓ok_esc_v, ↓ok_esc_pk, ↓ok_mov_v, ↓ok_srcD_d, ↓ok_srcD_ol, ↓ok_srcD_pk, ↓ok_srcD_rd, ↓ok_srcs_nil, ↓ok_srcs_cons, ↓ok_escs_nil, ↓ok_escs_cons, ↓we_var, ↓we_cst, ↓we_bin, ↓wneg_int, ↓we_neg, ↓wbl_bl, ↓we_not, ↓we_and, ↓we_or, ↓we_cmp, ↓we_chn, ↓we_ite, ↓we_idx, ↓we_sl, ↓we_rev, ↓we_tup, ↓we_lst, ↓we_turn, ↓we_isi, ↓we_b1, ↓we_b2, ↓wint_int, ↓we_ono, ↓we_oso, ↓we_nil, ↓we_cons, ↓wt_yes, ↓wt_tr, ↓wt_no, ↓wt_an, ↓wt_or, ↓sq_nx, ↓sq_rt, ↓sq_bk, ↓sq_ct, ↓ws_seq, ↓ws_set, ↓ws_movs_nil, ↓ws_movs_cons, ↓ws_asgs_nil, ↓ws_asgs_cons, ↓ws_setT, ↓ws_unp, ↓ws_ex, ↓ws_ite, ↓ws_ret, ↓ws_retN, ↓ws_pass, ↓ws_brk, ↓ws_cont, ↓wol_ol, ↓ws_app, ↓ws_for, ↓ws_whl, ↓wlst_lst, ↓ws_ext, ↓wa_nm, ↓wa_tp, ↓wa_nil, ↓wa_cons, ↓wa_ix, ↓o_add_int, ↓o_add_str, ↓o_add_lst, ↓o_add_tup, ↓o_sub, ↓o_mul_int, ↓o_mul_str, ↓o_mul_lst, ↓o_fdiv, ↓o_mod, ↓o_pow, ↓o_eq_int, ↓o_ne_int, ↓o_eq_str, ↓o_ne_str, ↓o_lt_int, ↓o_le_int, ↓o_gt_int, ↓o_ge_int, ↓o_lt_str, ↓o_le_str, ↓o_gt_str, ↓o_ge_str, ↓o_in_str, ↓o_nin_str, ↓o_is_non, ↓o_isn_non, ↓o_is_bl, ↓o_isn_bl, ↓o_idx_lst, ↓o_idx_tup, ↓o_idx_str, ↓o_sl_str, ↓o_sl_lst, ↓o_sl_tup, ↓o_rev_str, ↓o_rev_lst, ↓o_len_str, ↓o_len_lst, ↓o_len_tup, ↓o_abs, ↓o_int_int, ↓o_int_bl, ↓o_bool_int, ↓o_list_lst, ↓o_list_tup, ↓o_list_str, ↓o_sorted_str, ↓mkd_str, ↓mkd_lst, ↓o_ix_str, ↓o_ix_lst, ↓o_sw, ↓o_ew, ↓wda_d, ↓ws_aug, ↓o_aug_add, ↓o_aug_sub, ↓o_maxd, ↓ws_appAt, ↓wol2_ol, ↓o_enzip, ↓we_met, ↓o_tuple_lst, ↓o_tuple_tup, ↓o_repr, ↓o_all, ↓o_any, ↓o_sum, ↓o_max, ↓o_min, ↓o_max2, ↓o_min2, ↓o_divmod, ↓o_join, ↓o_seq_lst, ↓o_seq_tup, ↓o_seq_str, ↓o_rng1, ↓o_rng2, ↓o_zip_lst, ↓o_zip_tup, ↓o_enum, ↓o_gcd, ↓o_sset, ↓o_ssetT, ↓o_lset, ↓o_lsetT, ↓o_sw3, ↓we_bs, ↓we_sw3, ↓we_pop, ↓we_dlk, ↓we_lrng, ↓wid_int, isD_ol, ↓o_revl, ↓sl_s, ↓sl_0, ↓lo_s, ↓lo_0, ↓ok_asgM, ↓ok_movM, ↓we_callM, ↓we_callkM, ↓ok_pickR, ↓fin_rt, ↓fin_nx, ↓lp_nx, ↓lp_ct, ↓lp_bk, ↓lp_rt, ↓we_compC, okSl_d, okSl_ol, okSl_rd, okLo_lo, ok_dat_d, ok_dat_ol, ok_dat_pk, ok_dat_rd, ok_fdat_d, ok_fdat_ol, ok_fdat_pk, ok_gdat_d, ok_gdat_ol, ok_gdat_pk, ok_gdat_rd, ok_ndat_d, ok_ndat_ol, ok_ndat_pk, ok_esc_v, ok_esc_pk, ok_mov_v, ok_srcD_d, ok_srcD_ol, ok_srcD_pk, ok_srcD_rd, ok_srcs_nil, ok_srcs_cons, ok_escs_nil, ok_escs_cons, we_var, we_cst, we_bin, wneg_int, we_neg, wbl_bl, we_not, we_and, we_or, we_cmp, we_chn, we_ite, we_idx, we_sl, we_rev, we_tup, we_lst, we_turn, we_isi, we_b1, we_b2, wint_int, we_ono, we_oso, we_nil, we_cons, wt_yes, wt_tr, wt_no, wt_an, wt_or, sq_nx, sq_rt, sq_bk, sq_ct, ws_seq, ws_set, ws_movs_nil, ws_movs_cons, ws_asgs_nil, ws_asgs_cons, ws_setT, ws_unp, ws_ex, ws_ite, ws_ret, ws_retN, ws_pass, ws_brk, ws_cont, wol_ol, ws_app, ws_for, ws_whl, wlst_lst, ws_ext, wa_nm, wa_tp, wa_nil, wa_cons, wa_ix, o_add_int, o_add_str, o_add_lst, o_add_tup, o_sub, o_mul_int, o_mul_str, o_mul_lst, o_fdiv, o_mod, o_pow, o_eq_int, o_ne_int, o_eq_str, o_ne_str, o_lt_int, o_le_int, o_gt_int, o_ge_int, o_lt_str, o_le_str, o_gt_str, o_ge_str, o_in_str, o_nin_str, o_is_non, o_isn_non, o_is_bl, o_isn_bl, o_idx_lst, o_idx_tup, o_idx_str, o_sl_str, o_sl_lst, o_sl_tup, o_rev_str, o_rev_lst, o_len_str, o_len_lst, o_len_tup, o_abs, o_int_int, o_int_bl, o_bool_int, o_list_lst, o_list_tup, o_list_str, o_sorted_str, mkd_str, mkd_lst, o_ix_str, o_ix_lst, o_sw, o_ew, wda_d, ws_aug, o_aug_add, o_aug_sub, o_maxd, ws_appAt, wol2_ol, o_enzip, we_met, o_tuple_lst, o_tuple_tup, o_repr, o_all, o_any, o_sum, o_max, o_min, o_max2, o_min2, o_divmod, o_join, o_seq_lst, o_seq_tup, o_seq_str, o_rng1, o_rng2, o_zip_lst, o_zip_tup, o_enum, o_revl, sl_s, sl_0, lo_s, lo_0, ok_asgM, ok_movM, we_callM, we_callkM, ok_pickR, fin_rt, fin_nx, lp_nx, lp_ct, lp_bk, lp_rt, we_compC, ok1_some, ok2_some, if_true', if_false', data_d, data_ol, datas_nil, datas_cons, datas_mapd, datas_map1, flat_d, flat_nil, flat_cons, flat_mapd, flat_map1, truth_bl', truth_int, truth_str, truth_lst, truth_tup, truth_non, notOl_d', notOl_pk, fzR_v, fzR_rd, isNon_non, isNon_int, isNon_str, isNon_lst, isNon_tup, isNon_bl, hasTy, List.set_cons_zero, List.set_cons_succ, List.getD_cons_zero, List.getD_cons_succ, List.getD_nil, List.length_cons, List.length_nil, List.map_nil, List.map_cons, List.append_nil, List.nil_append, List.cons_append, List.take_succ_cons, List.take_zero, List.any_cons, List.any_nil, List.all_cons, List.all_nil, Bool.or_false, Bool.or_true, Bool.and_true, Bool.true_and, Bool.false_and, Bool.and_false, Bool.false_or, Bool.true_or, Bool.not_true, Bool.not_false, Bool.not_not, true_and, and_true, Nat.reduceAdd, Nat.reduceLT, Nat.reduceLeDiff, Nat.reduceEqDiff, Nat.zero_lt_succ, decide_true, decide_false, ne_eq, not_false_eq_true, Int.toNat_natCast, Int.reduceToNat, reduceCtorEq, pickL, List.filterMap_cons, List.filterMap_nil, if_true, if_false, Bool.false_eq_true, Int.cast_ofNat_Int, nc_add, nc_add1, nc_1add, nc_0add, nc_mul, nc_2mul, nc_mul2, nc_fdiv2, fmod_nat, fdiv_nat, cut_to, cut_from, cut_last, cut_ft, cut_all, cut_to_0, cut_to_1, cut_to_2, cut_to_3, cut_to_4, cut_from_1, cut_from_2, cut_from_3, wipe, unwipe, List.getElem?_cons_zero, List.getElem?_cons_succ, Option.getD_some, Int.reduceEq, Int.reduceLT, Int.reduceLE, Int.reducePow, Int.reduceNeg, Int.reduceAdd, Int.reduceSub, Int.reduceMul, atI_0, atI_1, atI_2, ixN_0, ixN_1, eq_self, and_self, Nat.reduceSub, List.replicate_zero, List.reduceReplicate, $ls,*])
local macro_rules | `(tactic| simpa! only [$ls,*]) => `(tactic| simp -implicitDefEqProofs -dsimp only [flat_app, datas_app, ↓we_fzF, ↓fz_v, ↓fz_rd, ↓fz_pk, ↓fzs_ol, ↓fzs_s, ↓fzs_0, we_fzF, fz_v, fz_rd, fz_pk, fzs_ol, fzs_s, fzs_0, isD_d, isD_map, isD_map1, ↓ws_each, ws_each, appV_ol, shortOl_ol, ↓bd_len, ↓bd_abs, ↓bd_sum, ↓bd_all, ↓bd_any, ↓bd_int, ↓bd_list, ↓bd_tuple, ↓bd_repr, ↓bd_max, ↓bd_min, ↓bd_sorted, ↓bd_bool, bd_len, bd_abs, bd_sum, bd_all, bd_any, bd_int, bd_list, bd_tuple, bd_repr, bd_max, bd_min, bd_sorted, bd_bool, ↓o_eq_bl, ↓o_ne_bl, o_eq_bl, o_ne_bl, bne_self_eq_false, beq_self_eq_true, Bool.bne_false, Bool.bne_true, ↓okSl_d, ↓okSl_ol, ↓okSl_rd, ↓okLo_lo, ↓ok_dat_d, ↓ok_dat_ol, ↓ok_dat_pk, ↓ok_dat_rd, ↓ok_fdat_d, ↓ok_fdat_ol, ↓ok_fdat_pk, ↓ok_gdat_d, ↓ok_gdat_ol, ↓ok_gdat_pk, ↓ok_gdat_rd, ↓ok_ndat_d, ↓ok_ndat_ol, ↓ok_ndat_pk, ↓ok_esc_v, ↓ok_esc_pk, ↓ok_mov_v, ↓ok_srcD_d, ↓ok_srcD_ol, ↓ok_srcD_pk, ↓ok_srcD_rd, ↓ok_srcs_nil, ↓ok_srcs_cons, ↓ok_escs_nil, ↓ok_escs_cons, ↓we_var, ↓we_cst, ↓we_bin, ↓wneg_int, ↓we_neg, ↓wbl_bl, ↓we_not, ↓we_cmp, ↓we_chn, ↓we_idx, ↓we_sl, ↓we_rev, ↓we_tup, ↓we_lst, ↓we_turn, ↓we_isi, ↓we_b1, ↓we_b2, ↓wint_int, ↓we_ono, ↓we_oso, ↓we_nil, ↓we_cons, ↓wt_yes, ↓wt_tr, ↓wt_no, ↓wt_an, ↓wt_or, ↓sq_nx, ↓sq_rt, ↓sq_bk, ↓sq_ct, ↓ws_seq, ↓ws_set, ↓ws_movs_nil, ↓ws_movs_cons, ↓ws_asgs_nil, ↓ws_asgs_cons, ↓ws_setT, ↓ws_unp, ↓ws_ex, ↓ws_ite, ↓ws_ret, ↓ws_retN, ↓ws_pass, ↓ws_brk, ↓ws_cont, ↓wol_ol, ↓ws_app, ↓ws_for, ↓ws_whl, ↓wlst_lst, ↓ws_ext, ↓wa_nm, ↓wa_tp, ↓wa_nil, ↓wa_cons, ↓wa_ix, ↓o_add_int, ↓o_add_str, ↓o_add_lst, ↓o_add_tup, ↓o_sub, ↓o_mul_int, ↓o_mul_str, ↓o_mul_lst, ↓o_fdiv, ↓o_mod, ↓o_pow, ↓o_eq_int, ↓o_ne_int, ↓o_eq_str, ↓o_ne_str, ↓o_lt_int, ↓o_le_int, ↓o_gt_int, ↓o_ge_int, ↓o_lt_str, ↓o_le_str, ↓o_gt_str, ↓o_ge_str, ↓o_in_str, ↓o_nin_str, ↓o_is_non, ↓o_isn_non, ↓o_is_bl, ↓o_isn_bl, ↓o_idx_lst, ↓o_idx_tup, ↓o_idx_str, ↓o_sl_str, ↓o_sl_lst, ↓o_sl_tup, ↓o_rev_str, ↓o_rev_lst, ↓o_len_str, ↓o_len_lst, ↓o_len_tup, ↓o_abs, ↓o_int_int, ↓o_int_bl, ↓o_bool_int, ↓o_list_lst, ↓o_list_tup, ↓o_list_str, ↓o_sorted_str, ↓mkd_str, ↓mkd_lst, ↓o_ix_str, ↓o_ix_lst, ↓o_sw, ↓o_ew, ↓wda_d, ↓ws_aug, ↓o_aug_add, ↓o_aug_sub, ↓o_maxd, ↓ws_appAt, ↓wol2_ol, ↓o_enzip, ↓we_met, ↓o_tuple_lst, ↓o_tuple_tup, ↓o_repr, ↓o_all, ↓o_any, ↓o_sum, ↓o_max, ↓o_min, ↓o_max2, ↓o_min2, ↓o_divmod, ↓o_join, ↓o_seq_lst, ↓o_seq_tup, ↓o_seq_str, ↓o_rng1, ↓o_rng2, ↓o_zip_lst, ↓o_zip_tup, ↓o_enum, ↓o_gcd, ↓o_sset, ↓o_ssetT, ↓o_lset, ↓o_lsetT, ↓o_sw3, ↓we_bs, ↓we_sw3, ↓we_pop, ↓we_dlk, ↓we_lrng, ↓wid_int, isD_ol, ↓o_revl, ↓sl_s, ↓sl_0, ↓lo_s, ↓lo_0, ↓ok_asgM, ↓ok_movM, ↓we_callM, ↓we_callkM, ↓ok_pickR, ↓fin_rt, ↓fin_nx, ↓lp_nx, ↓lp_ct, ↓lp_bk, ↓lp_rt, ↓we_compC, okSl_d, okSl_ol, okSl_rd, okLo_lo, ok_dat_d, ok_dat_ol, ok_dat_pk, ok_dat_rd, ok_fdat_d, ok_fdat_ol, ok_fdat_pk, ok_gdat_d, ok_gdat_ol, ok_gdat_pk, ok_gdat_rd, ok_ndat_d, ok_ndat_ol, ok_ndat_pk, ok_esc_v, ok_esc_pk, ok_mov_v, ok_srcD_d, ok_srcD_ol, ok_srcD_pk, ok_srcD_rd, ok_srcs_nil, ok_srcs_cons, ok_escs_nil, ok_escs_cons, we_var, we_cst, we_bin, wneg_int, we_neg, wbl_bl, we_not, we_cmp, we_chn, we_idx, we_sl, we_rev, we_tup, we_lst, we_turn, we_isi, we_b1, we_b2, wint_int, we_ono, we_oso, we_nil, we_cons, wt_yes, wt_tr, wt_no, wt_an, wt_or, sq_nx, sq_rt, sq_bk, sq_ct, ws_seq, ws_set, ws_movs_nil, ws_movs_cons, ws_asgs_nil, ws_asgs_cons, ws_setT, ws_unp, ws_ex, ws_ite, ws_ret, ws_retN, ws_pass, ws_brk, ws_cont, wol_ol, ws_app, ws_for, ws_whl, wlst_lst, ws_ext, wa_nm, wa_tp, wa_nil, wa_cons, wa_ix, o_add_int, o_add_str, o_add_lst, o_add_tup, o_sub, o_mul_int, o_mul_str, o_mul_lst, o_fdiv, o_mod, o_pow, o_eq_int, o_ne_int, o_eq_str, o_ne_str, o_lt_int, o_le_int, o_gt_int, o_ge_int, o_lt_str, o_le_str, o_gt_str, o_ge_str, o_in_str, o_nin_str, o_is_non, o_isn_non, o_is_bl, o_isn_bl, o_idx_lst, o_idx_tup, o_idx_str, o_sl_str, o_sl_lst, o_sl_tup, o_rev_str, o_rev_lst, o_len_str, o_len_lst, o_len_tup, o_abs, o_int_int, o_int_bl, o_bool_int, o_list_lst, o_list_tup, o_list_str, o_sorted_str, mkd_str, mkd_lst, o_ix_str, o_ix_lst, o_sw, o_ew, wda_d, ws_aug, o_aug_add, o_aug_sub, o_maxd, ws_appAt, wol2_ol, o_enzip, we_met, o_tuple_lst, o_tuple_tup, o_repr, o_all, o_any, o_sum, o_max, o_min, o_max2, o_min2, o_divmod, o_join, o_seq_lst, o_seq_tup, o_seq_str, o_rng1, o_rng2, o_zip_lst, o_zip_tup, o_enum, o_revl, sl_s, sl_0, lo_s, lo_0, ok_asgM, ok_movM, we_callM, we_callkM, ok_pickR, fin_rt, fin_nx, lp_nx, lp_ct, lp_bk, lp_rt, we_compC, ok1_some, ok2_some, if_true', if_false', data_d, data_ol, datas_nil, datas_cons, datas_mapd, datas_map1, flat_d, flat_nil, flat_cons, flat_mapd, flat_map1, truth_bl', truth_int, truth_str, truth_lst, truth_tup, truth_non, notOl_d', notOl_pk, fzR_v, fzR_rd, isNon_non, isNon_int, isNon_str, isNon_lst, isNon_tup, isNon_bl, hasTy, List.set_cons_zero, List.set_cons_succ, List.getD_cons_zero, List.getD_cons_succ, List.getD_nil, List.length_cons, List.length_nil, List.map_nil, List.map_cons, List.append_nil, List.nil_append, List.cons_append, List.take_succ_cons, List.take_zero, List.any_cons, List.any_nil, List.all_cons, List.all_nil, Bool.or_false, Bool.or_true, Bool.and_true, Bool.true_and, Bool.false_and, Bool.and_false, Bool.false_or, Bool.true_or, Bool.not_true, Bool.not_false, Bool.not_not, true_and, and_true, Nat.reduceAdd, Nat.reduceLT, Nat.reduceLeDiff, Nat.reduceEqDiff, Nat.zero_lt_succ, decide_true, decide_false, ne_eq, not_false_eq_true, Int.toNat_natCast, Int.reduceToNat, reduceCtorEq, pickL, List.filterMap_cons, List.filterMap_nil, if_true, if_false, Bool.false_eq_true, Int.cast_ofNat_Int, nc_add, nc_add1, nc_1add, nc_0add, nc_mul, nc_2mul, nc_mul2, nc_fdiv2, fmod_nat, fdiv_nat, cut_to, cut_from, cut_last, cut_ft, cut_all, cut_to_0, cut_to_1, cut_to_2, cut_to_3, cut_to_4, cut_from_1, cut_from_2, cut_from_3, wipe, unwipe, List.getElem?_cons_zero, List.getElem?_cons_succ, Option.getD_some, Int.reduceEq, Int.reduceLT, Int.reduceLE, Int.reducePow, Int.reduceNeg, Int.reduceAdd, Int.reduceSub, Int.reduceMul, atI_0, atI_1, atI_2, ixN_0, ixN_1, eq_self, and_self, Nat.reduceSub, List.replicate_zero, List.reduceReplicate, $ls,*])
section
variable {F : Nat → Option Fd} {f : Nat}
/-! ### the pot -/
def potB (a b c e : Int) : S := .seq (.set 2 (.ite (.tr (.cmp .lt (.var 1) (.b1 .len (.var 0)))) (.b1 .abs (.idx (.var 0) (.var 1))) (.bin .add (.bin .mul (.cst (.int a)) (.var 1)) (.cst (.int b))))) (.ret (.lst (.cons (.b2 .max (.cst (.int 0)) (.bin .sub (.var 2) (.bin .pow (.cst (.int 10)) (.cst (.int 18))))) (.cons (.bin .add (.bin .mod (.b1 .int (.bin .add (.bin .add (.bin .mul (.bin .mod (.b1 .int (.var 2)) (.cst (.int 2147483549))) (.cst (.int 40014))) (.bin .mul (.cst (.int c)) (.var 1))) (.cst (.int e)))) (.cst (.int 2147483563))) (.cst (.int 1))) .nil))))
theorem pot_b {a b c e : Int} (hF : F f = some ⟨2, 3, [false, false], potB a b c e⟩) (ha : small64 a = true) (hc : small64 c = true) (ns : List Int) (i : Nat) : Gp F 1 f [.rd ns, I i] (fun v => ∃ x y, v = .ol [.d (.int x), .d (.int y)] ∧ pok x y) := by
  refine Sp.mk hF rfl fun k hk => ?_
  unfold potB
  have q1 : small64 40014 = true := by decide
  have fin : ∀ cell : Int, pok (if cell - 1000000000000000000 > 0 then cell - 1000000000000000000 else 0) ((cell.fmod 2147483549 * 40014 + c * (i : Int) + e).fmod 2147483563 + 1) := by
    intro cell
    obtain ⟨c1, c2⟩ := fmod_nn (cell.fmod 2147483549 * 40014 + c * (i : Int) + e) (n := 2147483563) (by decide)
    refine ⟨?_, ?_, ?_⟩
    · split <;> omega
    · omega
    · omega
  simp! only []
  refine wif (fun h => ?_) (fun h => ?_)
  · have h' : i < ns.length := by
      have := of_decide_eq_true h
      simp at this
      exact this
    simp! only [atI_nat (show i < (ns.map D.int).length by rw [List.length_map]; exact h'), List.getElem_map, q1, hc]
    exact ⟨by decide, by decide, _, _, rfl, fin _⟩
  · simp! only [ha, q1, hc]
    exact ⟨by decide, by decide, _, _, rfl, fin _⟩
/-! ### draws -/
/-- a whole number, not negative, below n -/
def below (n : Nat) (v : Val) : Prop := ∃ r : Nat, v = .d (.int (r : Int)) ∧ r < n
def drawB (c : Int) : S := .seq (.ite (.tr (.cmp .gt (.idx (.var 0) (.cst (.int 0))) (.cst (.int 0)))) (.seq (.unp (.tp (.cons (.ix 0 (.cst (.int 0))) (.cons (.nm 2) .nil))) (.b2 .divmod (.idx (.var 0) (.cst (.int 0))) (.var 1))) (.ret (.var 2))) .pass) (.seq (.unp (.ix 0 (.cst (.int 1))) (.bin .mod (.b1 .int (.bin .add (.bin .mul (.idx (.var 0) (.cst (.int 1))) (.cst (.int 40692))) (.cst (.int c)))) (.cst (.int 2147483587)))) (.ret (.bin .mod (.b1 .int (.bin .fdiv (.bin .mod (.b1 .int (.bin .mul (.idx (.var 0) (.cst (.int 1))) (.idx (.var 0) (.cst (.int 1))))) (.cst (.int 2147483549))) (.cst (.int 17)))) (.var 1))))
theorem draw_b {c : Int} (hF : F f = some ⟨2, 3, [true, false], drawB c⟩) (n : Nat) (h0 : 0 < n) (h1 : n < 1000000) : Pf F 1 f [.int n] (below n) := by
  intro a b hp
  refine Sp.mk hF rfl fun k hk => ?_
  unfold drawB
  simp! only []
  obtain ⟨p1, p2, p3⟩ := hp
  refine wifd (fun h => ?_) (fun h => ?_)
  · simp! only []
    refine ⟨⟨by omega, by omega⟩, _, _, _, rfl, rfl, ⟨Int.ediv_nonneg (by omega) (by omega), p2, p3⟩, (a % (n : Int)).toNat, ?_, ?_⟩
    · have := Int.emod_nonneg a (b := (n : Int)) (by omega)
      rw [Int.toNat_of_nonneg this]
    · have := Int.emod_lt_of_pos a (b := (n : Int)) (by omega)
      have := Int.emod_nonneg a (b := (n : Int)) (by omega)
      omega
  · obtain ⟨c1, c2⟩ := fmod_nn (b * 40692 + c) (n := 2147483587) (by decide)
    have q1 : small64 40692 = true := by decide
    have q2 : small64 ((b * 40692 + c).fmod 2147483587) = true := small_lit (by omega) (by omega)
    simp! only [q1, q2]
    generalize (((b * 40692 + c).fmod 2147483587 * (b * 40692 + c).fmod 2147483587).fmod 2147483549).fdiv 17 = z
    obtain ⟨d1, d2⟩ := fmod_nn z (n := (n : Int)) (by omega)
    refine ⟨by decide, by omega, _, _, _, rfl, rfl, ⟨p1, c1, by omega⟩, (z.fmod n).toNat, ?_, by omega⟩
    rw [Int.toNat_of_nonneg d1]
/-! ### letters -/
theorem map_of {α β : Type} {g : α → β} {R : α → Prop} : ∀ {vs : List β}, (∀ v ∈ vs, ∃ c, v = g c ∧ R c) → ∃ cs : List α, vs = cs.map g ∧ ∀ c ∈ cs, R c
  | [], _ => ⟨[], rfl, fun _ h => nomatch h⟩
  | v :: vs, h => by
    obtain ⟨c, hc, rc⟩ := h v (List.mem_cons_self ..)
    obtain ⟨cs, e, r⟩ := map_of (vs := vs) fun z hz => h z (List.mem_cons_of_mem _ hz)
    exact ⟨c :: cs, by rw [hc, e]; rfl, fun z hz => (List.mem_cons.mp hz).elim (fun q => by rw [q]; exact rc) (r z)⟩
theorem joinL_nil : ∀ ls : List (List Nat), joinL [] ls = ls.flatten
  | [] => rfl
  | [x] => by simp [joinL]
  | x :: y :: r => by
    have ih := joinL_nil (y :: r)
    show x ++ [] ++ joinL [] (y :: r) = _
    rw [ih]; simp
theorem flat_one (l : List Nat) : (l.map fun c => [c]).flatten = l := by
  induction l with
  | nil => rfl
  | cons c l ih => rw [List.map_cons, List.flatten_cons, ih]; rfl
theorem sum_one (l : List Nat) : ((l.map fun c => [c]).map List.length).sum = l.length := by
  induction l with
  | nil => rfl
  | cons c l ih => rw [List.map_cons, List.map_cons, List.sum_cons, ih, List.length_cons, List.length_cons, List.length_nil]; omega
/-- the first n letters -/
def abl (n : Nat) (s : List Nat) : Prop := ∀ c ∈ s, 97 ≤ c ∧ c < 97 + n
theorem abl.app {n : Nat} {s t : List Nat} (hs : abl n s) (ht : abl n t) : abl n (s ++ t) := fun c hc => (List.mem_append.mp hc).elim (hs c) (ht c)
theorem abl.take {n : Nat} {s : List Nat} (hs : abl n s) (k : Nat) : abl n (s.take k) := fun c hc => hs c (List.mem_of_mem_take hc)
theorem abl.drop {n : Nat} {s : List Nat} (hs : abl n s) (k : Nat) : abl n (s.drop k) := fun c hc => hs c (List.mem_of_mem_drop hc)
theorem abl.rev {n : Nat} {s : List Nat} (hs : abl n s) : abl n s.reverse := fun c hc => hs c (List.mem_reverse.mp hc)
theorem abl.rep {n : Nat} {s : List Nat} (hs : abl n s) (k : Nat) : abl n (List.replicate k s).flatten := fun c hc => by
  obtain ⟨l, h1, h2⟩ := List.mem_flatten.mp hc
  rw [(List.mem_replicate.mp h1).2] at h2
  exact hs c h2
theorem abl.up {n m : Nat} {s : List Nat} (hs : abl n s) (h : n ≤ m) : abl m s := fun c hc => by have := hs c hc; omega
theorem abl.ok {s : List Nat} {n : Nat} (hs : abl n s) (hn : n ≤ 1000) : okS s = true := by
  unfold okS
  rw [List.all_eq_true]
  intro c hc
  have := hs c hc
  exact decide_eq_true (by omega)
theorem abl.nil {n : Nat} : abl n [] := fun _ h => nomatch h
/-- a word over the first letters, of at most so many -/
def wordy (lt m : Nat) (v : Val) : Prop := ∃ s, v = .d (.str s) ∧ abl lt s ∧ s.length ≤ m
def lettersB (d : Nat) : S := .ret (.b2 .join (.cst (.str [])) (.comp [3] .rng1 (.cons (.var 2) .nil) (.nm 3) .yes (.idx (.cst (.str [97, 98, 99])) (.call d (.cons (.var 0) (.cons (.var 1) .nil)) []))))
theorem letters_b {d n : Nat} (hF : F f = some ⟨3, 4, [true, false, false], lettersB d⟩) (lt m : Nat) (hd : Pf F n d [.int lt] (below lt)) (hfl : (flags F d).head? = some true ∧ 2 ≤ (flags F d).length) (h2 : lt ≤ 3) (hm : m < 1000) :
    Pf F (n + 1) f [.int lt, .int m] (fun v => ∃ s, v = .d (.str s) ∧ abl lt s ∧ s.length = m) := by
  intro a b hp
  refine Sp.mk hF rfl fun k hk => ?_
  unfold lettersB
  simp! only []
  refine ⟨ends62_of (by omega) (by omega), cmp_inv (fun ρ => ∃ a b, pok a b ∧ ρ = [Pt a b, I lt, I m, .un]) (fun v => ∃ c : Nat, v = .d (.str [c]) ∧ (97 ≤ c ∧ c < 97 + lt)) rfl ?_ ⟨a, b, hp, rfl⟩ ?_ ?_⟩
  · rw [ranged_nat (N := m) (by omega), List.length_map, List.length_range]; show _ ≤ 16777216; omega
  · rintro x hx ρ ⟨a, b, hp, rfl⟩
    simp! only [we_turn]
    refine potcall1 hd hk hfl hp rfl fun a' b' v hp' ⟨r, hv, hr⟩ => ?_
    subst hv
    simp! only [atI_nat (xs := [97, 98, 99]) (n := r) (by simp; omega)]
    refine ⟨⟨a', b', hp', rfl⟩, _, rfl, _, rfl, ?_⟩
    obtain rfl | rfl | rfl : r = 0 ∨ r = 1 ∨ r = 2 := by omega
    · exact ⟨show 97 ≤ 97 by decide, by show 97 < _; omega⟩
    · exact ⟨show 97 ≤ 98 by decide, by show 98 < _; omega⟩
    · exact ⟨show 97 ≤ 99 by decide, by show 99 < _; omega⟩
  · intro vs ρ' ⟨a', b', hp', e⟩ hl hv
    obtain ⟨cs, rfl, hc⟩ := map_of hv
    rw [ranged_nat (N := m) (by omega), List.length_map, List.length_map, List.length_range] at hl
    rw [e]
    simp! only [joinL_nil, flat_one, sum_one]
    exact ⟨by show _ ≤ 16777216; omega, _, _, _, rfl, rfl, hp', _, rfl, hc, hl⟩
/-! ### drawn words -/
def wordB (d l : Nat) : S := .seq (.setT [3, 4] (.cons (.call d (.cons (.var 0) (.cons (.cst (.int 5)) .nil)) []) (.cons (.call d (.cons (.var 0) (.cons (.bin .add (.fz (.var 2)) (.cst (.int 1))) .nil)) []) .nil))) (.seq (.ite (.tr (.cmp .eq (.var 3) (.cst (.int 0)))) (.ret (.call l (.cons (.var 0) (.cons (.var 1) (.cons (.var 4) .nil))) [])) .pass) (.seq (.set 5 (.call l (.cons (.var 0) (.cons (.var 1) (.cons (.bin .add (.cst (.int 1)) (.call d (.cons (.var 0) (.cons (.cst (.int 5)) .nil)) [])) .nil))) [])) (.seq (.set 6 (.sl (.bin .mul (.var 5) (.bin .add (.fz (.var 4)) (.cst (.int 1)))) .no (.so (.var 4)))) (.seq (.ite (.tr (.cmp .eq (.var 3) (.cst (.int 1)))) (.ret (.var 6)) .pass) (.seq (.ite (.tr (.cmp .eq (.var 3) (.cst (.int 2)))) (.seq (.set 7 (.call l (.cons (.var 0) (.cons (.var 1) (.cons (.bin .fdiv (.b1 .int (.var 4)) (.cst (.int 2))) .nil))) [])) (.ret (.bin .add (.fz (.var 7)) (.rev (.var 7))))) .pass) (.seq (.set 8 (.call d (.cons (.var 0) (.cons (.bin .add (.fz (.var 4)) (.cst (.int 1))) .nil)) [])) (.ret (.sl (.bin .add (.bin .add (.sl (.var 6) .no (.so (.var 8))) (.call l (.cons (.var 0) (.cons (.var 1) (.cons (.cst (.int 1)) .nil))) [])) (.sl (.var 6) (.so (.var 8)) .no)) .no (.so (.var 2))))))))))
/-- draws are as they should be -/
def DrawOk (F : Nat → Option Fd) (d : Nat) : Prop := (∀ n : Nat, 0 < n → n < 1000000 → Pf F 1 d [.int n] (below n)) ∧ (flags F d).head? = some true ∧ 2 ≤ (flags F d).length
def LettersOk (F : Nat → Option Fd) (l : Nat) : Prop := (∀ lt m : Nat, 1 ≤ lt → lt ≤ 3 → m < 1000 → Pf F 2 l [.int lt, .int m] (fun v => ∃ s, v = .d (.str s) ∧ abl lt s ∧ s.length = m)) ∧ (flags F l).head? = some true ∧ 3 ≤ (flags F l).length
section
variable {d l k i : Nat} {a b e e1 e2 : Int} {ρ : Env} {Q : R → Env → Prop}
theorem DrawOk.call (h : DrawOk F d) (n : Nat) (hk : 1 ≤ k) (he : e = (n : Int)) (h0 : 0 < n) (h1 : n < 1000000) (hp : pok a b) (hg : ρ[i]? = some (Pt a b)) (hQ : ∀ a' b' (r : Nat), pok a' b' → r < n → Q (.v (.d (.int (r : Int)))) (ρ.set i (Pt a' b'))) :
    Ok2 (callR (flags F) (callK F k) d [.pk i, .v (.d (.int e))] ρ) Q := by
  subst he
  exact potcall1 (h.1 n h0 h1) hk h.2 hp hg fun a' b' v hp' ⟨r, hv, hr⟩ => by subst hv; exact hQ a' b' r hp' hr
theorem LettersOk.call (h : LettersOk F l) (lt m : Nat) (hk : 2 ≤ k) (he1 : e1 = (lt : Int)) (he2 : e2 = (m : Int)) (h00 : 1 ≤ lt) (h0 : lt ≤ 3) (h1 : m < 1000) (hp : pok a b) (hg : ρ[i]? = some (Pt a b)) (hQ : ∀ a' b' (s : List Nat), pok a' b' → abl lt s → s.length = m → Q (.v (.d (.str s))) (ρ.set i (Pt a' b'))) :
    Ok2 (callR (flags F) (callK F k) l [.pk i, .v (.d (.int e1)), .v (.d (.int e2))] ρ) Q := by
  subst he1
  subst he2
  exact potcall2 (h.1 lt m h00 h0 h1) hk h.2 hp hg fun a' b' v hp' ⟨s, hv, hs, hn⟩ => by subst hv; exact hQ a' b' s hp' hs hn
end
theorem word_b {d l : Nat} (hF : F f = some ⟨3, 9, [true, false, false], wordB d l⟩) (hd : DrawOk F d) (hl : LettersOk F l) (lt m : Nat) (h00 : 1 ≤ lt) (h3 : lt ≤ 3) (hm : m < 500) : Pf F 3 f [.int lt, .int m] (wordy lt m) := by
  intro a b hp
  refine Sp.mk hF rfl fun k hk => ?_
  unfold wordB
  simp! only []
  refine hd.call 5 (by omega) rfl (by decide) (by decide) hp rfl fun a b line hp hline => ?_
  simp! only []
  refine hd.call (m + 1) (by omega) rfl (by omega) (by omega) hp rfl fun a b many hp hmany => ?_
  simp! only []
  refine wifd (fun h => ?_) (fun h => ?_)
  · simp! only []
    refine hl.call lt many (by omega) rfl rfl h00 h3 (by omega) hp rfl fun a b s hp hs hn => ?_
    simp! only []
    exact ⟨_, _, _, rfl, rfl, hp, s, rfl, hs, by omega⟩
  simp! only []
  refine hd.call 5 (by omega) rfl (by decide) (by decide) hp rfl fun a b r hp hr => ?_
  simp! only []
  refine hl.call lt (1 + r) (by omega) rfl (by omega) h00 h3 (by omega) hp rfl fun a b piece hp hpc hn => ?_
  simp! only [cut_to]
  have hb : piece.length * (many + 1) ≤ 3000 := by
    have := Nat.mul_le_mul (show piece.length ≤ 5 by omega) (show many + 1 ≤ 500 by omega)
    omega
  refine ⟨⟨by show _ ≤ 16777216; omega, by omega, by omega⟩, ?_⟩
  have hw : abl lt ((List.replicate (many + 1) piece).flatten.take many) := (hpc.rep _).take _
  have hwl : ((List.replicate (many + 1) piece).flatten.take many).length ≤ many := by rw [List.length_take]; omega
  generalize (List.replicate (many + 1) piece).flatten.take many = word at hw hwl
  refine wifd (fun h => ?_) (fun h => ?_)
  · simp! only []
    exact ⟨_, _, _, rfl, rfl, hp, word, rfl, hw, by omega⟩
  simp! only []
  refine wifd (fun h => ?_) (fun h => ?_)
  · simp! only []
    refine ⟨by decide, hl.call lt (many / 2) (by omega) rfl rfl h00 h3 (by omega) hp rfl fun a b half hp hh hn => ?_⟩
    simp! only []
    exact ⟨by rw [List.length_reverse]; show _ ≤ 16777216; omega, _, _, _, rfl, rfl, hp, _, rfl, hh.app hh.rev, by rw [List.length_append, List.length_reverse]; omega⟩
  simp! only []
  refine hd.call (many + 1) (by omega) rfl (by omega) (by omega) hp rfl fun a b at_ hp hat => ?_
  simp! only [cut_to]
  refine hl.call lt 1 (by omega) rfl rfl h00 h3 (by omega) hp rfl fun a b one hp ho hn => ?_
  simp! only [cut_to, cut_from]
  refine ⟨by rw [List.length_take]; show _ ≤ 16777216; omega, by rw [List.length_append, List.length_take, List.length_drop]; show _ ≤ 16777216; omega, _, _, _, rfl, rfl, hp, _, rfl, (((hw.take _).app ho).app (hw.drop _)).take _, by rw [List.length_take]; omega⟩
/-! ### told, kind by kind and value by value -/
mutual
/-- a value that may be told and asked for -/
def nice : D → Bool
  | .str s => okS s
  | .lst xs => nices xs && decide (xs.length ≤ line)
  | .tup xs => nices xs && decide (xs.length ≤ line)
  | _ => true
def nices : List D → Bool
  | [] => true
  | x :: xs => nice x && nices xs
end
mutual
def rk : D → Nat
  | .lst xs => rks xs + 1
  | .tup xs => rks xs + 1
  | _ => 0
def rks : List D → Nat
  | [] => 0
  | x :: xs => max (rk x) (rks xs)
end
def sameB (f : Nat) : S := .seq (.ite (.orr (.tr (.isi (.var 1) [.list])) (.tr (.isi (.var 1) [.tuple]))) (.seq (.ite (.orr (.tr (.cmp .ne (.isi (.var 0) [.list]) (.isi (.var 1) [.list]))) (.tr (.cmp .ne (.isi (.var 0) [.tuple]) (.isi (.var 1) [.tuple])))) (.ret (.cst (.bl false))) .pass) (.ret (.and (.cmp .eq (.b1 .len (.var 0)) (.b1 .len (.var 1))) (.b1 .all (.comp [2, 3] .zip (.cons (.var 0) (.cons (.var 1) .nil)) (.tp (.cons (.nm 2) (.cons (.nm 3) .nil))) .yes (.call f (.cons (.var 2) (.cons (.var 3) .nil)) [])))))) .pass) (.seq (.ite (.tr (.cmp .is_ (.var 1) (.cst .non))) (.ret (.cmp .is_ (.var 0) (.cst .non))) .pass) (.seq (.ite (.orr (.tr (.cmp .ne (.isi (.var 0) [.bool]) (.isi (.var 1) [.bool]))) (.tr (.cmp .ne (.isi (.var 0) [.str]) (.isi (.var 1) [.str])))) (.ret (.cst (.bl false))) .pass) (.ret (.and (.cmp .eq (.isi (.var 0) [.int]) (.isi (.var 1) [.int])) (.cmp .eq (.var 0) (.var 1))))))
theorem nices_mem : ∀ {xs : List D} {x : D}, nices xs = true → x ∈ xs → nice x = true
  | y :: ys, x, h, hx => by
    rw [nices, Bool.and_eq_true] at h
    rcases List.mem_cons.mp hx with rfl | hx
    · exact h.1
    · exact nices_mem h.2 hx
theorem rks_mem : ∀ {xs : List D} {x : D}, x ∈ xs → rk x ≤ rks xs
  | y :: ys, x, hx => by
    rw [rks]
    rcases List.mem_cons.mp hx with rfl | hx
    · exact Nat.le_max_left ..
    · exact Nat.le_trans (rks_mem hx) (Nat.le_max_right ..)
theorem pairs_self (xs : List D) : pairs xs xs = xs.map fun x => .tup [x, x] := by
  unfold pairs
  induction xs with
  | nil => rfl
  | cons x xs ih => rw [List.zip_cons_cons, List.map_cons, ih, List.map_cons]
theorem all_true {α : Type} (l : List α) : (l.all fun _ => true) = true := List.all_eq_true.mpr fun _ _ => rfl
/-- the step for lists -/
theorem same_list {n : Nat} (hF : F f = some ⟨2, 4, [false, false], sameB f⟩) (xs : List D) (hl : xs.length ≤ line) (ih : ∀ x ∈ xs, Gs F n f [A x, A x] (.d (.bl true))) (v w : Val) (hv : v.data = .lst xs) (hw : w.data = .lst xs) : Gs F (n + 1) f [.lo v, .lo w] (.d (.bl true)) := by
  have hfl : 2 ≤ (flags F f).length := by unfold flags; rw [hF]; exact Nat.le_refl 2
  refine Sp.mk hF rfl fun k hk => ?_
  unfold sameB
  have main : ∀ (M : Mach), M = Mk F k [false, false] → ∀ (Q : R → Env → Prop) (ρ : Env) (s0 s1 : Slot), ρ = [s0, s1, .un, .un] → Q (.v (.ol (xs.map fun _ => .d (.bl true)))) ρ → Cmp M [2, 3] (.tp (.cons (.nm 2) (.cons (.nm 3) .nil))) .yes (.call f (.cons (.var 2) (.cons (.var 3) .nil)) []) (pairs xs xs) ρ Q := by
    intro M hM Q ρ s0 s1 hρ hQ
    subst hM
    subst hρ
    refine cmp_map xs (fun x => .tup [x, x]) (fun _ => .bl true) (pairs_self xs) rfl hl (fun x hx => ?_) hQ
    simp! only []
    refine gcall2 (ih x hx) hk hfl ?_
    simp! only []
  cases v with
  | d x =>
    cases hv
    cases w with
    | d y =>
      cases hw
      simp! only []
      refine main _ rfl _ _ _ _ rfl ?_
      simp! only [all_true]
    | ol ys =>
      have hw' : Val.datas ys = xs := by cases hw; rfl
      simp! only [hw']
      refine main _ rfl _ _ _ _ rfl ?_
      simp! only [all_true]
  | ol zs =>
    have hv' : Val.datas zs = xs := by cases hv; rfl
    cases w with
    | d y =>
      cases hw
      simp! only [hv']
      refine main _ rfl _ _ _ _ rfl ?_
      simp! only [all_true]
    | ol ys =>
      have hw' : Val.datas ys = xs := by cases hw; rfl
      simp! only [hw', hv']
      refine main _ rfl _ _ _ _ rfl ?_
      simp! only [all_true]
theorem same_tup {n : Nat} (hF : F f = some ⟨2, 4, [false, false], sameB f⟩) (xs : List D) (hl : xs.length ≤ line) (ih : ∀ x ∈ xs, Gs F n f [A x, A x] (.d (.bl true))) : Gs F (n + 1) f [A (.tup xs), A (.tup xs)] (.d (.bl true)) := by
  have hfl : 2 ≤ (flags F f).length := by unfold flags; rw [hF]; exact Nat.le_refl 2
  refine Sp.mk hF rfl fun k hk => ?_
  unfold sameB
  simp! only []
  refine cmp_map xs (fun x => .tup [x, x]) (fun _ => .bl true) (pairs_self xs) rfl hl (fun x hx => ?_) ?_
  · simp! only []
    refine gcall2 (ih x hx) hk hfl ?_
    simp! only []
  · simp! only [all_true]
theorem same_str (hF : F f = some ⟨2, 4, [false, false], sameB f⟩) (s : List Nat) (hs : okS s = true) : Gs F 1 f [W s, W s] (.d (.bl true)) := by
  refine Sp.mk hF rfl fun k hk => ?_
  unfold sameB
  simp! only [hs]
theorem same_int (hF : F f = some ⟨2, 4, [false, false], sameB f⟩) (i : Int) : Gs F 1 f [I i, I i] (.d (.bl true)) := by
  refine Sp.mk hF rfl fun k hk => ?_
  unfold sameB
  simp! only []
theorem same_bl (hF : F f = some ⟨2, 4, [false, false], sameB f⟩) (b : Bool) : Gs F 1 f [A (.bl b), A (.bl b)] (.d (.bl true)) := by
  refine Sp.mk hF rfl fun k hk => ?_
  unfold sameB
  simp! only []
theorem same_non (hF : F f = some ⟨2, 4, [false, false], sameB f⟩) : Gs F 1 f [A .non, A .non] (.d (.bl true)) := by
  refine Sp.mk hF rfl fun k hk => ?_
  unfold sameB
  simp! only []
mutual
theorem same_d (hF : F f = some ⟨2, 4, [false, false], sameB f⟩) : ∀ d, nice d = true → Gs F (rk d + 1) f [A d, A d] (.d (.bl true))
  | .non, _ => same_non hF
  | .bl b, _ => same_bl hF b
  | .int i, _ => same_int hF i
  | .str s, h => same_str hF s h
  | .lst xs, h => by
    rw [nice, Bool.and_eq_true, decide_eq_true_eq] at h
    exact same_list hF xs h.2 (same_ds hF xs h.1) _ _ rfl rfl
  | .tup xs, h => by
    rw [nice, Bool.and_eq_true, decide_eq_true_eq] at h
    exact same_tup hF xs h.2 (same_ds hF xs h.1)
theorem same_ds (hF : F f = some ⟨2, 4, [false, false], sameB f⟩) : ∀ xs, nices xs = true → ∀ x ∈ xs, Gs F (rks xs + 1) f [A x, A x] (.d (.bl true))
  | [], _ => fun _ h => nomatch h
  | y :: ys, h => fun x hx => by
    rw [nices, Bool.and_eq_true] at h
    have i1 := same_d hF y h.1
    rcases List.mem_cons.mp hx with rfl | hx
    · exact Sp.up i1 (by rw [rks]; omega)
    · exact Sp.up (same_ds hF ys h.2 x hx) (by rw [rks]; omega)
end
/-- a call on values, own lists among them -/
theorem same_v (hF : F f = some ⟨2, 4, [false, false], sameB f⟩) (v w : Val) (d : D) (hd : nice d = true) (hv : v.data = d) (hw : w.data = d) : Gs F (rk d + 1) f [.lo v, .lo w] (.d (.bl true)) := by
  cases v with
  | d x =>
    cases w with
    | d y => cases hv; cases hw; exact same_d hF _ hd
    | ol ys =>
      have e : d = .lst (Val.datas ys) := hw.symm
      subst e
      have hd2 := hd
      rw [nice, Bool.and_eq_true, decide_eq_true_eq] at hd2
      exact same_list hF _ hd2.2 (same_ds hF _ hd2.1) _ _ hv rfl
  | ol xs =>
    have e : d = .lst (Val.datas xs) := hv.symm
    subst e
    have hd2 := hd
    rw [nice, Bool.and_eq_true, decide_eq_true_eq] at hd2
    exact same_list hF _ hd2.2 (same_ds hF _ hd2.1) _ _ rfl hw
/-! ### values that are asked for -/
mutual
theorem lay_nice : ∀ d : D, nice d = true → (toPy d).canLay0 = true ∧ (toPy d).depth = rk d
  | .non, _ => ⟨rfl, rfl⟩
  | .bl _, _ => ⟨rfl, rfl⟩
  | .int _, _ => ⟨rfl, rfl⟩
  | .str s, h => ⟨by
      have h' : okS s = true := h
      simp [toPy, PySem.PyData.canLay0, PySem.PyData.strOk]
      unfold okS at h'
      simpa using h', rfl⟩
  | .lst xs, h => by
    rw [nice, Bool.and_eq_true] at h
    obtain ⟨h1, h2⟩ := lay_nices xs h.1
    exact ⟨h1, congrArg (· + 1) h2⟩
  | .tup xs, h => by
    rw [nice, Bool.and_eq_true] at h
    obtain ⟨h1, h2⟩ := lay_nices xs h.1
    exact ⟨h1, congrArg (· + 1) h2⟩
theorem lay_nices : ∀ xs : List D, nices xs = true → PySem.PyData.canLayAll0 (toPys xs) = true ∧ PySem.PyData.depthAll (toPys xs) = rks xs
  | [], _ => ⟨rfl, rfl⟩
  | x :: xs, h => by
    rw [nices, Bool.and_eq_true] at h
    obtain ⟨h1, h2⟩ := lay_nice x h.1
    obtain ⟨h3, h4⟩ := lay_nices xs h.2
    exact ⟨by show (_ && _) = true; rw [h1, h3]; rfl, by show max _ _ = max _ _; rw [h2, h4]⟩
end
theorem ok_nice {d : D} (h : nice d = true) (hr : rk d ≤ 64) : D.ok d = true := by
  obtain ⟨h1, h2⟩ := lay_nice d h
  show (_ && decide _) = true
  rw [h1, h2, decide_eq_true hr]; rfl
mutual
theorem eqv_self : ∀ d : D, D.eqv d d = true
  | .non => rfl
  | .bl b => by cases b <;> rfl
  | .int i => by rw [eqv_int]; exact decide_eq_true rfl
  | .str s => by rw [eqv_str]; exact decide_eq_true rfl
  | .lst xs => eqvs_self xs
  | .tup xs => eqvs_self xs
theorem eqvs_self : ∀ xs : List D, PySem.PyData.eqvAll (toPys xs) (toPys xs) = true
  | [] => rfl
  | x :: xs => by show (D.eqv x x && _) = true; rw [eqv_self x, eqvs_self xs]; rfl
end
theorem eqvs_map {α : Type} {f : α → D} (hf : ∀ x y, D.eqv (f x) (f y) = true ↔ x = y) : ∀ xs ys : List α, PySem.PyData.eqvAll (toPys (xs.map f)) (toPys (ys.map f)) = true ↔ xs = ys
  | [], [] => by simp [toPys, PySem.PyData.eqvAll]
  | [], _ :: _ => by simp [toPys, PySem.PyData.eqvAll]
  | _ :: _, [] => by simp [toPys, PySem.PyData.eqvAll]
  | x :: xs, y :: ys => by
    show (D.eqv (f x) (f y) && PySem.PyData.eqvAll (toPys (xs.map f)) (toPys (ys.map f))) = true ↔ _
    rw [Bool.and_eq_true, hf, eqvs_map hf xs ys, List.cons.injEq]
theorem eqv_ints (xs ys : List Int) : D.eqv (.lst (xs.map .int)) (.lst (ys.map .int)) = decide (xs = ys) := by
  have := eqvs_map (f := D.int) (fun x y => by rw [eqv_int, decide_eq_true_eq]) xs ys
  rw [Bool.eq_iff_iff, decide_eq_true_eq]; exact this
theorem eqv_nats (xs ys : List Nat) : D.eqv (.lst (xs.map fun (i : Nat) => .int (i : Int))) (.lst (ys.map fun (i : Nat) => .int (i : Int))) = decide (xs = ys) := by
  have := eqvs_map (f := fun (i : Nat) => D.int (i : Int)) (fun x y => by rw [eqv_int, decide_eq_true_eq]; omega) xs ys
  rw [Bool.eq_iff_iff, decide_eq_true_eq]; exact this
theorem eqv_strs (xs ys : List (List Nat)) : D.eqv (.lst (xs.map .str)) (.lst (ys.map .str)) = decide (xs = ys) := by
  have := eqvs_map (f := D.str) (fun x y => by rw [eqv_str, decide_eq_true_eq]) xs ys
  rw [Bool.eq_iff_iff, decide_eq_true_eq]; exact this
theorem nices_of {xs : List D} (h : ∀ x ∈ xs, nice x = true) : nices xs = true := by
  induction xs with
  | nil => rfl
  | cons x xs ih => rw [nices, h x (List.mem_cons_self ..), ih fun y hy => h y (List.mem_cons_of_mem _ hy)]; rfl
theorem nice_lst {xs : List D} (h : ∀ x ∈ xs, nice x = true) (hl : xs.length ≤ line) : nice (.lst xs) = true := by
  rw [nice, nices_of h, decide_eq_true hl]; rfl
theorem nice_tup {xs : List D} (h : ∀ x ∈ xs, nice x = true) (hl : xs.length ≤ line) : nice (.tup xs) = true := by
  rw [nice, nices_of h, decide_eq_true hl]; rfl
theorem nice_ints {α : Type} {f : α → Int} {l : List α} (hl : l.length ≤ line) : nice (.lst (l.map fun a => .int (f a))) = true := nice_lst (fun x hx => by
  obtain ⟨a, _, rfl⟩ := List.mem_map.mp hx; rfl) (by rw [List.length_map]; exact hl)
theorem nice_strs {α : Type} {f : α → List Nat} {l : List α} (h : ∀ a ∈ l, okS (f a) = true) (hl : l.length ≤ line) : nice (.lst (l.map fun a => .str (f a))) = true := nice_lst (fun x hx => by
  obtain ⟨a, ha, rfl⟩ := List.mem_map.mp hx; exact h a ha) (by rw [List.length_map]; exact hl)
theorem rks_le {xs : List D} {n : Nat} (h : ∀ x ∈ xs, rk x ≤ n) : rks xs ≤ n := by
  induction xs with
  | nil => exact Nat.zero_le _
  | cons x xs ih => rw [rks]; exact Nat.max_le.mpr ⟨h x (List.mem_cons_self ..), ih fun y hy => h y (List.mem_cons_of_mem _ hy)⟩
theorem rk_ints {α : Type} {f : α → Int} {l : List α} : rk (.lst (l.map fun a => .int (f a))) ≤ 1 := Nat.succ_le_succ (rks_le fun x hx => by
  obtain ⟨a, _, rfl⟩ := List.mem_map.mp hx; exact Nat.le_refl 0)
theorem rk_strs {α : Type} {f : α → List Nat} {l : List α} : rk (.lst (l.map fun a => .str (f a))) ≤ 1 := Nat.succ_le_succ (rks_le fun x hx => by
  obtain ⟨a, _, rfl⟩ := List.mem_map.mp hx; exact Nat.le_refl 0)
/-- x in a list of whole numbers -/
theorem o_in_nats {x : Nat} {l : List Nat} {Q : Bool → Prop} (hl : l.length ≤ line) : Ok1 (cmpop .in_ (.int (x : Int)) (.lst (l.map fun (i : Nat) => .int (i : Int)))) Q = Q (decide (x ∈ l)) := by
  show Ok1 (if (D.ok (.int (x : Int)) && D.ok (.lst (l.map fun (i : Nat) => .int (i : Int)))) = true then some ((l.map fun (i : Nat) => D.int (i : Int)).any fun y => D.eqv y (.int (x : Int))) else none) Q = _
  have e : ((l.map fun (i : Nat) => D.int (i : Int)).any fun y => D.eqv y (.int (x : Int))) = decide (x ∈ l) := by
    rw [List.any_map, Bool.eq_iff_iff, List.any_eq_true, decide_eq_true_eq]
    constructor
    · rintro ⟨y, hy, e⟩
      have e' : D.eqv (.int (y : Int)) (.int (x : Int)) = true := e
      rw [eqv_int, decide_eq_true_eq] at e'
      have : y = x := by omega
      exact this ▸ hy
    · intro h
      refine ⟨x, h, ?_⟩
      show D.eqv (.int (x : Int)) (.int (x : Int)) = true
      rw [eqv_int]; exact decide_eq_true rfl
  rw [ok_int, ok_nice (nice_ints hl) (Nat.le_trans rk_ints (by decide)), e, Bool.and_self, if_pos rfl, ok1_some]
theorem o_ne_nil {α : Type} {f : α → D} {l : List α} {Q : Bool → Prop} (h : nice (.lst (l.map f)) = true) (hr : rk (.lst (l.map f)) ≤ 64) : Ok1 (cmpop .ne (.lst (l.map f)) (.lst [])) Q = Q (!l.isEmpty) := by
  rw [o_ne, ok_nice h hr]
  have e : D.eqv (.lst (l.map f)) (.lst []) = l.isEmpty := by cases l <;> rfl
  rw [e]
  exact propext ⟨fun h => h.2, fun h => ⟨by decide, h⟩⟩
theorem o_eq_lst {x y : D} {b : Bool} {Q : Bool → Prop} (hx : nice x = true) (hy : nice y = true) (rx : rk x ≤ 64) (ry : rk y ≤ 64) (e : D.eqv x y = b) : Ok1 (cmpop .eq x y) Q = Q b := by
  rw [o_eq, ok_nice hx rx, ok_nice hy ry, e]
  exact propext ⟨fun h => h.2, fun h => ⟨rfl, h⟩⟩
theorem o_ne_lst {x y : D} {b : Bool} {Q : Bool → Prop} (hx : nice x = true) (hy : nice y = true) (rx : rk x ≤ 64) (ry : rk y ≤ 64) (e : D.eqv x y = b) : Ok1 (cmpop .ne x y) Q = Q (!b) := by
  rw [o_ne, ok_nice hx rx, ok_nice hy ry, e]
  exact propext ⟨fun h => h.2, fun h => ⟨rfl, h⟩⟩
end
/-! ### pots, handed on with any values -/
def Rf (F : Nat → Option Fd) (n f : Nat) (rs : List R) (P : Val → Prop) : Prop := ∀ a b, pok a b → Sp F n f (Pt a b :: rs.map slotR) fun v o => ∃ a' b' o', o = Pt a' b' :: o' ∧ o'.length = rs.length ∧ pok a' b' ∧ P v
section
variable {F : Nat → Option Fd} {n k f i d : Nat} {P : Val → Prop} {ρ : Env} {Q : R → Env → Prop} {a b : Int}
theorem potcallR {rs : List R} (hr : rs.all isVR = true) (h : Rf F n f rs P) (hk : n ≤ k) (hf : (flags F f).head? = some true ∧ rs.length + 1 ≤ (flags F f).length) (hp : pok a b) (hg : ρ[i]? = some (Pt a b)) (hQ : ∀ a' b' v, pok a' b' → P v → Q (.v v) (ρ.set i (Pt a' b'))) : Ok2 (callR (flags F) (callK F k) f (.pk i :: rs) ρ) Q := by
  obtain ⟨v, o, e, a', b', o', rfl, l, p', pv⟩ := h a b hp k hk
  obtain ⟨h1, h2⟩ := hf
  obtain ⟨fl, hfl⟩ : ∃ fl, flags F f = true :: fl := by
    cases hh : flags F f with
    | nil => rw [hh] at h1; cases h1
    | cons b fl => rw [hh] at h1; cases h1; exact ⟨fl, rfl⟩
  rw [hfl, List.length_cons] at h2
  have hg' : getS ρ i = some (.ol [.d (.int a), .d (.int b)]) := by unfold getS; rw [hg]
  refine ⟨.v v, ρ.set i (Pt a' b'), ?_, hQ a' b' v p' pv⟩
  simp only [callR, hfl, handAll, hand, hg', Option.bind_some, if_true, hand_vr hr (Nat.le_of_succ_le_succ h2), Option.map_some, e]
  rw [if_neg (by simp)]
  simp only [back, back_nones l, Option.map_some, List.set_set]
def pickB (d : Nat) : S := .ret (.idx (.var 1) (.call d (.cons (.var 0) (.cons (.b1 .len (.var 1)) .nil)) []))
theorem pick_b (hF : F f = some ⟨2, 2, [true, false], pickB d⟩) (hd : DrawOk F d) (xs : List D) (h0 : 0 < xs.length) (h1 : xs.length < 1000000) : Rf F 2 f [.v (.ol (xs.map .d))] (fun v => ∃ x ∈ xs, v = .d x) := by
  intro a b hp
  refine Sp.mk hF rfl fun k hk => ?_
  unfold pickB
  show Ok1 (exec _ _ [Pt a b, .lo (.ol (xs.map .d))]) _
  simp! only []
  refine hd.call xs.length hk rfl h0 h1 hp rfl fun a b r hp hr => ?_
  simp! only [atI_nat hr]
  exact ⟨_, _, _, rfl, rfl, hp, _, List.getElem_mem hr, rfl⟩
end
end Pu

set_option Elab.async false
set_option maxRecDepth 100000
set_option maxHeartbeats 2000000
/-! Looks at words, borders and periods, as the package has them. -/
namespace Pu.Bo
open P (wneg wbl wint wol wlst sq turnC Mk)
local macro_rules | `(tactic| simp! only [$ls,*]) => `(tactic| simp -implicitDefEqProofs -dsimp only [flat_app, datas_app, ↓we_fzF, ↓fz_v, ↓fz_rd, ↓fz_pk, ↓fzs_ol, ↓fzs_s, ↓fzs_0, we_fzF, fz_v, fz_rd, fz_pk, fzs_ol, fzs_s, fzs_0, isD_d, isD_map, isD_map1, ↓ws_each, ws_each, appV_ol, shortOl_ol, ↓bd_len, ↓bd_abs, ↓bd_sum, ↓bd_all, ↓bd_any, ↓bd_int, ↓bd_list, ↓bd_tuple, ↓bd_repr, ↓bd_max, ↓bd_min, ↓bd_sorted, ↓bd_bool, bd_len, bd_abs, bd_sum, bd_all, bd_any, bd_int, bd_list, bd_tuple, bd_repr, bd_max, bd_min, bd_sorted, bd_bool, ↓o_eq_bl, ↓o_ne_bl, o_eq_bl, o_ne_bl, bne_self_eq_false, beq_self_eq_true, Bool.bne_false, Bool.bne_true, ↓okSl_d, ↓okSl_ol, ↓okSl_rd, ↓okLo_lo, ↓ok_dat_d, ↓ok_dat_ol, ↓ok_dat_pk, ↓ok_dat_rd, ↓ok_fdat_d, ↓ok_fdat_ol, ↓ok_fdat_pk, ↓ok_gdat_d, ↓ok_gdat_ol, ↓ok_gdat_pk, ↓ok_gdat_rd, ↓ok_ndat_d, ↓ok_ndat_ol, ↓ok_ndat_pk, ↓ok_esc_v, ↓ok_esc_pk, ↓ok_mov_v, ↓ok_srcD_d, ↓ok_srcD_ol, ↓ok_srcD_pk, ↓ok_srcD_rd, ↓ok_srcs_nil, ↓ok_srcs_cons, ↓ok_escs_nil, ↓ok_escs_cons, ↓we_var, ↓we_cst, ↓we_bin, ↓wneg_int, ↓we_neg, ↓wbl_bl, ↓we_not, ↓we_and, ↓we_or, ↓we_cmp, ↓we_chn, ↓we_ite, ↓we_idx, ↓we_sl, ↓we_rev, ↓we_tup, ↓we_lst, ↓we_turn, ↓we_isi, ↓we_b1, ↓we_b2, ↓wint_int, ↓we_ono, ↓we_oso, ↓we_nil, ↓we_cons, ↓wt_yes, ↓wt_tr, ↓wt_no, ↓wt_an, ↓wt_or, ↓sq_nx, ↓sq_rt, ↓sq_bk, ↓sq_ct, ↓ws_seq, ↓ws_set, ↓ws_movs_nil, ↓ws_movs_cons, ↓ws_asgs_nil, ↓ws_asgs_cons, ↓ws_setT, ↓ws_unp, ↓ws_ex, ↓ws_ite, ↓ws_ret, ↓ws_retN, ↓ws_pass, ↓ws_brk, ↓ws_cont, ↓wol_ol, ↓ws_app, ↓ws_for, ↓ws_whl, ↓wlst_lst, ↓ws_ext, ↓wa_nm, ↓wa_tp, ↓wa_nil, ↓wa_cons, ↓wa_ix, ↓o_add_int, ↓o_add_str, ↓o_add_lst, ↓o_add_tup, ↓o_sub, ↓o_mul_int, ↓o_mul_str, ↓o_mul_lst, ↓o_fdiv, ↓o_mod, ↓o_pow, ↓o_eq_int, ↓o_ne_int, ↓o_eq_str, ↓o_ne_str, ↓o_lt_int, ↓o_le_int, ↓o_gt_int, ↓o_ge_int, ↓o_lt_str, ↓o_le_str, ↓o_gt_str, ↓o_ge_str, ↓o_in_str, ↓o_nin_str, ↓o_is_non, ↓o_isn_non, ↓o_is_bl, ↓o_isn_bl, ↓o_idx_lst, ↓o_idx_tup, ↓o_idx_str, ↓o_sl_str, ↓o_sl_lst, ↓o_sl_tup, ↓o_rev_str, ↓o_rev_lst, ↓o_len_str, ↓o_len_lst, ↓o_len_tup, ↓o_abs, ↓o_int_int, ↓o_int_bl, ↓o_bool_int, ↓o_list_lst, ↓o_list_tup, ↓o_list_str, ↓o_sorted_str, ↓mkd_str, ↓mkd_lst, ↓o_ix_str, ↓o_ix_lst, ↓o_sw, ↓o_ew, ↓wda_d, ↓ws_aug, ↓o_aug_add, ↓o_aug_sub, ↓o_maxd, ↓ws_appAt, ↓wol2_ol, ↓o_enzip, ↓we_met, ↓o_tuple_lst, ↓o_tuple_tup, ↓o_repr, ↓o_all, ↓o_any, ↓o_sum, ↓o_max, ↓o_min, ↓o_max2, ↓o_min2, ↓o_divmod, ↓o_join, ↓o_seq_lst, ↓o_seq_tup, ↓o_seq_str, ↓o_rng1, ↓o_rng2, ↓o_zip_lst, ↓o_zip_tup, ↓o_enum, ↓o_gcd, ↓o_sset, ↓o_ssetT, ↓o_lset, ↓o_lsetT, ↓o_sw3, ↓we_bs, ↓we_sw3, ↓we_pop, ↓we_dlk, ↓we_lrng, ↓wid_int, isD_ol, ↓o_revl, ↓sl_s, ↓sl_0, ↓lo_s, ↓lo_0, ↓ok_asgM, ↓ok_movM, ↓we_callM, ↓we_callkM, ↓ok_pickR, ↓fin_rt, ↓fin_nx, ↓lp_nx, ↓lp_ct, ↓lp_bk, ↓lp_rt, ↓we_compC, okSl_d, okSl_ol, okSl_rd, okLo_lo, ok_dat_d, ok_dat_ol, ok_dat_pk, ok_dat_rd, ok_fdat_d, ok_fdat_ol, ok_fdat_pk, ok_gdat_d, ok_gdat_ol, ok_gdat_pk, ok_gdat_rd, ok_ndat_d, ok_ndat_ol, ok_ndat_pk, ok_esc_v, ok_esc_pk, ok_mov_v, ok_srcD_d, ok_srcD_ol, ok_srcD_pk, ok_srcD_rd, ok_srcs_nil, ok_srcs_cons, ok_escs_nil, ok_escs_cons, we_var, we_cst, we_bin, wneg_int, we_neg, wbl_bl, we_not, we_and, we_or, we_cmp, we_chn, we_ite, we_idx, we_sl, we_rev, we_tup, we_lst, we_turn, we_isi, we_b1, we_b2, wint_int, we_ono, we_oso, we_nil, we_cons, wt_yes, wt_tr, wt_no, wt_an, wt_or, sq_nx, sq_rt, sq_bk, sq_ct, ws_seq, ws_set, ws_movs_nil, ws_movs_cons, ws_asgs_nil, ws_asgs_cons, ws_setT, ws_unp, ws_ex, ws_ite, ws_ret, ws_retN, ws_pass, ws_brk, ws_cont, wol_ol, ws_app, ws_for, ws_whl, wlst_lst, ws_ext, wa_nm, wa_tp, wa_nil, wa_cons, wa_ix, o_add_int, o_add_str, o_add_lst, o_add_tup, o_sub, o_mul_int, o_mul_str, o_mul_lst, o_fdiv, o_mod, o_pow, o_eq_int, o_ne_int, o_eq_str, o_ne_str, o_lt_int, o_le_int, o_gt_int, o_ge_int, o_lt_str, o_le_str, o_gt_str, o_ge_str, o_in_str, o_nin_str, o_is_non, o_isn_non, o_is_bl, o_isn_bl, o_idx_lst, o_idx_tup, o_idx_str, o_sl_str, o_sl_lst, o_sl_tup, o_rev_str, o_rev_lst, o_len_str, o_len_lst, o_len_tup, o_abs, o_int_int, o_int_bl, o_bool_int, o_list_lst, o_list_tup, o_list_str, o_sorted_str, mkd_str, mkd_lst, o_ix_str, o_ix_lst, o_sw, o_ew, wda_d, ws_aug, o_aug_add, o_aug_sub, o_maxd, ws_appAt, wol2_ol, o_enzip, we_met, o_tuple_lst, o_tuple_tup, o_repr, o_all, o_any, o_sum, o_max, o_min, o_max2, o_min2, o_divmod, o_join, o_seq_lst, o_seq_tup, o_seq_str, o_rng1, o_rng2, o_zip_lst, o_zip_tup, o_enum, o_revl, sl_s, sl_0, lo_s, lo_0, ok_asgM, ok_movM, we_callM, we_callkM, ok_pickR, fin_rt, fin_nx, lp_nx, lp_ct, lp_bk, lp_rt, we_compC, ok1_some, ok2_some, if_true', if_false', data_d, data_ol, datas_nil, datas_cons, datas_mapd, datas_map1, flat_d, flat_nil, flat_cons, flat_mapd, flat_map1, truth_bl', truth_int, truth_str, truth_lst, truth_tup, truth_non, notOl_d', notOl_pk, fzR_v, fzR_rd, isNon_non, isNon_int, isNon_str, isNon_lst, isNon_tup, isNon_bl, hasTy, List.set_cons_zero, List.set_cons_succ, List.getD_cons_zero, List.getD_cons_succ, List.getD_nil, List.length_cons, List.length_nil, List.map_nil, List.map_cons, List.append_nil, List.nil_append, List.cons_append, List.take_succ_cons, List.take_zero, List.any_cons, List.any_nil, List.all_cons, List.all_nil, Bool.or_false, Bool.or_true, Bool.and_true, Bool.true_and, Bool.false_and, Bool.and_false, Bool.false_or, Bool.true_or, Bool.not_true, Bool.not_false, Bool.not_not, true_and, and_true, Nat.reduceAdd, Nat.reduceLT, Nat.reduceLeDiff, Nat.reduceEqDiff, Nat.zero_lt_succ, decide_true, decide_false, ne_eq, not_false_eq_true, Int.toNat_natCast, Int.reduceToNat, reduceCtorEq, pickL, List.filterMap_cons, List.filterMap_nil, if_true, if_false, Bool.false_eq_true, Int.cast_ofNat_Int, nc_add, nc_add1, nc_1add, nc_0add, nc_mul, nc_2mul, nc_mul2, nc_fdiv2, fmod_nat, fdiv_nat, cut_to, cut_from, cut_last, cut_ft, cut_all, cut_to_0, cut_to_1, cut_to_2, cut_to_3, cut_to_4, cut_from_1, cut_from_2, cut_from_3, wipe, unwipe, List.getElem?_cons_zero, List.getElem?_cons_succ, Option.getD_some, Int.reduceEq, Int.reduceLT, Int.reduceLE, Int.reducePow, Int.reduceNeg, Int.reduceAdd, Int.reduceSub, Int.reduceMul, atI_0, atI_1, atI_2, ixN_0, ixN_1, eq_self, and_self, Nat.reduceSub, List.replicate_zero, List.reduceReplicate, $ls,*])
local macro_rules | `(tactic| simpa! only [$ls,*]) => `(tactic| simp -implicitDefEqProofs -dsimp only [flat_app, datas_app, ↓we_fzF, ↓fz_v, ↓fz_rd, ↓fz_pk, ↓fzs_ol, ↓fzs_s, ↓fzs_0, we_fzF, fz_v, fz_rd, fz_pk, fzs_ol, fzs_s, fzs_0, isD_d, isD_map, isD_map1, ↓ws_each, ws_each, appV_ol, shortOl_ol, ↓bd_len, ↓bd_abs, ↓bd_sum, ↓bd_all, ↓bd_any, ↓bd_int, ↓bd_list, ↓bd_tuple, ↓bd_repr, ↓bd_max, ↓bd_min, ↓bd_sorted, ↓bd_bool, bd_len, bd_abs, bd_sum, bd_all, bd_any, bd_int, bd_list, bd_tuple, bd_repr, bd_max, bd_min, bd_sorted, bd_bool, ↓o_eq_bl, ↓o_ne_bl, o_eq_bl, o_ne_bl, bne_self_eq_false, beq_self_eq_true, Bool.bne_false, Bool.bne_true, ↓okSl_d, ↓okSl_ol, ↓okSl_rd, ↓okLo_lo, ↓ok_dat_d, ↓ok_dat_ol, ↓ok_dat_pk, ↓ok_dat_rd, ↓ok_fdat_d, ↓ok_fdat_ol, ↓ok_fdat_pk, ↓ok_gdat_d, ↓ok_gdat_ol, ↓ok_gdat_pk, ↓ok_gdat_rd, ↓ok_ndat_d, ↓ok_ndat_ol, ↓ok_ndat_pk, ↓ok_esc_v, ↓ok_esc_pk, ↓ok_mov_v, ↓ok_srcD_d, ↓ok_srcD_ol, ↓ok_srcD_pk, ↓ok_srcD_rd, ↓ok_srcs_nil, ↓ok_srcs_cons, ↓ok_escs_nil, ↓ok_escs_cons, ↓we_var, ↓we_cst, ↓we_bin, ↓wneg_int, ↓we_neg, ↓wbl_bl, ↓we_not, ↓we_cmp, ↓we_chn, ↓we_idx, ↓we_sl, ↓we_rev, ↓we_tup, ↓we_lst, ↓we_turn, ↓we_isi, ↓we_b1, ↓we_b2, ↓wint_int, ↓we_ono, ↓we_oso, ↓we_nil, ↓we_cons, ↓wt_yes, ↓wt_tr, ↓wt_no, ↓wt_an, ↓wt_or, ↓sq_nx, ↓sq_rt, ↓sq_bk, ↓sq_ct, ↓ws_seq, ↓ws_set, ↓ws_movs_nil, ↓ws_movs_cons, ↓ws_asgs_nil, ↓ws_asgs_cons, ↓ws_setT, ↓ws_unp, ↓ws_ex, ↓ws_ite, ↓ws_ret, ↓ws_retN, ↓ws_pass, ↓ws_brk, ↓ws_cont, ↓wol_ol, ↓ws_app, ↓ws_for, ↓ws_whl, ↓wlst_lst, ↓ws_ext, ↓wa_nm, ↓wa_tp, ↓wa_nil, ↓wa_cons, ↓wa_ix, ↓o_add_int, ↓o_add_str, ↓o_add_lst, ↓o_add_tup, ↓o_sub, ↓o_mul_int, ↓o_mul_str, ↓o_mul_lst, ↓o_fdiv, ↓o_mod, ↓o_pow, ↓o_eq_int, ↓o_ne_int, ↓o_eq_str, ↓o_ne_str, ↓o_lt_int, ↓o_le_int, ↓o_gt_int, ↓o_ge_int, ↓o_lt_str, ↓o_le_str, ↓o_gt_str, ↓o_ge_str, ↓o_in_str, ↓o_nin_str, ↓o_is_non, ↓o_isn_non, ↓o_is_bl, ↓o_isn_bl, ↓o_idx_lst, ↓o_idx_tup, ↓o_idx_str, ↓o_sl_str, ↓o_sl_lst, ↓o_sl_tup, ↓o_rev_str, ↓o_rev_lst, ↓o_len_str, ↓o_len_lst, ↓o_len_tup, ↓o_abs, ↓o_int_int, ↓o_int_bl, ↓o_bool_int, ↓o_list_lst, ↓o_list_tup, ↓o_list_str, ↓o_sorted_str, ↓mkd_str, ↓mkd_lst, ↓o_ix_str, ↓o_ix_lst, ↓o_sw, ↓o_ew, ↓wda_d, ↓ws_aug, ↓o_aug_add, ↓o_aug_sub, ↓o_maxd, ↓ws_appAt, ↓wol2_ol, ↓o_enzip, ↓we_met, ↓o_tuple_lst, ↓o_tuple_tup, ↓o_repr, ↓o_all, ↓o_any, ↓o_sum, ↓o_max, ↓o_min, ↓o_max2, ↓o_min2, ↓o_divmod, ↓o_join, ↓o_seq_lst, ↓o_seq_tup, ↓o_seq_str, ↓o_rng1, ↓o_rng2, ↓o_zip_lst, ↓o_zip_tup, ↓o_enum, ↓o_gcd, ↓o_sset, ↓o_ssetT, ↓o_lset, ↓o_lsetT, ↓o_sw3, ↓we_bs, ↓we_sw3, ↓we_pop, ↓we_dlk, ↓we_lrng, ↓wid_int, isD_ol, ↓o_revl, ↓sl_s, ↓sl_0, ↓lo_s, ↓lo_0, ↓ok_asgM, ↓ok_movM, ↓we_callM, ↓we_callkM, ↓ok_pickR, ↓fin_rt, ↓fin_nx, ↓lp_nx, ↓lp_ct, ↓lp_bk, ↓lp_rt, ↓we_compC, okSl_d, okSl_ol, okSl_rd, okLo_lo, ok_dat_d, ok_dat_ol, ok_dat_pk, ok_dat_rd, ok_fdat_d, ok_fdat_ol, ok_fdat_pk, ok_gdat_d, ok_gdat_ol, ok_gdat_pk, ok_gdat_rd, ok_ndat_d, ok_ndat_ol, ok_ndat_pk, ok_esc_v, ok_esc_pk, ok_mov_v, ok_srcD_d, ok_srcD_ol, ok_srcD_pk, ok_srcD_rd, ok_srcs_nil, ok_srcs_cons, ok_escs_nil, ok_escs_cons, we_var, we_cst, we_bin, wneg_int, we_neg, wbl_bl, we_not, we_cmp, we_chn, we_idx, we_sl, we_rev, we_tup, we_lst, we_turn, we_isi, we_b1, we_b2, wint_int, we_ono, we_oso, we_nil, we_cons, wt_yes, wt_tr, wt_no, wt_an, wt_or, sq_nx, sq_rt, sq_bk, sq_ct, ws_seq, ws_set, ws_movs_nil, ws_movs_cons, ws_asgs_nil, ws_asgs_cons, ws_setT, ws_unp, ws_ex, ws_ite, ws_ret, ws_retN, ws_pass, ws_brk, ws_cont, wol_ol, ws_app, ws_for, ws_whl, wlst_lst, ws_ext, wa_nm, wa_tp, wa_nil, wa_cons, wa_ix, o_add_int, o_add_str, o_add_lst, o_add_tup, o_sub, o_mul_int, o_mul_str, o_mul_lst, o_fdiv, o_mod, o_pow, o_eq_int, o_ne_int, o_eq_str, o_ne_str, o_lt_int, o_le_int, o_gt_int, o_ge_int, o_lt_str, o_le_str, o_gt_str, o_ge_str, o_in_str, o_nin_str, o_is_non, o_isn_non, o_is_bl, o_isn_bl, o_idx_lst, o_idx_tup, o_idx_str, o_sl_str, o_sl_lst, o_sl_tup, o_rev_str, o_rev_lst, o_len_str, o_len_lst, o_len_tup, o_abs, o_int_int, o_int_bl, o_bool_int, o_list_lst, o_list_tup, o_list_str, o_sorted_str, mkd_str, mkd_lst, o_ix_str, o_ix_lst, o_sw, o_ew, wda_d, ws_aug, o_aug_add, o_aug_sub, o_maxd, ws_appAt, wol2_ol, o_enzip, we_met, o_tuple_lst, o_tuple_tup, o_repr, o_all, o_any, o_sum, o_max, o_min, o_max2, o_min2, o_divmod, o_join, o_seq_lst, o_seq_tup, o_seq_str, o_rng1, o_rng2, o_zip_lst, o_zip_tup, o_enum, o_revl, sl_s, sl_0, lo_s, lo_0, ok_asgM, ok_movM, we_callM, we_callkM, ok_pickR, fin_rt, fin_nx, lp_nx, lp_ct, lp_bk, lp_rt, we_compC, ok1_some, ok2_some, if_true', if_false', data_d, data_ol, datas_nil, datas_cons, datas_mapd, datas_map1, flat_d, flat_nil, flat_cons, flat_mapd, flat_map1, truth_bl', truth_int, truth_str, truth_lst, truth_tup, truth_non, notOl_d', notOl_pk, fzR_v, fzR_rd, isNon_non, isNon_int, isNon_str, isNon_lst, isNon_tup, isNon_bl, hasTy, List.set_cons_zero, List.set_cons_succ, List.getD_cons_zero, List.getD_cons_succ, List.getD_nil, List.length_cons, List.length_nil, List.map_nil, List.map_cons, List.append_nil, List.nil_append, List.cons_append, List.take_succ_cons, List.take_zero, List.any_cons, List.any_nil, List.all_cons, List.all_nil, Bool.or_false, Bool.or_true, Bool.and_true, Bool.true_and, Bool.false_and, Bool.and_false, Bool.false_or, Bool.true_or, Bool.not_true, Bool.not_false, Bool.not_not, true_and, and_true, Nat.reduceAdd, Nat.reduceLT, Nat.reduceLeDiff, Nat.reduceEqDiff, Nat.zero_lt_succ, decide_true, decide_false, ne_eq, not_false_eq_true, Int.toNat_natCast, Int.reduceToNat, reduceCtorEq, pickL, List.filterMap_cons, List.filterMap_nil, if_true, if_false, Bool.false_eq_true, Int.cast_ofNat_Int, nc_add, nc_add1, nc_1add, nc_0add, nc_mul, nc_2mul, nc_mul2, nc_fdiv2, fmod_nat, fdiv_nat, cut_to, cut_from, cut_last, cut_ft, cut_all, cut_to_0, cut_to_1, cut_to_2, cut_to_3, cut_to_4, cut_from_1, cut_from_2, cut_from_3, wipe, unwipe, List.getElem?_cons_zero, List.getElem?_cons_succ, Option.getD_some, Int.reduceEq, Int.reduceLT, Int.reduceLE, Int.reducePow, Int.reduceNeg, Int.reduceAdd, Int.reduceSub, Int.reduceMul, atI_0, atI_1, atI_2, ixN_0, ixN_1, eq_self, and_self, Nat.reduceSub, List.replicate_zero, List.reduceReplicate, $ls,*])
variable {F : Nat → Option Fd}
theorem fl_of {f n a b : Nat} {fl : List Bool} {s : S} (h : F f = some ⟨a, b, fl, s⟩) (hl : n ≤ fl.length) : n ≤ (flags F f).length := by
  unfold flags; rw [h]; exact hl
def overB : S := .ret (.and (.isi (.var 0) [.str]) (.b1 .all (.comp [2] .seq (.cons (.var 0) .nil) (.nm 2) .yes (.cmp .in_ (.var 2) (.sl (.cst (.str [97, 98, 99])) .no (.so (.var 1)))))))
def isOverB (f : Nat) : S := .ret (.and (.call f (.cons (.var 0) (.cons (.var 1) .nil)) []) (.cmp .le (.b1 .len (.var 0)) (.cst (.int 400))))
def rightB (f : Nat) : S := .ret (.call f (.cons (.var 0) (.cons (.b1 .len (.cst (.str [97, 98, 99]))) .nil)) [])
def checkB (f : Nat) : S := .ite (.no (.tr (.call f (.cons (.var 0) .nil) []))) .never .pass
def tableB : S := .seq (.set 1 (.lst .nil)) (.seq (.for_ .rng1 (.cons (.b1 .len (.var 0)) .nil) (.nm 2) (.seq (.set 3 (.ite (.tr (.cmp .gt (.var 2) (.cst (.int 0)))) (.idx (.var 1) (.bin .sub (.var 2) (.cst (.int 1)))) (.cst (.int 0)))) (.seq (.whl (.an (.tr (.cmp .gt (.var 3) (.cst (.int 0)))) (.tr (.cmp .ne (.idx (.var 0) (.var 3)) (.idx (.var 0) (.var 2))))) (.set 3 (.idx (.var 1) (.bin .sub (.var 3) (.cst (.int 1)))))) (.app 1 (.ite (.an (.tr (.cmp .gt (.var 2) (.cst (.int 0)))) (.tr (.cmp .eq (.idx (.var 0) (.var 3)) (.idx (.var 0) (.var 2))))) (.bin .add (.fz (.var 3)) (.cst (.int 1))) (.cst (.int 0))))))) (.ret (.var 1)))
def lengthsB (f : Nat) : S := .seq (.setT [1, 2] (.cons (.call f (.cons (.var 0) .nil) []) (.cons (.lst .nil) .nil))) (.seq (.set 3 (.b1 .len (.var 0))) (.seq (.whl (.tr (.cmp .gt (.var 3) (.cst (.int 0)))) (.seq (.set 3 (.idx (.var 1) (.bin .sub (.var 3) (.cst (.int 1))))) (.app 2 (.var 3)))) (.ret (.var 2))))
def periodsB (f : Nat) : S := .ret (.comp [1] .seq (.cons (.call f (.cons (.var 0) .nil) []) .nil) (.nm 1) .yes (.bin .sub (.b1 .len (.var 0)) (.var 1)))
theorem over_b {f : Nat} (hF : F f = some ⟨2, 3, [false, false], overB⟩) (s : List Nat) (hs : abl 3 s) (hl : s.length ≤ 1000) : Gs F 1 f [W s, I 3] (.d (.bl true)) := by
  refine Sp.mk hF rfl fun k hk => ?_
  unfold overB
  simp! only []
  refine cmp_map s (fun c => .str [c]) (fun _ => .bl true) rfl rfl (by show _ ≤ 16777216; omega) (fun c hc => ?_) ?_
  · simp! only []
    have := hs c hc
    have e : decide (c ∈ ([97, 98, 99] : List Nat)) = true := decide_eq_true (by simp; omega)
    rw [e]
  · simp! only [all_true]
/-- a word that the package takes -/
def wd (s : List Nat) : Prop := abl 3 s ∧ s.length ≤ 400
/-- how it is looked at -/
structure Chk (F : Nat → Option Fd) (o i r c : Nat) : Prop where
  ho : F o = some ⟨2, 3, [false, false], overB⟩
  hi : F i = some ⟨2, 2, [false, false], isOverB o⟩
  hr : F r = some ⟨1, 1, [false], rightB i⟩
  hc : F c = some ⟨1, 1, [false], checkB r⟩
theorem word_right_b {o i r c : Nat} (h : Chk F o i r c) (s : List Nat) (hs : wd s) : Gs F 3 r [W s] (.d (.bl true)) := by
  have hl := hs.2
  have h2 : Gs F 2 i [W s, I 3] (.d (.bl true)) := by
    refine Sp.mk h.hi rfl fun k hk => ?_
    unfold isOverB
    simp! only [gc2 (over_b h.ho s hs.1 (by omega)) hk (fl_of h.ho (by decide))]
    exact congrArg (fun b => Val.d (.bl b)) (decide_eq_true (by omega))
  refine Sp.mk h.hr rfl fun k hk => ?_
  unfold rightB
  simp! only [gc2 h2 hk (fl_of h.hi (by decide))]
theorem check_b {o i r c : Nat} (h : Chk F o i r c) (s : List Nat) (hs : wd s) : Gs F 4 c [W s] (.d .non) := by
  refine Sp.mk h.hc rfl fun k hk => ?_
  unfold checkB
  simp! only [gc1 (word_right_b h s hs) hk (fl_of h.hr (by decide))]
/-! ### borders: the mathematics -/
/-- m is a border's length of the first n letters -/
def B (w : List Nat) (n m : Nat) : Prop := m < n ∧ ∀ i, i < m → w[i]? = w[n - m + i]?
section
variable {w : List Nat} {n m k : Nat}
theorem B.zero (h : 0 < n) : B w n 0 := ⟨h, fun i hi => by omega⟩
theorem B.trans (h1 : B w n m) (h2 : B w m k) : B w n k := by
  refine ⟨by have := h1.1; have := h2.1; omega, fun i hi => ?_⟩
  rw [h2.2 i hi, h1.2 (m - k + i) (by have := h2.1; omega)]
  congr 1
  have := h1.1; have := h2.1; omega
theorem B.sub (h1 : B w n m) (h2 : B w n k) (h : k < m) : B w m k := by
  refine ⟨h, fun i hi => ?_⟩
  rw [h2.2 i hi, h1.2 (m - k + i) (by omega)]
  congr 1
  have := h1.1; omega
theorem B.ext : B w (n + 1) (m + 1) ↔ B w n m ∧ w[m]? = w[n]? := by
  constructor
  · intro h
    have h1 := h.1
    refine ⟨⟨by omega, fun i hi => ?_⟩, ?_⟩
    · have := h.2 i (by omega)
      rwa [show n + 1 - (m + 1) + i = n - m + i by omega] at this
    · have := h.2 m (by omega)
      rwa [show n + 1 - (m + 1) + m = n by omega] at this
  · rintro ⟨h, e⟩
    have h1 := h.1
    refine ⟨by omega, fun i hi => ?_⟩
    rw [show n + 1 - (m + 1) + i = n - m + i by omega]
    by_cases hm : i < m
    · exact h.2 i hm
    · rw [show i = m by omega, e]; congr 1; omega
/-- the longest border -/
def LB (w : List Nat) (n m : Nat) : Prop := B w n m ∧ ∀ k, B w n k → k ≤ m
theorem LB.uniq (h1 : LB w n m) (h2 : LB w n k) : m = k := Nat.le_antisymm (h2.2 m h1.1) (h1.2 k h2.1)
/-- borders by cutting -/
theorem B.cut (hn : n ≤ w.length) : B w n m ↔ m < n ∧ (w.take n).take m = (w.take n).drop (n - m) := by
  unfold B
  refine and_congr_right fun hm => ?_
  constructor
  · intro h
    apply List.ext_getElem?
    intro i
    by_cases hi : i < m
    · rw [List.getElem?_take_of_lt hi, List.getElem?_drop, List.getElem?_take_of_lt (by omega), List.getElem?_take_of_lt (by omega)]
      exact h i hi
    · rw [List.getElem?_eq_none (by rw [List.length_take]; omega), List.getElem?_eq_none (by rw [List.length_drop, List.length_take]; omega)]
  · intro h i hi
    have := congrArg (·[i]?) h
    simp only [List.getElem?_take_of_lt hi, List.getElem?_drop, List.getElem?_take_of_lt (show i < n by omega), List.getElem?_take_of_lt (show n - m + i < n by omega)] at this
    exact this
end
def isB (w : List Nat) (m : Nat) : Bool := decide (w.take m = w.drop (w.length - m))
theorem isB_iff {w : List Nat} {m : Nat} (hm : m < w.length) : isB w m = true ↔ B w w.length m := by
  rw [B.cut (Nat.le_refl _), List.take_length]
  unfold isB
  rw [decide_eq_true_eq]
  exact ⟨fun h => ⟨hm, h⟩, fun h => h.2⟩
theorem isB_take {w : List Nat} {n m : Nat} (hn : n ≤ w.length) (hm : m < n) : isB (w.take n) m = true ↔ B w n m := by
  rw [B.cut hn]
  unfold isB
  rw [decide_eq_true_eq, List.length_take, Nat.min_eq_left hn]
  exact ⟨fun h => ⟨hm, h⟩, fun h => h.2⟩
/-- all borders' lengths, rising -/
def bl (w : List Nat) : List Nat := (List.range w.length).filter (isB w)
/-- the longest border's length (0 of the empty word) -/
def lb (w : List Nat) : Nat := (bl w).foldl max 0
theorem foldl_max_mem : ∀ (l : List Nat) (a : Nat), l.foldl max a = a ∨ l.foldl max a ∈ l
  | [], a => .inl rfl
  | x :: l, a => by
    rw [List.foldl_cons]
    rcases foldl_max_mem l (max a x) with h | h
    · rw [h]
      rcases Nat.le_total a x with q | q
      · right; rw [Nat.max_eq_right q]; exact List.mem_cons_self ..
      · left; exact Nat.max_eq_left q
    · right; exact List.mem_cons_of_mem _ h
theorem foldl_max_ge : ∀ (l : List Nat) (a x : Nat), x = a ∨ x ∈ l → x ≤ l.foldl max a
  | [], a, x, h => by
    rcases h with rfl | h
    · exact Nat.le_refl _
    · exact nomatch h
  | y :: l, a, x, h => by
    rw [List.foldl_cons]
    rcases h with rfl | h
    · exact Nat.le_trans (Nat.le_max_left x y) (foldl_max_ge l _ _ (.inl rfl))
    · rcases List.mem_cons.mp h with rfl | h
      · exact Nat.le_trans (Nat.le_max_right a x) (foldl_max_ge l _ _ (.inl rfl))
      · exact foldl_max_ge l _ _ (.inr h)
theorem lb_spec {w : List Nat} (h : 0 < w.length) : LB w w.length (lb w) := by
  have mem : ∀ m, m ∈ bl w ↔ B w w.length m := fun m => by
    unfold bl
    rw [List.mem_filter, List.mem_range]
    exact ⟨fun q => (isB_iff q.1).mp q.2, fun q => ⟨q.1, (isB_iff q.1).mpr q⟩⟩
  refine ⟨?_, fun k hk => foldl_max_ge _ _ _ (.inr ((mem k).mpr hk))⟩
  rcases foldl_max_mem (bl w) 0 with q | q
  · unfold lb; rw [q]; exact B.zero h
  · exact (mem _).mp q
theorem B_take {w : List Nat} {n N m : Nat} (h : n ≤ N) : B (w.take N) n m ↔ B w n m := by
  unfold B
  refine and_congr_right fun hm => forall_congr' fun i => forall_congr' fun hi => ?_
  rw [List.getElem?_take_of_lt (by omega), List.getElem?_take_of_lt (by omega)]
/-- of the first n letters -/
theorem lbt {w : List Nat} {n : Nat} (h : 0 < n) (hn : n ≤ w.length) : LB w n (lb (w.take n)) := by
  have hl : (w.take n).length = n := by rw [List.length_take]; omega
  have := lb_spec (w := w.take n) (by omega)
  rw [hl] at this
  exact ⟨(B_take (Nat.le_refl n)).mp this.1, fun k hk => this.2 k ((B_take (Nat.le_refl n)).mpr hk)⟩
/-! ### the table -/
def tt (w : List Nat) (i : Nat) : Nat := lb (w.take (i + 1))
abbrev Tb (w : List Nat) (n : Nat) : List D := (List.range n).map fun i => .int (tt w i : Nat)
theorem tab_at {w : List Nat} {n j : Nat} (hj : j < n) : L2.atI (Tb w n) (j : Int) = some (.int (tt w j : Nat)) := by
  rw [atI_nat (show j < (Tb w n).length by simpa using hj)]
  simp
theorem ok1 {w : List Nat} (hw : wd w) {n : Nat} (h : n < w.length) : okS [w[n]] = true := by
  have := hw.1 w[n] (List.getElem_mem h)
  unfold okS
  simp; omega
theorem tt_spec {w : List Nat} {n : Nat} (hn : n < w.length) : LB w (n + 1) (tt w n) := lbt (by omega) (by omega)
theorem table_b {f : Nat} (hF : F f = some ⟨1, 4, [false], tableB⟩) (w : List Nat) (hw : wd w) : Gs F 1 f [W w] (.ol ((List.range w.length).map fun i => .d (.int (tt w i : Nat)))) := by
  have hl := hw.2
  refine Sp.mk hF rfl fun k hk => ?_
  unfold tableB
  simp! only []
  refine ⟨by decide, ends62_of (by omega) (by omega), for_rng w.length (by omega) (fun n ρ => ∃ s2 s3, ρ = [W w, .lo (.ol ((List.range n).map fun i => .d (.int (tt w i : Nat)))), s2, s3]) ⟨_, _, rfl⟩ ?_ ?_⟩
  · rintro n hn ρ ⟨s2, s3, rfl⟩
    simp! only []
    have step : ∀ m : Nat, (n = 0 → m = 0) → (0 < n → B w n m) → (∀ j, B w n j → m < j → w[j]? ≠ w[n]?) → Ok1 (Pu.exec (Mk F k [false]) (.seq (.whl (.an (.tr (.cmp .gt (.var 3) (.cst (.int 0)))) (.tr (.cmp .ne (.idx (.var 0) (.var 3)) (.idx (.var 0) (.var 2))))) (.set 3 (.idx (.var 1) (.bin .sub (.var 3) (.cst (.int 1)))))) (.app 1 (.ite (.an (.tr (.cmp .gt (.var 2) (.cst (.int 0)))) (.tr (.cmp .eq (.idx (.var 0) (.var 3)) (.idx (.var 0) (.var 2))))) (.bin .add (.fz (.var 3)) (.cst (.int 1))) (.cst (.int 0))))) [W w, .lo (.ol ((List.range n).map fun i => .d (.int (tt w i : Nat)))), I n, I m]) (lp (fun ρ => ∃ s2 s3, ρ = [W w, .lo (.ol ((List.range (n + 1)).map fun i => .d (.int (tt w i : Nat)))), s2, s3]) (sq (Mk F k [false]) (.ret (.var 1)) (fin (fun u o => u = Val.ol ((List.range w.length).map fun i => .d (.int (tt w i : Nat))) ∧ o.length = [W w].length) 1))) := by
      intro m h1 h2 h3
      simp! only []
      refine wh_inv (fun m ρ => ρ = [W w, .lo (.ol ((List.range n).map fun i => .d (.int (tt w i : Nat)))), I n, I m] ∧ (n = 0 → m = 0) ∧ (0 < n → B w n m) ∧ (∀ j, B w n j → m < j → w[j]? ≠ w[n]?)) m ⟨rfl, h1, h2, h3⟩ (by
        by_cases h : n = 0
        · have := h1 h; omega
        · have := (h2 (by omega)).1; omega) ?_
      rintro m ρ ⟨rfl, h1, h2, h3⟩
      have hm : m < w.length := by
        by_cases h : n = 0
        · have := h1 h; omega
        · have := (h2 (by omega)).1; omega
      -- behind the loop
      have out : (0 < m → w[m] = w[n]) → sq (Mk F k [false]) (.app 1 (.ite (.an (.tr (.cmp .gt (.var 2) (.cst (.int 0)))) (.tr (.cmp .eq (.idx (.var 0) (.var 3)) (.idx (.var 0) (.var 2))))) (.bin .add (.fz (.var 3)) (.cst (.int 1))) (.cst (.int 0)))) (lp (fun ρ => ∃ s2 s3, ρ = [W w, .lo (.ol ((List.range (n + 1)).map fun i => .d (.int (tt w i : Nat)))), s2, s3]) (sq (Mk F k [false]) (.ret (.var 1)) (fin (fun u o => u = Val.ol ((List.range w.length).map fun i => .d (.int (tt w i : Nat))) ∧ o.length = [W w].length) 1))) (.nx [W w, .lo (.ol ((List.range n).map fun i => .d (.int (tt w i : Nat)))), I n, I m]) := by
        intro hx
        have sp := tt_spec hn
        simp! only []
        refine wifd (fun h => ?_) (fun h => ?_)
        · simp! only [atI_nat hm, atI_nat hn, ok1 hw hm, ok1 hw hn]
          have hb := h2 (by omega)
          refine wifd (fun e => ?_) (fun e => ?_)
          · have e' : w[m] = w[n] := by simpa using e
            have : tt w n = m + 1 := by
              refine sp.uniq ⟨B.ext.mpr ⟨hb, by rw [List.getElem?_eq_getElem hm, List.getElem?_eq_getElem hn, e']⟩, fun j hj => ?_⟩
              cases j with
              | zero => omega
              | succ j =>
                obtain ⟨g1, g2⟩ := B.ext.mp hj
                by_cases hjm : m < j
                · exact absurd g2 (h3 j g1 hjm)
                · omega
            simp! only []
            refine ⟨by show _ < 16777216; rw [List.length_map, List.length_range]; omega, I n, I m, ?_⟩
            rw [List.range_succ, List.map_append, ← this]; rfl
          · have e' : ¬ w[m] = w[n] := fun q => e (by rw [q])
            have m0 : m = 0 := by
              by_cases q : 0 < m
              · exact absurd (hx q) e'
              · omega
            subst m0
            have : tt w n = 0 := by
              refine sp.uniq ⟨B.zero (by omega), fun j hj => ?_⟩
              cases j with
              | zero => omega
              | succ j =>
                obtain ⟨g1, g2⟩ := B.ext.mp hj
                by_cases hjm : 0 < j
                · exact absurd g2 (h3 j g1 hjm)
                · have j0 : j = 0 := by omega
                  subst j0
                  rw [List.getElem?_eq_getElem hm, List.getElem?_eq_getElem hn] at g2
                  exact absurd (Option.some.inj g2) e'
            simp! only []
            refine ⟨by show _ < 16777216; rw [List.length_map, List.length_range]; omega, I n, I (0 : Nat), ?_⟩
            rw [List.range_succ, List.map_append, List.map_singleton, this]; rfl
        · have n0 : n = 0 := by omega
          subst n0
          have : tt w 0 = 0 := sp.uniq ⟨B.zero (by omega), fun j hj => by have := hj.1; omega⟩
          simp! only []
          refine ⟨by show _ < 16777216; rw [List.length_map, List.length_range]; omega, I (0 : Nat), I m, ?_⟩
          rw [List.range_succ, List.map_append, List.map_singleton, this]; rfl
      simp! only []
      refine wifd (fun h => ?_) (fun h => ?_)
      · simp! only [atI_nat hm, atI_nat hn, ok1 hw hm, ok1 hw hn]
        refine wifn (fun e => ?_) (fun e => ?_)
        · have e' : ¬ w[m] = w[n] := fun q => e (by rw [q])
          have hm0 : 0 < m := by omega
          have hn0 : 0 < n := by
            by_cases q : n = 0
            · have := h1 q; omega
            · omega
          have hmn := (h2 hn0).1
          simp! only [nc_sub1 hm0, tab_at (show m - 1 < n by omega)]
          have sp : LB w m (tt w (m - 1)) := by
            have := tt_spec (w := w) (n := m - 1) (by omega)
            rwa [show m - 1 + 1 = m by omega] at this
          refine ⟨tt w (m - 1), sp.1.1, rfl, fun q => by omega, fun _ => (h2 hn0).trans sp.1, fun j hj hlt => ?_⟩
          by_cases q : m < j
          · exact h3 j hj q
          · by_cases q2 : j = m
            · subst q2
              rw [List.getElem?_eq_getElem hm, List.getElem?_eq_getElem hn]
              exact fun z => e' (Option.some.inj z)
            · have := sp.2 j ((h2 hn0).sub hj (by omega))
              omega
        · have e' : w[m] = w[n] := by simpa using e
          exact out fun _ => e'
      · exact out fun q => absurd q (by omega)
    refine wifd (fun h => ?_) (fun h => ?_)
    · have hn0 : 0 < n := by omega
      simp! only [nc_sub1 hn0, tab_at (show n - 1 < n by omega)]
      have sp : LB w n (tt w (n - 1)) := by
        have := tt_spec (w := w) (n := n - 1) (by omega)
        rwa [show n - 1 + 1 = n by omega] at this
      have := step (tt w (n - 1)) (fun q => by omega) (fun _ => sp.1) fun j hj hlt => by have := sp.2 j hj; omega
      simp! only []
      rw [ws_seq, ws_whl] at this
      exact this
    · have := step 0 (fun _ => rfl) (fun q => absurd q (by omega)) fun j hj _ => by have := hj.1; omega
      simp! only []
      rw [ws_seq, ws_whl] at this
      exact this
  · rintro ρ ⟨s2, s3, rfl⟩
    simp! only []
/-! ### the borders' row -/
theorem mem_bl {w : List Nat} {m : Nat} : m ∈ bl w ↔ B w w.length m := by
  unfold bl
  rw [List.mem_filter, List.mem_range]
  exact ⟨fun q => (isB_iff q.1).mp q.2, fun q => ⟨q.1, (isB_iff q.1).mpr q⟩⟩
theorem range_cut {n m : Nat} (h : m < n) : List.range n = List.range m ++ m :: (List.range (n - m - 1)).map (m + 1 + ·) := by
  apply List.ext_getElem?
  intro i
  by_cases h1 : i < m
  · rw [List.getElem?_append_left (by simpa using h1), List.getElem?_range (by omega), List.getElem?_range h1]
  · rw [List.getElem?_append_right (by simpa using h1), List.length_range]
    by_cases h2 : i = m
    · subst h2; rw [List.getElem?_range h]; simp
    · obtain ⟨j, hj⟩ : ∃ j, i - m = j + 1 := ⟨i - m - 1, by omega⟩
      rw [hj, List.getElem?_cons_succ, List.getElem?_map]
      by_cases h3 : i < n
      · rw [List.getElem?_range h3, List.getElem?_range (by omega)]
        simp; omega
      · rw [List.getElem?_eq_none (by simpa using h3), List.getElem?_eq_none (by simp; omega)]; rfl
/-- up to one that holds, behind which none holds -/
theorem filter_last {p : Nat → Bool} {n m : Nat} (h : m < n) (hm : p m = true) (hk : ∀ k, m < k → k < n → p k = false) : (List.range n).filter p = (List.range m).filter p ++ [m] := by
  rw [range_cut h, List.filter_append, List.filter_cons, if_pos hm]
  congr 1
  congr 1
  rw [List.filter_eq_nil_iff]
  intro k hk'
  obtain ⟨j, hj, rfl⟩ := List.mem_map.mp hk'
  rw [List.mem_range] at hj
  rw [hk (m + 1 + j) (by omega) (by omega)]
  exact Bool.false_ne_true
theorem bl_take {w : List Nat} {n : Nat} (hn : n ≤ w.length) : bl (w.take n) = (List.range n).filter (isB (w.take n)) := by
  unfold bl
  rw [List.length_take, Nat.min_eq_left hn]
/-- the borders of a border are the shorter borders -/
theorem bl_border {w : List Nat} {n m : Nat} (hn : n ≤ w.length) (h : B w n m) : (List.range m).filter (isB (w.take n)) = bl (w.take m) := by
  have h1 := h.1
  rw [bl_take (by omega)]
  refine List.filter_congr fun k hk => ?_
  rw [List.mem_range] at hk
  rw [Bool.eq_iff_iff, isB_take hn (by omega), isB_take (by omega) hk]
  exact ⟨fun q => h.sub q hk, fun q => h.trans q⟩
theorem bl_step {w : List Nat} {n : Nat} (h0 : 0 < n) (hn : n ≤ w.length) : bl (w.take n) = bl (w.take (lb (w.take n))) ++ [lb (w.take n)] := by
  have sp := lbt h0 hn
  rw [← bl_border hn sp.1, bl_take hn]
  refine filter_last sp.1.1 ((isB_take hn sp.1.1).mpr sp.1) fun k h1 h2 => ?_
  rw [Bool.eq_false_iff]
  intro q
  have := sp.2 k ((isB_take hn h2).mp q)
  omega
theorem bl_nil {w : List Nat} : bl (w.take 0) = [] := rfl
theorem lengths_b {f t : Nat} (hF : F f = some ⟨1, 4, [false], lengthsB t⟩) (hT : F t = some ⟨1, 4, [false], tableB⟩) (w : List Nat) (hw : wd w) : Gs F 2 f [W w] (.ol ((bl w).reverse.map fun (m : Nat) => .d (.int (m : Int)))) := by
  have hl := hw.2
  refine Sp.mk hF rfl fun k hk => ?_
  unfold lengthsB
  simp! only [gc1 (table_b hT w hw) hk (fl_of hT (by decide))]
  refine ⟨by decide, wh_inv (fun m ρ => ∃ fs : List Nat, ρ = [W w, .lo (.ol ((List.range w.length).map fun i => .d (.int (tt w i : Nat)))), .lo (.ol (fs.map fun (i : Nat) => .d (.int (i : Int)))), I m] ∧ m ≤ w.length ∧ fs ++ (bl (w.take m)).reverse = (bl w).reverse) w.length ⟨[], rfl, Nat.le_refl _, by rw [List.take_length]; rfl⟩ (by omega) ?_⟩
  rintro m ρ ⟨fs, rfl, hm, hfs⟩
  simp! only []
  refine wifd (fun h => ?_) (fun h => ?_)
  · have h0 : 0 < m := by omega
    simp! only [nc_sub1 h0, tab_at (show m - 1 < w.length by omega)]
    have et : tt w (m - 1) = lb (w.take m) := by unfold tt; rw [show m - 1 + 1 = m by omega]
    have sp := lbt h0 hm
    have hle : fs.length ≤ 400 := by
      have := congrArg List.length hfs
      rw [List.length_append, List.length_reverse, List.length_reverse] at this
      have : (bl w).length ≤ w.length := Nat.le_trans (List.length_filter_le _ _) (by rw [List.length_range]; exact Nat.le_refl _)
      omega
    refine ⟨by rw [List.length_map]; show _ < 16777216; omega, tt w (m - 1), by rw [et]; exact sp.1.1, fs ++ [tt w (m - 1)], by rw [List.map_append]; rfl, by rw [et]; have := sp.1.1; omega, ?_⟩
    rw [← hfs, bl_step h0 hm, et, List.reverse_append, List.append_assoc]; rfl
  · have h0 : m = 0 := by omega
    subst h0
    rw [bl_nil, List.reverse_nil, List.append_nil] at hfs
    simp! only [hfs]
/-- the periods, rising -/
def per (w : List Nat) : List Nat := (bl w).reverse.map (w.length - ·)
theorem bl_lt {w : List Nat} {m : Nat} (h : m ∈ bl w) : m < w.length := (mem_bl.mp h).1
theorem bl_len (w : List Nat) : (bl w).length ≤ w.length := Nat.le_trans (List.length_filter_le _ _) (by rw [List.length_range]; exact Nat.le_refl _)
theorem periods_b {f l t : Nat} (hF : F f = some ⟨1, 2, [false], periodsB l⟩) (hL : F l = some ⟨1, 4, [false], lengthsB t⟩) (hT : F t = some ⟨1, 4, [false], tableB⟩) (w : List Nat) (hw : wd w) : Gs F 3 f [W w] (.ol ((per w).map fun (m : Nat) => .d (.int (m : Int)))) := by
  have hl := hw.2
  have hb := bl_len w
  refine Sp.mk hF rfl fun k hk => ?_
  unfold periodsB
  simp! only [gc1 (lengths_b hL hT w hw) hk (fl_of hL (by decide))]
  refine cmp_map (bl w).reverse (fun (m : Nat) => .int (m : Int)) (fun m => .int ((w.length - m : Nat) : Int)) rfl rfl (by rw [List.length_reverse]; show _ ≤ 16777216; omega) (fun m hm => ?_) ?_
  · have := bl_lt (List.mem_reverse.mp hm)
    simp! only [nc_sub (Nat.le_of_lt this)]
  · simp! only [per, List.map_map]
    rfl
/-- each letter is that so many later -/
def has (w : List Nat) (p : Nat) : Bool := (List.range (w.length - p)).all fun i => decide (w[i]? = w[i + p]?)
theorem has_iff {w : List Nat} {m : Nat} (hm : m < w.length) : has w (w.length - m) = true ↔ B w w.length m := by
  unfold has B
  rw [List.all_eq_true]
  constructor
  · intro h
    refine ⟨hm, fun i hi => ?_⟩
    have := h i (List.mem_range.mpr (by omega))
    rw [decide_eq_true_eq] at this
    rw [this, Nat.add_comm]
  · intro h i hi
    have := List.mem_range.mp hi
    rw [decide_eq_true_eq, h.2 i (by omega), Nat.add_comm]
/-- the periods, by looks -/
theorem per_has (w : List Nat) : ((List.range w.length).map (1 + ·)).filter (has w) = per w := by
  have e1 : (List.range w.length).map (1 + ·) = ((List.range w.length).reverse).map (w.length - ·) := by
    apply List.ext_getElem?
    intro i
    rw [List.getElem?_map, List.getElem?_map]
    by_cases h : i < w.length
    · rw [List.getElem?_range h, List.getElem?_reverse (by simpa using h), List.length_range, List.getElem?_range (by omega)]
      simp; omega
    · rw [List.getElem?_eq_none (by simpa using h), List.getElem?_eq_none (by simpa using h)]; rfl
  rw [e1, List.filter_map]
  unfold per bl
  rw [← List.filter_reverse]
  congr 1
  refine List.filter_congr fun m hm => ?_
  have hm' : m < w.length := by simpa using hm
  show has w (w.length - m) = isB w m
  rw [Bool.eq_iff_iff, has_iff hm', isB_iff hm']
theorem okw {w : List Nat} (hw : wd w) : okS w = true := hw.1.ok (by decide)
abbrev Dtab (w : List Nat) : D := .lst ((List.range w.length).map fun i => .int (tt w i : Nat))
abbrev Down (w : List Nat) : D := .lst ((bl w).map fun m => .str (w.take m))
abbrev Dper (w : List Nat) : D := .lst ((per w).map fun (m : Nat) => .int (m : Int))
theorem nice_tab {w : List Nat} (hw : wd w) : nice (Dtab w) = true := nice_ints (by rw [List.length_range]; have := hw.2; show _ ≤ 16777216; omega)
theorem wd_take {w : List Nat} (hw : wd w) (n : Nat) : wd (w.take n) := ⟨hw.1.take n, by rw [List.length_take]; have := hw.2; omega⟩
theorem nice_own {w : List Nat} (hw : wd w) : nice (Down w) = true := nice_strs (fun m _ => okw (wd_take hw m)) (by have := bl_len w; have := hw.2; show _ ≤ 16777216; omega)
theorem per_len {w : List Nat} (hw : wd w) : (per w).length ≤ line := by
  have := bl_len w; have := hw.2
  unfold per; rw [List.length_map, List.length_reverse]; show _ ≤ 16777216; omega
theorem nice_per {w : List Nat} (hw : wd w) : nice (Dper w) = true := nice_ints (per_len hw)
end Pu.Bo

set_option Elab.async false
set_option maxRecDepth 100000
set_option maxHeartbeats 2000000
/-! Periods, powers, roots: two periods of a long word have their divisor as a period, too. -/
namespace Pu.Fw
/-! ### periods -/
section
variable {α : Type} {f : Nat → α} {n m p q g : Nat}
/-- the first n have the period p -/
def Pd (f : Nat → α) (n p : Nat) : Prop := ∀ i, i + p < n → f i = f (i + p)
theorem Pd.less (h : Pd f n p) (hm : m ≤ n) : Pd f m p := fun i hi => h i (by omega)
theorem Pd.mul (h : Pd f n g) : ∀ t, Pd f n (t * g)
  | 0 => fun i _ => by rw [Nat.zero_mul, Nat.add_zero]
  | t + 1 => fun i hi => by
    have e : i + (t + 1) * g = (i + t * g) + g := by rw [Nat.succ_mul]; omega
    rw [e] at hi ⊢
    rw [Pd.mul h t i (by omega), h _ hi]
/-- a period g of the first m goes on where p is one, p a multiple of g -/
theorem Pd.on (hg : 0 < g) (p0 : 0 < p) (hd : p % g = 0) (hp : p ≤ m) (h1 : Pd f m g) (h2 : Pd f n p) : Pd f n g := by
  intro i
  induction i using Nat.strongRecOn with
  | ind i ih =>
    intro hi
    by_cases c1 : i + g < m
    · exact h1 i c1
    · obtain ⟨t, ht⟩ : ∃ t, p = t * g := ⟨p / g, by have := Nat.div_add_mod p g; rw [Nat.mul_comm]; omega⟩
      by_cases c2 : p ≤ i
      · have a := h2 (i - p) (by omega)
        have b := h2 (i + g - p) (by omega)
        rw [show i - p + p = i by omega] at a
        rw [show i + g - p + p = i + g by omega] at b
        rw [← a, ← b, show i + g - p = (i - p) + g by omega]
        exact ih (i - p) (by omega) (by omega)
      · have b := h2 (i + g - p) (by omega)
        rw [show i + g - p + p = i + g by omega] at b
        rw [← b]
        have t0 : 0 < t := by
          rcases Nat.eq_zero_or_pos t with z | z
          · rw [z, Nat.zero_mul] at ht; omega
          · exact z
        obtain ⟨s, rfl⟩ : ∃ s, t = s + 1 := ⟨t - 1, by omega⟩
        have e : p = s * g + g := by rw [ht, Nat.succ_mul]
        have := Pd.mul h1 s (i + g - p) (by omega)
        rw [this]
        congr 1
        omega
theorem fine_wilf : ∀ (s p q n : Nat), p + q ≤ s → 0 < p → 0 < q → p + q ≤ n + Nat.gcd p q → Pd f n p → Pd f n q → Pd f n (Nat.gcd p q) := by
  intro s
  induction s with
  | zero => intro p q n h h1 h2; omega
  | succ s ih =>
    have lt : ∀ (p q n : Nat), p + q ≤ s + 1 → 0 < p → p < q → p + q ≤ n + Nat.gcd p q → Pd f n p → Pd f n q → Pd f n (Nat.gcd p q) := by
      intro p q n hs hp hpq hn h1 h2
      have hg := Nat.gcd_pos_of_pos_left q hp
      have hgp := Nat.le_of_dvd hp (Nat.gcd_dvd_left p q)
      have e : Nat.gcd p (q - p) = Nat.gcd p q := Nat.gcd_sub_self_right (Nat.le_of_lt hpq)
      have hgq := Nat.le_of_dvd (show 0 < q - p by omega) (e ▸ Nat.gcd_dvd_right p (q - p))
      have h3 : Pd f (n - p) (q - p) := fun i hi => by
        have a := h2 i (by omega)
        have b := h1 (i + (q - p)) (by omega)
        rw [a, b]; congr 1; omega
      have := ih p (q - p) (n - p) (by omega) hp (by omega) (by rw [e]; omega) (h1.less (Nat.sub_le ..)) h3
      rw [e] at this
      exact Pd.on hg hp (Nat.mod_eq_zero_of_dvd (Nat.gcd_dvd_left p q)) (by omega) this h1
    intro p q n hs hp hq hn h1 h2
    rcases Nat.lt_trichotomy p q with c | c | c
    · exact lt p q n hs hp c hn h1 h2
    · subst c; rw [Nat.gcd_self]; exact h1
    · rw [Nat.gcd_comm] at hn ⊢
      exact lt q p n (by omega) hq c (by omega) h2 h1
end
/-! ### powers -/
def pw (z : List Nat) (k : Nat) : List Nat := (List.replicate k z).flatten
theorem pw_succ (z : List Nat) (k : Nat) : pw z (k + 1) = z ++ pw z k := by unfold pw; rw [List.replicate_succ, List.flatten_cons]
theorem pw_len (z : List Nat) : ∀ k, (pw z k).length = k * z.length
  | 0 => by unfold pw; simp
  | k + 1 => by rw [pw_succ, List.length_append, pw_len z k, Nat.succ_mul, Nat.add_comm]
theorem pw_get (z : List Nat) : ∀ k i, i < k * z.length → (pw z k)[i]? = z[i % z.length]?
  | 0, i, h => by omega
  | k + 1, i, h => by
    rw [pw_succ]
    by_cases c : i < z.length
    · rw [List.getElem?_append_left c, Nat.mod_eq_of_lt c]
    · rw [List.getElem?_append_right (by omega), pw_get z k (i - z.length) (by rw [Nat.succ_mul] at h; omega), ← Nat.mod_eq_sub_mod (by omega)]
theorem pw_app (z : List Nat) (a b : Nat) : pw z a ++ pw z b = pw z (a + b) := by
  unfold pw; rw [← List.flatten_append, List.replicate_append_replicate]
theorem pw_one (z : List Nat) : pw z 1 = z := by unfold pw; simp
theorem pw_two (z : List Nat) : pw z 2 = z ++ z := by unfold pw; simp [List.replicate]
abbrev at_ (w : List Nat) (i : Nat) : Option Nat := w[i]?
section
variable {w u v z : List Nat} {d g k n : Nat}
theorem per_mod (hd : 0 < d) (h : Pd (at_ w) w.length d) {i : Nat} (hi : i < w.length) : w[i]? = w[i % d]? := by
  have e := Nat.mod_add_div i d
  have := Pd.mul h (i / d) (i % d) (by rw [Nat.mul_comm]; omega)
  rw [show i % d + i / d * d = i by rw [Nat.mul_comm]; exact e] at this
  exact this.symm
theorem pw_of_per (hd : 0 < d) (hm : w.length % d = 0) (h : Pd (at_ w) w.length d) : w = pw (w.take d) (w.length / d) := by
  rcases Nat.eq_zero_or_pos w.length with z | z
  · have : w = [] := List.length_eq_zero_iff.mp z
    subst this; unfold pw; simp
  · have hdl := Nat.le_of_dvd z (Nat.dvd_of_mod_eq_zero hm)
    have tl : (w.take d).length = d := by rw [List.length_take]; omega
    have e := Nat.div_mul_cancel (Nat.dvd_of_mod_eq_zero hm)
    have ln : (pw (w.take d) (w.length / d)).length = w.length := by rw [pw_len, tl, e]
    apply List.ext_getElem?
    intro i
    by_cases hi : i < w.length
    · rw [pw_get _ _ _ (by rw [tl, e]; exact hi), tl, List.getElem?_take_of_lt (Nat.mod_lt _ hd)]
      exact per_mod hd h hi
    · rw [List.getElem?_eq_none (by omega), List.getElem?_eq_none (by omega)]
theorem per_of_pw (hd : 0 < d) (hm : w.length % d = 0) (h : w = pw (w.take d) (w.length / d)) : Pd (at_ w) w.length d := by
  intro i hi
  have hdl : d ≤ w.length := Nat.le_of_dvd (by omega) (Nat.dvd_of_mod_eq_zero hm)
  have tl : (w.take d).length = d := by rw [List.length_take]; omega
  have e := Nat.div_mul_cancel (Nat.dvd_of_mod_eq_zero hm)
  have key : ∀ j, j < w.length → w[j]? = (w.take d)[j % d]? := fun j hj => by
    conv => lhs; rw [h]
    rw [pw_get _ _ _ (by rw [tl, e]; exact hj), tl]
  show w[i]? = w[i + d]?
  rw [key i (by omega), key (i + d) hi, Nat.add_mod_right]
/-! ### roots -/
def good (w : List Nat) (d : Nat) : Bool := decide (w.length % d = 0) && decide (w = pw (w.take d) (w.length / d))
theorem good_iff (hd : 0 < d) : good w d = true ↔ w.length % d = 0 ∧ Pd (at_ w) w.length d := by
  unfold good
  rw [Bool.and_eq_true, decide_eq_true_eq, decide_eq_true_eq]
  exact ⟨fun h => ⟨h.1, per_of_pw hd h.1 h.2⟩, fun h => ⟨h.1, pw_of_per hd h.1 h.2⟩⟩
/-- how many letters the root has -/
def sz (w : List Nat) : Nat := (((List.range w.length).map (1 + ·)).find? (good w)).getD w.length
def rt (w : List Nat) : List Nat := w.take (sz w)
theorem good_all (hw : w ≠ []) : good w w.length = true := by
  have := List.length_pos_iff.mpr hw
  exact (good_iff this).mpr ⟨Nat.mod_self _, fun i hi => by omega⟩
theorem sz_spec (hw : w ≠ []) : 0 < sz w ∧ sz w ≤ w.length ∧ good w (sz w) = true ∧ ∀ d, 0 < d → good w d = true → sz w ≤ d := by
  have hn := List.length_pos_iff.mpr hw
  unfold sz
  cases e : ((List.range w.length).map (1 + ·)).find? (good w) with
  | none =>
    have := List.find?_eq_none.mp e w.length (List.mem_map.mpr ⟨w.length - 1, List.mem_range.mpr (by omega), by omega⟩)
    exact absurd (good_all hw) this
  | some m =>
    obtain ⟨i, hi, rfl⟩ := List.mem_map.mp (List.mem_of_find?_eq_some e)
    have hi := List.mem_range.mp hi
    refine ⟨by show 0 < 1 + i; omega, by show 1 + i ≤ _; omega, List.find?_some e, fun d hd hg => ?_⟩
    show 1 + i ≤ d
    by_cases q : 1 + i ≤ d
    · exact q
    · exfalso
      obtain ⟨as, bs, e1, e2⟩ := (List.find?_eq_some_iff_append.mp e).2
      have hl : as.length = i := by
        have h1 := congrArg (fun l => l[as.length]?) e1
        simp only [List.getElem?_append_right (Nat.le_refl _), Nat.sub_self, List.getElem?_cons_zero, List.getElem?_map] at h1
        by_cases c : as.length < w.length
        · rw [List.getElem?_range c] at h1
          simp at h1; omega
        · rw [List.getElem?_eq_none (by simpa using c)] at h1; cases h1
      have hm : d ∈ as := by
        have h1 := congrArg (fun l => l[d - 1]?) e1
        simp only [List.getElem?_append_left (show d - 1 < as.length by omega), List.getElem?_map, List.getElem?_range (show d - 1 < w.length by omega)] at h1
        have : as[d - 1]? = some d := by rw [← h1]; simp; omega
        exact List.mem_of_getElem? this
      have := e2 d hm
      rw [hg] at this
      cases this
theorem rt_pow (hw : w ≠ []) : w = pw (rt w) (w.length / sz w) := by
  obtain ⟨h1, h2, h3, _⟩ := sz_spec hw
  obtain ⟨a, b⟩ := (good_iff h1).mp h3
  exact pw_of_per h1 a b
theorem rt_len (hw : w ≠ []) : (rt w).length = sz w := by
  obtain ⟨h1, h2, _⟩ := sz_spec hw
  unfold rt; rw [List.length_take]; omega
theorem rt_ne (hw : w ≠ []) : rt w ≠ [] := by
  intro h
  have := rt_len hw
  rw [h] at this
  have := (sz_spec hw).1
  simp at *; omega
theorem pw_ne (hz : z ≠ []) (hk : 0 < k) : pw z k ≠ [] := by
  intro h
  have := pw_len z k
  rw [h] at this
  have h2 := List.length_pos_iff.mpr hz
  have := Nat.mul_pos hk h2
  simp at *; omega
/-- the root of a power -/
theorem sz_pw (hz : z ≠ []) (hk : 0 < k) : sz (pw z k) = sz z := by
  have hl := List.length_pos_iff.mpr hz
  have hne := pw_ne hz hk
  obtain ⟨e1, e2, e3, e4⟩ := sz_spec hz
  obtain ⟨e5, e6⟩ := (good_iff e1).mp e3
  obtain ⟨d1, d2, d3, d4⟩ := sz_spec hne
  obtain ⟨d5, d6⟩ := (good_iff d1).mp d3
  rcases Nat.lt_or_ge k 2 with c | c
  · have : k = 1 := by omega
    subst this; rw [pw_one]
  have hN : (pw z k).length = k * z.length := pw_len z k
  have hLN : 2 * z.length ≤ k * z.length := Nat.mul_le_mul_right _ c
  have p1 : Pd (at_ (pw z k)) (pw z k).length (sz z) := by
    intro i hi
    show (pw z k)[i]? = (pw z k)[i + sz z]?
    rw [pw_get _ _ _ (by omega), pw_get _ _ _ (by omega)]
    have key : ∀ j, z[j % z.length]? = z[j % sz z]? := fun j => by
      rw [per_mod e1 e6 (Nat.mod_lt _ hl), Nat.mod_mod_of_dvd _ (Nat.dvd_of_mod_eq_zero e5)]
    rw [key, key, Nat.add_mod_right]
  have g1 : good (pw z k) (sz z) = true := (good_iff e1).mpr ⟨by
    rw [hN]; exact Nat.mod_eq_zero_of_dvd (Nat.dvd_trans (Nat.dvd_of_mod_eq_zero e5) (Nat.dvd_mul_left _ _)), p1⟩
  have le := d4 _ e1 g1
  have fw := fine_wilf _ (sz (pw z k)) (sz z) (pw z k).length (Nat.le_refl _) d1 e1 (by omega) d6 p1
  have gp := Nat.gcd_pos_of_pos_left (sz z) d1
  have gz : good z (Nat.gcd (sz (pw z k)) (sz z)) = true := (good_iff gp).mpr ⟨Nat.mod_eq_zero_of_dvd (Nat.dvd_trans (Nat.gcd_dvd_right _ _) (Nat.dvd_of_mod_eq_zero e5)), fun i hi => by
    have := fw i (by omega)
    have e : ∀ j, j < z.length → (pw z k)[j]? = z[j]? := fun j hj => by
      rw [pw_get _ _ _ (by omega), Nat.mod_eq_of_lt hj]
    show z[i]? = z[_]?
    rw [← e i (by omega), ← e _ hi]; exact this⟩
  have := e4 _ gp gz
  have h2 := Nat.le_of_dvd d1 (Nat.gcd_dvd_left (sz (pw z k)) (sz z))
  omega
theorem rt_pw (hz : z ≠ []) (hk : 0 < k) : rt (pw z k) = rt z := by
  unfold rt
  rw [sz_pw hz hk]
  obtain ⟨k, rfl⟩ : ∃ j, k = j + 1 := ⟨k - 1, by omega⟩
  rw [pw_succ, List.take_append_of_le_length (sz_spec hz).2.1]
theorem rt_rt (hw : w ≠ []) : rt (rt w) = rt w := by
  have h := rt_pow hw
  have hk : 0 < w.length / sz w := Nat.div_pos (sz_spec hw).2.1 (sz_spec hw).1
  have := rt_pw (rt_ne hw) hk
  rw [← h] at this
  exact this.symm
/-! ### words that commute -/
/-- both ways to join are alike so far -/
theorem agree {L : Nat} (hu : u ≠ []) (hv : v ≠ []) (hL : u.length + v.length ≤ L + Nat.gcd u.length v.length) (hL2 : L ≤ u.length + v.length) (h : ∀ i, i < L → (u ++ v)[i]? = (v ++ u)[i]?) : rt u = rt v := by
  have lu := List.length_pos_iff.mpr hu
  have lv := List.length_pos_iff.mpr hv
  have gp := Nat.gcd_pos_of_pos_left v.length lu
  have gu := Nat.le_of_dvd lu (Nat.gcd_dvd_left u.length v.length)
  have gv := Nat.le_of_dvd lv (Nat.gcd_dvd_right u.length v.length)
  have p1 : Pd (at_ (u ++ v)) L u.length := fun i hi => by
    show (u ++ v)[i]? = (u ++ v)[i + u.length]?
    rw [h i (by omega), List.getElem?_append_left (show i < v.length by omega), List.getElem?_append_right (by omega)]
    congr 1; omega
  have p2 : Pd (at_ (u ++ v)) L v.length := fun i hi => by
    show (u ++ v)[i]? = (u ++ v)[i + v.length]?
    rw [h (i + v.length) hi, List.getElem?_append_left (show i < u.length by omega), List.getElem?_append_right (by omega)]
    congr 1; omega
  have fw := fine_wilf _ u.length v.length L (Nat.le_refl _) lu lv hL p1 p2
  generalize hg : Nat.gcd u.length v.length = g at *
  have eu : ∀ i, i < u.length → (u ++ v)[i]? = u[i]? := fun i hi => List.getElem?_append_left hi
  have ev : ∀ i, i < v.length → (u ++ v)[i]? = v[i]? := fun i hi => by rw [h i (by omega), List.getElem?_append_left hi]
  have du : u.length % g = 0 := Nat.mod_eq_zero_of_dvd (hg ▸ Nat.gcd_dvd_left u.length v.length)
  have dv : v.length % g = 0 := Nat.mod_eq_zero_of_dvd (hg ▸ Nat.gcd_dvd_right u.length v.length)
  have pu : Pd (at_ u) u.length g := fun i hi => by
    show u[i]? = u[i + g]?
    rw [← eu i (by omega), ← eu _ hi]; exact fw i (by omega)
  have pv : Pd (at_ v) v.length g := fun i hi => by
    show v[i]? = v[i + g]?
    rw [← ev i (by omega), ← ev _ hi]; exact fw i (by omega)
  have qu := pw_of_per gp du pu
  have qv := pw_of_per gp dv pv
  have ez : u.take g = v.take g := by
    apply List.ext_getElem?
    intro i
    by_cases hi : i < g
    · rw [List.getElem?_take_of_lt hi, List.getElem?_take_of_lt hi, ← eu i (by omega), ← ev i (by omega)]
    · rw [List.getElem?_eq_none (by rw [List.length_take]; omega), List.getElem?_eq_none (by rw [List.length_take]; omega)]
  have zn : u.take g ≠ [] := by
    intro z
    have := congrArg List.length z
    rw [List.length_take, List.length_nil] at this; omega
  rw [qu, qv, rt_pw zn (Nat.div_pos gu gp), ← ez, rt_pw zn (Nat.div_pos gv gp)]
theorem comm_of_rt (hu : u ≠ []) (hv : v ≠ []) (h : rt u = rt v) : u ++ v = v ++ u := by
  have a := rt_pow hu
  have b := rt_pow hv
  rw [← h] at b
  generalize rt u = z at a b
  rw [a, b, pw_app, pw_app, Nat.add_comm]
/-- where both ways to join part -/
def pt (u v : List Nat) : Option Nat := (List.range (u.length + v.length)).find? fun i => decide ((u ++ v)[i]? ≠ (v ++ u)[i]?)
theorem pt_comm (u v : List Nat) : pt v u = pt u v := by
  unfold pt
  rw [Nat.add_comm]
  congr 1
  funext i
  rw [Bool.eq_iff_iff, decide_eq_true_eq, decide_eq_true_eq]
  exact ⟨fun h z => h z.symm, fun h z => h z.symm⟩
theorem pt_none : pt u v = none ↔ u ++ v = v ++ u := by
  unfold pt
  rw [List.find?_eq_none]
  constructor
  · intro h
    apply List.ext_getElem?
    intro i
    by_cases hi : i < u.length + v.length
    · have := h i (List.mem_range.mpr hi)
      rw [decide_eq_true_eq, Classical.not_not] at this
      exact this
    · rw [List.getElem?_eq_none (by rw [List.length_append]; omega), List.getElem?_eq_none (by rw [List.length_append]; omega)]
  · intro h i _
    rw [h]; simp
theorem pt_rt (hu : u ≠ []) (hv : v ≠ []) : pt u v = none ↔ rt u = rt v := by
  rw [pt_none]
  refine ⟨fun h => agree (L := u.length + v.length) hu hv (by omega) (Nat.le_refl _) fun i _ => by rw [h], comm_of_rt hu hv⟩
theorem pt_first {s : Nat} (h : pt u v = some s) : s < u.length + v.length ∧ (u ++ v)[s]? ≠ (v ++ u)[s]? ∧ ∀ i, i < s → (u ++ v)[i]? = (v ++ u)[i]? := by
  unfold pt at h
  obtain ⟨h1, as, bs, e1, e2⟩ := List.find?_eq_some_iff_append.mp h
  have hm := List.mem_range.mp (List.mem_of_find?_eq_some h)
  refine ⟨hm, of_decide_eq_true h1, fun i hi => ?_⟩
  have hl : as.length = s := by
    have h1 := congrArg (fun l => l[as.length]?) e1
    simp only [List.getElem?_append_right (Nat.le_refl _), Nat.sub_self, List.getElem?_cons_zero] at h1
    by_cases c : as.length < u.length + v.length
    · rw [List.getElem?_range c] at h1
      simpa using h1
    · rw [List.getElem?_eq_none (by simpa using c)] at h1; cases h1
  have hmem : i ∈ as := by
    have h1 := congrArg (fun l => l[i]?) e1
    simp only [List.getElem?_append_left (show i < as.length by omega), List.getElem?_range (show i < u.length + v.length by omega)] at h1
    exact List.mem_of_getElem? h1.symm
  have := e2 i hmem
  simpa using this
/-- words that don't commute part early -/
theorem pt_bound (hu : u ≠ []) (hv : v ≠ []) {s : Nat} (h : pt u v = some s) : s + Nat.gcd u.length v.length < u.length + v.length := by
  obtain ⟨h1, h2, h3⟩ := pt_first h
  by_cases c : s + Nat.gcd u.length v.length < u.length + v.length
  · exact c
  · have := agree (L := s) hu hv (by omega) (by omega) h3
    rw [(pt_rt hu hv).mpr this] at h; cases h
end
end Pu.Fw

set_option Elab.async false
set_option maxRecDepth 100000
set_option maxHeartbeats 2000000
/-! Pots, draws, words, the second kind (digits taken by remainders). -/
namespace Pu.Pa
open P (wneg wbl wint wol wlst sq turnC Mk)
local macro_rules | `(tactic| simp! only [$ls,*]) => `(tactic| simp -implicitDefEqProofs -dsimp only [flat_app, datas_app, ↓we_fzF, ↓fz_v, ↓fz_rd, ↓fz_pk, ↓fzs_ol, ↓fzs_s, ↓fzs_0, we_fzF, fz_v, fz_rd, fz_pk, fzs_ol, fzs_s, fzs_0, isD_d, isD_map, isD_map1, ↓ws_each, ws_each, appV_ol, shortOl_ol, ↓bd_len, ↓bd_abs, ↓bd_sum, ↓bd_all, ↓bd_any, ↓bd_int, ↓bd_list, ↓bd_tuple, ↓bd_repr, ↓bd_max, ↓bd_min, ↓bd_sorted, ↓bd_bool, bd_len, bd_abs, bd_sum, bd_all, bd_any, bd_int, bd_list, bd_tuple, bd_repr, bd_max, bd_min, bd_sorted, bd_bool, ↓o_eq_bl, ↓o_ne_bl, o_eq_bl, o_ne_bl, bne_self_eq_false, beq_self_eq_true, Bool.bne_false, Bool.bne_true, ↓okSl_d, ↓okSl_ol, ↓okSl_rd, ↓okLo_lo, ↓ok_dat_d, ↓ok_dat_ol, ↓ok_dat_pk, ↓ok_dat_rd, ↓ok_fdat_d, ↓ok_fdat_ol, ↓ok_fdat_pk, ↓ok_gdat_d, ↓ok_gdat_ol, ↓ok_gdat_pk, ↓ok_gdat_rd, ↓ok_ndat_d, ↓ok_ndat_ol, ↓ok_ndat_pk, ↓ok_esc_v, ↓ok_esc_pk, ↓ok_mov_v, ↓ok_srcD_d, ↓ok_srcD_ol, ↓ok_srcD_pk, ↓ok_srcD_rd, ↓ok_srcs_nil, ↓ok_srcs_cons, ↓ok_escs_nil, ↓ok_escs_cons, ↓we_var, ↓we_cst, ↓we_bin, ↓wneg_int, ↓we_neg, ↓wbl_bl, ↓we_not, ↓we_and, ↓we_or, ↓we_cmp, ↓we_chn, ↓we_ite, ↓we_idx, ↓we_sl, ↓we_rev, ↓we_tup, ↓we_lst, ↓we_turn, ↓we_isi, ↓we_b1, ↓we_b2, ↓wint_int, ↓we_ono, ↓we_oso, ↓we_nil, ↓we_cons, ↓wt_yes, ↓wt_tr, ↓wt_no, ↓wt_an, ↓wt_or, ↓sq_nx, ↓sq_rt, ↓sq_bk, ↓sq_ct, ↓ws_seq, ↓ws_set, ↓ws_movs_nil, ↓ws_movs_cons, ↓ws_asgs_nil, ↓ws_asgs_cons, ↓ws_setT, ↓ws_unp, ↓ws_ex, ↓ws_ite, ↓ws_ret, ↓ws_retN, ↓ws_pass, ↓ws_brk, ↓ws_cont, ↓wol_ol, ↓ws_app, ↓ws_for, ↓ws_whl, ↓wlst_lst, ↓ws_ext, ↓wa_nm, ↓wa_tp, ↓wa_nil, ↓wa_cons, ↓wa_ix, ↓o_add_int, ↓o_add_str, ↓o_add_lst, ↓o_add_tup, ↓o_sub, ↓o_mul_int, ↓o_mul_str, ↓o_mul_lst, ↓o_fdiv, ↓o_mod, ↓o_pow, ↓o_eq_int, ↓o_ne_int, ↓o_eq_str, ↓o_ne_str, ↓o_lt_int, ↓o_le_int, ↓o_gt_int, ↓o_ge_int, ↓o_lt_str, ↓o_le_str, ↓o_gt_str, ↓o_ge_str, ↓o_in_str, ↓o_nin_str, ↓o_is_non, ↓o_isn_non, ↓o_is_bl, ↓o_isn_bl, ↓o_idx_lst, ↓o_idx_tup, ↓o_idx_str, ↓o_sl_str, ↓o_sl_lst, ↓o_sl_tup, ↓o_rev_str, ↓o_rev_lst, ↓o_len_str, ↓o_len_lst, ↓o_len_tup, ↓o_abs, ↓o_int_int, ↓o_int_bl, ↓o_bool_int, ↓o_list_lst, ↓o_list_tup, ↓o_list_str, ↓o_sorted_str, ↓mkd_str, ↓mkd_lst, ↓o_ix_str, ↓o_ix_lst, ↓o_sw, ↓o_ew, ↓wda_d, ↓ws_aug, ↓o_aug_add, ↓o_aug_sub, ↓o_maxd, ↓ws_appAt, ↓wol2_ol, ↓o_enzip, ↓we_met, ↓o_tuple_lst, ↓o_tuple_tup, ↓o_repr, ↓o_all, ↓o_any, ↓o_sum, ↓o_max, ↓o_min, ↓o_max2, ↓o_min2, ↓o_divmod, ↓o_join, ↓o_seq_lst, ↓o_seq_tup, ↓o_seq_str, ↓o_rng1, ↓o_rng2, ↓o_zip_lst, ↓o_zip_tup, ↓o_enum, ↓o_gcd, ↓o_sset, ↓o_ssetT, ↓o_lset, ↓o_lsetT, ↓o_sw3, ↓we_bs, ↓we_sw3, ↓we_pop, ↓we_dlk, ↓we_lrng, ↓wid_int, isD_ol, ↓o_revl, ↓sl_s, ↓sl_0, ↓lo_s, ↓lo_0, ↓ok_asgM, ↓ok_movM, ↓we_callM, ↓we_callkM, ↓ok_pickR, ↓fin_rt, ↓fin_nx, ↓lp_nx, ↓lp_ct, ↓lp_bk, ↓lp_rt, ↓we_compC, okSl_d, okSl_ol, okSl_rd, okLo_lo, ok_dat_d, ok_dat_ol, ok_dat_pk, ok_dat_rd, ok_fdat_d, ok_fdat_ol, ok_fdat_pk, ok_gdat_d, ok_gdat_ol, ok_gdat_pk, ok_gdat_rd, ok_ndat_d, ok_ndat_ol, ok_ndat_pk, ok_esc_v, ok_esc_pk, ok_mov_v, ok_srcD_d, ok_srcD_ol, ok_srcD_pk, ok_srcD_rd, ok_srcs_nil, ok_srcs_cons, ok_escs_nil, ok_escs_cons, we_var, we_cst, we_bin, wneg_int, we_neg, wbl_bl, we_not, we_and, we_or, we_cmp, we_chn, we_ite, we_idx, we_sl, we_rev, we_tup, we_lst, we_turn, we_isi, we_b1, we_b2, wint_int, we_ono, we_oso, we_nil, we_cons, wt_yes, wt_tr, wt_no, wt_an, wt_or, sq_nx, sq_rt, sq_bk, sq_ct, ws_seq, ws_set, ws_movs_nil, ws_movs_cons, ws_asgs_nil, ws_asgs_cons, ws_setT, ws_unp, ws_ex, ws_ite, ws_ret, ws_retN, ws_pass, ws_brk, ws_cont, wol_ol, ws_app, ws_for, ws_whl, wlst_lst, ws_ext, wa_nm, wa_tp, wa_nil, wa_cons, wa_ix, o_add_int, o_add_str, o_add_lst, o_add_tup, o_sub, o_mul_int, o_mul_str, o_mul_lst, o_fdiv, o_mod, o_pow, o_eq_int, o_ne_int, o_eq_str, o_ne_str, o_lt_int, o_le_int, o_gt_int, o_ge_int, o_lt_str, o_le_str, o_gt_str, o_ge_str, o_in_str, o_nin_str, o_is_non, o_isn_non, o_is_bl, o_isn_bl, o_idx_lst, o_idx_tup, o_idx_str, o_sl_str, o_sl_lst, o_sl_tup, o_rev_str, o_rev_lst, o_len_str, o_len_lst, o_len_tup, o_abs, o_int_int, o_int_bl, o_bool_int, o_list_lst, o_list_tup, o_list_str, o_sorted_str, mkd_str, mkd_lst, o_ix_str, o_ix_lst, o_sw, o_ew, wda_d, ws_aug, o_aug_add, o_aug_sub, o_maxd, ws_appAt, wol2_ol, o_enzip, we_met, o_tuple_lst, o_tuple_tup, o_repr, o_all, o_any, o_sum, o_max, o_min, o_max2, o_min2, o_divmod, o_join, o_seq_lst, o_seq_tup, o_seq_str, o_rng1, o_rng2, o_zip_lst, o_zip_tup, o_enum, o_revl, sl_s, sl_0, lo_s, lo_0, ok_asgM, ok_movM, we_callM, we_callkM, ok_pickR, fin_rt, fin_nx, lp_nx, lp_ct, lp_bk, lp_rt, we_compC, ok1_some, ok2_some, if_true', if_false', data_d, data_ol, datas_nil, datas_cons, datas_mapd, datas_map1, flat_d, flat_nil, flat_cons, flat_mapd, flat_map1, truth_bl', truth_int, truth_str, truth_lst, truth_tup, truth_non, notOl_d', notOl_pk, fzR_v, fzR_rd, isNon_non, isNon_int, isNon_str, isNon_lst, isNon_tup, isNon_bl, hasTy, List.set_cons_zero, List.set_cons_succ, List.getD_cons_zero, List.getD_cons_succ, List.getD_nil, List.length_cons, List.length_nil, List.map_nil, List.map_cons, List.append_nil, List.nil_append, List.cons_append, List.take_succ_cons, List.take_zero, List.any_cons, List.any_nil, List.all_cons, List.all_nil, Bool.or_false, Bool.or_true, Bool.and_true, Bool.true_and, Bool.false_and, Bool.and_false, Bool.false_or, Bool.true_or, Bool.not_true, Bool.not_false, Bool.not_not, true_and, and_true, Nat.reduceAdd, Nat.reduceLT, Nat.reduceLeDiff, Nat.reduceEqDiff, Nat.zero_lt_succ, decide_true, decide_false, ne_eq, not_false_eq_true, Int.toNat_natCast, Int.reduceToNat, reduceCtorEq, pickL, List.filterMap_cons, List.filterMap_nil, if_true, if_false, Bool.false_eq_true, Int.cast_ofNat_Int, nc_add, nc_add1, nc_1add, nc_0add, nc_mul, nc_2mul, nc_mul2, nc_fdiv2, fmod_nat, fdiv_nat, cut_to, cut_from, cut_last, cut_ft, cut_all, cut_to_0, cut_to_1, cut_to_2, cut_to_3, cut_to_4, cut_from_1, cut_from_2, cut_from_3, wipe, unwipe, List.getElem?_cons_zero, List.getElem?_cons_succ, Option.getD_some, Int.reduceEq, Int.reduceLT, Int.reduceLE, Int.reducePow, Int.reduceNeg, Int.reduceAdd, Int.reduceSub, Int.reduceMul, atI_0, atI_1, atI_2, ixN_0, ixN_1, eq_self, and_self, Nat.reduceSub, List.replicate_zero, List.reduceReplicate, $ls,*])
local macro_rules | `(tactic| simpa! only [$ls,*]) => `(tactic| simp -implicitDefEqProofs -dsimp only [flat_app, datas_app, ↓we_fzF, ↓fz_v, ↓fz_rd, ↓fz_pk, ↓fzs_ol, ↓fzs_s, ↓fzs_0, we_fzF, fz_v, fz_rd, fz_pk, fzs_ol, fzs_s, fzs_0, isD_d, isD_map, isD_map1, ↓ws_each, ws_each, appV_ol, shortOl_ol, ↓bd_len, ↓bd_abs, ↓bd_sum, ↓bd_all, ↓bd_any, ↓bd_int, ↓bd_list, ↓bd_tuple, ↓bd_repr, ↓bd_max, ↓bd_min, ↓bd_sorted, ↓bd_bool, bd_len, bd_abs, bd_sum, bd_all, bd_any, bd_int, bd_list, bd_tuple, bd_repr, bd_max, bd_min, bd_sorted, bd_bool, ↓o_eq_bl, ↓o_ne_bl, o_eq_bl, o_ne_bl, bne_self_eq_false, beq_self_eq_true, Bool.bne_false, Bool.bne_true, ↓okSl_d, ↓okSl_ol, ↓okSl_rd, ↓okLo_lo, ↓ok_dat_d, ↓ok_dat_ol, ↓ok_dat_pk, ↓ok_dat_rd, ↓ok_fdat_d, ↓ok_fdat_ol, ↓ok_fdat_pk, ↓ok_gdat_d, ↓ok_gdat_ol, ↓ok_gdat_pk, ↓ok_gdat_rd, ↓ok_ndat_d, ↓ok_ndat_ol, ↓ok_ndat_pk, ↓ok_esc_v, ↓ok_esc_pk, ↓ok_mov_v, ↓ok_srcD_d, ↓ok_srcD_ol, ↓ok_srcD_pk, ↓ok_srcD_rd, ↓ok_srcs_nil, ↓ok_srcs_cons, ↓ok_escs_nil, ↓ok_escs_cons, ↓we_var, ↓we_cst, ↓we_bin, ↓wneg_int, ↓we_neg, ↓wbl_bl, ↓we_not, ↓we_cmp, ↓we_chn, ↓we_idx, ↓we_sl, ↓we_rev, ↓we_tup, ↓we_lst, ↓we_turn, ↓we_isi, ↓we_b1, ↓we_b2, ↓wint_int, ↓we_ono, ↓we_oso, ↓we_nil, ↓we_cons, ↓wt_yes, ↓wt_tr, ↓wt_no, ↓wt_an, ↓wt_or, ↓sq_nx, ↓sq_rt, ↓sq_bk, ↓sq_ct, ↓ws_seq, ↓ws_set, ↓ws_movs_nil, ↓ws_movs_cons, ↓ws_asgs_nil, ↓ws_asgs_cons, ↓ws_setT, ↓ws_unp, ↓ws_ex, ↓ws_ite, ↓ws_ret, ↓ws_retN, ↓ws_pass, ↓ws_brk, ↓ws_cont, ↓wol_ol, ↓ws_app, ↓ws_for, ↓ws_whl, ↓wlst_lst, ↓ws_ext, ↓wa_nm, ↓wa_tp, ↓wa_nil, ↓wa_cons, ↓wa_ix, ↓o_add_int, ↓o_add_str, ↓o_add_lst, ↓o_add_tup, ↓o_sub, ↓o_mul_int, ↓o_mul_str, ↓o_mul_lst, ↓o_fdiv, ↓o_mod, ↓o_pow, ↓o_eq_int, ↓o_ne_int, ↓o_eq_str, ↓o_ne_str, ↓o_lt_int, ↓o_le_int, ↓o_gt_int, ↓o_ge_int, ↓o_lt_str, ↓o_le_str, ↓o_gt_str, ↓o_ge_str, ↓o_in_str, ↓o_nin_str, ↓o_is_non, ↓o_isn_non, ↓o_is_bl, ↓o_isn_bl, ↓o_idx_lst, ↓o_idx_tup, ↓o_idx_str, ↓o_sl_str, ↓o_sl_lst, ↓o_sl_tup, ↓o_rev_str, ↓o_rev_lst, ↓o_len_str, ↓o_len_lst, ↓o_len_tup, ↓o_abs, ↓o_int_int, ↓o_int_bl, ↓o_bool_int, ↓o_list_lst, ↓o_list_tup, ↓o_list_str, ↓o_sorted_str, ↓mkd_str, ↓mkd_lst, ↓o_ix_str, ↓o_ix_lst, ↓o_sw, ↓o_ew, ↓wda_d, ↓ws_aug, ↓o_aug_add, ↓o_aug_sub, ↓o_maxd, ↓ws_appAt, ↓wol2_ol, ↓o_enzip, ↓we_met, ↓o_tuple_lst, ↓o_tuple_tup, ↓o_repr, ↓o_all, ↓o_any, ↓o_sum, ↓o_max, ↓o_min, ↓o_max2, ↓o_min2, ↓o_divmod, ↓o_join, ↓o_seq_lst, ↓o_seq_tup, ↓o_seq_str, ↓o_rng1, ↓o_rng2, ↓o_zip_lst, ↓o_zip_tup, ↓o_enum, ↓o_gcd, ↓o_sset, ↓o_ssetT, ↓o_lset, ↓o_lsetT, ↓o_sw3, ↓we_bs, ↓we_sw3, ↓we_pop, ↓we_dlk, ↓we_lrng, ↓wid_int, isD_ol, ↓o_revl, ↓sl_s, ↓sl_0, ↓lo_s, ↓lo_0, ↓ok_asgM, ↓ok_movM, ↓we_callM, ↓we_callkM, ↓ok_pickR, ↓fin_rt, ↓fin_nx, ↓lp_nx, ↓lp_ct, ↓lp_bk, ↓lp_rt, ↓we_compC, okSl_d, okSl_ol, okSl_rd, okLo_lo, ok_dat_d, ok_dat_ol, ok_dat_pk, ok_dat_rd, ok_fdat_d, ok_fdat_ol, ok_fdat_pk, ok_gdat_d, ok_gdat_ol, ok_gdat_pk, ok_gdat_rd, ok_ndat_d, ok_ndat_ol, ok_ndat_pk, ok_esc_v, ok_esc_pk, ok_mov_v, ok_srcD_d, ok_srcD_ol, ok_srcD_pk, ok_srcD_rd, ok_srcs_nil, ok_srcs_cons, ok_escs_nil, ok_escs_cons, we_var, we_cst, we_bin, wneg_int, we_neg, wbl_bl, we_not, we_cmp, we_chn, we_idx, we_sl, we_rev, we_tup, we_lst, we_turn, we_isi, we_b1, we_b2, wint_int, we_ono, we_oso, we_nil, we_cons, wt_yes, wt_tr, wt_no, wt_an, wt_or, sq_nx, sq_rt, sq_bk, sq_ct, ws_seq, ws_set, ws_movs_nil, ws_movs_cons, ws_asgs_nil, ws_asgs_cons, ws_setT, ws_unp, ws_ex, ws_ite, ws_ret, ws_retN, ws_pass, ws_brk, ws_cont, wol_ol, ws_app, ws_for, ws_whl, wlst_lst, ws_ext, wa_nm, wa_tp, wa_nil, wa_cons, wa_ix, o_add_int, o_add_str, o_add_lst, o_add_tup, o_sub, o_mul_int, o_mul_str, o_mul_lst, o_fdiv, o_mod, o_pow, o_eq_int, o_ne_int, o_eq_str, o_ne_str, o_lt_int, o_le_int, o_gt_int, o_ge_int, o_lt_str, o_le_str, o_gt_str, o_ge_str, o_in_str, o_nin_str, o_is_non, o_isn_non, o_is_bl, o_isn_bl, o_idx_lst, o_idx_tup, o_idx_str, o_sl_str, o_sl_lst, o_sl_tup, o_rev_str, o_rev_lst, o_len_str, o_len_lst, o_len_tup, o_abs, o_int_int, o_int_bl, o_bool_int, o_list_lst, o_list_tup, o_list_str, o_sorted_str, mkd_str, mkd_lst, o_ix_str, o_ix_lst, o_sw, o_ew, wda_d, ws_aug, o_aug_add, o_aug_sub, o_maxd, ws_appAt, wol2_ol, o_enzip, we_met, o_tuple_lst, o_tuple_tup, o_repr, o_all, o_any, o_sum, o_max, o_min, o_max2, o_min2, o_divmod, o_join, o_seq_lst, o_seq_tup, o_seq_str, o_rng1, o_rng2, o_zip_lst, o_zip_tup, o_enum, o_revl, sl_s, sl_0, lo_s, lo_0, ok_asgM, ok_movM, we_callM, we_callkM, ok_pickR, fin_rt, fin_nx, lp_nx, lp_ct, lp_bk, lp_rt, we_compC, ok1_some, ok2_some, if_true', if_false', data_d, data_ol, datas_nil, datas_cons, datas_mapd, datas_map1, flat_d, flat_nil, flat_cons, flat_mapd, flat_map1, truth_bl', truth_int, truth_str, truth_lst, truth_tup, truth_non, notOl_d', notOl_pk, fzR_v, fzR_rd, isNon_non, isNon_int, isNon_str, isNon_lst, isNon_tup, isNon_bl, hasTy, List.set_cons_zero, List.set_cons_succ, List.getD_cons_zero, List.getD_cons_succ, List.getD_nil, List.length_cons, List.length_nil, List.map_nil, List.map_cons, List.append_nil, List.nil_append, List.cons_append, List.take_succ_cons, List.take_zero, List.any_cons, List.any_nil, List.all_cons, List.all_nil, Bool.or_false, Bool.or_true, Bool.and_true, Bool.true_and, Bool.false_and, Bool.and_false, Bool.false_or, Bool.true_or, Bool.not_true, Bool.not_false, Bool.not_not, true_and, and_true, Nat.reduceAdd, Nat.reduceLT, Nat.reduceLeDiff, Nat.reduceEqDiff, Nat.zero_lt_succ, decide_true, decide_false, ne_eq, not_false_eq_true, Int.toNat_natCast, Int.reduceToNat, reduceCtorEq, pickL, List.filterMap_cons, List.filterMap_nil, if_true, if_false, Bool.false_eq_true, Int.cast_ofNat_Int, nc_add, nc_add1, nc_1add, nc_0add, nc_mul, nc_2mul, nc_mul2, nc_fdiv2, fmod_nat, fdiv_nat, cut_to, cut_from, cut_last, cut_ft, cut_all, cut_to_0, cut_to_1, cut_to_2, cut_to_3, cut_to_4, cut_from_1, cut_from_2, cut_from_3, wipe, unwipe, List.getElem?_cons_zero, List.getElem?_cons_succ, Option.getD_some, Int.reduceEq, Int.reduceLT, Int.reduceLE, Int.reducePow, Int.reduceNeg, Int.reduceAdd, Int.reduceSub, Int.reduceMul, atI_0, atI_1, atI_2, ixN_0, ixN_1, eq_self, and_self, Nat.reduceSub, List.replicate_zero, List.reduceReplicate, $ls,*])
section
variable {F : Nat → Option Fd} {f : Nat}
def potA (a b q c e : Int) : S := .seq (.set 2 (.ite (.tr (.cmp .lt (.var 1) (.b1 .len (.var 0)))) (.b1 .abs (.idx (.var 0) (.var 1))) (.bin .add (.bin .mul (.cst (.int a)) (.var 1)) (.cst (.int b))))) (.seq (.set 3 (.bin .add (.bin .mod (.b1 .int (.bin .add (.bin .add (.bin .mul (.bin .mod (.b1 .int (.var 2)) (.cst (.int 2147483549))) (.cst (.int q))) (.bin .mul (.cst (.int c)) (.var 1))) (.cst (.int e)))) (.cst (.int 2147483563))) (.cst (.int 1)))) (.ret (.lst (.cons (.b2 .max (.cst (.int 0)) (.bin .sub (.var 2) (.bin .pow (.cst (.int 10)) (.cst (.int 18))))) (.cons (.var 3) .nil)))))
theorem pot_a {a b q c e : Int} (hF : F f = some ⟨2, 4, [false, false], potA a b q c e⟩) (ha : small64 a = true) (hq : small64 q = true) (hc : small64 c = true) (ns : List Int) (i : Nat) : Gp F 1 f [.rd ns, I i] (fun v => ∃ x y, v = .ol [.d (.int x), .d (.int y)] ∧ pok x y) := by
  refine Sp.mk hF rfl fun k hk => ?_
  unfold potA
  have fin : ∀ cell : Int, pok (if cell - 1000000000000000000 > 0 then cell - 1000000000000000000 else 0) ((cell.fmod 2147483549 * q + c * (i : Int) + e).fmod 2147483563 + 1) := by
    intro cell
    obtain ⟨c1, c2⟩ := fmod_nn (cell.fmod 2147483549 * q + c * (i : Int) + e) (n := 2147483563) (by decide)
    refine ⟨?_, ?_, ?_⟩
    · split <;> omega
    · omega
    · omega
  simp! only []
  refine wif (fun h => ?_) (fun h => ?_)
  · have h' : i < ns.length := by
      have := of_decide_eq_true h
      simp at this
      exact this
    simp! only [atI_nat (show i < (ns.map D.int).length by rw [List.length_map]; exact h'), List.getElem_map, hq, hc]
    exact ⟨by decide, by decide, _, _, rfl, fin _⟩
  · simp! only [ha, hq, hc]
    exact ⟨by decide, by decide, _, _, rfl, fin _⟩
def drawA (q c m l d : Int) : S := .seq (.ite (.tr (.cmp .gt (.idx (.var 0) (.cst (.int 0))) (.cst (.int 0)))) (.seq (.set 2 (.bin .mod (.b1 .int (.idx (.var 0) (.cst (.int 0)))) (.var 1))) (.seq (.unp (.ix 0 (.cst (.int 0))) (.bin .fdiv (.b1 .int (.idx (.var 0) (.cst (.int 0)))) (.var 1))) (.ret (.var 2)))) .pass) (.seq (.unp (.ix 0 (.cst (.int 1))) (.bin .mod (.b1 .int (.bin .add (.bin .mul (.idx (.var 0) (.cst (.int 1))) (.cst (.int q))) (.cst (.int c)))) (.cst (.int m)))) (.ret (.bin .mod (.b1 .int (.bin .fdiv (.bin .mod (.b1 .int (.bin .mul (.idx (.var 0) (.cst (.int 1))) (.idx (.var 0) (.cst (.int 1))))) (.cst (.int l))) (.cst (.int d)))) (.var 1))))
theorem draw_a {q c m l d : Int} (hF : F f = some ⟨2, 3, [true, false], drawA q c m l d⟩) (q1 : small64 q = true) (hm : 0 < m ∧ m < 4294967296) (hl : 0 < l) (hd : 0 < d ∧ d < 1000) (n : Nat) (h0 : 0 < n) (h1 : n < 1000000) : Pf F 1 f [.int n] (below n) := by
  intro a b hp
  refine Sp.mk hF rfl fun k hk => ?_
  unfold drawA
  simp! only []
  obtain ⟨p1, p2, p3⟩ := hp
  refine wifd (fun h => ?_) (fun h => ?_)
  · simp! only []
    obtain ⟨d1, d2⟩ := fmod_nn a (n := (n : Int)) (by omega)
    refine ⟨by omega, ⟨by omega, by omega⟩, _, _, _, rfl, rfl, ⟨?_, p2, p3⟩, (a.fmod n).toNat, ?_, by omega⟩
    · rw [Int.fdiv_eq_ediv_of_nonneg _ (by omega)]
      exact Int.ediv_nonneg (by omega) (by omega)
    · rw [Int.toNat_of_nonneg d1]
  · obtain ⟨c1, c2⟩ := fmod_nn (b * q + c) (n := m) hm.1
    have q2 : small64 ((b * q + c).fmod m) = true := small_lit (by omega) (by omega)
    simp! only [q1, q2]
    generalize (((b * q + c).fmod m * (b * q + c).fmod m).fmod l).fdiv d = z
    obtain ⟨d1, d2⟩ := fmod_nn z (n := (n : Int)) (by omega)
    refine ⟨by omega, by omega, ⟨by omega, by omega⟩, by omega, _, _, _, rfl, rfl, ⟨p1, c1, by omega⟩, (z.fmod n).toNat, ?_, by omega⟩
    rw [Int.toNat_of_nonneg d1]
/-! ### one of a text -/
theorem pick_s {d : Nat} (hF : F f = some ⟨2, 2, [true, false], pickB d⟩) (hd : DrawOk F d) (s : List Nat) (h0 : 0 < s.length) (h1 : s.length < 1000000) : Pf F 2 f [.str s] (fun v => ∃ c ∈ s, v = .d (.str [c])) := by
  intro a b hp
  refine Sp.mk hF rfl fun k hk => ?_
  unfold pickB
  simp! only []
  refine hd.call s.length hk rfl h0 h1 hp rfl fun a b r hp hr => ?_
  simp! only [atI_nat hr]
  exact ⟨_, _, _, rfl, rfl, hp, _, List.getElem_mem hr, rfl⟩
def PickOk (F : Nat → Option Fd) (p : Nat) : Prop := (∀ s : List Nat, 0 < s.length → s.length < 1000000 → Pf F 2 p [.str s] (fun v => ∃ c ∈ s, v = .d (.str [c]))) ∧ (flags F p).head? = some true ∧ 2 ≤ (flags F p).length
def wordA (d p : Nat) : S := .ret (.b2 .join (.cst (.str [])) (.comp [3] .rng1 (.cons (.call d (.cons (.var 0) (.cons (.bin .add (.fz (.var 2)) (.cst (.int 1))) .nil)) []) .nil) (.nm 3) .yes (.call p (.cons (.var 0) (.cons (.sl (.cst (.str [97, 98, 99])) .no (.so (.var 1))) .nil)) [])))
theorem word_a {d p : Nat} (hF : F f = some ⟨3, 4, [true, false, false], wordA d p⟩) (hd : DrawOk F d) (hp' : PickOk F p) (lt m : Nat) (h00 : 1 ≤ lt) (h3 : lt ≤ 3) (hm : m < 500) : Pf F 3 f [.int lt, .int m] (wordy lt m) := by
  intro a b hp
  refine Sp.mk hF rfl fun k hk => ?_
  unfold wordA
  simp! only []
  refine hd.call (m + 1) (by omega) rfl (by omega) (by omega) hp rfl fun a b n hp hn => ?_
  simp! only []
  have ht : ∀ c ∈ ([97, 98, 99] : List Nat).take lt, 97 ≤ c ∧ c < 97 + lt := by
    obtain rfl | rfl | rfl : lt = 1 ∨ lt = 2 ∨ lt = 3 := by omega
    · decide
    · decide
    · decide
  have hl : (([97, 98, 99] : List Nat).take lt).length = lt := by rw [List.length_take]; show min lt 3 = lt; omega
  refine ⟨ends62_of (by omega) (by omega), cmp_inv (fun ρ => ∃ a b, pok a b ∧ ρ = [Pt a b, I lt, I m, .un]) (fun v => ∃ c : Nat, v = .d (.str [c]) ∧ (97 ≤ c ∧ c < 97 + lt)) rfl ?_ ⟨a, b, hp, rfl⟩ ?_ ?_⟩
  · rw [ranged_nat (N := n) (by omega), List.length_map, List.length_range]; show _ ≤ 16777216; omega
  · rintro x hx ρ ⟨a, b, hp, rfl⟩
    simp! only [we_turn]
    refine potcall1 (hp'.1 _ (by rw [hl]; omega) (by rw [hl]; omega)) (by omega) hp'.2 hp rfl fun a' b' v hp' ⟨c, hc, hv⟩ => ?_
    subst hv
    simp! only []
    exact ⟨⟨a', b', hp', rfl⟩, _, rfl, c, rfl, ht c hc⟩
  · intro vs ρ' ⟨a', b', hp', e⟩ hl hv
    obtain ⟨cs, rfl, hc⟩ := map_of hv
    rw [ranged_nat (N := n) (by omega), List.length_map, List.length_map, List.length_range] at hl
    rw [e]
    simp! only [joinL_nil, flat_one, sum_one]
    exact ⟨by show _ ≤ 16777216; omega, _, _, _, rfl, rfl, hp', _, rfl, hc, by omega⟩
def WordOk (F : Nat → Option Fd) (w : Nat) : Prop := (∀ lt m : Nat, 1 ≤ lt → lt ≤ 3 → m < 500 → Pf F 3 w [.int lt, .int m] (wordy lt m)) ∧ (flags F w).head? = some true ∧ 3 ≤ (flags F w).length
theorem WordOk.call {w i k : Nat} {a b e1 e2 : Int} {ρ : Env} {Q : R → Env → Prop} (h : WordOk F w) (lt m : Nat) (hk : 3 ≤ k) (he1 : e1 = (lt : Int)) (he2 : e2 = (m : Int)) (h1 : 1 ≤ lt) (h2 : lt ≤ 3) (hm : m < 500) (hp : pok a b) (hg : ρ[i]? = some (Pt a b)) (hQ : ∀ a' b' s, pok a' b' → abl lt s → s.length ≤ m → Q (.v (.d (.str s))) (ρ.set i (Pt a' b'))) :
    Ok2 (callR (flags F) (callK F k) w [.pk i, .v (.d (.int e1)), .v (.d (.int e2))] ρ) Q := by
  subst he1
  subst he2
  exact potcall2 (h.1 lt m h1 h2 hm) hk h.2 hp hg fun a' b' v hp' ⟨s, hv, hs, hn⟩ => by subst hv; exact hQ a' b' s hp' hs hn
theorem take_ne {x : List Nat} {m : Nat} (h : x ≠ []) (h1 : 1 ≤ m) : x.take m ≠ [] := by
  intro q
  have := congrArg List.length q
  have h2 := List.length_pos_iff.mpr h
  rw [List.length_take, List.length_nil] at this; omega
def madeA (d w : Nat) : S := .seq (.setT [2, 3] (.cons (.bin .add (.cst (.int 1)) (.call d (.cons (.var 0) (.cons (.cst (.int 3)) .nil)) [])) (.cons (.call d (.cons (.var 0) (.cons (.cst (.int 4)) .nil)) []) .nil))) (.seq (.set 4 (.call w (.cons (.var 0) (.cons (.var 2) (.cons (.cst (.int 5)) .nil))) [])) (.seq (.set 4 (.ite (.tr (.cmp .ne (.var 4) (.cst (.str [])))) (.var 4) (.cst (.str [97])))) (.seq (.ite (.tr (.cmp .eq (.var 3) (.cst (.int 0)))) (.set 4 (.call w (.cons (.var 0) (.cons (.var 2) (.cons (.var 1) .nil))) [])) .pass) (.seq (.ite (.tr (.cmp .eq (.var 3) (.cst (.int 1)))) (.set 4 (.bin .mul (.var 4) (.bin .add (.cst (.int 1)) (.call d (.cons (.var 0) (.cons (.cst (.int 4)) .nil)) [])))) .pass) (.seq (.ite (.tr (.cmp .eq (.var 3) (.cst (.int 2)))) (.set 4 (.sl (.bin .mul (.var 4) (.cst (.int 4))) .no (.so (.bin .add (.cst (.int 1)) (.call d (.cons (.var 0) (.cons (.var 1) .nil)) []))))) .pass) (.seq (.ite (.tr (.cmp .eq (.var 3) (.cst (.int 3)))) (.set 4 (.bin .add (.bin .add (.fz (.var 4)) (.call w (.cons (.var 0) (.cons (.var 2) (.cons (.cst (.int 4)) .nil))) [])) (.fz (.var 4)))) .pass) (.ret (.ite (.tr (.cmp .ne (.var 4) (.cst (.str [])))) (.sl (.var 4) .no (.so (.var 1))) (.cst (.str [98]))))))))))
/-- words with much in them again, never empty -/
theorem made_a {d w : Nat} (hF : F f = some ⟨2, 5, [true, false], madeA d w⟩) (hd : DrawOk F d) (hw : WordOk F w) (m : Nat) (h1 : 1 ≤ m) (hm : m < 400) : Pf F 4 f [.int m] (fun v => ∃ s, v = .d (.str s) ∧ abl 3 s ∧ s ≠ [] ∧ s.length ≤ m) := by
  intro a b hp
  refine Sp.mk hF rfl fun k hk => ?_
  unfold madeA
  simp! only []
  refine hd.call 3 (by omega) rfl (by decide) (by decide) hp rfl fun a b r hp hr => ?_
  simp! only []
  refine hd.call 4 (by omega) rfl (by decide) (by decide) hp rfl fun a b way hp hway => ?_
  simp! only []
  refine hw.call (1 + r) 5 (by omega) rfl rfl (by omega) (by omega) (by decide) hp rfl fun a b s hp hs hsl => ?_
  have hok : okS s = true := hs.ok (by omega)
  simpa! only [hok]
  refine valV (.v (.d (.str (if s = [] then [97] else s)))) ?_ ?_
  · simp! only [hok]
    refine ⟨by decide, wifn (fun h => ?_) (fun h => ?_)⟩
    · rw [if_neg h]; simp! only []
    · rw [if_pos h]; simp! only []
  obtain ⟨s1, e1, hs1, n1, l1⟩ : ∃ s1, s1 = (if s = [] then [97] else s) ∧ abl (1 + r) s1 ∧ s1 ≠ [] ∧ s1.length ≤ 5 := by
    by_cases q : s = []
    · rw [if_pos q]
      refine ⟨_, rfl, fun c hc => ?_, by decide, by decide⟩
      rw [List.mem_singleton.mp hc]; omega
    · rw [if_neg q]; exact ⟨s, rfl, hs, q, hsl⟩
  rw [← e1]
  have up : ∀ {x : List Nat}, abl (1 + r) x → abl 3 x := fun h => h.up (by omega)
  obtain rfl | rfl | rfl | rfl : way = 0 ∨ way = 1 ∨ way = 2 ∨ way = 3 := by omega
  · simp! only []
    refine hw.call (1 + r) m (by omega) rfl rfl (by omega) (by omega) (by omega) hp rfl fun a b x hp hx hxl => ?_
    simp! only [hx.ok (show 1 + r ≤ 1000 by omega)]
    refine ⟨by decide, wifn (fun h => ?_) (fun h => ?_)⟩
    · simp! only []
      exact ⟨a, b, _, rfl, rfl, hp, _, rfl, up (hx.take m), take_ne h h1, by rw [List.length_take]; omega⟩
    · simp! only []
      exact ⟨a, b, _, rfl, rfl, hp, [98], rfl, fun c hc => by rw [List.mem_singleton.mp hc]; omega, by decide, h1⟩
  · simp! only []
    refine hd.call 4 (by omega) rfl (by decide) (by decide) hp rfl fun a b n hp hn => ?_
    have hb : s1.length * (1 + n) ≤ 100 := by
      have := Nat.mul_le_mul l1 (show 1 + n ≤ 5 by omega); omega
    have hx := hs1.rep (1 + n)
    simp! only []
    refine ⟨⟨by show _ ≤ 16777216; omega, by omega, by omega⟩, ?_⟩
    generalize (List.replicate (1 + n) s1).flatten = x at hx
    simp! only [hx.ok (show 1 + r ≤ 1000 by omega)]
    refine ⟨by decide, wifn (fun h => ?_) (fun h => ?_)⟩
    · simp! only []
      exact ⟨a, b, _, rfl, rfl, hp, _, rfl, up (hx.take m), take_ne h h1, by rw [List.length_take]; omega⟩
    · simp! only []
      exact ⟨a, b, _, rfl, rfl, hp, [98], rfl, fun c hc => by rw [List.mem_singleton.mp hc]; omega, by decide, h1⟩
  · simp! only []
    refine ⟨by show _ ≤ 16777216; omega, ?_⟩
    refine hd.call m (by omega) rfl (by omega) (by omega) hp rfl fun a b n hp hn => ?_
    simp! only []
    generalize hx' : List.take (1 + n) _ = x
    have hx : abl (1 + r) x := by rw [← hx']; exact (hs1.rep 4).take (1 + n)
    simp! only [hx.ok (show 1 + r ≤ 1000 by omega)]
    refine ⟨by decide, wifn (fun h => ?_) (fun h => ?_)⟩
    · simp! only []
      exact ⟨a, b, _, rfl, rfl, hp, _, rfl, up (hx.take m), take_ne h h1, by rw [List.length_take]; omega⟩
    · simp! only []
      exact ⟨a, b, _, rfl, rfl, hp, [98], rfl, fun c hc => by rw [List.mem_singleton.mp hc]; omega, by decide, h1⟩
  · simp! only []
    refine hw.call (1 + r) 4 (by omega) rfl rfl (by omega) (by omega) (by omega) hp rfl fun a b y hp hy hyl => ?_
    have hx := (hs1.app hy).app hs1
    simp! only []
    refine ⟨by show _ ≤ 16777216; omega, by rw [List.length_append]; show _ ≤ 16777216; omega, ?_⟩
    generalize (s1 ++ y) ++ s1 = x at hx
    simp! only [hx.ok (show 1 + r ≤ 1000 by omega)]
    refine ⟨by decide, wifn (fun h => ?_) (fun h => ?_)⟩
    · simp! only []
      exact ⟨a, b, _, rfl, rfl, hp, _, rfl, up (hx.take m), take_ne h h1, by rw [List.length_take]; omega⟩
    · simp! only []
      exact ⟨a, b, _, rfl, rfl, hp, [98], rfl, fun c hc => by rw [List.mem_singleton.mp hc]; omega, by decide, h1⟩
end
end Pu.Pa

set_option Elab.async false
set_option maxRecDepth 100000
set_option maxHeartbeats 2000000
/-! What is shown: data of short whole numbers and texts. -/
namespace Pu
open PySem PyProof.Rows
mutual
def sh : D → Bool
  | .str s => okS s
  | .int i => decide (i.natAbs < 10 ^ 12)
  | .lst xs => shs xs
  | .tup xs => shs xs
  | _ => true
def shs : List D → Bool
  | [] => true
  | x :: xs => sh x && shs xs
end
mutual
/-- how heavy it is, at most -/
def wt : D → Nat
  | .str s => s.length
  | .int _ => 41
  | .lst xs => wts xs
  | .tup xs => wts xs
  | _ => 0
def wts : List D → Nat
  | [] => 0
  | x :: xs => wt x + 1 + wts xs
end
mutual
theorem sh_all : ∀ {x : D}, sh x = true → (toPy x).canLay0 = true ∧ (toPy x).intsShort 13 = true ∧ (toPy x).showable = true ∧ (toPy x).weight ≤ wt x ∧ (toPy x).depth ≤ rk x
  | .non, _ => ⟨rfl, rfl, rfl, Nat.le_refl _, Nat.le_refl _⟩
  | .bl b, _ => ⟨rfl, rfl, rfl, Nat.le_refl _, Nat.le_refl _⟩
  | .int i, h => by
    have h : i.natAbs < 10 ^ 12 := by simpa [sh] using h
    have hl : i.natAbs.log2 < 40 := by
      by_cases q : i.natAbs = 0
      · rw [q]; decide
      · exact (Nat.log2_lt q).mpr (Nat.lt_trans h (by decide))
    refine ⟨rfl, by simpa [toPy, PyData.intsShort] using PyData.shown_int_le h, by simp [toPy, PyData.showable]; omega, ?_, Nat.le_refl _⟩
    show (if i == 0 then 0 else i.natAbs.log2 + 1) ≤ 41
    split <;> omega
  | .str s, h => by
    have h : okS s = true := by simpa [sh] using h
    refine ⟨?_, rfl, rfl, by simp [toPy, PyData.weight, wt], Nat.le_refl _⟩
    unfold okS at h
    simp [toPy, PyData.canLay0, PyData.strOk]
    intro c hc
    have := List.all_eq_true.mp h c hc
    simpa using this
  | .lst xs, h => by
    obtain ⟨a, b, c, d, e⟩ := shs_all (show shs xs = true from h)
    refine ⟨by simpa [toPy, PyData.canLay0] using a, by simpa [toPy, PyData.intsShort] using b, by simpa [toPy, PyData.showable] using c, by simpa [toPy, PyData.weight, wt] using d, ?_⟩
    show PyData.depthAll (toPys xs) + 1 ≤ rks xs + 1
    omega
  | .tup xs, h => by
    obtain ⟨a, b, c, d, e⟩ := shs_all (show shs xs = true from h)
    refine ⟨by simpa [toPy, PyData.canLay0] using a, by simpa [toPy, PyData.intsShort] using b, by simpa [toPy, PyData.showable] using c, by simpa [toPy, PyData.weight, wt] using d, ?_⟩
    show PyData.depthAll (toPys xs) + 1 ≤ rks xs + 1
    omega
theorem shs_all : ∀ {xs : List D}, shs xs = true → PyData.canLayAll0 (toPys xs) = true ∧ PyData.intsShortAll 13 (toPys xs) = true ∧ PyData.showableAll (toPys xs) = true ∧ PyData.weightAll (toPys xs) ≤ wts xs ∧ PyData.depthAll (toPys xs) ≤ rks xs
  | [], _ => ⟨rfl, rfl, rfl, Nat.le_refl _, Nat.le_refl _⟩
  | x :: xs, h => by
    have h : sh x = true ∧ shs xs = true := by simpa [shs] using h
    obtain ⟨a1, b1, c1, d1, e1⟩ := sh_all h.1
    obtain ⟨a2, b2, c2, d2, e2⟩ := shs_all h.2
    refine ⟨by simp [toPys, PyData.canLayAll0, a1, a2], by simp [toPys, PyData.intsShortAll, b1, b2], by simp [toPys, PyData.showableAll, c1, c2], ?_, ?_⟩
    · simp only [toPys, PyData.weightAll, wts]; omega
    · show max (toPy x).depth (PyData.depthAll (toPys xs)) ≤ max (rk x) (rks xs)
      omega
end
theorem showy_sh {x : D} (h : sh x = true) (hr : rk x ≤ 40) (hw : wt x ≤ 1000000) : x.showy = true := by
  obtain ⟨a, b, c, d, e⟩ := sh_all h
  exact showy_of a (by omega) (by have : (2 : Nat) ^ 20 = 1048576 := by decide
                                  omega) b c
theorem sh_lst {xs : List D} (h : ∀ x ∈ xs, sh x = true) : sh (.lst xs) = true := by
  show shs xs = true
  induction xs with
  | nil => rfl
  | cons x xs ih => rw [shs, h x (List.mem_cons_self ..), ih fun y hy => h y (List.mem_cons_of_mem _ hy)]; rfl
theorem wts_le {b : Nat} : ∀ {xs : List D}, (∀ x ∈ xs, wt x ≤ b) → wts xs ≤ xs.length * (b + 1)
  | [], _ => Nat.zero_le _
  | x :: xs, h => by
    have h1 := h x (List.mem_cons_self ..)
    have h2 := wts_le (xs := xs) fun y hy => h y (List.mem_cons_of_mem _ hy)
    rw [wts, List.length_cons, Nat.succ_mul]; omega
theorem okS_repr {x : D} (h : x.showy = true) : okS x.repr = true := by
  unfold D.showy at h
  simp only [Bool.and_eq_true] at h
  unfold okS D.repr
  exact h.2.2.2.2
/-- two alike, shown -/
theorem repr_alike {x : D} {Q : Bool → Prop} (h : x.showy = true) : Ok1 (cmpop .eq (.str x.repr) (.str x.repr)) Q = Q true := by
  rw [o_eq_str, ok1_some, okS_repr h, decide_eq_true rfl]
  simp
theorem repr_alike_ne {x : D} {Q : Bool → Prop} (h : x.showy = true) : Ok1 (cmpop .ne (.str x.repr) (.str x.repr)) Q = Q false := by
  rw [o_ne_str, ok1_some, okS_repr h, decide_eq_true rfl]
  simp
end Pu

set_option Elab.async false
set_option maxRecDepth 100000
set_option maxHeartbeats 2000000
/-! Turns of a word, the least of them, sets of words: plain facts. -/
namespace Pu.Tn
open Pu.Fw
/-! ### the order of texts -/
theorem dlt_str (x y : List Nat) : dlt (.str x) (.str y) = decide (x < y) := by
  have h : dle (.str y) (.str x) = !dlt (.str x) (.str y) := rfl
  rw [dle_str] at h
  have h2 : dlt (.str x) (.str y) = !decide (y ≤ x) := by rw [h, Bool.not_not]
  rw [h2, ← decide_not]
  exact decide_eq_decide.mpr List.not_le
theorem eqv_s (x y : List Nat) : PySem.PyData.eqv (toPy (.str x)) (toPy (.str y)) = decide (x = y) := eqv_str
theorem dlt_si (x y : List Nat) (i j : Int) : dlt (.tup [.str x, .int i]) (.tup [.str y, .int j]) = decide (x < y ∨ (x = y ∧ i < j)) := by
  have h : dlt (.tup [.str x, .int i]) (.tup [.str y, .int j]) = if PySem.PyData.eqv (toPy (.str x)) (toPy (.str y)) = true then (if PySem.PyData.eqv (.int i) (.int j) = true then false else PySem.W.dataLt (.int i) (.int j)) else dlt (.str x) (.str y) :=
    PySem.W.dataLt_pair (x := toPy (.str x)) (y := .int i) (x' := toPy (.str y)) (y' := .int j) (by simp [toPy, PySem.W.alike]) (by simp [PySem.W.alike])
  rw [h, eqv_s, dlt_str, PySem.W.dataLt_int]
  simp only [PySem.PyData.eqv, beq_iff_eq, decide_eq_true_eq]
  by_cases h1 : x = y
  · subst h1
    rw [if_pos rfl]
    have nl : ¬ x < x := List.lt_irrefl x
    by_cases h2 : i = j
    · subst h2; simp [nl]
    · simp [h2, nl]
  · rw [if_neg h1]; simp [h1]
theorem lt_or {x y : List Nat} (h1 : ¬ x < y) (h2 : ¬ y < x) : x = y := List.le_antisymm (List.not_lt.mp h2) (List.not_lt.mp h1)
theorem lt_tr {x y z : List Nat} (h1 : ¬ y < x) (h2 : ¬ z < y) : ¬ z < x := List.not_lt.mpr (List.le_trans (List.not_lt.mp h1) (List.not_lt.mp h2))
theorem alike_strs (l : List (List Nat)) (h : ∀ s ∈ l, True) : alikeD (l.map .str) = true := by
  unfold alikeD
  have dp : ∀ l : List (List Nat), PySem.PyData.depthAll (toPys (l.map .str)) ≤ 40 := by
    intro l
    induction l with
    | nil => decide
    | cons x l ih =>
      rw [List.map_cons]
      show PySem.PyData.depthAll (toPy (.str x) :: toPys (l.map .str)) ≤ 40
      rw [PySem.PyData.depthAll]
      exact Nat.max_le.mpr ⟨by simp [toPy, PySem.PyData.depth], ih⟩
  rw [Bool.and_eq_true, Bool.and_eq_true]
  refine ⟨?_, ?_, decide_eq_true (dp l)⟩
  · simp [List.all_map, toPy, PySem.W.alike]
  · simp [List.all_map]
theorem alike_si {α : Type} (f : α → List Nat) (g : α → Int) (l : List α) : alikeD (l.map fun a => .tup [.str (f a), .int (g a)]) = true := by
  unfold alikeD
  have dp : ∀ l : List α, PySem.PyData.depthAll (toPys (l.map fun a => .tup [.str (f a), .int (g a)])) ≤ 40 := by
    intro l
    induction l with
    | nil => exact (by decide : PySem.PyData.depthAll [] ≤ 40)
    | cons x l ih =>
      rw [List.map_cons]
      show PySem.PyData.depthAll (toPy (.tup [.str (f x), .int (g x)]) :: toPys (l.map fun a => .tup [.str (f a), .int (g a)])) ≤ 40
      rw [PySem.PyData.depthAll]
      exact Nat.max_le.mpr ⟨by simp [toPy, toPys, PySem.PyData.depth, PySem.PyData.depthAll], ih⟩
  rw [Bool.and_eq_true, Bool.and_eq_true]
  refine ⟨?_, ?_, decide_eq_true (dp l)⟩
  · simp [List.all_map, toPy, toPys, PySem.W.alike, PySem.W.alikeAll]
  · simp [List.all_map]
theorem sortable_strs (l : List (List Nat)) : sortableD (l.map .str) = true := by
  unfold sortableD
  rw [Bool.and_eq_true, Bool.and_eq_true, Bool.or_eq_true]
  refine ⟨?_, .inr ?_, ?_⟩
  · simp [List.all_map, toPy, PySem.W.alike]
  · simp [List.all_map]
  · simp [List.all_map, toPy, PySem.PyData.depth]
theorem hash_strs {l : List (List Nat)} (h : l.length < 4095) : hashable (l.map .str) = true := by
  unfold hashable
  rw [Bool.or_eq_true, Bool.and_eq_true]
  refine .inl ⟨?_, decide_eq_true (by rw [List.length_map]; omega)⟩
  simp [List.all_map, leafD]
theorem str_inj (x y : List Nat) (h : D.str x = D.str y) : x = y := by cases h; rfl
/-- the texts of a set, in order -/
def ss (l : List (List Nat)) : List (List Nat) := (du l).mergeSort fun a b => decide (a ≤ b)
theorem sset_strs (l : List (List Nat)) : (dd (l.map .str)).mergeSort dle = (ss l).map .str := by
  rw [dd_map str_inj]
  unfold ss
  rw [List.map_mergeSort]
  intro a _ b _
  exact (dle_str a b).symm
theorem ss_len (l : List (List Nat)) : (ss l).length = (du l).length := (List.mergeSort_perm _ _).length_eq
theorem ss_mem {l : List (List Nat)} {x : List Nat} : x ∈ ss l ↔ x ∈ l := (List.mergeSort_perm _ _).mem_iff.trans mem_du
theorem sset_ok {l : List (List Nat)} (h : l.length < 4095) : (hashable (l.map .str) && sortableD (dd (l.map .str))) = true := by
  rw [hash_strs h, dd_map str_inj, sortable_strs]; rfl
/-! ### the least of texts -/
theorem fold_least : ∀ (xs : List (List Nat)) (x : List Nat), ∃ m, (xs.map D.str).foldl (fun a y => if dlt y a = true then y else a) (.str x) = .str m ∧ m ∈ x :: xs ∧ ∀ y ∈ x :: xs, ¬ y < m
  | [], x => ⟨x, rfl, by simp, fun y hy => by rw [List.mem_singleton.mp hy]; exact List.lt_irrefl x⟩
  | y :: xs, x => by
    rw [List.map_cons, List.foldl_cons, dlt_str]
    by_cases h : y < x
    · rw [if_pos (decide_eq_true h)]
      obtain ⟨m, e, hm, hl⟩ := fold_least xs y
      refine ⟨m, e, List.mem_cons_of_mem _ hm, fun z hz => ?_⟩
      rcases List.mem_cons.mp hz with rfl | hz
      · exact lt_tr (hl y (List.mem_cons_self ..)) (List.not_lt.mpr (List.le_of_lt h))
      · exact hl z hz
    · rw [if_neg (by rw [decide_eq_true_eq]; exact h)]
      obtain ⟨m, e, hm, hl⟩ := fold_least xs x
      refine ⟨m, e, ?_, fun z hz => ?_⟩
      · rcases List.mem_cons.mp hm with rfl | hm
        · exact List.mem_cons_self ..
        · exact List.mem_cons_of_mem _ (List.mem_cons_of_mem _ hm)
      · rcases List.mem_cons.mp hz with rfl | hz
        · exact hl z (List.mem_cons_self ..)
        · rcases List.mem_cons.mp hz with rfl | hz
          · exact lt_tr (hl x (List.mem_cons_self ..)) h
          · exact hl z (List.mem_cons_of_mem _ hz)
theorem min_strs {l : List (List Nat)} (h : l ≠ []) : ∃ m, b1 .min (.lst (l.map .str)) = some (.d (.str m)) ∧ m ∈ l ∧ ∀ y ∈ l, ¬ y < m := by
  cases l with
  | nil => exact absurd rfl h
  | cons x xs =>
    obtain ⟨m, e, h1, h2⟩ := fold_least xs x
    refine ⟨m, ?_, h1, h2⟩
    have e1 : b1 .min (.lst ((x :: xs).map .str)) = (if alikeD ((x :: xs).map D.str) = true then some ((xs.map D.str).foldl (fun a y => if dlt y a = true then y else a) (.str x)) else none).map Val.d := rfl
    rw [e1, if_pos (alike_strs _ fun _ _ => trivial), e]; rfl
/-- the best pair so far -/
theorem fold_pairs (f : Nat → List Nat) (n : Nat) : ∃ j, j ≤ n ∧ (((List.range n).map (1 + ·)).map fun i => D.tup [.str (f i), .int (i : Int)]).foldl (fun a y => if dlt y a = true then y else a) (.tup [.str (f 0), .int ((0 : Nat) : Int)]) = .tup [.str (f j), .int (j : Int)] ∧ (∀ i, i ≤ n → ¬ f i < f j) ∧ ∀ i, i < j → f i ≠ f j := by
  induction n with
  | zero => exact ⟨0, Nat.le_refl _, rfl, fun i hi => by rw [show i = 0 by omega]; exact List.lt_irrefl _, fun i hi => absurd hi (Nat.not_lt_zero i)⟩
  | succ n ih =>
    obtain ⟨j, j1, e, hl, hf⟩ := ih
    rw [List.range_succ, List.map_append, List.map_append, List.foldl_append, e]
    have e2 : (([n].map (1 + ·)).map fun i => D.tup [.str (f i), .int (i : Int)]).foldl (fun a y => if dlt y a = true then y else a) (.tup [.str (f j), .int (j : Int)]) = if dlt (.tup [.str (f (1 + n)), .int ((1 + n : Nat) : Int)]) (.tup [.str (f j), .int (j : Int)]) = true then .tup [.str (f (1 + n)), .int ((1 + n : Nat) : Int)] else .tup [.str (f j), .int (j : Int)] := rfl
    rw [e2, dlt_si]
    by_cases h : f (1 + n) < f j
    · refine ⟨1 + n, by omega, by rw [if_pos (decide_eq_true (.inl h))], fun i hi => ?_, fun i hi q => ?_⟩
      · by_cases q : i = 1 + n
        · rw [q]; exact List.lt_irrefl _
        · exact lt_tr (List.not_lt.mpr (List.le_of_lt h)) (hl i (by omega))
      · exact hl i (by omega) (q ▸ h)
    · refine ⟨j, by omega, ?_, fun i hi => ?_, hf⟩
      · rw [if_neg]
        rw [decide_eq_true_eq]
        rintro (q | q)
        · exact h q
        · omega
      · by_cases q : i = 1 + n
        · rw [q]; exact h
        · exact hl i (by omega)
theorem min_pairs (f : Nat → List Nat) {n : Nat} (h : 0 < n) : ∃ j, j < n ∧ b1 .min (.lst ((List.range n).map fun i => .tup [.str (f i), .int (i : Int)])) = some (.d (.tup [.str (f j), .int (j : Int)])) ∧ (∀ i, i < n → ¬ f i < f j) ∧ ∀ i, i < j → f i ≠ f j := by
  obtain ⟨n, rfl⟩ : ∃ m, n = m + 1 := ⟨n - 1, by omega⟩
  obtain ⟨j, j1, e, hl, hf⟩ := fold_pairs f n
  refine ⟨j, by omega, ?_, fun i hi => hl i (by omega), hf⟩
  have er : List.range (n + 1) = 0 :: (List.range n).map (1 + ·) := by
    rw [List.range_succ_eq_map]
    congr 1
    exact List.map_congr_left fun i _ => by rw [Nat.add_comm]
  have al := alike_si f (fun i => (i : Int)) (List.range (n + 1))
  rw [er] at al ⊢
  rw [List.map_cons] at al ⊢
  have e1 : b1 .min (.lst (D.tup [.str (f 0), .int ((0 : Nat) : Int)] :: ((List.range n).map (1 + ·)).map fun i => D.tup [.str (f i), .int (i : Int)])) = (if alikeD (D.tup [.str (f 0), .int ((0 : Nat) : Int)] :: ((List.range n).map (1 + ·)).map fun i => D.tup [.str (f i), .int (i : Int)]) = true then some ((((List.range n).map (1 + ·)).map fun i => D.tup [.str (f i), .int (i : Int)]).foldl (fun a y => if dlt y a = true then y else a) (.tup [.str (f 0), .int ((0 : Nat) : Int)])) else none).map Val.d := rfl
  rw [e1, if_pos al, e]; rfl
/-! ### turns -/
def tb (w : List Nat) (i : Nat) : List Nat := w.drop i ++ w.take i
section
variable {w u : List Nat} {i j k : Nat}
theorem tb_len : (tb w i).length = w.length := by unfold tb; rw [List.length_append, List.length_drop, List.length_take]; omega
theorem tb_0 : tb w 0 = w := by unfold tb; simp
theorem tb_n : tb w w.length = w := by unfold tb; simp
theorem tb_get (hi : i ≤ w.length) (hk : k < w.length) : (tb w i)[k]? = w[(i + k) % w.length]? := by
  unfold tb
  by_cases h : i + k < w.length
  · rw [List.getElem?_append_left (by rw [List.length_drop]; omega), List.getElem?_drop, Nat.mod_eq_of_lt h]
  · rw [List.getElem?_append_right (by rw [List.length_drop]; omega), List.length_drop, List.getElem?_take_of_lt (by omega), Nat.mod_eq_sub_mod (by omega), Nat.mod_eq_of_lt (by omega)]
    congr 1; omega
theorem ext_n {a b : List Nat} {n : Nat} (ha : a.length = n) (hb : b.length = n) (h : ∀ k, k < n → a[k]? = b[k]?) : a = b := by
  refine List.ext_getElem? fun k => ?_
  by_cases q : k < n
  · exact h k q
  · rw [List.getElem?_eq_none (by omega), List.getElem?_eq_none (by omega)]
theorem tb_tb (hi : i ≤ w.length) (hj : j ≤ w.length) (h0 : 0 < w.length) : tb (tb w i) j = tb w ((i + j) % w.length) := by
  have hm := Nat.mod_lt (i + j) h0
  refine ext_n (n := w.length) (by rw [tb_len, tb_len]) tb_len fun k hk => ?_
  have hm2 := Nat.mod_lt (j + k) h0
  rw [tb_get (by rw [tb_len]; exact hj) (by rw [tb_len]; exact hk), tb_len, tb_get hi hm2, tb_get (by omega) hk]
  rw [Nat.add_mod_mod, Nat.mod_add_mod, Nat.add_assoc]
theorem tb_back (hi : i ≤ w.length) : tb (tb w i) (w.length - i) = w := by
  by_cases h0 : 0 < w.length
  · rw [tb_tb hi (Nat.sub_le _ _) h0, show i + (w.length - i) = w.length by omega, Nat.mod_self, tb_0]
  · have : w = [] := List.length_eq_zero_iff.mp (by omega)
    subst this; unfold tb; simp
/-- all turns -/
def ev_ (w : List Nat) : List (List Nat) := (List.range w.length).map (tb w)
theorem mem_ev : u ∈ ev_ w ↔ ∃ i, i < w.length ∧ tb w i = u := by
  unfold ev_
  rw [List.mem_map]
  exact ⟨fun ⟨i, h, e⟩ => ⟨i, List.mem_range.mp h, e⟩, fun ⟨i, h, e⟩ => ⟨i, List.mem_range.mpr h, e⟩⟩
theorem ev_len : (ev_ w).length = w.length := by unfold ev_; rw [List.length_map, List.length_range]
/-! ### the least turn -/
theorem li_ex (h : w ≠ []) : ∃ j, j < w.length ∧ b1 .min (.lst ((List.range w.length).map fun i => .tup [.str (tb w i), .int (i : Int)])) = some (.d (.tup [.str (tb w j), .int (j : Int)])) ∧ (∀ i, i < w.length → ¬ tb w i < tb w j) ∧ ∀ i, i < j → tb w i ≠ tb w j := min_pairs (tb w) (List.length_pos_iff.mpr h)
open Classical in
noncomputable def li (w : List Nat) : Nat := if h : w ≠ [] then (li_ex h).choose else 0
theorem li_spec (h : w ≠ []) : li w < w.length ∧ b1 .min (.lst ((List.range w.length).map fun i => .tup [.str (tb w i), .int (i : Int)])) = some (.d (.tup [.str (tb w (li w)), .int (li w : Int)])) ∧ (∀ i, i < w.length → ¬ tb w i < tb w (li w)) ∧ ∀ i, i < li w → tb w i ≠ tb w (li w) := by
  have e : li w = (li_ex h).choose := by unfold li; rw [dif_pos h]
  rw [e]; exact (li_ex h).choose_spec
noncomputable def lw (w : List Nat) : List Nat := tb w (li w)
theorem min_ev (h : w ≠ []) : b1 .min (.lst ((ev_ w).map .str)) = some (.d (.str (lw w))) := by
  obtain ⟨l1, _, l2, _⟩ := li_spec h
  obtain ⟨m, e, hm, hl⟩ := min_strs (l := ev_ w) (fun q => by have := congrArg List.length q; rw [ev_len] at this; exact h (List.length_eq_zero_iff.mp this))
  obtain ⟨i, hi, rfl⟩ := mem_ev.mp hm
  rw [e]
  have : tb w i = lw w := lt_or (l2 i hi) (hl _ (mem_ev.mpr ⟨_, l1, rfl⟩))
  rw [this]
theorem lw_turn (h : w ≠ []) (hi : i ≤ w.length) : lw (tb w i) = lw w := by
  have h0 := List.length_pos_iff.mpr h
  have h' : tb w i ≠ [] := fun q => by have := congrArg List.length q; rw [tb_len, List.length_nil] at this; omega
  obtain ⟨a1, _, a2, _⟩ := li_spec h
  obtain ⟨b1, _, b2, _⟩ := li_spec h'
  rw [tb_len] at b1 b2
  refine lt_or ?_ ?_
  · unfold lw
    rw [tb_tb hi (by omega) h0]
    exact a2 _ (Nat.mod_lt _ h0)
  · unfold lw
    have e : tb w (li w) = tb (tb w i) (((w.length - i) + li w) % w.length) := by
      rw [tb_tb hi (Nat.le_of_lt (Nat.mod_lt _ h0)) h0, Nat.add_mod_mod, show i + (w.length - i + li w) = w.length + li w by omega, Nat.add_mod_left, Nat.mod_eq_of_lt a1]
    rw [e]
    exact b2 _ (Nat.mod_lt _ h0)
theorem lw_iff (h : w ≠ []) (hu : u.length = w.length) : u ∈ ev_ w ↔ lw u = lw w := by
  have h0 := List.length_pos_iff.mpr h
  have hu0 : u ≠ [] := fun q => by rw [q, List.length_nil] at hu; omega
  constructor
  · intro q
    obtain ⟨i, hi, rfl⟩ := mem_ev.mp q
    exact lw_turn h (Nat.le_of_lt hi)
  · intro q
    obtain ⟨a1, _⟩ := li_spec h
    obtain ⟨b1, _⟩ := li_spec hu0
    have e : u = tb w ((li w + (u.length - li u)) % w.length) := by
      have := tb_back (w := u) (i := li u) (Nat.le_of_lt b1)
      rw [show tb u (li u) = tb w (li w) from q, tb_tb (Nat.le_of_lt a1) (by omega) h0] at this
      exact this.symm
    rw [e]
    exact mem_ev.mpr ⟨_, Nat.mod_lt _ h0, rfl⟩
/-! ### how many there are -/
theorem tb_mod (h : w ≠ []) (hi : i ≤ w.length) : tb w i = tb w (i % sz w) := by
  obtain ⟨s0, s1, s2, _⟩ := sz_spec h
  have hp := rt_pow h
  have hm := ((good_iff s0).mp s2).1
  have hms : i % sz w < sz w := Nat.mod_lt _ s0
  have h0 := List.length_pos_iff.mpr h
  have dm := Nat.div_mul_cancel (Nat.dvd_of_mod_eq_zero hm)
  have gw : ∀ k, k < w.length → w[k]? = (rt w)[k % sz w]? := fun k hk => by
    have := pw_get (rt w) (w.length / sz w) k (by rw [rt_len h, dm]; exact hk)
    rw [← hp, rt_len h] at this
    exact this
  refine ext_n (n := w.length) tb_len tb_len fun k hk => ?_
  rw [tb_get hi hk, tb_get (by omega) hk, gw _ (Nat.mod_lt _ h0), gw _ (Nat.mod_lt _ h0), Nat.mod_mod_of_dvd _ (Nat.dvd_of_mod_eq_zero hm), Nat.mod_mod_of_dvd _ (Nat.dvd_of_mod_eq_zero hm), Nat.mod_add_mod]
theorem tb_ne (h : w ≠ []) (hij : i < j) (hj : j < sz w) : tb w i ≠ tb w j := by
  intro q
  obtain ⟨s0, s1, s2, s3⟩ := sz_spec h
  have h0 := List.length_pos_iff.mpr h
  have hd : tb w (j - i) = w := by
    have e : tb (tb w i) (w.length - i) = tb (tb w j) (w.length - i) := by rw [q]
    rw [tb_back (by omega), tb_tb (by omega) (by omega) h0, show j + (w.length - i) = w.length + (j - i) by omega, Nat.add_mod_left, Nat.mod_eq_of_lt (by omega)] at e
    exact e.symm
  obtain ⟨d, hdd⟩ : ∃ d, d = j - i := ⟨_, rfl⟩
  rw [← hdd] at hd
  have hc : w.take d ++ w.drop d = w.drop d ++ w.take d := by rw [List.take_append_drop]; exact hd.symm
  have hu : w.take d ≠ [] := fun q => by have := congrArg List.length q; rw [List.length_take, List.length_nil] at this; omega
  have hv : w.drop d ≠ [] := fun q => by have := congrArg List.length q; rw [List.length_drop, List.length_nil] at this; omega
  have er := (pt_rt hu hv).mp (pt_none.mpr hc)
  have e1 : w = pw (rt (w.take d)) ((w.take d).length / sz (w.take d) + (w.drop d).length / sz (w.drop d)) := by
    rw [← pw_app]
    have a := rt_pow hu
    have b := rt_pow hv
    rw [← er] at b
    rw [← a, ← b, List.take_append_drop]
  have hk : 0 < (w.take d).length / sz (w.take d) + (w.drop d).length / sz (w.drop d) := by
    obtain ⟨t0, t1, _⟩ := sz_spec hu
    exact Nat.add_pos_left (Nat.div_pos t1 t0) _
  have e2 := sz_pw (rt_ne hu) hk
  rw [← e1] at e2
  have l1 := rt_len hu
  have l2 := (sz_spec hu).2.1
  have l3 := (sz_spec (rt_ne hu)).2.1
  rw [List.length_take] at l2
  omega
theorem ev_many (h : w ≠ []) : (du (ev_ w)).length = sz w := by
  obtain ⟨s0, s1, _, _⟩ := sz_spec h
  have nd : ((List.range (sz w)).map (tb w)).Nodup := by
    show List.Pairwise _ _
    rw [List.pairwise_map]
    refine List.Pairwise.imp_of_mem (fun {i j} hi hj c => ?_) List.pairwise_lt_range
    exact tb_ne h c (List.mem_range.mp hj)
  have pm : (du (ev_ w)).Perm ((List.range (sz w)).map (tb w)) := by
    rw [List.perm_ext_iff_of_nodup (nodup_du _) nd]
    intro a
    rw [mem_du, mem_ev, List.mem_map]
    constructor
    · rintro ⟨i, hi, rfl⟩
      exact ⟨i % sz w, List.mem_range.mpr (Nat.mod_lt _ s0), (tb_mod h (Nat.le_of_lt hi)).symm⟩
    · rintro ⟨i, hi, rfl⟩
      exact ⟨i, Nat.lt_of_lt_of_le (List.mem_range.mp hi) s1, rfl⟩
  rw [pm.length_eq, List.length_map, List.length_range]
/-! ### which turn -/
def ft (w u : List Nat) : Option Nat := (List.range w.length).find? fun i => decide (tb w i = u)
theorem ft_none : ft w u = none ↔ u ∉ ev_ w := by
  unfold ft
  rw [List.find?_eq_none, mem_ev]
  constructor
  · rintro h ⟨i, hi, e⟩
    exact h i (List.mem_range.mpr hi) (decide_eq_true e)
  · intro h i hi q
    exact h ⟨i, List.mem_range.mp hi, of_decide_eq_true q⟩
theorem find_ix {α : Type} (p : α → Bool) : ∀ (l : List α) , l.findIdx? p = (List.range l.length).find? fun i => (l[i]?.map p).getD false
  | [] => rfl
  | x :: l => by
    rw [List.findIdx?_cons, List.length_cons, List.range_succ_eq_map, List.find?_cons]
    show _ = match p x with
      | true => some 0
      | false => _
    cases p x with
    | true => rfl
    | false =>
      rw [find_ix p l, List.find?_map]
      show Option.map _ _ = Option.map _ _
      rfl
theorem ix_ev (w u : List Nat) : ((ev_ w).map D.str).findIdx? (fun z => D.eqv z (.str u)) = ft w u := by
  rw [find_ix]
  unfold ft
  rw [List.length_map, ev_len]
  have : ∀ l : List Nat, (∀ i ∈ l, i < w.length) → (l.find? fun i => ((((ev_ w).map D.str)[i]?).map fun z => D.eqv z (.str u)).getD false) = l.find? fun i => decide (tb w i = u) := by
    intro l
    induction l with
    | nil => intro _; rfl
    | cons i l ih =>
      intro hl
      have hi := hl i (List.mem_cons_self ..)
      rw [List.find?_cons, List.find?_cons, ih fun j hj => hl j (List.mem_cons_of_mem _ hj)]
      have e : ((((ev_ w).map D.str)[i]?).map fun z => D.eqv z (.str u)).getD false = decide (tb w i = u) := by
        unfold ev_
        rw [List.map_map, List.getElem?_map, List.getElem?_range hi]
        exact eqv_str
      rw [e]
  exact this _ fun i hi => List.mem_range.mp hi
theorem in_ev (w u : List Nat) : (((ev_ w).map D.str).any fun z => D.eqv z (.str u)) = (ft w u).isSome := by
  rw [Bool.eq_iff_iff, List.any_eq_true, Option.isSome_iff_ne_none, Ne, ft_none, Classical.not_not]
  constructor
  · rintro ⟨z, hz, e⟩
    obtain ⟨v, hv, rfl⟩ := List.mem_map.mp hz
    have : v = u := by rw [show D.eqv (.str v) (.str u) = decide (v = u) from eqv_str] at e; exact of_decide_eq_true e
    exact this ▸ hv
  · intro h
    exact ⟨.str u, List.mem_map.mpr ⟨u, h, rfl⟩, by rw [show D.eqv (.str u) (.str u) = decide (u = u) from eqv_str]; exact decide_eq_true rfl⟩
theorem ft_li (h : w ≠ []) : ft w (lw w) = some (li w) := by
  obtain ⟨l1, _, _, l3⟩ := li_spec h
  unfold ft
  rw [List.find?_range_eq_some]
  exact ⟨decide_eq_true rfl, List.mem_range.mpr l1, fun j hj => by unfold lw; rw [decide_eq_false (l3 j hj)]; rfl⟩
/-! ### two mirrors -/
def mir (w : List Nat) (i : Nat) : Bool := decide ((w.take i).reverse = w.take i) && decide ((w.drop i).reverse = w.drop i)
def fm (w : List Nat) : Option Nat := (List.range (w.length + 1)).find? (mir w)
theorem mir_iff (hi : i ≤ w.length) : mir w i = true ↔ tb w i = w.reverse := by
  unfold mir tb
  rw [Bool.and_eq_true, decide_eq_true_eq, decide_eq_true_eq]
  have e : w.reverse = (w.drop i).reverse ++ (w.take i).reverse := by rw [← List.reverse_append, List.take_append_drop]
  rw [e]
  constructor
  · rintro ⟨h1, h2⟩; rw [h1, h2]
  · intro h
    have := List.append_inj h (by rw [List.length_reverse])
    exact ⟨this.2.symm, this.1.symm⟩
/-- the turns that the law has -/
def ev1 (w : List Nat) : List (List Nat) := (List.range (max 1 w.length)).map (tb w)
theorem fm_some : (fm w).isSome = decide (w.reverse ∈ ev1 w) := by
  rw [Bool.eq_iff_iff, decide_eq_true_eq, Option.isSome_iff_ne_none]
  unfold fm ev1
  rw [Ne, List.find?_eq_none, List.mem_map]
  constructor
  · intro h
    refine Classical.byContradiction fun q => h fun i hi z => q ?_
    have hi := List.mem_range.mp hi
    have e := (mir_iff (by omega)).mp z
    by_cases c : i < max 1 w.length
    · exact ⟨i, List.mem_range.mpr c, e⟩
    · refine ⟨0, List.mem_range.mpr (by omega), ?_⟩
      rw [show i = w.length by omega, tb_n] at e
      rw [tb_0]; exact e
  · rintro ⟨i, hi, e⟩ h
    have hi := List.mem_range.mp hi
    by_cases c : i ≤ w.length
    · exact h i (List.mem_range.mpr (by omega)) ((mir_iff c).mpr e)
    · exfalso; omega
end
end Pu.Tn

set_option Elab.async false
set_option maxRecDepth 100000
set_option maxHeartbeats 2000000
/-! Streams: first letters for ever a round; stretches of a word: plain facts. -/
namespace Pu.Stm
open Pu.Fw Pu.Tn
/-! ### stretches -/
def stl (w : List Nat) (m : Nat) : List (List Nat) := (List.range (w.length + 1 - m)).map fun i => (w.take (i + m)).drop i
section
variable {w : List Nat} {m i j : Nat}
theorem stl_len : (stl w m).length = w.length + 1 - m := by unfold stl; rw [List.length_map, List.length_range]
theorem stl_m {s : List Nat} (h : s ∈ stl w m) : s.length = m := by
  obtain ⟨i, hi, rfl⟩ := List.mem_map.mp h
  have := List.mem_range.mp hi
  rw [List.length_drop, List.length_take]; omega
theorem stl_get (k : Nat) (hk : k < m) (h : i + m ≤ w.length) : ((w.take (i + m)).drop i)[k]? = w[i + k]? := by
  rw [List.getElem?_drop, List.getElem?_take_of_lt (by omega)]
theorem du_sub {α : Type} [DecidableEq α] : ∀ l : List α, (du l).Sublist l
  | [] => List.Sublist.refl _
  | x :: l => by
    rw [du]
    exact ((List.filter_sublist).trans (du_sub l)).cons₂ x
theorem du_full {α : Type} [DecidableEq α] {l : List α} (h : (du l).length = l.length) : l.Nodup := by
  have := (du_sub l).eq_of_length h
  rw [← this]; exact nodup_du l
theorem du_of_nodup {α : Type} [DecidableEq α] {l : List α} (h : l.Nodup) : (du l).length = l.length :=
  ((List.perm_ext_iff_of_nodup (nodup_du l) h).mpr fun _ => mem_du).length_eq
/-- all unlike, so are the longer ones -/
theorem full_next (hm : m < w.length) (h : (du (stl w m)).length = w.length + 1 - m) : (du (stl w (m + 1))).length = w.length - m := by
  have nd : (stl w m).Nodup := du_full (by rw [h, stl_len])
  have : (stl w (m + 1)).Nodup := by
    unfold stl
    show List.Pairwise _ _
    rw [List.pairwise_map]
    refine List.Pairwise.imp_of_mem (fun {i j} hi hj c q => ?_) List.pairwise_lt_range
    have hi := List.mem_range.mp hi
    have hj := List.mem_range.mp hj
    have nd2 : List.Pairwise (fun i j => (w.take (i + m)).drop i ≠ (w.take (j + m)).drop j) (List.range (w.length + 1 - m)) := by
      have := nd
      unfold stl at this
      exact List.pairwise_map.mp this
    have e : (w.take (i + m)).drop i = (w.take (j + m)).drop j := by
      refine ext_n (n := m) (by rw [List.length_drop, List.length_take]; omega) (by rw [List.length_drop, List.length_take]; omega) fun k hk => ?_
      have this : ((w.take (i + (m + 1))).drop i)[k]? = ((w.take (j + (m + 1))).drop j)[k]? := by rw [q]
      rw [stl_get k (by omega) (by omega), stl_get k (by omega) (by omega)] at this
      rw [stl_get k hk (by omega), stl_get k hk (by omega), this]
    have := List.pairwise_iff_getElem.mp nd2 i j (by rw [List.length_range]; omega) (by rw [List.length_range]; omega) c
    rw [List.getElem_range, List.getElem_range] at this
    exact this e
  rw [du_of_nodup this, stl_len]; omega
theorem ss_of {l f : List (List Nat)} (hn : f.Nodup) (hm : ∀ x, x ∈ f ↔ x ∈ l) : f.mergeSort (fun a b => decide (a ≤ b)) = ss l := by
  unfold ss
  have tr : ∀ a b c : List Nat, decide (a ≤ b) = true → decide (b ≤ c) = true → decide (a ≤ c) = true := fun a b c h1 h2 => decide_eq_true (List.le_trans (of_decide_eq_true h1) (of_decide_eq_true h2))
  have tt : ∀ a b : List Nat, (decide (a ≤ b) || decide (b ≤ a)) = true := fun a b => by
    rw [Bool.or_eq_true, decide_eq_true_eq, decide_eq_true_eq]; exact List.le_total a b
  have pm : f.Perm (du l) := (List.perm_ext_iff_of_nodup hn (nodup_du l)).mpr fun x => (hm x).trans mem_du.symm
  exact List.Perm.eq_of_pairwise (le := fun a b : List Nat => decide (a ≤ b) = true) (fun a b _ _ h1 h2 => List.le_antisymm (of_decide_eq_true h1) (of_decide_eq_true h2)) (List.pairwise_mergeSort tr tt f) (List.pairwise_mergeSort tr tt (du l)) (((List.mergeSort_perm _ _).trans pm).trans (List.mergeSort_perm _ _).symm)
end
/-- words with their lengths, in order -/
abbrev lnw (s : List Nat) : D := .tup [.int (s.length : Int), .str s]
theorem dle_lnw (x y : List Nat) (h : x.length = y.length) : dle (lnw x) (lnw y) = decide (x ≤ y) := by
  have e : dle (lnw x) (lnw y) = !dlt (lnw y) (lnw x) := rfl
  have e2 : dlt (lnw y) (lnw x) = if PySem.PyData.eqv (.int (y.length : Int)) (.int (x.length : Int)) = true then (if PySem.PyData.eqv (toPy (.str y)) (toPy (.str x)) = true then false else dlt (.str y) (.str x)) else PySem.W.dataLt (.int (y.length : Int)) (.int (x.length : Int)) :=
    PySem.W.dataLt_pair (x := .int (y.length : Int)) (y := toPy (.str y)) (x' := .int (x.length : Int)) (y' := toPy (.str x)) (by simp [PySem.W.alike]) (by simp [toPy, PySem.W.alike])
  rw [e, e2, h, if_pos (by simp [PySem.PyData.eqv]), eqv_s, dlt_str]
  by_cases q : y = x
  · subst q
    simp [List.le_refl]
  · rw [if_neg (by rw [decide_eq_true_eq]; exact q), ← decide_not]
    exact decide_eq_decide.mpr List.not_lt
theorem lnw_inj (x y : List Nat) (h : lnw x = lnw y) : x = y := D.str.inj (List.cons.inj (List.cons.inj (D.tup.inj h)).2).1
theorem sset_lnw {l : List (List Nat)} {n : Nat} (h : ∀ s ∈ l, s.length = n) : (dd (l.map lnw)).mergeSort dle = (ss l).map lnw := by
  rw [dd_map lnw_inj]
  unfold ss
  rw [List.map_mergeSort]
  intro a ha b hb
  rw [dle_lnw a b (by rw [h a (mem_du.mp ha), h b (mem_du.mp hb)])]
theorem sset_lnw_ok {l : List (List Nat)} (h : l.length < 64) : (hashable (l.map lnw) && sortableD (dd (l.map lnw))) = true := by
  rw [dd_map lnw_inj, Bool.and_eq_true]
  constructor
  · unfold hashable
    rw [Bool.or_eq_true]
    right
    rw [Bool.and_eq_true, dd_map lnw_inj, decide_eq_true_eq, List.length_map]
    exact ⟨by simp [List.all_map, flatD, leafD], Nat.lt_of_le_of_lt (du_len l) h⟩
  · unfold sortableD
    rw [Bool.and_eq_true, Bool.and_eq_true, Bool.or_eq_true]
    refine ⟨?_, .inl ?_, ?_⟩
    · simp [List.all_map, toPy, toPys, PySem.W.alike, PySem.W.alikeAll]
    · simp [List.all_map]
    · simp [List.all_map, toPy, toPys, PySem.PyData.depth, PySem.PyData.depthAll]
/-! ### the letters of a stream -/
def sv (a t : List Nat) (k : Nat) : Option Nat := if k < a.length then a[k]? else t[(k - a.length) % t.length]?
/-- the first letters -/
def pre (a t : List Nat) (n : Nat) : List Nat := (a ++ pw t (n + 1)).take n
section
variable {a t b u x y : List Nat} {n m k c : Nat}
theorem long (ht : t ≠ []) : n + 1 ≤ (n + 1) * t.length := Nat.le_mul_of_pos_right _ (List.length_pos_iff.mpr ht)
theorem app_get (h : k < a.length + m * t.length) (ht : t ≠ []) : (a ++ pw t m)[k]? = sv a t k := by
  unfold sv
  by_cases q : k < a.length
  · rw [if_pos q, List.getElem?_append_left q]
  · rw [if_neg q, List.getElem?_append_right (by omega), pw_get t m _ (by omega)]
theorem pre_len (ht : t ≠ []) : (pre a t n).length = n := by
  have := long (n := n) ht
  unfold pre
  rw [List.length_take, List.length_append, pw_len]; omega
theorem pre_get (ht : t ≠ []) (hk : k < n) : (pre a t n)[k]? = sv a t k := by
  have := long (n := n) ht
  unfold pre
  rw [List.getElem?_take_of_lt hk, app_get (by omega) ht]
theorem pre_pow (ht : t ≠ []) (h : n ≤ a.length + m * t.length) : (a ++ pw t m).take n = pre a t n := by
  refine ext_n (n := n) (by rw [List.length_take, List.length_append, pw_len]; omega) (pre_len ht) fun k hk => ?_
  rw [List.getElem?_take_of_lt hk, app_get (by omega) ht, pre_get ht hk]
theorem pre_eq (ht : t ≠ []) (hu : u ≠ []) (h : ∀ k, sv a t k = sv b u k) : pre a t n = pre b u n :=
  ext_n (pre_len ht) (pre_len hu) fun k hk => by rw [pre_get ht hk, pre_get hu hk, h]
/-! ### steps that keep a stream -/
theorem sv_per (ht : t ≠ []) (hk : a.length ≤ k) : sv a t (k + t.length) = sv a t k := by
  unfold sv
  rw [if_neg (by omega), if_neg (by omega), show k + t.length - a.length = (k - a.length) + t.length by omega, Nat.add_mod_right]
/-- a letter moved ahead, or back -/
theorem sv_move (ht : t ≠ []) (hc : t[0]? = some c) : sv (a ++ [c]) (tb t 1) k = sv a t k := by
  have h0 := List.length_pos_iff.mpr ht
  unfold sv
  rw [List.length_append, List.length_singleton, tb_len]
  by_cases q : k < a.length
  · rw [if_pos (by omega), if_pos q, List.getElem?_append_left q]
  · rw [if_neg q]
    by_cases q2 : k < a.length + 1
    · rw [if_pos q2, List.getElem?_append_right (by omega), show k - a.length = 0 by omega, Nat.zero_mod, hc]; rfl
    · rw [if_neg q2, tb_get (by omega) (Nat.mod_lt _ h0)]
      congr 1
      rw [Nat.add_mod_mod]
      congr 1; omega
theorem sv_pw (ht : t ≠ []) (hm : 0 < m) : sv a (pw t m) k = sv a t k := by
  have h0 := List.length_pos_iff.mpr ht
  unfold sv
  by_cases q : k < a.length
  · rw [if_pos q, if_pos q]
  · have hl : 0 < m * t.length := Nat.mul_pos hm h0
    rw [if_neg q, if_neg q, pw_len, pw_get t m _ (Nat.mod_lt _ hl), Nat.mod_mod_of_dvd _ ⟨m, Nat.mul_comm _ _⟩]
theorem sv_rt (ht : t ≠ []) : sv a (rt t) k = sv a t k := by
  obtain ⟨s0, s1, _⟩ := sz_spec ht
  have e := rt_pow ht
  have := sv_pw (a := a) (k := k) (rt_ne ht) (m := t.length / sz t) (Nat.div_pos s1 s0)
  rw [← e] at this
  exact this.symm
theorem sz_tb (ht : t ≠ []) (hi : n ≤ t.length) : sz (tb t n) = sz t := by
  have h0 := List.length_pos_iff.mpr ht
  have h' : tb t n ≠ [] := fun q => by have := congrArg List.length q; rw [tb_len, List.length_nil] at this; omega
  rw [← ev_many ht, ← ev_many h']
  refine ((List.perm_ext_iff_of_nodup (nodup_du _) (nodup_du _)).mpr fun v => ?_).length_eq
  rw [mem_du, mem_du]
  by_cases q : v.length = t.length
  · rw [lw_iff ht q, lw_iff h' (by rw [tb_len]; exact q), lw_turn ht hi]
  · constructor
    · intro h; obtain ⟨i, _, rfl⟩ := mem_ev.mp h
      exact absurd (by rw [tb_len, tb_len]) q
    · intro h; obtain ⟨i, _, rfl⟩ := mem_ev.mp h
      exact absurd tb_len q
/-! ### the least form -/
def rdr : List Nat → List Nat → List Nat × List Nat
  | [], r => ([], r)
  | c :: a, r => if r.getLast? = some c then rdr a (c :: r.dropLast) else (c :: a, r)
theorem back_tb {r : List Nat} (h : r.getLast? = some c) : c :: r.dropLast = tb r (r.length - 1) ∧ r ≠ [] ∧ tb (c :: r.dropLast) 1 = r := by
  have hne : r ≠ [] := fun q => by rw [q] at h; cases h
  have e : r = r.dropLast ++ [c] := by
    have := List.dropLast_concat_getLast hne
    rw [List.getLast?_eq_some_getLast hne] at h
    rw [Option.some.inj h] at this
    exact this.symm
  have l : r.dropLast.length = r.length - 1 := List.length_dropLast
  refine ⟨?_, hne, ?_⟩
  · unfold tb
    have l2 : (r.dropLast ++ [c]).length - 1 = r.dropLast.length := by simp
    conv => rhs; rw [e]
    rw [l2, List.drop_left, List.take_left]; rfl
  · unfold tb
    show r.dropLast ++ [c] = r
    exact e.symm
/-- no letter can be moved back, and the round is no power -/
structure Red (x y : List Nat) : Prop where
  ne : y ≠ []
  sz : sz y = y.length
  last : ∀ c, x.getLast? = some c → y.getLast? ≠ some c
theorem rdr_spec : ∀ (a r : List Nat), r ≠ [] → sz r = r.length → (∀ k, sv (rdr a r).1.reverse (rdr a r).2 k = sv a.reverse r k) ∧ Red (rdr a r).1.reverse (rdr a r).2 ∧ (rdr a r).1.length ≤ a.length ∧ (rdr a r).2.length = r.length ∧ (∀ d ∈ (rdr a r).1 ++ (rdr a r).2, d ∈ a ++ r)
  | [], r, hr, hs => ⟨fun k => rfl, ⟨hr, hs, fun c h => by cases h⟩, Nat.le_refl _, rfl, fun d h => h⟩
  | c :: a, r, hr, hs => by
    unfold rdr
    by_cases h : r.getLast? = some c
    · rw [if_pos h]
      obtain ⟨e1, e2, e3⟩ := back_tb h
      have ll : (c :: r.dropLast).length = r.length := by rw [e1, tb_len]
      have ss : Fw.sz (c :: r.dropLast) = (c :: r.dropLast).length := by rw [ll, ← hs]; rw [e1]; exact sz_tb e2 (by omega)
      obtain ⟨i1, i2, i3, i4, i5⟩ := rdr_spec a (c :: r.dropLast) (by simp) ss
      refine ⟨fun k => ?_, i2, Nat.le_succ_of_le i3, i4.trans ll, fun d hd => ?_⟩
      · rw [i1, List.reverse_cons]
        have := sv_move (a := a.reverse) (t := c :: r.dropLast) (c := c) (k := k) (by simp) rfl
        rw [e3] at this
        exact this.symm
      · have := i5 d hd
        rw [List.mem_append, List.mem_cons] at this
        rw [List.mem_append, List.mem_cons]
        rcases this with q | q | q
        · exact .inl (.inr q)
        · exact .inl (.inl q)
        · exact .inr (((List.dropLast_sublist r).subset q))
    · rw [if_neg h]
      refine ⟨fun k => rfl, ⟨hr, hs, fun d hd q => ?_⟩, Nat.le_refl _, rfl, fun d h => h⟩
      rw [List.reverse_cons, List.getLast?_append] at hd
      have : c = d := by simpa using hd
      rw [← this] at q
      exact h q
/-- the least form of a stream: what is ahead, the round -/
def lo (a t : List Nat) : List Nat × List Nat := ((rdr a.reverse (rt t)).1.reverse, (rdr a.reverse (rt t)).2)
theorem lo_spec (ht : t ≠ []) : (∀ k, sv (lo a t).1 (lo a t).2 k = sv a t k) ∧ Red (lo a t).1 (lo a t).2 ∧ (lo a t).1.length ≤ a.length ∧ (lo a t).2.length ≤ t.length ∧ ∀ d ∈ (lo a t).1 ++ (lo a t).2, d ∈ a ++ t := by
  have hs : sz (rt t) = (rt t).length := by
    have h1 : sz (rt t) = sz t := by
      have e := rt_pow ht
      obtain ⟨s0, s1, _⟩ := sz_spec ht
      have := sz_pw (rt_ne ht) (k := t.length / sz t) (Nat.div_pos s1 s0)
      rw [← e] at this
      exact this.symm
    rw [h1, rt_len ht]
  obtain ⟨i1, i2, i3, i4, i5⟩ := rdr_spec a.reverse (rt t) (rt_ne ht) hs
  refine ⟨fun k => ?_, i2, ?_, ?_, fun d hd => ?_⟩
  · show sv (rdr a.reverse (rt t)).1.reverse (rdr a.reverse (rt t)).2 k = _
    rw [i1, List.reverse_reverse, sv_rt ht]
  · show (rdr a.reverse (rt t)).1.reverse.length ≤ _
    rw [List.length_reverse]; rw [List.length_reverse] at i3; exact i3
  · show (rdr a.reverse (rt t)).2.length ≤ _
    rw [i4, rt_len ht]; exact (sz_spec ht).2.1
  · have := i5 d (by
      rw [List.mem_append] at hd ⊢
      exact hd.imp (fun h => List.mem_reverse.mp h) id)
    rw [List.mem_append] at this ⊢
    exact this.imp List.mem_reverse.mp List.mem_of_mem_take
/-- like from a place on by two rounds' lengths: like for ever -/
theorem like_on (ht : t ≠ []) (hu : u ≠ []) {M : Nat} (ha : a.length ≤ M) (hb : b.length ≤ M) (h : ∀ k, k < M + t.length + u.length → sv a t k = sv b u k) : ∀ k, sv a t k = sv b u k := by
  have hp := List.length_pos_iff.mpr ht
  have hq := List.length_pos_iff.mpr hu
  have pf : ∀ k, sv a t (M + (k + t.length)) = sv a t (M + k) := fun k => by rw [← Nat.add_assoc, sv_per ht (by omega)]
  have pg : ∀ k, sv b u (M + (k + u.length)) = sv b u (M + k) := fun k => by rw [← Nat.add_assoc, sv_per hu (by omega)]
  have hpd : Pd (fun k => sv a t (M + k)) (t.length + u.length) (Nat.gcd t.length u.length) := by
    refine fine_wilf (t.length + u.length) _ _ _ (Nat.le_refl _) hp hq (Nat.le_add_right _ _) (fun i hi => (pf i).symm) (fun i hi => ?_)
    show sv a t (M + i) = sv a t (M + (i + u.length))
    rw [h _ (by omega), h _ (by omega)]
    exact (pg i).symm
  have hg : 0 < Nat.gcd t.length u.length := Nat.gcd_pos_of_pos_left _ hp
  have md : ∀ (f : Nat → Option Nat) (p : Nat), 0 < p → (∀ k, f (k + p) = f k) → ∀ k, f k = f (k % p) := fun f p h0 hf k => by
    have : ∀ n r, f (r + n * p) = f r := by
      intro n
      induction n with
      | zero => intro r; rw [Nat.zero_mul]; rfl
      | succ n ih => intro r; rw [Nat.succ_mul, ← Nat.add_assoc, hf, ih]
    have e := this (k / p) (k % p)
    rw [Nat.mul_comm, Nat.mod_add_div] at e
    exact e
  have small : ∀ k, k < t.length + u.length → sv a t (M + k) = sv a t (M + k % Nat.gcd t.length u.length) := fun k hk => by
    have e := Nat.mod_add_div k (Nat.gcd t.length u.length)
    by_cases z : k / Nat.gcd t.length u.length = 0
    · rw [z, Nat.mul_zero, Nat.add_zero] at e; rw [e]
    · have := (Pd.mul hpd (k / Nat.gcd t.length u.length)) (k % Nat.gcd t.length u.length) (by rw [Nat.mul_comm, e]; exact hk)
      show _ = (fun k => sv a t (M + k)) _
      rw [this, Nat.mul_comm, e]
  intro k
  by_cases q : k < M + t.length + u.length
  · exact h k q
  · obtain ⟨j, rfl⟩ : ∃ j, k = M + j := ⟨k - M, by omega⟩
    have m1 := Nat.mod_lt j hp
    have m2 := Nat.mod_lt j hq
    have e1 : sv a t (M + j) = sv a t (M + j % Nat.gcd t.length u.length) := by
      rw [md (fun k => sv a t (M + k)) t.length hp pf j, small _ (by omega), Nat.mod_mod_of_dvd _ (Nat.gcd_dvd_left _ _)]
    have e2 : sv b u (M + j) = sv a t (M + j % Nat.gcd t.length u.length) := by
      rw [md (fun k => sv b u (M + k)) u.length hq pg j, ← h _ (by omega), small _ (by omega), Nat.mod_mod_of_dvd _ (Nat.gcd_dvd_right _ _)]
    rw [e1, e2]
/-- a round that is no power has no less period -/
theorem red_per (hx : Red x y) {M g : Nat} (hM : x.length ≤ M) (hg : 0 < g) (hd : y.length % g = 0) (h : ∀ k, sv x y (M + (k + g)) = sv x y (M + k)) : g = y.length := by
  have h0 := List.length_pos_iff.mpr hx.ne
  have hle : g ≤ y.length := Nat.le_of_dvd h0 (Nat.dvd_of_mod_eq_zero hd)
  have hr : (M - x.length) % y.length < y.length := Nat.mod_lt _ h0
  have hz : tb y ((M - x.length) % y.length) ≠ [] := fun q => by have := congrArg List.length q; rw [tb_len, List.length_nil] at this; omega
  have gz : ∀ k, k < y.length → (tb y ((M - x.length) % y.length))[k]? = sv x y (M + k) := fun k hk => by
    rw [tb_get (Nat.le_of_lt hr) hk]
    unfold sv
    rw [if_neg (by omega), Nat.mod_add_mod, show M - x.length + k = M + k - x.length by omega]
  have pd : Pd (at_ (tb y ((M - x.length) % y.length))) (tb y ((M - x.length) % y.length)).length g := fun i hi => by
    rw [tb_len] at hi
    show (tb y _)[i]? = (tb y _)[i + g]?
    rw [gz i (by omega), gz (i + g) hi, h]
  have gd : good (tb y ((M - x.length) % y.length)) g = true := (good_iff hg).mpr ⟨by rw [tb_len]; exact hd, pd⟩
  have := (sz_spec hz).2.2.2 g hg gd
  rw [sz_tb hx.ne (Nat.le_of_lt hr), hx.sz] at this
  omega
theorem red_one (hx : Red x y) (hb : Red b u) (h : ∀ k, sv x y k = sv b u k) (hl : x.length ≤ b.length) : x = b ∧ y = u := by
  have hp := List.length_pos_iff.mpr hx.ne
  have hq := List.length_pos_iff.mpr hb.ne
  have pf : ∀ k, sv x y (b.length + (k + y.length)) = sv x y (b.length + k) := fun k => by rw [← Nat.add_assoc, sv_per hx.ne (by omega)]
  have pg : ∀ k, sv x y (b.length + (k + u.length)) = sv x y (b.length + k) := fun k => by rw [h, h, ← Nat.add_assoc, sv_per hb.ne (by omega)]
  have pgcd : ∀ k, sv x y (b.length + (k + Nat.gcd y.length u.length)) = sv x y (b.length + k) := fun k => by
    have := fine_wilf (α := Option Nat) (f := fun j => sv x y (b.length + (k + j))) (y.length + u.length) y.length u.length (y.length + u.length + Nat.gcd y.length u.length) (Nat.le_refl _) hp hq (by omega) (fun i hi => by
      show sv x y (b.length + (k + i)) = sv x y (b.length + (k + (i + y.length)))
      rw [← Nat.add_assoc k i, pf]) (fun i hi => by
      show sv x y (b.length + (k + i)) = sv x y (b.length + (k + (i + u.length)))
      rw [← Nat.add_assoc k i, pg]) 0 (by omega)
    exact ((by simpa using this : sv x y (b.length + k) = sv x y (b.length + (k + Nat.gcd y.length u.length)))).symm
  have hg : 0 < Nat.gcd y.length u.length := Nat.gcd_pos_of_pos_left _ hp
  have e1 := red_per hx hl hg (Nat.mod_eq_zero_of_dvd (Nat.gcd_dvd_left _ _)) pgcd
  have e2 := red_per hb (Nat.le_refl _) hg (Nat.mod_eq_zero_of_dvd (Nat.gcd_dvd_right _ _)) fun k => by rw [← h, ← h]; exact pgcd k
  have el : x.length = b.length := by
    refine Nat.le_antisymm hl (Nat.le_of_not_lt fun q => ?_)
    have hbn : b ≠ [] := fun z => by rw [z, List.length_nil] at q; omega
    have l1 : b.getLast? = sv b u (b.length - 1) := by
      unfold sv
      rw [if_pos (by omega), List.getLast?_eq_getElem?]
    have l2 : u.getLast? = sv b u (b.length - 1 + u.length) := by
      unfold sv
      rw [if_neg (by omega), List.getLast?_eq_getElem?, show b.length - 1 + u.length - b.length = u.length - 1 by omega, Nat.mod_eq_of_lt (by omega)]
    have l3 : sv b u (b.length - 1 + u.length) = sv b u (b.length - 1) := by
      rw [← h, ← h, ← e2, e1]
      exact sv_per hx.ne (by omega)
    have : b.getLast? = some (b.getLast hbn) := List.getLast?_eq_some_getLast hbn
    exact hb.last _ this (by rw [l2, l3, ← l1]; exact this)
  refine ⟨ext_n el rfl fun k hk => ?_, ext_n (e1.symm.trans e2) rfl fun k hk => ?_⟩
  · have := h k
    unfold sv at this
    rwa [if_pos (by omega), if_pos (by omega)] at this
  · have := h (b.length + k)
    unfold sv at this
    rw [if_neg (by omega), if_neg (by omega), el, Nat.add_sub_cancel_left, Nat.mod_eq_of_lt (by omega), Nat.mod_eq_of_lt (by omega)] at this
    exact this
theorem lo_iff (ht : t ≠ []) (hu : u ≠ []) : lo a t = lo b u ↔ ∀ k, sv a t k = sv b u k := by
  obtain ⟨a1, a2, _⟩ := lo_spec (a := a) ht
  obtain ⟨b1, b2, _⟩ := lo_spec (a := b) hu
  constructor
  · intro h k
    rw [← a1, ← b1, h]
  · intro h
    have hh : ∀ k, sv (lo a t).1 (lo a t).2 k = sv (lo b u).1 (lo b u).2 k := fun k => by rw [a1, b1, h]
    rcases Nat.le_total (lo a t).1.length (lo b u).1.length with c | c
    · obtain ⟨e1, e2⟩ := red_one a2 b2 hh c
      exact Prod.ext e1 e2
    · obtain ⟨e1, e2⟩ := red_one b2 a2 (fun k => (hh k).symm) c
      exact Prod.ext e1.symm e2.symm
/-! ### where two streams part -/
def fd (f g : Nat → Option Nat) (n : Nat) : Option Nat := (List.range n).find? fun i => !decide (f i = g i)
theorem fd_some {f g : Nat → Option Nat} {i : Nat} : fd f g n = some i ↔ i < n ∧ f i ≠ g i ∧ ∀ j, j < i → f j = g j := by
  unfold fd
  rw [List.find?_range_eq_some]
  simp
  exact ⟨fun ⟨a, b, c⟩ => ⟨b, a, c⟩, fun ⟨a, b, c⟩ => ⟨b, a, c⟩⟩
theorem fd_none {f g : Nat → Option Nat} : fd f g n = none ↔ ∀ j, j < n → f j = g j := by
  unfold fd
  rw [List.find?_eq_none]
  simp
/-- by so many letters at least -/
def far (a t b u : List Nat) : Nat := max a.length b.length + t.length + u.length
theorem fd_far (ht : t ≠ []) (hu : u ≠ []) (hn : far a t b u ≤ n) : fd (sv a t) (sv b u) n = fd (sv a t) (sv b u) (far a t b u) := by
  cases e : fd (sv a t) (sv b u) (far a t b u) with
  | none =>
    have := like_on ht hu (Nat.le_max_left a.length b.length) (Nat.le_max_right a.length b.length) (fd_none.mp e)
    exact fd_none.mpr fun j _ => this j
  | some i =>
    obtain ⟨h1, h2, h3⟩ := fd_some.mp e
    exact fd_some.mpr ⟨by omega, h2, h3⟩
theorem fd_lo (ht : t ≠ []) (hu : u ≠ []) : fd (sv a t) (sv b u) (far a t b u) = none ↔ lo a t = lo b u := by
  rw [lo_iff ht hu]
  exact ⟨fun e => like_on ht hu (Nat.le_max_left a.length b.length) (Nat.le_max_right a.length b.length) (fd_none.mp e), fun h => fd_none.mpr fun j _ => h j⟩
end
end Pu.Stm

set_option Elab.async false
set_option maxRecDepth 100000
set_option maxHeartbeats 2000000
namespace Pu
open PySem L2

/-! ### how data, values, slots lie in the heap. P: what is owned by somebody (no shared data lies there) -/
section
variable (K : PySem.W.Frag) (H : Hp) (P : Addr → Prop)
mutual
inductive RD : V → D → Prop
  | non : RD .non .non
  | bl (b : Bool) : RD (.bl b) (.bl b)
  | int (i : Int) : RD (.int i) (.int i)
  | str (s : List Nat) : s.length ≤ line → s.all (fun c => decide (c < 0x110000)) = true → RD (.str ⟨s.toArray⟩) (.str s)
  | lst {a : Addr} {xs : List V} {ds : List D} : H a = some (.lst xs) → ¬ P a → RDs xs ds → RD (.ref a) (.lst ds)
  | tup {a : Addr} {xs : List V} {ds : List D} : H a = some (.tup xs) → ¬ P a → RDs xs ds → RD (.ref a) (.tup ds)
inductive RDs : List V → List D → Prop
  | nil : RDs [] []
  | cons {v : V} {vs : List V} {d : D} {ds : List D} : RD v d → RDs vs ds → RDs (v :: vs) (d :: ds)
end
/-- the script: read, never written -/
def RdL (a : Addr) (xs : List V) : Prop := (¬ P a ∧ ∃ o, H a = some (.frz o (.lst xs))) ∨
  ∃ (o : Obj) (its : Array Value) (n : Nat), K.lookup a = some o ∧ o.cls = .type "list" ∧ o.dict = none ∧ o.data = .seq its n ∧ its.size ≤ sizeLine ∧ Vals xs its.toList
mutual
inductive RV : V → Val → List Addr → Prop
  | d {v : V} {x : D} : RD H P v x → RV v (.d x) []
  | ol {a : Addr} {xs : List V} {vs : List Val} {S : List Addr} : H a = some (.lst xs) → RVs xs vs S → RV (.ref a) (.ol vs) (a :: S)
inductive RVs : List V → List Val → List Addr → Prop
  | nil : RVs [] [] []
  | cons {v : V} {vs : List V} {x : Val} {xs : List Val} {S T : List Addr} : RV v x S → RVs vs xs T → RVs (v :: vs) (x :: xs) (S ++ T)
end
inductive RS : Option V → Slot → List Addr → Prop
  | un (o : Option V) : RS o .un []
  | lo {v : V} {x : Val} {S : List Addr} : RV H P v x S → RS (some v) (.lo x) S
  | rd {a : Addr} {ns : List Int} : RdL K H P a (ns.map V.int) → RS (some (.ref a)) (.rd ns) []
inductive RE : L2.St → Env → List Addr → Prop
  | nil : RE [] [] []
  | cons {o : Option V} {σ : L2.St} {s : Slot} {ρ : Env} {S O : List Addr} : RS K H P o s S → RE σ ρ O → RE (o :: σ) (s :: ρ) (S ++ O)
/-- results of expressions -/
inductive RR (σ : L2.St) : V → R → List Addr → Prop
  | v {v : V} {x : Val} {S : List Addr} : RV H P v x S → RR σ v (.v x) S
  | pk {v : V} {i : Nat} : σ[i]? = some (some v) → RR σ v (.pk i) []
  | rd {a : Addr} {ns : List Int} : RdL K H P a (ns.map V.int) → RR σ (.ref a) (.rd ns) []
inductive RRs (σ : L2.St) : List V → List R → List Addr → Prop
  | nil : RRs σ [] [] []
  | cons {v : V} {vs : List V} {r : R} {rs : List R} {S T : List Addr} : RR K H P σ v r S → RRs σ vs rs T → RRs σ (v :: vs) (r :: rs) (S ++ T)
end

/-! ### moving to another heap -/
def Fut (H : Hp) (P : Addr → Prop) (H' : Hp) (P' : Addr → Prop) : Prop := ∀ b o, H b = some o → ¬ P b → H' b = some o ∧ ¬ P' b
section
variable {K : PySem.W.Frag} {H H' : Hp} {P P' : Addr → Prop}
mutual
theorem RD.fut (f : Fut H P H' P') : ∀ {d : D} {v : V}, RD H P v d → RD H' P' v d
  | .non, _, h => by cases h; exact .non
  | .bl b, _, h => by cases h; exact .bl b
  | .int i, _, h => by cases h; exact .int i
  | .str s, _, h => by cases h with | str _ h1 h2 => exact .str s h1 h2
  | .lst ds, _, h => by
    cases h with
    | lst h1 h2 h3 => exact .lst (f _ _ h1 h2).1 (f _ _ h1 h2).2 (RDs.fut f h3)
  | .tup ds, _, h => by
    cases h with
    | tup h1 h2 h3 => exact .tup (f _ _ h1 h2).1 (f _ _ h1 h2).2 (RDs.fut f h3)
theorem RDs.fut (f : Fut H P H' P') : ∀ {ds : List D} {vs : List V}, RDs H P vs ds → RDs H' P' vs ds
  | [], _, h => by cases h; exact .nil
  | d :: ds, _, h => by
    cases h with
    | cons h1 h2 => exact .cons (RD.fut f h1) (RDs.fut f h2)
end
theorem RdL.fut (f : Fut H P H' P') {a : Addr} {xs : List V} (h : RdL K H P a xs) : RdL K H' P' a xs := by
  rcases h with ⟨n, o, e⟩ | h
  · exact .inl ⟨(f _ _ e n).2, o, (f _ _ e n).1⟩
  · exact .inr h
mutual
theorem RV.fut (f : Fut H P H' P') : ∀ {x : Val} {v : V} {S : List Addr}, RV H P v x S → (∀ b ∈ S, ∀ o, H b = some o → H' b = some o) → RV H' P' v x S
  | .d x, _, _, h, _ => by cases h with | d h => exact .d (h.fut f)
  | .ol vs, _, _, h, k => by
    cases h with
    | ol h1 h2 => exact .ol (k _ (List.mem_cons_self ..) _ h1) (RVs.fut f h2 fun b hb => k b (List.mem_cons_of_mem _ hb))
theorem RVs.fut (f : Fut H P H' P') : ∀ {xs : List Val} {vs : List V} {S : List Addr}, RVs H P vs xs S → (∀ b ∈ S, ∀ o, H b = some o → H' b = some o) → RVs H' P' vs xs S
  | [], _, _, h, _ => by cases h; exact .nil
  | x :: xs, _, _, h, k => by
    cases h with
    | cons h1 h2 => exact .cons (RV.fut f h1 fun b hb => k b (List.mem_append_left _ hb)) (RVs.fut f h2 fun b hb => k b (List.mem_append_right _ hb))
end
theorem RS.fut (f : Fut H P H' P') {o : Option V} {s : Slot} {S : List Addr} (h : RS K H P o s S) (k : ∀ b ∈ S, ∀ o, H b = some o → H' b = some o) : RS K H' P' o s S := by
  cases h with
  | un => exact .un _
  | lo h => exact .lo (h.fut f k)
  | rd h => exact .rd (h.fut f)
theorem RE.fut (f : Fut H P H' P') : ∀ {ρ : Env} {σ : L2.St} {O : List Addr}, RE K H P σ ρ O → (∀ b ∈ O, ∀ o, H b = some o → H' b = some o) → RE K H' P' σ ρ O
  | [], _, _, h, _ => by cases h; exact .nil
  | s :: ρ, _, _, h, k => by
    cases h with
    | cons h1 h2 => exact .cons (h1.fut f fun b hb => k b (List.mem_append_left _ hb)) (RE.fut f h2 fun b hb => k b (List.mem_append_right _ hb))
theorem RR.fut (f : Fut H P H' P') {σ : L2.St} {r : R} {v : V} {S : List Addr} (h : RR K H P σ v r S) (k : ∀ b ∈ S, ∀ o, H b = some o → H' b = some o) : RR K H' P' σ v r S := by
  cases h with
  | v h => exact .v (h.fut f k)
  | pk h => exact .pk h
  | rd h => exact .rd (h.fut f)
theorem RRs.fut (f : Fut H P H' P') {σ : L2.St} : ∀ {rs : List R} {vs : List V} {S : List Addr}, RRs K H P σ vs rs S → (∀ b ∈ S, ∀ o, H b = some o → H' b = some o) → RRs K H' P' σ vs rs S
  | [], _, _, h, _ => by cases h; exact .nil
  | s :: ρ, _, _, h, k => by
    cases h with
    | cons h1 h2 => exact .cons (h1.fut f fun b hb => k b (List.mem_append_left _ hb)) (RRs.fut f h2 fun b hb => k b (List.mem_append_right _ hb))
theorem RRs.append {σ : L2.St} : ∀ {rs qs : List R} {vs us : List V} {S T : List Addr}, RRs K H P σ vs rs S → RRs K H P σ us qs T → RRs K H P σ (vs ++ us) (rs ++ qs) (S ++ T)
  | [], _, _, _, _, _, h, h' => by cases h; exact h'
  | r :: rs, qs, _, us, _, T, h, h' => by
    cases h with
    | cons h1 h2 =>
      rw [List.append_assoc]
      exact .cons h1 (RRs.append h2 h')
mutual
theorem RV.share : ∀ {x : Val} {v : V} {S : List Addr}, RV H P v x S → (∀ b, P' b → P b) → (∀ b ∈ S, ¬ P' b) → RD H P' v x.data
  | .d x, _, _, h, k, _ => by
    cases h with
    | d h => exact h.fut fun b o e n => ⟨e, fun z => n (k b z)⟩
  | .ol vs, _, _, h, k, n => by
    cases h with
    | ol h1 h2 => exact .lst h1 (n _ (List.mem_cons_self ..)) (RVs.share h2 k fun b hb => n b (List.mem_cons_of_mem _ hb))
theorem RVs.share : ∀ {xs : List Val} {vs : List V} {S : List Addr}, RVs H P vs xs S → (∀ b, P' b → P b) → (∀ b ∈ S, ¬ P' b) → RDs H P' vs (Val.datas xs)
  | [], _, _, h, _, _ => by cases h; exact .nil
  | x :: xs, _, _, h, k, n => by
    cases h with
    | cons h1 h2 => exact .cons (RV.share h1 k fun b hb => n b (List.mem_append_left _ hb)) (RVs.share h2 k fun b hb => n b (List.mem_append_right _ hb))
end
/-! ### readable data -/
mutual
theorem RD.dp : ∀ {d : D} {v : V}, RD H P v d → Dp K H v (toPy d)
  | .non, _, h => by cases h; exact .non
  | .bl b, _, h => by cases h; exact .bl b
  | .int i, _, h => by cases h; exact .int i
  | .str s, _, h => by cases h; exact .str _
  | .lst ds, _, h => by
    cases h with
    | lst h1 h2 h3 => exact .lst (SqL.of h1) (RDs.dp h3)
  | .tup ds, _, h => by
    cases h with
    | tup h1 h2 h3 => exact .tup (SqT.of h1) (RDs.dp h3)
theorem RDs.dp : ∀ {ds : List D} {vs : List V}, RDs H P vs ds → DpAll K H vs (toPys ds)
  | [], _, h => by cases h; exact .nil
  | d :: ds, _, h => by
    cases h with
    | cons h1 h2 => exact .cons (RD.dp h1) (RDs.dp h2)
end
theorem RV.dp {x : Val} {v : V} {S : List Addr} (h : RV H P v x S) : Dp K H v (toPy x.data) := (h.share (P' := fun _ => False) (fun _ z => z.elim) fun _ _ z => z).dp
theorem RdL.sq {a : Addr} {xs : List V} (h : RdL K H P a xs) : SqL K H a xs := by
  rcases h with ⟨_, o, e⟩ | h
  · exact .inl (.inr ⟨o, e⟩)
  · exact .inr h
theorem dps_ints : ∀ ns : List Int, DpAll K H (ns.map V.int) (toPys (ns.map D.int))
  | [] => .nil
  | n :: ns => .cons (.int n) (dps_ints ns)
/-! ### slots -/
theorem RE.length : ∀ {ρ : Env} {σ : L2.St} {O : List Addr}, RE K H P σ ρ O → σ.length = ρ.length
  | [], _, _, h => by cases h; rfl
  | s :: ρ, _, _, h => by
    cases h with
    | cons h1 h2 => simp [RE.length h2]
theorem RE.at {s : Slot} : ∀ {ρ : Env} {σ : L2.St} {O : List Addr} {i : Nat}, RE K H P σ ρ O → ρ[i]? = some s →
    ∃ A S B o, O = A ++ (S ++ B) ∧ σ[i]? = some o ∧ RS K H P o s S ∧ ∀ o' s' S', RS K H P o' s' S' → RE K H P (σ.set i o') (ρ.set i s') (A ++ (S' ++ B))
  | [], _, _, _, _, e => by simp at e
  | t :: ρ, _, _, 0, h, e => by
    cases h with
    | @cons o σ _ _ S O h1 h2 =>
      obtain rfl : t = s := by simpa using e
      exact ⟨[], S, O, o, rfl, rfl, h1, fun o' s' S' h' => (show RE K H P (o' :: σ) (s' :: ρ) (S' ++ O) from .cons h' h2)⟩
  | t :: ρ, _, _, i + 1, h, e => by
    cases h with
    | @cons o σ _ _ S O h1 h2 =>
      obtain ⟨A, S1, B, o1, rfl, e1, r, k⟩ := RE.at h2 (by simpa using e)
      refine ⟨S ++ A, S1, B, o1, by simp [List.append_assoc], by simpa using e1, r, fun o' s' S' h' => ?_⟩
      have q := RE.cons h1 (k o' s' S' h')
      rw [← List.append_assoc] at q
      simpa using q
end
end Pu

set_option Elab.async false
set_option maxRecDepth 100000
set_option maxHeartbeats 2000000
namespace Pu
open PySem L2

/-! ### the state ahead of an expression, and behind it -/
abbrev Pp (W : Addr → Prop) (O S : List Addr) : Addr → Prop := fun a => W a ∨ a ∈ O ∨ a ∈ S
structure Okk (K : PySem.W.Frag) (H : Hp) (W : Addr → Prop) (σ : L2.St) (ρ : Env) (O : List Addr) : Prop where
  re : RE K H (Pp W O []) σ ρ O
  nd : O.Nodup
  w : ∀ a, W a → a ∉ O ∧ H a ≠ none
  tr : ∀ a, a ∈ O → H a ≠ none
structure Post (K : PySem.W.Frag) (H : Hp) (W : Addr → Prop) (O : List Addr) (σ : L2.St) (H' : Hp) (O' S : List Addr) (vs : List V) (rs : List R) (ρ' : Env) : Prop where
  keep : ∀ b o, H b = some o → b ∉ O → H' b = some o
  new : ∀ b, b ∈ O' ∨ b ∈ S → b ∈ O ∨ H b = none
  re : RE K H' (Pp W O' S) σ ρ' O'
  rr : RRs K H' (Pp W O' S) σ vs rs S
  nd : (O' ++ S).Nodup
  tr : ∀ b, b ∈ O' ∨ b ∈ S → H' b ≠ none

theorem some_of_ne {α : Type} {o : Option α} (h : o ≠ none) : ∃ x, o = some x := by
  cases o with
  | none => exact absurd rfl h
  | some x => exact ⟨x, rfl⟩
theorem fut_same {H : Hp} {P P' : Addr → Prop} (h : ∀ b, P' b → P b) : Fut H P H P' := fun _ _ e n => ⟨e, fun z => n (h _ z)⟩

section
variable {K : PySem.W.Frag} {H H' H1 H2 : Hp} {W : Addr → Prop} {σ : L2.St} {ρ ρ' ρ1 ρ2 : Env} {O O' O1 O2 S S1 S2 : List Addr} {vs us : List V} {rs qs : List R}
theorem Okk.refl (ok : Okk K H W σ ρ O) : Post K H W O σ H O [] [] [] ρ where
  keep := fun _ _ e _ => e
  new := fun b h => h.elim (fun z => .inl z) fun z => nomatch z
  re := ok.re
  rr := .nil
  nd := by simpa using ok.nd
  tr := fun b h => h.elim (ok.tr b) fun z => nomatch z
theorem Post.wkeep (p : Post K H W O σ H' O' S vs rs ρ') (ok : Okk K H W σ ρ O) {a : Addr} (h : W a) : (a ∉ O' ∧ a ∉ S) ∧ H' a ≠ none := by
  obtain ⟨n, t⟩ := ok.w a h
  refine ⟨⟨fun z => ?_, fun z => ?_⟩, ?_⟩
  · rcases p.new a (.inl z) with q | q
    · exact n q
    · exact t q
  · rcases p.new a (.inr z) with q | q
    · exact n q
    · exact t q
  · obtain ⟨o, e⟩ := some_of_ne t
    rw [p.keep a o e n]
    exact fun z => nomatch z
theorem Post.ok (p : Post K H W O σ H' O' S vs rs ρ') (ok : Okk K H W σ ρ O) : Okk K H' (fun a => W a ∨ a ∈ S) σ ρ' O' where
  re := p.re.fut (fut_same fun b z => by
    rcases z with (z | z) | z | z
    · exact .inl z
    · exact .inr (.inr z)
    · exact .inr (.inl z)
    · exact nomatch z) fun _ _ _ e => e
  nd := p.nd.sublist (List.sublist_append_left ..)
  w := fun a h => by
    rcases h with h | h
    · exact ⟨(p.wkeep ok h).1.1, (p.wkeep ok h).2⟩
    · exact ⟨fun z => (List.nodup_append.mp p.nd).2.2 a z a h rfl, p.tr a (.inr h)⟩
  tr := fun a h => p.tr a (.inl h)
theorem Post.disj (p : Post K H W O σ H' O' S vs rs ρ') {a : Addr} (h : a ∈ S) : a ∉ O' := fun z => (List.nodup_append.mp p.nd).2.2 a z a h rfl
theorem Post.trans (p : Post K H W O σ H1 O1 S1 vs rs ρ1) (ok : Okk K H W σ ρ O) (q : Post K H1 (fun a => W a ∨ a ∈ S1) O1 σ H2 O2 S2 us qs ρ2) :
    Post K H W O σ H2 O2 (S1 ++ S2) (vs ++ us) (rs ++ qs) ρ2 := by
  have ok1 := p.ok ok
  have none1 : ∀ b, H1 b = none → b ∈ O ∨ H b = none := fun b e => by
    by_cases h : b ∈ O
    · exact .inl h
    · cases q : H b with
      | none => exact .inr rfl
      | some o => rw [p.keep b o q h] at e; cases e
  have s2 : ∀ b, b ∈ S1 → b ∉ O2 ∧ b ∉ S2 := fun b h => (q.wkeep ok1 (.inr h)).1
  have fut1 : Fut H1 (Pp W O1 S1) H2 (Pp W O2 (S1 ++ S2)) := fun b o e n => by
    have n1 : b ∉ O1 := fun z => n (.inr (.inl z))
    refine ⟨q.keep b o e n1, fun z => ?_⟩
    rcases z with z | z | z
    · exact n (.inl z)
    · rcases q.new b (.inl z) with z | z
      · exact n1 z
      · rw [z] at e; cases e
    · rcases List.mem_append.mp z with z | z
      · exact n (.inr (.inr z))
      · rcases q.new b (.inr z) with z | z
        · exact n1 z
        · rw [z] at e; cases e
  have same2 : ∀ b, Pp W O2 (S1 ++ S2) b → Pp (fun a => W a ∨ a ∈ S1) O2 S2 b := fun b z => by
    rcases z with z | z | z
    · exact .inl (.inl z)
    · exact .inr (.inl z)
    · rcases List.mem_append.mp z with z | z
      · exact .inl (.inr z)
      · exact .inr (.inr z)
  refine ⟨fun b o e n => ?_, fun b h => ?_, q.re.fut (fut_same same2) fun _ _ _ e => e, ?_, ?_, fun b h => ?_⟩
  · refine q.keep b o (p.keep b o e n) fun z => ?_
    rcases p.new b (.inl z) with z | z
    · exact n z
    · rw [z] at e; cases e
  · have h' : (b ∈ O2 ∨ b ∈ S2) ∨ b ∈ S1 := by
      rcases h with h | h
      · exact .inl (.inl h)
      · rcases List.mem_append.mp h with h | h
        · exact .inr h
        · exact .inl (.inr h)
    rcases h' with h' | h'
    · rcases q.new b h' with z | z
      · exact p.new b (.inl z)
      · exact none1 b z
    · exact p.new b (.inr h')
  · refine RRs.append (p.rr.fut fut1 fun b hb o e => q.keep b o e (p.disj hb)) ?_
    exact q.rr.fut (fut_same same2) fun _ _ _ e => e
  · rw [← List.append_assoc]
    have h0 := List.nodup_append.mp p.nd
    have h2 := List.nodup_append.mp q.nd
    refine List.nodup_append.mpr ⟨List.nodup_append.mpr ⟨h2.1, h0.2.1, fun a ha b hb e => ?_⟩, h2.2.1, fun a ha b hb e => ?_⟩
    · subst e; exact (s2 a hb).1 ha
    · subst e
      rcases List.mem_append.mp ha with ha | ha
      · exact h2.2.2 a ha a hb rfl
      · exact (s2 a ha).2 hb
  · rcases h with h | h
    · exact q.tr b (.inl h)
    · rcases List.mem_append.mp h with h | h
      · exact (q.wkeep ok1 (.inr h)).2
      · exact q.tr b (.inr h)
/-- an operation behind the operands: objects come, the operands' own lists are let go -/
theorem Post.fin (p : Post K H W O σ H1 O1 S1 vs rs ρ1) (ok : Okk K H W σ ρ O) {z : R} {v : V} (grow : ∀ b o, H1 b = some o → H2 b = some o) (fresh : ∀ b ∈ S2, b ∈ S1 ∨ H1 b = none) (nd : S2.Nodup) (tr : ∀ b ∈ S2, H2 b ≠ none)
    (rv : RR K H2 (fun a => (W a ∨ a ∈ O1) ∨ a ∈ S2) σ v z S2) : Post K H W O σ H2 O1 S2 [v] [z] ρ1 := by
  refine ⟨fun b o e n => grow b o (p.keep b o e n), fun b h => ?_, p.re.fut (fun b o e n => ⟨grow b o e, fun z => ?_⟩) fun b hb o e => grow b o e, ?_, ?_, fun b h => ?_⟩
  · rcases h with h | h
    · exact p.new b (.inl h)
    · rcases fresh b h with f | f
      · exact p.new b (.inr f)
      · by_cases hb : b ∈ O
        · exact .inl hb
        · cases q : H b with
          | none => exact .inr rfl
          | some o =>
            have := p.keep b o q hb
            rw [f] at this; cases this
  · rcases z with z | z | z
    · exact n (.inl z)
    · exact n (.inr (.inl z))
    · rcases fresh b z with f | f
      · exact n (.inr (.inr f))
      · rw [f] at e; cases e
  · have : RRs K H2 (Pp W O1 S2) σ [v] [z] (S2 ++ []) := .cons (rv.fut (fut_same fun b h => by
      rcases h with h | h | h
      · exact .inl (.inl h)
      · exact .inl (.inr h)
      · exact .inr h) fun _ _ _ e => e) .nil
    rwa [List.append_nil] at this
  · refine List.nodup_append.mpr ⟨p.nd.sublist (List.sublist_append_left ..), nd, fun a ha b hb e => ?_⟩
    subst e
    rcases fresh a hb with f | f
    · exact p.disj f ha
    · exact p.tr a (.inl ha) f
  · rcases h with h | h
    · obtain ⟨o, e⟩ := some_of_ne (p.tr b (.inl h))
      rw [grow b o e]; exact fun z => nomatch z
    · exact tr b h
end

/-! ### readings by the evaluators -/
section
variable (K : PySem.W.Frag) (M : Mach)
def tE (A : E) : TE := fun σ H Q => ∃ W ρ O r ρ', Okk K H W σ ρ O ∧ ev M A ρ = some (r, ρ') ∧ ∀ H' O' S v, Post K H W O σ H' O' S [v] [r] ρ' → Q v H'
def tEs (A : Es) : TA := fun σ H Q => ∃ W ρ O rs ρ', Okk K H W σ ρ O ∧ evs M A ρ = some (rs, ρ') ∧ ∀ H' O' S vs, Post K H W O σ H' O' S vs rs ρ' → Q vs H'
def tT (A : T) : TT := fun σ H Q => ∃ W ρ O b ρ', Okk K H W σ ρ O ∧ evT M A ρ = some (b, ρ') ∧ ∀ H' O', Post K H W O σ H' O' [] [] [] ρ' → Q b H'
def tO (A : Eo) : TO := fun σ H Q => ∃ W ρ O b ρ', Okk K H W σ ρ O ∧ evO M A ρ = some (b, ρ') ∧ ∀ H' O', Post K H W O σ H' O' [] [] [] ρ' → Q b H'
end
theorem _root_.L2.PE.imp {X : Cx} {e : Expr} {t t' : TE} (h : PE X e t) (k : ∀ σ H Q, t' σ H Q → t σ H Q) : PE X e t' := ⟨fun pins s σ H Q I q => h.run pins s σ H Q I (k σ H Q q)⟩
theorem _root_.L2.PA.imp {X : Cx} {e : List Expr} {t t' : TA} (h : PA X e t) (k : ∀ σ H Q, t' σ H Q → t σ H Q) : PA X e t' := ⟨fun pos pins s σ H Q I q => h.run pos pins s σ H Q I (k σ H Q q)⟩
theorem _root_.L2.PT.imp {X : Cx} {e : Expr} {t t' : TT} (h : PT X e t) (k : ∀ σ H Q, t' σ H Q → t σ H Q) : PT X e t' := ⟨fun pins s σ H Q I q => h.run pins s σ H Q I (k σ H Q q)⟩
theorem _root_.L2.PW.imp {X : Cx} {e : Expr} {t t' : TT} (h : PW X e t) (k : ∀ σ H Q, t' σ H Q → t σ H Q) : PW X e t' := ⟨fun wh pins s σ H Q I q => h.run wh pins s σ H Q I (k σ H Q q)⟩
theorem _root_.L2.PO.imp {X : Cx} {e : Option Expr} {t t' : TO} (h : PO X e t) (k : ∀ σ H Q, t' σ H Q → t σ H Q) : PO X e t' := by
  obtain ⟨h⟩ := h
  exact ⟨fun pins s σ H Q I q => h pins s σ H Q I (k σ H Q q)⟩
theorem _root_.L2.PS.imp {X : Cx} {e : Stmt} {t t' : TS} (h : PS X e t) (k : ∀ D σ H, t' D σ H → t D σ H) : PS X e t' := ⟨fun pins s σ H D I q => h.run pins s σ H D I (k D σ H q)⟩
theorem _root_.L2.PSs.imp {X : Cx} {e : List Stmt} {t t' : TS} (h : PSs X e t) (k : ∀ D σ H, t' D σ H → t D σ H) : PSs X e t' := ⟨fun pins s σ H D I q => h.run pins s σ H D I (k D σ H q)⟩
end Pu

set_option Elab.async false
set_option maxRecDepth 100000
set_option maxHeartbeats 2000000
namespace Pu
open PySem L2 PyProof.Rows

/-! ### operands -/
def RF (H : Hp) (P : Addr → Prop) (v : V) : D → Prop
  | .lst ds => ∃ a xs, v = .ref a ∧ H a = some (.lst xs) ∧ RDs H P xs ds
  | x => RD H P v x
def RG (K : PySem.W.Frag) (H : Hp) (P : Addr → Prop) (v : V) : D → Prop
  | .lst ds => ∃ a xs, v = .ref a ∧ SqL K H a xs ∧ RDs H P xs ds
  | x => RD H P v x
/-- its kind; whether it is empty -/
def RN (H : Hp) (v : V) : D → Prop
  | .lst ds => ∃ a xs, v = .ref a ∧ H a = some (.lst xs) ∧ xs.length = ds.length
  | x => ∃ P, RD H P v x
/-- an operation's result z, in a heap that grew -/
def Gives (H : Hp) (P : Addr → Prop) (z : Val) (Q : VK) : Prop := ∀ (H' : Hp) (S : List Addr) (v : V), (∀ b o, H b = some o → H' b = some o) → (∀ b ∈ S, H b = none) → S.Nodup → (∀ b ∈ S, H' b ≠ none) → RV H' (fun a => P a ∨ a ∈ S) v z S → Q v H'
section
variable {K : PySem.W.Frag} {H : Hp} {P P' : Addr → Prop} {v : V} {x : D} {Q : VK} {σ : L2.St} {ρ : Env} {O S : List Addr} {r : R} {ds : List D} {xs : List V}
theorem RDs.length : ∀ {ds : List D} {vs : List V}, RDs H P vs ds → vs.length = ds.length
  | [], _, h => by cases h; rfl
  | d :: ds, _, h => by
    cases h with
    | cons _ h2 => simp [RDs.length h2]
theorem RVs.length : ∀ {xs : List Val} {vs : List V} {S : List Addr}, RVs H P vs xs S → vs.length = xs.length
  | [], _, _, h => by cases h; rfl
  | d :: ds, _, _, h => by
    cases h with
    | cons _ h2 => simp [RVs.length h2]
theorem datas_length : ∀ xs : List Val, (Val.datas xs).length = xs.length
  | [] => rfl
  | x :: xs => by simp [Val.datas, datas_length xs]
theorem datas_map : ∀ ds : List D, Val.datas (ds.map .d) = ds
  | [] => rfl
  | x :: xs => by simp [Val.datas, Val.data, datas_map xs]
theorem RD.rf (h : RD H P v x) : RF H P v x := by
  cases x with
  | lst ds => cases h with | lst h1 h2 h3 => exact ⟨_, _, rfl, h1, h3⟩
  | _ => exact h
theorem RF.rg (h : RF H P v x) : RG K H P v x := by
  cases x with
  | lst ds => obtain ⟨a, xs, e, h1, h2⟩ := h; exact ⟨a, xs, e, SqL.of h1, h2⟩
  | _ => exact h
theorem RD.rn (h : RD H P v x) : RN H v x := by
  cases x with
  | lst ds => cases h with | lst h1 h2 h3 => exact ⟨_, _, rfl, h1, h3.length⟩
  | _ => exact ⟨P, h⟩
theorem RDs.of_flat : ∀ {xs : List Val} {vs : List V} {S : List Addr}, RVs H P vs xs S → xs.all Val.isD = true → RDs H P vs (Val.datas xs)
  | [], _, _, h, _ => by cases h; exact .nil
  | .d x :: xs, _, _, h, f => by
    cases h with
    | cons h1 h2 =>
      cases h1 with
      | d h1 => exact .cons h1 (RDs.of_flat h2 (by simpa [Val.isD] using f))
  | .ol _ :: xs, _, _, h, f => by simp [Val.isD] at f
theorem RE.val (h : RE K H P σ ρ O) {i : Nat} {x : Val} (e : getS ρ i = some x) : ∃ A S B u, O = A ++ (S ++ B) ∧ σ[i]? = some (some u) ∧ RV H P u x S := by
  unfold getS at e
  split at e
  · rename_i y q
    cases e
    obtain ⟨A, S, B, o, e1, e2, r, _⟩ := h.at q
    cases r with
    | lo r => exact ⟨A, S, B, _, e1, e2, r⟩
  · cases e
theorem dat_ok (h : RE K H P σ ρ O) (r0 : RR K H P σ v r S) (e : dat ρ r = some x) : Dp K H v (toPy x) := by
  cases r0 with
  | v r0 => cases e; exact r0.dp
  | pk q =>
    simp only [dat, Option.map_eq_some_iff] at e
    obtain ⟨y, e, rfl⟩ := e
    obtain ⟨_, _, _, u, _, e2, r⟩ := h.val e
    rw [q] at e2; cases e2
    exact r.dp
  | rd q => cases e; exact .lst q.sq (dps_ints _)
theorem fdat_ok (h : RE K H P σ ρ O) (r0 : RR K H P σ v r S) (e : fdat ρ r = some x) (k : ∀ b, P' b → P b) (n : ∀ b ∈ S, ¬ P' b) : RF H P' v x := by
  cases r0 with
  | v r0 => cases e; exact (r0.share k n).rf
  | pk q =>
    simp only [fdat] at e
    split at e
    · rename_i y g
      split at e
      · rename_i f
        cases e
        obtain ⟨_, _, _, u, _, e2, r⟩ := h.val g
        rw [q] at e2; cases e2
        cases r with
        | d r => exact (r.fut (fut_same k)).rf
        | ol r1 r2 => exact ⟨_, _, rfl, r1, (RDs.of_flat r2 (by simpa [Val.flat] using f)).fut (fut_same k)⟩
      · cases e
    · cases e
  | rd q => cases e
theorem rds_ints : ∀ ns : List Int, RDs H P (ns.map V.int) (ns.map D.int)
  | [] => .nil
  | n :: ns => .cons (.int n) (rds_ints ns)
theorem gdat_ok (h : RE K H P σ ρ O) (r0 : RR K H P σ v r S) (e : gdat ρ r = some x) (k : ∀ b, P' b → P b) (n : ∀ b ∈ S, ¬ P' b) : RG K H P' v x := by
  cases r with
  | rd ns =>
    cases r0 with
    | rd q => cases e; exact ⟨_, _, rfl, q.sq, rds_ints _⟩
  | v _ => exact (fdat_ok h r0 e k n).rg
  | pk _ => exact (fdat_ok h r0 e k n).rg
theorem ndat_ok (h : RE K H P σ ρ O) (r0 : RR K H P σ v r S) (e : ndat ρ r = some x) : RN H v x := by
  have main : ∀ {y : Val} {S : List Addr}, RV H P v y S → RN H v y.data := fun {y S} q => by
    cases q with
    | d q => exact q.rn
    | ol q1 q2 => exact ⟨_, _, rfl, q1, by rw [q2.length, datas_length]⟩
  cases r0 with
  | v r0 => cases e; exact main r0
  | pk q =>
    simp only [ndat, dat, Option.map_eq_some_iff] at e
    obtain ⟨y, e, rfl⟩ := e
    obtain ⟨_, _, _, u, _, e2, r⟩ := h.val e
    rw [q] at e2; cases e2
    exact main r
  | rd q => cases e

theorem give_d (h : RD H P v x) (g : Gives H P (.d x) Q) : Q v H :=
  g H [] v (fun _ _ e => e) (fun _ z => nomatch z) List.nodup_nil (fun _ z => nomatch z) (.d (h.fut (fut_same fun b z => z.elim id fun z => nomatch z)))
theorem fut_new {p : Addr} {o : HO} (hp : H p = none) (hP : ∀ a, P a → H a ≠ none) (c : Addr → Prop) (hc : ∀ b, c b → b = p) : Fut H P (upd H p o) (fun a => P a ∨ c a) := fun b u e n => by
  have ne : b ≠ p := ne_of_none e hp
  exact ⟨by rw [upd_ne ne]; exact e, fun z => z.elim n fun z => ne (hc b z)⟩
theorem grow_new {p : Addr} {o : HO} (hp : H p = none) : ∀ b u, H b = some u → upd H p o b = some u := fun b u e => by
  rw [upd_ne (ne_of_none e hp)]; exact e
theorem RVs.of_d : ∀ {ds : List D} {vs : List V}, RDs H P vs ds → RVs H P vs (ds.map .d) []
  | [], _, h => by cases h; exact .nil
  | d :: ds, _, h => by
    cases h with
    | cons h1 h2 => exact (.cons (S := []) (.d h1) (RVs.of_d h2))
theorem give_lst (hP : ∀ a, P a → H a ≠ none) (h : RDs H P xs ds) (g : Gives H P (.ol (ds.map .d)) Q) {p : Addr} (hp : H p = none) : Q (.ref p) (upd H p (.lst xs)) := by
  refine g _ [p] _ (grow_new hp) (fun b hb => ?_) (by simp) (fun b hb => ?_) (.ol upd_same (RVs.of_d (h.fut (fut_new hp hP _ fun b z => by simpa using z))))
  · obtain rfl : b = p := by simpa using hb
    exact hp
  · obtain rfl : b = p := by simpa using hb
    rw [upd_same]; exact fun z => nomatch z
theorem give_tup (hP : ∀ a, P a → H a ≠ none) (h : RDs H P xs ds) (g : Gives H P (.d (.tup ds)) Q) {p : Addr} (hp : H p = none) : Q (.ref p) (upd H p (.tup xs)) := by
  refine g _ [] _ (grow_new hp) (fun b hb => nomatch hb) (by simp) (fun b hb => nomatch hb) (.d (.tup upd_same (fun z => ?_) ?_))
  · rcases z with z | z
    · exact hP _ z hp
    · exact nomatch z
  · exact h.fut (fut_new hp hP _ fun b z => nomatch z)
end
theorem RDs.append {H : Hp} {P : Addr → Prop} : ∀ {ds es : List D} {vs us : List V}, RDs H P vs ds → RDs H P us es → RDs H P (vs ++ us) (ds ++ es)
  | [], _, _, _, h, h' => by cases h; exact h'
  | d :: ds, _, _, _, h, h' => by
    cases h with
    | cons h1 h2 => exact .cons h1 (RDs.append h2 h')
theorem RDs.get {H : Hp} {P : Addr → Prop} : ∀ {ds : List D} {vs : List V} {i : Nat} {d : D}, RDs H P vs ds → ds[i]? = some d → ∃ v, vs[i]? = some v ∧ RD H P v d
  | [], _, _, _, _, e => by simp at e
  | d :: ds, _, 0, _, h, e => by
    cases h with
    | cons h1 h2 => simp at e; subst e; exact ⟨_, rfl, h1⟩
  | d :: ds, _, i + 1, _, h, e => by
    cases h with
    | cons h1 h2 =>
      obtain ⟨v, e1, e2⟩ := RDs.get (i := i) h2 (by simpa using e)
      exact ⟨v, by simpa using e1, e2⟩
theorem RDs.take {H : Hp} {P : Addr → Prop} : ∀ {ds : List D} {vs : List V} (n : Nat), RDs H P vs ds → RDs H P (vs.take n) (ds.take n)
  | [], _, n, h => by cases h; simp; exact .nil
  | d :: ds, _, 0, h => by simp; exact .nil
  | d :: ds, _, n + 1, h => by
    cases h with
    | cons h1 h2 => exact .cons h1 (RDs.take n h2)
theorem RDs.drop {H : Hp} {P : Addr → Prop} : ∀ {ds : List D} {vs : List V} (n : Nat), RDs H P vs ds → RDs H P (vs.drop n) (ds.drop n)
  | [], _, n, h => by cases h; simp; exact .nil
  | d :: ds, _, 0, h => h
  | d :: ds, _, n + 1, h => by
    cases h with
    | cons h1 h2 => exact RDs.drop n h2
theorem RDs.rev {H : Hp} {P : Addr → Prop} : ∀ {ds : List D} {vs : List V}, RDs H P vs ds → RDs H P vs.reverse ds.reverse
  | [], _, h => by cases h; exact .nil
  | d :: ds, _, h => by
    cases h with
    | cons h1 h2 =>
      rw [List.reverse_cons, List.reverse_cons]
      exact (RDs.rev h2).append (.cons h1 .nil)
theorem RDs.rep {H : Hp} {P : Addr → Prop} {ds : List D} {vs : List V} (h : RDs H P vs ds) : ∀ k : Nat, RDs H P (List.replicate k vs).flatten (List.replicate k ds).flatten
  | 0 => .nil
  | k + 1 => by
    rw [List.replicate_succ, List.replicate_succ, List.flatten_cons, List.flatten_cons]
    exact h.append (RDs.rep h k)
theorem line_eq : line = sizeLine := rfl
end Pu

set_option Elab.async false
set_option maxRecDepth 100000
set_option maxHeartbeats 2000000
namespace Pu
open PySem L2 PyProof.Rows

def opP : Op → Operator
  | .add => .Add | .sub => .Sub | .mul => .Mult | .fdiv => .FloorDiv | .mod => .Mod | .pow => .Pow
def rBin (o : Op) : R2 := fun x y H Q => ∃ P dx dy z, (∀ a, P a → H a ≠ none) ∧ RF H P x dx ∧ RF H P y dy ∧ binop o dx dy = some z ∧ Gives H P z Q
theorem RD.str_inv {H : Hp} {P : Addr → Prop} {v : V} {s : List Nat} (h : RD H P v (.str s)) : v = .str ⟨s.toArray⟩ ∧ s.length ≤ line ∧ s.all (fun c => decide (c < 0x110000)) = true := by
  cases h; exact ⟨rfl, by assumption, by assumption⟩
theorem RD.tup_inv {H : Hp} {P : Addr → Prop} {v : V} {ds : List D} (h : RD H P v (.tup ds)) : ∃ a xs, v = .ref a ∧ H a = some (.tup xs) ∧ ¬ P a ∧ RDs H P xs ds := by
  cases h; exact ⟨_, _, rfl, by assumption, by assumption, by assumption⟩
theorem str_cat (s t : List Nat) : (⟨s.toArray⟩ : Str) ++ ⟨t.toArray⟩ = ⟨(s ++ t).toArray⟩ := by
  show (⟨s.toArray ++ t.toArray⟩ : Str) = _
  rw [List.append_toArray]
theorem str_len (s : List Nat) : (⟨s.toArray⟩ : Str).length = s.length := by simp [Str.length]
theorem foldl_cat (a : List Nat) : ∀ (k : Nat) (acc : Array Nat), (List.replicate k a.toArray).foldl (· ++ ·) acc = acc ++ (List.replicate k a).flatten.toArray
  | 0, acc => by simp
  | k + 1, acc => by
    rw [List.replicate_succ, List.foldl_cons, foldl_cat a k, List.replicate_succ, List.flatten_cons, ← List.append_toArray, Array.append_assoc]
theorem txt_mul (s : List Nat) (k : Int) : Txt.mul ⟨s.toArray⟩ k = ⟨(List.replicate k.toNat s).flatten.toArray⟩ := by
  unfold Txt.mul
  by_cases h1 : k < 1
  · rw [if_pos h1]
    have : k.toNat = 0 := by omega
    rw [this]; rfl
  · rw [if_neg h1]
    split
    · rename_i h
      rw [str_len] at h
      rcases Bool.or_eq_true_iff.mp h with h | h
      · have : k = 1 := by simpa using h
        subst this
        simp [List.replicate_succ]
      · have : s = [] := by simpa using h
        subst this
        simp
    · rw [foldl_cat]; simp
theorem mul_str_ok {X : Cx} {pins : List (Addr × Obj)} {s : Shared} {σ : L2.St} {H : Hp} {x : List Nat} {k : Int} {v u : Value} {Q : VK} (I : Inv X pins σ H s) (rx : RelV (.str ⟨x.toArray⟩) v) (ry : RelV (.int k) u) (hz : x.length * k.toNat ≤ line) (h1 : -(2 ^ 63) ≤ k) (h2 : k < 2 ^ 63)
    (q : Q (.str ⟨(List.replicate k.toNat x).flatten.toArray⟩) H) : wpAny (model X.prog X.w) X.A (binaryOp .Mult v u) (EP X pins σ Q) X.xe s := by
  obtain ⟨t, rfl⟩ := rx
  obtain ⟨t', rfl⟩ := ry
  refine PySem.SB.mul ⟨?_, fun hk _ => ?_, fun hk _ => ?_⟩ fun t' tk => ⟨.str ⟨(List.replicate k.toNat x).flatten.toArray⟩, H, I.tok _, ⟨t', by rw [txt_mul]⟩, q⟩
  · simp only [Bool.or_eq_false_iff, decide_eq_false_iff_not]
    constructor <;> omega
  · rw [str_len]
    have hk1 : 1 ≤ k := by omega
    have : (x.length : Int) * k ≤ 16777216 := by
      have e : ((x.length * k.toNat : Nat) : Int) ≤ (line : Nat) := by exact_mod_cast hz
      have e2 : ((k.toNat : Nat) : Int) = k := Int.toNat_of_nonneg (by omega)
      rw [Int.natCast_mul, e2] at e
      exact e
    intro hg
    have h3 : (2 ^ 63 - 1) / k + 1 ≤ (x.length : Int) := hg
    have h4 : ((2 ^ 63 - 1) / k + 1) * k ≤ (x.length : Int) * k := Int.mul_le_mul_of_nonneg_right h3 (by omega)
    have h5 : (2 ^ 63 - 1 : Int) < ((2 ^ 63 - 1) / k + 1) * k := Int.lt_ediv_add_one_mul_self _ (by omega)
    omega
  · rw [str_len]
    have : x.length * k.toNat ≤ sizeLine := hz
    unfold Builtin.Str.tooLong
    simp only [decide_eq_false_iff_not]
    omega
theorem bin_ok {X : Cx} (o : Op) : OpR X (binaryOp (opP o)) (rBin o) := by
  intro pins s σ H x y v u Q I rx ry h
  obtain ⟨P, dx, dy, z, hP, fx, fy, e, g⟩ := h
  unfold binop at e
  split at e
  · cases e; cases fx; cases fy
    exact op_add pins s σ H _ _ v u Q I rx ry ⟨_, _, rfl, rfl, give_d (.int _) g⟩
  · split at e
    · rename_i hl
      cases e; obtain ⟨rfl, l1, a1⟩ := RD.str_inv fx; obtain ⟨rfl, l2, a2⟩ := RD.str_inv fy
      refine op_add_str pins s σ H _ _ v u Q I rx ry ⟨_, _, rfl, rfl, by rw [str_len, str_len]; exact hl, ?_⟩
      rw [str_cat]
      exact give_d (.str _ (by simpa using hl) (by simp only [List.all_append, a1, a2, Bool.and_self])) g
    · cases e
  · split at e
    · rename_i hl
      cases e
      obtain ⟨a, xs, rfl, h1, h2⟩ := fx
      obtain ⟨b, ys, rfl, h3, h4⟩ := fy
      exact op_cat pins s σ H _ _ v u Q I rx ry ⟨a, b, xs, ys, rfl, rfl, h1, h3, by rw [h2.length, h4.length]; exact hl, fun p hp => give_lst hP (h2.append h4) g hp⟩
    · cases e
  · split at e
    · rename_i xs ys hl
      cases e
      obtain ⟨a, us, rfl, h1, n1, h2⟩ := RD.tup_inv fx; obtain ⟨b, ws, rfl, h3, n3, h4⟩ := RD.tup_inv fy
      refine op_catA pins s σ H _ _ v u Q I rx ry ⟨a, b, us, ws, rfl, rfl, SqT.of h1, SqT.of h3, by rw [h2.length, h4.length]; exact hl, fun e => ?_, fun _ e => ?_, fun _ _ p hp => give_tup hP (h2.append h4) g hp⟩
      · subst e
        cases h2
        exact give_d (.tup h3 n3 h4) g
      · subst e
        cases h4
        rw [List.append_nil] at g
        exact give_d (.tup h1 n1 h2) g
    · cases e
  · cases e; cases fx; cases fy
    exact op_sub pins s σ H _ _ v u Q I rx ry ⟨_, _, rfl, rfl, give_d (.int _) g⟩
  · split at e
    · rename_i i j hc
      cases e; cases fx; cases fy
      simp only [Bool.or_eq_true, small64, Bool.and_eq_true, decide_eq_true_eq] at hc
      rcases hc with hc | hc | hc
      · exact op_mul pins s σ H _ _ v u Q I rx ry ⟨_, _, rfl, rfl, .inl hc, give_d (.int _) g⟩
      · exact op_mul pins s σ H _ _ v u Q I rx ry ⟨_, _, rfl, rfl, .inr hc, give_d (.int _) g⟩
      · exact op_mulW pins s σ H _ _ v u Q I rx ry ⟨_, _, rfl, rfl, hc, give_d (.int _) g⟩
    · cases e
  · split at e
    · rename_i x k hl
      cases e; obtain ⟨rfl, l1, a1⟩ := RD.str_inv fx
      cases fy
      refine mul_str_ok I rx ry hl.1 hl.2.1 hl.2.2 (give_d (.str _ ?_ ?_) g)
      · simp only [List.length_flatten, List.map_replicate, List.sum_replicate_nat]
        rw [Nat.mul_comm]; exact hl.1
      · rw [List.all_eq_true] at a1 ⊢
        intro c hc
        simp only [List.mem_flatten, List.mem_replicate] at hc
        obtain ⟨l, ⟨_, rfl⟩, hc⟩ := hc
        exact a1 c hc
    · cases e
  · split at e
    · rename_i x k hl
      cases e
      obtain ⟨a, us, rfl, h1, h2⟩ := fx
      cases fy
      exact op_rep pins s σ H _ _ v u Q I rx ry ⟨a, k, us, rfl, rfl, h1, hl.2.1, hl.2.2, by rw [h2.length]; exact hl.1, fun p hp => give_lst hP (h2.rep _) g hp⟩
    · cases e
  · split at e
    · rename_i i j hc
      cases e; cases fx; cases fy
      exact op_fdivN pins s σ H _ _ v u Q I rx ry ⟨_, _, rfl, rfl, hc, give_d (.int _) g⟩
    · cases e
  · split at e
    · rename_i i j hc
      cases e; cases fx; cases fy
      exact op_modN pins s σ H _ _ v u Q I rx ry ⟨_, _, rfl, rfl, hc, give_d (.int _) g⟩
    · cases e
  · split at e
    · rename_i i j hc
      cases e; cases fx; cases fy
      exact op_pow pins s σ H _ _ v u Q I rx ry ⟨_, _, rfl, rfl, hc, give_d (.int _) g⟩
    · cases e
  · cases e
end Pu

set_option Elab.async false
set_option maxRecDepth 100000
set_option maxHeartbeats 2000000
namespace Pu
open PySem L2 PyProof.Rows
/-! ### where a text stands in a text -/
theorem mkS_len (s : List Nat) : (mkS s).length = s.length := str_len s
theorem sub_at (s t : List Nat) (i : Nat) : Builtin.Str.subAt (mkS s) (mkS t) i = ((s.drop i).take t.length == t) := by
  unfold Builtin.Str.subAt mkS
  rw [Bool.eq_iff_iff, beq_iff_eq, beq_iff_eq, ← Array.toList_inj, Array.toList_extract]
  simp [Str.length, List.extract_eq_drop_take]
theorem occ_first (s t : Str) (hi : Nat) : ∀ (l : List Nat) (free : Nat), (∀ i ∈ l, free ≤ i) →
    (forIn l ((#[] : Array Nat), free) (StrLaws.occBody s t hi 1)).run.fst.toList = match l.find? (fun i => decide (i + t.length ≤ hi) && Builtin.Str.subAt s t i) with | some i => [i] | none => []
  | [], free, _ => by simp
  | a :: l, free, hf => by
    rw [List.forIn_cons, List.find?_cons]
    unfold StrLaws.occBody
    have ha : free ≤ a := hf a (List.mem_cons_self ..)
    by_cases hc : a + t.length ≤ hi ∧ Builtin.Str.subAt s t a = true
    · have c1 : (((#[] : Array Nat), free).fst.size < 1 ∧ ((#[] : Array Nat), free).snd ≤ a) ∧ a + t.length ≤ hi := ⟨⟨by simp, ha⟩, hc.1⟩
      rw [if_pos ⟨c1, hc.2⟩]
      have h2 : (decide (a + t.length ≤ hi) && Builtin.Str.subAt s t a) = true := by simp [hc.1, hc.2]
      rw [h2]
      have full : ∀ (l : List Nat) (b : Array Nat × Nat), b.1.size = 1 → (forIn l b (StrLaws.occBody s t hi 1)).run.fst = b.1 := by
        intro l
        induction l with
        | nil => intro b _; rfl
        | cons x l ih =>
          intro b hb
          rw [List.forIn_cons]
          unfold StrLaws.occBody
          rw [if_neg (by rw [hb]; omega)]
          exact ih _ hb
      have := full l (#[a], a + t.length) rfl
      exact congrArg Array.toList this
    · have c2 : ¬ (((((#[] : Array Nat), free).fst.size < 1 ∧ ((#[] : Array Nat), free).snd ≤ a) ∧ a + t.length ≤ hi) ∧ Builtin.Str.subAt s t a = true) := fun h => hc ⟨h.1.2, h.2⟩
      rw [if_neg c2]
      have h2 : (decide (a + t.length ≤ hi) && Builtin.Str.subAt s t a) = false := by
        cases q : Builtin.Str.subAt s t a with
        | false => simp
        | true => have : ¬ a + t.length ≤ hi := fun z => hc ⟨z, q⟩
                  simp [this]
      rw [h2]
      exact occ_first s t hi l free (fun i hi' => hf i (List.mem_cons_of_mem _ hi'))
theorem occ_firstAt (s t : List Nat) : Builtin.Str.occurrences (mkS s) (mkS t) 0 (mkS s).length 1 = match firstAt s t with | some i => [i] | none => [] := by
  rw [StrLaws.occ_eq, occ_first _ _ _ _ _ (fun _ _ => Nat.zero_le _)]
  have e : (fun i => decide (i + (mkS t).length ≤ (mkS s).length) && Builtin.Str.subAt (mkS s) (mkS t) i) = occAt s t := by
    funext i
    unfold occAt
    rw [sub_at, mkS_len, mkS_len]
  rw [e]
  unfold firstAt
  rw [mkS_len, Nat.sub_zero, ← List.range_eq_range']
theorem occ_found (s t : List Nat) : (!(Builtin.Str.occurrences ⟨s.toArray⟩ ⟨t.toArray⟩ 0 (⟨s.toArray⟩ : Str).length 1).isEmpty) = (firstAt s t).isSome := by
  have := occ_firstAt s t
  unfold mkS at this
  rw [this]
  cases firstAt s t <;> rfl
theorem starts_eq (s t : List Nat) : Txt.startswith (mkS s) (mkS t) = t.isPrefixOf s := by
  unfold Txt.startswith
  rw [sub_at, Bool.eq_iff_iff, Bool.and_eq_true, decide_eq_true_eq, beq_iff_eq, List.isPrefixOf_iff_prefix, mkS_len, mkS_len]
  constructor
  · rintro ⟨_, h⟩
    rw [← h]; exact List.take_prefix _ _
  · rintro ⟨r, rfl⟩
    exact ⟨by simp, by simp⟩
theorem ends_eq (s t : List Nat) : Txt.endswith (mkS s) (mkS t) = t.isSuffixOf s := by
  unfold Txt.endswith
  rw [sub_at, Bool.eq_iff_iff, Bool.and_eq_true, decide_eq_true_eq, beq_iff_eq, List.isSuffixOf_iff_suffix, mkS_len, mkS_len]
  constructor
  · rintro ⟨h1, h⟩
    rw [← h, List.take_of_length_le (by rw [List.length_drop]; omega)]; exact List.drop_suffix _ _
  · rintro ⟨r, rfl⟩
    exact ⟨by simp, by simp⟩

end Pu

set_option Elab.async false
set_option maxRecDepth 100000
set_option maxHeartbeats 2000000
namespace Pu
open PySem L2 PyProof.Rows

def cmP : Cm → CmpOp
  | .eq => .Eq | .ne => .NotEq | .lt => .Lt | .le => .LtE | .gt => .Gt | .ge => .GtE | .in_ => .In | .nin => .NotIn | .is_ => .Is | .isn => .IsNot
def rCmp (K : PySem.W.Frag) (o : Cm) : R2 := fun x y H Q => ∃ dx dy b, Dp K H x (toPy dx) ∧ Dp K H y (toPy dy) ∧ cmpop o dx dy = some b ∧ Q (.bl b) H
theorem toPys_any (x : D) : ∀ ys : List D, ((toPys ys).any fun z => PyData.eqv z (toPy x)) = ys.any fun y => D.eqv y x
  | [] => rfl
  | y :: ys => by simp only [toPys, List.any_cons, toPys_any x ys]; rfl
theorem inD_inv {dx dy : D} {b : Bool} (e : inD dx dy = some b) : (∃ c z, dx = .str [c] ∧ dy = .str z ∧ b = decide (c ∈ z)) ∨ (∃ t z, dx = .str t ∧ dy = .str z ∧ b = (firstAt z t).isSome) ∨ (∃ ys, dy = .lst ys ∧ dx.ok = true ∧ D.ok (.lst ys) = true ∧ b = ys.any fun y => D.eqv y dx) := by
  unfold inD at e
  split at e
  · exact .inl ⟨_, _, rfl, rfl, (Option.some.inj e).symm⟩
  · exact .inr (.inl ⟨_, _, rfl, rfl, (Option.some.inj e).symm⟩)
  · split at e
    · rename_i h
      have h := Bool.and_eq_true_iff.mp h
      exact .inr (.inr ⟨_, rfl, h.1, h.2, (Option.some.inj e).symm⟩)
    · cases e
  · cases e
theorem cmp_ok {X : Cx} (hu : X.A.units + 65 < cLine) (o : Cm) : OpR X (compareOp (cmP o)) (rCmp X.K o) := by
  intro pins s σ H x y v u Q I rx ry h
  obtain ⟨dx, dy, b, hx, hy, e, q⟩ := h
  have hu' : X.A.units + 64 < cLine := by omega
  unfold cmpop at e
  split at e
  · split at e
    · rename_i hk
      have hk := Bool.and_eq_true_iff.mp hk
      cases e
      exact op_eqD hu' pins s σ H _ _ v u Q I rx ry ⟨_, _, hx, hy, hk.1, hk.2, q⟩
    · cases e
  · split at e
    · rename_i hk
      have hk := Bool.and_eq_true_iff.mp hk
      cases e
      exact op_neD hu' pins s σ H _ _ v u Q I rx ry ⟨_, _, hx, hy, hk.1, hk.2, q⟩
    · cases e
  · cases e; cases hx; cases hy; exact op_lt pins s σ H _ _ v u Q I rx ry ⟨_, _, rfl, rfl, q⟩
  · cases e; cases hx; cases hy; exact op_le pins s σ H _ _ v u Q I rx ry ⟨_, _, rfl, rfl, q⟩
  · cases e; cases hx; cases hy; exact op_gt pins s σ H _ _ v u Q I rx ry ⟨_, _, rfl, rfl, q⟩
  · cases e; cases hx; cases hy; exact op_ge pins s σ H _ _ v u Q I rx ry ⟨_, _, rfl, rfl, q⟩
  · cases e; cases hx; cases hy; exact op_lt_str pins s σ H _ _ v u Q I rx ry ⟨_, _, rfl, rfl, q⟩
  · cases e; cases hx; cases hy; exact op_le_str pins s σ H _ _ v u Q I rx ry ⟨_, _, rfl, rfl, q⟩
  · cases e; cases hx; cases hy; exact op_gt_str pins s σ H _ _ v u Q I rx ry ⟨_, _, rfl, rfl, q⟩
  · cases e; cases hx; cases hy; exact op_ge_str pins s σ H _ _ v u Q I rx ry ⟨_, _, rfl, rfl, q⟩
  · rcases inD_inv e with ⟨c, z, rfl, rfl, rfl⟩ | ⟨t, z, rfl, rfl, rfl⟩ | ⟨ys, rfl, h1, h2, rfl⟩
    · cases hx; cases hy
      exact op_in_sign pins s σ H _ _ v u Q I rx ry ⟨c, _, rfl, rfl, q⟩
    · cases hx; cases hy
      refine op_in_str pins s σ H _ _ v u Q I rx ry ⟨_, _, rfl, rfl, ?_⟩
      rw [occ_found]; exact q
    · refine op_inD hu pins s σ H _ _ v u Q I rx ry ⟨_, toPys ys, hx, hy, h1, h2, ?_⟩
      rw [toPys_any]; exact q
  · obtain ⟨b', e', rfl⟩ := Option.map_eq_some_iff.mp e
    rcases inD_inv e' with ⟨c, z, rfl, rfl, rfl⟩ | ⟨t, z, rfl, rfl, rfl⟩ | ⟨ys, rfl, h1, h2, rfl⟩
    · cases hx; cases hy
      exact op_notIn_sign pins s σ H _ _ v u Q I rx ry ⟨c, _, rfl, rfl, q⟩
    · cases hx; cases hy
      refine op_notin_str pins s σ H _ _ v u Q I rx ry ⟨_, _, rfl, rfl, ?_⟩
      rw [occ_found]; exact q
    · refine op_notInD hu pins s σ H _ _ v u Q I rx ry ⟨_, toPys ys, hx, hy, h1, h2, ?_⟩
      rw [toPys_any]; exact q
  · cases hy
    cases e
    refine op_isN pins s σ H _ _ v u Q I rx ry ⟨rfl, ?_⟩
    cases dx <;> (cases hx; exact q)
  · cases hy
    cases e
    refine op_notN pins s σ H _ _ v u Q I rx ry ⟨rfl, ?_⟩
    cases dx <;> (cases hx; exact q)
  · cases e; cases hx; cases hy
    refine op_is_bl pins s σ H _ _ v u Q I rx ry ⟨_, _, rfl, rfl, ?_⟩
    rw [← Bool.beq_eq_decide_eq]; exact q
  · cases e; cases hx; cases hy
    refine op_isnot_bl pins s σ H _ _ v u Q I rx ry ⟨_, _, rfl, rfl, ?_⟩
    rw [← Bool.beq_eq_decide_eq]; exact q
  · cases e

/-! ### truth, kinds -/
theorem empty_len {α β : Type} {xs : List α} {ys : List β} (h : xs.length = ys.length) : xs.isEmpty = ys.isEmpty := by
  cases xs <;> cases ys <;> first | rfl | (simp at h)
theorem tru_of {K : PySem.W.Frag} {H : Hp} {v : V} {x : D} (h : RN H v x) : TruV K v H (truth x) := by
  cases x with
  | lst ds =>
    obtain ⟨a, xs, rfl, h1, h2⟩ := h
    refine .inl ⟨xs, SqL.of h1, ?_⟩
    show (!ds.isEmpty) = !xs.isEmpty
    rw [empty_len h2]
  | tup ds =>
    obtain ⟨P, h⟩ := h
    obtain ⟨a, xs, rfl, h1, _, h2⟩ := RD.tup_inv h
    refine .inr (.inl ⟨xs, SqT.of h1, ?_⟩)
    show (!ds.isEmpty) = !xs.isEmpty
    rw [empty_len h2.length]
  | str s =>
    obtain ⟨P, h⟩ := h
    obtain ⟨rfl, h1, _⟩ := RD.str_inv h
    refine ⟨by rw [str_len]; exact h1, ?_⟩
    rw [str_len]
    show (!s.isEmpty) = _
    cases s with
    | nil => rfl
    | cons c s => simp; omega
  | non => obtain ⟨P, h⟩ := h; cases h; rfl
  | bl b => obtain ⟨P, h⟩ := h; cases h; rfl
  | int i => obtain ⟨P, h⟩ := h; cases h; rfl
def Ty.nm : Ty → String
  | .int => "int" | .bool => "bool" | .str => "str" | .list => "list" | .tuple => "tuple"
def D.kind : D → String
  | .non => "NoneType" | .bl _ => "bool" | .int _ => "int" | .str _ => "str" | .lst _ => "list" | .tup _ => "tuple"
theorem ty_of {K : PySem.W.Frag} {H : Hp} {v : V} {x : D} (h : RN H v x) : TyX K H v (.type x.kind) := by
  cases x with
  | lst ds => obtain ⟨a, xs, rfl, h1, h2⟩ := h; exact .base (.lst h1)
  | tup ds => obtain ⟨P, h⟩ := h; obtain ⟨a, xs, rfl, h1, _, h2⟩ := RD.tup_inv h; exact .base (.tup h1)
  | str s => obtain ⟨P, h⟩ := h; obtain ⟨rfl, h1, _⟩ := RD.str_inv h; exact .base (.str _)
  | non => obtain ⟨P, h⟩ := h; cases h; exact .base .non
  | bl b => obtain ⟨P, h⟩ := h; cases h; exact .base (.bl _)
  | int i => obtain ⟨P, h⟩ := h; cases h; exact .base (.int _)
theorem kind_one (x : D) (t : Ty) : kitB x.kind t.nm = some (hasTy x t) := by
  cases x <;> cases t <;> first | rfl | decide +kernel
theorem kind_any {K : PySem.W.Frag} (x : D) : ∀ ts : List Ty, PySem.W.kitAny K (.type x.kind) (ts.map fun t => .type t.nm) = some (ts.any (hasTy x))
  | [] => kitAny_nil
  | t :: ts => by
    rw [List.map_cons, List.any_cons]
    refine kitAny_cons (kit_ty (kind_one x t)) (fun h => ?_) fun h => ?_
    · rw [h]; exact kind_any x ts
    · rw [h]; rfl

/-! ### places, cuts -/
def rIdx (K : PySem.W.Frag) : R2 := fun x y H Q => ∃ P dx dy z, RG K H P x dx ∧ Dp K H y (toPy dy) ∧ index dx dy = some z ∧ ∀ v, RD H P v z → Q v H
theorem atI_rel {H : Hp} {P : Addr → Prop} {ds : List D} {xs : List V} {i : Int} {z : D} (h : RDs H P xs ds) (e : L2.atI ds i = some z) : ∃ v, L2.atI xs i = some v ∧ RD H P v z := by
  unfold L2.atI at e ⊢
  rw [h.length]
  cases q : L2.ixN ds.length i with
  | none => rw [q] at e; cases e
  | some j =>
    rw [q] at e
    exact h.get e
theorem idx_ok {X : Cx} : IxR X (rIdx X.K) := by
  intro val slc pins s σ H x y v u Q I rx ry h hsub
  obtain ⟨P, dx, dy, z, hx, hy, e, q⟩ := h
  unfold index at e
  split at e
  · obtain ⟨a, xs, rfl, h1, h2⟩ := hx
    cases hy
    obtain ⟨w, e1, e2⟩ := atI_rel h2 e
    exact ix_list val slc pins s σ H _ _ v u Q I rx ry ⟨a, xs, _, w, rfl, rfl, h1, e1, q w e2⟩ hsub
  · obtain ⟨a, xs, rfl, h1, _, h2⟩ := RD.tup_inv hx
    cases hy
    obtain ⟨w, e1, e2⟩ := atI_rel h2 e
    exact ix_tup val slc pins s σ H _ _ v u Q I rx ry ⟨a, xs, _, w, rfl, rfl, SqT.of h1, e1, q w e2⟩ hsub
  · obtain ⟨rfl, h1, h2⟩ := RD.str_inv hx
    cases hy
    obtain ⟨c, e', rfl⟩ := Option.map_eq_some_iff.mp e
    refine ix_str val slc pins s σ H _ _ v u Q I rx ry ⟨_, _, c, rfl, rfl, by rw [str_len]; exact h1, e', q _ ?_⟩ hsub
    refine .str [c] (show 1 ≤ line by decide) ?_
    obtain ⟨j, _, hj, _⟩ := L2.atI_get e'
    have := List.all_eq_true.mp h2 c (List.mem_of_getElem? hj)
    simp only [List.all_cons, List.all_nil, Bool.and_true]; exact this
  · cases e
def rSli (K : PySem.W.Frag) : V → Option Int → Option Int → Hp → VK → Prop := fun x lo hi H Q => ∃ P dx z, (∀ a, P a → H a ≠ none) ∧ RG K H P x dx ∧ slice dx lo hi = some z ∧ Gives H P z Q
theorem RDs.cut {H : Hp} {P : Addr → Prop} {ds : List D} {xs : List V} (h : RDs H P xs ds) (lo hi : Option Int) : RDs H P (cutV xs lo hi) (cut ds lo hi) := by
  unfold cutV Pu.cut
  rw [h.length]
  exact (h.drop _).take _
theorem cut_length {α : Type} (xs : List α) (lo hi : Option Int) : (cut xs lo hi).length ≤ xs.length := by
  unfold cut
  simp only [List.length_take, List.length_drop]
  omega
theorem sli_ok {X : Cx} : SlR X (rSli X.K) := by
  intro pins s σ H x v vl vu lo hi sl Q I rx hs pl pu h0
  obtain ⟨P, dx, z, hP, hx, e, g⟩ := h0
  unfold slice at e
  split at e
  · cases e
    obtain ⟨a, xs, rfl, h1, h2⟩ := hx
    exact sl_list pins s σ H _ v vl vu lo hi sl Q I rx hs pl pu ⟨a, xs, rfl, h1, fun p hp => give_lst hP (h2.cut lo hi) g hp⟩
  · cases e
    obtain ⟨a, xs, rfl, h1, n, h2⟩ := RD.tup_inv hx
    refine sl_tupA pins s σ H _ v vl vu lo hi sl Q I rx hs pl pu ⟨a, xs, rfl, SqT.of h1, fun w => ?_, fun _ p hp => give_tup hP (h2.cut lo hi) g hp⟩
    have c1 : cutV xs lo hi = xs := by
      unfold cutV
      rw [w.1, w.2]; simp
    have h3 := h2.cut lo hi
    rw [c1] at h3
    exact give_d (.tup h1 n h3) g
  · cases e
    rename_i t
    obtain ⟨rfl, h1, h2⟩ := RD.str_inv hx
    refine sl_str pins s σ H _ v vl vu lo hi sl Q I rx hs pl pu ⟨_, rfl, by rw [str_len]; exact h1, ?_⟩
    have c1 : cutS ⟨t.toArray⟩ lo hi = ⟨(cut t lo hi).toArray⟩ := by
      unfold cutS cut
      rw [str_len]
    rw [c1]
    refine give_d (.str _ (Nat.le_trans (cut_length ..) h1) ?_) g
    rw [List.all_eq_true] at h2 ⊢
    intro c hc
    exact h2 c (List.mem_of_mem_drop (List.mem_of_mem_take hc))
  · cases e
end Pu

set_option Elab.async false
set_option maxRecDepth 100000
set_option maxHeartbeats 2000000
namespace PySem.W
open PySem PySem.Calls PyProof.Rows
section
variable {prog : Program} {w : World} {A : Around} {E : Value → Shared → Prop} {s : Shared}
theorem str_each {h : Heap} {x : Str} {acc : Array Value} (hacc : ItemsOf (SignAt x) acc x.cps.size) : EachIs (fun v (c : Nat) => ∃ t, v = Value.str ⟨#[c]⟩ t) acc.toList x.cps.toList := by
  have go : ∀ (vs : List Value) (cs : List Nat), vs.length = cs.length → (∀ (j : Nat) (v : Value), vs[j]? = some v → ∃ c u, cs[j]? = some c ∧ v = Value.str ⟨#[c]⟩ u) → EachIs (fun v (c : Nat) => ∃ t, v = Value.str ⟨#[c]⟩ t) vs cs := by
    intro vs
    induction vs with
    | nil => intro cs hl _; cases cs with
      | nil => exact .nil
      | cons _ _ => cases hl
    | cons v vs ih => intro cs hl h; cases cs with
      | nil => cases hl
      | cons c cs =>
        refine .cons ?_ (ih cs (by simpa using hl) fun j v hj => by simpa using h (j + 1) v (by simpa using hj))
        obtain ⟨c', u, e, rfl⟩ := h 0 v rfl
        cases e
        exact ⟨u, rfl⟩
  refine go _ _ (by simpa using hacc.1) fun j v hj => ?_
  obtain ⟨c, u, e, rfl⟩ := hacc.2 j v (by simpa using hj)
  exact ⟨c, u, by simpa using e, rfl⟩
/-- sorted(text): its signs, sorted -/
theorem sorted_text {x : Str} {t : Tok} {Q : Value → Shared → Prop} (hh : A.handled = none) (hn : x.cps.size ≤ sizeLine) (hu : A.units + 2 < cLine)
    (h : ∀ (h1 h' : Heap) (k c : Nat) (out : List Value), (∀ b o, s.heap.get? b = some o → h1.get? b = some o) → (∀ b o, h1.get? b = some o → h'.get? b = some o) → h'.get? h1.objs.size = some (seqObj "list" out.toArray c) → 
      EachIs (fun v (c : Nat) => ∃ t, v = Value.str ⟨#[c]⟩ t) out (x.cps.toList.mergeSort (dataLe false fun c => PyData.str ⟨#[c]⟩)) → Q (.ref h1.objs.size) { s with heap := h', toks := k }) :
    wpAny (model prog w) A (call (.builtin "sorted") [.str x t] []) Q E s := by
  refine call_function_entry_kw kind_sorted plain_sorted entry_sorted (args_sorted1 _) ?_
  unfold Builtin.«sorted»
  refine wpAny_bind (m := checkCount "sorted" 1 1 _) (wpAny_pure ?_)
  refine wpAny_bind (wpAny_collect_str (A := A.in1) (hn := hn) hh x t fun s' acc hk hg hd hos hacc => ?_)
  have e := str_each (h := s'.heap) hacc
  have hl : acc.toList.length = x.cps.toList.length := e.length
  have hL : acc.toList.length ≤ sizeLine := by rw [hl]; simpa using hn
  refine wpAny_bind (wpAny_newList ?_ hL)
  show wpAny _ _ _ _ _ { s' with heap := s'.heap.push (seqObj "list" acc.toList.toArray 0) }
  have at0 : (s'.heap.push (seqObj "list" acc.toList.toArray 0)).get? s'.heap.objs.size = some (seqObj "list" acc.toList.toArray 0) := Heap.get?_push_size _ rfl
  have er : EachIs (fun v b => ∃ as, Reads (sortingHeap (s'.heap.push (seqObj "list" acc.toList.toArray 0)) s'.heap.objs.size acc.toList) v ((fun c => PyData.str ⟨#[c]⟩) b) as) acc.toList x.cps.toList := e.mono fun v c ⟨t, hv⟩ => ⟨[], by subst hv; exact .str _ _⟩
  have hal : AllAlike (x.cps.toList.map fun c => PyData.str ⟨#[c]⟩) := AllAlike.of fun _ _ => by simp [alike]
  have hk2 : Sortable (x.cps.toList.map fun c => PyData.str ⟨#[c]⟩) := Sortable.others fun _ => ⟨(by intro h; cases h), (by intro _ h; cases h)⟩
  have S := SortsAt.data (prog := prog) (w := w) (A := A.in1.in1) (s := { s' with heap := sortingHeap (s'.heap.push (seqObj "list" acc.toList.toArray 0)) s'.heap.objs.size acc.toList }) (each_map (R := fun v d => ∃ as, Reads (sortingHeap (s'.heap.push (seqObj "list" acc.toList.toArray 0)) s'.heap.objs.size acc.toList) v d as) _ er) hal hk2
    (bound_map (A := A.in1.in1) fun b _ => hu)
  refine wpAny_bind (wpAny_holding (wpAny_call_entry_kw slot_list_sort ⟨_, at0, rfl⟩ entry_list_sort ?body (args_list_sort _)))
  case body =>
    show wpAny (model prog w) A.in1.in1 (Builtin.«list.sort» ⟨[.ref s'.heap.objs.size], []⟩) _ _ _
    refine wpAny_mono (list_sort_vals (P := fun f s'' => f = .done (.ret .none) ∧ Q (.ref s'.heap.objs.size) s'') (s := { s' with heap := s'.heap.push (seqObj "list" acc.toList.toArray 0) }) at0 S hL ⟨rfl, ?_⟩) (fun f s'' hf => ?_) fun _ _ e => e
    · obtain ⟨hp, g, d, tk, os⟩ := s'
      cases hg; cases hd; cases hos
      obtain ⟨c, hc⟩ := sortedHeap_at (vs := acc.toList) (out := (sortVals (dataKind (sortingHeap (hp.push (seqObj "list" acc.toList.toArray 0)) hp.objs.size acc.toList) (x.cps.toList.map fun c => PyData.str ⟨#[c]⟩)) false acc.toList acc.toList).toArray) at0
      refine h hp _ tk c _ hk (fun b o hb => ?_) hc (sortVals_data false e er hal)
      have hlt : b < hp.objs.size := Heap.lt_size hb
      refine (sortedHeap_old (Nat.ne_of_lt hlt) (by rw [size_push']; exact Nat.lt_succ_of_lt hlt)).trans ?_
      rw [Heap.get?_push_ne _ _ _ (Nat.ne_of_lt hlt)]
      exact hb
    · obtain ⟨rfl, hq⟩ := hf
      exact ⟨_, rfl, wpAny_pure ⟨_, rfl, hq⟩⟩
end
end PySem.W

namespace Pu
open PySem L2 PyProof.Rows
open PySem.W (dataLe alike AllAlike Sortable EachIs)

/-! ### lists that are made of texts, or sorted -/
section
variable {X : Cx} {pins : List (Addr × Obj)} {σ : L2.St} {H : Hp} {s : Shared} {P : Addr → Prop} {Q : VK}
theorem each_signs {us : List Value} {cs : List Nat} (hc : ∀ c ∈ cs, c < 0x110000) (e : EachIs (fun (v : Value) (c : Nat) => ∃ t, v = Value.str ⟨#[c]⟩ t) us cs) : ∃ ys, Vals ys us ∧ RDs H P ys (cs.map fun c => D.str [c]) := by
  induction e with
  | nil => exact ⟨[], .nil, .nil⟩
  | cons h _ ih =>
    obtain ⟨t, rfl⟩ := h
    obtain ⟨ys, v, r⟩ := ih fun c h => hc c (List.mem_cons_of_mem _ h)
    have := hc _ (List.mem_cons_self ..)
    exact ⟨_ :: ys, .cons (show RelV (.str ⟨#[_]⟩) _ from ⟨t, rfl⟩) v, .cons (.str [_] (by simp [line]) (by simpa using this)) r⟩
theorem sign_le (a b : Nat) : dataLe false (fun c => PyData.str ⟨#[c]⟩) a b = decide (a ≤ b) := by
  rw [PySem.W.dataLe_str]
  show decide ([a] ≤ [b]) = _
  congr 1
  apply propext
  rw [List.cons_le_cons_iff]
  constructor
  · rintro (h | ⟨h, _⟩)
    · exact Nat.le_of_lt h
    · exact Nat.le_of_eq h
  · intro h
    rcases Nat.lt_or_eq_of_le h with h | h
    · exact .inl h
    · exact .inr ⟨h, List.le_refl _⟩
theorem list_of_str {x : List Nat} {u : Value} (hc : X.calm = true) (I : Inv X pins σ H s) (hP : ∀ a, P a → H a ≠ none) (r : RelV (.str (mkS x)) u) (hl : x.length ≤ line) (ha : x.all (fun c => decide (c < 0x110000)) = true)
    (g : Gives H P (.ol (x.map fun c => .d (.str [c]))) Q) : wpAny (model X.prog X.w) X.A (call (.type "list") [u]) (EP X pins σ Q) X.xe s := by
  obtain ⟨t, rfl⟩ := r
  refine call_list_str (I.ok.hd hc) (mkS x) t (hn := Nat.le_trans (Nat.le_of_eq (by simp [mkS])) hl) fun h' tk acc c' hk hS hacc => ?_
  have e := PySem.W.str_each (h := h') hacc
  have e' : EachIs (fun (v : Value) (c : Nat) => ∃ t, v = Value.str ⟨#[c]⟩ t) acc.toList x := by simpa [mkS] using e
  obtain ⟨ys, v, rd⟩ := each_signs (H := H) (P := P) (fun c h => by simpa using List.all_eq_true.mp ha c h) e'
  refine ⟨.ref _, upd H s.heap.objs.size (.lst ys), I.laid (t' := tk) hk (Nat.le_refl _) ⟨?_, acc.toList, c', v, by simpa using hS⟩, rfl, ?_⟩
  · rw [rd.length, List.length_map]; exact hl
  · refine give_lst hP rd ?_ (I.hok.fresh (Nat.le_refl _))
    rw [List.map_map]; exact g
theorem sorted_of_str {x : List Nat} {u : Value} (hc : X.calm = true) (hu : X.A.units + 65 < cLine) (I : Inv X pins σ H s) (hP : ∀ a, P a → H a ≠ none) (r : RelV (.str (mkS x)) u) (hl : x.length ≤ line) (ha : x.all (fun c => decide (c < 0x110000)) = true)
    (g : Gives H P (.ol ((x.mergeSort fun a b => decide (a ≤ b)).map fun c => .d (.str [c]))) Q) : wpAny (model X.prog X.w) X.A (call (.builtin "sorted") [u]) (EP X pins σ Q) X.xe s := by
  obtain ⟨t, rfl⟩ := r
  refine PySem.W.sorted_text (I.ok.hd hc) (Nat.le_trans (Nat.le_of_eq (by simp [mkS])) hl) (by omega) fun h1 h' k c out k1 k2 hS e => ?_
  have e' : EachIs (fun (v : Value) (c : Nat) => ∃ t, v = Value.str ⟨#[c]⟩ t) out (x.mergeSort fun a b => decide (a ≤ b)) := by
    have : (fun a b => decide (a ≤ b)) = dataLe false (fun c => PyData.str ⟨#[c]⟩) := by funext a b; exact (sign_le a b).symm
    rw [this]; simpa [mkS] using e
  obtain ⟨ys, v, rd⟩ := each_signs (H := H) (P := P) (fun c h => by simpa using List.all_eq_true.mp ha c ((List.mergeSort_perm _ _).mem_iff.mp h)) e'
  have I1 : Inv X pins σ H { s with heap := h1, toks := s.toks } := I.kept k1
  refine ⟨.ref _, upd H h1.objs.size (.lst ys), I1.laid (t' := k) k2 (Nat.le_refl _) ⟨?_, out, c, v, hS⟩, rfl, ?_⟩
  · rw [rd.length, List.length_map, (List.mergeSort_perm _ _).length_eq]; exact hl
  · refine give_lst hP rd ?_ (I1.hok.fresh (Nat.le_refl _))
    rw [List.map_map]; exact g
theorem each_data : ∀ {vs : List V} {us : List Value} {ds : List D}, Vals vs us → RDs H P vs ds → EachIs (fun u d => ∃ v, RelV v u ∧ RD H P v d) us ds
  | _, _, _, .nil, r => by cases r; exact .nil
  | _, _, _, .cons h t, r => by
    cases r with
    | cons r1 r2 => exact .cons ⟨_, h, r1⟩ (each_data t r2)
theorem data_each : ∀ {us : List Value} {ds : List D}, EachIs (fun u d => ∃ v, RelV v u ∧ RD H P v d) us ds → ∃ vs, Vals vs us ∧ RDs H P vs ds
  | _, _, .nil => ⟨[], .nil, .nil⟩
  | _, _, .cons ⟨v, h, r⟩ t => by
    obtain ⟨vs, a, b⟩ := data_each t
    exact ⟨v :: vs, .cons h a, .cons r b⟩
theorem toPys_map : ∀ ds : List D, toPys ds = ds.map toPy
  | [] => rfl
  | d :: ds => by rw [toPys, toPys_map ds]; rfl
theorem sortable_ok {ds : List D} (h : sortableD ds = true) : AllAlike (ds.map toPy) ∧ Sortable (ds.map toPy) ∧ ∀ d ∈ ds, (toPy d).depth ≤ 40 := by
  unfold sortableD at h
  rw [Bool.and_eq_true, Bool.and_eq_true, Bool.or_eq_true] at h
  obtain ⟨h1, h2, h3⟩ := h
  refine ⟨fun a ha b hb => ?_, ?_, fun d hd => by simpa using List.all_eq_true.mp h3 d hd⟩
  · obtain ⟨x, hx, rfl⟩ := List.mem_map.mp ha
    obtain ⟨y, hy, rfl⟩ := List.mem_map.mp hb
    exact List.all_eq_true.mp (List.all_eq_true.mp h1 x hx) y hy
  · rcases h2 with h2 | h2
    · refine .inl fun a ha => ?_
      obtain ⟨x, hx, rfl⟩ := List.mem_map.mp ha
      have := List.all_eq_true.mp h2 x hx
      cases x with
      | tup xs => cases xs with
        | nil => cases this
        | cons x xs => exact ⟨_, _, rfl⟩
      | _ => cases this
    · refine .inr fun a ha => ?_
      obtain ⟨x, hx, rfl⟩ := List.mem_map.mp ha
      have := List.all_eq_true.mp h2 x hx
      cases x with
      | tup xs => cases this
      | non => cases this
      | _ => exact ⟨(by intro h; cases h), (by intro _ h; cases h)⟩
theorem sorted_of_lst {a : Addr} {xs : List V} {ds : List D} {u : Value} (hu : X.A.units + 65 < cLine) (I : Inv X pins σ H s) (hP : ∀ a, P a → H a ≠ none) (r : RelV (.ref a) u) (hx : SqL X.K H a xs) (hr : RDs H P xs ds) (hs : sortableD ds = true)
    (g : Gives H P (.ol ((ds.mergeSort dle).map .d)) Q) : wpAny (model X.prog X.w) X.A (call (.builtin "sorted") [u]) (EP X pins σ Q) X.xe s := by
  obtain ⟨its, rv, hl, hz⟩ := I.list hx
  obtain rfl : u = Value.ref a := r
  obtain ⟨s1, s2, s3⟩ := sortable_ok hs
  obtain ⟨as, ra⟩ := Dp.readsAll I _ _ _ hr.dp rv
  rw [toPys_map] at ra
  refine PySem.W.sorted_data (enc := toPy) hl.isList (each_data rv hr) (PySem.W.readsAll_each toPy ra) s1 s2 (by rw [← hr.length]; exact hz) (fun d hd => by have := s3 d hd; omega) fun out ho eo => ?_
  obtain ⟨ep, he⟩ := PyProof.Rows.sortedAll_at s.heap its (List.toArray out)
  obtain ⟨ys, v, rd⟩ := data_each eo
  refine ⟨.ref _, upd H (s.heap.objs.size + 1) (.lst ys), I.laid (t' := s.toks) (fun _ _ => PyProof.Rows.sortedAll_old) (Nat.le_succ _) ⟨?_, out, ep, v, he⟩, rfl, ?_⟩
  · rw [rd.length, (List.mergeSort_perm _ _).length_eq, ← hr.length]; exact hz
  · exact give_lst hP rd g (I.hok.fresh (Nat.le_succ _))
/-! ### the least, the greatest of data -/
mutual
theorem toPy_inj : ∀ {x y : D}, toPy x = toPy y → x = y
  | .non, y, h => by cases y <;> first | rfl | cases h
  | .bl b, y, h => by cases y <;> first | (cases h; rfl) | cases h
  | .int i, y, h => by cases y <;> first | (cases h; rfl) | cases h
  | .str s, y, h => by
    cases y with
    | str t =>
      have h1 : (⟨s.toArray⟩ : Str) = ⟨t.toArray⟩ := by injection h
      have h2 : s.toArray = t.toArray := by injection h1
      rw [show s = t from by simpa using h2]
    | _ => cases h
  | .lst xs, y, h => by
    cases y with
    | lst ys =>
      have h1 : toPys xs = toPys ys := by injection h
      rw [toPys_inj h1]
    | _ => cases h
  | .tup xs, y, h => by
    cases y with
    | tup ys =>
      have h1 : toPys xs = toPys ys := by injection h
      rw [toPys_inj h1]
    | _ => cases h
theorem toPys_inj : ∀ {xs ys : List D}, toPys xs = toPys ys → xs = ys
  | [], ys, h => by cases ys <;> first | rfl | cases h
  | x :: xs, ys, h => by
    cases ys with
    | nil => cases h
    | cons y ys =>
      rw [toPys, toPys, List.cons.injEq] at h
      rw [toPy_inj h.1, toPys_inj h.2]
end
theorem alike_ok {ds : List D} (h : alikeD ds = true) : PySem.W.AlikeAll (toPys ds) ∧ PyData.depthAll (toPys ds) ≤ 40 := by
  unfold alikeD at h
  rw [Bool.and_eq_true, Bool.and_eq_true, decide_eq_true_eq] at h
  obtain ⟨h1, h2, h3⟩ := h
  refine ⟨⟨fun a ha b hb => ?_, fun a ha => ?_⟩, h3⟩
  · rw [toPys_map] at ha hb
    obtain ⟨x, hx, rfl⟩ := List.mem_map.mp ha
    obtain ⟨y, hy, rfl⟩ := List.mem_map.mp hb
    exact List.all_eq_true.mp (List.all_eq_true.mp h1 x hx) y hy
  · rw [toPys_map] at ha
    obtain ⟨x, hx, rfl⟩ := List.mem_map.mp ha
    have := List.all_eq_true.mp h2 x hx
    cases x with
    | non => cases this
    | _ => intro h; cases h
theorem fold_py (f : PyData → PyData → Bool) : ∀ (ds : List D) (d : D), toPy (ds.foldl (fun a y => if f (toPy a) (toPy y) then y else a) d) = (toPys ds).foldl (fun a y => if f a y then y else a) (toPy d)
  | [], d => rfl
  | x :: ds, d => by
    rw [List.foldl_cons, fold_py f ds, toPys, List.foldl_cons]
    congr 1
    split <;> rfl
theorem best_end {its : List Value} {vs : List V} {ds : List D} {m : D} {h' : Heap} {i tk : Nat} {v : Value} {bs : List Addr} (hi : its.toArray[i]? = some v) (I : Inv X pins σ H s) (rv : Vals vs its) (hr : RDs H P vs ds) (rd : Reads h' v (toPy m) bs) (k : ∀ b o, s.heap.get? b = some o → h'.get? b = some o)
    (g : Gives H P (.d m) Q) : EP X pins σ Q v { s with heap := h', toks := tk } := by
  have hi2 : its[i]? = some v := by simpa using hi
  have hl := rv.length
  have hil := (List.getElem?_eq_some_iff.mp hi2).1
  obtain ⟨u, hu, ru⟩ := rv.get (i := i) (List.getElem?_eq_getElem (show i < vs.length by omega))
  rw [hi2] at hu
  cases hu
  obtain ⟨w, hw, rw'⟩ := hr.get (i := i) (List.getElem?_eq_getElem (show i < ds.length by have := hr.length; omega))
  rw [List.getElem?_eq_getElem (show i < vs.length by omega)] at hw
  cases hw
  obtain ⟨as, r1⟩ := Dp.reads I _ _ v (rw'.dp (K := X.K)) ru
  have r2 := PyProof.Rows.Reads.keeps k r1
  have e := toPy_inj (Reads.unique r2 _ _ rd).1
  rw [e] at rw'
  exact ⟨_, H, I.kept k, ru, give_d rw' g⟩
theorem max_of_lst {a : Addr} {xs : List V} {ds : List D} {m : D} {u : Value} (hc : X.calm = true) (hu : X.A.units + 65 < cLine) (I : Inv X pins σ H s) (r : RelV (.ref a) u) (hx : SqL X.K H a xs) (hr : RDs H P xs ds) (e : bestD (fun a y => dlt a y) ds = some m)
    (g : Gives H P (.d m) Q) : wpAny (model X.prog X.w) X.A (call (.builtin "max") [u]) (EP X pins σ Q) X.xe s := by
  cases ds with
  | nil => cases e
  | cons d ds =>
    simp only [bestD] at e
    split at e
    · rename_i ha
      obtain ⟨h1, h2⟩ := alike_ok ha
      obtain ⟨its, rv, hl, hz⟩ := I.list hx
      obtain rfl : u = Value.ref a := r
      obtain ⟨as, ra⟩ := Dp.readsAll I _ _ _ hr.dp rv
      refine PySem.W.max_list_data (x := toPy d) (xs := toPys ds) (I.ok.hd hc) hl.isList ra h1 (by show _ + 1 + PyData.depthAll (toPys (d :: ds)) < _; omega) fun i v h' tk bs hi rd k => ?_
      have e' := Option.some.inj e
      refine best_end (bs := bs) hi I rv hr ?_ k g
      rw [← e']
      have := fold_py (fun a y => PySem.W.dataLt a y) ds d
      unfold dlt
      rw [this]; exact rd
    · cases e
theorem min_of_lst {a : Addr} {xs : List V} {ds : List D} {m : D} {u : Value} (hc : X.calm = true) (hu : X.A.units + 65 < cLine) (I : Inv X pins σ H s) (r : RelV (.ref a) u) (hx : SqL X.K H a xs) (hr : RDs H P xs ds) (e : bestD (fun a y => dlt y a) ds = some m)
    (g : Gives H P (.d m) Q) : wpAny (model X.prog X.w) X.A (call (.builtin "min") [u]) (EP X pins σ Q) X.xe s := by
  cases ds with
  | nil => cases e
  | cons d ds =>
    simp only [bestD] at e
    split at e
    · rename_i ha
      obtain ⟨h1, h2⟩ := alike_ok ha
      obtain ⟨its, rv, hl, hz⟩ := I.list hx
      obtain rfl : u = Value.ref a := r
      obtain ⟨as, ra⟩ := Dp.readsAll I _ _ _ hr.dp rv
      refine PySem.W.min_list_data (x := toPy d) (xs := toPys ds) (I.ok.hd hc) hl.isList ra h1 (by show _ + 1 + PyData.depthAll (toPys (d :: ds)) < _; omega) fun i v h' tk bs hi rd k => ?_
      have e' := Option.some.inj e
      refine best_end (bs := bs) hi I rv hr ?_ k g
      rw [← e']
      have := fold_py (fun a y => PySem.W.dataLt y a) ds d
      unfold dlt
      rw [this]; exact rd
    · cases e
/-- max(xs, default=d), whole numbers -/
theorem cr_maxd (hc : X.calm = true) (hu : X.A.units + 65 < cLine) : CallRK X (.builtin "max") [Str.ofString "default"] (fun vs zs H Q => ∃ a ns d, vs = [V.ref a] ∧ zs = [V.int d] ∧ SqL X.K H a (ns.map V.int) ∧ Q (.int ((maxI ns).getD d)) H) := by
  intro pins s σ H vs zs us ws Q I r rz h
  obtain ⟨a, ns, d, rfl, rfl, hs, q⟩ := h
  obtain ⟨its, rv, hl, hz⟩ := I.list hs
  obtain rfl := Vals.ref1 r
  obtain ⟨w1, rfl, e1⟩ := vals1 rz
  obtain ⟨t1, rfl⟩ := e1
  have hd : ∀ ns : List Int, DpAll X.K H (ns.map V.int) (ns.map PyData.int) := by
    intro ns
    induction ns with
    | nil => exact .nil
    | cons n ns ih => exact .cons (.int n) ih
  obtain ⟨as, ra⟩ := Dp.readsAll I _ _ _ (hd ns) rv
  have al : PySem.W.AlikeAll (ns.map PyData.int) := by
    refine ⟨fun a ha b hb => ?_, fun a ha => ?_⟩
    · obtain ⟨x, _, rfl⟩ := List.mem_map.mp ha
      obtain ⟨y, _, rfl⟩ := List.mem_map.mp hb
      rfl
    · obtain ⟨x, _, rfl⟩ := List.mem_map.mp ha
      intro h; cases h
  refine PySem.W.max_list_default (I.ok.hd hc) hl.isList ra al (by rw [PySem.W.depth_ints]; omega) (fun h0 h' tk k => ?_) fun y ys i v h' tk bs h0 hi rd k => ?_
  · have : ns = [] := by cases ns <;> first | rfl | cases h0
    subst this
    exact ⟨.int d, H, I.kept k, ⟨t1, rfl⟩, q⟩
  · cases ns with
    | nil => cases h0
    | cons n ns =>
      rw [List.map_cons, List.cons.injEq] at h0
      obtain ⟨rfl, rfl⟩ := h0
      rw [PySem.W.maxD_ints] at rd
      cases rd
      exact ⟨.int _, H, I.kept k, ⟨_, rfl⟩, q⟩
end
end Pu

set_option Elab.async false
set_option maxRecDepth 100000
set_option maxHeartbeats 2000000
namespace Pu
open PySem L2 PyProof.Rows

section
variable {K : PySem.W.Frag} {H : Hp} {P : Addr → Prop}
theorem ints_rel : ∀ {ds : List D} {xs : List V} {ns : List Int}, RDs H P xs ds → ints? ds = some ns → xs = ns.map V.int
  | [], _, _, h, e => by cases h; cases e; rfl
  | .int i :: ds, _, _, h, e => by
    obtain ⟨ns, e', rfl⟩ := Option.map_eq_some_iff.mp (show (ints? ds).map (i :: ·) = _ from e)
    cases h with
    | cons h1 h2 => cases h1; rw [ints_rel h2 e']; rfl
  | .non :: _, _, _, _, e | .bl _ :: _, _, _, _, e | .str _ :: _, _, _, _, e | .lst _ :: _, _, _, _, e | .tup _ :: _, _, _, _, e => by cases e
theorem bls_rel : ∀ {ds : List D} {xs : List V} {ns : List Bool}, RDs H P xs ds → bls? ds = some ns → xs = ns.map V.bl
  | [], _, _, h, e => by cases h; cases e; rfl
  | .bl i :: ds, _, _, h, e => by
    obtain ⟨ns, e', rfl⟩ := Option.map_eq_some_iff.mp (show (bls? ds).map (i :: ·) = _ from e)
    cases h with
    | cons h1 h2 => cases h1; rw [bls_rel h2 e']; rfl
  | .non :: _, _, _, _, e | .int _ :: _, _, _, _, e | .str _ :: _, _, _, _, e | .lst _ :: _, _, _, _, e | .tup _ :: _, _, _, _, e => by cases e
theorem strs_rel : ∀ {ds : List D} {xs : List V} {ns : List (List Nat)}, RDs H P xs ds → strs? ds = some ns → xs = (ns.map mkS).map V.str ∧ ∀ s ∈ ns, s.length ≤ line ∧ s.all (fun c => decide (c < 0x110000)) = true
  | [], _, _, h, e => by cases h; cases e; exact ⟨rfl, fun _ z => nomatch z⟩
  | .str i :: ds, _, _, h, e => by
    obtain ⟨ns, e', rfl⟩ := Option.map_eq_some_iff.mp (show (strs? ds).map (i :: ·) = _ from e)
    cases h with
    | cons h1 h2 =>
      obtain ⟨rfl, l, a⟩ := RD.str_inv h1
      obtain ⟨rfl, k⟩ := strs_rel h2 e'
      refine ⟨rfl, fun s hs => ?_⟩
      rcases List.mem_cons.mp hs with rfl | hs
      · exact ⟨l, a⟩
      · exact k s hs
  | .non :: _, _, _, _, e | .int _ :: _, _, _, _, e | .bl _ :: _, _, _, _, e | .lst _ :: _, _, _, _, e | .tup _ :: _, _, _, _, e => by cases e
theorem foldl_max_spec : ∀ (xs : List Int) (x : Int), (xs.foldl max x ∈ x :: xs) ∧ ∀ y ∈ x :: xs, y ≤ xs.foldl max x
  | [], x => ⟨by simp, by simp⟩
  | z :: xs, x => by
    obtain ⟨h1, h2⟩ := foldl_max_spec xs (max x z)
    have e : (z :: xs).foldl max x = xs.foldl max (max x z) := rfl
    rw [e]
    refine ⟨?_, fun y hy => ?_⟩
    · rcases List.mem_cons.mp h1 with h1 | h1
      · rw [h1]
        rcases Int.le_total x z with c | c
        · rw [Int.max_eq_right c]; simp
        · rw [Int.max_eq_left c]; simp
      · simp [h1]
    · have h3 := h2 (max x z) (by simp)
      rcases List.mem_cons.mp hy with rfl | hy
      · exact Int.le_trans (Int.le_max_left _ _) h3
      · rcases List.mem_cons.mp hy with rfl | hy
        · exact Int.le_trans (Int.le_max_right _ _) h3
        · exact h2 y (by simp [hy])
theorem foldl_min_spec : ∀ (xs : List Int) (x : Int), (xs.foldl min x ∈ x :: xs) ∧ ∀ y ∈ x :: xs, xs.foldl min x ≤ y
  | [], x => ⟨by simp, by simp⟩
  | z :: xs, x => by
    obtain ⟨h1, h2⟩ := foldl_min_spec xs (min x z)
    have e : (z :: xs).foldl min x = xs.foldl min (min x z) := rfl
    rw [e]
    refine ⟨?_, fun y hy => ?_⟩
    · rcases List.mem_cons.mp h1 with h1 | h1
      · rw [h1]
        rcases Int.le_total x z with c | c
        · rw [Int.min_eq_left c]; simp
        · rw [Int.min_eq_right c]; simp
      · simp [h1]
    · have h3 := h2 (min x z) (by simp)
      rcases List.mem_cons.mp hy with rfl | hy
      · exact Int.le_trans h3 (Int.min_le_left _ _)
      · rcases List.mem_cons.mp hy with rfl | hy
        · exact Int.le_trans h3 (Int.min_le_right _ _)
        · exact h2 y (by simp [hy])
theorem maxI_spec {ns : List Int} {m : Int} (h : maxI ns = some m) : m ∈ ns ∧ ∀ y ∈ ns, y ≤ m := by
  cases ns with
  | nil => cases h
  | cons x xs => cases h; exact foldl_max_spec xs x
theorem minI_spec {ns : List Int} {m : Int} (h : minI ns = some m) : m ∈ ns ∧ ∀ y ∈ ns, m ≤ y := by
  cases ns with
  | nil => cases h
  | cons x xs => cases h; exact foldl_min_spec xs x
theorem RG.dp {v : V} {x : D} (h : RG K H P v x) : Dp K H v (toPy x) := by
  cases x with
  | lst ds => obtain ⟨a, xs, rfl, h1, h2⟩ := h; exact .lst h1 h2.dp
  | tup ds => exact RD.dp h
  | str s => exact RD.dp h
  | non => exact RD.dp h
  | bl b => exact RD.dp h
  | int i => exact RD.dp h
end
def rB1 (K : PySem.W.Frag) (o : B1) : List V → Hp → VK → Prop := fun vs H Q => ∃ P v dx z, vs = [v] ∧ (∀ a, P a → H a ≠ none) ∧ RG K H P v dx ∧ b1 o dx = some z ∧ Gives H P z Q
def b1V : B1 → Value
  | .len => .builtin "len" | .abs => .builtin "abs" | .sum => .builtin "sum" | .all => .builtin "all" | .any => .builtin "any" | .int => .type "int" | .list => .type "list" | .tuple => .type "tuple"
  | .repr => .builtin "repr" | .max => .builtin "max" | .min => .builtin "min" | .sorted => .builtin "sorted" | .bool => .type "bool"
theorem repr_ok {X : Cx} (hg : X.A.guards = some []) (hu : X.A.units + 65 < cLine) {pins : List (Addr × Obj)} {s : Shared} {σ : L2.St} {H : Hp} {x : D} {v : V} {u : Value} {Q : VK} (I : Inv X pins σ H s) (r : RelV v u) (h : Dp X.K H v (toPy x)) (e : x.showy = true)
    (q : Q (.str (toPy x).shown) H) : wpAny (model X.prog X.w) X.A (call (.builtin "repr") [u]) (EP X pins σ Q) X.xe s := by
  unfold D.showy at e
  simp only [Bool.and_eq_true, decide_eq_true_eq] at e
  obtain ⟨e0, e1, e2, e3, _⟩ := e
  have e2' : (toPy x).shown.length ≤ sizeLine := e2
  have big : ∀ {a : Addr}, u = .ref a → wpAny (model X.prog X.w) X.A (call (.builtin "repr") [u]) (EP X pins σ Q) X.xe s := fun {a} eu => by
    obtain ⟨as, rd⟩ := Dp.reads I _ v u h r
    subst eu
    exact repr_of_reads' rd e1 (PyData.noDict_hsm (PyData.hasDict_of_canLay _ e0)) hg (by omega) (fun _ _ z => z) (fun h' t tk k => ⟨.str _, H, I.kept k, ⟨t, rfl⟩, q⟩) e2'
  cases x with
  | non => cases h; cases r; exact PySem.P.repr_of_none ⟨.str _, H, I.tok _, ⟨_, rfl⟩, q⟩
  | bl b => cases h; cases r; exact PySem.P.repr_of_bool ⟨.str _, H, I.tok _, ⟨_, rfl⟩, q⟩
  | int i =>
    cases h; obtain ⟨t, rfl⟩ := r
    exact PySem.P.repr_of_int (by simpa [toPy, PyData.showable] using e1) ⟨.str _, H, I.tok _, ⟨_, rfl⟩, q⟩
  | str y =>
    cases h; obtain ⟨t, rfl⟩ := r
    exact PySem.P.repr_of_str ⟨.str _, H, I.tok _, ⟨_, rfl⟩, q⟩ e2'
  | lst xs => cases h; exact big r
  | tup xs => cases h; exact big r
theorem RG.lst_inv {K : PySem.W.Frag} {H : Hp} {P : Addr → Prop} {v : V} {ds : List D} (h : RG K H P v (.lst ds)) : ∃ a xs, v = .ref a ∧ SqL K H a xs ∧ RDs H P xs ds := h
theorem b1_ok {X : Cx} (hc : X.calm = true) (hg : X.A.guards = some []) (hu : X.A.units + 65 < cLine) (o : B1) : CallR X (b1V o) (rB1 X.K o) := by
  intro pins s σ H vs us Q I r h
  obtain ⟨P, v, dx, z, rfl, hP, hx, e, g⟩ := h
  unfold b1 at e
  split at e
  · cases e
    obtain ⟨a, xs, rfl, h1, h2⟩ := hx
    refine call_len_seq pins s σ H _ us Q I r ⟨a, xs, rfl, .inl h1, ?_⟩
    rw [h2.length]; exact give_d (.int _) g
  · cases e
    obtain ⟨a, xs, rfl, h1, _, h2⟩ := RD.tup_inv hx
    refine call_len_seq pins s σ H _ us Q I r ⟨a, xs, rfl, .inr (SqT.of h1), ?_⟩
    rw [h2.length]; exact give_d (.int _) g
  · cases e
    obtain ⟨rfl, h1, h2⟩ := RD.str_inv hx
    refine call_len_str pins s σ H _ us Q I r ⟨_, rfl, by rw [str_len]; exact h1, ?_⟩
    rw [str_len]; exact give_d (.int _) g
  · cases e; cases hx
    exact call_abs pins s σ H _ us Q I r ⟨_, rfl, give_d (.int _) g⟩
  · obtain ⟨ns, e', rfl⟩ := Option.map_eq_some_iff.mp e
    obtain ⟨a, xs, rfl, h1, h2⟩ := hx
    rw [ints_rel h2 e'] at h1
    exact cr_sum hc pins s σ H _ us Q I r ⟨a, ns, rfl, h1, give_d (.int _) g⟩
  · obtain ⟨ns, e', rfl⟩ := Option.map_eq_some_iff.mp e
    obtain ⟨a, xs, rfl, h1, h2⟩ := hx
    rw [bls_rel h2 e'] at h1
    exact cr_all hc pins s σ H _ us Q I r ⟨a, ns, rfl, h1, give_d (.bl _) g⟩
  · obtain ⟨ns, e', rfl⟩ := Option.map_eq_some_iff.mp e
    obtain ⟨a, xs, rfl, h1, h2⟩ := hx
    rw [bls_rel h2 e'] at h1
    exact cr_any hc pins s σ H _ us Q I r ⟨a, ns, rfl, h1, give_d (.bl _) g⟩
  · cases e; cases hx
    exact call_int1 pins s σ H _ us Q I r (.inl ⟨_, rfl, give_d (.int _) g⟩)
  · cases e; cases hx
    exact call_int1 pins s σ H _ us Q I r (.inr ⟨_, rfl, give_d (.int _) g⟩)
  · cases e; cases hx
    exact call_bool1 pins s σ H _ us Q I r (.inl ⟨_, rfl, give_d (.bl _) g⟩)
  · cases e; cases hx
    exact call_bool1 pins s σ H _ us Q I r (.inr ⟨_, rfl, give_d (.bl _) g⟩)
  · cases e
    obtain ⟨a, xs, rfl, h1, h2⟩ := hx
    exact call_list_of pins s σ H _ us Q I r ⟨a, xs, rfl, .inl h1, fun p hp => give_lst hP h2 g hp⟩
  · cases e
    obtain ⟨a, xs, rfl, h1, _, h2⟩ := RD.tup_inv hx
    exact call_list_of pins s σ H _ us Q I r ⟨a, xs, rfl, .inr (SqT.of h1), fun p hp => give_lst hP h2 g hp⟩
  · cases e
    obtain ⟨rfl, h1, h2⟩ := RD.str_inv hx
    obtain ⟨u, rfl, r1⟩ := vals1 r
    exact list_of_str hc I hP r1 h1 h2 g
  · split at e
    · rename_i hs
      cases e
      obtain ⟨a, xs, rfl, h1, h2⟩ := hx
      obtain ⟨u, rfl, r1⟩ := vals1 r
      exact sorted_of_lst hu I hP r1 h1 h2 hs g
    · cases e
  · cases e
    obtain ⟨rfl, h1, h2⟩ := RD.str_inv hx
    obtain ⟨u, rfl, r1⟩ := vals1 r
    exact sorted_of_str hc hu I hP r1 h1 h2 g
  · cases e
    obtain ⟨a, xs, rfl, h1, h2⟩ := hx
    exact call_tuple_of pins s σ H _ us Q I r ⟨a, xs, rfl, .inl ⟨h1, fun p hp => give_tup hP h2 g hp⟩⟩
  · cases e
    obtain ⟨a, xs, rfl, h1, n, h2⟩ := RD.tup_inv hx
    exact call_tuple_of pins s σ H _ us Q I r ⟨a, xs, rfl, .inr ⟨SqT.of h1, give_d (.tup h1 n h2) g⟩⟩
  · split at e
    · rename_i hs
      cases e
      obtain ⟨u, rfl, r1⟩ := vals1 r
      refine repr_ok hg hu I r1 hx.dp hs ?_
      have hs' := hs
      unfold D.showy at hs'
      simp only [Bool.and_eq_true, decide_eq_true_eq] at hs'
      have k : RD H P (.str (toPy dx).shown) (.str dx.repr) := by
        have q : (⟨dx.repr.toArray⟩ : Str) = (toPy dx).shown := by unfold D.repr; simp
        rw [← q]
        refine .str _ ?_ ?_
        · show ((toPy dx).shown.cps.toList).length ≤ line
          rw [Array.length_toList]; exact hs'.2.2.1
        · exact hs'.2.2.2.2
      exact give_d k g
    · cases e
  · obtain ⟨a, xs, rfl, h1, h2⟩ := hx
    split at e
    · rename_i ns e1
      obtain ⟨m, e3, rfl⟩ := Option.map_eq_some_iff.mp e
      rw [ints_rel h2 e1] at h1
      obtain ⟨m1, m2⟩ := maxI_spec e3
      refine cr_max hc pins s σ H _ us Q I r ⟨a, ns, rfl, h1, List.length_pos_of_mem m1, fun k k1 k2 => ?_⟩
      obtain rfl : k = m := Int.le_antisymm (m2 k k1) (k2 m m1)
      exact give_d (.int _) g
    · obtain ⟨m, e3, rfl⟩ := Option.map_eq_some_iff.mp e
      obtain ⟨u, rfl, r1⟩ := vals1 r
      exact max_of_lst hc hu I r1 h1 h2 e3 g
  · obtain ⟨a, xs, rfl, h1, h2⟩ := hx
    split at e
    · rename_i ns e1
      obtain ⟨m, e3, rfl⟩ := Option.map_eq_some_iff.mp e
      rw [ints_rel h2 e1] at h1
      obtain ⟨m1, m2⟩ := minI_spec e3
      refine cr_min hc pins s σ H _ us Q I r ⟨a, ns, rfl, h1, List.length_pos_of_mem m1, fun k k1 k2 => ?_⟩
      obtain rfl : k = m := Int.le_antisymm (k2 m m1) (m2 k k1)
      exact give_d (.int _) g
    · obtain ⟨m, e3, rfl⟩ := Option.map_eq_some_iff.mp e
      obtain ⟨u, rfl, r1⟩ := vals1 r
      exact min_of_lst hc hu I r1 h1 h2 e3 g
  · cases e

/-! ### built-ins of two -/
def rB2 (K : PySem.W.Frag) (o : B2) : List V → Hp → VK → Prop := fun vs H Q => ∃ P v w dx dy z, vs = [v, w] ∧ (∀ a, P a → H a ≠ none) ∧ RF H P v dx ∧ RF H P w dy ∧ b2 o dx dy = some z ∧ Gives H P z Q
def b2V : B2 → Value
  | .max => .builtin "max" | .min => .builtin "min" | .divmod => .builtin "divmod" | .gcd => .builtin "math.gcd" | .join => .builtin "str.join" | .maxd => .builtin "max"
theorem join_eq (s : List Nat) : ∀ ss : List (List Nat), Txt.join (mkS s) (ss.map mkS) = mkS (joinL s ss) := by
  intro ss
  unfold Txt.join
  rw [PySem.StrLaws.glued_eq_join]
  have go : ∀ ss : List (List Nat), Str.join (mkS s) (ss.map mkS) = mkS (joinL s ss) := by
    intro ss
    induction ss with
    | nil => rfl
    | cons x xs ih =>
      cases xs with
      | nil => rfl
      | cons y ys =>
        show mkS x ++ mkS s ++ Str.join (mkS s) ((y :: ys).map mkS) = mkS (x ++ s ++ joinL s (y :: ys))
        rw [ih]
        unfold mkS
        rw [str_cat, str_cat]
  exact go ss
theorem joinL_mem (s : List Nat) : ∀ (ss : List (List Nat)) (c : Nat), c ∈ joinL s ss → c ∈ s ∨ ∃ t ∈ ss, c ∈ t
  | [], c, h => by cases h
  | [x], c, h => .inr ⟨x, by simp, h⟩
  | x :: y :: ys, c, h => by
    have h : c ∈ x ++ s ++ joinL s (y :: ys) := h
    rcases List.mem_append.mp h with h | h
    · rcases List.mem_append.mp h with h | h
      · exact .inr ⟨x, by simp, h⟩
      · exact .inl h
    · rcases joinL_mem s (y :: ys) c h with h | ⟨t, h1, h2⟩
      · exact .inl h
      · exact .inr ⟨t, List.mem_cons_of_mem _ h1, h2⟩
theorem joinL_len (s : List Nat) : ∀ ss : List (List Nat), (joinL s ss).length ≤ (ss.map List.length).sum + ss.length * s.length
  | [] => by simp [joinL]
  | [x] => by simp [joinL]
  | x :: y :: ys => by
    have h := joinL_len s (y :: ys)
    show (x ++ s ++ joinL s (y :: ys)).length ≤ _
    simp only [List.length_append, List.map_cons, List.sum_cons, List.length_cons, Nat.add_mul, Nat.one_mul] at h ⊢
    omega
end Pu

set_option Elab.async false
set_option maxRecDepth 100000
set_option maxHeartbeats 2000000
namespace Pu
open PySem L2 PyProof.Rows

section
variable {K : PySem.W.Frag} {H H' H1 H2 : Hp} {W : Addr → Prop} {σ : L2.St} {ρ ρ' ρ1 ρ2 : Env} {O O' O1 O2 S S1 S2 : List Addr} {vs us : List V} {rs qs : List R} {v w : V} {r r1 r2 : R}
theorem RRs.one {P : Addr → Prop} (h : RRs K H P σ [v] [r] S) : RR K H P σ v r S := by
  cases h with
  | cons h1 h2 => cases h2; rw [List.append_nil]; exact h1
theorem RRs.two {P : Addr → Prop} (h : RRs K H P σ [v, w] [r1, r2] S) : ∃ S1 S2, S = S1 ++ S2 ∧ RR K H P σ v r1 S1 ∧ RR K H P σ w r2 S2 := by
  cases h with
  | cons h1 h2 => exact ⟨_, _, rfl, h1, h2.one⟩
theorem RRs.len {P : Addr → Prop} : ∀ {rs : List R} {vs : List V} {S : List Addr}, RRs K H P σ vs rs S → vs.length = rs.length
  | [], _, _, h => by cases h; rfl
  | r :: rs, _, _, h => by
    cases h with
    | cons _ h2 => simp [RRs.len h2]
theorem Post.away (p : Post K H W O σ H' O' S vs rs ρ') (ok : Okk K H W σ ρ O) : ∀ b ∈ S, ¬ (W b ∨ b ∈ O') := fun b hb z => z.elim (fun z => (p.wkeep ok z).1.2 hb) fun z => p.disj hb z
theorem Post.hp (p : Post K H W O σ H' O' S vs rs ρ') (ok : Okk K H W σ ρ O) : ∀ a, (W a ∨ a ∈ O') → H' a ≠ none := fun a z => z.elim (fun z => (p.wkeep ok z).2) fun z => p.tr a (.inl z)
theorem Post.sub : ∀ b, (W b ∨ b ∈ O') → Pp W O' S b := fun b z => z.elim .inl fun z => .inr (.inl z)
theorem Post.rf (p : Post K H W O σ H' O' S vs rs ρ') (ok : Okk K H W σ ρ O) {d : D} (h : RR K H' (Pp W O' S) σ v r S1) (sub : ∀ b ∈ S1, b ∈ S) (e : fdat ρ' r = some d) : RF H' (fun a => W a ∨ a ∈ O') v d :=
  fdat_ok p.re h e Post.sub fun b hb => p.away ok b (sub b hb)
theorem Post.rg (p : Post K H W O σ H' O' S vs rs ρ') (ok : Okk K H W σ ρ O) {d : D} (h : RR K H' (Pp W O' S) σ v r S1) (sub : ∀ b ∈ S1, b ∈ S) (e : gdat ρ' r = some d) : RG K H' (fun a => W a ∨ a ∈ O') v d :=
  gdat_ok p.re h e Post.sub fun b hb => p.away ok b (sub b hb)
theorem Post.give (p : Post K H W O σ H' O' S vs rs ρ') (ok : Okk K H W σ ρ O) {z : Val} {Q : VK} (k : ∀ H2 S2 v, Post K H W O σ H2 O' S2 [v] [.v z] ρ' → Q v H2) : Gives H' (fun a => W a ∨ a ∈ O') z Q :=
  fun H2 S2 v grow fresh nd tr rv => k H2 S2 v (p.fin ok grow (fun b h => .inr (fresh b h)) nd tr (.v rv))
/-- a result that is data already -/
theorem Post.giveD (p : Post K H W O σ H' O' S vs rs ρ') (ok : Okk K H W σ ρ O) {z : D} {Q : VK} (k : ∀ H2 S2 v, Post K H W O σ H2 O' S2 [v] [.v (.d z)] ρ' → Q v H2) (h : RD H' (fun a => W a ∨ a ∈ O') v z) : Q v H' :=
  give_d h (p.give ok k)
theorem append_left_mem {α : Type} {a b : List α} : ∀ x ∈ a, x ∈ a ++ b := fun _ h => List.mem_append_left _ h
theorem append_right_mem {α : Type} {a b : List α} : ∀ x ∈ b, x ∈ a ++ b := fun _ h => List.mem_append_right _ h
variable {M : Mach} {A B : E}
theorem tE_one {Rq : V → Hp → Prop} (ok : Okk K H W σ ρ O) (ha : ev M A ρ = some (r1, ρ1)) (k : ∀ H1 O1 S x, Post K H W O σ H1 O1 S [x] [r1] ρ1 → Rq x H1) : tE K M A σ H Rq := ⟨W, ρ, O, r1, ρ1, ok, ha, k⟩
theorem tE_two {Rq : V → V → Hp → Prop} (ok : Okk K H W σ ρ O) (ha : ev M A ρ = some (r1, ρ1)) (hb : ev M B ρ1 = some (r2, ρ2)) (k : ∀ H2 O2 S x y, Post K H W O σ H2 O2 S [x, y] [r1, r2] ρ2 → Rq x y H2) :
    tE K M A σ H fun x H1 => tE K M B σ H1 fun y H2 => Rq x y H2 :=
  ⟨W, ρ, O, r1, ρ1, ok, ha, fun H1 O1 S1 x p1 => ⟨_, ρ1, O1, r2, ρ2, p1.ok ok, hb, fun H2 O2 S2 y p2 => k H2 O2 _ x y (p1.trans ok p2)⟩⟩
end

/-! ### expressions, one by one -/
section
variable {X : Cx} {M : Mach} {a b c : Expr} {A B G : E} {pos : Pos}
abbrev SE (X : Cx) (M : Mach) (a : Expr) (A : E) : Prop := PE X a (tE X.K M A)
theorem se_var {i : Nat} {x : Str} (hN : X.N[i]? = some x) (hv : Vis X.env.scope x) (h1 : (x == ("__debug__" : Str)) = false) (h2 : (x == ("__classdict__" : Str)) = false) : SE X M (.Name x pos) (.var i) := by
  refine (pe_var hN hv h1 h2).imp fun σ H Q ⟨W, ρ, O, r, ρ', ok, he, k⟩ => ?_
  have same : ρ' = ρ := by
    unfold ev at he
    split at he <;> first | (cases he; rfl) | cases he
  subst same
  have main : ∀ {s : Slot}, ρ'[i]? = some s → ∃ o S, σ[i]? = some o ∧ RS X.K H (Pp W O []) o s S := fun {s} e => by
    obtain ⟨A, S, B, o, _, e2, r, _⟩ := ok.re.at e
    exact ⟨o, S, e2, r⟩
  have fin : ∀ {v : V}, σ[i]? = some (some v) → RR X.K H (Pp W O []) σ v r [] → tVar i σ H Q := fun {v} e rr => by
    refine ⟨v, e, k H O [] v ?_⟩
    have p := ok.refl
    exact p.fin ok (fun _ _ e => e) (fun _ z => nomatch z) List.nodup_nil (fun _ z => nomatch z) (rr.fut (fut_same fun b z => by
      rcases z with (z | z) | z
      · exact .inl z
      · exact .inr (.inl z)
      · exact nomatch z) fun _ z => nomatch z)
  unfold ev at he
  split at he
  · rename_i x e
    cases he
    obtain ⟨o, S, e2, r⟩ := main e
    cases r with
    | lo r => cases r with | d r => exact fin e2 (.v (.d r))
  · rename_i x e
    cases he
    obtain ⟨o, S, e2, r⟩ := main e
    cases r with
    | lo r => exact fin e2 (.pk e2)
  · rename_i x e
    cases he
    obtain ⟨o, S, e2, r⟩ := main e
    cases r with
    | rd r => exact fin e2 (.rd r)
  · cases he
/-- a constant -/
theorem se_cst {v : V} {x : D} (h : PE X a (tC v)) (hx : ∀ H P, RD H P v x) : SE X M a (.cst x) := by
  refine h.imp fun σ H Q ⟨W, ρ, O, r, ρ', ok, he, k⟩ => ?_
  unfold ev at he
  cases he
  exact (ok.refl).giveD ok (fun H2 S2 v p => k H2 O S2 v p) (hx _ _)
theorem se_bin (o : Op) (ha : SE X M a A) (hb : SE X M b B) : SE X M (.BinOp a (opP o) b pos) (.bin o A B) := by
  refine (pe_op (bin_ok o) ha hb).imp fun σ H Q ⟨W, ρ, O, r, ρ', ok, he, k⟩ => ?_
  unfold ev at he
  obtain ⟨⟨r1, ρ1⟩, e1, he⟩ := Option.bind_eq_some_iff.mp he
  obtain ⟨⟨r2, ρ2⟩, e2, he⟩ := Option.bind_eq_some_iff.mp he
  obtain ⟨x, e3, he⟩ := Option.bind_eq_some_iff.mp he
  obtain ⟨y, e4, he⟩ := Option.bind_eq_some_iff.mp he
  obtain ⟨z, e5, he⟩ := Option.map_eq_some_iff.mp he
  cases he
  refine tE_two ok e1 e2 fun H2 O2 S u w p => ?_
  obtain ⟨S1, S2, rfl, h1, h2⟩ := p.rr.two
  exact ⟨_, x, y, z, p.hp ok, p.rf ok h1 append_left_mem e3, p.rf ok h2 append_right_mem e4, e5, p.give ok fun H3 S3 v q => k _ _ _ _ q⟩
theorem se_cmp (hu : X.A.units + 65 < cLine) (o : Cm) (ha : SE X M a A) (hb : SE X M b B) (hm : behindInMarks (cmP o) b = false) : SE X M (.Compare a [cmP o] [b] pos) (.cmp o A B) := by
  refine (pe_cmpR (cmp_ok hu o) ha hb hm).imp fun σ H Q ⟨W, ρ, O, r, ρ', ok, he, k⟩ => ?_
  unfold ev at he
  obtain ⟨⟨r1, ρ1⟩, e1, he⟩ := Option.bind_eq_some_iff.mp he
  obtain ⟨⟨r2, ρ2⟩, e2, he⟩ := Option.bind_eq_some_iff.mp he
  obtain ⟨x, e3, he⟩ := Option.bind_eq_some_iff.mp he
  obtain ⟨y, e4, he⟩ := Option.bind_eq_some_iff.mp he
  obtain ⟨z, e5, he⟩ := Option.map_eq_some_iff.mp he
  cases he
  refine tE_two ok e1 e2 fun H2 O2 S u w p => ?_
  obtain ⟨S1, S2, rfl, h1, h2⟩ := p.rr.two
  exact ⟨x, y, z, dat_ok p.re h1 e3, dat_ok p.re h2 e4, e5, p.giveD ok (fun H3 S3 v q => k _ _ _ _ q) (.bl _)⟩
theorem se_idx (ha : SE X M a A) (hb : SE X M b B) (hs : PlainIx b) : SE X M (.Subscript a b pos) (.idx A B) := by
  refine (pe_ix idx_ok ha hb hs).imp fun σ H Q ⟨W, ρ, O, r, ρ', ok, he, k⟩ => ?_
  unfold ev at he
  obtain ⟨⟨r1, ρ1⟩, e1, he⟩ := Option.bind_eq_some_iff.mp he
  obtain ⟨⟨r2, ρ2⟩, e2, he⟩ := Option.bind_eq_some_iff.mp he
  obtain ⟨x, e3, he⟩ := Option.bind_eq_some_iff.mp he
  obtain ⟨y, e4, he⟩ := Option.bind_eq_some_iff.mp he
  obtain ⟨z, e5, he⟩ := Option.map_eq_some_iff.mp he
  cases he
  refine tE_two ok e1 e2 fun H2 O2 S u w p => ?_
  obtain ⟨S1, S2, rfl, h1, h2⟩ := p.rr.two
  exact ⟨_, x, y, z, p.rg ok h1 append_left_mem e3, dat_ok p.re h2 e4, e5, fun v hv => p.giveD ok (fun H3 S3 v q => k _ _ _ _ q) hv⟩
theorem se_neg (ha : SE X M a A) : SE X M (.UnaryOp .USub a pos) (.neg A) := by
  refine (pe_un un_neg ha).imp fun σ H Q ⟨W, ρ, O, r, ρ', ok, he, k⟩ => ?_
  unfold ev at he
  obtain ⟨⟨r1, ρ1⟩, e1, he⟩ := Option.bind_eq_some_iff.mp he
  obtain ⟨x, e3, he⟩ := Option.bind_eq_some_iff.mp he
  split at he
  · cases he
    refine tE_one ok e1 fun H2 O2 S u p => ?_
    have h := dat_ok p.re p.rr.one e3
    cases h
    exact ⟨_, rfl, p.giveD ok (fun H3 S3 v q => k _ _ _ _ q) (.int _)⟩
  · cases he
/-- a result that is a truth value -/
theorem RR.bl_inv {K : PySem.W.Frag} {H : Hp} {P : Addr → Prop} {σ : L2.St} {v : V} {b : Bool} {S : List Addr} (h : RR K H P σ v (.v (.d (.bl b))) S) : v = .bl b ∧ S = [] := by
  cases h with
  | v h => cases h with | d h => cases h; exact ⟨rfl, rfl⟩
theorem RR.int_inv {K : PySem.W.Frag} {H : Hp} {P : Addr → Prop} {σ : L2.St} {v : V} {b : Int} {S : List Addr} (h : RR K H P σ v (.v (.d (.int b))) S) : v = .int b ∧ S = [] := by
  cases h with
  | v h => cases h with | d h => cases h; exact ⟨rfl, rfl⟩
theorem se_not (ha : SE X M a A) : SE X M (.UnaryOp .Not a pos) (.not A) := by
  refine (pe_not ha).imp fun σ H Q ⟨W, ρ, O, r, ρ', ok, he, k⟩ => ?_
  unfold ev at he
  obtain ⟨⟨r1, ρ1⟩, e1, he⟩ := Option.bind_eq_some_iff.mp he
  split at he
  · rename_i b eb
    cases he
    simp only at eb
    subst eb
    refine tE_one ok e1 fun H2 O2 S u p => ?_
    obtain ⟨rfl, rfl⟩ := p.rr.one.bl_inv
    exact ⟨_, rfl, p.giveD ok (fun H3 S3 v q => k _ _ _ _ q) (.bl _)⟩
  · cases he
theorem Post.drop {K : PySem.W.Frag} {H H' : Hp} {W : Addr → Prop} {σ : L2.St} {ρ' : Env} {O O' : List Addr} {vs : List V} {rs : List R} (p : Post K H W O σ H' O' [] vs rs ρ') : Post K H W O σ H' O' [] [] [] ρ' :=
  ⟨p.keep, p.new, p.re, .nil, p.nd, p.tr⟩
theorem okk_nil {K : PySem.W.Frag} {H : Hp} {W : Addr → Prop} {σ : L2.St} {ρ : Env} {O : List Addr} (h : Okk K H (fun a => W a ∨ a ∈ ([] : List Addr)) σ ρ O) : Okk K H W σ ρ O :=
  ⟨h.re.fut (fut_same fun b z => z.elim (fun z => .inl (.inl z)) .inr) fun _ _ _ e => e, h.nd, fun a z => h.w a (.inl z), h.tr⟩
/-- one behind another, nothing kept of the first -/
theorem Post.next {K : PySem.W.Frag} {H H1 H2 : Hp} {W : Addr → Prop} {σ : L2.St} {ρ ρ1 ρ2 : Env} {O O1 O2 S2 : List Addr} {us : List V} {qs : List R} (p : Post K H W O σ H1 O1 [] [] [] ρ1) (ok : Okk K H W σ ρ O) (q : Post K H1 W O1 σ H2 O2 S2 us qs ρ2) : Post K H W O σ H2 O2 S2 us qs ρ2 := by
  have q' : Post K H1 (fun a => W a ∨ a ∈ ([] : List Addr)) O1 σ H2 O2 S2 us qs ρ2 := by
    have sm : ∀ b, Pp (fun a => W a ∨ a ∈ ([] : List Addr)) O2 S2 b → Pp W O2 S2 b := fun b z => by
      rcases z with (z | z) | z
      · exact .inl z
      · exact nomatch z
      · exact .inr z
    exact ⟨q.keep, q.new, q.re.fut (fut_same sm) fun _ _ _ e => e, q.rr.fut (fut_same sm) fun _ _ _ e => e, q.nd, q.tr⟩
  exact p.trans ok q'
theorem se_and {rest : List Expr} (ha : SE X M a A) (hb : SE X M (.BoolOp .And (b :: rest) pos) B) : SE X M (.BoolOp .And (a :: b :: rest) pos) (.and A B) := by
  refine (pe_and ha hb).imp fun σ H Q ⟨W, ρ, O, r, ρ', ok, he, k⟩ => ?_
  unfold ev at he
  obtain ⟨⟨r1, ρ1⟩, e1, he⟩ := Option.bind_eq_some_iff.mp he
  split at he
  · rename_i eb
    simp only at eb
    subst eb
    refine tE_one ok e1 fun H2 O2 S u p => ?_
    obtain ⟨rfl, rfl⟩ := p.rr.one.bl_inv
    refine ⟨true, rfl, ?_⟩
    rw [if_pos rfl]
    exact ⟨W, ρ1, O2, r, ρ', okk_nil (p.ok ok), he, fun H3 O3 S3 v q => k _ _ _ _ (p.drop.next ok q)⟩
  · rename_i eb
    simp only at eb
    subst eb
    cases he
    refine tE_one ok e1 fun H2 O2 S u p => ?_
    obtain ⟨rfl, rfl⟩ := p.rr.one.bl_inv
    refine ⟨false, rfl, ?_⟩
    rw [if_neg (by decide)]
    exact k _ _ _ _ p
  · cases he
theorem se_or {rest : List Expr} (ha : SE X M a A) (hb : SE X M (.BoolOp .Or (b :: rest) pos) B) : SE X M (.BoolOp .Or (a :: b :: rest) pos) (.or A B) := by
  refine (pe_or ha hb).imp fun σ H Q ⟨W, ρ, O, r, ρ', ok, he, k⟩ => ?_
  unfold ev at he
  obtain ⟨⟨r1, ρ1⟩, e1, he⟩ := Option.bind_eq_some_iff.mp he
  split at he
  · rename_i eb
    simp only at eb
    subst eb
    cases he
    refine tE_one ok e1 fun H2 O2 S u p => ?_
    obtain ⟨rfl, rfl⟩ := p.rr.one.bl_inv
    refine ⟨true, rfl, ?_⟩
    rw [if_pos rfl]
    exact k _ _ _ _ p
  · rename_i eb
    simp only at eb
    subst eb
    refine tE_one ok e1 fun H2 O2 S u p => ?_
    obtain ⟨rfl, rfl⟩ := p.rr.one.bl_inv
    refine ⟨false, rfl, ?_⟩
    rw [if_neg (by decide)]
    exact ⟨W, ρ1, O2, r, ρ', okk_nil (p.ok ok), he, fun H3 O3 S3 v q => k _ _ _ _ (p.drop.next ok q)⟩
  · cases he
end
end Pu

set_option Elab.async false
set_option maxRecDepth 100000
set_option maxHeartbeats 2000000
namespace Pu
open PySem L2 PyProof.Rows

/-! ### freezing: an own list of a slot becomes shared data -/
section
variable {K : PySem.W.Frag} {H : Hp} {W : Addr → Prop} {σ : L2.St} {ρ ρ' : Env} {O S S0 : List Addr}
theorem mono_pp {O O' S : List Addr} (h : O'.Sublist O) : ∀ b, Pp W O' S b → Pp W O S b := fun b z => by
  rcases z with z | z | z
  · exact .inl z
  · exact .inr (.inl (h.subset z))
  · exact .inr (.inr z)
theorem freeze_ok {i : Nat} {x : Val} (nd : (O ++ S).Nodup) (nw : ∀ b ∈ O, ¬ W b) (h : RE K H (Pp W O S) σ ρ O) (g : getS ρ i = some x) :
    ∃ O' u, O'.Sublist O ∧ σ[i]? = some (some u) ∧ RE K H (Pp W O' S) σ (putS ρ i (.d x.data)) O' ∧ RD H (Pp W O' S) u x.data := by
  have main : ∀ {s s' : Slot} {u : V} {A S1 B : List Addr}, O = A ++ (S1 ++ B) → σ[i]? = some (some u) → RV H (Pp W O S) u x S1 → (∀ o' s' S', RS K H (Pp W O S) o' s' S' → RE K H (Pp W O S) (σ.set i o') (ρ.set i s') (A ++ (S' ++ B))) →
      (∀ P, RV H P u (.d x.data) [] → RS K H P (some u) s' []) →
      ∃ O' u, O'.Sublist O ∧ σ[i]? = some (some u) ∧ RE K H (Pp W O' S) σ (ρ.set i s') O' ∧ RD H (Pp W O' S) u x.data := fun {s s' u A S1 B} e eu rv k hs' => by
    have sub : (A ++ B).Sublist O := by
      rw [e]
      exact List.Sublist.append (List.Sublist.refl _) (List.sublist_append_right ..)
    have nd1 := (List.nodup_append.mp nd)
    have apart : ∀ b ∈ S1, ¬ Pp W (A ++ B) S b := fun b hb z => by
      have hbO : b ∈ O := by rw [e]; exact List.mem_append_right _ (List.mem_append_left _ hb)
      rcases z with z | z | z
      · exact nw b hbO z
      · have n := nd1.1
        rw [e] at n
        have n1 := List.nodup_append.mp n
        have n2 := List.nodup_append.mp n1.2.1
        rcases List.mem_append.mp z with z | z
        · exact n1.2.2 b z b (List.mem_append_left _ hb) rfl
        · exact n2.2.2 b hb b z rfl
      · exact nd1.2.2 b hbO b z rfl
    have rd : RD H (Pp W (A ++ B) S) u x.data := rv.share (mono_pp sub) apart
    refine ⟨A ++ B, u, sub, eu, ?_, rd⟩
    have r1 := k (some u) .un [] (.un _)
    have r2 : RE K H (Pp W (A ++ B) S) (σ.set i (some u)) (ρ.set i .un) (A ++ ([] ++ B)) := r1.fut (fut_same (mono_pp sub)) fun _ _ _ e => e
    have hi : i < ρ.length := by
      rw [← h.length]
      exact (List.getElem?_eq_some_iff.mp eu).1
    have e3 : σ.set i (some u) = σ := by
      obtain ⟨h1, h2⟩ := List.getElem?_eq_some_iff.mp eu
      rw [← h2, List.set_getElem_self]
    rw [e3, List.nil_append] at r2
    obtain ⟨A', S', B', o', e4, e5, r4, k4⟩ := r2.at (i := i) (s := .un) (by rw [List.getElem?_set_self hi])
    cases r4
    have r5 := k4 (some u) s' [] (hs' _ (.d rd))
    rw [e3, List.set_set, List.nil_append] at r5
    rw [List.nil_append] at e4
    rw [← e4] at r5
    exact r5
  unfold getS at g
  split at g
  · rename_i y q
    cases g
    obtain ⟨A, S1, B, o, e1, e2, r, k⟩ := h.at q
    cases r with
    | lo r =>
      have := main (s := .lo x) (s' := .lo (.d x.data)) e1 e2 r k fun P h => .lo h
      exact this
  · cases g
theorem RVs.mono {P P' : Addr → Prop} {vs : List V} {xs : List Val} (h : RVs H P vs xs S) (k : ∀ b, P' b → P b) : RVs H P' vs xs S := h.fut (fut_same k) fun _ _ _ e => e
theorem RV.mono {P P' : Addr → Prop} {v : V} {x : Val} (h : RV H P v x S) (k : ∀ b, P' b → P b) : RV H P' v x S := h.fut (fut_same k) fun _ _ _ e => e
theorem esc_ok {r : R} {v : V} {x : Val} (nd : (O ++ S).Nodup) (nw : ∀ b ∈ O, ¬ W b) (h : RE K H (Pp W O S) σ ρ O) (r0 : RR K H (Pp W O S) σ v r S0) (e : esc ρ r = some (x, ρ')) :
    ∃ O', O'.Sublist O ∧ RE K H (Pp W O' S) σ ρ' O' ∧ RV H (Pp W O' S) v x S0 := by
  cases r0 with
  | v r0 => cases e; exact ⟨O, List.Sublist.refl _, h, r0⟩
  | pk q =>
    simp only [esc] at e
    split at e
    · rename_i y g
      cases e
      obtain ⟨O', u, s1, eu, r1, r2⟩ := freeze_ok nd nw h g
      rw [q] at eu; cases eu
      exact ⟨O', s1, r1, .d r2⟩
    · cases e
  | rd q => cases e
theorem nodup_sub {O O' S : List Addr} (s : O'.Sublist O) (nd : (O ++ S).Nodup) : (O' ++ S).Nodup := nd.sublist (List.Sublist.append s (List.Sublist.refl _))
theorem escs_ok : ∀ {rs : List R} {vs : List V} {xs : List Val} {S0 : List Addr} {ρ ρ' : Env} {O : List Addr}, (O ++ S).Nodup → (∀ b ∈ O, ¬ W b) → RE K H (Pp W O S) σ ρ O → RRs K H (Pp W O S) σ vs rs S0 → escs ρ rs = some (xs, ρ') →
    ∃ O', O'.Sublist O ∧ RE K H (Pp W O' S) σ ρ' O' ∧ RVs H (Pp W O' S) vs xs S0
  | [], _, _, _, ρ, _, O, nd, nw, h, r0, e => by
    cases r0; cases e
    exact ⟨O, List.Sublist.refl _, h, .nil⟩
  | r :: rs, _, _, _, ρ, _, O, nd, nw, h, r0, e => by
    cases r0 with
    | cons r1 r2 =>
      simp only [escs] at e
      obtain ⟨⟨x, ρ1⟩, e1, e⟩ := Option.bind_eq_some_iff.mp e
      obtain ⟨⟨xs, ρ2⟩, e2, e3⟩ := Option.map_eq_some_iff.mp e
      cases e3
      obtain ⟨O1, s1, h1, v1⟩ := esc_ok nd nw h r1 e1
      obtain ⟨O2, s2, h2, v2⟩ := escs_ok (nodup_sub s1 nd) (fun b hb => nw b (s1.subset hb)) h1 (r2.fut (fut_same (mono_pp s1)) fun _ _ _ e => e) e2
      exact ⟨O2, s2.trans s1, h2, .cons (v1.mono (mono_pp s2)) v2⟩
end
section
variable {K : PySem.W.Frag} {H H' H1 H2 : Hp} {W : Addr → Prop} {σ : L2.St} {ρ ρ' ρ1 ρ2 : Env} {O O' O1 O2 S S1 S2 : List Addr} {vs us : List V} {rs qs : List R} {v w : V} {r r1 r2 : R}
theorem RVs.rr {P : Addr → Prop} : ∀ {xs : List Val} {vs : List V} {S : List Addr}, RVs H P vs xs S → RRs K H P σ vs (xs.map R.v) S
  | [], _, _, h => by cases h; exact .nil
  | x :: xs, _, _, h => by
    cases h with
    | cons h1 h2 => exact .cons (.v h1) (RVs.rr h2)
/-- fewer own lists, other results at the same places -/
theorem Post.less (p : Post K H W O σ H' O' S vs rs ρ') (s : O1.Sublist O') (re : RE K H' (Pp W O1 S) σ ρ1 O1) (rr : RRs K H' (Pp W O1 S) σ us qs S) : Post K H W O σ H' O1 S us qs ρ1 :=
  ⟨p.keep, fun b h => p.new b (h.imp (fun z => s.subset z) id), re, rr, nodup_sub s p.nd, fun b h => p.tr b (h.imp (fun z => s.subset z) id)⟩
theorem Post.nw (p : Post K H W O σ H' O' S vs rs ρ') (ok : Okk K H W σ ρ O) : ∀ b ∈ O', ¬ W b := fun b hb z => (p.wkeep ok z).1.1 hb
theorem Post.escs (p : Post K H W O σ H' O' S vs rs ρ') (ok : Okk K H W σ ρ O) {xs : List Val} (e : Pu.escs ρ' rs = some (xs, ρ1)) :
    ∃ O1, Post K H W O σ H' O1 S vs (xs.map R.v) ρ1 ∧ RVs H' (Pp W O1 S) vs xs S := by
  obtain ⟨O1, s, h, r⟩ := escs_ok p.nd (p.nw ok) p.re p.rr e
  exact ⟨O1, p.less s h r.rr, r⟩
theorem Post.esc (p : Post K H W O σ H' O' S [v] [r] ρ') (ok : Okk K H W σ ρ O) {x : Val} (e : Pu.esc ρ' r = some (x, ρ1)) :
    ∃ O1, Post K H W O σ H' O1 S [v] [.v x] ρ1 ∧ RV H' (Pp W O1 S) v x S := by
  obtain ⟨O1, s, h, r⟩ := esc_ok p.nd (p.nw ok) p.re p.rr.one e
  refine ⟨O1, p.less s h ?_, r⟩
  have q : RRs K H' (Pp W O1 S) σ [v] [.v x] (S ++ []) := .cons (.v r) .nil
  rwa [List.append_nil] at q
end
section
variable {X : Cx} {M : Mach} {a b c : Expr} {es : List Expr} {A B G : E} {As : Es} {pos : Pos}
abbrev SA (X : Cx) (M : Mach) (es : List Expr) (As : Es) : Prop := PA X es (tEs X.K M As)
abbrev ST (X : Cx) (M : Mach) (a : Expr) (A : T) : Prop := PT X a (tT X.K M A)
theorem sa_nil : SA X M [] .nil := by
  refine pa_nil.imp fun σ H Q ⟨W, ρ, O, rs, ρ', ok, he, k⟩ => ?_
  unfold evs at he
  cases he
  exact k H O [] [] ok.refl
theorem sa_cons (ha : SE X M a A) (hs : SA X M es As) (st : starEach (a :: es) X.env = (false, eval a X.env) :: starEach es X.env) : SA X M (a :: es) (.cons A As) := by
  refine (pa_cons ha hs st).imp fun σ H Q ⟨W, ρ, O, rs, ρ', ok, he, k⟩ => ?_
  unfold evs at he
  obtain ⟨⟨r1, ρ1⟩, e1, he⟩ := Option.bind_eq_some_iff.mp he
  obtain ⟨⟨rs, ρ2⟩, e2, e3⟩ := Option.map_eq_some_iff.mp he
  cases e3
  exact ⟨W, ρ, O, r1, ρ1, ok, e1, fun H1 O1 S1 x p1 => ⟨_, ρ1, O1, rs, ρ2, p1.ok ok, e2, fun H2 O2 S2 ys p2 => k H2 O2 _ (x :: ys) (p1.trans ok p2)⟩⟩
theorem se_tup {n : Nat} (h : SA X M es As) : SE X M (.Tuple es n pos) (.tup As) := by
  refine (pe_tup h).imp fun σ H Q ⟨W, ρ, O, r, ρ', ok, he, k⟩ => ?_
  unfold ev at he
  obtain ⟨⟨rs, ρ1⟩, e1, he⟩ := Option.bind_eq_some_iff.mp he
  obtain ⟨⟨xs, ρ2⟩, e2, he⟩ := Option.bind_eq_some_iff.mp he
  split at he
  · rename_i hl
    cases he
    refine ⟨W, ρ, O, rs, ρ1, ok, e1, fun H1 O1 S vs p => ?_⟩
    obtain ⟨O2, q, rv⟩ := p.escs ok e2
    refine ⟨by rw [rv.length]; exact hl, fun t ht => ?_⟩
    exact give_tup (q.hp ok) (rv.share Post.sub (q.away ok)) (q.give ok fun H2 S2 v z => k _ _ _ _ z) ht
  · cases he
theorem se_lst (h : SA X M es As) : SE X M (.List es pos) (.lst As) := by
  refine (pe_lst h).imp fun σ H Q ⟨W, ρ, O, r, ρ', ok, he, k⟩ => ?_
  unfold ev at he
  obtain ⟨⟨rs, ρ1⟩, e1, he⟩ := Option.bind_eq_some_iff.mp he
  obtain ⟨⟨xs, ρ2⟩, e2, he⟩ := Option.bind_eq_some_iff.mp he
  split at he
  · rename_i hl
    cases he
    refine ⟨W, ρ, O, rs, ρ1, ok, e1, fun H1 O1 S vs p => ?_⟩
    obtain ⟨O2, q, rv⟩ := p.escs ok e2
    refine ⟨by rw [rv.length]; exact hl, fun t ht => ?_⟩
    have hS : ∀ b ∈ S, H1 b ≠ none := fun b hb => q.tr b (.inr hb)
    have tS : t ∉ S := fun z => hS t z ht
    refine k _ O2 (t :: S) _ (q.fin ok (grow_new ht) (fun b hb => ?_) (List.nodup_cons.mpr ⟨tS, (List.nodup_append.mp q.nd).2.1⟩) (fun b hb => ?_) (.v (.ol upd_same ?_)))
    · rcases List.mem_cons.mp hb with rfl | hb
      · exact .inr ht
      · exact .inl hb
    · rcases List.mem_cons.mp hb with rfl | hb
      · rw [upd_same]; exact fun z => nomatch z
      · obtain ⟨o, e⟩ := some_of_ne (hS b hb)
        rw [grow_new ht b o e]; exact fun z => nomatch z
    · refine rv.fut (fun b o e n => ⟨grow_new ht b o e, fun z => ?_⟩) fun b hb o e => grow_new ht b o e
      rcases z with (z | z) | z
      · exact n (.inl z)
      · exact n (.inr (.inl z))
      · rcases List.mem_cons.mp z with rfl | z
        · rw [ht] at e; cases e
        · exact n (.inr (.inr z))
  · cases he
/-! ### tests -/
theorem st_tr (ha : SE X M a A) (he : ∀ whole, isTrue a X.env whole = (do let v ← whole; standAt a.pos; holding [v] (truthy v))) : ST X M a (.tr A) := by
  refine (pt_truth ha he).imp fun σ H Q ⟨W, ρ, O, b, ρ', ok, he, k⟩ => ?_
  unfold evT at he
  obtain ⟨⟨r1, ρ1⟩, e1, he⟩ := Option.bind_eq_some_iff.mp he
  obtain ⟨x, e2, e3⟩ := Option.map_eq_some_iff.mp he
  cases e3
  refine tE_one ok e1 fun H2 O2 S u p => ?_
  refine ⟨_, tru_of (ndat_ok p.re p.rr.one e2), k H2 O2 ?_⟩
  have q := p.fin (H2 := H2) (S2 := []) ok (fun _ _ e => e) (fun _ z => nomatch z) List.nodup_nil (fun _ z => nomatch z) (z := .v (.d .non)) (v := .non) (.v (.d .non))
  exact q.drop
/-- a comparison as a test -/
theorem st_cmp (hu : X.A.units + 65 < cLine) (o : Cm) (ha : SE X M a A) (hb : SE X M b B) (hm : behindInMarks (cmP o) b = false) : ST X M (.Compare a [cmP o] [b] pos) (.tr (.cmp o A B)) := by
  refine (pt_cmpR (cmp_ok hu o) ha hb hm).imp fun σ H Q ⟨W, ρ, O, bb, ρ', ok, he, k⟩ => ?_
  unfold evT at he
  obtain ⟨⟨r1, ρ1⟩, e1, he⟩ := Option.bind_eq_some_iff.mp he
  obtain ⟨xx, e2, e3⟩ := Option.map_eq_some_iff.mp he
  cases e3
  have he' := e1
  clear e1
  unfold ev at he'
  obtain ⟨⟨r1, ρ1⟩, e1, he⟩ := Option.bind_eq_some_iff.mp he'
  obtain ⟨⟨r2, ρ2⟩, e2', he⟩ := Option.bind_eq_some_iff.mp he
  obtain ⟨x, e3, he⟩ := Option.bind_eq_some_iff.mp he
  obtain ⟨y, e4, he⟩ := Option.bind_eq_some_iff.mp he
  obtain ⟨z, e5, he⟩ := Option.map_eq_some_iff.mp he
  cases he
  cases e2
  show tTest _ σ H Q
  refine tE_two ok e1 e2' fun H2 O2 S u w p => ?_
  obtain ⟨S1, S2, rfl, h1, h2⟩ := p.rr.two
  refine ⟨x, y, z, dat_ok p.re h1 e3, dat_ok p.re h2 e4, e5, z, rfl, k H2 O2 ?_⟩
  have q := p.fin (H2 := H2) (S2 := []) ok (fun _ _ e => e) (fun _ z => nomatch z) List.nodup_nil (fun _ z => nomatch z) (z := .v (.d .non)) (v := .non) (.v (.d .non))
  exact q.drop
theorem st_no {t : T} (ha : ST X M a t) : ST X M (.UnaryOp .Not a pos) (.no t) := by
  refine (pt_not ha).imp fun σ H Q ⟨W, ρ, O, b, ρ', ok, he, k⟩ => ?_
  unfold evT at he
  obtain ⟨⟨b1, ρ1⟩, e1, he⟩ := Option.map_eq_some_iff.mp he
  cases he
  exact ⟨W, ρ, O, b1, ρ1, ok, e1, k⟩
abbrev SW (X : Cx) (M : Mach) (a : Expr) (A : T) : Prop := PW X a (tT X.K M A)
theorem sw_and1 {t : T} (ha : ST X M a t) : SW X M (.BoolOp .And [a] pos) t := pw_and1 ha
theorem sw_or1 {t : T} (ha : ST X M a t) : SW X M (.BoolOp .Or [a] pos) t := pw_or1 ha
theorem sw_and {t u : T} {rest : List Expr} (ha : ST X M a t) (hb : SW X M (.BoolOp .And (b :: rest) pos) u) : SW X M (.BoolOp .And (a :: b :: rest) pos) (.an t u) := by
  refine (pw_and ha hb).imp fun σ H Q ⟨W, ρ, O, bb, ρ', ok, he, k⟩ => ?_
  unfold evT at he
  obtain ⟨⟨b1, ρ1⟩, e1, he⟩ := Option.bind_eq_some_iff.mp he
  refine ⟨W, ρ, O, b1, ρ1, ok, e1, fun H1 O1 p => ?_⟩
  cases b1 with
  | true =>
    rw [if_pos rfl]
    exact ⟨W, ρ1, O1, bb, ρ', okk_nil (p.ok ok), he, fun H2 O2 q => k _ _ (p.next ok q)⟩
  | false =>
    rw [if_neg (by decide)]
    cases he
    exact k _ _ p
theorem sw_or {t u : T} {rest : List Expr} (ha : ST X M a t) (hb : SW X M (.BoolOp .Or (b :: rest) pos) u) : SW X M (.BoolOp .Or (a :: b :: rest) pos) (.orr t u) := by
  refine (pw_or ha hb).imp fun σ H Q ⟨W, ρ, O, bb, ρ', ok, he, k⟩ => ?_
  unfold evT at he
  obtain ⟨⟨b1, ρ1⟩, e1, he⟩ := Option.bind_eq_some_iff.mp he
  refine ⟨W, ρ, O, b1, ρ1, ok, e1, fun H1 O1 p => ?_⟩
  cases b1 with
  | true =>
    rw [if_pos rfl]
    cases he
    exact k _ _ p
  | false =>
    rw [if_neg (by decide)]
    exact ⟨W, ρ1, O1, bb, ρ', okk_nil (p.ok ok), he, fun H2 O2 q => k _ _ (p.next ok q)⟩
theorem se_ite {t : T} (hc : ST X M c t) (ha : SE X M a A) (hb : SE X M b B) : SE X M (.IfExp c a b pos) (.ite t A B) := by
  refine (pe_ifExp hc ha hb).imp fun σ H Q ⟨W, ρ, O, r, ρ', ok, he, k⟩ => ?_
  unfold ev at he
  obtain ⟨⟨b1, ρ1⟩, e1, he⟩ := Option.bind_eq_some_iff.mp he
  refine ⟨W, ρ, O, b1, ρ1, ok, e1, fun H1 O1 p => ?_⟩
  cases b1 with
  | true =>
    rw [if_pos rfl]
    exact ⟨W, ρ1, O1, r, ρ', okk_nil (p.ok ok), he, fun H2 O2 S2 v q => k _ _ _ _ (p.next ok q)⟩
  | false =>
    rw [if_neg (by decide)]
    exact ⟨W, ρ1, O1, r, ρ', okk_nil (p.ok ok), he, fun H2 O2 S2 v q => k _ _ _ _ (p.next ok q)⟩
end
end Pu

set_option Elab.async false
set_option maxRecDepth 100000
set_option maxHeartbeats 2000000
namespace Pu
open PySem L2 PyProof.Rows

section
variable {X : Cx} {M : Mach} {a b c e : Expr} {es : List Expr} {A B G : E} {As : Es} {pos p1 p2 p3 : Pos}
theorem RRs.three {K : PySem.W.Frag} {H : Hp} {P : Addr → Prop} {σ : L2.St} {u v w : V} {r1 r2 r3 : R} {S : List Addr} (h : RRs K H P σ [u, v, w] [r1, r2, r3] S) :
    ∃ S1 S2 S3, S = S1 ++ (S2 ++ S3) ∧ RR K H P σ u r1 S1 ∧ RR K H P σ v r2 S2 ∧ RR K H P σ w r3 S3 := by
  cases h with
  | cons h1 h2 =>
    obtain ⟨S2, S3, e, g2, g3⟩ := h2.two
    subst e
    exact ⟨_, S2, S3, rfl, h1, g2, g3⟩
theorem chn_core (hu : X.A.units + 65 < cLine) (o o' : Cm) {σ : L2.St} {H : Hp} {Q : VK} {W : Addr → Prop} {ρ ρ' : Env} {O : List Addr} {r : R} (ok : Okk X.K H W σ ρ O) (he : ev M (.chn o o' A B G) ρ = some (r, ρ')) (k : ∀ H' O' S v, Post X.K H W O σ H' O' S [v] [r] ρ' → Q v H') :
    tChain (rCmp X.K o) (rCmp X.K o') (tE X.K M A) (tE X.K M B) (tE X.K M G) σ H Q := by
  unfold ev at he
  obtain ⟨⟨r1, ρ1⟩, e1, he⟩ := Option.bind_eq_some_iff.mp he
  obtain ⟨⟨r2, ρ2⟩, e2, he⟩ := Option.bind_eq_some_iff.mp he
  obtain ⟨x, e3, he⟩ := Option.bind_eq_some_iff.mp he
  obtain ⟨y, e4, he⟩ := Option.bind_eq_some_iff.mp he
  obtain ⟨z, e5, he⟩ := Option.bind_eq_some_iff.mp he
  refine tE_two ok e1 e2 fun H2 O2 S u w p => ?_
  obtain ⟨S1, S2, rfl, h1, h2⟩ := p.rr.two
  refine ⟨x, y, z, dat_ok p.re h1 e3, dat_ok p.re h2 e4, e5, z, rfl, ?_⟩
  cases z with
  | false =>
    cases he
    rw [if_neg (by decide)]
    exact p.giveD ok (fun H3 S3 v q => k _ _ _ _ q) (.bl _)
  | true =>
    rw [if_pos rfl]
    obtain ⟨⟨r3, ρ3⟩, e6, he⟩ := Option.bind_eq_some_iff.mp he
    obtain ⟨y', e7, he⟩ := Option.bind_eq_some_iff.mp he
    obtain ⟨w', e8, he⟩ := Option.bind_eq_some_iff.mp he
    obtain ⟨z', e9, he⟩ := Option.map_eq_some_iff.mp he
    cases he
    refine ⟨_, ρ2, O2, r3, ρ3, p.ok ok, e6, fun H3 O3 S3 t q => ?_⟩
    have pq := p.trans ok q
    obtain ⟨T1, T2, T3, _, g1, g2, g3⟩ := pq.rr.three
    exact ⟨y', w', z', dat_ok pq.re g2 e7, dat_ok pq.re g3 e8, e9, pq.giveD ok (fun H4 S4 v q => k _ _ _ _ q) (.bl _)⟩
theorem se_chn (hu : X.A.units + 65 < cLine) (o o' : Cm) (ha : SE X M a A) (hb : SE X M b B) (hc : SE X M c G) (hm : lastMarks [cmP o, cmP o'] [b, c] = false) : SE X M (.Compare a [cmP o, cmP o'] [b, c] pos) (.chn o o' A B G) :=
  (pe_chain (cmp_ok hu o) (cmp_ok hu o') ha hb hc hm).imp fun σ H Q ⟨W, ρ, O, r, ρ', ok, he, k⟩ => chn_core hu o o' ok he k
theorem chn_bl {ρ ρ' : Env} {o o' : Cm} {r : R} (he : ev M (.chn o o' A B G) ρ = some (r, ρ')) : ∃ z, r = .v (.d (.bl z)) := by
  unfold ev at he
  obtain ⟨⟨r1, ρ1⟩, e1, he⟩ := Option.bind_eq_some_iff.mp he
  obtain ⟨⟨r2, ρ2⟩, e2, he⟩ := Option.bind_eq_some_iff.mp he
  obtain ⟨x, e3, he⟩ := Option.bind_eq_some_iff.mp he
  obtain ⟨y, e4, he⟩ := Option.bind_eq_some_iff.mp he
  obtain ⟨z, e5, he⟩ := Option.bind_eq_some_iff.mp he
  cases z with
  | false => cases he; exact ⟨_, rfl⟩
  | true =>
    obtain ⟨⟨r3, ρ3⟩, e6, he⟩ := Option.bind_eq_some_iff.mp he
    obtain ⟨y', e7, he⟩ := Option.bind_eq_some_iff.mp he
    obtain ⟨w', e8, he⟩ := Option.bind_eq_some_iff.mp he
    obtain ⟨z', e9, he⟩ := Option.map_eq_some_iff.mp he
    cases he
    exact ⟨_, rfl⟩
/-- a test whose value is a truth value, by the reading of its value -/
theorem tT_of_tE {K : PySem.W.Frag} {σ : L2.St} {H : Hp} {Q : Bool → Hp → Prop} {W : Addr → Prop} {ρ ρ' : Env} {O : List Addr} {bb : Bool} (ok : Okk K H W σ ρ O) (he : evT M (.tr A) ρ = some (bb, ρ')) (hbl : ∀ r ρ', ev M A ρ = some (r, ρ') → ∃ z, r = .v (.d (.bl z)))
    (k : ∀ H' O', Post K H W O σ H' O' [] [] [] ρ' → Q bb H') : ∃ r ρ1, ev M A ρ = some (r, ρ1) ∧ ∀ H' O' S v, Post K H W O σ H' O' S [v] [r] ρ1 → ∃ z, v = .bl z ∧ Q z H' := by
  unfold evT at he
  obtain ⟨⟨r1, ρ1⟩, e1, he⟩ := Option.bind_eq_some_iff.mp he
  obtain ⟨x, e2, e3⟩ := Option.map_eq_some_iff.mp he
  cases e3
  refine ⟨r1, ρ1, e1, fun H' O' S v p => ?_⟩
  obtain ⟨z, rfl⟩ := hbl _ _ e1
  cases e2
  obtain ⟨rfl, rfl⟩ := p.rr.one.bl_inv
  exact ⟨z, rfl, k _ _ p.drop⟩
theorem st_chn (hu : X.A.units + 65 < cLine) (o o' : Cm) (ha : SE X M a A) (hb : SE X M b B) (hc : SE X M c G) (hm : lastMarks [cmP o, cmP o'] [b, c] = false) : ST X M (.Compare a [cmP o, cmP o'] [b, c] pos) (.tr (.chn o o' A B G)) := by
  refine (pt_chain (cmp_ok hu o) (cmp_ok hu o') ha hb hc hm).imp fun σ H Q ⟨W, ρ, O, bb, ρ', ok, he, k⟩ => ?_
  obtain ⟨r, ρ1, e, g⟩ := tT_of_tE ok he (fun r ρ' h => chn_bl h) k
  exact chn_core (Q := fun x H' => ∃ k, x = V.bl k ∧ Q k H') hu o o' ok e g

/-! ### cuts, turned ones -/
abbrev SO (X : Cx) (M : Mach) (a : Option Expr) (A : Eo) : Prop := PO X a (tO X.K M A)
theorem so_no : SO X M none .no := by
  refine po_none.imp fun σ H Q ⟨W, ρ, O, b, ρ', ok, he, k⟩ => ?_
  unfold evO at he
  cases he
  exact k H O ok.refl
theorem so_so (ha : SE X M a A) : SO X M (some a) (.so A) := by
  refine (po_some ha).imp fun σ H Q ⟨W, ρ, O, b, ρ', ok, he, k⟩ => ?_
  unfold evO at he
  obtain ⟨⟨r1, ρ1⟩, e1, he⟩ := Option.bind_eq_some_iff.mp he
  split at he
  · rename_i i ei
    cases he
    simp only at ei
    subst ei
    refine tE_one ok e1 fun H2 O2 S u p => ?_
    obtain ⟨rfl, rfl⟩ := p.rr.one.int_inv
    exact ⟨i, rfl, k _ _ p.drop⟩
  · cases he
theorem se_sl {lo hi : Option Expr} {Lo Hi : Eo} (ha : SE X M a A) (hl : SO X M lo Lo) (hh : SO X M hi Hi) : SE X M (.Subscript a (.Slice lo hi none p2) pos) (.sl A Lo Hi) := by
  refine (pe_slice sli_ok ha hl hh).imp fun σ H Q ⟨W, ρ, O, r, ρ', ok, he, k⟩ => ?_
  unfold ev at he
  obtain ⟨⟨r1, ρ1⟩, e1, he⟩ := Option.bind_eq_some_iff.mp he
  obtain ⟨⟨l, ρ2⟩, e2, he⟩ := Option.bind_eq_some_iff.mp he
  obtain ⟨⟨h, ρ3⟩, e3, he⟩ := Option.bind_eq_some_iff.mp he
  obtain ⟨x, e4, he⟩ := Option.bind_eq_some_iff.mp he
  obtain ⟨z, e5, he⟩ := Option.map_eq_some_iff.mp he
  cases he
  refine tE_one ok e1 fun H1 O1 S u p => ?_
  have ok1 := p.ok ok
  refine ⟨_, ρ1, O1, l, ρ2, ok1, e2, fun H2 O2 p2 => ?_⟩
  have ok2 := okk_nil (p2.ok ok1)
  refine ⟨_, ρ2, O2, h, ρ3, ok2, e3, fun H3 O3 p3 => ?_⟩
  have q := p.trans ok (p2.next ok1 p3)
  rw [List.append_nil] at q
  exact ⟨_, x, z, q.hp ok, q.rg ok q.rr.one (fun _ h => h) e4, e5, q.give ok fun H4 S4 v t => k _ _ _ _ t⟩
/-- x[::-1] -/
def tRevA (K : PySem.W.Frag) (te : TE) : TE := fun σ H Q => te σ H fun x H1 => (∃ a xs, x = .ref a ∧ SqL K H1 a xs ∧ ∀ p, H1 p = none → Q (.ref p) (upd H1 p (.lst xs.reverse))) ∨ ∃ s : List Nat, x = .str ⟨s.toArray⟩ ∧ s.length ≤ sizeLine ∧ Q (.str ⟨s.reverse.toArray⟩) H1
theorem rev_range : ∀ n : Nat, (List.range n).map (fun (k : Nat) => ((n : Int) - 1 + -1 * (k : Int)).toNat) = (List.range n).map (fun k => n - 1 - k) := fun n => by
  refine List.map_congr_left fun k hk => ?_
  have : k < n := List.mem_range.mp hk
  omega
theorem filterMap_some {α β : Type} {f : α → Option β} {g : α → β} : ∀ l : List α, (∀ k ∈ l, f k = some (g k)) → l.filterMap f = l.map g
  | [], _ => rfl
  | x :: l, h => by
    rw [List.filterMap_cons, h x (by simp), List.map_cons, filterMap_some l fun k hk => h k (by simp [hk])]
theorem rev_pick (s : List Nat) : ((List.range s.length).map (fun k => s.length - 1 - k)).filterMap (s.toArray[·]?) = s.reverse := by
  apply List.ext_getElem?
  intro i
  have h1 : ((List.range s.length).map (fun k => s.length - 1 - k)).filterMap (s.toArray[·]?) = (List.range s.length).map (fun k => s.getD (s.length - 1 - k) 0) := by
    rw [List.filterMap_map]
    refine filterMap_some _ fun k hk => ?_
    have : k < s.length := List.mem_range.mp hk
    simp only [Function.comp, List.getElem?_toArray]
    rw [List.getD_eq_getElem?_getD, List.getElem?_eq_getElem (by omega)]
    rfl
  rw [h1]
  by_cases hi : i < s.length
  · rw [List.getElem?_map, List.getElem?_range hi, List.getElem?_reverse hi]
    simp only [Option.map_some]
    rw [List.getD_eq_getElem?_getD, List.getElem?_eq_getElem (by omega)]
    rfl
  · rw [List.getElem?_eq_none (by simpa using hi), List.getElem?_eq_none (by simpa using hi)]
theorem rev_indices (n : Nat) : Builtin.Str.strSliceIndices none none (-1) n = (List.range n).map (fun k => n - 1 - k) := by
  unfold Builtin.Str.strSliceIndices sliceRange
  simp only [show ¬ ((-1 : Int) > 0) from by decide, if_false]
  rw [← rev_range]
  by_cases h : ((n : Int) - 1 > -1)
  · rw [if_pos h]
    have e : (((n : Int) - 1 - -1 - -1 - 1) / -(-1)).toNat = n := by
      rw [show (-(-1) : Int) = 1 from rfl, Int.ediv_one]; omega
    rw [e]
  · rw [if_neg h]
    have e : n = 0 := by omega
    subst e
    rfl
theorem pe_revA {te : TE} {k : Nat} (he : PE X e te) : PE X (.Subscript e (.Slice none none (some (.UnaryOp .USub (.Constant (.int 1) k p1) p2)) p3) pos) (tRevA X.K te) := by
  refine ⟨fun pins s σ H Q I h => ?_⟩
  refine Subscript_ (thn (he.run pins s σ H _ I h) fun v s1 ⟨x, H1, I1, r1, q1⟩ => ?_)
  have part : PO X (some (.UnaryOp .USub (.Constant (.int 1) k p1) p2)) (tPart (tUn (rU fun i => .int (-i)) (tC (.int 1)))) := po_some (pe_un un_neg pe_int)
  refine wpAny_Slice (thn (po_none.run pins s1 σ H1 (fun o H2 => o = none ∧ H2 = H1) I1 ⟨rfl, rfl⟩) fun vl s2 t2 => ?_)
  obtain ⟨l, H2, I2, pl, rfl, rfl⟩ := t2
  refine thn (po_none.run pins s2 σ H2 (fun o H3 => o = none ∧ H3 = H2) I2 ⟨rfl, rfl⟩) fun vu s3 t3 => ?_
  obtain ⟨u, H3, I3, pu, rfl, rfl⟩ := t3
  refine thn (part.run pins s3 σ H3 (fun o H4 => o = some (-1) ∧ H4 = H3) I3 ⟨1, rfl, -1, rfl, rfl, rfl⟩) fun vs s4 t4 => ?_
  obtain ⟨o, H4, I4, ps, rfl, rfl⟩ := t4
  generalize hnew : ({ s4 with heap := s4.heap.push { cls := .type "slice", data := .fields #[vl, vu, vs] } } : Shared) = s5
  have hsl : s5.heap.IsSliceOf s4.heap.objs.size vl vu vs := by rw [← hnew]; exact Heap.IsSliceOf.new _ vl vu vs
  have I5 : Inv X pins σ H4 s5 := by rw [← hnew]; exact I4.kept (t' := s4.toks) fun b ob q => Heap.get?_push_of_some _ q
  rcases q1 with ⟨a, xs, rfl, hx, q⟩ | ⟨z, rfl, hz, q⟩
  · cases r1
    obtain ⟨its, r, ht, hz⟩ := I5.list hx
    have hlen := r.length
    refine tail_any (ops := [.ref a, .ref s4.heap.objs.size]) ht.isList.typeIs (PySem.slot_list_getitem.lookup) ?_ (by with_unfolding_all rfl)
    refine wpAny_getItem_list_slice ht.isList hsl pl pu ps (by decide) ?_ (by rw [List.size_toArray]; omega)
    rw [PySem.W.krv_pick]
    refine ⟨.ref s5.heap.objs.size, _, I5.laid (t' := s5.toks) (o := .lst xs.reverse) (fun b ob q => Heap.get?_push_of_some _ q) (Nat.le_refl _) ?_, rfl, q _ (I5.hok.fresh (Nat.le_refl _))⟩
    exact ⟨by rw [List.length_reverse]; exact hz, its.reverse, 0, r.reverse, Heap.get?_push_size _ rfl⟩
  · obtain ⟨t, rfl⟩ := r1
    refine tail_any (ops := [.str ⟨z.toArray⟩ t, .ref s4.heap.objs.size]) (typeIs_str _ _ _) F.slot_str_getitem.lookup ?_ (by with_unfolding_all rfl)
    obtain ⟨os, hos, hcs, hds⟩ := hsl
    obtain ⟨l, rfl, hl⟩ := IsPart.raw pl
    obtain ⟨u, rfl, hu⟩ := IsPart.raw pu
    obtain ⟨st, rfl, hst⟩ := IsPart.raw ps
    refine wpAny_getItem_str_slice (l := l) (u := u) (st := st) ⟨os, hos, hcs, hds⟩ (by rw [hst]; rfl) ?_
    unfold sliceMade slicePicked
    rw [hl, hu, hst]
    show Made.post (if (((-1 : Int) == 1) && _) = true then _ else _) _ _
    rw [if_neg (by simp)]
    have e1 : (⟨((Builtin.Str.strSliceIndices none none ((some (-1 : Int)).getD 1) (Str.length ⟨z.toArray⟩)).filterMap ((⟨z.toArray⟩ : Str).cps[·]?)).toArray⟩ : Str) = ⟨z.reverse.toArray⟩ := by
      rw [str_len]
      show (⟨((Builtin.Str.strSliceIndices none none (-1) z.length).filterMap (z.toArray[·]?)).toArray⟩ : Str) = _
      rw [rev_indices, rev_pick]
    rw [e1]
    exact ⟨by show (z.reverse.toArray).size ≤ sizeLine; simpa using hz, ⟨.str _, H4, I5.tok _, ⟨_, rfl⟩, q⟩⟩
theorem se_rev {k : Nat} (ha : SE X M a A) : SE X M (.Subscript a (.Slice none none (some (.UnaryOp .USub (.Constant (.int 1) k p1) p2)) p3) pos) (.rev A) := by
  refine (pe_revA ha).imp fun σ H Q ⟨W, ρ, O, r, ρ', ok, he, k⟩ => ?_
  unfold ev at he
  obtain ⟨⟨r1, ρ1⟩, e1, he⟩ := Option.bind_eq_some_iff.mp he
  obtain ⟨x, e4, he⟩ := Option.bind_eq_some_iff.mp he
  obtain ⟨z, e5, he⟩ := Option.map_eq_some_iff.mp he
  cases he
  refine tE_one ok e1 fun H2 O2 S u p => ?_
  have rf := p.rf ok p.rr.one (fun _ h => h) e4
  unfold revd at e5
  split at e5
  · cases e5
    obtain ⟨a, xs, rfl, h1, h2⟩ := rf
    exact .inl ⟨a, xs, rfl, SqL.of h1, fun t ht => give_lst (p.hp ok) h2.rev (p.give ok fun H3 S3 v q => k _ _ _ _ q) ht⟩
  · cases e5
    obtain ⟨rfl, h1, h2⟩ := RD.str_inv rf
    refine .inr ⟨_, rfl, h1, p.giveD ok (fun H3 S3 v q => k _ _ _ _ q) (.str _ (by simpa using h1) ?_)⟩
    rw [List.all_reverse]; exact h2
  · cases e5
end
end Pu

set_option Elab.async false
set_option maxRecDepth 100000
set_option maxHeartbeats 2000000
namespace Pu
open PySem L2 PyProof.Rows

/-! ### built-in functions by their names -/
def Ty.nS (t : Ty) : Str := Str.ofString t.nm
def b1N : B1 → Str
  | .len => "len" | .abs => "abs" | .sum => "sum" | .all => "all" | .any => "any" | .int => "int" | .list => "list" | .tuple => "tuple"
  | .repr => "repr" | .max => "max" | .min => "min" | .sorted => "sorted" | .bool => "bool"
def b2N : B2 → Str
  | .max => "max" | .min => "min" | .divmod => "divmod" | _ => ""
theorem b1_boot (o : B1) : bootBuiltins (b1N o) = some (b1V o) := by cases o <;> decide +kernel
theorem b1_ne (o : B1) : b1N o ≠ "__name__" ∧ (b1N o == ("__debug__" : Str)) = false := by cases o <;> decide +kernel
theorem ty_boot (t : Ty) : bootBuiltins t.nS = some (.type t.nm) := by cases t <;> decide +kernel
theorem ty_ne (t : Ty) : t.nS ≠ "__name__" ∧ (t.nS == ("__debug__" : Str)) = false := by cases t <;> decide +kernel
section
variable {X : Cx} {M : Mach} {a b c e : Expr} {es : List Expr} {A B G : E} {As : Es} {pos p1 p2 p3 : Pos}
/-- names of built-in classes -/
def SY (X : Cx) (es : List Expr) (ts : List Ty) : Prop := PA X es (fun _ H Q => Q (ts.map fun t => V.ty t.nm) H)
theorem se_ty (t : Ty) (hg : Gl X t.nS) (hm : X.mg t.nS = none) : PE X (.Name t.nS pos) (tC (.ty t.nm)) := pe_bltn hg hm (ty_boot t) rfl (ty_ne t).1 (ty_ne t).2
theorem sy_nil : SY X [] [] := pa_nil
theorem sy_cons {t : Ty} {ts : List Ty} (hg : Gl X t.nS) (hm : X.mg t.nS = none) (h : SY X es ts) : SY X (.Name t.nS pos :: es) (t :: ts) :=
  (pa_cons (se_ty t hg hm) h).imp fun _ _ _ q => q
theorem se_isi1 {t : Ty} (hg : Gl X "isinstance") (hm : X.mg "isinstance" = none) (ha : SE X M a A) (ht : Gl X t.nS) (hn : X.mg t.nS = none) (hs : starEach (a :: [.Name t.nS p2]) X.env = (false, eval a X.env) :: starEach [.Name t.nS p2] X.env) :
    SE X M (.Call (.Name "isinstance" p1) [a, .Name t.nS p2] [] pos) (.isi A [t]) := by
  refine (pe_callB call_isi hg hm (by decide +kernel) (pa_cons ha (pa_cons (se_ty t ht hn) pa_nil) hs) (by decide) (by decide) hs (by rfl)).imp fun σ H Q ⟨W, ρ, O, r, ρ', ok, he, k⟩ => ?_
  unfold ev at he
  obtain ⟨⟨r1, ρ1⟩, e1, he⟩ := Option.bind_eq_some_iff.mp he
  obtain ⟨x, e2, he⟩ := Option.map_eq_some_iff.mp he
  cases he
  refine tE_one ok e1 fun H2 O2 S u p => ?_
  refine ⟨u, .ty t.nm, _, _, hasTy x t, rfl, .ty _, ty_of (ndat_ok p.re p.rr.one e2), kit_ty (kind_one x t), ?_⟩
  have q := p.giveD ok (z := .bl (hasTy x t)) (v := .bl (hasTy x t)) (Q := Q) (fun H3 S3 v q => k _ _ _ _ (by simpa using q)) (.bl _)
  exact q
theorem paired_ty : ∀ ts : List Ty, Paired ClsV (ts.map fun t => V.ty t.nm) (ts.map fun t => Value.type t.nm)
  | [] => .nil
  | t :: ts => .cons (.ty _) (paired_ty ts)
theorem se_isiT {ts : List Ty} {n : Nat} (hg : Gl X "isinstance") (hm : X.mg "isinstance" = none) (ha : SE X M a A) (ht : SY X es ts) (hl : ts.length ≤ sizeLine) (hs : starEach (a :: [.Tuple es n p2]) X.env = (false, eval a X.env) :: starEach [.Tuple es n p2] X.env) :
    SE X M (.Call (.Name "isinstance" p1) [a, .Tuple es n p2] [] pos) (.isi A ts) := by
  refine (pe_callB call_isiT hg hm (by decide +kernel) (pa_cons ha (pa_cons (pe_tup ht) pa_nil) hs) (by decide) (by decide) hs (by rfl)).imp fun σ H Q ⟨W, ρ, O, r, ρ', ok, he, k⟩ => ?_
  unfold ev at he
  obtain ⟨⟨r1, ρ1⟩, e1, he⟩ := Option.bind_eq_some_iff.mp he
  obtain ⟨x, e2, he⟩ := Option.map_eq_some_iff.mp he
  cases he
  refine tE_one ok e1 fun H2 O2 S u p => ?_
  refine ⟨by rw [List.length_map]; exact hl, fun t ht => ?_⟩
  have ty : TyX X.K (upd H2 t (.tup (ts.map fun t => V.ty t.nm))) u (.type x.kind) := by
    have h := ndat_ok p.re p.rr.one e2
    refine ty_of ?_
    cases x with
    | lst ds => obtain ⟨a, xs, e, h1, h2⟩ := h; exact ⟨a, xs, e, grow_new ht _ _ h1, h2⟩
    | tup ds =>
      obtain ⟨P, h⟩ := h
      obtain ⟨a, xs, rfl, h1, _, h2⟩ := RD.tup_inv h
      exact ⟨fun b => P b ∨ b = t, h.fut (fun b o e n => ⟨grow_new ht b o e, fun z => z.elim n fun z => by rw [z, ht] at e; cases e⟩)⟩
    | str s => obtain ⟨P, h⟩ := h; obtain ⟨rfl, q1, q2⟩ := RD.str_inv h; exact ⟨P, .str _ q1 q2⟩
    | non => obtain ⟨P, h⟩ := h; cases h; exact ⟨P, .non⟩
    | bl b => obtain ⟨P, h⟩ := h; cases h; exact ⟨P, .bl _⟩
    | int i => obtain ⟨P, h⟩ := h; cases h; exact ⟨P, .int _⟩
  refine ⟨u, t, _, _, _, ts.any (hasTy x), rfl, upd_same, paired_ty ts, ty, kind_any x ts, ?_⟩
  exact k _ O2 [] _ (p.fin (S2 := []) ok (grow_new ht) (fun _ z => nomatch z) List.nodup_nil (fun _ z => nomatch z) (.v (.d (.bl _))))
/-- len -/
def rLen (K : PySem.W.Frag) : List V → Hp → VK → Prop := fun vs H Q => ∃ (v : V) (dx : D) (n : Int), vs = [v] ∧ (RN H v dx ∨ ∃ a xs ds, dx = .lst ds ∧ v = .ref a ∧ SqL K H a xs ∧ xs.length = ds.length) ∧ b1 .len dx = some (.d (.int n)) ∧ Q (.int n) H
theorem len_ok {X : Cx} : CallR X (.builtin "len") (rLen X.K) := by
  intro pins s σ H vs us Q I r h
  obtain ⟨v, dx, n, rfl, hx, e, q⟩ := h
  have lst : ∀ (a : Addr) (xs : List V) (ds : List D), v = .ref a → SqL X.K H a xs → xs.length = ds.length → b1 .len (.lst ds) = some (.d (.int n)) → wpAny (model X.prog X.w) X.A (call (.builtin "len") us) (EP X pins σ Q) X.xe s := fun a xs ds ev sq hl e => by
    subst ev
    refine call_len_seq pins s σ H _ us Q I r ⟨a, xs, rfl, .inl sq, ?_⟩
    cases e
    rw [hl]; exact q
  rcases hx with hx | ⟨a, xs, ds, rfl, rfl, sq, hl⟩
  · cases dx with
    | lst ds =>
      obtain ⟨a, xs, ev, h1, hl⟩ := hx
      exact lst a xs ds ev (SqL.of h1) hl e
    | tup ds =>
      obtain ⟨P, hx⟩ := hx
      obtain ⟨a, xs, rfl, h1, _, h2⟩ := RD.tup_inv hx
      refine call_len_seq pins s σ H _ us Q I r ⟨a, xs, rfl, .inr (SqT.of h1), ?_⟩
      cases e
      rw [h2.length]; exact q
    | str t =>
      obtain ⟨P, hx⟩ := hx
      obtain ⟨rfl, h1, h2⟩ := RD.str_inv hx
      refine call_len_str pins s σ H _ us Q I r ⟨_, rfl, by rw [str_len]; exact h1, ?_⟩
      cases e
      rw [str_len]; exact q
    | _ => cases e
  · exact lst a xs ds rfl sq hl e
theorem se_len (hg : Gl X "len") (hm : X.mg "len" = none) (ha : SE X M a A) (hs : starEach [a] X.env = [(false, eval a X.env)]) : SE X M (.Call (.Name "len" p1) [a] [] pos) (.b1 .len A) := by
  have main : PE X (.Call (.Name "len" p1) [a] [] pos) (tCB (rLen X.K) (tCons (tE X.K M A) tNil)) := pe_callB len_ok hg hm (b1_boot .len) (pa_cons ha pa_nil hs) (b1_ne .len).1 (b1_ne .len).2 hs (by rfl)
  refine main.imp fun σ H Q ⟨W, ρ, O, r, ρ', ok, he, k⟩ => ?_
  unfold ev at he
  obtain ⟨⟨r1, ρ1⟩, e1, he⟩ := Option.bind_eq_some_iff.mp he
  obtain ⟨x, e2, he⟩ := Option.bind_eq_some_iff.mp he
  obtain ⟨z, e3, he⟩ := Option.map_eq_some_iff.mp he
  cases he
  have hn : ∃ n : Int, z = .d (.int n) := by
    cases x <;> cases e3 <;> exact ⟨_, rfl⟩
  obtain ⟨n, rfl⟩ := hn
  refine tE_one ok e1 fun H2 O2 S u p => ?_
  refine ⟨u, x, n, rfl, ?_, e3, p.giveD ok (fun H3 S3 v q => k _ _ _ _ q) (.int _)⟩
  have e2' : dat ρ1 r1 = some x := e2
  cases r1 with
  | rd ns =>
    have rr := p.rr.one
    cases rr with
    | rd q => cases e2'; exact .inr ⟨_, _, _, rfl, rfl, q.sq, by simp⟩
  | v y => exact .inl (ndat_ok p.re p.rr.one e2')
  | pk i => exact .inl (ndat_ok p.re p.rr.one e2')
theorem se_b1 (o : B1) (hu : X.A.units + 65 < cLine) (hc : X.calm = true) (hgu : X.A.guards = some []) (hg : Gl X (b1N o)) (hm : X.mg (b1N o) = none) (ha : SE X M a A) (hs : starEach [a] X.env = [(false, eval a X.env)]) :
    SE X M (.Call (.Name (b1N o) p1) [a] [] pos) (.b1 o A) := by
  by_cases ho : o = .len
  · subst ho; exact se_len hg hm ha hs
  have main : PE X (.Call (.Name (b1N o) p1) [a] [] pos) (tCB (rB1 X.K o) (tCons (tE X.K M A) tNil)) := by
    have h := b1_ok hc hgu hu o
    have h2 := b1_boot o
    cases e : b1V o with
    | builtin id =>
      rw [e] at h h2
      exact pe_callB h hg hm h2 (pa_cons ha pa_nil hs) (b1_ne o).1 (b1_ne o).2 hs (by rfl)
    | type T =>
      rw [e] at h h2
      exact pe_callTy h hg hm h2 (pa_cons ha pa_nil hs) (b1_ne o).1 (b1_ne o).2 hs (by rfl)
    | _ => cases o <;> cases e
  refine main.imp fun σ H Q ⟨W, ρ, O, r, ρ', ok, he, k⟩ => ?_
  unfold ev at he
  obtain ⟨⟨r1, ρ1⟩, e1, he⟩ := Option.bind_eq_some_iff.mp he
  obtain ⟨x, e2, he⟩ := Option.bind_eq_some_iff.mp he
  obtain ⟨z, e3, he⟩ := Option.map_eq_some_iff.mp he
  cases he
  refine tE_one ok e1 fun H2 O2 S u p => ?_
  have e2' : gdat ρ1 r1 = some x := by
    cases o <;> first | exact e2 | exact absurd rfl ho
  exact ⟨_, u, x, z, rfl, p.hp ok, p.rg ok p.rr.one (fun _ h => h) e2', e3, p.give ok fun H3 S3 v q => k _ _ _ _ q⟩
theorem b2_core {o : B2} {σ : L2.St} {H : Hp} {Q : VK} {W : Addr → Prop} {ρ ρ' : Env} {O : List Addr} {r : R} (ok : Okk X.K H W σ ρ O) (he : ev M (.b2 o A B) ρ = some (r, ρ')) (k : ∀ H' O' S v, Post X.K H W O σ H' O' S [v] [r] ρ' → Q v H') :
    tE X.K M A σ H fun x H1 => tE X.K M B σ H1 fun y H2 => rB2 X.K o [x, y] H2 Q := by
  unfold ev at he
  obtain ⟨⟨r1, ρ1⟩, e1, he⟩ := Option.bind_eq_some_iff.mp he
  obtain ⟨⟨r2, ρ2⟩, e2, he⟩ := Option.bind_eq_some_iff.mp he
  obtain ⟨x, e3, he⟩ := Option.bind_eq_some_iff.mp he
  obtain ⟨y, e4, he⟩ := Option.bind_eq_some_iff.mp he
  obtain ⟨z, e5, he⟩ := Option.map_eq_some_iff.mp he
  cases he
  refine tE_two ok e1 e2 fun H2 O2 S u w p => ?_
  obtain ⟨S1, S2, rfl, h1, h2⟩ := p.rr.two
  exact ⟨_, u, w, x, y, z, rfl, p.hp ok, p.rf ok h1 append_left_mem e3, p.rf ok h2 append_right_mem e4, e5, p.give ok fun H3 S3 v q => k _ _ _ _ q⟩
theorem se_max2 (hc : X.calm = true) (hg : Gl X "max") (hm : X.mg "max" = none) (ha : SE X M a A) (hb : SE X M b B) (hs : starEach (a :: [b]) X.env = (false, eval a X.env) :: starEach [b] X.env) (ht : starEach (b :: []) X.env = (false, eval b X.env) :: starEach [] X.env)
    (hq : (backTo pos (starEach [b] X.env)).any (·.1) = false) : SE X M (.Call (.Name "max" p1) [a, b] [] pos) (.b2 .max A B) := by
  refine (pe_callB (call_max2 hc) hg hm (by decide +kernel) (pa_cons ha (pa_cons hb pa_nil ht) hs) (by decide) (by decide) hs hq).imp fun σ H Q ⟨W, ρ, O, r, ρ', ok, he, k⟩ => ?_
  have h := b2_core ok he k
  obtain ⟨W1, q1, O1, r1, q1', ok1, f1, k1⟩ := h
  refine ⟨W1, q1, O1, r1, q1', ok1, f1, fun H1 O2 S2 v p => ?_⟩
  obtain ⟨W2, q2, O3, r2, q2', ok2, f2, k2⟩ := k1 _ _ _ _ p
  refine ⟨W2, q2, O3, r2, q2', ok2, f2, fun H3 O4 S4 w q => ?_⟩
  obtain ⟨P, x, y, dx, dy, z, e, hP, hx, hy, e2, g⟩ := k2 _ _ _ _ q
  cases e
  unfold b2 at e2
  split at e2 <;> rename_i heq <;> first | cases heq | skip
  · cases e2; cases hx; cases hy
    exact ⟨_, _, rfl, give_d (.int _) g⟩
  · cases e2
theorem se_min2 (hc : X.calm = true) (hg : Gl X "min") (hm : X.mg "min" = none) (ha : SE X M a A) (hb : SE X M b B) (hs : starEach (a :: [b]) X.env = (false, eval a X.env) :: starEach [b] X.env) (ht : starEach (b :: []) X.env = (false, eval b X.env) :: starEach [] X.env)
    (hq : (backTo pos (starEach [b] X.env)).any (·.1) = false) : SE X M (.Call (.Name "min" p1) [a, b] [] pos) (.b2 .min A B) := by
  refine (pe_callB (call_min2 hc) hg hm (by decide +kernel) (pa_cons ha (pa_cons hb pa_nil ht) hs) (by decide) (by decide) hs hq).imp fun σ H Q ⟨W, ρ, O, r, ρ', ok, he, k⟩ => ?_
  have h := b2_core ok he k
  obtain ⟨W1, q1, O1, r1, q1', ok1, f1, k1⟩ := h
  refine ⟨W1, q1, O1, r1, q1', ok1, f1, fun H1 O2 S2 v p => ?_⟩
  obtain ⟨W2, q2, O3, r2, q2', ok2, f2, k2⟩ := k1 _ _ _ _ p
  refine ⟨W2, q2, O3, r2, q2', ok2, f2, fun H3 O4 S4 w q => ?_⟩
  obtain ⟨P, x, y, dx, dy, z, e, hP, hx, hy, e2, g⟩ := k2 _ _ _ _ q
  cases e
  unfold b2 at e2
  split at e2 <;> rename_i heq <;> first | cases heq | skip
  · cases e2; cases hx; cases hy
    exact ⟨_, _, rfl, give_d (.int _) g⟩
  · cases e2
theorem se_divmod (hg : Gl X "divmod") (hm : X.mg "divmod" = none) (ha : SE X M a A) (hb : SE X M b B) (hs : starEach (a :: [b]) X.env = (false, eval a X.env) :: starEach [b] X.env) (ht : starEach (b :: []) X.env = (false, eval b X.env) :: starEach [] X.env)
    (hq : (backTo pos (starEach [b] X.env)).any (·.1) = false) : SE X M (.Call (.Name "divmod" p1) [a, b] [] pos) (.b2 .divmod A B) := by
  refine (pe_callB call_divmod hg hm (by decide +kernel) (pa_cons ha (pa_cons hb pa_nil ht) hs) (by decide) (by decide) hs hq).imp fun σ H Q ⟨W, ρ, O, r, ρ', ok, he, k⟩ => ?_
  have h := b2_core ok he k
  obtain ⟨W1, q1, O1, r1, q1', ok1, f1, k1⟩ := h
  refine ⟨W1, q1, O1, r1, q1', ok1, f1, fun H1 O2 S2 v p => ?_⟩
  obtain ⟨W2, q2, O3, r2, q2', ok2, f2, k2⟩ := k1 _ _ _ _ p
  refine ⟨W2, q2, O3, r2, q2', ok2, f2, fun H3 O4 S4 w q => ?_⟩
  obtain ⟨P, x, y, dx, dy, z, e, hP, hx, hy, e2, g⟩ := k2 _ _ _ _ q
  cases e
  unfold b2 at e2
  split at e2 <;> rename_i heq <;> first | cases heq | skip
  · split at e2
    · rename_i hc
      cases e2; cases hx; cases hy
      exact ⟨_, _, rfl, hc, fun t ht => give_tup hP (.cons (.int _) (.cons (.int _) .nil)) g ht⟩
    · cases e2
  · cases e2
/-- 'sep'.join(list) -/
theorem se_join {apos : Pos} {sep : List Nat} (ha : SE X M a (.cst (.str sep))) (hb : SE X M b B) (hs : starEach [b] X.env = [(false, eval b X.env)]) (hbase : attributeBase a "join" X.env (eval a X.env) = eval a X.env) (hline : (apos.endLine == pos.line) = true) :
    SE X M (.Call (.Attribute a "join" apos) [b] [] pos) (.b2 .join (.cst (.str sep)) B) := by
  refine (pe_join ha hb hs hbase hline).imp fun σ H Q ⟨W, ρ, O, r, ρ', ok, he, k⟩ => ?_
  unfold ev at he
  obtain ⟨⟨r1, ρ1⟩, e1, he⟩ := Option.bind_eq_some_iff.mp he
  obtain ⟨⟨r2, ρ2⟩, e2, he⟩ := Option.bind_eq_some_iff.mp he
  obtain ⟨x, e3, he⟩ := Option.bind_eq_some_iff.mp he
  obtain ⟨y, e4, he⟩ := Option.bind_eq_some_iff.mp he
  obtain ⟨z, e5, he⟩ := Option.map_eq_some_iff.mp he
  cases he
  have f1 := e1
  unfold ev at f1
  cases f1
  cases e3
  refine ⟨W, ρ, O, _, ρ, ok, e1, fun H1 O1 S1 u p => ?_⟩
  have hu : u = .str ⟨sep.toArray⟩ := by
    cases p.rr.one with
    | v h => cases h with | d h => exact (RD.str_inv h).1
  refine ⟨⟨_, hu⟩, _, ρ, O1, r2, ρ2, p.ok ok, e2, fun H2 O2 S2 w q => ?_⟩
  have pq := p.trans ok q
  obtain ⟨T1, T2, e6, h1, h2⟩ := pq.rr.two
  have fy := pq.rf ok h2 (fun b hb => by rw [e6]; exact List.mem_append_right _ hb) e4
  have fx := pq.rf ok h1 (fun b hb => by rw [e6]; exact List.mem_append_left _ hb) (d := .str sep) rfl
  obtain ⟨_, l1, a1⟩ := RD.str_inv fx
  unfold b2 at e5
  split at e5 <;> rename_i heq <;> first | cases heq | skip
  · rename_i sx xs _ _
    obtain ⟨ss, e7, e8⟩ := Option.bind_eq_some_iff.mp e5
    split at e8
    · rename_i hl
      cases e8
      obtain ⟨c, vs, rfl, g1, g2⟩ := fy
      obtain ⟨rfl, g3⟩ := strs_rel g2 e7
      refine ⟨⟨sep.toArray⟩, c, ss.map mkS, hu, rfl, .inl (SqL.of g1), ?_, ?_⟩
      · rw [List.map_map, List.length_map, str_len]
        have : ss.map ((fun x : Str => x.length) ∘ mkS) = ss.map List.length := List.map_congr_left fun t _ => str_len t
        rw [this]; exact hl
      · show Q (.str (Txt.join (mkS sep) (ss.map mkS))) H2
        rw [join_eq]
        refine pq.giveD ok (fun H3 S3 v q => k _ _ _ _ q) (.str _ (Nat.le_trans (joinL_len _ _) hl) ?_)
        rw [List.all_eq_true]
        intro d hd
        rcases joinL_mem _ _ _ hd with h | ⟨t, h3, h4⟩
        · exact List.all_eq_true.mp a1 d h
        · exact List.all_eq_true.mp (g3 t h3).2 d h4
    · cases e8
  · cases e5
end
end Pu

set_option Elab.async false
set_option maxRecDepth 100000
set_option maxHeartbeats 2000000
namespace Pu
open PySem L2 PyProof.Rows

/-! ### methods with one argument -/
def mtN : Mt → Str
  | .index => "index" | .startswith => "startswith" | .endswith => "endswith"
def atV : D → V
  | .int i => .int i
  | .bl b => .bl b
  | _ => .non
def mtS : Mt → String
  | .index => "str.index" | .startswith => "str.startswith" | .endswith => "str.endswith"
theorem slotS (o : Mt) : PySem.Slot "str" (mtN o) (mtS o) := by
  cases o
  · exact F.slot_str_index
  · exact F.slot_str_startswith
  · exact F.slot_str_endswith
theorem typeS (o : Mt) : typeOf (.builtin (mtS o)) = pure (.type "method_descriptor") := by
  cases o
  · exact F.type_str_index
  · exact F.type_str_startswith
  · exact F.type_str_endswith
section
variable {X : Cx} {M : Mach} {a b : Expr} {A B : E} {pos apos : Pos}
theorem mt_strs (o : Mt) : MtR X (mtS o) (fun x xs H Q => ∃ s t dz, x = .str (mkS s) ∧ xs = [.str (mkS t)] ∧ mt o (.str s) (.str t) = some dz ∧ Q (atV dz) H) := by
  intro pins s σ H x xs v us Q I rx rs h
  obtain ⟨z, t, dz, rfl, rfl, e, q⟩ := h
  cases o with
  | index =>
    obtain ⟨i, e1, rfl⟩ := Option.map_eq_some_iff.mp (show (firstAt z t).map (fun (i : Nat) => D.int (i : Int)) = some dz from e)
    exact mt_sindex pins s σ H _ _ v us Q I rx rs ⟨_, _, i, [], rfl, rfl, by rw [occ_firstAt, e1], q⟩
  | startswith =>
    cases (show some (D.bl (t.isPrefixOf z)) = some dz from e)
    exact mt_startswith pins s σ H _ _ v us Q I rx rs ⟨_, _, rfl, rfl, by rw [starts_eq]; exact q⟩
  | endswith =>
    cases (show some (D.bl (t.isSuffixOf z)) = some dz from e)
    exact mt_endswith pins s σ H _ _ v us Q I rx rs ⟨_, _, rfl, rfl, by rw [ends_eq]; exact q⟩
theorem toPys_get (ds : List D) (i : Nat) : (toPys ds)[i]? = (ds[i]?).map toPy := by
  rw [toPys_map, List.getElem?_map]
theorem mt_lsts (hu : X.A.units + 65 < cLine) : MtR X "list.index" (fun x xs H Q => ∃ a y ds dy dz, x = .ref a ∧ xs = [y] ∧ Dp X.K H (.ref a) (toPy (.lst ds)) ∧ Dp X.K H y (toPy dy) ∧ mt .index (.lst ds) dy = some dz ∧ Q (atV dz) H) := by
  intro pins s σ H x xs v us Q I rx rs h
  obtain ⟨a, y, ds, dy, dz, rfl, rfl, hl, hy, e, q⟩ := h
  unfold mt at e
  simp only at e
  split at e
  · rename_i ok
    obtain ⟨o1, o2⟩ := Bool.and_eq_true_iff.mp ok
    obtain ⟨i, e1, rfl⟩ := Option.map_eq_some_iff.mp e
    obtain ⟨h1, h2, h3⟩ := List.findIdx?_eq_some_iff_getElem.mp e1
    refine mt_indexD hu pins s σ H _ _ v us Q I rx rs ⟨a, y, toPy dy, toPys ds, i, toPy ds[i], rfl, rfl, hl, hy, o1, o2, ?_, h2, fun m z' hm hz => ?_, q⟩
    · rw [toPys_get, List.getElem?_eq_getElem h1]; rfl
    · rw [toPys_get, List.getElem?_eq_getElem (by omega)] at hz
      cases hz
      have := h3 m hm
      have e2 : D.eqv ds[m] dy = false := by simpa using this
      exact e2
  · cases e
theorem met_inv {o : Mt} {σ : L2.St} {H : Hp} {Q : VK} (h : tE X.K M (.met o A B) σ H Q) (hu : X.A.units + 65 < cLine) :
    tBM X.K "str" (fun x xs H Q => ∃ s t dz, x = .str (mkS s) ∧ xs = [.str (mkS t)] ∧ mt o (.str s) (.str t) = some dz ∧ Q (atV dz) H) (tE X.K M A) (tCons (tE X.K M B) tNil) σ H Q ∨
    (o = .index ∧ tBM X.K "list" (fun x xs H Q => ∃ a y ds dy dz, x = .ref a ∧ xs = [y] ∧ Dp X.K H (.ref a) (toPy (.lst ds)) ∧ Dp X.K H y (toPy dy) ∧ mt .index (.lst ds) dy = some dz ∧ Q (atV dz) H) (tE X.K M A) (tCons (tE X.K M B) tNil) σ H Q) := by
  obtain ⟨W, ρ, O, r, ρ', ok, he, k⟩ := h
  unfold ev at he
  obtain ⟨⟨r1, ρ1⟩, e1, he⟩ := Option.bind_eq_some_iff.mp he
  obtain ⟨x0, e0, he⟩ := Option.bind_eq_some_iff.mp he
  split at he
  · rename_i hk
    obtain ⟨⟨r2, ρ2⟩, e2, he⟩ := Option.bind_eq_some_iff.mp he
    obtain ⟨x, e3, he⟩ := Option.bind_eq_some_iff.mp he
    obtain ⟨y, e4, he⟩ := Option.bind_eq_some_iff.mp he
    obtain ⟨z, e5, he⟩ := Option.map_eq_some_iff.mp he
    cases he
    have fin : ∀ {H2 : Hp} {O2 S : List Addr} {u w : V}, Post X.K H W O σ H2 O2 S [u, w] [r1, r2] ρ2 → (∃ i, z = .int i) ∨ (∃ b, z = .bl b) → Q (atV z) H2 := fun p hz => by
      rcases hz with ⟨i, rfl⟩ | ⟨b, rfl⟩
      · exact p.giveD ok (fun H3 S3 v q => k _ _ _ _ q) (.int _)
      · exact p.giveD ok (fun H3 S3 v q => k _ _ _ _ q) (.bl _)
    cases x0 with
    | str s0 =>
      refine .inl ⟨W, ρ, O, r1, ρ1, ok, e1, fun H1 O1 S1 u p1 => ?_⟩
      have d0 := dat_ok p1.re p1.rr.one e0
      have hu' : ∃ s, u = .str s := by
        generalize hz : toPy (D.str s0) = dz at d0
        cases d0 <;> first | exact ⟨_, rfl⟩ | cases hz
      obtain ⟨us, rfl⟩ := hu'
      refine ⟨rfl, _, ρ1, O1, r2, ρ2, p1.ok ok, e2, fun H2 O2 S2 w p2 => ?_⟩
      have p := p1.trans ok p2
      obtain ⟨T1, T2, _, h1, h2⟩ := p.rr.two
      have dx := dat_ok p.re h1 e3
      have dy := dat_ok p.re h2 e4
      cases x with
      | str s1 =>
        have hs1 : (us : Str) = mkS s1 := by cases dx; rfl
        subst hs1
        have hy : ∃ t, y = .str t ∧ ((∃ i, z = .int i) ∨ (∃ b, z = .bl b)) := by
          cases o <;> cases y <;> first | cases e5 | skip
          · obtain ⟨i, _, rfl⟩ := Option.map_eq_some_iff.mp (show (firstAt s1 _).map (fun (i : Nat) => D.int (i : Int)) = some z from e5)
            exact ⟨_, rfl, .inl ⟨_, rfl⟩⟩
          · exact ⟨_, rfl, .inr ⟨_, rfl⟩⟩
          · exact ⟨_, rfl, .inr ⟨_, rfl⟩⟩
        obtain ⟨t, rfl, hz⟩ := hy
        have hw : w = .str (mkS t) := by cases dy; rfl
        subst hw
        exact ⟨s1, t, z, rfl, rfl, e5, fin p hz⟩
      | _ => cases dx
    | lst l0 =>
      cases o with
      | index =>
        refine .inr ⟨rfl, W, ρ, O, r1, ρ1, ok, e1, fun H1 O1 S1 u p1 => ?_⟩
        have d0 := dat_ok p1.re p1.rr.one e0
        have hu' : ∃ a xs, u = .ref a ∧ SqL X.K H1 a xs := by
          cases d0 with
          | lst h1 h2 => exact ⟨_, _, rfl, h1⟩
        obtain ⟨ua, xs, rfl, sq⟩ := hu'
        refine ⟨.inl ⟨rfl, xs, sq⟩, _, ρ1, O1, r2, ρ2, p1.ok ok, e2, fun H2 O2 S2 w p2 => ?_⟩
        have p := p1.trans ok p2
        obtain ⟨T1, T2, _, h1, h2⟩ := p.rr.two
        have dx := dat_ok p.re h1 e3
        have dy := dat_ok p.re h2 e4
        cases x with
        | lst ds =>
          have hz : ∃ i, z = .int i := by
            unfold mt at e5
            simp only at e5
            split at e5
            · obtain ⟨i, _, rfl⟩ := Option.map_eq_some_iff.mp e5
              exact ⟨_, rfl⟩
            · cases e5
          exact ⟨ua, w, ds, y, z, rfl, rfl, dx, dy, e5, fin p (.inl hz)⟩
        | tup _ => exact absurd e5 (by unfold mt; simp)
        | _ => cases dx
      | _ => cases hk
    | _ => cases o <;> cases hk
  · cases he
theorem se_met (o : Mt) (hu : X.A.units + 65 < cLine) (ha : SE X M a A) (hb : SE X M b B) (hs : starEach [b] X.env = [(false, eval b X.env)]) (hbase : attributeBase a (mtN o) X.env (eval a X.env) = eval a X.env) (hline : (apos.endLine == pos.line) = true) :
    SE X M (.Call (.Attribute a (mtN o) apos) [b] [] pos) (.met o A B) := by
  have few : ((backTo pos (starEach [b] X.env)).all (fun x => !x.1) && (backToKw pos (keywordEach [] X.env)).all (fun x => x.1.isSome) && decide (([b] : List Expr).length + ([] : List Keyword).length + (if ([] : List Keyword).isEmpty then 0 else 1) < 30)) = true := by
    rw [hs]; rfl
  have h1 := pe_bm (X := X) (cpos := pos) (apos := apos) F.plainAttrs_str (slotS o) (typeS o) (mt_strs o) ha (pa_cons hb pa_nil hs) hbase few hline hs rfl
  refine ⟨fun pins s σ H Q I h => ?_⟩
  rcases met_inv h hu with h | ⟨ho, h3⟩
  · exact h1.run pins s σ H Q I h
  · subst ho
    have hq := h3
    have h2 := pe_bm (X := X) (cpos := pos) (apos := apos) F.plainAttrs_list F.slot_list_index F.type_list_index (mt_lsts hu) ha (pa_cons hb pa_nil hs) hbase few hline hs rfl
    exact h2.run pins s σ H Q I hq
/-- max(xs, default=d) -/
theorem se_maxd {d : Int} {p1 : Pos} {kws : List Keyword} (hc : X.calm = true) (hu : X.A.units + 65 < cLine) (hg : Gl X "max") (hm : X.mg "max" = none) (ha : SE X M a A) (hk : PK X kws (tEs X.K M (.cons (.cst (.int d)) .nil))) (hs : starEach [a] X.env = [(false, eval a X.env)])
    (hall : (backToKw pos (keywordEach kws X.env)).all (·.1.isSome) = true) (hnone : (backToKw pos (keywordEach kws X.env)).any (·.1.isNone) = false) (hks : (backToKw pos (keywordEach kws X.env)).filterMap (·.1) = [Str.ofString "default"]) :
    SE X M (.Call (.Name "max" p1) [a] kws pos) (.b2 .maxd A (.cst (.int d))) := by
  refine (pe_callBK (cr_maxd hc hu) hg hm (by decide +kernel) (pa_cons ha pa_nil hs) hk (by decide) (by decide) (by rw [hs]; rfl) (by rw [hs]; rfl) hall hnone hks).imp fun σ H Q ⟨W, ρ, O, r, ρ', ok, he, k⟩ => ?_
  unfold ev at he
  obtain ⟨⟨r1, ρ1⟩, e1, he⟩ := Option.bind_eq_some_iff.mp he
  obtain ⟨⟨r2, ρ2⟩, e2, he⟩ := Option.bind_eq_some_iff.mp he
  obtain ⟨x, e3, he⟩ := Option.bind_eq_some_iff.mp he
  obtain ⟨y, e4, he⟩ := Option.bind_eq_some_iff.mp he
  obtain ⟨z, e5, he⟩ := Option.map_eq_some_iff.mp he
  cases he
  have f2 := e2
  unfold ev at f2
  cases f2
  cases e4
  refine tE_one ok e1 fun H1 O1 S1 u p1 => ?_
  have es : evs M (.cons (.cst (.int d)) .nil) ρ1 = some ([.v (.d (.int d))], ρ1) := by
    unfold evs; rw [e2]; unfold evs; rfl
  refine ⟨_, ρ1, O1, _, ρ1, p1.ok ok, es, fun H2 O2 S2 zs q => ?_⟩
  have pq := p1.trans ok q
  obtain ⟨w, rfl⟩ : ∃ w, zs = [w] := by
    cases q.rr with
    | cons _ h => cases h; exact ⟨_, rfl⟩
  obtain ⟨T1, T2, e6, h1, h2⟩ := pq.rr.two
  have fx := pq.rf ok h1 (fun b hb => by rw [e6]; exact List.mem_append_left _ hb) e3
  have hw : w = .int d := by
    cases h2 with
    | v h => cases h with | d h => cases h; rfl
  subst hw
  cases x with
  | lst xs =>
    obtain ⟨ns, e7, rfl⟩ := Option.map_eq_some_iff.mp (show (ints? xs).map (fun ns => Val.d (.int ((maxI ns).getD d))) = some z from e5)
    obtain ⟨c, vs, rfl, g1, g2⟩ := fx
    have := ints_rel g2 e7
    subst this
    exact ⟨c, ns, d, rfl, rfl, SqL.of g1, pq.giveD ok (fun H3 S3 v q => k _ _ _ _ q) (.int _)⟩
  | _ => cases e5
end
end Pu

set_option Elab.async false
set_option maxRecDepth 100000
set_option maxHeartbeats 2000000
namespace Pu
open PySem L2 PyProof.Rows

/-! ### steps that may store to slots -/
structure Stp (K : PySem.W.Frag) (io : Nat → Bool) (H : Hp) (W : Addr → Prop) (O : List Addr) (σ : L2.St) (H' : Hp) (O' : List Addr) (σ' : L2.St) (ρ' : Env) : Prop where
  keep : ∀ b o, H b = some o → b ∉ O → H' b = some o
  new : ∀ b, b ∈ O' → b ∈ O ∨ H b = none
  ok : Okk K H' W σ' ρ' O'
  io : ∀ j, io j = true → σ'[j]? = σ[j]?
  len : σ'.length = σ.length
section
variable {K : PySem.W.Frag} {io : Nat → Bool} {H H' H1 H2 : Hp} {W : Addr → Prop} {σ σ' σ1 σ2 : L2.St} {ρ ρ' ρ1 ρ2 : Env} {O O' O1 O2 S S1 S2 : List Addr} {vs us : List V} {rs qs : List R} {v w : V} {r r1 r2 : R}
theorem Stp.refl (ok : Okk K H W σ ρ O) : Stp K io H W O σ H O σ ρ := ⟨fun _ _ e _ => e, fun _ h => .inl h, ok, fun _ _ => rfl, rfl⟩
theorem Stp.trans (p : Stp K io H W O σ H1 O1 σ1 ρ1) (q : Stp K io H1 W O1 σ1 H2 O2 σ2 ρ2) : Stp K io H W O σ H2 O2 σ2 ρ2 := by
  refine ⟨fun b o e n => q.keep b o (p.keep b o e n) fun z => ?_, fun b h => ?_, q.ok, fun j h => (q.io j h).trans (p.io j h), q.len.trans p.len⟩
  · rcases p.new b z with z | z
    · exact n z
    · rw [z] at e; cases e
  · rcases q.new b h with z | z
    · exact p.new b z
    · by_cases hb : b ∈ O
      · exact .inl hb
      · cases e : H b with
        | none => exact .inr rfl
        | some o => rw [p.keep b o e hb] at z; cases z
theorem Post.stp (p : Post K H W O σ H' O' [] vs rs ρ') (ok : Okk K H W σ ρ O) : Stp K io H W O σ H' O' σ ρ' := ⟨p.keep, fun b h => p.new b (.inl h), okk_nil (p.ok ok), fun _ _ => rfl, rfl⟩
theorem Post.forget (p : Post K H W O σ H' O' S vs rs ρ') : Post K H W O σ H' O' [] [] [] ρ' :=
  ⟨p.keep, fun b h => p.new b (.inl (h.elim id fun z => nomatch z)), p.re.fut (fut_same fun b z => z.elim .inl fun z => .inr (z.elim .inl fun z => nomatch z)) fun _ _ _ e => e, .nil, by rw [List.append_nil]; exact (List.nodup_append.mp p.nd).1, fun b h => p.tr b (.inl (h.elim id fun z => nomatch z))⟩
/-- a value in hand -/
structure Hld (K : PySem.W.Frag) (H : Hp) (W : Addr → Prop) (σ : L2.St) (ρ : Env) (O S : List Addr) (v : V) (x : Val) : Prop where
  re : RE K H (Pp W O S) σ ρ O
  rv : RV H (Pp W O S) v x S
  nd : (O ++ S).Nodup
  w : ∀ a, W a → (a ∉ O ∧ a ∉ S) ∧ H a ≠ none
  tr : ∀ b, b ∈ O ∨ b ∈ S → H b ≠ none
theorem Post.hld (p : Post K H W O σ H' O' S [v] [.v x] ρ') (ok : Okk K H W σ ρ O) : Hld K H' W σ ρ' O' S v x :=
  ⟨p.re, by cases p.rr.one with | v h => exact h, p.nd, fun a h => p.wkeep ok h, p.tr⟩
theorem Okk.hld (ok : Okk K H W σ ρ O) {d : D} (h : RD H (Pp W O []) v d) : Hld K H W σ ρ O [] v (.d d) :=
  ⟨ok.re, .d h, by simpa using ok.nd, fun a z => ⟨⟨(ok.w a z).1, fun z => nomatch z⟩, (ok.w a z).2⟩, fun b z => z.elim (ok.tr b) fun z => nomatch z⟩
/-- a state is well: slots over owned places -/
theorem okk_of {K : PySem.W.Frag} {H : Hp} {W : Addr → Prop} {σ : L2.St} {ρ : Env} {O T : List Addr} (re : RE K H (Pp W T []) σ ρ O) (sub : ∀ b ∈ O, b ∈ T) (nd : O.Nodup) (w : ∀ a, W a → a ∉ T ∧ H a ≠ none) (tr : ∀ b ∈ T, H b ≠ none) : Okk K H W σ ρ O :=
  ⟨re.fut (fut_same fun b z => by
    rcases z with z | z | z
    · exact .inl z
    · exact .inr (.inl (sub b z))
    · exact nomatch z) fun _ _ _ e => e, nd, fun a h => ⟨fun z => (w a h).1 (sub a z), (w a h).2⟩, fun b h => tr b (sub b h)⟩
theorem nodup_swap {A S B T : List Addr} (h : (A ++ (S ++ B) ++ T).Nodup) : (A ++ (T ++ B)).Nodup := by
  have h1 : (A ++ B ++ T).Nodup := h.sublist (List.Sublist.append (List.Sublist.append (List.Sublist.refl A) (List.sublist_append_right S B)) (List.Sublist.refl T))
  rw [List.nodup_append] at h1 ⊢
  obtain ⟨h2, h3, h4⟩ := h1
  rw [List.nodup_append] at h2
  obtain ⟨h5, h6, h7⟩ := h2
  refine ⟨h5, List.nodup_append.mpr ⟨h3, h6, fun a ha b hb e => ?_⟩, fun a ha b hb e => ?_⟩
  · exact h4 b (List.mem_append_right _ hb) a ha e.symm
  · rcases List.mem_append.mp hb with hb | hb
    · exact h4 a (List.mem_append_left _ ha) b hb e
    · exact h7 a ha b hb e
theorem asg_ok {i : Nat} {x : Val} (h : Hld K H W σ ρ O S v x) (e : asg io ρ i x = some ρ') : ∃ O', Stp K io H W (O ++ S) σ H O' (σ.set i (some v)) ρ' ∧ io i = false ∧ i < ρ.length := by
  unfold asg at e
  split at e
  · rename_i hc
    cases e
    have hi : ρ[i]? = some ρ[i] := List.getElem?_eq_getElem hc.2
    obtain ⟨A, S1, B, o, e1, e2, r, k⟩ := h.re.at hi
    have k1 := k (some v) (.lo x) S (.lo h.rv)
    have nd := h.nd
    rw [e1] at nd
    have sub : ∀ b ∈ A ++ (S ++ B), b ∈ O ++ S := fun b hb => by
      rw [e1]
      rcases List.mem_append.mp hb with hb | hb
      · exact List.mem_append_left _ (List.mem_append_left _ hb)
      · rcases List.mem_append.mp hb with hb | hb
        · exact List.mem_append_right _ hb
        · exact List.mem_append_left _ (List.mem_append_right _ (List.mem_append_right _ hb))
    refine ⟨A ++ (S ++ B), ⟨fun _ _ e _ => e, fun b hb => .inl (sub b hb), ?_, fun j hj => ?_, List.length_set ..⟩, hc.1, hc.2⟩
    · refine okk_of (T := O ++ S) (k1.fut (fut_same fun b z => ?_) fun _ _ _ e => e) sub (nodup_swap nd) (fun a z => ?_) fun b z => ?_
      · rcases z with z | z | z
        · exact .inl z
        · exact .inr (List.mem_append.mp z)
        · exact nomatch z
      · obtain ⟨⟨n1, n2⟩, t⟩ := h.w a z
        exact ⟨fun q => (List.mem_append.mp q).elim n1 n2, t⟩
      · exact h.tr b (List.mem_append.mp z)
    · rw [List.getElem?_set_ne]
      intro q
      subst q
      rw [hc.1] at hj; cases hj
  · cases e
end
end Pu

set_option Elab.async false
set_option maxRecDepth 100000
set_option maxHeartbeats 2000000
namespace Pu
open PySem L2 RZ PyProof.Rows

/-! ### targets -/
mutual
def Tg.names : Tg → List Nat
  | .nm i => [i]
  | .ix _ _ => []
  | .tp ts => Tgs.names ts
def Tgs.names : Tgs → List Nat
  | .nil => []
  | .cons t ts => t.names ++ Tgs.names ts
end
section
variable (K : PySem.W.Frag) (M : Mach)
def tG (t : Tg) : TG := fun v σ H Q => ∃ W ρ O S x ρ', Hld K H W σ ρ O S v x ∧ asgT M t x ρ = some ρ' ∧ ∀ H' O' σ', Stp K M.io H W (O ++ S) σ H' O' σ' ρ' → (∀ j, j ∉ t.names → σ'[j]? = σ[j]?) → Q σ' H'
def tGs (ts : Tgs) : TGs := fun vs σ H Q => ∃ W ρ O ds ρ', Okk K H W σ ρ O ∧ RDs H (Pp W O []) vs ds ∧ asgTs M ts ds ρ = some ρ' ∧ ∀ H' O' σ', Stp K M.io H W O σ H' O' σ' ρ' → (∀ j, j ∉ ts.names → σ'[j]? = σ[j]?) → Q σ' H'
end
theorem _root_.L2.PG.imp {X : Cx} {e : Expr} {t t' : TG} (h : PG X e t) (k : ∀ v σ H Q, t' v σ H Q → t v σ H Q) : PG X e t' := ⟨fun pins s σ H v u Q I r q => h.run pins s σ H v u Q I r (k v σ H Q q)⟩
theorem _root_.L2.PGs.imp {X : Cx} {e : List Expr} {t t' : TGs} (h : PGs X e t) (k : ∀ v σ H Q, t' v σ H Q → t v σ H Q) : PGs X e t' := ⟨fun pins s σ H v u Q I r q => h.run pins s σ H v u Q I r (k v σ H Q q)⟩
section
variable {X : Cx} {M : Mach} {e : Expr} {es : List Expr} {pos p1 p2 p3 : Pos}
abbrev SG (X : Cx) (M : Mach) (e : Expr) (t : Tg) : Prop := PG X e (tG X.K M t)
abbrev SGs (X : Cx) (M : Mach) (es : List Expr) (ts : Tgs) : Prop := PGs X es (tGs X.K M ts)
theorem sg_nm {i : Nat} {x : Str} (hN : X.N.Nodup) (hi : X.N[i]? = some x) (hx : Loc X.env.scope x) (hf : X.fn x = true ∨ X.env.scope.names.lookup x = some .local) : SG X M (.Name x pos) (.nm i) := by
  refine (pg_name hN hi hx hf).imp fun v σ H Q ⟨W, ρ, O, S, x, ρ', h, e, k⟩ => ?_
  unfold asgT at e
  obtain ⟨O', p, h1, h2⟩ := asg_ok h e
  refine k H O' _ p fun j hj => ?_
  rw [List.getElem?_set_ne]
  intro q
  exact hj (by simp [Tg.names, q])
theorem sgs_nil : SGs X M [] .nil := by
  refine pgs_nil.imp fun vs σ H Q ⟨W, ρ, O, ds, ρ', ok, r, e, k⟩ => ?_
  cases r with
  | nil =>
    unfold asgTs at e
    cases e
    exact ⟨rfl, k H O σ (.refl ok) fun _ _ => rfl⟩
  | cons _ _ => simp [asgTs] at e
theorem sgs_cons {t : Tg} {ts : Tgs} (h1 : SG X M e t) (h2 : SGs X M es ts) (hs : (assignEach (e :: es) X.env).map (·.2) = assign e X.env :: (assignEach es X.env).map (·.2)) : SGs X M (e :: es) (.cons t ts) := by
  refine (pgs_cons h1 h2 hs).imp fun vs σ H Q ⟨W, ρ, O, ds, ρ', ok, r, e, k⟩ => ?_
  cases r with
  | nil => simp [asgTs] at e
  | @cons v vs d ds' r1 r2 =>
    rw [asgTs] at e
    obtain ⟨ρ1, e1, e2⟩ := Option.bind_eq_some_iff.mp e
    refine ⟨v, vs, rfl, W, ρ, O, [], .d d, ρ1, ok.hld r1, e1, fun H1 O1 σ1 p n1 => ?_⟩
    rw [List.append_nil] at p
    refine ⟨W, ρ1, O1, ds', ρ', p.ok, r2.fut (fun b o e n => ?_), e2, fun H2 O2 σ2 q n2 => k H2 O2 σ2 (p.trans q) fun j hj => ?_⟩
    · have hb : b ∉ O := fun z => n (.inr (.inl z))
      refine ⟨p.keep b o e hb, fun z => ?_⟩
      rcases z with z | z | z
      · exact n (.inl z)
      · rcases p.new b z with z | z
        · exact hb z
        · rw [z] at e; cases e
      · exact nomatch z
    · have h3 : j ∉ t.names ∧ j ∉ ts.names := by
        have h : j ∉ t.names ++ ts.names := hj
        rw [List.mem_append, not_or] at h
        exact h
      exact (n2 j h3.2).trans (n1 j h3.1)
theorem sg_tp {n : Nat} {ts : Tgs} (hc : X.calm = true) (h : SGs X M es ts) (hst : (assignEach es X.env).findIdx? (·.1) = none) (hlen : ∀ ds ρ ρ', asgTs M ts ds ρ = some ρ' → ds.length = (assignEach es X.env).length) : SG X M (.Tuple es n pos) (.tp ts) := by
  refine (pg_tup (n := (assignEach es X.env).length) hc h rfl hst).imp fun v σ H Q ⟨W, ρ, O, S, x, ρ', h, e, k⟩ => ?_
  unfold asgT at e
  split at e
  · rename_i ds
    have rv := h.rv
    cases rv with
    | d rd =>
      obtain ⟨a, xs, rfl, h1, _, h2⟩ := RD.tup_inv rd
      refine ⟨a, xs, rfl, SqT.of h1, by rw [h2.length]; exact hlen _ _ _ e, W, ρ, O, ds, ρ', ⟨h.re, by simpa using h.nd, fun a z => ⟨(h.w a z).1.1, (h.w a z).2⟩, fun b z => h.tr b (.inl z)⟩, h2, e, fun H1 O1 σ1 p n => ?_⟩
      refine k H1 O1 σ1 ?_ n
      rw [List.append_nil]; exact p
  · cases e
end

/-! ### what is walked: the data xs, wherever the heap goes -/
def Wk (J : It) (H : Hp) (P : Addr → Prop) (xs : List D) : Prop := ∀ (H2 : Hp) (P2 : Addr → Prop), Fut H P H2 P2 → (∀ a, P2 a → H2 a ≠ none) → ∀ i,
  (∀ x, xs[i]? = some x → J.go i H2 ∧ ∀ v H3, J.yld i H2 v H3 → (∀ b o, H2 b = some o → H3 b = some o) ∧ RD H3 P2 v x) ∧ (xs.length ≤ i → J.stop i H2)
/-- shared data, or the script -/
def RX (K : PySem.W.Frag) (H : Hp) (P : Addr → Prop) (v : V) (d : D) : Prop := RD H P v d ∨ ∃ (a : Addr) (ns : List Int), v = .ref a ∧ d = .lst (ns.map .int) ∧ RdL K H P a (ns.map V.int)
theorem RX.fut {K : PySem.W.Frag} {H H' : Hp} {P P' : Addr → Prop} {v : V} {d : D} (f : Fut H P H' P') (h : RX K H P v d) : RX K H' P' v d := by
  rcases h with h | ⟨a, ns, h1, h2, h3⟩
  · exact .inl (h.fut f)
  · exact .inr ⟨a, ns, h1, h2, h3.fut f⟩
/-- a list that stands still -/
theorem RX.lst {K : PySem.W.Frag} {H : Hp} {P : Addr → Prop} {v : V} {ds : List D} (h : RX K H P v (.lst ds)) : ∃ a xs, v = .ref a ∧ SqL K H a xs ∧ RDs H P xs ds := by
  rcases h with h | ⟨a, ns, h1, h2, h3⟩
  · cases h with | lst h1 h2 h3 => exact ⟨_, _, rfl, SqL.of h1, h3⟩
  · cases h2; exact ⟨a, _, h1, h3.sq, rds_ints _⟩
theorem wk_list {K : PySem.W.Frag} {H : Hp} {P : Addr → Prop} {a : Addr} {ds : List D} (h : RX K H P (.ref a) (.lst ds)) : Wk (Itl K a) H P ds := by
  intro H2 P2 f hP i
  obtain ⟨b, xs, eb, hs, hd⟩ := (h.fut f).lst
  cases eb
  refine ⟨fun x hx => ?_, fun hl => ⟨xs, hs, by rw [hd.length]; exact hl⟩⟩
  obtain ⟨v, hv, rv⟩ := hd.get hx
  refine ⟨⟨xs, v, hs, hv⟩, fun u H3 y => ?_⟩
  obtain ⟨rfl, y⟩ := y
  have := y xs hs
  rw [hv] at this; cases this
  exact ⟨fun _ _ e => e, rv⟩
theorem wk_tup {K : PySem.W.Frag} {H : Hp} {P : Addr → Prop} {a : Addr} {ds : List D} (h : RD H P (.ref a) (.tup ds)) : Wk (Itt K a) H P ds := by
  intro H2 P2 f hP i
  obtain ⟨b, xs, eb, hs, _, hd⟩ := RD.tup_inv (h.fut f)
  cases eb
  refine ⟨fun x hx => ?_, fun hl => ⟨xs, SqT.of hs, by rw [hd.length]; exact hl⟩⟩
  obtain ⟨v, hv, rv⟩ := hd.get hx
  refine ⟨⟨xs, v, SqT.of hs, hv⟩, fun u H3 y => ?_⟩
  obtain ⟨rfl, y⟩ := y
  have := y xs (SqT.of hs)
  rw [hv] at this; cases this
  exact ⟨fun _ _ e => e, rv⟩
theorem wk_str {H : Hp} {P : Addr → Prop} (s : List Nat) (hs : s.all (fun c => decide (c < 0x110000)) = true) : Wk (Its ⟨s.toArray⟩) H P (s.map fun c => .str [c]) := by
  intro H2 P2 f hP i
  refine ⟨fun x hx => ?_, fun hl => by show s.toArray.size ≤ i; simpa using hl⟩
  rw [List.getElem?_map, Option.map_eq_some_iff] at hx
  obtain ⟨c, hc, rfl⟩ := hx
  refine ⟨by show i < s.toArray.size; simpa using (List.getElem?_eq_some_iff.mp hc).1, fun u H3 y => ?_⟩
  obtain ⟨rfl, c', hc', rfl⟩ := y
  have hc2 : s[i]? = some c' := by simpa using hc'
  rw [hc] at hc2; cases hc2
  refine ⟨fun _ _ e => e, .str [c] (show 1 ≤ line by decide) ?_⟩
  have := List.all_eq_true.mp hs c (List.mem_of_getElem? hc)
  simp only [List.all_cons, List.all_nil, Bool.and_true]; exact this
theorem wk_range {H : Hp} {P : Addr → Prop} (lo hi : Int) : Wk (Itr lo (hi - lo).toNat) H P (ranged lo hi) := by
  intro H2 P2 f hP i
  have hlen : (ranged lo hi).length = (hi - lo).toNat := by unfold ranged; simp
  refine ⟨fun x hx => ?_, fun hl => by show (hi - lo).toNat ≤ i; omega⟩
  have hi' := (List.getElem?_eq_some_iff.mp hx).1
  rw [hlen] at hi'
  refine ⟨hi', fun u H3 y => ?_⟩
  obtain ⟨rfl, rfl⟩ := y
  refine ⟨fun _ _ e => e, ?_⟩
  unfold ranged at hx
  rw [List.getElem?_map, List.getElem?_range hi'] at hx
  cases hx
  exact .int _
theorem pairs_get {xs ys : List D} {i : Nat} {x : D} (h : (pairs xs ys)[i]? = some x) : ∃ y z, xs[i]? = some y ∧ ys[i]? = some z ∧ x = .tup [y, z] := by
  unfold pairs at h
  rw [List.getElem?_map, Option.map_eq_some_iff] at h
  obtain ⟨p, h, rfl⟩ := h
  rw [List.getElem?_zip_eq_some] at h
  exact ⟨p.1, p.2, h.1, h.2, rfl⟩
theorem new_pair {H2 : Hp} {P2 : Addr → Prop} {T : Addr} {u w : V} {y z : D} (hP : ∀ a, P2 a → H2 a ≠ none) (hT : H2 T = none) (h1 : RD H2 P2 u y) (h2 : RD H2 P2 w z) : RD (upd H2 T (.tup [u, w])) P2 (.ref T) (.tup [y, z]) := by
  have f : Fut H2 P2 (upd H2 T (.tup [u, w])) P2 := fun b o e n => ⟨grow_new hT b o e, n⟩
  exact .tup upd_same (fun q => hP _ q hT) (.cons (h1.fut f) (.cons (h2.fut f) .nil))
theorem wk_zipL {K : PySem.W.Frag} {H : Hp} {P : Addr → Prop} {a b : Addr} {xs ys : List D} (h1 : RX K H P (.ref a) (.lst xs)) (h2 : RX K H P (.ref b) (.lst ys)) : Wk (Itz K a b) H P (pairs xs ys) := by
  intro H2 P2 f hP i
  obtain ⟨_, us, e1, s1, d1⟩ := (h1.fut f).lst
  cases e1
  obtain ⟨_, ws, e2, s2, d2⟩ := (h2.fut f).lst
  cases e2
  refine ⟨fun x hx => ?_, fun hl => ⟨us, ws, s1, s2, ?_⟩⟩
  · obtain ⟨y, z, hy, hz, rfl⟩ := pairs_get hx
    obtain ⟨u, hu, ru⟩ := d1.get hy
    obtain ⟨w, hw, rw'⟩ := d2.get hz
    refine ⟨⟨us, ws, u, w, s1, s2, hu, hw⟩, fun v H3 q => ?_⟩
    obtain ⟨T, u', w', rfl, hT, rfl, q1, q2⟩ := q
    have := q1 us s1
    rw [hu] at this; cases this
    have := q2 ws s2
    rw [hw] at this; cases this
    exact ⟨grow_new hT, new_pair hP hT ru rw'⟩
  · rw [d1.length, d2.length]
    unfold pairs at hl
    rw [List.length_map, List.length_zip] at hl
    omega
theorem wk_zipT {K : PySem.W.Frag} {H : Hp} {P : Addr → Prop} {a b : Addr} {xs ys : List D} (h1 : RD H P (.ref a) (.tup xs)) (h2 : RD H P (.ref b) (.tup ys)) : Wk (ItzT K a b) H P (pairs xs ys) := by
  intro H2 P2 f hP i
  obtain ⟨_, us, e1, s1, _, d1⟩ := RD.tup_inv (h1.fut f)
  cases e1
  obtain ⟨_, ws, e2, s2, _, d2⟩ := RD.tup_inv (h2.fut f)
  cases e2
  refine ⟨fun x hx => ?_, fun hl => ⟨us, ws, SqT.of s1, SqT.of s2, ?_⟩⟩
  · obtain ⟨y, z, hy, hz, rfl⟩ := pairs_get hx
    obtain ⟨u, hu, ru⟩ := d1.get hy
    obtain ⟨w, hw, rw'⟩ := d2.get hz
    refine ⟨⟨us, ws, u, w, SqT.of s1, SqT.of s2, hu, hw⟩, fun v H3 q => ?_⟩
    obtain ⟨T, u', w', rfl, hT, rfl, q1, q2⟩ := q
    have := q1 us (SqT.of s1)
    rw [hu] at this; cases this
    have := q2 ws (SqT.of s2)
    rw [hw] at this; cases this
    exact ⟨grow_new hT, new_pair hP hT ru rw'⟩
  · rw [d1.length, d2.length]
    unfold pairs at hl
    rw [List.length_map, List.length_zip] at hl
    omega
theorem numbered_get : ∀ {xs : List D} {k i : Nat} {x : D}, (numbered k xs)[i]? = some x → ∃ y, xs[i]? = some y ∧ x = .tup [.int ((k + i : Nat) : Int), y]
  | [], _, _, _, h => by simp [numbered] at h
  | y :: xs, k, 0, x, h => by simp [numbered] at h; exact ⟨y, rfl, by simpa using h.symm⟩
  | y :: xs, k, i + 1, x, h => by
    obtain ⟨z, h1, h2⟩ := numbered_get (xs := xs) (k := k + 1) (i := i) (x := x) (by simpa [numbered] using h)
    refine ⟨z, by simpa using h1, ?_⟩
    rw [h2, show k + 1 + i = k + (i + 1) by omega]
theorem numbered_length : ∀ (xs : List D) (k : Nat), (numbered k xs).length = xs.length
  | [], _ => rfl
  | x :: xs, k => by simp [numbered, numbered_length xs]
theorem wk_enum {K : PySem.W.Frag} {H : Hp} {P : Addr → Prop} {a : Addr} {xs : List D} (h1 : RX K H P (.ref a) (.lst xs)) : Wk (Ite K a) H P (numbered 0 xs) := by
  intro H2 P2 f hP i
  obtain ⟨_, us, e1, s1, d1⟩ := (h1.fut f).lst
  cases e1
  refine ⟨fun x hx => ?_, fun hl => ⟨us, s1, by rw [d1.length]; rw [numbered_length] at hl; exact hl⟩⟩
  obtain ⟨y, hy, rfl⟩ := numbered_get hx
  obtain ⟨u, hu, ru⟩ := d1.get hy
  refine ⟨⟨us, u, s1, hu⟩, fun v H3 q => ?_⟩
  obtain ⟨T, u', rfl, hT, rfl, q1⟩ := q
  have := q1 us s1
  rw [hu] at this; cases this
  rw [Nat.zero_add]
  exact ⟨grow_new hT, new_pair hP hT (.int _) ru⟩
end Pu

set_option Elab.async false
set_option maxRecDepth 100000
set_option maxHeartbeats 2000000
namespace PySem
open Sem (wp)
open PySem.W (kdx_alive)
/-- a zip, whatever stands in its marks -/
abbrev ZipF (h : Heap) (z TI TO : Addr) (f0 : Value) (fb : Bool) : Prop :=
  h.get? z = some { cls := .type "zip", dict := none, data := .fields #[f0, .bool fb, .bool false, .ref TI, .ref TO], slots := #[] }
def ZipMk (f0 : Value) : Prop := f0 = .none ∨ ∃ T : Addr, f0 = rawInt T
section
variable {prog : Program} {w : World} {A : Around} {E : Value → Shared → Prop} {s : Shared} {z TI TO i1 i2 : Addr} {fp1 fp2 : List Addr} {n1 n2 i : Nat} {P1 P2 : Nat → Value → Prop} {St1 St2 : Nat → Heap → Prop} {a1 a2 : Value} {f0 : Value} {fb : Bool}
theorem zip_asks {Q : Bool → Shared → Prop} (hz : ZipF s.heap z TI TO f0 fb) (hm : ZipMk f0) (h1 : Q true s) (h2 : ∀ (h' : Heap) (T : Addr), ZipF h' z TI TO (rawInt T) true → Heap.SameBut z s.heap h' → Q false { s with heap := h' }) : wpAny (model prog w) A (Builtin.SmallTypes.ownedTupleIsFree (.ref z)) Q E s := by
  unfold Builtin.SmallTypes.ownedTupleIsFree
  rcases hm with rfl | ⟨T, rfl⟩
  · exact wpAny_bind (wpAny_field hz rfl (x := .none) rfl (wpAny_pure h1))
  · refine wpAny_bind (wpAny_field hz rfl (x := rawInt T) rfl ?_)
    show wpAny _ _ (loadIfAlive ((T : Int).toNat) >>= _) _ _ _
    rw [Int.toNat_natCast]
    have load : ∀ {Q : Option Obj → Shared → Prop}, Q (s.heap.get? T) s → wpAny (model prog w) A (loadIfAlive T) Q E s := fun h => fun _ _ _ => h
    refine wpAny_bind (load ?_)
    cases hT : s.heap.get? T with
    | none => simp only [Option.isNone_none, if_true]; exact wpAny_pure h1
    | some o =>
      simp only [Option.isNone_some, Bool.false_eq_true, if_false]
      refine wpAny_bind (wpAny_field hz rfl (x := .bool fb) rfl ?_)
      cases fb with
      | true =>
        rw [if_neg (show ¬ ((Value.bool true != Value.bool true) = true) from Bool.false_ne_true)]
        exact wpAny_pure (h2 s.heap T hz (Heap.SameBut.refl _ _))
      | false =>
        rw [if_pos (show (Value.bool false != Value.bool true) = true from rfl)]
        exact wpAny_bind (wpAny_setField_rec hz (by simp) fun h₁ hz₁ hs₁ => wpAny_pure (h2 h₁ T hz₁ hs₁))
theorem zipF_next_item {Q : Value → Shared → Prop} (S : ZipSep2 z TI TO i1 i2 fp1 fp2) (D1 : Draws prog w A i1 fp1 n1 P1 St1) (D2 : Draws prog w A i2 fp2 n2 P2 St2)
    (hz : ZipF s.heap z TI TO f0 fb) (hm : ZipMk f0) (hTI : IsTupOf2 s.heap TI (.ref i1) (.ref i2)) (hTO : IsTupOf2 s.heap TO a1 a2) (st1 : St1 i s.heap) (st2 : St2 i s.heap) (hlt1 : i < n1) (hlt2 : i < n2)
    (hQ : ∀ x1 x2 h' tk f1 fb1 b1 b2, P1 i x1 → P2 i x2 → ZipF h' z TI TO f1 fb1 → ZipMk f1 → IsTupOf2 h' TO b1 b2 → St1 (i + 1) h' → St2 (i + 1) h' → IsTupOf2 h' s.heap.objs.size x1 x2 → h'.objs.size = s.heap.objs.size + 1 →
      (∀ c o, c ≠ z → c ≠ TO → c ≠ i1 → c ≠ i2 → s.heap.get? c = some o → h'.get? c = some o) → Q (.ref s.heap.objs.size) { s with heap := h', toks := tk }) :
    wpAny (model prog w) A (Builtin.«zip.__next__» ⟨[.ref z], []⟩) (fun fin s' => ∃ v, fin = .done (.ret v) ∧ Q v s') E s := by
  obtain ⟨hp, g, d, tk0, os⟩ := s
  show wpAny _ _ (field (.ref z) 2 >>= _) _ _ _
  refine wpAny_bind (wpAny_field hz rfl (x := .bool false) rfl ?_)
  show wpAny _ _ (field (.ref z) 3 >>= _) _ _ _
  refine wpAny_bind (wpAny_field hz rfl (x := .ref TI) rfl ?_)
  refine wpAny_bind (wpAny_seqItems hTI rfl ?_)
  show wpAny _ _ (Builtin.SmallTypes.ownedTupleIsFree (.ref z) >>= _) _ _ _
  refine wpAny_bind (zip_asks hz hm ?_ fun h₁ T hz₁ hs₁ => ?_)
  · simp only [if_true]
    refine wpAny_bind (wpAny_rule ?_)
    refine wpAny_bind (wpAny_field hz rfl (x := .ref TO) rfl ?_)
    refine wpAny_bind (wpAny_setField_rec hz (by simp) fun g0 hz0 hs0 => ?_)
    replace hz0 : ZipF g0 z TI TO .ellipsis fb := hz0
    replace hs0 : Heap.SameBut z hp g0 := hs0
    refine wpAny_bind ?_
    simp only [List.zipIdx_cons, List.zipIdx_nil, List.forIn_cons, List.forIn_nil]
    refine wpAny_bind (wpAny_bind (wpAny_onRaise ?_))
    show wpAny _ _ (Builtin.SmallTypes.nextOf (.ref i1) >>= _) _ _ ⟨g0, g, d, tk0, os⟩
    refine wpAny_bind (D1.item i _ _ _ hlt1 (D1.over st1 hs0 S.zf1) fun x1 p1 tk1 hx1 sn1 hp1 => wpAny_pure ?_)
    replace hp1 : Heap.SameBut i1 g0 p1 := hp1
    have hU1 : IsTupOf2 p1 TO a1 a2 := hp1.extBut _ _ S.Ti1 (hs0.extBut _ _ S.TOz hTO)
    refine wpAny_bind (wpAny_seqItems (s := ⟨p1, g, d, tk1, os⟩) hU1 rfl ?_)
    refine wpAny_bind (updateSeq_IsTupOf2 (s := ⟨p1, g, d, tk1, os⟩) hU1 fun g1 hT1 hs1 => ?_)
    replace hT1 : IsTupOf2 g1 TO x1 a2 := hT1
    replace hs1 : Heap.SameBut TO p1 g1 := hs1
    refine wpAny_bind (wpAny_letGo (wpAny_pure ?_))
    refine wpAny_bind (wpAny_bind (wpAny_onRaise ?_))
    show wpAny _ _ (Builtin.SmallTypes.nextOf (.ref i2) >>= _) _ _ ⟨g1, g, d, tk1, os⟩
    refine wpAny_bind (D2.item i _ _ _ hlt2 (D2.over (D2.over (D2.over st2 hs0 S.zf2) hp1 S.sep1_2) hs1 S.Tf2) fun x2 p2 tk2 hx2 sn2 hp2 => wpAny_pure ?_)
    replace hp2 : Heap.SameBut i2 g1 p2 := hp2
    have hU2 : IsTupOf2 p2 TO x1 a2 := hp2.extBut _ _ S.Ti2 hT1
    refine wpAny_bind (wpAny_seqItems (s := ⟨p2, g, d, tk2, os⟩) hU2 rfl ?_)
    refine wpAny_bind (updateSeq_IsTupOf2 (s := ⟨p2, g, d, tk2, os⟩) hU2 fun g2 hT2 hs2 => ?_)
    replace hT2 : IsTupOf2 g2 TO x1 x2 := hT2
    replace hs2 : Heap.SameBut TO p2 g2 := hs2
    refine wpAny_bind (wpAny_letGo (wpAny_pure (wpAny_pure ?_)))
    refine wpAny_bind (wpAny_seqItems (s := ⟨g2, g, d, tk2, os⟩) hT2 rfl ?_)
    refine wpAny_bind (wpAny_newTuple ?_)
    have hsz : g2.objs.size = hp.objs.size := by rw [hs2.1, hp2.1, hs1.1, hp1.1, hs0.1]
    have hzz : ZipF g2 z TI TO .ellipsis fb := (hs2.extBut _ _ S.TOz.symm (hp2.extBut _ _ S.zi2 (hs1.extBut _ _ S.TOz.symm (hp1.extBut _ _ S.zi1 hz0))))
    have hkk : ∀ c o, c ≠ z → c ≠ TO → c ≠ i1 → c ≠ i2 → hp.get? c = some o → g2.get? c = some o := fun c o cz cT c1 c2 e =>
      (hs2.extBut _ _ cT (hp2.extBut _ _ c2 (hs1.extBut _ _ cT (hp1.extBut _ _ c1 (hs0.extBut _ _ cz e)))))
    have hj1 : St1 (i + 1) g2 := (D1.over (D1.over (D1.over sn1 hs1 S.Tf1) hp2 S.sep2_1) hs2 S.Tf1)
    have hj2 : St2 (i + 1) g2 := (D2.over sn2 hs2 S.Tf2)
    have hzlt : z < g2.objs.size := Heap.lt_size hzz
    show wpAny _ _ (Builtin.SmallTypes.ownedTupleHandOut (.ref z) (.ref g2.objs.size) >>= _) _ _ ⟨g2.push { cls := .type "tuple", data := .seq #[x1, x2] }, g, d, tk2, os⟩
    refine wpAny_bind ?_
    unfold Builtin.SmallTypes.ownedTupleHandOut
    have hz₆ : ZipF (g2.push { cls := .type "tuple", data := .seq #[x1, x2] }) z TI TO .ellipsis fb := Heap.get?_push_of_some _ hzz
    refine wpAny_bind (wpAny_setField_rec hz₆ (by simp) fun h₇ hz₇ hs₇ => ?_)
    replace hz₇ : ZipF h₇ z TI TO (rawInt g2.objs.size) fb := hz₇
    refine wpAny_setField_rec hz₇ (by simp) fun h₈ hz₈ hs₈ => ?_
    replace hz₈ : ZipF h₈ z TI TO (rawInt g2.objs.size) false := hz₈
    replace hs₇ : Heap.SameBut z (g2.push { cls := .type "tuple", data := .seq #[x1, x2] }) h₇ := hs₇
    replace hs₈ : Heap.SameBut z h₇ h₈ := hs₈
    have up : ∀ c o, c ≠ z → g2.get? c = some o → h₈.get? c = some o := fun c o c1 e => hs₈.extBut _ _ c1 (hs₇.extBut _ _ c1 (Heap.get?_push_of_some _ e))
    have hT₈ : IsTupOf2 h₈ g2.objs.size x1 x2 := hs₈.extBut _ _ (Nat.ne_of_gt hzlt) (hs₇.extBut _ _ (Nat.ne_of_gt hzlt) (Heap.get?_push_size _ rfl))
    have hz8 : h₈.objs.size = g2.objs.size + 1 := by rw [hs₈.1, hs₇.1, Heap.size_push]
    rw [hsz] at hz₈ hT₈ hz8
    refine wpAny_pure ⟨_, rfl, ?_⟩
    show Q (.ref g2.objs.size) ⟨h₈, g, d, tk2, os⟩
    rw [hsz]
    exact hQ x1 x2 h₈ tk2 _ _ _ _ hx1 hx2 hz₈ (.inr ⟨_, rfl⟩) (up _ _ S.TOz hT2) (D1.frame _ _ _ hj1 fun b hb o e => up b o (fun q => S.zf1 (q ▸ hb)) e) (D2.frame _ _ _ hj2 fun b hb o e => up b o (fun q => S.zf2 (q ▸ hb)) e) hT₈ hz8 fun c o cz cT c1 c2 e => up c o cz (hkk c o cz cT c1 c2 e)
  · simp only [Bool.false_eq_true, if_false]
    replace hs₁ : Heap.SameBut z hp h₁ := hs₁
    refine wpAny_bind ?_
    rw [← Array.forIn_toList]
    simp only [List.forIn_cons, List.forIn_nil]
    refine wpAny_bind (wpAny_bind (wpAny_holding ?_))
    show wpAny _ _ (Builtin.SmallTypes.nextOf (.ref i1) >>= _) _ _ ⟨h₁, g, d, tk0, os⟩
    refine wpAny_bind (D1.item i _ _ _ hlt1 (D1.over st1 hs₁ S.zf1) fun x1 p1 tk1 hx1 sn1 hp1 => wpAny_pure ?_)
    replace hp1 : Heap.SameBut i1 h₁ p1 := hp1
    refine wpAny_pure ?_
    refine wpAny_bind (wpAny_bind (wpAny_holding ?_))
    show wpAny _ _ (Builtin.SmallTypes.nextOf (.ref i2) >>= _) _ _ ⟨p1, g, d, tk1, os⟩
    refine wpAny_bind (D2.item i _ _ _ hlt2 (D2.over (D2.over st2 hs₁ S.zf2) hp1 S.sep1_2) fun x2 p2 tk2 hx2 sn2 hp2 => wpAny_pure ?_)
    replace hp2 : Heap.SameBut i2 p1 p2 := hp2
    refine wpAny_pure (wpAny_pure ?_)
    show wpAny _ _ (newTuple [x1, x2] >>= _) _ _ ⟨p2, g, d, tk2, os⟩
    refine wpAny_bind (wpAny_newTuple ?_)
    have hsz : p2.objs.size = hp.objs.size := by rw [hp2.1, hp1.1, hs₁.1]
    have hzz : ZipF p2 z TI TO (rawInt T) true := hp2.extBut _ _ S.zi2 (hp1.extBut _ _ S.zi1 hz₁)
    refine wpAny_pure ⟨_, rfl, ?_⟩
    have hp' : IsTupOf2 (p2.push { cls := .type "tuple", data := .seq #[x1, x2] }) p2.objs.size x1 x2 := Heap.get?_push_size _ rfl
    have hz4 : (p2.push { cls := .type "tuple", data := .seq #[x1, x2] }).objs.size = p2.objs.size + 1 := Heap.size_push ..
    show Q (.ref p2.objs.size) ⟨p2.push { cls := .type "tuple", data := .seq #[x1, x2] }, g, d, tk2, os⟩
    rw [hsz] at hp' hz4 ⊢
    have up : ∀ c o, p2.get? c = some o → (p2.push { cls := .type "tuple", data := .seq #[x1, x2] }).get? c = some o := fun c o e => Heap.get?_push_of_some _ e
    exact hQ x1 x2 _ tk2 _ _ _ _ hx1 hx2 (up _ _ hzz) (.inr ⟨_, rfl⟩) (up _ _ (hp2.extBut _ _ S.Ti2 (hp1.extBut _ _ S.Ti1 (hs₁.extBut _ _ S.TOz hTO)))) (D1.frame _ _ _ (D1.over sn1 hp2 S.sep2_1) fun b hb o e => up b o e) (D2.frame _ _ _ sn2 fun b hb o e => up b o e) hp' hz4
      fun c o cz cT c1 c2 e => up c o (hp2.extBut _ _ c2 (hp1.extBut _ _ c1 (hs₁.extBut _ _ cz e)))
theorem zipF_next_end {Q : Fin → Shared → Prop} (S : ZipSep2 z TI TO i1 i2 fp1 fp2) (D1 : Draws prog w A i1 fp1 n1 P1 St1) (D2 : Draws prog w A i2 fp2 n2 P2 St2)
    (hz : ZipF s.heap z TI TO f0 fb) (hm : ZipMk f0) (hTI : IsTupOf2 s.heap TI (.ref i1) (.ref i2)) (hTO : IsTupOf2 s.heap TO a1 a2) (st1 : St1 i s.heap) (st2 : St2 i s.heap) (hle1 : i ≤ n1) (hle2 : i ≤ n2) (hend : i = n1 ∨ i = n2)
    (hE : ∀ h' tk e, (∀ c o, c ≠ z → c ≠ TO → c ≠ i1 → c ≠ i2 → s.heap.get? c = some o → h'.get? c = some o) → (∃ o, h'.get? e = some o ∧ o.cls = .type "StopIteration") → E (.ref e) { s with heap := h', toks := tk }) :
    wpAny (model prog w) A (Builtin.«zip.__next__» ⟨[.ref z], []⟩) Q E s := by
  obtain ⟨hp, g, d, tk0, os⟩ := s
  show wpAny _ _ (field (.ref z) 2 >>= _) _ _ _
  refine wpAny_bind (wpAny_field hz rfl (x := .bool false) rfl ?_)
  show wpAny _ _ (field (.ref z) 3 >>= _) _ _ _
  refine wpAny_bind (wpAny_field hz rfl (x := .ref TI) rfl ?_)
  refine wpAny_bind (wpAny_seqItems hTI rfl ?_)
  show wpAny _ _ (Builtin.SmallTypes.ownedTupleIsFree (.ref z) >>= _) _ _ _
  refine wpAny_bind (zip_asks hz hm ?_ fun h₁ T hz₁ hs₁ => ?_)
  · simp only [if_true]
    refine wpAny_bind (wpAny_rule ?_)
    refine wpAny_bind (wpAny_field hz rfl (x := .ref TO) rfl ?_)
    refine wpAny_bind (wpAny_setField_rec hz (by simp) fun g0 hz0 hs0 => ?_)
    replace hz0 : ZipF g0 z TI TO .ellipsis fb := hz0
    replace hs0 : Heap.SameBut z hp g0 := hs0
    refine wpAny_bind ?_
    simp only [List.zipIdx_cons, List.zipIdx_nil, List.forIn_cons, List.forIn_nil]
    refine wpAny_bind (wpAny_bind (wpAny_onRaise ?_))
    show wpAny _ _ (Builtin.SmallTypes.nextOf (.ref i1) >>= _) _ _ ⟨g0, g, d, tk0, os⟩
    by_cases hlt1 : i < n1
    · refine wpAny_bind (D1.item i _ _ _ hlt1 (D1.over st1 hs0 S.zf1) fun x1 p1 tk1 hx1 sn1 hp1 => wpAny_pure ?_)
      replace hp1 : Heap.SameBut i1 g0 p1 := hp1
      have hU1 : IsTupOf2 p1 TO a1 a2 := hp1.extBut _ _ S.Ti1 (hs0.extBut _ _ S.TOz hTO)
      refine wpAny_bind (wpAny_seqItems (s := ⟨p1, g, d, tk1, os⟩) hU1 rfl ?_)
      refine wpAny_bind (updateSeq_IsTupOf2 (s := ⟨p1, g, d, tk1, os⟩) hU1 fun g1 hT1 hs1 => ?_)
      replace hT1 : IsTupOf2 g1 TO x1 a2 := hT1
      replace hs1 : Heap.SameBut TO p1 g1 := hs1
      refine wpAny_bind (wpAny_letGo (wpAny_pure ?_))
      have hi2 : i = n2 := by omega
      refine wpAny_bind (wpAny_bind (wpAny_onRaise ?_))
      show wpAny _ _ (Builtin.SmallTypes.nextOf (.ref i2) >>= _) _ _ ⟨g1, g, d, tk1, os⟩
      refine wpAny_bind (D2.done ⟨g1, g, d, tk1, os⟩ _ _ (by rw [← hi2]; exact (D2.over (D2.over (D2.over st2 hs0 S.zf2) hp1 S.sep1_2) hs1 S.Tf2)) fun q e hq he => ?_)
      replace hq : Heap.ExtBut i2 g1 q := hq
      obtain ⟨oe, hoe, hce⟩ := he
      replace hoe : q.get? e = some oe := hoe
      have hzq : ZipF q z TI TO .ellipsis fb := hq _ _ S.zi2 (hs1.extBut _ _ S.TOz.symm (hp1.extBut _ _ S.zi1 hz0))
      have hez : e ≠ z := fun x => by subst x; rw [hzq] at hoe; cases hoe; simp at hce
      refine wpAny_setField_rec (s := ⟨q, g, d, tk1, os⟩) hzq (by simp) fun q' _ hq' => ?_
      replace hq' : Heap.SameBut z q q' := hq'
      exact hE q' tk1 e (fun c o cz cT c1 c2 x => hq'.extBut _ _ cz (hq _ _ c2 (hs1.extBut _ _ cT (hp1.extBut _ _ c1 (hs0.extBut _ _ cz x))))) ⟨oe, hq'.extBut _ _ hez hoe, hce⟩
    · have hi1 : i = n1 := by omega
      refine wpAny_bind (D1.done ⟨g0, g, d, tk0, os⟩ _ _ (by rw [← hi1]; exact (D1.over st1 hs0 S.zf1)) fun q e hq he => ?_)
      replace hq : Heap.ExtBut i1 g0 q := hq
      obtain ⟨oe, hoe, hce⟩ := he
      replace hoe : q.get? e = some oe := hoe
      have hzq : ZipF q z TI TO .ellipsis fb := hq _ _ S.zi1 hz0
      have hez : e ≠ z := fun x => by subst x; rw [hzq] at hoe; cases hoe; simp at hce
      refine wpAny_setField_rec (s := ⟨q, g, d, tk0, os⟩) hzq (by simp) fun q' _ hq' => ?_
      replace hq' : Heap.SameBut z q q' := hq'
      exact hE q' tk0 e (fun c o cz cT c1 c2 x => hq'.extBut _ _ cz (hq _ _ c1 (hs0.extBut _ _ cz x))) ⟨oe, hq'.extBut _ _ hez hoe, hce⟩
  · simp only [Bool.false_eq_true, if_false]
    replace hs₁ : Heap.SameBut z hp h₁ := hs₁
    refine wpAny_bind ?_
    rw [← Array.forIn_toList]
    simp only [List.forIn_cons, List.forIn_nil]
    refine wpAny_bind (wpAny_bind (wpAny_holding ?_))
    show wpAny _ _ (Builtin.SmallTypes.nextOf (.ref i1) >>= _) _ _ ⟨h₁, g, d, tk0, os⟩
    by_cases hlt1 : i < n1
    · refine wpAny_bind (D1.item i _ _ _ hlt1 (D1.over st1 hs₁ S.zf1) fun x1 p1 tk1 hx1 sn1 hp1 => wpAny_pure ?_)
      replace hp1 : Heap.SameBut i1 h₁ p1 := hp1
      refine wpAny_pure ?_
      have hi2 : i = n2 := by omega
      refine wpAny_bind (wpAny_bind (wpAny_holding ?_))
      show wpAny _ _ (Builtin.SmallTypes.nextOf (.ref i2) >>= _) _ _ ⟨p1, g, d, tk1, os⟩
      refine wpAny_bind (D2.done ⟨p1, g, d, tk1, os⟩ _ _ (by rw [← hi2]; exact D2.over (D2.over st2 hs₁ S.zf2) hp1 S.sep1_2) fun q e hq he => ?_)
      replace hq : Heap.ExtBut i2 p1 q := hq
      exact hE q tk1 e (fun c o cz cT c1 c2 x => hq _ _ c2 (hp1.extBut _ _ c1 (hs₁.extBut _ _ cz x))) he
    · have hi1 : i = n1 := by omega
      refine wpAny_bind (D1.done ⟨h₁, g, d, tk0, os⟩ _ _ (by rw [← hi1]; exact D1.over st1 hs₁ S.zf1) fun q e hq he => ?_)
      replace hq : Heap.ExtBut i1 h₁ q := hq
      exact hE q tk0 e (fun c o cz cT c1 c2 x => hq _ _ c1 (hs₁.extBut _ _ cz x)) he

/-- where enumerate(zip(..)) stands -/
structure EzAt (St1 St2 : Nat → Heap → Prop) (e z TI TO i1 i2 : Addr) (i : Nat) (h : Heap) : Prop where
  en : ∃ old, IsEnum h e z ((i : Nat) : Int) old
  zp : ∃ f0 fb, ZipMk f0 ∧ ZipF h z TI TO f0 fb
  ti : IsTupOf2 h TI (.ref i1) (.ref i2)
  to : ∃ a1 a2, IsTupOf2 h TO a1 a2
  s1 : St1 i h
  s2 : St2 i h
/-- the cells lie apart -/
structure EzSep (e z TI TO i1 i2 : Addr) (fp1 fp2 : List Addr) : Prop extends ZipSep2 z TI TO i1 i2 fp1 fp2 where
  ez : e ≠ z
  eTI : e ≠ TI
  eTO : e ≠ TO
  ef1 : e ∉ fp1
  ef2 : e ∉ fp2
variable {e : Addr}
theorem EzSep.ei1 (S : EzSep e z TI TO i1 i2 fp1 fp2) : e ≠ i1 := fun q => S.ef1 (by rw [q]; exact S.mem1)
theorem EzSep.ei2 (S : EzSep e z TI TO i1 i2 fp1 fp2) : e ≠ i2 := fun q => S.ef2 (by rw [q]; exact S.mem2)
theorem ez_next_item {Q : Value → Shared → Prop} (S : EzSep e z TI TO i1 i2 fp1 fp2) (D1 : Draws prog w A.in1 i1 fp1 n1 P1 St1) (D2 : Draws prog w A.in1 i2 fp2 n2 P2 St2)
    (st : EzAt St1 St2 e z TI TO i1 i2 i s.heap) (hlt1 : i < n1) (hlt2 : i < n2)
    (hQ : ∀ x1 x2 h' tk t item, P1 i x1 → P2 i x2 → IsEnumOut h' e z ((i : Nat) + 1 : Int) item (s.heap.objs.size + 1) → (∃ f0 fb, ZipMk f0 ∧ ZipF h' z TI TO f0 fb) → IsTupOf2 h' TI (.ref i1) (.ref i2) → (∃ a1 a2, IsTupOf2 h' TO a1 a2) → St1 (i + 1) h' → St2 (i + 1) h' →
      IsTupOf2 h' s.heap.objs.size x1 x2 → h'.get? (s.heap.objs.size + 1) = some { cls := .type "tuple", data := .seq #[.int i t, .ref s.heap.objs.size] } →
      (∀ c o, c ≠ e → c ≠ z → c ≠ TO → c ≠ i1 → c ≠ i2 → s.heap.get? c = some o → h'.get? c = some o) → Q (.ref (s.heap.objs.size + 1)) { s with heap := h', toks := tk }) :
    wpAny (model prog w) A (Builtin.«enumerate.__next__» ⟨[.ref e], []⟩) (fun fin s' => ∃ v, fin = .done (.ret v) ∧ Q v s') E s := by
  obtain ⟨⟨old, he⟩, ⟨f0, fb, hm, hz⟩, hTI, ⟨a1, a2, hTO⟩, st1, st2⟩ := st
  obtain ⟨hp, g, d, tk₀, os⟩ := s
  show wpAny _ _ (field (.ref e) 2 >>= _) _ _ _
  refine wpAny_bind (wpAny_field he rfl (x := .ref z) rfl ?_)
  have hTz : (⟨hp, g, d, tk₀, os⟩ : Shared).TypeIs (.ref z) "zip" := ⟨_, hz, rfl⟩
  refine wpAny_bind ?_
  unfold Builtin.SmallTypes.nextOf
  refine wpAny_bind (wpAny_callSpecial?_slot (name := Str.ofString "__next__") hTz F.slot_zip_next
    (wpAny_call_entry F.slot_zip_next hTz F.entry_zip_next (zipF_next_item S.toZipSep2 D1 D2 hz hm hTI hTO st1 st2 hlt1 hlt2 fun x1 x2 h₁ tk f1 fb1 b1 b2 hx1 hx2 hz₁ hm₁ hTO₁ st1' st2' hT₁ hsz₁ hk₁ => wpAny_pure ?_) (F.args_zip_next_1 _)))
  replace hT₁ : IsTupOf2 h₁ hp.objs.size x1 x2 := hT₁
  replace hsz₁ : h₁.objs.size = hp.objs.size + 1 := hsz₁
  replace hk₁ : ∀ c o, c ≠ z → c ≠ TO → c ≠ i1 → c ≠ i2 → hp.get? c = some o → h₁.get? c = some o := hk₁
  have hel : e < hp.objs.size := Heap.lt_size he
  have he₁ : IsEnum h₁ e z ((i : Nat) : Int) old := hk₁ _ _ S.ez S.eTO S.ei1 S.ei2 he
  have hTI₁ : IsTupOf2 h₁ TI (.ref i1) (.ref i2) := hk₁ _ _ S.TIz S.TITO S.TIi1 S.TIi2 hTI
  show wpAny _ _ (field (.ref e) 3 >>= _) _ _ ⟨h₁, g, d, tk, os⟩
  refine wpAny_bind (wpAny_field he₁ rfl (x := rawInt i) rfl ?_)
  show wpAny _ _ (field (.ref e) 4 >>= _) _ _ ⟨h₁, g, d, tk, os⟩
  refine wpAny_bind (wpAny_field he₁ rfl (x := .none) rfl ?_)
  show wpAny _ _ (mkInt i >>= _) _ _ ⟨h₁, g, d, tk, os⟩
  refine wpAny_bind (wpAny_mkInt ?_)
  show wpAny _ _ (setField (.ref e) 3 (rawInt ((i : Nat) + 1 : Int)) >>= _) _ _ ⟨h₁, g, d, tk + 1, os⟩
  refine wpAny_bind (wpAny_setField_rec he₁ (by simp) fun h₂ he₂ hs₂ => ?_)
  replace hs₂ : Heap.SameBut e h₁ h₂ := hs₂
  replace he₂ : IsEnum h₂ e z ((i : Nat) + 1 : Int) old := he₂
  show wpAny _ _ (setField (.ref e) 4 .none >>= _) _ _ ⟨h₂, g, d, tk + 1, os⟩
  refine wpAny_bind (wpAny_setField_rec he₂ (by simp) fun h₃ he₃ hs₃ => ?_)
  replace hs₃ : Heap.SameBut e h₂ h₃ := hs₃
  replace he₃ : IsEnum h₃ e z ((i : Nat) + 1 : Int) old := he₃
  show wpAny _ _ (newTuple [.int i tk, .ref hp.objs.size] >>= _) _ _ ⟨h₃, g, d, tk + 1, os⟩
  refine wpAny_bind (wpAny_newTuple ?_)
  have he₄ : IsEnum (h₃.push { cls := .type "tuple", data := .seq #[.int i tk, .ref hp.objs.size] }) e z ((i : Nat) + 1 : Int) old := Heap.get?_push_of_some _ he₃
  generalize hh₄ : h₃.push { cls := .type "tuple", data := .seq #[.int i tk, .ref hp.objs.size] } = h₄ at he₄
  have hsz : h₃.objs.size = hp.objs.size + 1 := by rw [hs₃.1, hs₂.1, hsz₁]
  have ht₄ : h₄.get? (hp.objs.size + 1) = some { cls := .type "tuple", data := .seq #[.int i tk, .ref hp.objs.size] } := by rw [← hh₄, ← hsz]; exact Heap.get?_push_size _ rfl
  have k4 : ∀ b o, b ≠ e → h₁.get? b = some o → h₄.get? b = some o := fun b o hbe hb => by
    rw [← hh₄]; exact Heap.get?_push_of_some _ (hs₃.extBut b o hbe (hs₂.extBut b o hbe hb))
  show wpAny _ _ (Builtin.SmallTypes.ownedTupleIsFree (.ref e) >>= _) _ _ ⟨h₄, g, d, tk + 1, os⟩
  rw [hsz]
  refine wpAny_bind ?_
  · unfold Builtin.SmallTypes.ownedTupleIsFree
    refine wpAny_bind (wpAny_field he₄ rfl (x := .none) rfl (wpAny_pure ?_))
    simp only [if_true]
    refine wpAny_bind (wpAny_rule ?_)
    refine wpAny_bind (wpAny_field he₄ rfl (x := old) rfl ?_)
    refine wpAny_bind (wpAny_setField_rec he₄ (by simp) fun h₅ he₅ hs₅ => ?_)
    replace hs₅ : Heap.SameBut e h₄ h₅ := hs₅
    replace he₅ : IsEnum h₅ e z ((i : Nat) + 1 : Int) (.ref hp.objs.size) := he₅
    show wpAny _ _ (Builtin.SmallTypes.ownedTupleHandOut (.ref e) (.ref (hp.objs.size + 1)) >>= _) _ _ ⟨h₅, g, d, tk + 1, os⟩
    refine wpAny_bind ?_
    · unfold Builtin.SmallTypes.ownedTupleHandOut
      refine wpAny_bind (wpAny_setField_rec he₅ (by simp) fun h₆ he₆ hs₆ => ?_)
      replace hs₆ : Heap.SameBut e h₅ h₆ := hs₆
      replace he₆ : IsEnumOut h₆ e z ((i : Nat) + 1 : Int) (.ref hp.objs.size) (hp.objs.size + 1) := he₆
      refine wpAny_setField_rec he₆ (by simp) fun h₇ he₇ hs₇ => ?_
      replace hs₇ : Heap.SameBut e h₆ h₇ := hs₇
      replace he₇ : IsEnumOut h₇ e z ((i : Nat) + 1 : Int) (.ref hp.objs.size) (hp.objs.size + 1) := he₇
      have k7 : ∀ b o, b ≠ e → h₄.get? b = some o → h₇.get? b = some o := fun b o hbe y => hs₇.extBut b o hbe (hs₆.extBut b o hbe (hs₅.extBut b o hbe y))
      have k : ∀ b o, b ≠ e → h₁.get? b = some o → h₇.get? b = some o := fun b o hbe y => k7 b o hbe (k4 b o hbe y)
      refine wpAny_bind (wpAny_letGo (wpAny_pure ⟨_, rfl, hQ x1 x2 h₇ (tk + 1) tk _ hx1 hx2 he₇ ⟨f1, fb1, hm₁, k _ _ S.ez.symm hz₁⟩ (k _ _ S.eTI.symm hTI₁) ⟨_, _, k _ _ S.eTO.symm hTO₁⟩ ?_ ?_ (k _ _ (Nat.ne_of_gt hel) hT₁) (k7 _ _ (Nat.ne_of_gt (Nat.lt_succ_of_lt hel)) ht₄) fun c o ce cz cT c1 c2 y => k c o ce (hk₁ c o cz cT c1 c2 y)⟩))
      · exact D1.frame _ _ _ st1' fun b hb o y => k b o (fun q => S.ef1 (q ▸ hb)) y
      · exact D2.frame _ _ _ st2' fun b hb o y => k b o (fun q => S.ef2 (q ▸ hb)) y
theorem ez_pyNext_item {Q : Option Value → Shared → Prop} (S : EzSep e z TI TO i1 i2 fp1 fp2) (D1 : Draws prog w A.in1.in1 i1 fp1 n1 P1 St1) (D2 : Draws prog w A.in1.in1 i2 fp2 n2 P2 St2)
    (st : EzAt St1 St2 e z TI TO i1 i2 i s.heap) (hlt1 : i < n1) (hlt2 : i < n2)
    (hQ : ∀ x1 x2 h' tk t item, P1 i x1 → P2 i x2 → IsEnumOut h' e z ((i : Nat) + 1 : Int) item (s.heap.objs.size + 1) → (∃ f0 fb, ZipMk f0 ∧ ZipF h' z TI TO f0 fb) → IsTupOf2 h' TI (.ref i1) (.ref i2) → (∃ a1 a2, IsTupOf2 h' TO a1 a2) → St1 (i + 1) h' → St2 (i + 1) h' →
      IsTupOf2 h' s.heap.objs.size x1 x2 → h'.get? (s.heap.objs.size + 1) = some { cls := .type "tuple", data := .seq #[.int i t, .ref s.heap.objs.size] } →
      (∀ c o, c ≠ e → c ≠ z → c ≠ TO → c ≠ i1 → c ≠ i2 → s.heap.get? c = some o → h'.get? c = some o) → Q (some (.ref (s.heap.objs.size + 1))) { s with heap := h', toks := tk }) :
    wpAny (model prog w) A (pyNext (.ref e)) Q E s := by
  obtain ⟨old, he⟩ := st.en
  have hT : s.TypeIs (.ref e) "enumerate" := ⟨_, he, rfl⟩
  unfold pyNext
  exact wpAny_bind (wpAny_attempt (wpAny_callSpecial?_slot (name := Str.ofString "__next__") hT F.slot_enumerate_next
    (wpAny_call_entry F.slot_enumerate_next hT F.entry_enumerate_next
      (ez_next_item (A := A.in1) S D1 D2 st hlt1 hlt2 fun x1 x2 h' tk t item b1 b2 b3 b4 b5 b6 b7 b8 b9 c1 c2 => wpAny_pure (hQ x1 x2 h' tk t item b1 b2 b3 b4 b5 b6 b7 b8 b9 c1 c2)) (F.args_enumerate_next_1 _))))
theorem ez_pyNext_end {Q : Option Value → Shared → Prop} (S : EzSep e z TI TO i1 i2 fp1 fp2) (D1 : Draws prog w A.in1.in1 i1 fp1 n1 P1 St1) (D2 : Draws prog w A.in1.in1 i2 fp2 n2 P2 St2)
    (st : EzAt St1 St2 e z TI TO i1 i2 i s.heap) (hle1 : i ≤ n1) (hle2 : i ≤ n2) (hend : i = n1 ∨ i = n2)
    (hQ : ∀ h' tk, (∀ c o, c ≠ z → c ≠ TO → c ≠ i1 → c ≠ i2 → s.heap.get? c = some o → h'.get? c = some o) → Q none { s with heap := h', toks := tk }) : wpAny (model prog w) A (pyNext (.ref e)) Q E s := by
  obtain ⟨⟨old, he⟩, ⟨f0, fb, hm, hz⟩, hTI, ⟨a1, a2, hTO⟩, st1, st2⟩ := st
  have hT : s.TypeIs (.ref e) "enumerate" := ⟨_, he, rfl⟩
  have hTz : s.TypeIs (.ref z) "zip" := ⟨_, hz, rfl⟩
  unfold pyNext
  refine wpAny_bind (wpAny_attempt (wpAny_callSpecial?_slot (name := Str.ofString "__next__") hT F.slot_enumerate_next
    (wpAny_call_entry F.slot_enumerate_next hT F.entry_enumerate_next ?_ (F.args_enumerate_next_1 _))))
  show wpAny _ _ (field (.ref e) 2 >>= _) _ _ _
  refine wpAny_bind (wpAny_field he rfl (x := .ref z) rfl ?_)
  refine wpAny_bind ?_
  unfold Builtin.SmallTypes.nextOf
  refine wpAny_bind (wpAny_callSpecial?_slot (name := Str.ofString "__next__") hTz F.slot_zip_next
    (wpAny_call_entry F.slot_zip_next hTz F.entry_zip_next (zipF_next_end S.toZipSep2 D1 D2 hz hm hTI hTO st1 st2 hle1 hle2 hend fun h' tk x hk hx => ?_) (F.args_zip_next_1 _)))
  obtain ⟨o, ho, hc⟩ := hx
  refine wpAny_bind (wpAny_isInstance (T := "StopIteration") (b := true) ⟨o, ho, hc⟩ isSubtype_stop ?_)
  exact wpAny_pure (hQ _ _ hk)
end
end PySem
namespace PySem
open Sem (wp)
theorem meets_enumerate_newZ (z TI TO : Addr) (f0 : Value) :
    Meets (Builtin.«enumerate.__new__» ⟨[.type "enumerate", .ref z], []⟩) (fun _ R s => IsZip s.heap z TI TO f0 ∧
      R (.ok (.ret (.ref s.heap.objs.size))) { s with heap := s.heap.push { cls := .type "enumerate", data := .fields #[.none, .bool false, .ref z, rawInt 0, .none, .none] } }) :=
  .of_wp fun prog w A R s h => by
    obtain ⟨hp, g, d, tk, os⟩ := s; obtain ⟨hz, h⟩ := h
    have hsub := sub_enumerate
    have q1 : ∀ {A' : Around} {E : Value → Shared → Prop} {Q : Value → Shared → Prop}, Q (.ref z) ⟨hp, g, d, tk, os⟩ → wpAny (model prog w) A' (pyIter (.ref z)) Q E ⟨hp, g, d, tk, os⟩ :=
      fun q => wpAny_pyIter_zip hz q
    wp_walk using q1
    refine wpAny_stack_any fun st => wpAny_pure ?_
    split
    · rename_i c _ _ _ _ _
      cases (c == Value.type "enumerate")
      · wp_walk using q1
        exact ⟨_, rfl, h⟩
      · wp_walk using q1
        exact ⟨_, rfl, h⟩
    · wp_walk using q1
      exact ⟨_, rfl, h⟩
theorem call_enumerate_zip {prog : Program} {w : World} {A : Around} {E : Value → Shared → Prop} {s : Shared} {z TI TO : Addr} {f0 : Value} {Q : Value → Shared → Prop} (hz : IsZip s.heap z TI TO f0)
    (h : ∀ h', IsEnum h' s.heap.objs.size z 0 .none → (∀ b o, s.heap.get? b = some o → h'.get? b = some o) → Q (.ref s.heap.objs.size) { s with heap := h' }) :
    wpAny (model prog w) A (call (.type "enumerate") [.ref z]) Q E s := by
  refine callType_new F.called_enumerate (by decide) (F.typeCall_enumerate_1 _) (F.newCall_enumerate_1 _) (fun obj => F.args_object_init_2 obj _) F.entry_enumerate_new
    (meets_enumerate_newZ z TI TO f0) ⟨hz, ?_⟩
  have he : IsEnum (s.heap.push { cls := .type "enumerate", data := .fields #[.none, .bool false, .ref z, rawInt 0, .none, .none] }) s.heap.objs.size z 0 .none := Heap.get?_push_size _ rfl
  exact ⟨⟨_, he, rfl⟩, h _ he fun b o x => Heap.get?_push_of_some _ x⟩
end PySem
namespace Pu
open PySem L2 PyProof.Rows
/-- two texts side by side, numbered: two new pairs at each turn -/
def Itez (x y : Str) : It :=
  ⟨fun i _ => i < x.cps.size ∧ i < y.cps.size,
   fun i H v H' => ∃ T1 T2 c1 c2, v = .ref T2 ∧ H T1 = none ∧ H T2 = none ∧ T1 ≠ T2 ∧ H' = upd (upd H T1 (.tup [.str ⟨#[c1]⟩, .str ⟨#[c2]⟩])) T2 (.tup [.int (i : Nat), .ref T1]) ∧ x.cps[i]? = some c1 ∧ y.cps[i]? = some c2,
   fun i _ => x.cps.size ≤ i ∨ y.cps.size ≤ i⟩
theorem drawsS {prog : Program} {w : World} {A : Around} (hh : A.handled = none) (it : Addr) (x : Str) (t : Tok) :
    Draws prog w A it [it] x.cps.size (fun i v => ∃ c u, x.cps[i]? = some c ∧ v = .str ⟨#[c]⟩ u) (fun i h => h.IsStrIter it (strIterType x) x t i) := by
  unfold strIterType
  split
  · exact Draws.strAscii hh it x t
  · exact Draws.strWide hh it x t
theorem turn_ez {P : Program} {w : World} {K : PySem.W.Frag} {elts : List Expr} {kk : Nat} {tpos : Pos} {x y : Str} {t1 t2 : Tok} {e z TI TO i1 i2 : Addr} (D : EzSep e z TI TO i1 i2 [i1] [i2]) :
    Turn P w K (.Tuple elts kk tpos) (Itez x y) [e, z, TI, TO, i1, i2] e (fun i h => EzAt (fun i h => h.IsStrIter i1 (strIterType x) x t1 i) (fun i h => h.IsStrIter i2 (strIterType y) y t2 i) e z TI TO i1 i2 i h ∧ i ≤ x.cps.size ∧ i ≤ y.cps.size) where
  mem := by simp
  obj := fun i h st c hc => by
    obtain ⟨⟨⟨old, he⟩, ⟨f0, fb, _, hz⟩, hTI, ⟨a1, a2, hTO⟩, ⟨o1, e1, _, d1⟩, ⟨o2, e2, _, d2⟩⟩, _⟩ := st
    have e' : c = e ∨ c = z ∨ c = TI ∨ c = TO ∨ c = i1 ∨ c = i2 := by simpa using hc
    rcases e' with q | q | q | q | q | q
    · rw [q]; exact ⟨_, he, fun v q => nomatch q⟩
    · rw [q]; exact ⟨_, hz, fun v q => nomatch q⟩
    · rw [q]; exact ⟨_, hTI, fun v q => nomatch q⟩
    · rw [q]; exact ⟨_, hTO, fun v q => nomatch q⟩
    · rw [q]; exact ⟨o1, e1, fun v q => by rw [d1] at q; cases q⟩
    · rw [q]; exact ⟨o2, e2, fun v q => by rw [d2] at q; cases q⟩
  keep := fun i h h' st k => by
    obtain ⟨⟨⟨old, he⟩, ⟨f0, fb, hm, hz⟩, hTI, ⟨a1, a2, hTO⟩, ⟨o1, e1, r1⟩, ⟨o2, e2, r2⟩⟩, l1, l2⟩ := st
    exact ⟨⟨⟨old, k e (by simp) _ he⟩, ⟨f0, fb, hm, k z (by simp) _ hz⟩, k TI (by simp) _ hTI, ⟨a1, a2, k TO (by simp) _ hTO⟩, ⟨o1, k i1 (by simp) _ e1, r1⟩, ⟨o2, k i2 (by simp) _ e2, r2⟩⟩, l1, l2⟩
  item := by
    intro X hP hw hK hc i pins s σ H E I hf st hg
    subst hP hw hK
    obtain ⟨st, l1, l2⟩ := st
    have D1 := drawsS (prog := X.prog) (w := X.w) (A := X.A.in1.in1) (I.ok.hd hc) i1 x t1
    have D2 := drawsS (prog := X.prog) (w := X.w) (A := X.A.in1.in1) (I.ok.hd hc) i2 y t2
    have hlt : ∀ c, c ∈ [e, z, TI, TO, i1, i2] → c < s.heap.objs.size := fun c hc => by
      obtain ⟨⟨old, he⟩, ⟨f0, fb, _, hz⟩, hTI, ⟨a1, a2, hTO⟩, ⟨o1, e1, _, d1⟩, ⟨o2, e2, _, d2⟩⟩ := st
      have e' : c = e ∨ c = z ∨ c = TI ∨ c = TO ∨ c = i1 ∨ c = i2 := by simpa using hc
      rcases e' with q | q | q | q | q | q <;> rw [q]
      · exact Heap.lt_size he
      · exact Heap.lt_size hz
      · exact Heap.lt_size hTI
      · exact Heap.lt_size hTO
      · exact Heap.lt_size e1
      · exact Heap.lt_size e2
    refine ez_pyNext_item D D1 D2 st hg.1 hg.2 fun x1 x2 h' tk t item p1 p2 he' hz' hTI' hTO' s1' s2' hT1 hT2 hk => ?_
    obtain ⟨c1, u1, hc1, rfl⟩ := p1
    obtain ⟨c2, u2, hc2, rfl⟩ := p2
    refine ⟨_, rfl, wpAny_letOwnedTupleGo_enum (s := { s with heap := h', toks := tk }) he' fun h'' he'' sb => ?_⟩
    have ee : e < s.heap.objs.size := hlt e (by simp)
    have up : ∀ c o, c ≠ e → h'.get? c = some o → h''.get? c = some o := fun c o ce q => (sb.2 c ce).trans q
    have hT1' := up _ _ (Nat.ne_of_gt ee) hT1
    have hT2' := up _ _ (Nat.ne_of_gt (Nat.lt_succ_of_lt ee)) hT2
    -- the pair first
    have I1 : Inv X pins σ (upd H s.heap.objs.size (.tup [.str ⟨#[c1]⟩, .str ⟨#[c2]⟩])) { s with heap := s.heap.push { cls := .type "tuple", data := .seq #[.str ⟨#[c1]⟩ u1, .str ⟨#[c2]⟩ u2] }, toks := s.toks } :=
      I.laid (fun b u q => Heap.get?_push_of_some _ q) (Nat.le_refl _) ⟨by show 2 ≤ sizeLine; decide, [.str ⟨#[c1]⟩ u1, .str ⟨#[c2]⟩ u2], .cons ⟨_, rfl⟩ (.cons ⟨_, rfl⟩ .nil), ⟨_, Heap.get?_push_size _ rfl, rfl, _, rfl⟩⟩
    have hf1 : ∀ b ∈ [e, z, TI, TO, i1, i2], FpOk X pins (upd H s.heap.objs.size (.tup [.str ⟨#[c1]⟩, .str ⟨#[c2]⟩])) b := fun b hb => by
      obtain ⟨g0, g1⟩ := hf b hb
      exact ⟨by rw [upd_ne (Nat.ne_of_lt (hlt b hb))]; exact g0, g1⟩
    have kk : ∀ b o, b ∉ [e, z, TI, TO, i1, i2] → (s.heap.push { cls := .type "tuple", data := .seq #[.str ⟨#[c1]⟩ u1, .str ⟨#[c2]⟩ u2] }).get? b = some o → h''.get? b = some o := fun b o hb q => by
      have ne : ∀ c, c ∈ [e, z, TI, TO, i1, i2] → b ≠ c := fun c hc' z' => hb (z' ▸ hc')
      by_cases eb : b = s.heap.objs.size
      · subst eb
        rw [Heap.get?_push_size _ rfl] at q
        cases q
        exact hT1'
      · rw [Heap.get?_push_ne _ _ _ eb] at q
        exact up b o (ne e (by simp)) (hk b o (ne e (by simp)) (ne z (by simp)) (ne TO (by simp)) (ne i1 (by simp)) (ne i2 (by simp)) q)
    have hn1 : H s.heap.objs.size = none := I.hok.fresh (Nat.le_refl _)
    have hn2 : H (s.heap.objs.size + 1) = none := I.hok.fresh (Nat.le_succ _)
    have I2 := I1.turnedNew (h' := h'') (t' := tk) (T := s.heap.objs.size + 1) (ob := .tup [.int (i : Nat), .ref s.heap.objs.size]) kk hf1 (by show (s.heap.push _).objs.size ≤ _; rw [Heap.size_push]; exact Nat.le_refl _)
      ⟨by show 2 ≤ sizeLine; decide, [.int i t, .ref s.heap.objs.size], .cons ⟨_, rfl⟩ (.cons rfl .nil), ⟨_, hT2', rfl, _, rfl⟩⟩
    refine ⟨.ref (s.heap.objs.size + 1), _, I2, rfl, ⟨s.heap.objs.size, s.heap.objs.size + 1, c1, c2, rfl, hn1, hn2, Nat.ne_of_lt (Nat.lt_succ_self _), rfl, hc1, hc2⟩, ⟨⟨⟨item, ?_⟩, ?_, up _ _ D.eTI.symm hTI', ?_, ?_, ?_⟩, ?_, ?_⟩, fun b hb => ?_⟩
    · have e1 : ((i + 1 : Nat) : Int) = (i : Int) + 1 := by omega
      rw [e1]; exact he''
    · obtain ⟨f0, fb, hm, q⟩ := hz'
      exact ⟨f0, fb, hm, up _ _ D.ez.symm q⟩
    · obtain ⟨a1, a2, q⟩ := hTO'
      exact ⟨a1, a2, up _ _ D.eTO.symm q⟩
    · obtain ⟨o, q, r⟩ := s1'
      exact ⟨o, up _ _ D.ei1.symm q, r⟩
    · obtain ⟨o, q, r⟩ := s2'
      exact ⟨o, up _ _ D.ei2.symm q, r⟩
    · exact hg.1
    · exact hg.2
    · rw [upd_ne (Nat.ne_of_lt (Nat.lt_succ_of_lt (hlt b hb)))]
      exact (hf1 b hb).1
  done := by
    intro X hP hw hK hc i pins s σ H E I hf st hg
    subst hP hw hK
    obtain ⟨st, l1, l2⟩ := st
    have D1 := drawsS (prog := X.prog) (w := X.w) (A := X.A.in1.in1) (I.ok.hd hc) i1 x t1
    have D2 := drawsS (prog := X.prog) (w := X.w) (A := X.A.in1.in1) (I.ok.hd hc) i2 y t2
    refine ez_pyNext_end D D1 D2 st l1 l2 (by rcases hg with q | q <;> omega) fun h' tk hk => ⟨rfl, I.turnedL (t' := tk) (ch := [e, z, TI, TO, i1, i2]) (fun c o hb q => ?_) hf⟩
    have ne : ∀ c', c' ∈ [e, z, TI, TO, i1, i2] → c ≠ c' := fun c' hc' z' => hb (z' ▸ hc')
    exact hk c o (ne z (by simp)) (ne TO (by simp)) (ne i1 (by simp)) (ne i2 (by simp)) q
  self := fun A i s Q E st h => let ⟨_, he⟩ := st.1.en; wpAny_pyIter_enum he h
def iEz (ta : TA) : TI := fun σ H R => ta σ H fun vs H1 => ∃ x y, vs = [.str x, .str y] ∧ R (Itez x y) H1
theorem pi_ez {X : Cx} {a b : Expr} {ta : TA} {p p2 pos pos2 tpos : Pos} {elts : List Expr} {kk : Nat} (hg : Gl X "enumerate") (hm : X.mg "enumerate" = none) (hg2 : Gl X "zip") (hm2 : X.mg "zip" = none) (ha : PA X [a, b] ta)
    (hs : starEach [a, b] X.env = (false, eval a X.env) :: starEach [b] X.env) (hpl : (backTo pos2 (starEach [b] X.env)).any (·.1) = false) :
    PI X (.Tuple elts kk tpos) (.Call (.Name "enumerate" p) [.Call (.Name "zip" p2) [a, b] [] pos2] [] pos) (iEz ta) := by
  refine ⟨fun pins s σ H R I h => ?_⟩
  refine Call_ (ld_blt I hg hm boot_enumerate (PyProof.Rows.callWith_type1 (Calls.spliced_cons (Call_ (ld_blt I hg2 hm2 PyProof.Rows.boot_zip (PyProof.Rows.callWith_type1 (thn (ha.run pos2 pins s σ H _ I h) fun us s1 ⟨vs, H1, I1, r1, q1⟩ => ?_) hs hpl)))) rfl rfl))
  obtain ⟨x, y, rfl, q⟩ := q1
  cases r1 with
  | cons r rr =>
    cases rr with
    | cons r' rr =>
      cases rr
      obtain ⟨t1, rfl⟩ := r
      obtain ⟨t2, rfl⟩ := r'
      refine zip_begins2 (begins_text x t1) (begins_text y t2) trivial trivial fun h' hz hTI hTO h1 h2 hsz hk => Calls.spliced_nil ?_
      refine call_enumerate_zip (s := { s1 with heap := h' }) hz fun h'' he hk2 => wpAny_pyIter_enum he ?_
      have I2 : Inv X pins σ H1 { s1 with heap := h'' } := I1.kept (t' := s1.toks) fun b o q => hk2 b o (hk b o q)
      have sz : h'.objs.size = s1.heap.objs.size + 5 := hsz
      refine ⟨h'.objs.size, [h'.objs.size, s1.heap.objs.size + 4, s1.heap.objs.size + 2, s1.heap.objs.size + 3, s1.heap.objs.size, s1.heap.objs.size + 1], _, _, H1, rfl, I2, turn_ez (x := x) (y := y) (t1 := t1) (t2 := t2) ?_, ⟨⟨⟨.none, he⟩, ⟨_, _, .inl rfl, hk2 _ _ hz⟩, hk2 _ _ hTI, ⟨_, _, hk2 _ _ hTO⟩, ⟨_, hk2 _ _ h1, rfl, rfl⟩, ⟨_, hk2 _ _ h2, rfl, rfl⟩⟩, Nat.zero_le _, Nat.zero_le _⟩, fun c hcm => ?_, q⟩
      · refine { TIz := ?_, TOz := ?_, TITO := ?_, TIi1 := ?_, mem1 := by simp, zf1 := ?_, Tf1 := ?_, TIi2 := ?_, mem2 := by simp, zf2 := ?_, Tf2 := ?_, sep1_2 := ?_, sep2_1 := ?_, ez := ?_, eTI := ?_, eTO := ?_, ef1 := ?_, ef2 := ?_ } <;> first
          | exact fun z => by have z' : (_ : Nat) = (_ : Nat) := z; omega
          | (intro z; have z' := List.mem_singleton.mp z; have z2 : (_ : Nat) = (_ : Nat) := z'; omega)
      · have e' : c = h'.objs.size ∨ c = s1.heap.objs.size + 4 ∨ c = s1.heap.objs.size + 2 ∨ c = s1.heap.objs.size + 3 ∨ c = s1.heap.objs.size ∨ c = s1.heap.objs.size + 1 := by simpa using hcm
        have hle : s1.heap.objs.size ≤ c := by
          rcases e' with z | z | z | z | z | z <;> rw [z] <;> first | exact Nat.le_add_right _ _ | exact Nat.le_refl _ | (rw [sz]; exact Nat.le_add_right _ _)
        exact I1.fpOk hle (I1.hok.fresh hle)
end Pu

set_option Elab.async false
set_option maxRecDepth 100000
set_option maxHeartbeats 2000000
namespace Pu
open PySem L2 RZ RT PyProof.Rows

theorem wk_rev {K : PySem.W.Frag} {H : Hp} {P : Addr → Prop} {a : Addr} {ds : List D} {n : Nat} (h : RX K H P (.ref a) (.lst ds)) (hn : n = ds.length) : Wk (Itv K a n) H P ds.reverse := by
  intro H2 P2 f hP i
  obtain ⟨b, xs, eb, hs, hd⟩ := (h.fut f).lst
  cases eb
  refine ⟨fun x hx => ?_, fun hl => by show n ≤ i; simpa [hn] using hl⟩
  have hi : i < ds.length := by
    have := (List.getElem?_eq_some_iff.mp hx).1
    simpa using this
  rw [List.getElem?_reverse hi] at hx
  obtain ⟨v, hv, rv⟩ := hd.get hx
  rw [show ds.length - 1 - i = n - 1 - i by rw [hn]] at hv
  refine ⟨⟨by rw [hn]; exact hi, xs, v, hs, hv⟩, fun u H3 y => ?_⟩
  obtain ⟨rfl, y⟩ := y
  have := y xs hs
  rw [hv] at this; cases this
  exact ⟨fun _ _ e => e, rv⟩

/-! ### sources -/
inductive RXs (K : PySem.W.Frag) (H : Hp) (P : Addr → Prop) : List V → List D → Prop
  | nil : RXs K H P [] []
  | cons {v : V} {vs : List V} {d : D} {ds : List D} : RX K H P v d → RXs K H P vs ds → RXs K H P (v :: vs) (d :: ds)
section
variable {K : PySem.W.Frag} {H H' : Hp} {W : Addr → Prop} {σ : L2.St} {ρ ρ' ρ1 : Env} {O O' S S0 : List Addr} {vs : List V} {rs : List R} {v : V} {r : R}
theorem srcD_ok {d : D} (nd : (O ++ S).Nodup) (nw : ∀ b ∈ O, ¬ W b) (ns : ∀ b ∈ S, ¬ W b) (h : RE K H (Pp W O S) σ ρ O) (r0 : RR K H (Pp W O S) σ v r S0) (sub : ∀ b ∈ S0, b ∈ S) (e : srcD ρ r = some (d, ρ')) :
    ∃ O', O'.Sublist O ∧ RE K H (Pp W O' S) σ ρ' O' ∧ RX K H (Pp W O' []) v d := by
  have fin : ∀ {O' : List Addr} {x : Val}, O'.Sublist O → RV H (Pp W O' S) v x S0 → RX K H (Pp W O' []) v x.data := fun {O' x} s rv => by
    refine .inl (rv.share (fun b z => ?_) fun b hb z => ?_)
    · rcases z with z | z | z
      · exact .inl z
      · exact .inr (.inl z)
      · exact nomatch z
    · rcases z with z | z | z
      · exact ns b (sub b hb) z
      · exact (List.nodup_append.mp (nodup_sub s nd)).2.2 b z b (sub b hb) rfl
      · exact nomatch z
  cases r with
  | v x =>
    cases e
    cases r0 with | v rv => exact ⟨O, List.Sublist.refl _, h, fin (List.Sublist.refl _) rv⟩
  | pk i =>
    obtain ⟨⟨x, ρ2⟩, e1, e2⟩ := Option.map_eq_some_iff.mp e
    cases e2
    obtain ⟨O', s, h', rv⟩ := esc_ok nd nw h r0 e1
    exact ⟨O', s, h', fin s rv⟩
  | rd ns =>
    cases e
    cases r0 with
    | rd q => exact ⟨O, List.Sublist.refl _, h, .inr ⟨_, ns, rfl, rfl, q.fut (fut_same fun b z => by
        rcases z with z | z | z
        · exact .inl z
        · exact .inr (.inl z)
        · exact nomatch z)⟩⟩
theorem RX.mono {P P' : Addr → Prop} {d : D} (h : RX K H P v d) (k : ∀ b, P' b → P b) : RX K H P' v d := h.fut (fut_same k)
theorem srcs_ok : ∀ {rs : List R} {vs : List V} {ds : List D} {S0 : List Addr} {ρ ρ' : Env} {O : List Addr}, (O ++ S).Nodup → (∀ b ∈ O, ¬ W b) → (∀ b ∈ S, ¬ W b) → RE K H (Pp W O S) σ ρ O → RRs K H (Pp W O S) σ vs rs S0 → (∀ b ∈ S0, b ∈ S) → srcs ρ rs = some (ds, ρ') →
    ∃ O', O'.Sublist O ∧ RE K H (Pp W O' S) σ ρ' O' ∧ RXs K H (Pp W O' []) vs ds
  | [], _, _, _, ρ, _, O, nd, nw, ns, h, r0, sub, e => by
    cases r0; cases e
    exact ⟨O, List.Sublist.refl _, h, .nil⟩
  | r :: rs, _, _, _, ρ, _, O, nd, nw, ns, h, r0, sub, e => by
    cases r0 with
    | cons r1 r2 =>
      simp only [srcs] at e
      obtain ⟨⟨x, ρ1⟩, e1, e⟩ := Option.bind_eq_some_iff.mp e
      obtain ⟨⟨xs, ρ2⟩, e2, e3⟩ := Option.map_eq_some_iff.mp e
      cases e3
      obtain ⟨O1, s1, h1, v1⟩ := srcD_ok nd nw ns h r1 (fun b hb => sub b (List.mem_append_left _ hb)) e1
      obtain ⟨O2, s2, h2, v2⟩ := srcs_ok (nodup_sub s1 nd) (fun b hb => nw b (s1.subset hb)) ns h1 (r2.fut (fut_same (mono_pp s1)) fun _ _ _ e => e) (fun b hb => sub b (List.mem_append_right _ hb)) e2
      exact ⟨O2, s2.trans s1, h2, .cons (v1.mono (mono_pp s2)) v2⟩
theorem Post.srcs (p : Post K H W O σ H' O' S vs rs ρ') (ok : Okk K H W σ ρ O) {ds : List D} (io : Nat → Bool) (e : Pu.srcs ρ' rs = some (ds, ρ1)) :
    ∃ O1, Stp K io H W O σ H' O1 σ ρ1 ∧ RXs K H' (Pp W O1 []) vs ds := by
  obtain ⟨O1, s, h, r⟩ := srcs_ok p.nd (p.nw ok) (fun b hb z => (p.wkeep ok z).1.2 hb) p.re p.rr (fun _ h => h) e
  exact ⟨O1, (Post.forget (p.less (us := vs) (qs := rs) s h (p.rr.fut (fut_same (mono_pp s)) fun _ _ _ e => e))).stp ok, r⟩
end

/-! ### what a loop walks -/
def tI (K : PySem.W.Frag) (M : Mach) (k : Ik) (src : Es) : TI := fun σ H R => ∃ W ρ O p q xs, Okk K H W σ ρ O ∧ evs M src ρ = some p ∧ srcs p.2 p.1 = some q ∧ items k q.1 = some xs ∧ ∀ J H' O', Stp K M.io H W O σ H' O' σ q.2 → Wk J H' (Pp W O' []) xs → R J H'
theorem _root_.L2.PI.imp {X : Cx} {tg e : Expr} {t t' : TI} (h : PI X tg e t) (k : ∀ σ H R, t' σ H R → t σ H R) : PI X tg e t' := ⟨fun pins s σ H R I q => h.run pins s σ H R I (k σ H R q)⟩
def iSeq (K : PySem.W.Frag) (te : TE) : TI := fun σ H R => te σ H fun v H1 =>
  (∃ (a : Addr) (xs : List V), v = .ref a ∧ SqL K H1 a xs ∧ R (Itl K a) H1) ∨ (∃ (a : Addr) (xs : List V), v = .ref a ∧ SqT K H1 a xs ∧ R (Itt K a) H1) ∨ ∃ x : Str, v = .str x ∧ R (Its x) H1
section
variable {X : Cx} {M : Mach} {tg e e2 a b : Expr} {pos p : Pos} {A B : E}
theorem pi_seq {te : TE} (he : PE X e te) : PI X tg e (iSeq X.K te) := by
  constructor
  intro pins s σ H R I h
  refine thn (he.run pins s σ H _ I h) ?_
  rintro v s1 ⟨x, H1, I1, r1, q1⟩
  rcases q1 with ⟨a, xs, rfl, hq, q⟩ | ⟨a, xs, rfl, hq, q⟩ | ⟨x, rfl, q⟩
  · obtain rfl : v = Value.ref a := r1
    obtain ⟨its, rv, at1, _⟩ := I1.list hq
    exact wpAny_pyIter_list at1.isList (pi_one (tk := s1.toks) I1 _ (turn_list a _) ⟨_, Heap.get?_push_size _ rfl, rfl, rfl⟩ q)
  · obtain rfl : v = Value.ref a := r1
    obtain ⟨its, rv, at1, _⟩ := I1.tuple hq
    have at2 : s1.heap.IsTuple a its.toArray := at1
    exact wpAny_pyIter_tuple at2 (pi_one (tk := s1.toks) I1 _ (turn_tuple a _) ⟨_, Heap.get?_push_size _ rfl, rfl, rfl⟩ q)
  · obtain ⟨t, rfl⟩ := r1
    cases ha : x.cps.all (· < 128) with
    | false => exact wpAny_pyIter_wide ha (pi_one I1 _ (turn_str _ x t _ (.inr rfl)) ⟨_, Heap.get?_push_size _ rfl, rfl, rfl⟩ q)
    | true => exact wpAny_pyIter_ascii ha (pi_one I1 _ (turn_str _ x t _ (.inl rfl)) ⟨_, Heap.get?_push_size _ rfl, rfl, rfl⟩ q)
abbrev SI (X : Cx) (M : Mach) (tg e : Expr) (k : Ik) (src : Es) : Prop := PI X tg e (tI X.K M k src)
theorem RXs.one {K : PySem.W.Frag} {H : Hp} {P : Addr → Prop} {v : V} {ds : List D} (h : RXs K H P [v] ds) : ∃ d, ds = [d] ∧ RX K H P v d := by
  cases h with
  | cons h1 h2 => cases h2; exact ⟨_, rfl, h1⟩
theorem RX.of_rd {K : PySem.W.Frag} {H : Hp} {P : Addr → Prop} {v : V} {d : D} (h : RX K H P v d) (hd : ∀ xs, d ≠ .lst xs) : RD H P v d := by
  rcases h with h | ⟨_, _, _, e, _⟩
  · exact h
  · exact absurd e (hd _)
theorem evs_one {ρ : Env} {z : List R × Env} (e : evs M (.cons A .nil) ρ = some z) : ∃ r ρ', ev M A ρ = some (r, ρ') ∧ z = ([r], ρ') := by
  unfold evs at e
  obtain ⟨⟨r, ρ1⟩, e1, e⟩ := Option.bind_eq_some_iff.mp e
  unfold evs at e
  cases e
  exact ⟨r, ρ1, e1, rfl⟩
theorem si_seq (h : SE X M e A) : SI X M tg e .seq (.cons A .nil) := by
  refine (pi_seq h).imp fun σ H R ⟨W, ρ, O, z, q, xs, ok, e1, e2, e3, k⟩ => ?_
  obtain ⟨r, ρ', e4, rfl⟩ := evs_one e1
  refine ⟨W, ρ, O, r, ρ', ok, e4, fun H1 O1 S v p => ?_⟩
  obtain ⟨O2, s, hx⟩ := p.srcs ok M.io e2
  obtain ⟨d, ed, hx⟩ := hx.one
  rw [ed] at e3
  cases d with
  | lst ds =>
    cases e3
    obtain ⟨a, us, rfl, h1, _⟩ := hx.lst
    exact .inl ⟨a, us, rfl, h1, k _ _ _ s (wk_list hx)⟩
  | tup ds =>
    cases e3
    have rd := hx.of_rd fun _ => D.noConfusion
    obtain ⟨a, us, rfl, h1, _, _⟩ := RD.tup_inv rd
    exact .inr (.inl ⟨a, us, rfl, SqT.of h1, k _ _ _ s (wk_tup rd)⟩)
  | str t =>
    cases e3
    have rd := hx.of_rd fun _ => D.noConfusion
    obtain ⟨rfl, _, h2⟩ := RD.str_inv rd
    exact .inr (.inr ⟨_, rfl, k _ _ _ s (wk_str t h2)⟩)
  | _ => cases e3
theorem ends_of {i : Int} (h : ends62 i = true) : -(2 ^ 62) ≤ i ∧ i < 2 ^ 62 := by
  unfold ends62 at h
  simpa using h
theorem si_rng1 {src : Es} (hg : Gl X "range") (hm : X.mg "range" = none) (h : SA X M [a] src) (hs : starEach [a] X.env = [(false, eval a X.env)]) : SI X M tg (.Call (.Name "range" p) [a] [] pos) .rng1 src := by
  refine (pi_range1 hg hm h hs).imp fun σ H R ⟨W, ρ, O, z, q, xs, ok, e1, e2, e3, k⟩ => ?_
  refine ⟨W, ρ, O, z.1, z.2, ok, e1, fun H1 O1 S vs p => ?_⟩
  obtain ⟨O2, s, hx⟩ := p.srcs ok M.io e2
  generalize q.1 = ds at hx e3
  unfold items at e3
  split at e3 <;> first | contradiction | skip
  split at e3
  · rename_i j _ hj
    cases e3
    cases hx with
    | cons h1 h2 =>
      cases h2
      cases h1.of_rd fun _ => D.noConfusion
      refine ⟨j, rfl, (ends_of hj).1, (ends_of hj).2, k _ _ _ s ?_⟩
      have w := wk_range (H := H1) (P := Pp W O2 []) 0 j
      rwa [show j - 0 = j by omega] at w
  · cases e3
theorem si_rng2 {src : Es} (hg : Gl X "range") (hm : X.mg "range" = none) (h : SA X M [a, b] src) (hs : starEach [a, b] X.env = [(false, eval a X.env), (false, eval b X.env)]) (hs2 : starEach [b] X.env = [(false, eval b X.env)]) : SI X M tg (.Call (.Name "range" p) [a, b] [] pos) .rng2 src := by
  refine (pi_range2 hg hm h hs hs2).imp fun σ H R ⟨W, ρ, O, z, q, xs, ok, e1, e2, e3, k⟩ => ?_
  refine ⟨W, ρ, O, z.1, z.2, ok, e1, fun H1 O1 S vs p => ?_⟩
  obtain ⟨O2, s, hx⟩ := p.srcs ok M.io e2
  generalize q.1 = ds at hx e3
  unfold items at e3
  split at e3 <;> first | contradiction | skip
  split at e3
  · rename_i i j _ hj
    cases e3
    rw [Bool.and_eq_true] at hj
    cases hx with
    | cons h1 h2 =>
      cases h2 with
      | cons h2 h3 =>
        cases h3
        cases h1.of_rd fun _ => D.noConfusion
        cases h2.of_rd fun _ => D.noConfusion
        exact ⟨i, j, rfl, ⟨(ends_of hj.1).1, (ends_of hj.1).2, (ends_of hj.2).1, (ends_of hj.2).2⟩, k _ _ _ s (wk_range i j)⟩
  · cases e3
theorem si_zip {elts : List Expr} {kk : Nat} {tpos : Pos} {src : Es} (hg : Gl X "zip") (hm : X.mg "zip" = none) (h : SA X M [a, b] src) (hs : starEach [a, b] X.env = (false, eval a X.env) :: starEach [b] X.env) (hpl : (backTo pos (starEach [b] X.env)).any (·.1) = false) :
    SI X M (.Tuple elts kk tpos) (.Call (.Name "zip" p) [a, b] [] pos) .zip src := by
  refine (pi_zipA hg hm h hs hpl).imp fun σ H R ⟨W, ρ, O, z, q, xs, ok, e1, e2, e3, k⟩ => ?_
  refine ⟨W, ρ, O, z.1, z.2, ok, e1, fun H1 O1 S vs p => ?_⟩
  obtain ⟨O2, s, hx⟩ := p.srcs ok M.io e2
  generalize q.1 = ds at hx e3
  unfold items at e3
  split at e3 <;> first | contradiction | skip
  · cases e3
    cases hx with
    | cons h1 h2 =>
      cases h2 with
      | cons h2 h3 =>
        cases h3
        obtain ⟨_, us, rfl, s1, _⟩ := h1.lst
        obtain ⟨_, ws, rfl, s2, _⟩ := h2.lst
        exact ⟨_, _, us, ws, rfl, .inl ⟨s1, s2, k _ _ _ s (wk_zipL h1 h2)⟩⟩
  · cases e3
    cases hx with
    | cons h1 h2 =>
      cases h2 with
      | cons h2 h3 =>
        cases h3
        have d1 := h1.of_rd fun _ => D.noConfusion
        have d2 := h2.of_rd fun _ => D.noConfusion
        obtain ⟨_, us, rfl, s1, _⟩ := RD.tup_inv d1
        obtain ⟨_, ws, rfl, s2, _⟩ := RD.tup_inv d2
        exact ⟨_, _, us, ws, rfl, .inr ⟨SqT.of s1, SqT.of s2, k _ _ _ s (wk_zipT d1 d2)⟩⟩
theorem si_enum {elts : List Expr} {kk : Nat} {tpos : Pos} {src : Es} (hg : Gl X "enumerate") (hm : X.mg "enumerate" = none) (h : SA X M [a] src) (hs : starEach [a] X.env = [(false, eval a X.env)]) :
    SI X M (.Tuple elts kk tpos) (.Call (.Name "enumerate" p) [a] [] pos) .enum src := by
  refine (pi_enum hg hm h hs).imp fun σ H R ⟨W, ρ, O, z, q, xs, ok, e1, e2, e3, k⟩ => ?_
  refine ⟨W, ρ, O, z.1, z.2, ok, e1, fun H1 O1 S vs p => ?_⟩
  obtain ⟨O2, s, hx⟩ := p.srcs ok M.io e2
  generalize q.1 = ds at hx e3
  unfold items at e3
  split at e3 <;> first | contradiction | skip
  cases e3
  cases hx with
  | cons h1 h2 =>
    cases h2
    obtain ⟨_, us, rfl, s1, _⟩ := h1.lst
    exact ⟨_, us, rfl, s1, k _ _ _ s (wk_enum h1)⟩
theorem si_rev (hg : Gl X "reversed") (hm : X.mg "reversed" = none) (h : SE X M a A) (hs : starEach [a] X.env = (false, eval a X.env) :: starEach [] X.env) : SI X M tg (.Call (.Name "reversed" p) [a] [] pos) .rev (.cons A .nil) := by
  refine (pi_revA hg hm h hs).imp fun σ H R ⟨W, ρ, O, z, q, xs, ok, e1, e2, e3, k⟩ => ?_
  obtain ⟨r, ρ', e4, rfl⟩ := evs_one e1
  refine ⟨W, ρ, O, r, ρ', ok, e4, fun H1 O1 S v p => ?_⟩
  obtain ⟨O2, s, hx⟩ := p.srcs ok M.io e2
  obtain ⟨d, ed, hx⟩ := hx.one
  rw [ed] at e3
  unfold items at e3
  split at e3 <;> first | contradiction | skip
  rename_i heq
  cases heq
  cases e3
  obtain ⟨_, us, rfl, s1, d1⟩ := hx.lst
  exact ⟨_, us, rfl, .inl ⟨s1, k _ _ _ s (wk_rev hx d1.length)⟩⟩
theorem wk_ez {H : Hp} {P : Addr → Prop} (s t : List Nat) (hs : s.all (fun c => decide (c < 0x110000)) = true) (ht : t.all (fun c => decide (c < 0x110000)) = true) :
    Wk (Itez ⟨s.toArray⟩ ⟨t.toArray⟩) H P (numbered 0 (pairs (s.map fun c => .str [c]) (t.map fun c => .str [c]))) := by
  intro H2 P2 f hP i
  refine ⟨fun x hx => ?_, fun hl => ?_⟩
  · obtain ⟨y, hy, rfl⟩ := numbered_get hx
    obtain ⟨u, w, hu, hw, rfl⟩ := pairs_get hy
    rw [List.getElem?_map, Option.map_eq_some_iff] at hu hw
    obtain ⟨c, hc, rfl⟩ := hu
    obtain ⟨d, hd, rfl⟩ := hw
    refine ⟨⟨by show i < s.toArray.size; simpa using (List.getElem?_eq_some_iff.mp hc).1, by show i < t.toArray.size; simpa using (List.getElem?_eq_some_iff.mp hd).1⟩, fun v H3 q => ?_⟩
    obtain ⟨T1, T2, c1, c2, rfl, h1, h2, ne, rfl, e1, e2⟩ := q
    have e1' : s[i]? = some c1 := by simpa using e1
    have e2' : t[i]? = some c2 := by simpa using e2
    rw [hc] at e1'; cases e1'
    rw [hd] at e2'; cases e2'
    have oc := List.all_eq_true.mp hs c (List.mem_of_getElem? hc)
    have od := List.all_eq_true.mp ht d (List.mem_of_getElem? hd)
    have g1 : ∀ b o, H2 b = some o → (upd H2 T1 (.tup [.str ⟨#[c]⟩, .str ⟨#[d]⟩])) b = some o := grow_new h1
    have n2 : (upd H2 T1 (.tup [.str ⟨#[c]⟩, .str ⟨#[d]⟩])) T2 = none := by rw [upd_ne ne.symm]; exact h2
    have g2 := grow_new (o := HO.tup [.int (i : Nat), .ref T1]) n2
    refine ⟨fun b o e => g2 b o (g1 b o e), ?_⟩
    have r1 : RD (upd (upd H2 T1 (.tup [.str ⟨#[c]⟩, .str ⟨#[d]⟩])) T2 (.tup [.int (i : Nat), .ref T1])) P2 (.ref T1) (.tup [.str [c], .str [d]]) :=
      .tup (g2 _ _ upd_same) (fun q => hP _ q h1) (.cons (.str [c] (show 1 ≤ line by decide) (by simpa using oc)) (.cons (.str [d] (show 1 ≤ line by decide) (by simpa using od)) .nil))
    rw [Nat.zero_add]
    exact .tup upd_same (fun q => hP _ q h2) (.cons (.int _) (.cons r1 .nil))
  · rw [numbered_length] at hl
    unfold pairs at hl
    rw [List.length_map, List.length_zip, List.length_map, List.length_map] at hl
    show s.toArray.size ≤ i ∨ t.toArray.size ≤ i
    rw [List.size_toArray, List.size_toArray]
    omega
theorem si_ez {elts : List Expr} {kk : Nat} {p2 pos2 tpos : Pos} {src : Es} (hg : Gl X "enumerate") (hm : X.mg "enumerate" = none) (hg2 : Gl X "zip") (hm2 : X.mg "zip" = none) (h : SA X M [a, b] src) (hs : starEach [a, b] X.env = (false, eval a X.env) :: starEach [b] X.env) (hpl : (backTo pos2 (starEach [b] X.env)).any (·.1) = false) :
    SI X M (.Tuple elts kk tpos) (.Call (.Name "enumerate" p) [.Call (.Name "zip" p2) [a, b] [] pos2] [] pos) .enzip src := by
  refine (pi_ez hg hm hg2 hm2 h hs hpl).imp fun σ H R ⟨W, ρ, O, z, q, xs, ok, e1, e2, e3, k⟩ => ?_
  refine ⟨W, ρ, O, z.1, z.2, ok, e1, fun H1 O1 S vs p => ?_⟩
  obtain ⟨O2, s, hx⟩ := p.srcs ok M.io e2
  generalize q.1 = ds at hx e3
  unfold items at e3
  split at e3 <;> first | contradiction | skip
  cases e3
  cases hx with
  | cons h1 h2 =>
    cases h2 with
    | cons h2 h3 =>
      cases h3
      obtain ⟨rfl, _, b1⟩ := RD.str_inv (h1.of_rd fun _ => D.noConfusion)
      obtain ⟨rfl, _, b2⟩ := RD.str_inv (h2.of_rd fun _ => D.noConfusion)
      exact ⟨_, _, rfl, k _ _ _ s (wk_ez _ _ b1 b2)⟩
end
end Pu

set_option Elab.async false
set_option maxRecDepth 100000
set_option maxHeartbeats 2000000
namespace Pu
open PySem L2 RZ RT PyProof.Rows

/-! ### the slots of a comprehension's own names -/
theorem lwipe_length (σ : L2.St) : ∀ own : List Nat, (L2.wipe σ own).length = σ.length
  | [] => rfl
  | i :: own => by
    show ((L2.wipe σ own).set i none).length = _
    rw [List.length_set]; exact lwipe_length σ own
theorem lwipe_out {σ : L2.St} {j : Nat} : ∀ {own : List Nat}, j ∉ own → (L2.wipe σ own)[j]? = σ[j]?
  | [], _ => rfl
  | i :: own, h => by
    show ((L2.wipe σ own).set i none)[j]? = _
    have hi : i ≠ j := fun e => h (by rw [e]; exact List.mem_cons_self ..)
    rw [List.getElem?_set_ne hi]
    exact lwipe_out fun z => h (List.mem_cons_of_mem _ z)
theorem lwipe_in {σ : L2.St} {j : Nat} (hj : j < σ.length) : ∀ {own : List Nat}, j ∈ own → (L2.wipe σ own)[j]? = some none
  | i :: own, h => by
    show ((L2.wipe σ own).set i none)[j]? = _
    by_cases hi : i = j
    · subst hi
      rw [List.getElem?_set_self (by rw [lwipe_length]; exact hj)]
    · rw [List.getElem?_set_ne hi]
      rcases List.mem_cons.mp h with e | h
      · exact absurd e.symm hi
      · exact lwipe_in hj h
theorem lwipe_same {σ τ : L2.St} {own : List Nat} (hl : τ.length = σ.length) (h : ∀ j, j ∉ own → τ[j]? = (L2.wipe σ own)[j]?) : L2.wipe τ own = L2.wipe σ own := by
  refine List.ext_getElem? fun j => ?_
  by_cases hj : j ∈ own
  · by_cases hlt : j < σ.length
    · rw [lwipe_in (by rw [hl]; exact hlt) hj, lwipe_in hlt hj]
    · rw [List.getElem?_eq_none (by rw [lwipe_length, hl]; omega), List.getElem?_eq_none (by rw [lwipe_length]; omega)]
  · rw [lwipe_out hj, h j hj]
theorem pwipe_length (ρ : Env) : ∀ own : List Nat, (wipe ρ own).length = ρ.length
  | [] => rfl
  | i :: own => by
    show ((wipe ρ own).set i .un).length = _
    rw [List.length_set]; exact pwipe_length ρ own
theorem pwipe_in {ρ : Env} {j : Nat} (hj : j < ρ.length) : ∀ {own : List Nat}, j ∈ own → (wipe ρ own)[j]? = some .un
  | i :: own, h => by
    show ((wipe ρ own).set i .un)[j]? = _
    by_cases hi : i = j
    · subst hi
      rw [List.getElem?_set_self (by rw [pwipe_length]; exact hj)]
    · rw [List.getElem?_set_ne hi]
      rcases List.mem_cons.mp h with e | h
      · exact absurd e.symm hi
      · exact pwipe_in hj h
section
variable {K : PySem.W.Frag} {H H' H1 H2 : Hp} {P : Addr → Prop} {σ : L2.St} {ρ ρ0 : Env} {O : List Addr}
theorem RE.un (h : RE K H P σ ρ O) (i : Nat) : ∃ O', O'.Sublist O ∧ RE K H P (σ.set i none) (ρ.set i .un) O' := by
  by_cases hi : i < ρ.length
  · obtain ⟨A, S, B, o, e, _, _, k⟩ := h.at (List.getElem?_eq_getElem hi)
    refine ⟨A ++ ([] ++ B), ?_, k none .un [] (.un _)⟩
    rw [e, List.nil_append]
    exact List.Sublist.append (List.Sublist.refl _) (List.sublist_append_right ..)
  · have hl := h.length
    rw [List.set_eq_of_length_le (by omega), List.set_eq_of_length_le (by omega)]
    exact ⟨O, List.Sublist.refl _, h⟩
theorem RE.wiped : ∀ {own : List Nat} {O : List Addr}, RE K H P σ ρ O → ∃ O', O'.Sublist O ∧ RE K H P (L2.wipe σ own) (wipe ρ own) O'
  | [], O, h => ⟨O, List.Sublist.refl _, h⟩
  | i :: own, O, h => by
    obtain ⟨O1, s1, h1⟩ := RE.wiped (own := own) h
    obtain ⟨O2, s2, h2⟩ := h1.un i
    exact ⟨O2, s2.trans s1, h2⟩
theorem RE.put {i : Nat} {o : Option V} {s : Slot} (h : RE K H P σ ρ O) (e : ρ[i]? = some .un) (r : RS K H P o s []) : RE K H P (σ.set i o) (ρ.set i s) O := by
  obtain ⟨A, S, B, o', e1, _, r1, k⟩ := h.at e
  cases r1
  have := k o s [] r
  rwa [← e1] at this
theorem lwipe_comm (σ : L2.St) (i : Nat) : ∀ own : List Nat, (L2.wipe σ own).set i none = L2.wipe (σ.set i none) own
  | [] => rfl
  | j :: own => by
    show ((L2.wipe σ own).set j none).set i none = (L2.wipe (σ.set i none) own).set j none
    rw [← lwipe_comm σ i own]
    by_cases h : i = j
    · subst h; rfl
    · rw [List.set_comm _ _ (Ne.symm h)]
theorem unwipe_out {j : Nat} : ∀ {own : List Nat}, j ∉ own → (unwipe ρ0 ρ own)[j]? = ρ[j]?
  | [], _ => rfl
  | i :: own, h => by
    show ((unwipe ρ0 ρ own).set i _)[j]? = _
    have hi : i ≠ j := fun e => h (by rw [e]; exact List.mem_cons_self ..)
    rw [List.getElem?_set_ne hi]
    exact unwipe_out fun z => h (List.mem_cons_of_mem _ z)
theorem RE.unwiped : ∀ {own : List Nat} {σ : L2.St}, own.Nodup → RE K H P (L2.wipe σ own) ρ O → (∀ i ∈ own, ρ[i]? = some .un) → (∀ i ∈ own, ∃ o s, σ[i]? = some o ∧ ρ0[i]? = some s ∧ RS K H P o s []) → RE K H P σ (unwipe ρ0 ρ own) O
  | [], _, _, h, _, _ => h
  | i :: own, σ, nd, h, hu, hs => by
    obtain ⟨n1, n2⟩ := List.nodup_cons.mp nd
    have h' : RE K H P (L2.wipe (σ.set i none) own) ρ O := by rw [← lwipe_comm]; exact h
    have ih := RE.unwiped n2 h' (fun j hj => hu j (List.mem_cons_of_mem _ hj)) fun j hj => by
      obtain ⟨o, s, e1, e2, r⟩ := hs j (List.mem_cons_of_mem _ hj)
      have ne : i ≠ j := fun e => n1 (by rw [e]; exact hj)
      exact ⟨o, s, by rw [List.getElem?_set_ne ne]; exact e1, e2, r⟩
    obtain ⟨o, s, e1, e2, r⟩ := hs i (List.mem_cons_self ..)
    have q := ih.put (i := i) (by rw [unwipe_out n1]; exact hu i (List.mem_cons_self ..)) r
    rw [List.set_set] at q
    have e3 : σ.set i o = σ := by
      obtain ⟨h1, h2⟩ := List.getElem?_eq_some_iff.mp e1
      rw [← h2, List.set_getElem_self]
    rw [e3] at q
    show RE K H P σ ((unwipe ρ0 ρ own).set i ((ρ0[i]?).getD .un)) O
    rw [e2]
    exact q
end

/-! ### a turn of a comprehension -/
structure CI (K : PySem.W.Frag) (H1 : Hp) (W : Addr → Prop) (O1 : List Addr) (D : Addr) (σ : L2.St) (H : Hp) (O S : List Addr) (vs : List V) (acc : List Val) (ρ : Env) : Prop where
  keep : ∀ b o, H1 b = some o → b ∉ O1 → H b = some o
  new : ∀ b, b ∈ O ∨ b ∈ D :: S → b ∈ O1 ∨ H1 b = none
  hD : H D = some (.lst vs)
  rv : RVs H (Pp W O (D :: S)) vs acc S
  re : RE K H (Pp W O (D :: S)) σ ρ O
  nd : (O ++ D :: S).Nodup
  tr : ∀ b, b ∈ O ∨ b ∈ D :: S → H b ≠ none
section
variable {K : PySem.W.Frag} {io : Nat → Bool} {H H' H1 H3 H4 : Hp} {W : Addr → Prop} {D : Addr} {σ σ' σ2 : L2.St} {ρ ρ' ρ1 ρ2 ρ3 ρ4 : Env} {O O' O1 O3 O4 S S4 : List Addr} {vs : List V} {acc : List Val} {y : V} {x : Val}
abbrev Wc (W : Addr → Prop) (D : Addr) (S : List Addr) : Addr → Prop := fun a => W a ∨ a ∈ D :: S
theorem wc_pp {b : Addr} : Pp (Wc W D S) O [] b → Pp W O (D :: S) b := fun z => by
  rcases z with (z | z) | z | z
  · exact .inl z
  · exact .inr (.inr z)
  · exact .inr (.inl z)
  · exact nomatch z
theorem wc_pp' {b : Addr} : Pp W O (D :: S) b → Pp (Wc W D S) O [] b := fun z => by
  rcases z with z | z | z
  · exact .inl (.inl z)
  · exact .inr (.inl z)
  · exact .inl (.inr z)
theorem CI.okk (c : CI K H1 W O1 D σ H O S vs acc ρ) (hw : ∀ a, W a → a ∉ O1 ∧ H1 a ≠ none) : Okk K H (Wc W D S) σ ρ O := by
  refine ⟨c.re.fut (fut_same fun b z => wc_pp z) fun _ _ _ e => e, (List.nodup_append.mp c.nd).1, fun a h => ?_, fun a h => c.tr a (.inl h)⟩
  rcases h with h | h
  · obtain ⟨n, t⟩ := hw a h
    refine ⟨fun z => ?_, ?_⟩
    · rcases c.new a (.inl z) with q | q
      · exact n q
      · exact t q
    · obtain ⟨o, e⟩ := some_of_ne t
      rw [c.keep a o e n]; exact fun z => nomatch z
  · exact ⟨fun z => (List.nodup_append.mp c.nd).2.2 a z a h rfl, c.tr a (.inr h)⟩
theorem Stp.grow (ok : Okk K H W σ ρ O) (g : ∀ b o, H b = some o → H' b = some o) : Stp K io H W O σ H' O σ ρ :=
  ⟨fun b o e _ => g b o e, fun _ h => .inl h, ⟨ok.re.fut (fun b o e n => ⟨g b o e, n⟩) fun _ _ o e => g _ o e, ok.nd, fun a h => ⟨(ok.w a h).1, by
    obtain ⟨o, e⟩ := some_of_ne (ok.w a h).2
    rw [g a o e]; exact fun z => nomatch z⟩, fun b h => by
    obtain ⟨o, e⟩ := some_of_ne (ok.tr b h)
    rw [g b o e]; exact fun z => nomatch z⟩, fun _ _ => rfl, rfl⟩
theorem CI.move (c : CI K H1 W O1 D σ H O S vs acc ρ) (p : Stp K io H (Wc W D S) O σ H3 O3 σ2 ρ3) : CI K H1 W O1 D σ2 H3 O3 S vs acc ρ3 := by
  have nO : ∀ b, b ∈ D :: S → b ∉ O := fun b hb z => (List.nodup_append.mp c.nd).2.2 b z b hb rfl
  have old : ∀ b, H b = none → b ∈ O1 ∨ H1 b = none := fun b e => by
    by_cases hb : b ∈ O1
    · exact .inl hb
    · cases q : H1 b with
      | none => exact .inr rfl
      | some o => rw [c.keep b o q hb] at e; cases e
  have fut : Fut H (Pp W O (D :: S)) H3 (Pp W O3 (D :: S)) := fun b o e n => by
    have n1 : b ∉ O := fun z => n (.inr (.inl z))
    refine ⟨p.keep b o e n1, fun z => ?_⟩
    rcases z with z | z | z
    · exact n (.inl z)
    · rcases p.new b z with z | z
      · exact n1 z
      · rw [z] at e; cases e
    · exact n (.inr (.inr z))
  refine ⟨fun b o e n => p.keep b o (c.keep b o e n) fun z => ?_, fun b h => ?_, p.keep D _ c.hD (nO D (List.mem_cons_self ..)), c.rv.fut fut fun b hb o e => p.keep b o e (nO b (List.mem_cons_of_mem _ hb)),
    p.ok.re.fut (fut_same fun b z => wc_pp' z) fun _ _ _ e => e, ?_, fun b h => ?_⟩
  · rcases c.new b (.inl z) with z | z
    · exact n z
    · rw [z] at e; cases e
  · rcases h with h | h
    · rcases p.new b h with z | z
      · exact c.new b (.inl z)
      · exact old b z
    · exact c.new b (.inr h)
  · refine List.nodup_append.mpr ⟨p.ok.nd, (List.nodup_append.mp c.nd).2.1, fun a ha b hb e => ?_⟩
    subst e
    exact (p.ok.w a (.inr hb)).1 ha
  · rcases h with h | h
    · exact p.ok.tr b h
    · exact (p.ok.w b (.inr h)).2
theorem CI.wiped (c : CI K H1 W O1 D σ H O S vs acc ρ) (own : List Nat) : ∃ O', CI K H1 W O1 D (L2.wipe σ own) H O' S vs acc (wipe ρ own) := by
  obtain ⟨O', s, h⟩ := c.re.wiped (own := own)
  have mono : ∀ b, Pp W O' (D :: S) b → Pp W O (D :: S) b := mono_pp s
  exact ⟨O', c.keep, fun b h => c.new b (h.imp (fun z => s.subset z) id), c.hD, c.rv.mono mono, h.fut (fut_same mono) fun _ _ _ e => e, c.nd.sublist (List.Sublist.append s (List.Sublist.refl _)), fun b h => c.tr b (h.imp (fun z => s.subset z) id)⟩
theorem RVs.push {P : Addr → Prop} : ∀ {acc : List Val} {vs : List V} {S : List Addr}, RVs H P vs acc S → RV H P y x S4 → RVs H P (vs ++ [y]) (acc ++ [x]) (S ++ S4)
  | [], _, _, h, r => by
    cases h
    have := RVs.cons r (RVs.nil (H := H) (P := P))
    rwa [List.append_nil] at this
  | a :: acc, _, _, h, r => by
    cases h with
    | cons h1 h2 =>
      rw [List.append_assoc]
      exact .cons h1 (RVs.push h2 r)
theorem CI.push (c : CI K H1 W O1 D σ H O S vs acc ρ) (hw : ∀ a, W a → a ∉ O1 ∧ H1 a ≠ none) (p : Post K H (Wc W D S) O σ H4 O4 S4 [y] [.v x] ρ4) : H4 D = some (.lst vs) ∧ CI K H1 W O1 D σ (upd H4 D (.lst (vs ++ [y]))) O4 (S ++ S4) (vs ++ [y]) (acc ++ [x]) ρ4 := by
  have ok := c.okk hw
  have nO : ∀ b, b ∈ D :: S → b ∉ O := fun b hb z => (List.nodup_append.mp c.nd).2.2 b z b hb rfl
  have away : ∀ b, b ∈ D :: S → (b ∉ O4 ∧ b ∉ S4) ∧ H4 b ≠ none := fun b hb => p.wkeep ok (.inr hb)
  have old : ∀ b, H b = none → b ∈ O1 ∨ H1 b = none := fun b e => by
    by_cases hb : b ∈ O1
    · exact .inl hb
    · cases q : H1 b with
      | none => exact .inr rfl
      | some o => rw [c.keep b o q hb] at e; cases e
  have hD4 : H4 D = some (.lst vs) := p.keep D _ c.hD (nO D (List.mem_cons_self ..))
  have pin : ∀ {b : Addr}, Pp W O4 (D :: (S ++ S4)) b → Pp (Wc W D S) O4 S4 b := fun {b} z => by
    rcases z with z | z | z
    · exact .inl (.inl z)
    · exact .inr (.inl z)
    · rcases List.mem_cons.mp z with z | z
      · exact .inl (.inr (z ▸ List.mem_cons_self ..))
      · rcases List.mem_append.mp z with z | z
        · exact .inl (.inr (List.mem_cons_of_mem _ z))
        · exact .inr (.inr z)
  have fut5 : Fut H4 (Pp (Wc W D S) O4 S4) (upd H4 D (.lst (vs ++ [y]))) (Pp W O4 (D :: (S ++ S4))) := fun b o e n => by
    have nb : b ≠ D := fun z => n (.inl (.inr (z ▸ List.mem_cons_self ..)))
    exact ⟨by rw [upd_ne nb]; exact e, fun z => n (pin z)⟩
  have ne4 : ∀ b, b ∈ S4 → b ≠ D := fun b hb z => (away D (List.mem_cons_self ..)).1.2 (z ▸ hb)
  have neO : ∀ b, b ∈ O4 → b ≠ D := fun b hb z => (away D (List.mem_cons_self ..)).1.1 (z ▸ hb)
  have neS : ∀ b, b ∈ S → b ≠ D := fun b hb z => (List.nodup_cons.mp (List.nodup_append.mp c.nd).2.1).1 (z ▸ hb)
  have futS : Fut H (Pp W O (D :: S)) H4 (Pp (Wc W D S) O4 S4) := fun b o e n => by
    have n1 : b ∉ O := fun z => n (.inr (.inl z))
    refine ⟨p.keep b o e n1, fun z => ?_⟩
    rcases z with (z | z) | z
    · exact n (.inl z)
    · exact n (.inr (.inr z))
    · rcases p.new b z with z | z
      · exact n1 z
      · rw [z] at e; cases e
  refine ⟨hD4, fun b o e n => ?_, fun b h => ?_, upd_same, ?_, ?_, ?_, fun b h => ?_⟩
  · have e1 := c.keep b o e n
    have nbO : b ∉ O := fun z => by
      rcases c.new b (.inl z) with z | z
      · exact n z
      · rw [z] at e; cases e
    have nb : b ≠ D := fun z => by
      rcases c.new b (.inr (z ▸ List.mem_cons_self ..)) with z | z
      · exact n z
      · rw [z] at e; cases e
    rw [upd_ne nb]
    exact p.keep b o e1 nbO
  · have h' : b ∈ D :: S ∨ b ∈ O4 ∨ b ∈ S4 := by
      rcases h with h | h
      · exact .inr (.inl h)
      · rcases List.mem_cons.mp h with h | h
        · exact .inl (h ▸ List.mem_cons_self ..)
        · rcases List.mem_append.mp h with h | h
          · exact .inl (List.mem_cons_of_mem _ h)
          · exact .inr (.inr h)
    rcases h' with h' | h'
    · exact c.new b (.inr h')
    · rcases p.new b h' with z | z
      · exact c.new b (.inl z)
      · exact old b z
  · refine RVs.push ((c.rv.fut futS fun b hb o e => p.keep b o e (nO b (List.mem_cons_of_mem _ hb))).fut fut5 fun b hb o e => by rw [upd_ne (neS b hb)]; exact e) ?_
    have r := p.rr.one
    cases r with
    | v r => exact r.fut fut5 fun b hb o e => by rw [upd_ne (ne4 b hb)]; exact e
  · exact p.re.fut fut5 fun b hb o e => by rw [upd_ne (neO b hb)]; exact e
  · have n4 := List.nodup_append.mp p.nd
    have nS := List.nodup_append.mp c.nd
    have nDS := List.nodup_cons.mp nS.2.1
    refine List.nodup_append.mpr ⟨n4.1, List.nodup_cons.mpr ⟨fun z => ?_, List.nodup_append.mpr ⟨nDS.2, n4.2.1, fun a ha b hb e => ?_⟩⟩, fun a ha b hb e => ?_⟩
    · rcases List.mem_append.mp z with z | z
      · exact nDS.1 z
      · exact ne4 D z rfl
    · subst e; exact (away a (List.mem_cons_of_mem _ ha)).1.2 hb
    · subst e
      rcases List.mem_cons.mp hb with z | z
      · exact neO a ha z
      · rcases List.mem_append.mp z with z | z
        · exact (away a (List.mem_cons_of_mem _ z)).1.1 ha
        · exact n4.2.2 a ha a z rfl
  · by_cases nb : b = D
    · subst nb; rw [upd_same]; exact fun z => nomatch z
    · rw [upd_ne nb]
      rcases h with h | h
      · exact p.tr b (.inl h)
      · rcases List.mem_cons.mp h with h | h
        · exact absurd h nb
        · rcases List.mem_append.mp h with h | h
          · exact (away b (List.mem_cons_of_mem _ h)).2
          · exact p.tr b (.inr h)
end
end Pu

set_option Elab.async false
set_option maxRecDepth 100000
set_option maxHeartbeats 2000000
namespace Pu
open PySem L2 RZ RT PyProof.Rows

/-! ### comprehensions -/
def turnOf (M : Mach) (tg : Tg) (t : T) (elt : E) : D → Env → Option (Option Val × Env) := fun x ρ' => (asgT M tg (.d x) ρ').bind fun ρ1 => (evT M t ρ1).bind fun b => match b.1 with
  | true => (ev M elt b.2).bind fun e => (esc e.2 e.1).map fun v => (some v.1, v.2)
  | false => some (none, b.2)
theorem own_rs {K : PySem.W.Frag} {H : Hp} {P : Addr → Prop} {σ : L2.St} {ρ : Env} {O : List Addr} {own : List Nat} (h : RE K H P σ ρ O) (ho : ownOk ρ own = true) : own.Nodup ∧ ∀ i ∈ own, ∃ o s, σ[i]? = some o ∧ ρ[i]? = some s ∧ RS K H P o s [] := by
  unfold ownOk at ho
  rw [Bool.and_eq_true] at ho
  refine ⟨by simpa using ho.1, fun i hi => ?_⟩
  have q := List.all_eq_true.mp ho.2 i hi
  split at q
  · rename_i s es
    obtain ⟨A, S, B, o, _, e2, r, _⟩ := h.at es
    refine ⟨o, s, e2, es, ?_⟩
    cases r with
    | un => exact .un _
    | rd r => exact .rd r
    | lo r =>
      cases r with
      | d r => exact .lo (.d r)
      | ol _ _ => cases q
  · cases q
section
variable {K : PySem.W.Frag} {M : Mach} {own : List Nat} {k : Ik} {src : Es} {tg : Tg} {t : T} {elt : E} {σ : L2.St} {H0 : Hp} {Q : VK}
theorem lc_imp (hsub : ∀ j ∈ tg.names, j ∈ own) (h : tE K M (.comp own k src tg t elt) σ H0 Q) : tLc (tI K M k src) (tG K M tg) (tT K M t) (tE K M elt) own σ H0 Q := by
  obtain ⟨W, ρ, O, r, ρ', ok, he, kk⟩ := h
  unfold ev at he
  obtain ⟨p, e1, he⟩ := Option.bind_eq_some_iff.mp he
  obtain ⟨q, e2, he⟩ := Option.bind_eq_some_iff.mp he
  obtain ⟨xs, e3, he⟩ := Option.bind_eq_some_iff.mp he
  split at he
  case isFalse => cases he
  rename_i hc
  obtain ⟨⟨accF, ρF⟩, e4, e5⟩ := Option.map_eq_some_iff.mp he
  cases e5
  rw [Bool.and_eq_true] at hc
  have e4 : compL own (turnOf M tg t elt) xs q.2 [] = some (accF, ρF) := e4
  refine ⟨W, ρ, O, p, q, xs, ok, e1, e2, e3, fun J H1 O1 st wk D hD => ?_⟩
  have ok1 := st.ok
  have hw1 := ok1.w
  obtain ⟨ndo, hrs⟩ := own_rs ok1.re hc.1
  have D1 : D ∉ O1 := fun z => ok1.tr D z hD
  have WD : ¬ W D := fun z => (hw1 D z).2 hD
  -- the start
  have c0 : CI K H1 W O1 D σ (upd H1 D (.lst [])) O1 [] [] [] q.2 := by
    refine ⟨fun b o e n => grow_new hD b o e, fun b z => ?_, upd_same, .nil, ok1.re.fut (fun b o e n => ⟨grow_new hD b o e, fun z => ?_⟩) fun b hb o e => grow_new hD b o e, ?_, fun b z => ?_⟩
    · rcases z with z | z
      · exact .inl z
      · rcases List.mem_cons.mp z with rfl | z
        · exact .inr hD
        · exact nomatch z
    · rcases z with z | z | z
      · exact n (.inl z)
      · exact n (.inr (.inl z))
      · rcases List.mem_cons.mp z with rfl | z
        · rw [hD] at e; cases e
        · exact nomatch z
    · refine List.nodup_append.mpr ⟨ok1.nd, by simp, fun a ha b hb e => ?_⟩
      subst e
      rcases List.mem_cons.mp hb with rfl | z
      · exact D1 ha
      · exact nomatch z
    · rcases z with z | z
      · obtain ⟨o, e⟩ := some_of_ne (ok1.tr b z)
        rw [grow_new hD b o e]; exact fun z => nomatch z
      · rcases List.mem_cons.mp z with rfl | z
        · rw [upd_same]; exact fun z => nomatch z
        · exact nomatch z
  refine ⟨fun i m H => m = xs.length - i ∧ i ≤ xs.length ∧ ∃ O' S vs acc ρ0, CI K H1 W O1 D (L2.wipe σ own) H O' S vs acc (wipe ρ0 own) ∧ compL own (turnOf M tg t elt) (xs.drop i) ρ0 acc = some (accF, ρF) ∧ (xs.length ≤ i → ρ0 = ρF), ⟨xs.length - 0, rfl, Nat.zero_le _, ?_⟩, ?_⟩
  · obtain ⟨O', c⟩ := c0.wiped own
    refine ⟨O', [], [], [], q.2, c, e4, fun hz => ?_⟩
    have : xs = [] := List.length_eq_zero_iff.mp (by omega)
    rw [this] at e4
    simp only [compL] at e4
    cases e4; rfl
  rintro i m H ⟨rfl, hi, O', S, vs, acc, ρ0, c, hrest, hend⟩
  have ok' := c.okk hw1
  by_cases hlt : i < xs.length
  · -- a turn
    right
    have ex : xs[i]? = some xs[i] := List.getElem?_eq_getElem hlt
    rw [List.drop_eq_getElem_cons hlt] at hrest
    have fut : Fut H1 (Pp W O1 []) H (Pp (Wc W D S) O' []) := fun b o e n => by
      have n1 : b ∉ O1 := fun z => n (.inr (.inl z))
      refine ⟨c.keep b o e n1, fun z => ?_⟩
      rcases wc_pp z with z | z
      · exact n (.inl z)
      · rcases c.new b z with z | z
        · exact n1 z
        · rw [z] at e; cases e
    have hP : ∀ a, Pp (Wc W D S) O' [] a → H a ≠ none := fun a z => by
      rcases z with z | z | z
      · exact (ok'.w a z).2
      · exact ok'.tr a z
      · exact nomatch z
    obtain ⟨go, yld⟩ := (wk H _ fut hP i).1 _ ex
    refine ⟨go, fun H' => ∃ m', m' < xs.length - i ∧ _, fun H' z => z, fun v H2 y => ?_⟩
    obtain ⟨gr, rd⟩ := yld v H2 y
    -- what the evaluator does at this turn
    rw [compL] at hrest
    have g2 := Stp.grow (io := M.io) ok' gr
    have hld := g2.ok.hld (rd.fut (fut_same fun b z => z))
    cases ht : turnOf M tg t elt xs[i] (wipe ρ0 own) with
    | none => rw [ht] at hrest; cases hrest
    | some z =>
      rw [ht] at hrest
      unfold turnOf at ht
      obtain ⟨ρ1, t1, ht⟩ := Option.bind_eq_some_iff.mp ht
      obtain ⟨⟨b, ρ2⟩, t2, ht⟩ := Option.bind_eq_some_iff.mp ht
      refine ⟨Wc W D S, wipe ρ0 own, O', [], .d xs[i], ρ1, hld, t1, fun H3 O3 σ3 s3 same => ?_⟩
      rw [List.append_nil] at s3
      have hwipe : L2.wipe σ3 own = L2.wipe σ own := lwipe_same (by rw [s3.len, lwipe_length]) fun j hj => same j fun z => hj (hsub j z)
      refine ⟨hwipe, Wc W D S, ρ1, O3, b, ρ2, s3.ok, t2, fun H4 O4 p4 => ?_⟩
      have s4 : Stp K M.io H (Wc W D S) O' (L2.wipe σ own) H4 O4 σ3 ρ2 := (g2.trans s3).trans (p4.stp s3.ok)
      have c4 := c.move s4
      cases b with
      | false =>
        simp only [Bool.false_eq_true, if_false]
        cases ht
        obtain ⟨O5, c5⟩ := c4.wiped own
        rw [hwipe] at c5
        refine ⟨xs.length - (i + 1), by omega, rfl, hlt, O5, S, vs, acc, ρ2, c5, hrest, fun hz => ?_⟩
        rw [List.drop_eq_nil_of_le (by omega)] at hrest
        simp only [compL] at hrest
        cases hrest; rfl
      | true =>
        simp only [if_true]
        obtain ⟨⟨re, ρ3⟩, t3, ht⟩ := Option.bind_eq_some_iff.mp ht
        obtain ⟨⟨val, ρ4⟩, t4, ht⟩ := Option.map_eq_some_iff.mp ht
        cases ht
        have ok4 := c4.okk hw1
        refine ⟨Wc W D S, ρ2, O4, re, ρ3, ok4, t3, fun H5 O5 S5 y p5 => ?_⟩
        obtain ⟨O6, p6, _⟩ := p5.esc ok4 t4
        obtain ⟨hD5, c6⟩ := c4.push hw1 p6
        simp only at hrest
        split at hrest
        case isFalse => cases hrest
        rename_i hl
        have hlen : vs.length < sizeLine := by
          have := c.rv.length
          rw [this]; exact hl
        refine ⟨vs, hD5, hlen, ?_⟩
        obtain ⟨O7, c7⟩ := c6.wiped own
        rw [hwipe] at c7
        refine ⟨xs.length - (i + 1), by omega, rfl, hlt, O7, _, _, _, ρ4, c7, hrest, fun hz => ?_⟩
        rw [List.drop_eq_nil_of_le (by omega)] at hrest
        simp only [compL] at hrest
        cases hrest; rfl
  · -- the end
    left
    have hie : i = xs.length := by omega
    have hP : ∀ a, Pp (Wc W D S) O' [] a → H a ≠ none := fun a z => by
      rcases z with z | z | z
      · exact (ok'.w a z).2
      · exact ok'.tr a z
      · exact nomatch z
    have fut : Fut H1 (Pp W O1 []) H (Pp W O' (D :: S)) := fun b o e n => by
      have n1 : b ∉ O1 := fun z => n (.inr (.inl z))
      refine ⟨c.keep b o e n1, fun z => ?_⟩
      rcases z with z | z
      · exact n (.inl z)
      · rcases c.new b z with z | z
        · exact n1 z
        · rw [z] at e; cases e
    have stop := (wk H (Pp (Wc W D S) O' []) (fun b o e n => ⟨(fut b o e n).1, fun z => (fut b o e n).2 (wc_pp z)⟩) hP i).2 (by omega)
    refine ⟨stop, ?_⟩
    rw [List.drop_eq_nil_of_le (by omega)] at hrest
    simp only [compL] at hrest
    cases hrest
    have re2 := RE.unwiped (ρ0 := q.2) ndo c.re (fun j hj => ?_) fun j hj => ?_
    · refine kk H O' (D :: S) (.ref D) ⟨fun b o e n => c.keep b o (st.keep b o e n) fun z => ?_, fun b z => ?_, re2, ?_, c.nd, c.tr⟩
      · rcases st.new b z with z | z
        · exact n z
        · rw [z] at e; cases e
      · rcases c.new b z with z | z
        · exact st.new b z
        · by_cases hb : b ∈ O
          · exact .inl hb
          · cases qq : H0 b with
            | none => exact .inr rfl
            | some o => rw [st.keep b o qq hb] at z; cases z
      · have : RRs K H (Pp W O' (D :: S)) σ [V.ref D] [R.v (.ol accF)] ((D :: S) ++ []) := .cons (.v (.ol c.hD c.rv)) .nil
        rwa [List.append_nil] at this
    · refine pwipe_in ?_ hj
      obtain ⟨o, s, e6, _, _⟩ := hrs j hj
      have h1 := (List.getElem?_eq_some_iff.mp e6).1
      have h2 := c.re.length
      rw [lwipe_length, pwipe_length] at h2
      omega
    · obtain ⟨o, s, e6, e7, r⟩ := hrs j hj
      exact ⟨o, s, e6, e7, r.fut fut fun b hb => nomatch hb⟩
end
end Pu
namespace Pu
open PySem L2 RZ RT PyProof.Rows
section
variable {X : Cx} {M : Mach} {elt tg iter : Expr} {ifs : List Expr} {scope : Scope} {own : List (Str × Nat)} {pos spos py : Pos} {k : Ik} {src : Es} {t : Tg} {T0 : T} {A : E} {i : Nat} {y : Str}
theorem pts_yes : PTs X [] (tT X.K M .yes) := by
  constructor
  intro pins s σ H Q I ⟨W, ρ, O, b, ρ', ok, he, kk⟩
  unfold evT at he
  cases he
  exact pts_nil.run pins s σ H Q I (kk H O ok.refl.drop)
theorem pts_if {c : Expr} (h : ST X M c T0) : PTs X [c] (tT X.K M T0) := pts_one h
/-- what a comprehension's parts must be -/
structure LcOk (X : Cx) (M : Mach) (elt tg iter : Expr) (ifs : List Expr) (scope : Scope) (own : List (Str × Nat)) (k : Ik) (src : Es) (t : Tg) (T0 : T) (A : E) : Prop where
  it : SI X M tg iter k src
  blk : BlkOk X.N X.env.scope scope own
  tg : ∀ (s : Shared) (H : Hp) (C : Addr) (cl : List (Str × Addr)) (fp : List Addr), SG (X.blk s H scope (compEnvC scope cl C X.env) fp) M tg t
  ts : ∀ (s : Shared) (H : Hp) (C : Addr) (cl : List (Str × Addr)) (fp : List Addr), PTs (X.blk s H scope (compEnvC scope cl C X.env) fp) ifs (tT X.K M T0)
  el : ∀ (s : Shared) (H : Hp) (C : Addr) (cl : List (Str × Addr)) (fp : List Addr), SE (X.blk s H scope (compEnvC scope cl C X.env) fp) M elt A
  pl : ∀ x, foldedSetIterable iter X.env x = pure x
  sub : ∀ j ∈ t.names, j ∈ own.map (·.2)
theorem se_lc (hc : X.calm = true) (hN : X.N.Nodup) (h : LcOk X M elt tg iter ifs scope own k src t T0 A) : SE X M (.ListComp elt [⟨tg, iter, ifs, 0⟩] scope pos) (.comp (own.map (·.2)) k src t T0 A) :=
  (pe_lc hc hN h.it h.blk h.tg h.ts h.el h.pl).imp fun _ _ _ q => lc_imp h.sub q
end
end Pu

set_option Elab.async false
set_option maxRecDepth 100000
set_option maxHeartbeats 2000000
namespace Pu
open PySem L2 RZ RT PyProof.Rows

/-! ### moving -/
section
variable {K : PySem.W.Frag} {io : Nat → Bool} {H H' H1 H2 : Hp} {P : Addr → Prop} {W : Addr → Prop} {σ σ' σ1 σ2 : L2.St} {ρ ρ' ρ1 ρ2 : Env} {O O' O1 O2 S S0 S1 S2 : List Addr} {vs us : List V} {rs qs : List R} {v w u : V} {r : R} {x : Val}
theorem mov_ok (nd : O.Nodup) (h : RE K H P σ ρ O) (r0 : RR K H P σ v r S0) (hd : ∀ b ∈ O, P b) (e : mov io ρ r = some (x, ρ')) (hio : ∀ i, r = .pk i → io i = false) :
    ∃ O' S', RE K H P σ ρ' O' ∧ RV H P v x S' ∧ (O' ++ S').Perm (O ++ S0) := by
  cases r0 with
  | v r0 => cases e; exact ⟨O, S0, h, r0, List.Perm.refl _⟩
  | @pk _ i q =>
    simp only [mov, hio i rfl] at e
    split at e
    · rename_i y g
      cases e
      unfold getS at g
      split at g
      · rename_i z eq
        cases g
        obtain ⟨A, S, B, o, e1, e2, r1, k⟩ := h.at eq
        rw [q] at e2; cases e2
        cases r1 with
        | lo r1 =>
          have k1 := k (some v) .un [] (.un _)
          have e3 : σ.set i (some v) = σ := by
            obtain ⟨h1, h2⟩ := List.getElem?_eq_some_iff.mp q
            rw [← h2, List.set_getElem_self]
          rw [e3] at k1
          refine ⟨_, S, k1, r1, ?_⟩
          rw [e1, List.nil_append, List.append_nil, List.append_assoc]
          exact List.Perm.append_left A List.perm_append_comm
      · cases g
    · cases e
  | rd q => cases e
theorem Post.mov (p : Post K H W O σ H' O' S [v] [r] ρ') (ok : Okk K H W σ ρ O) (e : Pu.mov io ρ' r = some (x, ρ1)) : ∃ O1 S1, Post K H W O σ H' O1 S1 [v] [.v x] ρ1 := by
  by_cases hio : ∃ i, r = .pk i ∧ io i = true
  · obtain ⟨i, rfl, hi⟩ := hio
    have e2 : Pu.esc ρ' (.pk i) = some (x, ρ1) := by
      simp only [Pu.mov, hi] at e
      simp only [Pu.esc]
      split at e
      · simpa using e
      · cases e
    obtain ⟨O1, q, _⟩ := p.esc ok e2
    exact ⟨O1, S, q⟩
  · have hio' : ∀ i, r = .pk i → io i = false := fun i ei => by
      cases q : io i with
      | false => rfl
      | true => exact absurd ⟨i, ei, q⟩ hio
    obtain ⟨O1, S1, re, rv, pm⟩ := mov_ok (List.nodup_append.mp p.nd).1 p.re p.rr.one (fun b z => .inr (.inl z)) e hio'
    have sub : ∀ b, b ∈ O1 ∨ b ∈ S1 → b ∈ O' ∨ b ∈ S := fun b z => List.mem_append.mp (pm.mem_iff.mp (List.mem_append.mpr z))
    have mono : ∀ b, Pp W O1 S1 b → Pp W O' S b := fun b z => z.elim .inl fun z => .inr (sub b z)
    refine ⟨O1, S1, p.keep, fun b z => p.new b (sub b z), re.fut (fut_same mono) fun _ _ _ e => e, ?_, pm.nodup_iff.mpr p.nd, fun b z => p.tr b (sub b z)⟩
    have : RRs K H' (Pp W O1 S1) σ [v] [.v x] (S1 ++ []) := .cons (.v (rv.fut (fut_same mono) fun _ _ _ e => e)) .nil
    rwa [List.append_nil] at this

/-! ### the ends of statements -/
structure StpV (K : PySem.W.Frag) (io : Nat → Bool) (H : Hp) (W : Addr → Prop) (O : List Addr) (σ : L2.St) (H' : Hp) (O' S : List Addr) (σ' : L2.St) (ρ' : Env) (u : V) (x : Val) : Prop where
  keep : ∀ b o, H b = some o → b ∉ O → H' b = some o
  new : ∀ b, b ∈ O' ∨ b ∈ S → b ∈ O ∨ H b = none
  hld : Hld K H' W σ' ρ' O' S u x
  io : ∀ j, io j = true → σ'[j]? = σ[j]?
  len : σ'.length = σ.length
theorem StpV.pre (p : Stp K io H W O σ H1 O1 σ1 ρ1) (q : StpV K io H1 W O1 σ1 H2 O2 S σ2 ρ2 u x) : StpV K io H W O σ H2 O2 S σ2 ρ2 u x := by
  refine ⟨fun b o e n => q.keep b o (p.keep b o e n) fun z => ?_, fun b h => ?_, q.hld, fun j h => (q.io j h).trans (p.io j h), q.len.trans p.len⟩
  · rcases p.new b z with z | z
    · exact n z
    · rw [z] at e; cases e
  · rcases q.new b h with z | z
    · exact p.new b z
    · by_cases hb : b ∈ O
      · exact .inl hb
      · cases e : H b with
        | none => exact .inr rfl
        | some o => rw [p.keep b o e hb] at z; cases z
def Fin (K : PySem.W.Frag) (io : Nat → Bool) (H : Hp) (W : Addr → Prop) (O : List Addr) (σ : L2.St) (D : Ends) : Out → Prop
  | .nx ρ' => ∀ H' O' σ', Stp K io H W O σ H' O' σ' ρ' → D.nx σ' H'
  | .bk ρ' => ∀ H' O' σ', Stp K io H W O σ H' O' σ' ρ' → D.bk σ' H'
  | .ct ρ' => ∀ H' O' σ', Stp K io H W O σ H' O' σ' ρ' → D.ct σ' H'
  | .rt x ρ' => ∀ H' O' S σ' u, StpV K io H W O σ H' O' S σ' ρ' u x → D.rt u H'
theorem Fin.pre {D : Ends} {o : Out} (p : Stp K io H W O σ H1 O1 σ1 ρ1) (f : Fin K io H W O σ D o) : Fin K io H1 W O1 σ1 D o := by
  cases o with
  | nx ρ' => exact fun H' O' σ' q => f H' O' σ' (p.trans q)
  | bk ρ' => exact fun H' O' σ' q => f H' O' σ' (p.trans q)
  | ct ρ' => exact fun H' O' σ' q => f H' O' σ' (p.trans q)
  | rt x ρ' => exact fun H' O' S σ' u q => f H' O' S σ' u (.pre p q)
end
def tS (K : PySem.W.Frag) (M : Mach) (a : S) : TS := fun D σ H => ∃ W ρ O o, Okk K H W σ ρ O ∧ exec M a ρ = some o ∧ Fin K M.io H W O σ D o

section
variable {X : Cx} {M : Mach} {st : Stmt} {sts : List Stmt} {e tg iter c : Expr} {A : E} {a b : S} {t : Tg} {T0 : T} {k : Ik} {src : Es} {pos py : Pos} {i : Nat} {D : Ends} {σ : L2.St} {H : Hp}
abbrev SS (X : Cx) (M : Mach) (st : Stmt) (a : S) : Prop := PS X st (tS X.K M a)
abbrev SSs (X : Cx) (M : Mach) (st : List Stmt) (a : S) : Prop := PSs X st (tS X.K M a)
theorem set_imp {K : PySem.W.Frag} (h : tS K M (.set i A) D σ H) : tAsg (tE K M A) (gName i) D σ H := by
  obtain ⟨W, ρ, O, o, ok, he, f⟩ := h
  unfold exec at he
  obtain ⟨⟨r, ρ1⟩, e1, he⟩ := Option.bind_eq_some_iff.mp he
  obtain ⟨⟨x, ρ2⟩, e2, he⟩ := Option.bind_eq_some_iff.mp he
  obtain ⟨ρ3, e3, rfl⟩ := Option.map_eq_some_iff.mp he
  refine ⟨W, ρ, O, r, ρ1, ok, e1, fun H1 O1 S1 v p => ?_⟩
  obtain ⟨O2, S2, q⟩ := p.mov ok e2
  obtain ⟨O3, s, _, _⟩ := asg_ok (q.hld ok) e3
  refine f H1 O3 _ ⟨fun b o e n => s.keep b o (q.keep b o e n) fun z => ?_, fun b z => ?_, s.ok, s.io, s.len⟩
  · rcases q.new b (List.mem_append.mp z) with z | z
    · exact n z
    · rw [z] at e; cases e
  · rcases s.new b z with z | z
    · exact q.new b (List.mem_append.mp z)
    · by_cases hb : b ∈ O
      · exact .inl hb
      · cases e : H b with
        | none => exact .inr rfl
        | some o => rw [q.keep b o e hb] at z; cases z
/-- name = e -/
theorem ss_set {y : Str} (hN : X.N.Nodup) (hi : X.N[i]? = some y) (hx : Loc X.env.scope y) (he : SE X M e A) (hs : swapsWith e (some (.Name y py)) pos.line X.env = pure false) (hf : X.fn y = true ∨ X.env.scope.names.lookup y = some .local) :
    SS X M (.Assign [.Name y py] e pos) (.set i A) := (ps_set hN hi hx he hs hf).imp fun _ _ _ h => set_imp h
/-- name = [..], one line, the name a local -/
theorem ss_setLc {elt : Expr} {ifs : List Expr} {scope : Scope} {own : List (Str × Nat)} {spos : Pos} {y : Str} (hc : X.calm = true) (hN : X.N.Nodup) (hi : X.N[i]? = some y) (hy : X.env.scope.names.lookup y = some .local)
    (hsw : swapsWith (.ListComp elt [⟨tg, iter, ifs, 0⟩] scope pos) (some (.Name y py)) spos.line X.env = pure true) (h : LcOk X M elt tg iter ifs scope own k src t T0 A) :
    SS X M (.Assign [.Name y py] (.ListComp elt [⟨tg, iter, ifs, 0⟩] scope pos) spos) (.set i (.comp (own.map (·.2)) k src t T0 A)) :=
  (ps_setLc hc hN hi hy hsw h.it h.blk h.tg h.ts h.el h.pl).imp fun _ _ _ q => lc_imp h.sub (set_imp q)
theorem stp_after {K : PySem.W.Frag} {io : Nat → Bool} {W : Addr → Prop} {ρ1 ρ2 : Env} {O O1 O2 S1 : List Addr} {H H1 H2 : Hp} {σ σ2 : L2.St} {vs : List V} {rs : List R} (q : Post K H W O σ H1 O1 S1 vs rs ρ1) (s : Stp K io H1 W (O1 ++ S1) σ H2 O2 σ2 ρ2) : Stp K io H W O σ H2 O2 σ2 ρ2 := by
  refine ⟨fun b o e n => s.keep b o (q.keep b o e n) fun z => ?_, fun b z => ?_, s.ok, s.io, s.len⟩
  · rcases q.new b (List.mem_append.mp z) with z | z
    · exact n z
    · rw [z] at e; cases e
  · rcases s.new b z with z | z
    · exact q.new b (List.mem_append.mp z)
    · by_cases hb : b ∈ O
      · exact .inl hb
      · cases e : H b with
        | none => exact .inr rfl
        | some o => rw [q.keep b o e hb] at z; cases z
/-- target = e, the value let go of by its names -/
theorem ss_unp (he : SE X M e A) (hg : SG X M tg t) (hs : swapsWithSole [tg] e pos.line X.env = pure false) (hw : swappedStores [tg] e X.env = pure none) (h1 : (assignEach [tg] X.env).map (·.2) = [assign tg X.env]) : SS X M (.Assign [tg] e pos) (.unp t A) := by
  refine (ps_asg he hg hs hw h1).imp fun D σ H ⟨W, ρ, O, o, ok, he, f⟩ => ?_
  unfold exec at he
  obtain ⟨⟨r, ρ1⟩, e1, he⟩ := Option.bind_eq_some_iff.mp he
  obtain ⟨⟨x, ρ2⟩, e2, he⟩ := Option.bind_eq_some_iff.mp he
  obtain ⟨ρ3, e3, rfl⟩ := Option.map_eq_some_iff.mp he
  refine ⟨W, ρ, O, r, ρ1, ok, e1, fun H1 O1 S1 v p => ?_⟩
  obtain ⟨O2, q, _⟩ := p.esc ok e2
  exact ⟨W, ρ2, O2, S1, x, ρ3, q.hld ok, e3, fun H2 O3 σ2 s _ => f _ _ _ (stp_after q s)⟩
theorem Post.stpv {K : PySem.W.Frag} {io : Nat → Bool} {W : Addr → Prop} {ρ ρ1 : Env} {O O1 S1 : List Addr} {H H1 : Hp} {σ : L2.St} {v : V} {x : Val} (q : Post K H W O σ H1 O1 S1 [v] [.v x] ρ1) (ok : Okk K H W σ ρ O) : StpV K io H W O σ H1 O1 S1 σ ρ1 v x :=
  ⟨q.keep, q.new, q.hld ok, fun _ _ => rfl, rfl⟩
theorem ss_ret (he : SE X M e A) : SS X M (.Return (some e) pos) (.ret A) := by
  refine (ps_ret he).imp fun D σ H ⟨W, ρ, O, o, ok, he, f⟩ => ?_
  unfold exec at he
  obtain ⟨⟨r, ρ1⟩, e1, he⟩ := Option.bind_eq_some_iff.mp he
  obtain ⟨⟨x, ρ2⟩, e2, rfl⟩ := Option.map_eq_some_iff.mp he
  refine ⟨W, ρ, O, r, ρ1, ok, e1, fun H1 O1 S1 v p => ?_⟩
  obtain ⟨O2, S2, q⟩ := p.mov ok e2
  exact f _ _ _ _ _ (q.stpv ok)
theorem ss_retN : SS X M (.Return none pos) .retN := by
  refine ps_retN.imp fun D σ H ⟨W, ρ, O, o, ok, he, f⟩ => ?_
  unfold exec at he
  cases he
  exact f H O [] σ .non (StpV.mk (fun _ _ e _ => e) (fun b h => h.elim .inl fun z => nomatch z) (ok.hld .non) (fun _ _ => rfl) rfl)
theorem ss_pass : SS X M (.Pass pos) .pass := by
  refine ps_pass.imp fun D σ H ⟨W, ρ, O, o, ok, he, f⟩ => ?_
  unfold exec at he
  cases he
  exact f H O σ (.refl ok)
theorem ss_brk : SS X M (.Break pos) .brk := by
  refine ps_break.imp fun D σ H ⟨W, ρ, O, o, ok, he, f⟩ => ?_
  unfold exec at he
  cases he
  exact f H O σ (.refl ok)
theorem ss_cont : SS X M (.Continue pos) .cont := by
  refine ps_continue.imp fun D σ H ⟨W, ρ, O, o, ok, he, f⟩ => ?_
  unfold exec at he
  cases he
  exact f H O σ (.refl ok)
theorem ss_doc {x : Str} {j : Nat} {pos' : Pos} : SS X M (.Expr (.Constant (.str x) j pos) pos') .pass := by
  refine ps_doc.imp fun D σ H ⟨W, ρ, O, o, ok, he, f⟩ => ?_
  unfold exec at he
  cases he
  exact f H O σ (.refl ok)
theorem ss_never : SS X M st .never := by
  refine ps_never.imp fun D σ H ⟨W, ρ, O, o, ok, he, f⟩ => ?_
  unfold exec at he
  cases he
theorem sss_never : SSs X M sts .never := by
  refine pss_never.imp fun D σ H ⟨W, ρ, O, o, ok, he, f⟩ => ?_
  unfold exec at he
  cases he
theorem ss_ex (he : SE X M e A) (hs : swapsWith e none pos.line X.env = pure false) : SS X M (.Expr e pos) (.ex A) := by
  refine (ps_expr he hs).imp fun D σ H ⟨W, ρ, O, o, ok, he, f⟩ => ?_
  unfold exec at he
  obtain ⟨⟨r, ρ1⟩, e1, rfl⟩ := Option.map_eq_some_iff.mp he
  exact ⟨W, ρ, O, r, ρ1, ok, e1, fun H1 O1 S1 v p => f _ _ _ (p.forget.stp ok)⟩
theorem ss_if {p q : List Stmt} (hc : ST X M c T0) (ha : SSs X M p a) (hb : SSs X M q b) : SS X M (.If c p q pos) (.ite T0 a b) := by
  refine (ps_if hc ha hb).imp fun D σ H ⟨W, ρ, O, o, ok, he, f⟩ => ?_
  unfold exec at he
  obtain ⟨⟨bb, ρ1⟩, e1, he⟩ := Option.bind_eq_some_iff.mp he
  refine ⟨W, ρ, O, bb, ρ1, ok, e1, fun H1 O1 p => ?_⟩
  have s := p.stp (io := M.io) ok
  cases bb with
  | true =>
    simp only [if_true]
    exact ⟨W, ρ1, O1, o, s.ok, he, f.pre s⟩
  | false =>
    simp only [Bool.false_eq_true, if_false]
    exact ⟨W, ρ1, O1, o, s.ok, he, f.pre s⟩
theorem sss_nil : SSs X M [] .pass := by
  refine pss_nil.imp fun D σ H ⟨W, ρ, O, o, ok, he, f⟩ => ?_
  unfold exec at he
  cases he
  exact f H O σ (.refl ok)
theorem sss_cons (h1 : SS X M st a) (h2 : SSs X M sts b) : SSs X M (st :: sts) (.seq a b) := by
  refine (pss_cons h1 h2).imp fun D σ H ⟨W, ρ, O, o, ok, he, f⟩ => ?_
  unfold exec at he
  obtain ⟨o1, e1, he⟩ := Option.bind_eq_some_iff.mp he
  refine ⟨W, ρ, O, o1, ok, e1, ?_⟩
  cases o1 with
  | nx ρ1 => exact fun H1 O1 σ1 s => ⟨W, ρ1, O1, o, s.ok, he, f.pre s⟩
  | bk _ => cases he; exact f
  | ct _ => cases he; exact f
  | rt _ _ => cases he; exact f
theorem sss_one (h1 : SS X M st a) : SSs X M [st] a := pss_one h1
/-! ### loops -/
theorem ss_while {body : List Stmt} (hp : PassesOwn (model X.prog X.w) X.A X.env X.xe) (hc : ST X M c T0) (hb : SSs X M body b) : SS X M (.While c body [] pos) (.whl T0 b) := by
  refine (ps_while hp hc hb).imp fun D σ0 H0 ⟨W, ρ, O, o, ok, he, f⟩ => ?_
  unfold exec at he
  refine ⟨fun m σ H => ∃ O1 ρ1, Stp X.K M.io H0 W O σ0 H O1 σ ρ1 ∧ whileL (evT M T0) (exec M b) m ρ1 = some o, ⟨turnsMost, O, ρ, .refl ok, he⟩, ?_⟩
  rintro m σ H ⟨O1, ρ1, s, hw⟩
  cases m with
  | zero => simp [whileL] at hw
  | succ m =>
    rw [whileL] at hw
    cases ht : evT M T0 ρ1 with
    | none => rw [ht] at hw; cases hw
    | some z =>
      obtain ⟨bb, ρ2⟩ := z
      rw [ht] at hw
      refine ⟨W, ρ1, O1, bb, ρ2, s.ok, ht, fun H2 O2 p => ?_⟩
      have s2 := s.trans (p.stp s.ok)
      cases bb with
      | false =>
        simp only at hw
        cases hw
        simp only [Bool.false_eq_true, if_false]
        exact f _ _ _ s2
      | true =>
        simp only at hw
        simp only [if_true]
        refine ⟨fun σ' H' => ∃ O3 ρ3, Stp X.K M.io H0 W O σ0 H' O3 σ' ρ3 ∧ whileL (evT M T0) (exec M b) m ρ3 = some o, fun σ' H' z => ⟨m, Nat.lt_succ_self m, z⟩, ?_⟩
        cases hx : exec M b ρ2 with
        | none => rw [hx] at hw; cases hw
        | some o2 =>
          rw [hx] at hw
          refine ⟨W, ρ2, O2, o2, s2.ok, hx, ?_⟩
          cases o2 with
          | nx ρ3 => exact fun H3 O3 σ3 s3 => ⟨O3, ρ3, s2.trans s3, hw⟩
          | ct ρ3 => exact fun H3 O3 σ3 s3 => ⟨O3, ρ3, s2.trans s3, hw⟩
          | bk ρ3 => cases hw; exact fun H3 O3 σ3 s3 => f _ _ _ (s2.trans s3)
          | rt v ρ3 => cases hw; exact fun H3 O3 S3 σ3 u s3 => f _ _ _ _ _ (.pre s2 s3)
theorem ss_for {body : List Stmt} (hp : PassesOwn (model X.prog X.w) X.A X.env X.xe) (hc : X.calm = true) (hi : SI X M tg iter k src) (hg : SG X M tg t) (hb : SSs X M body b) (hs : ∀ x, foldedSetIterable iter X.env x = pure x) :
    SS X M (.For tg iter body [] pos) (.for_ k src t b) := by
  refine (ps_for hp hc hi hg hb hs).imp fun D σ0 H0 ⟨W, ρ, O, o, ok, he, f⟩ => ?_
  unfold exec at he
  obtain ⟨p, e1, he⟩ := Option.bind_eq_some_iff.mp he
  obtain ⟨q, e2, he⟩ := Option.bind_eq_some_iff.mp he
  obtain ⟨xs, e3, he⟩ := Option.bind_eq_some_iff.mp he
  refine ⟨W, ρ, O, p, q, xs, ok, e1, e2, e3, fun J H1 O1 st wk => ?_⟩
  refine ⟨fun i m σ H => m = xs.length - i ∧ i ≤ xs.length ∧ ∃ O2 ρ2, Stp X.K M.io H1 W O1 σ0 H O2 σ ρ2 ∧ forL (fun x ρ' => asgT M t (.d x) ρ') (exec M b) (xs.drop i) ρ2 = some o, ⟨_, rfl, Nat.zero_le _, O1, q.2, .refl st.ok, he⟩, ?_⟩
  rintro i m σ H ⟨rfl, hi, O2, ρ2, s2, hf⟩
  have fut : Fut H1 (Pp W O1 []) H (Pp W O2 []) := fun b o e n => by
    have n1 : b ∉ O1 := fun z => n (.inr (.inl z))
    refine ⟨s2.keep b o e n1, fun z => ?_⟩
    rcases z with z | z | z
    · exact n (.inl z)
    · rcases s2.new b z with z | z
      · exact n1 z
      · rw [z] at e; cases e
    · exact nomatch z
  have hP : ∀ a, Pp W O2 [] a → H a ≠ none := fun a z => by
    rcases z with z | z | z
    · exact (s2.ok.w a z).2
    · exact s2.ok.tr a z
    · exact nomatch z
  by_cases hlt : i < xs.length
  · right
    have ex : xs[i]? = some xs[i] := List.getElem?_eq_getElem hlt
    rw [List.drop_eq_getElem_cons hlt] at hf
    obtain ⟨go, yld⟩ := (wk H _ fut hP i).1 _ ex
    refine ⟨go, fun σ' H' => ∃ O3 ρ3, Stp X.K M.io H1 W O1 σ0 H' O3 σ' ρ3 ∧ forL (fun x ρ' => asgT M t (.d x) ρ') (exec M b) (xs.drop (i + 1)) ρ3 = some o, fun σ' H' z => ⟨xs.length - (i + 1), by omega, rfl, hlt, z⟩, fun v H2 y => ?_⟩
    obtain ⟨gr, rd⟩ := yld v H2 y
    have g2 := Stp.grow (io := M.io) s2.ok gr
    rw [forL] at hf
    cases h1 : asgT M t (.d xs[i]) ρ2 with
    | none => rw [h1] at hf; cases hf
    | some ρ3 =>
      rw [h1] at hf
      refine ⟨W, ρ2, O2, [], .d xs[i], ρ3, g2.ok.hld rd, h1, fun H3 O3 σ3 s3 _ => ?_⟩
      rw [List.append_nil] at s3
      have s4 := (s2.trans g2).trans s3
      cases hx : exec M b ρ3 with
      | none => simp only [hx] at hf; cases hf
      | some o2 =>
        simp only [hx] at hf
        refine ⟨W, ρ3, O3, o2, s3.ok, hx, ?_⟩
        cases o2 with
        | nx ρ4 => exact fun H5 O5 σ5 s5 => ⟨O5, ρ4, s4.trans s5, hf⟩
        | ct ρ4 => exact fun H5 O5 σ5 s5 => ⟨O5, ρ4, s4.trans s5, hf⟩
        | bk ρ4 => cases hf; exact fun H5 O5 σ5 s5 => f _ _ _ (st.trans (s4.trans s5))
        | rt x ρ4 => cases hf; exact fun H5 O5 S5 σ5 u s5 => f _ _ _ _ _ (.pre (st.trans s4) s5)
  · left
    refine ⟨(wk H _ fut hP i).2 (by omega), ?_⟩
    rw [List.drop_eq_nil_of_le (by omega)] at hf
    cases hf
    exact f _ _ _ (st.trans s2)
end
end Pu

set_option Elab.async false
set_option maxRecDepth 100000
set_option maxHeartbeats 2000000
namespace Pu
open PySem L2 RZ RT PyProof.Rows

/-! ### handing over -/
inductive OutsOk (σ : L2.St) : List (Option Nat) → List (Option V) → Prop
  | nil : OutsOk σ [] []
  | no {o : Option V} {os : List (Option Nat)} {vs : List (Option V)} : OutsOk σ os vs → OutsOk σ (none :: os) (o :: vs)
  | so {i : Nat} {v : V} {os : List (Option Nat)} {vs : List (Option V)} : σ[i]? = some (some v) → OutsOk σ os vs → OutsOk σ (some i :: os) (some v :: vs)
section
variable {K : PySem.W.Frag} {io : Nat → Bool} {H H' H1 H2 : Hp} {P P' : Addr → Prop} {W : Addr → Prop} {σ σ' σ1 σ2 : L2.St} {ρ ρ' ρ1 ρ2 : Env} {O O' O1 O2 S S0 S1 S2 T Q : List Addr} {vs us : List V} {rs qs : List R} {v w u : V} {r : R} {x : Val} {s : Slot} {o : Option Nat} {fl : Bool}
theorem RS.mono {ov : Option V} (h : RS K H P ov s S) (k : ∀ b, P' b → P b) : RS K H P' ov s S := h.fut (fut_same k) fun _ _ _ e => e
theorem RE.mono (h : RE K H P σ ρ O) (k : ∀ b, P' b → P b) : RE K H P' σ ρ O := h.fut (fut_same k) fun _ _ _ e => e
theorem RRs.mono (h : RRs K H P σ vs rs S) (k : ∀ b, P' b → P b) : RRs K H P' σ vs rs S := h.fut (fut_same k) fun _ _ _ e => e
theorem hand_ok (nd : (O ++ S).Nodup) (nw : ∀ b ∈ O, ¬ W b) (h : RE K H (Pp W O S) σ ρ O) (r0 : RR K H (Pp W O S) σ v r S0) (e : hand ρ fl r = some (s, o, ρ')) :
    ∃ O' T, RE K H (Pp W O' (S ++ T)) σ ρ' O' ∧ RS K H (Pp W O' (S ++ T)) (some v) s (S0 ++ T) ∧ (O' ++ (S ++ T)).Nodup ∧ (∀ b, b ∈ O' ∨ b ∈ T → b ∈ O) ∧ (o = none → T = []) ∧ ∀ os τ, OutsOk σ os τ → OutsOk σ (o :: os) (some v :: τ) := by
  have sm : ∀ b, Pp W O (S ++ []) b → Pp W O S b := fun b z => by rwa [List.append_nil] at z
  cases r0 with
  | v r0 =>
    cases e
    refine ⟨O, [], h.mono sm, .lo ((?_ : RV H (Pp W O (S ++ [])) v _ (S0 ++ []))), by rwa [List.append_nil], fun b z => z.elim id fun z => (nomatch z), fun _ => rfl, fun os τ z => .no z⟩
    rw [List.append_nil S0]; exact r0.mono sm
  | rd q =>
    cases e
    exact ⟨O, [], h.mono sm, .rd (q.fut (fut_same sm)), by rwa [List.append_nil], fun b z => z.elim id fun z => (nomatch z), fun _ => rfl, fun os τ z => .no z⟩
  | @pk _ i q =>
    simp only [hand] at e
    split at e
    case h_2 => cases e
    rename_i y g
    cases fl with
    | true =>
      cases e
      unfold getS at g
      split at g
      case h_2 => cases g
      rename_i z eq
      cases g
      obtain ⟨A, Si, B, ov, e1, e2, r1, k⟩ := h.at eq
      rw [q] at e2; cases e2
      cases r1 with
      | lo r1 =>
        have k1 := k (some v) .un [] (.un _)
        have e3 : σ.set i (some v) = σ := by
          obtain ⟨h1, h2⟩ := List.getElem?_eq_some_iff.mp q
          rw [← h2, List.set_getElem_self]
        rw [e3] at k1
        have mem : ∀ b, b ∈ A ++ ([] ++ B) ∨ b ∈ Si → b ∈ O := fun b z => by
          rw [e1]
          rcases z with z | z
          · rcases List.mem_append.mp z with z | z
            · exact List.mem_append_left _ z
            · exact List.mem_append_right _ (List.mem_append_right _ z)
          · exact List.mem_append_right _ (List.mem_append_left _ z)
        have mono : ∀ b, Pp W (A ++ ([] ++ B)) (S ++ Si) b → Pp W O S b := fun b z => by
          rcases z with z | z | z
          · exact .inl z
          · exact .inr (.inl (mem b (.inl z)))
          · rcases List.mem_append.mp z with z | z
            · exact .inr (.inr z)
            · exact .inr (.inl (mem b (.inr z)))
        refine ⟨_, Si, k1.mono mono, .lo (r1.mono mono), ?_, mem, fun z => (nomatch z), fun os τ z => .so q z⟩
        have pm : (A ++ ([] ++ B) ++ (S ++ Si)).Perm (O ++ S) := by
          rw [e1, List.nil_append]
          calc (A ++ B ++ (S ++ Si)).Perm (A ++ B ++ (Si ++ S)) := List.Perm.append_left _ List.perm_append_comm
            _ = A ++ ((B ++ Si) ++ S) := by simp [List.append_assoc]
            List.Perm _ (A ++ ((Si ++ B) ++ S)) := List.Perm.append_left _ (List.Perm.append_right _ List.perm_append_comm)
            _ = A ++ (Si ++ B) ++ S := by simp [List.append_assoc]
        exact pm.nodup_iff.mpr nd
    | false =>
      cases e
      obtain ⟨O', u, s1, eu, r1, r2⟩ := freeze_ok nd nw h g
      rw [q] at eu; cases eu
      have sm' : ∀ b, Pp W O' (S ++ []) b → Pp W O' S b := fun b z => by rwa [List.append_nil] at z
      exact ⟨O', [], r1.mono sm', .lo (.d (r2.fut (fut_same sm'))), by rw [List.append_nil]; exact nodup_sub s1 nd, fun b z => z.elim (fun z => s1.subset z) fun z => (nomatch z), fun _ => rfl, fun os τ z => .no z⟩
theorem handAll_ok : ∀ {rs : List R} {fls : List Bool} {vs : List V} {S0 S : List Addr} {ρ ρ' : Env} {O : List Addr} {p : Handed}, (O ++ S).Nodup → (∀ b ∈ O, ¬ W b) → RE K H (Pp W O S) σ ρ O → RRs K H (Pp W O S) σ vs rs S0 → handAll ρ fls rs = some (p, ρ') →
    ∃ O' T Q, RE K H (Pp W O' (S ++ T)) σ ρ' O' ∧ RE K H (Pp W O' (S ++ T)) (vs.map some) p.args Q ∧ Q.Perm (S0 ++ T) ∧ (O' ++ (S ++ T)).Nodup ∧ (∀ b, b ∈ O' ∨ b ∈ T → b ∈ O) ∧ (p.out.all Option.isNone = true → T = []) ∧ OutsOk σ p.out (vs.map some)
  | [], fls, _, _, S, ρ, ρ', O, p, nd, nw, h, r0, e => by
    cases r0
    have e' : ((⟨[], []⟩ : Handed), ρ) = (p, ρ') := by cases fls <;> exact Option.some.inj e
    cases e'
    exact ⟨O, [], [], h.mono fun b z => by rwa [List.append_nil] at z, .nil, List.Perm.refl _, by rwa [List.append_nil], fun b z => z.elim id fun z => (nomatch z), fun _ => rfl, .nil⟩
  | r :: rs, [], _, _, S, ρ, _, O, p, nd, nw, h, r0, e => by cases e
  | r :: rs, fl :: fls, _, _, S, ρ, _, O, p, nd, nw, h, r0, e => by
    cases r0 with
    | @cons v vs _ _ Sa Sb r1 r2 =>
      simp only [handAll] at e
      obtain ⟨⟨s, o, ρ1⟩, e1, e⟩ := Option.bind_eq_some_iff.mp e
      obtain ⟨⟨q, ρ2⟩, e2, e3⟩ := Option.map_eq_some_iff.mp e
      cases e3
      obtain ⟨O1, T1, h1, a1, nd1, m1, z1, o1⟩ := hand_ok nd nw h r1 e1
      have mono1 : ∀ b, Pp W O1 (S ++ T1) b → Pp W O S b := fun b z => by
        rcases z with z | z | z
        · exact .inl z
        · exact .inr (.inl (m1 b (.inl z)))
        · rcases List.mem_append.mp z with z | z
          · exact .inr (.inr z)
          · exact .inr (.inl (m1 b (.inr z)))
      obtain ⟨O2, T2, Q2, h2, a2, pm2, nd2, m2, z2, o2⟩ := handAll_ok nd1 (fun b hb => nw b (m1 b (.inl hb))) h1 (r2.mono mono1) e2
      have mono2 : ∀ b, Pp W O2 (S ++ T1 ++ T2) b → Pp W O1 (S ++ T1) b := fun b z => by
        rcases z with z | z | z
        · exact .inl z
        · exact .inr (.inl (m2 b (.inl z)))
        · rcases List.mem_append.mp z with z | z
          · exact .inr (.inr z)
          · exact .inr (.inl (m2 b (.inr z)))
      refine ⟨O2, T1 ++ T2, (Sa ++ T1) ++ Q2, ?_, ?_, ?_, ?_, fun b z => ?_, fun hz => ?_, o1 _ _ o2⟩
      · rw [← List.append_assoc]; exact h2
      · rw [← List.append_assoc]; exact .cons (a1.mono mono2) a2
      · calc (Sa ++ T1 ++ Q2).Perm (Sa ++ T1 ++ (Sb ++ T2)) := List.Perm.append_left _ pm2
          _ = Sa ++ ((T1 ++ Sb) ++ T2) := by simp [List.append_assoc]
          List.Perm _ (Sa ++ ((Sb ++ T1) ++ T2)) := List.Perm.append_left _ (List.Perm.append_right _ List.perm_append_comm)
          _ = Sa ++ Sb ++ (T1 ++ T2) := by simp [List.append_assoc]
      · rw [← List.append_assoc S]; exact nd2
      · rcases z with z | z
        · exact m1 b (.inl (m2 b (.inl z)))
        · rcases List.mem_append.mp z with z | z
          · exact m1 b (.inr z)
          · exact m1 b (.inl (m2 b (.inr z)))
      · simp only [List.all_cons, Bool.and_eq_true] at hz
        rw [z1 (by simpa using hz.1), z2 hz.2]; rfl
/-- behind the call: what was handed out comes in again. τ: the parameters' places, unchanged where they were handed out -/
theorem back_ok : ∀ {os : List (Option Nat)} {ss : List Slot} {τ τ0 : List (Option V)} {T : List Addr} {ρ ρ' : Env} {O : List Addr}, RE K H P σ ρ O → RE K H P τ ss T → OutsOk σ os τ0 → (∀ (j i : Nat), os[j]? = some (some i) → τ[j]? = τ0[j]?) → back ρ os ss = some ρ' → (O ++ T).Nodup →
    ∃ O', RE K H P σ ρ' O' ∧ O'.Nodup ∧ ∀ b ∈ O', b ∈ O ∨ b ∈ T
  | [], [], τ, τ0, T, ρ, _, O, h, hs, ho, hj, e, nd => by
    cases hs; cases e
    exact ⟨O, h, by simpa using nd, fun b hb => .inl hb⟩
  | [], _ :: _, τ, τ0, T, ρ, _, O, h, hs, ho, hj, e, nd => by cases e
  | none :: os, [], τ, τ0, T, ρ, _, O, h, hs, ho, hj, e, nd => by cases e
  | some i :: os, [], τ, τ0, T, ρ, _, O, h, hs, ho, hj, e, nd => by cases e
  | none :: os, s :: ss, τ, τ0, T, ρ, ρ', O, h, hs, ho, hj, e, nd => by
    cases hs with
    | @cons ov τ _ _ Sa Sb h1 h2 =>
      cases ho with
      | no ho =>
        have e' : back ρ os ss = some ρ' := by cases s <;> exact e
        obtain ⟨O', r, n, m⟩ := back_ok h h2 ho (fun j i q => by simpa using hj (j + 1) i (by simpa using q)) e' (nd.sublist (List.Sublist.append (List.Sublist.refl _) (List.sublist_append_right ..)))
        exact ⟨O', r, n, fun b hb => (m b hb).imp id fun z => List.mem_append_right _ z⟩
  | some i :: os, s :: ss, τ, τ0, T, ρ, _, O, h, hs, ho, hj, e, nd => by
    cases hs with
    | @cons ov τ _ _ Sa Sb h1 h2 =>
      cases ho with
      | @so _ v _ _ hv ho =>
        have e0 : ov = some v := by
          have := hj 0 i rfl
          simpa using this
        cases s with
        | un => cases e
        | rd _ => cases e
        | lo x =>
          have e' : back (ρ.set i (.lo x)) os ss = some _ := e
          have hi : i < ρ.length := by
            rw [← h.length]
            exact (List.getElem?_eq_some_iff.mp hv).1
          obtain ⟨A, S1, B, o2, e1, e2, r1, k⟩ := h.at (List.getElem?_eq_getElem hi)
          rw [hv] at e2; cases e2
          rw [e0] at h1
          have k1 := k (some v) (.lo x) Sa h1
          have e3 : σ.set i (some v) = σ := by
            obtain ⟨h1, h2⟩ := List.getElem?_eq_some_iff.mp hv
            rw [← h2, List.set_getElem_self]
          rw [e3] at k1
          have nd' : (A ++ (Sa ++ B) ++ Sb).Nodup := by
            have pm : (A ++ (S1 ++ B) ++ (Sa ++ Sb)).Perm (S1 ++ (A ++ (Sa ++ B) ++ Sb)) := by
              calc (A ++ (S1 ++ B) ++ (Sa ++ Sb)) = (A ++ S1) ++ ((B ++ Sa) ++ Sb) := by simp [List.append_assoc]
                List.Perm _ ((S1 ++ A) ++ ((Sa ++ B) ++ Sb)) := List.Perm.append List.perm_append_comm (List.Perm.append_right _ List.perm_append_comm)
                _ = S1 ++ (A ++ (Sa ++ B) ++ Sb) := by simp [List.append_assoc]
            rw [e1] at nd
            exact (List.nodup_append.mp (pm.nodup_iff.mp nd)).2.1
          obtain ⟨O', r, n, m⟩ := back_ok k1 h2 ho (fun j i q => by simpa using hj (j + 1) i (by simpa using q)) e' nd'
          refine ⟨O', r, n, fun b hb => ?_⟩
          rcases m b hb with z | z
          · rcases List.mem_append.mp z with z | z
            · exact .inl (by rw [e1]; exact List.mem_append_left _ z)
            · rcases List.mem_append.mp z with z | z
              · exact .inr (List.mem_append_left _ z)
              · exact .inl (by rw [e1]; exact List.mem_append_right _ (List.mem_append_right _ z))
          · exact .inr (List.mem_append_right _ z)

/-! ### a call, as the caller sees it -/
structure CallV (K : PySem.W.Frag) (fls : List Bool) (H : Hp) (W : Addr → Prop) (O : List Addr) (vs : List V) (H' : Hp) (O' S : List Addr) (τ : List (Option V)) (u : V) (x : Val) (outs : List Slot) : Prop where
  keep : ∀ b o, H b = some o → b ∉ O → H' b = some o
  new : ∀ b, b ∈ O' ∨ b ∈ S → b ∈ O ∨ H b = none
  rv : RV H' (Pp W O' S) u x S
  re : RE K H' (Pp W O' S) τ outs O'
  nd : (O' ++ S).Nodup
  tr : ∀ b, b ∈ O' ∨ b ∈ S → H' b ≠ none
  io : ∀ j : Nat, fls.getD j false = true → τ[j]? = (vs.map some)[j]?
/-- what is promised of a function -/
def spF (K : PySem.W.Frag) (C : Oracle) (fl : Nat → List Bool) (np : Nat) (f : Nat) (vs : List V) (H : Hp) (Q : VK) : Prop :=
  vs.length = np ∧ ∃ W args O x outs, Okk K H W (vs.map some) args O ∧ C f args = some (x, outs) ∧ ∀ H' O' S τ u, CallV K (fl f) H W O vs H' O' S τ u x outs → Q u H'
theorem handAll_flags : ∀ {rs : List R} {fls : List Bool} {ρ ρ' : Env} {p : Handed}, handAll ρ fls rs = some (p, ρ') → ∀ j i : Nat, p.out[j]? = some (some i) → fls.getD j false = true
  | [], fls, ρ, ρ', p, e, j, i, h => by
    have e' : ((⟨[], []⟩ : Handed), ρ) = (p, ρ') := by cases fls <;> exact Option.some.inj e
    cases e'
    simp at h
  | r :: rs, [], ρ, ρ', p, e, j, i, h => by cases e
  | r :: rs, fl :: fls, ρ, ρ', p, e, j, i, h => by
    simp only [handAll] at e
    obtain ⟨⟨s, o, ρ1⟩, e1, e⟩ := Option.bind_eq_some_iff.mp e
    obtain ⟨⟨q, ρ2⟩, e2, e3⟩ := Option.map_eq_some_iff.mp e
    cases e3
    cases j with
    | succ j => simpa using handAll_flags e2 j i (by simpa using h)
    | zero =>
      obtain rfl : o = some i := by simpa using h
      cases r with
      | v x => cases e1
      | rd x => cases e1
      | pk k =>
        simp only [hand] at e1
        split at e1
        · cases fl with
          | true => rfl
          | false => cases e1
        · cases e1
theorem RDs.rrs {ds : List D} (h : RDs H P us ds) : RRs K H P σ us (ds.map fun x => R.v (.d x)) [] := by
  induction ds generalizing us with
  | nil => cases h; exact .nil
  | cons d ds ih =>
    cases h with
    | cons h1 h2 => exact RRs.cons (S := []) (T := []) (.v (.d h1)) (ih h2)
theorem call_core {fl : Nat → List Bool} {C : Oracle} {f np : Nat} {vs0 : List V} {rs0 : List R} {r : R} {Qk : VK} (ok : Okk K H W σ ρ O) (p : Post K H W O σ H1 O1 S vs0 rs0 ρ1) (rr : RRs K H1 (Pp W O1 S) σ vs rs S) (hlen : vs.length = np) (he : callR fl C f rs ρ1 = some (r, ρ'))
    (kk : ∀ H' O' S' v, Post K H W O σ H' O' S' [v] [r] ρ' → Qk v H') : spF K C fl np f vs H1 Qk := by
  unfold callR at he
  obtain ⟨⟨q, ρ2⟩, e2, he⟩ := Option.bind_eq_some_iff.mp he
  obtain ⟨⟨x, outs⟩, e3, he⟩ := Option.bind_eq_some_iff.mp he
  simp only at e2 e3 he
  obtain ⟨O2, T, Qs, h2, a2, pm, nd, mem, zT, oo⟩ := handAll_ok p.nd (p.nw ok) p.re rr e2
  have ok1 := p.ok ok
  have memQ : ∀ b, b ∈ Qs ↔ b ∈ S ∨ b ∈ T := fun b => by rw [pm.mem_iff, List.mem_append]
  have WS : ∀ b, W b → b ∉ O1 ∧ b ∉ S := fun b z => (p.wkeep ok z).1
  have okc : Okk K H1 (fun a => W a ∨ a ∈ O2) (vs.map some) q.args Qs := by
    refine ⟨a2.mono fun b z => ?_, ?_, fun a z => ?_, fun a z => ?_⟩
    · rcases z with (z | z) | z | z
      · exact .inl z
      · exact .inr (.inl z)
      · exact .inr (.inr (List.mem_append.mpr ((memQ b).mp z)))
      · exact nomatch z
    · exact pm.nodup_iff.mpr (List.nodup_append.mp nd).2.1
    · rcases z with z | z
      · refine ⟨fun w => ?_, (p.wkeep ok z).2⟩
        rcases (memQ a).mp w with w | w
        · exact (WS a z).2 w
        · exact (WS a z).1 (mem a (.inr w))
      · refine ⟨fun w => ?_, p.tr a (.inl (mem a (.inl z)))⟩
        exact (List.nodup_append.mp nd).2.2 a z a (List.mem_append.mpr ((memQ a).mp w)) rfl
    · rcases (memQ a).mp z with z | z
      · exact p.tr a (.inr z)
      · exact p.tr a (.inl (mem a (.inr z)))
  refine ⟨hlen, _, q.args, Qs, x, outs, okc, e3, fun H3 O3 S3 τ u c => ?_⟩
  have old : ∀ b, b ∈ Qs ∨ H1 b = none → b ∈ O ∨ H b = none := fun b z => by
    rcases z with z | z
    · rcases (memQ b).mp z with z | z
      · exact p.new b (.inr z)
      · exact p.new b (.inl (mem b (.inr z)))
    · by_cases hb : b ∈ O
      · exact .inl hb
      · cases e : H b with
        | none => exact .inr rfl
        | some o => rw [p.keep b o e hb] at z; cases z
  have keep0 : ∀ b o, H b = some o → b ∉ O → H3 b = some o := fun b o e n => c.keep b o (p.keep b o e n) fun z => by
    rcases old b (.inl z) with z | z
    · exact n z
    · rw [z] at e; cases e
  split at he
  · -- nothing kept
    rename_i hat
    cases he
    rw [Bool.and_eq_true] at hat
    have S3n : S3 = [] ∧ ∀ P, RV H3 P u x [] := by
      have rv := c.rv
      cases rv with
      | ol _ _ => simp [Val.atom] at hat
      | @d _ y rd =>
        refine ⟨rfl, fun P => .d ?_⟩
        have ha : y.atom = true := hat.1
        cases rd with
        | non => exact .non
        | bl b => exact .bl b
        | int i => exact .int i
        | str s h1 h2 => exact .str s h1 h2
        | lst _ _ _ => simp [D.atom] at ha
        | tup _ _ _ => simp [D.atom] at ha
    obtain ⟨rfl, rv3⟩ := S3n
    have T0 : T = [] := zT hat.2
    subst T0
    have QS : ∀ b, b ∈ Qs → b ∈ S := fun b z => ((memQ b).mp z).elim id fun z => nomatch z
    have O1Q : ∀ b, b ∈ O1 → b ∉ Qs := fun b hb z => (List.nodup_append.mp p.nd).2.2 b hb b (QS b z) rfl
    have fut : Fut H1 (Pp W O1 S) H3 (Pp W O1 []) := fun b o e n => by
      refine ⟨c.keep b o e fun z => n (.inr (.inr (QS b z))), fun z => ?_⟩
      rcases z with z | z | z
      · exact n (.inl z)
      · exact n (.inr (.inl z))
      · exact nomatch z
    refine kk H3 O1 [] u ⟨keep0, fun b z => ?_, p.re.fut fut fun b hb o e => c.keep b o e (O1Q b hb), ?_, ?_, fun b z => ?_⟩
    · exact z.elim (fun z => p.new b (.inl z)) fun z => nomatch z
    · exact RRs.cons (S := []) (T := []) (.v (rv3 _)) .nil
    · rw [List.append_nil]; exact (List.nodup_append.mp p.nd).1
    · rcases z with z | z
      · obtain ⟨o, e⟩ := some_of_ne (p.tr b (.inl z))
        rw [c.keep b o e (O1Q b z)]; exact fun z => nomatch z
      · exact nomatch z
  · obtain ⟨ρ3, e4, e5⟩ := Option.map_eq_some_iff.mp he
    cases e5
    have fut : Fut H1 (Pp W O2 (S ++ T)) H3 (Pp (fun a => W a ∨ a ∈ O2) O3 S3) := fun b o e n => by
      have nQ : b ∉ Qs := fun z => n (.inr (.inr (List.mem_append.mpr ((memQ b).mp z))))
      refine ⟨c.keep b o e nQ, fun z => ?_⟩
      rcases z with (z | z) | z
      · exact n (.inl z)
      · exact n (.inr (.inl z))
      · rcases c.new b z with z | z
        · exact nQ z
        · rw [z] at e; cases e
    have O2Q : ∀ b, b ∈ O2 → b ∉ Qs := fun b hb z => (List.nodup_append.mp nd).2.2 b hb b (List.mem_append.mpr ((memQ b).mp z)) rfl
    have O2t : ∀ b, b ∈ O2 → H1 b ≠ none := fun b hb => p.tr b (.inl (mem b (.inl hb)))
    have re3 : RE K H3 (Pp (fun a => W a ∨ a ∈ O2) O3 S3) σ ρ2 O2 := h2.fut fut fun b hb o e => c.keep b o e (O2Q b hb)
    have nOS : ∀ b, b ∈ O3 ∨ b ∈ S3 → b ∉ O2 := fun b hb z => by
      rcases c.new b hb with w | w
      · exact O2Q b z w
      · exact O2t b z w
    have nd3 : (O2 ++ O3).Nodup := List.nodup_append.mpr ⟨(List.nodup_append.mp nd).1, (List.nodup_append.mp c.nd).1, fun a ha b hb e => by subst e; exact nOS a (.inl hb) ha⟩
    obtain ⟨O4, r4, n4, m4⟩ := back_ok re3 c.re oo (fun j i hj => c.io j (handAll_flags e2 j i hj)) e4 nd3
    have mono4 : ∀ b, Pp W O4 S3 b → Pp (fun a => W a ∨ a ∈ O2) O3 S3 b := fun b z => by
      rcases z with z | z | z
      · exact .inl (.inl z)
      · rcases m4 b z with z | z
        · exact .inl (.inr z)
        · exact .inr (.inl z)
      · exact .inr (.inr z)
    have O2p : ∀ b, b ∈ O2 → b ∈ O ∨ H b = none := fun b hb => p.new b (.inl (mem b (.inl hb)))
    refine kk H3 O4 S3 u ⟨keep0, fun b z => ?_, r4.mono mono4, ?_, ?_, fun b z => ?_⟩
    · rcases z with z | z
      · rcases m4 b z with z | z
        · exact O2p b z
        · exact old b (c.new b (.inl z))
      · exact old b (c.new b (.inr z))
    · have : RRs K H3 (Pp W O4 S3) σ [u] [R.v x] (S3 ++ []) := .cons (.v (c.rv.fut (fut_same mono4) fun _ _ _ e => e)) .nil
      rwa [List.append_nil] at this
    · refine List.nodup_append.mpr ⟨n4, (List.nodup_append.mp c.nd).2.1, fun a ha b hb e => ?_⟩
      subst e
      rcases m4 a ha with z | z
      · exact nOS a (.inr hb) z
      · exact (List.nodup_append.mp c.nd).2.2 a z a hb rfl
    · rcases z with z | z
      · rcases m4 b z with z | z
        · obtain ⟨o, e⟩ := some_of_ne (O2t b z)
          rw [c.keep b o e (O2Q b z)]; exact fun z => nomatch z
        · exact c.tr b (.inl z)
      · exact c.tr b (.inr z)
theorem evs_len {M : Mach} : ∀ {as : Es} {ρ : Env} {z : List R × Env}, evs M as ρ = some z → z.1.length = as.len
  | .nil, ρ, z, e => by unfold evs at e; cases e; rfl
  | .cons a as, ρ, z, e => by
    unfold evs at e
    obtain ⟨⟨r1, ρ1⟩, e1, e⟩ := Option.bind_eq_some_iff.mp e
    obtain ⟨⟨rs, ρ2⟩, e2, e3⟩ := Option.map_eq_some_iff.mp e
    cases e3
    show rs.length + 1 = _
    rw [show rs.length = as.len from evs_len e2]; rfl
theorem call_imp {M : Mach} {f np : Nat} {as : Es} {dfl : List D} {dvs : List V} {Qk : VK} (hd : ∀ H P, RDs H P dvs dfl) (hl : as.len + dfl.length = np) (h : tE K M (.call f as dfl) σ H Qk) :
    tEs K M as σ H fun vs H1 => spF K M.C M.fl np f (vs ++ dvs) H1 Qk := by
  obtain ⟨W, ρ, O, r, ρ', ok, he, kk⟩ := h
  unfold ev at he
  obtain ⟨⟨rs, ρ1⟩, e1, he⟩ := Option.bind_eq_some_iff.mp he
  refine ⟨W, ρ, O, rs, ρ1, ok, e1, fun H1 O1 S vs p => ?_⟩
  have rr : RRs K H1 (Pp W O1 S) σ (vs ++ dvs) (rs ++ dfl.map fun x => R.v (.d x)) (S ++ []) := p.rr.append (hd _ _).rrs
  rw [List.append_nil] at rr
  have l1 : rs.length = as.len := evs_len e1
  exact call_core ok p rr (by rw [List.length_append, p.rr.len, (hd H1 (Pp W O1 S)).length, l1]; exact hl) he kk
theorem pickL_len {α β : Type} {xs : List α} {ys : List β} (h : xs.length = ys.length) : ∀ perm : List Nat, (pickL perm xs).length = (pickL perm ys).length
  | [] => rfl
  | k :: perm => by
    unfold pickL
    rw [List.filterMap_cons, List.filterMap_cons]
    have ih := pickL_len h perm
    unfold pickL at ih
    by_cases hk : k < xs.length
    · rw [List.getElem?_eq_getElem hk, List.getElem?_eq_getElem (h ▸ hk)]
      simp only [List.length_cons, ih]
    · rw [List.getElem?_eq_none (by omega), List.getElem?_eq_none (by omega)]
      exact ih
theorem RRs.get : ∀ {rs : List R} {vs : List V} {S : List Addr}, RRs K H P σ vs rs S → rs.all notOl = true → S = [] ∧ ∀ (k : Nat) (r : R), rs[k]? = some r → ∃ v, vs[k]? = some v ∧ RR K H P σ v r []
  | [], _, _, h, _ => by cases h; exact ⟨rfl, fun k r e => by simp at e⟩
  | r :: rs, _, _, h, ha => by
    cases h with
    | cons h1 h2 =>
      simp only [List.all_cons, Bool.and_eq_true] at ha
      obtain ⟨rfl, g⟩ := RRs.get h2 ha.2
      have z : ∀ {S1 : List Addr} {v : V}, RR K H P σ v r S1 → S1 = [] := fun {S1 v} q => by
        cases q with
        | v q =>
          cases q with
          | d _ => rfl
          | ol _ _ => cases ha.1
        | pk _ => rfl
        | rd _ => rfl
      obtain rfl := z h1
      refine ⟨rfl, fun k r' e => ?_⟩
      cases k with
      | zero =>
        obtain rfl : r = r' := by simpa using e
        exact ⟨_, rfl, h1⟩
      | succ k => exact g k r' (by simpa using e)
theorem RRs.pick (h : RRs K H P σ vs rs S) (ha : rs.all notOl = true) : ∀ perm : List Nat, S = [] ∧ RRs K H P σ (pickL perm vs) (pickL perm rs) []
  | [] => ⟨(h.get ha).1, .nil⟩
  | k :: perm => by
    obtain ⟨e, ih⟩ := RRs.pick h ha perm
    refine ⟨e, ?_⟩
    unfold pickL at ih ⊢
    rw [List.filterMap_cons, List.filterMap_cons]
    by_cases hk : k < rs.length
    · obtain ⟨v, hv, rv⟩ := (h.get ha).2 k _ (List.getElem?_eq_getElem hk)
      rw [List.getElem?_eq_getElem hk, hv]
      exact RRs.cons (S := []) (T := []) rv ih
    · have hl := h.len
      rw [List.getElem?_eq_none (show rs.length ≤ k by omega), List.getElem?_eq_none (show vs.length ≤ k by omega)]
      exact ih
theorem callk_imp {M : Mach} {f np : Nat} {as kas : Es} {perm : List Nat} {Qk : VK} (hl : ∀ xs : List V, xs.length = as.len + kas.len → (pickL perm xs).length = np) (h : tE K M (.callk f as kas perm) σ H Qk) :
    tEs K M as σ H fun vs H1 => tEs K M kas σ H1 fun zs H2 => vs.length = as.len ∧ zs.length = kas.len ∧ spF K M.C M.fl np f (pickL perm (vs ++ zs)) H2 Qk := by
  obtain ⟨W, ρ, O, r, ρ', ok, he, kk⟩ := h
  unfold ev at he
  obtain ⟨⟨rs, ρ1⟩, e1, he⟩ := Option.bind_eq_some_iff.mp he
  obtain ⟨⟨ks, ρ2⟩, e2, he⟩ := Option.bind_eq_some_iff.mp he
  obtain ⟨qs, e3, he⟩ := Option.bind_eq_some_iff.mp he
  unfold pickR at e3
  split at e3
  case isFalse => cases e3
  rename_i hn
  cases e3
  refine ⟨W, ρ, O, rs, ρ1, ok, e1, fun H1 O1 S1 vs p1 => ⟨_, ρ1, O1, ks, ρ2, p1.ok ok, e2, fun H2 O2 S2 zs p2 => ?_⟩⟩
  have p := p1.trans ok p2
  obtain ⟨eS, rr⟩ := p.rr.pick hn perm
  have l1 : rs.length = as.len := evs_len e1
  have l2 : ks.length = kas.len := evs_len e2
  have l3 : vs.length = as.len := by rw [p1.rr.len]; exact l1
  have l4 : zs.length = kas.len := by rw [p2.rr.len]; exact l2
  refine ⟨l3, l4, call_core ok p (by rw [eS] at rr ⊢; exact rr) (hl _ (by rw [List.length_append, l3, l4])) he kk⟩
theorem RE.at2 {s : Slot} : ∀ {ρ : Env} {σ : L2.St} {O : List Addr} {i : Nat}, RE K H P σ ρ O → ρ[i]? = some s →
    ∃ A S B o, O = A ++ (S ++ B) ∧ σ[i]? = some o ∧ RS K H P o s S ∧ ∀ P' : Addr → Prop, (∀ b, P' b → P b) → ∀ o' s' S', RS K H P' o' s' S' → RE K H P' (σ.set i o') (ρ.set i s') (A ++ (S' ++ B))
  | [], _, _, _, _, e => by simp at e
  | t :: ρ, _, _, 0, h, e => by
    cases h with
    | @cons o σ _ _ S O h1 h2 =>
      obtain rfl : t = s := by simpa using e
      exact ⟨[], S, O, o, rfl, rfl, h1, fun P' m o' s' S' h' => (show RE K H P' (o' :: σ) (s' :: ρ) (S' ++ O) from .cons h' (h2.mono m))⟩
  | t :: ρ, _, _, i + 1, h, e => by
    cases h with
    | @cons o σ _ _ S O h1 h2 =>
      obtain ⟨A, S1, B, o1, rfl, e1, r, k⟩ := RE.at2 h2 (by simpa using e)
      refine ⟨S ++ A, S1, B, o1, by simp [List.append_assoc], by simpa using e1, r, fun P' m o' s' S' h' => ?_⟩
      have q := RE.cons (h1.mono m) (k P' m o' s' S' h')
      rw [← List.append_assoc] at q
      simpa using q
theorem fz_ok {i : Nat} (nd : (O ++ S).Nodup) (nw : ∀ b ∈ O, ¬ W b) (h : RE K H (Pp W O S) σ ρ O) : ∃ O', O'.Sublist O ∧ RE K H (Pp W O' S) σ (fzS ρ i) O' := by
  have same : ∃ O', O'.Sublist O ∧ RE K H (Pp W O' S) σ ρ O' := ⟨O, List.Sublist.refl _, h⟩
  unfold fzS
  split
  case h_2 => exact same
  rename_i xs g
  split
  · exact same
  · unfold getS at g
    split at g
    case h_2 => cases g
    rename_i z eq
    cases g
    obtain ⟨A, Si, B, ov, e1, e2, r1, k⟩ := h.at2 eq
    cases r1 with
    | lo r1 =>
      cases r1 with
      | @ol a us _ Si h1 h2 =>
        have sub : (A ++ ([a] ++ B)).Sublist O := by
          rw [e1]
          refine List.Sublist.append (List.Sublist.refl _) (List.Sublist.append ?_ (List.Sublist.refl _))
          exact (List.nil_sublist _).cons₂ a
        have apart : ∀ b ∈ Si, ¬ Pp W (A ++ ([a] ++ B)) S b := fun b hb z => by
          have hbO : b ∈ O := by rw [e1]; exact List.mem_append_right _ (List.mem_append_left _ (List.mem_cons_of_mem _ hb))
          rcases z with z | z | z
          · exact nw b hbO z
          · have n := (List.nodup_append.mp nd).1
            rw [e1] at n
            have n1 := List.nodup_append.mp n
            have n2 := List.nodup_append.mp n1.2.1
            rcases List.mem_append.mp z with z | z
            · exact n1.2.2 b z b (List.mem_append_left _ (List.mem_cons_of_mem _ hb)) rfl
            · rcases List.mem_append.mp z with z | z
              · obtain rfl := List.mem_singleton.mp z
                exact (List.nodup_cons.mp n2.1).1 hb
              · exact n2.2.2 b (List.mem_cons_of_mem _ hb) b z rfl
          · exact (List.nodup_append.mp nd).2.2 b hbO b z rfl
        have rds : RDs H (Pp W (A ++ ([a] ++ B)) S) us (Val.datas xs) := h2.share (mono_pp sub) apart
        have rvs : ∀ {ys : List Val} {ws : List V}, RDs H (Pp W (A ++ ([a] ++ B)) S) ws (Val.datas ys) → RVs H (Pp W (A ++ ([a] ++ B)) S) ws (ys.map fun v => .d v.data) [] := by
          intro ys
          induction ys with
          | nil => intro ws q; cases q; exact .nil
          | cons y ys ih =>
            intro ws q
            cases q with
            | cons q1 q2 => exact RVs.cons (S := []) (T := []) (.d q1) (ih q2)
        refine ⟨_, sub, ?_⟩
        have e3 : σ.set i (some (.ref a)) = σ := by
          obtain ⟨h1, h2⟩ := List.getElem?_eq_some_iff.mp e2
          rw [← h2, List.set_getElem_self]
        have r5 := k (Pp W (A ++ ([a] ++ B)) S) (mono_pp sub) (some (.ref a)) (.lo (.ol (xs.map fun v => .d v.data))) [a] (.lo (.ol h1 (rvs rds)))
        rw [e3] at r5
        exact r5
theorem se_fz {X : Cx} {M : Mach} {e : Expr} {A : E} (h : SE X M e A) : SE X M e (.fz A) := by
  refine h.imp fun σ H Q ⟨W, ρ, O, r, ρ', ok, he, k⟩ => ?_
  unfold ev at he
  obtain ⟨⟨r1, ρ1⟩, e1, he⟩ := Option.map_eq_some_iff.mp he
  cases he
  refine ⟨W, ρ, O, r1, ρ1, ok, e1, fun H' O' S v p => ?_⟩
  cases r1 with
  | v x => exact k H' O' S v p
  | rd x => exact k H' O' S v p
  | pk i =>
    obtain ⟨O1, s, re⟩ := fz_ok (i := i) p.nd (p.nw ok) p.re
    exact k H' O1 S v (p.less s re (p.rr.fut (fut_same (mono_pp s)) fun _ _ _ e => e))
end
end Pu

set_option Elab.async false
set_option maxRecDepth 100000
set_option maxHeartbeats 2000000
namespace Pu
open PySem L2 RZ RT PyProof.Rows

/-! ### writing to an own list of a slot -/
section
variable {K : PySem.W.Frag} {io : Nat → Bool} {H H' H1 H2 : Hp} {P P' : Addr → Prop} {W : Addr → Prop} {σ σ' σ1 σ2 : L2.St} {ρ ρ' ρ1 ρ2 : Env} {O O' O1 O2 S S0 S1 S2 T Q : List Addr} {vs us : List V} {rs qs : List R} {v w u : V} {r : R} {x : Val} {s : Slot}
theorem RE.at3 {s : Slot} : ∀ {ρ : Env} {σ : L2.St} {O : List Addr} {i : Nat}, RE K H P σ ρ O → ρ[i]? = some s →
    ∃ A S B o, O = A ++ (S ++ B) ∧ σ[i]? = some o ∧ RS K H P o s S ∧ ∀ (H' : Hp) (P' : Addr → Prop), Fut H P H' P' → (∀ b, b ∈ A ∨ b ∈ B → ∀ o, H b = some o → H' b = some o) → ∀ o' s' S', RS K H' P' o' s' S' → RE K H' P' (σ.set i o') (ρ.set i s') (A ++ (S' ++ B))
  | [], _, _, _, _, e => by simp at e
  | t :: ρ, _, _, 0, h, e => by
    cases h with
    | @cons o σ _ _ S O h1 h2 =>
      obtain rfl : t = s := by simpa using e
      exact ⟨[], S, O, o, rfl, rfl, h1, fun H' P' f k o' s' S' h' => (show RE K H' P' (o' :: σ) (s' :: ρ) (S' ++ O) from .cons h' (h2.fut f fun b hb o e => k b (.inr hb) o e))⟩
  | t :: ρ, _, _, i + 1, h, e => by
    cases h with
    | @cons o σ _ _ S O h1 h2 =>
      obtain ⟨A, S1, B, o1, rfl, e1, r, k⟩ := RE.at3 h2 (by simpa using e)
      refine ⟨S ++ A, S1, B, o1, by simp [List.append_assoc], by simpa using e1, r, fun H' P' f kk o' s' S' h' => ?_⟩
      have q := RE.cons (h1.fut f fun b hb o e => kk b (.inl (List.mem_append_left _ hb)) o e) (k H' P' f (fun b hb o e => kk b (hb.imp (fun z => List.mem_append_right _ z) id) o e) o' s' S' h')
      rw [← List.append_assoc] at q
      simpa using q
theorem own_write {i : Nat} {xs : List Val} (h : Hld K H W σ ρ O S v x) (e : getS ρ i = some (.ol xs)) :
    ∃ l us S1, σ[i]? = some (some (.ref l)) ∧ H l = some (.lst us) ∧ RVs H (Pp W O S) us xs S1 ∧
      ∀ us' xs' S', RVs H (Pp W O S) us' xs' S' → (∃ R, (S' ++ R).Perm (S1 ++ S)) → ∃ O', Stp K io H W (O ++ S) σ (upd H l (.lst us')) O' σ (putS ρ i (.ol xs')) := by
  unfold getS at e
  split at e
  case h_2 => cases e
  rename_i z eq
  cases e
  obtain ⟨A, Si, B, ov, e1, e2, r1, k⟩ := h.re.at3 eq
  cases r1 with
  | lo r1 =>
    cases r1 with
    | @ol l us _ S1 h1 h2 =>
      refine ⟨l, us, S1, e2, h1, h2, fun us' xs' S' rv ⟨R, pm⟩ => ?_⟩
      have nd := h.nd
      have hlO : l ∈ O := by rw [e1]; exact List.mem_append_right _ (List.mem_append_left _ (List.mem_cons_self ..))
      have hlS : l ∉ S := fun z => (List.nodup_append.mp nd).2.2 l hlO l z rfl
      have n0 := (List.nodup_append.mp nd).1
      rw [e1] at n0
      have nA := List.nodup_append.mp n0
      have nB := List.nodup_append.mp nA.2.1
      have hlS1 : l ∉ S1 := (List.nodup_cons.mp nB.1).1
      have hlA : ∀ b, b ∈ A ∨ b ∈ B → b ≠ l := fun b hb z => by
        subst z
        rcases hb with hb | hb
        · exact nA.2.2 b hb b (List.mem_append_left _ (List.mem_cons_self ..)) rfl
        · exact nB.2.2 b (List.mem_cons_self ..) b hb rfl
      have pmO : (A ++ ((l :: S') ++ B) ++ R).Perm (O ++ S) := by
        rw [e1]
        calc (A ++ ((l :: S') ++ B) ++ R) = A ++ (l :: (S' ++ (B ++ R))) := by simp [List.append_assoc]
          List.Perm _ (A ++ (l :: (S' ++ (R ++ B)))) := List.Perm.append_left _ (List.Perm.cons _ (List.Perm.append_left _ List.perm_append_comm))
          _ = A ++ (l :: ((S' ++ R) ++ B)) := by simp [List.append_assoc]
          List.Perm _ (A ++ (l :: ((S1 ++ S) ++ B))) := List.Perm.append_left _ (List.Perm.cons _ (List.Perm.append_right _ pm))
          _ = A ++ (l :: (S1 ++ (S ++ B))) := by simp [List.append_assoc]
          List.Perm _ (A ++ (l :: (S1 ++ (B ++ S)))) := List.Perm.append_left _ (List.Perm.cons _ (List.Perm.append_left _ List.perm_append_comm))
          _ = A ++ (l :: S1 ++ B) ++ S := by simp [List.append_assoc]
      have ndO := pmO.nodup_iff.mpr nd
      have mem : ∀ b, b ∈ A ++ ((l :: S') ++ B) → b ∈ O ++ S := fun b hb => pmO.mem_iff.mp (List.mem_append_left _ hb)
      have memS : ∀ b, b ∈ S' → b ≠ l := fun b hb z => by
        subst z
        have : b ∈ S1 ++ S := pm.mem_iff.mp (List.mem_append_left _ hb)
        exact (List.mem_append.mp this).elim hlS1 hlS
      have mono : ∀ b, Pp W (A ++ ((l :: S') ++ B)) [] b → Pp W O S b := fun b z => by
        rcases z with z | z | z
        · exact .inl z
        · exact .inr (List.mem_append.mp (mem b z))
        · exact nomatch z
      have fut : Fut H (Pp W O S) (upd H l (.lst us')) (Pp W (A ++ ((l :: S') ++ B)) []) := fun b o e n => by
        have nb : b ≠ l := fun z => n (.inr (.inl (z ▸ hlO)))
        exact ⟨by rw [upd_ne nb]; exact e, fun z => n (mono b z)⟩
      have re := k _ _ fut (fun b hb o e => by rw [upd_ne (hlA b hb)]; exact e) (some (.ref l)) (.lo (.ol xs')) (l :: S') (.lo (.ol upd_same (rv.fut fut fun b hb o e => by rw [upd_ne (memS b hb)]; exact e)))
      have e3 : σ.set i (some (.ref l)) = σ := by
        obtain ⟨h1, h2⟩ := List.getElem?_eq_some_iff.mp e2
        rw [← h2, List.set_getElem_self]
      rw [e3] at re
      have tr' : ∀ b, H b ≠ none → (upd H l (.lst us')) b ≠ none := fun b hb => by
        by_cases nb : b = l
        · subst nb; rw [upd_same]; exact fun z => nomatch z
        · rw [upd_ne nb]; exact hb
      refine ⟨_, fun b o e n => ?_, fun b hb => .inl (mem b hb), ⟨re, (List.nodup_append.mp ndO).1, fun a ha => ⟨fun z => ?_, tr' a (h.w a ha).2⟩, fun b hb => tr' b (h.tr b (List.mem_append.mp (mem b hb)))⟩, fun _ _ => rfl, rfl⟩
      · have nb : b ≠ l := fun z => n (List.mem_append_left _ (z ▸ hlO))
        rw [upd_ne nb]; exact e
      · rcases List.mem_append.mp (mem a z) with z | z
        · exact (h.w a ha).1.1 z
        · exact (h.w a ha).1.2 z
theorem RVs.snoc {y : V} : ∀ {xs : List Val} {us : List V} {S : List Addr}, RVs H P us xs S → RV H P y x S2 → RVs H P (us ++ [y]) (xs ++ [x]) (S ++ S2)
  | [], _, _, h, r => by
    cases h
    have := RVs.cons r (RVs.nil (H := H) (P := P))
    rwa [List.append_nil] at this
  | a :: acc, _, _, h, r => by
    cases h with
    | cons h1 h2 =>
      rw [List.append_assoc]
      exact .cons h1 (RVs.snoc h2 r)
theorem RVs.app_d : ∀ {xs : List Val} {us : List V} {S : List Addr} {ys : List D} {zs : List V}, RVs H P us xs S → RDs H P zs ys → RVs H P (us ++ zs) (xs ++ ys.map .d) S
  | [], _, _, ys, zs, h, r => by
    cases h
    have go : ∀ {ys : List D} {zs : List V}, RDs H P zs ys → RVs H P zs (ys.map .d) [] := by
      intro ys
      induction ys with
      | nil => intro zs r; cases r; exact .nil
      | cons y ys ih =>
        intro zs r
        cases r with
        | cons r1 r2 => exact RVs.cons (S := []) (T := []) (.d r1) (ih r2)
    exact go r
  | a :: acc, _, _, _, _, h, r => by
    cases h with
    | cons h1 h2 => exact .cons h1 (RVs.app_d h2 r)
/-- an item stored -/
theorem RVs.store {y : V} : ∀ {xs : List Val} {us : List V} {S : List Addr} (m : Nat), RVs H P us xs S → RV H P y x S2 → m < xs.length → ∃ S', RVs H P (us.set m y) (xs.set m x) S' ∧ ∃ R, (S' ++ R).Perm (S ++ S2)
  | [], _, _, m, h, r, hl => by simp at hl
  | a :: acc, _, _, 0, h, r, _ => by
    cases h with
    | @cons _ _ _ _ Sa Sb h1 h2 =>
      refine ⟨S2 ++ Sb, .cons r h2, Sa, ?_⟩
      calc (S2 ++ Sb ++ Sa).Perm (Sa ++ (S2 ++ Sb)) := List.perm_append_comm
        List.Perm _ (Sa ++ (Sb ++ S2)) := List.Perm.append_left _ List.perm_append_comm
        _ = Sa ++ Sb ++ S2 := by simp [List.append_assoc]
  | a :: acc, _, _, m + 1, h, r, hl => by
    cases h with
    | @cons _ _ _ _ Sa Sb h1 h2 =>
      obtain ⟨S', h', R, pm⟩ := RVs.store m h2 r (by simpa using hl)
      refine ⟨Sa ++ S', .cons h1 h', R, ?_⟩
      rw [List.append_assoc, List.append_assoc]
      exact List.Perm.append_left _ pm
end
def isStarE : Expr → Bool
  | .Starred _ _ => true
  | _ => false
theorem star1 {a : Expr} {env : PySem.Env} (h : isStarE a = false) : starEach [a] env = [(false, eval a env)] := by
  cases a <;> first | rfl | cases h
section
variable {X : Cx} {M : Mach} {e k : Expr} {A B : E} {pos p1 p2 apos : Pos} {i : Nat}
theorem var_ol {K : PySem.W.Frag} {H : Hp} {P : Addr → Prop} {σ : L2.St} {ρ : Env} {O : List Addr} (h : RE K H P σ ρ O) (e : isOl ρ i = true) : ∃ l us, σ[i]? = some (some (.ref l)) ∧ H l = some (.lst us) := by
  unfold isOl at e
  split at e
  · rename_i xs g
    obtain ⟨_, _, _, u, _, e2, r⟩ := h.val g
    cases r with
    | ol h1 _ => exact ⟨_, _, e2, h1⟩
  · cases e
/-- xs[k] = v -/
theorem sg_ix {y : Str} (hN : X.N[i]? = some y) (hv : Vis X.env.scope y) (h1 : (y == ("__debug__" : Str)) = false) (h2 : (y == ("__classdict__" : Str)) = false) (hk : SE X M k A)
    (ha : ∀ v, assign (.Subscript (.Name y p1) k pos) X.env v = (do
      let ov ← holding [v] (eval (.Name y p1) X.env)
      let iv ← holding [v, ov] (eval k X.env)
      standAt pos
      holding [v, ov, iv] (setItem ov iv v)
      release [v, ov, iv] [])) : SG X M (.Subscript (.Name y p1) k pos) (.ix i A) := by
  refine (pg_sub (pe_var hN hv h1 h2) hk set_list ha).imp fun v σ H Q ⟨W, ρ, O, S, x, ρ', h, e, kk⟩ => ?_
  unfold asgT at e
  split at e
  case isFalse => cases e
  rename_i hol
  obtain ⟨⟨r, ρ1⟩, e1, e⟩ := Option.bind_eq_some_iff.mp e
  simp only at e
  split at e
  case h_2 => cases e
  rename_i j xs g
  obtain ⟨m, em, rfl⟩ := Option.map_eq_some_iff.mp e
  have okS : Okk X.K H (fun a => W a ∨ a ∈ S) σ ρ O := ⟨h.re.fut (fut_same fun b z => by
      rcases z with (z | z) | z | z
      · exact .inl z
      · exact .inr (.inr z)
      · exact .inr (.inl z)
      · exact nomatch z) fun _ _ _ e => e, (List.nodup_append.mp h.nd).1, fun a z => by
    rcases z with z | z
    · exact ⟨(h.w a z).1.1, (h.w a z).2⟩
    · exact ⟨fun w => (List.nodup_append.mp h.nd).2.2 a w a z rfl, h.tr a (.inr z)⟩, fun b z => h.tr b (.inl z)⟩
  obtain ⟨l0, us0, e0, _⟩ := var_ol h.re hol
  refine ⟨.ref l0, e0, _, ρ, O, _, ρ1, okS, e1, fun H1 O1 S1 u p => ?_⟩
  obtain ⟨rfl, rfl⟩ := p.rr.one.int_inv
  have OS : ∀ b, b ∈ S → b ∉ O := fun b hb z => (List.nodup_append.mp h.nd).2.2 b z b hb rfl
  have fut : Fut H (Pp W O S) H1 (Pp W O1 S) := fun b o e n => by
    have nO : b ∉ O := fun z => n (.inr (.inl z))
    refine ⟨p.keep b o e nO, fun z => ?_⟩
    rcases z with z | z | z
    · exact n (.inl z)
    · rcases p.new b (.inl z) with z | z
      · exact nO z
      · rw [z] at e; cases e
    · exact n (.inr (.inr z))
  have h1 : Hld X.K H1 W σ ρ1 O1 S v x := by
    refine ⟨p.re.fut (fut_same fun b z => ?_) (fun _ _ _ e => e), h.rv.fut fut (fun b hb o e => p.keep b o e (OS b hb)), ?_, fun a ha => ?_, fun b hb => ?_⟩
    · rcases z with z | z | z
      · exact .inl (.inl z)
      · exact .inr (.inl z)
      · exact .inl (.inr z)
    · refine List.nodup_append.mpr ⟨(List.nodup_append.mp p.nd).1, (List.nodup_append.mp h.nd).2.1, fun a ha b hb e => ?_⟩
      subst e
      exact (p.wkeep okS (.inr hb)).1.1 ha
    · exact ⟨⟨(p.wkeep okS (.inl ha)).1.1, (h.w a ha).1.2⟩, (p.wkeep okS (.inl ha)).2⟩
    · exact hb.elim (fun z => p.tr b (.inl z)) fun z => (p.wkeep okS (.inr z)).2
  obtain ⟨l, us, S2, e2, hl, rvs, wr⟩ := own_write (io := M.io) h1 g
  rw [e0] at e2
  cases e2
  have hm : m < xs.length := by
    have := (ixN_seq em).2.1
    exact this
  obtain ⟨S3, rv3, pm⟩ := rvs.store m h1.rv hm
  obtain ⟨O4, st⟩ := wr _ _ S3 rv3 pm
  have eu : us.length = xs.length := rvs.length
  refine ⟨l0, us, j, m, rfl, rfl, hl, by rw [eu]; exact em, ?_⟩
  refine kk _ O4 σ ⟨fun b o e n => ?_, fun b z => ?_, st.ok, fun _ _ => rfl, rfl⟩ fun _ _ => rfl
  · have nO : b ∉ O := fun z => n (List.mem_append_left _ z)
    refine st.keep b o (p.keep b o e nO) fun z => ?_
    rcases List.mem_append.mp z with z | z
    · rcases p.new b (.inl z) with z | z
      · exact nO z
      · rw [z] at e; cases e
    · exact n (List.mem_append_right _ z)
  · rcases st.new b z with z | z
    · rcases List.mem_append.mp z with z | z
      · exact (p.new b (.inl z)).imp (fun z => List.mem_append_left _ z) id
      · exact .inl (List.mem_append_right _ z)
    · by_cases hb : b ∈ O
      · exact .inl (List.mem_append_left _ hb)
      · cases e : H b with
        | none => exact .inr rfl
        | some o => rw [p.keep b o e hb] at z; cases z
/-- xs.append(e) -/
theorem ss_app {y : Str} (hN : X.N[i]? = some y) (hv : Vis X.env.scope y) (h1 : (y == ("__debug__" : Str)) = false) (h2 : (y == ("__classdict__" : Str)) = false) (hs : isStarE e = false) (he : SE X M e A) (hline : (apos.endLine == pos.line) = true) :
    SS X M (.Expr (.Call (.Attribute (.Name y p1) "append" apos) [e] [] pos) p2) (.app i A) := by
  have st : starEach [e] X.env = [(false, eval e X.env)] := star1 hs
  have ar : PA X [e] (tCons (tE X.K M A) tNil) := pa_cons he pa_nil st
  refine (ps_expr (pe_bm PySem.F.plainAttrs_list PySem.F.slot_list_append PySem.F.type_list_append mt_append (pe_var hN hv h1 h2) ar rfl (by rw [st]; rfl) hline st rfl) rfl).imp fun D σ H ⟨W, ρ, O, o, ok, he, f⟩ => ?_
  unfold exec at he
  split at he
  case isFalse => cases he
  rename_i hol
  obtain ⟨⟨r, ρ1⟩, e1, he⟩ := Option.bind_eq_some_iff.mp he
  obtain ⟨⟨x, ρ2⟩, e2, he⟩ := Option.bind_eq_some_iff.mp he
  split at he
  case h_2 => cases he
  rename_i xs g
  split at he
  case isFalse => cases he
  rename_i hlen
  cases he
  obtain ⟨l0, us0, e0, hl0⟩ := var_ol ok.re hol
  refine ⟨.ref l0, e0, .inl ⟨rfl, _, SqL.of hl0⟩, W, ρ, O, r, ρ1, ok, e1, fun H1 O1 S1 v p => ?_⟩
  obtain ⟨O2, q, _⟩ := p.esc ok e2
  have hld := q.hld ok
  obtain ⟨l, us, S2, e3, hl, rvs, wr⟩ := own_write (io := M.io) hld g
  rw [e0] at e3
  cases e3
  obtain ⟨O4, stp⟩ := wr _ _ _ (rvs.snoc hld.rv) ⟨[], by rw [List.append_nil]⟩
  have eu : us.length = xs.length := rvs.length
  exact ⟨l0, us, v, rfl, rfl, hl, by rw [eu]; exact hlen, f _ _ _ (stp_after q stp)⟩
/-- xs.extend(e) -/
theorem ss_ext {y : Str} (hN : X.N[i]? = some y) (hv : Vis X.env.scope y) (h1 : (y == ("__debug__" : Str)) = false) (h2 : (y == ("__classdict__" : Str)) = false) (hs : isStarE e = false) (he : SE X M e A) (hline : (apos.endLine == pos.line) = true) :
    SS X M (.Expr (.Call (.Attribute (.Name y p1) "extend" apos) [e] [] pos) p2) (.ext i A) := by
  have st : starEach [e] X.env = [(false, eval e X.env)] := star1 hs
  have ar : PA X [e] (tCons (tE X.K M A) tNil) := pa_cons he pa_nil st
  refine (ps_expr (pe_bm PySem.F.plainAttrs_list PySem.F.slot_list_extend PySem.F.type_list_extend mt_extend (pe_var hN hv h1 h2) ar rfl (by rw [st]; rfl) hline st rfl) rfl).imp fun D σ H ⟨W, ρ, O, o, ok, he, f⟩ => ?_
  unfold exec at he
  split at he
  case isFalse => cases he
  rename_i hol
  obtain ⟨⟨r, ρ1⟩, e1, he⟩ := Option.bind_eq_some_iff.mp he
  obtain ⟨d, e2, he⟩ := Option.bind_eq_some_iff.mp he
  split at he
  case h_2 => cases he
  rename_i ys xs g
  split at he
  case isFalse => cases he
  rename_i hlen
  cases he
  obtain ⟨l0, us0, e0, hl0⟩ := var_ol ok.re hol
  refine ⟨.ref l0, e0, .inl ⟨rfl, _, SqL.of hl0⟩, W, ρ, O, r, ρ1, ok, e1, fun H1 O1 S1 v p => ?_⟩
  obtain ⟨b, zs, rfl, hb, rds⟩ := p.rf ok p.rr.one (fun _ h => h) e2
  have q := p.forget
  have hld : Hld X.K H1 W σ ρ1 O1 [] .non (.d .non) := (okk_nil (q.ok ok)).hld .non
  obtain ⟨l, us, S2, e3, hl, rvs, wr⟩ := own_write (io := M.io) hld g
  rw [e0] at e3
  cases e3
  have rds' : RDs H1 (Pp W O1 []) zs ys := rds.fut (fut_same fun b z => by
    rcases z with z | z | z
    · exact .inl z
    · exact .inr z
    · exact nomatch z)
  obtain ⟨O4, stp⟩ := wr _ _ S2 (rvs.app_d rds') ⟨[], List.Perm.refl _⟩
  have eu : us.length = xs.length := rvs.length
  have ez : zs.length = ys.length := rds.length
  exact ⟨l0, b, us, zs, rfl, rfl, hl, hb, by rw [eu, ez]; exact hlen, f _ _ _ (stp_after q stp)⟩
end
end Pu

set_option Elab.async false
set_option maxRecDepth 100000
set_option maxHeartbeats 2000000
namespace Pu
open PySem L2 RZ RT PyProof.Rows

/-! ### a, b = x, y: stored without a pair -/
section
variable {K : PySem.W.Frag} {M : Mach} {H H' H1 : Hp} {W : Addr → Prop} {σ : L2.St} {ρ ρ' ρ1 : Env} {O O' O1 S : List Addr} {vs : List V} {rs : List R} {v w : V} {x y : Val}
theorem mov_hand {io : Nat → Bool} {r : R} (e : mov io ρ r = some (x, ρ')) : ∃ fl o, hand ρ fl r = some (.lo x, o, ρ') := by
  cases r with
  | v z => cases e; exact ⟨true, none, rfl⟩
  | rd _ => cases e
  | pk i =>
    simp only [mov] at e
    cases g : getS ρ i with
    | none => rw [g] at e; cases e
    | some z =>
      rw [g] at e
      simp only at e
      split at e
      · cases e; exact ⟨false, none, by simp [hand, g]⟩
      · cases e; exact ⟨true, some i, by simp [hand, g]⟩
theorem movs_ok : ∀ {rs : List R} {vs : List V} {xs : List Val} {S0 S : List Addr} {ρ ρ' : Env} {O : List Addr}, (O ++ S).Nodup → (∀ b ∈ O, ¬ W b) → RE K H (Pp W O S) σ ρ O → RRs K H (Pp W O S) σ vs rs S0 → exec.movs M ρ rs = some (xs, ρ') →
    ∃ O' T Q, RE K H (Pp W O' (S ++ T)) σ ρ' O' ∧ RVs H (Pp W O' (S ++ T)) vs xs Q ∧ Q.Perm (S0 ++ T) ∧ (O' ++ (S ++ T)).Nodup ∧ ∀ b, b ∈ O' ∨ b ∈ T → b ∈ O
  | [], _, _, _, S, ρ, _, O, nd, nw, h, r0, e => by
    cases r0
    cases e
    exact ⟨O, [], [], h.mono fun b z => by rwa [List.append_nil] at z, .nil, List.Perm.refl _, by rwa [List.append_nil], fun b z => z.elim id fun z => (nomatch z)⟩
  | r :: rs, _, _, _, S, ρ, _, O, nd, nw, h, r0, e => by
    cases r0 with
    | @cons v vs _ _ Sa Sb r1 r2 =>
      rw [exec.movs] at e
      obtain ⟨⟨x, ρ1⟩, e1, e⟩ := Option.bind_eq_some_iff.mp e
      obtain ⟨⟨xs, ρ2⟩, e2, e3⟩ := Option.map_eq_some_iff.mp e
      cases e3
      obtain ⟨fl, o, eh⟩ := mov_hand e1
      obtain ⟨O1, T1, h1, a1, nd1, m1, z1, o1⟩ := hand_ok nd nw h r1 eh
      have rv1 : RV H (Pp W O1 (S ++ T1)) v x (Sa ++ T1) := by
        cases a1 with
        | lo q => exact q
      have mono1 : ∀ b, Pp W O1 (S ++ T1) b → Pp W O S b := fun b z => by
        rcases z with z | z | z
        · exact .inl z
        · exact .inr (.inl (m1 b (.inl z)))
        · rcases List.mem_append.mp z with z | z
          · exact .inr (.inr z)
          · exact .inr (.inl (m1 b (.inr z)))
      obtain ⟨O2, T2, Q2, h2, a2, pm2, nd2, m2⟩ := movs_ok nd1 (fun b hb => nw b (m1 b (.inl hb))) h1 (r2.mono mono1) e2
      have mono2 : ∀ b, Pp W O2 (S ++ T1 ++ T2) b → Pp W O1 (S ++ T1) b := fun b z => by
        rcases z with z | z | z
        · exact .inl z
        · exact .inr (.inl (m2 b (.inl z)))
        · rcases List.mem_append.mp z with z | z
          · exact .inr (.inr z)
          · exact .inr (.inl (m2 b (.inr z)))
      refine ⟨O2, T1 ++ T2, (Sa ++ T1) ++ Q2, ?_, ?_, ?_, ?_, fun b z => ?_⟩
      · rw [← List.append_assoc]; exact h2
      · rw [← List.append_assoc]; exact .cons (rv1.mono mono2) a2
      · calc (Sa ++ T1 ++ Q2).Perm (Sa ++ T1 ++ (Sb ++ T2)) := List.Perm.append_left _ pm2
          _ = Sa ++ ((T1 ++ Sb) ++ T2) := by simp [List.append_assoc]
          List.Perm _ (Sa ++ ((Sb ++ T1) ++ T2)) := List.Perm.append_left _ (List.Perm.append_right _ List.perm_append_comm)
          _ = Sa ++ Sb ++ (T1 ++ T2) := by simp [List.append_assoc]
      · rw [← List.append_assoc S]; exact nd2
      · rcases z with z | z
        · exact m1 b (.inl (m2 b (.inl z)))
        · rcases List.mem_append.mp z with z | z
          · exact m1 b (.inr z)
          · exact m1 b (.inl (m2 b (.inr z)))
theorem ss_parG {X : Cx} {st : Stmt} {i j : Nat} {As : Es} (h : PS X st (tPar i j (tEs X.K M As))) : SS X M st (.setT [i, j] As) := by
  refine h.imp fun D σ H ⟨W, ρ, O, o, ok, he, f⟩ => ?_
  unfold exec at he
  obtain ⟨⟨rs, ρ1⟩, e1, he⟩ := Option.bind_eq_some_iff.mp he
  obtain ⟨⟨xs, ρ2⟩, e2, he⟩ := Option.bind_eq_some_iff.mp he
  obtain ⟨ρ5, e3, rfl⟩ := Option.map_eq_some_iff.mp he
  refine ⟨W, ρ, O, rs, ρ1, ok, e1, fun H1 O1 S vs p => ?_⟩
  obtain ⟨O2, T, Qs, re, rv, pm, nd, mem⟩ := movs_ok p.nd (p.nw ok) p.re p.rr e2
  have memQ : ∀ b, b ∈ Qs ↔ b ∈ S ∨ b ∈ T := fun b => by rw [pm.mem_iff, List.mem_append]
  -- two values
  have two : ∃ x y, xs = [x, y] := by
    cases xs with
    | nil => simp [exec.asgs] at e3
    | cons x xs =>
      cases xs with
      | nil =>
        rw [exec.asgs] at e3
        obtain ⟨_, _, e4⟩ := Option.bind_eq_some_iff.mp e3
        simp [exec.asgs] at e4
      | cons y xs =>
        cases xs with
        | nil => exact ⟨x, y, rfl⟩
        | cons z xs =>
          rw [exec.asgs] at e3
          obtain ⟨_, _, e4⟩ := Option.bind_eq_some_iff.mp e3
          rw [exec.asgs] at e4
          obtain ⟨_, _, e5⟩ := Option.bind_eq_some_iff.mp e4
          simp [exec.asgs] at e5
  obtain ⟨x, y, rfl⟩ := two
  cases rv with
  | @cons v vs _ _ S1 S2' rv1 rv2 =>
    cases rv2 with
    | @cons w vs _ _ S2 S3 rv2 rv3 =>
      cases rv3
      rw [List.append_nil] at pm memQ
      rw [exec.asgs] at e3
      obtain ⟨ρ3, a1, e3⟩ := Option.bind_eq_some_iff.mp e3
      rw [exec.asgs] at e3
      obtain ⟨ρ4, a2, e3⟩ := Option.bind_eq_some_iff.mp e3
      rw [exec.asgs] at e3
      cases e3
      refine ⟨v, w, rfl, ?_⟩
      have ndQ : (O2 ++ (S1 ++ S2)).Nodup := (List.Perm.append_left O2 pm).nodup_iff.mpr nd
      have n1 := List.nodup_append.mp ndQ
      have n2 := List.nodup_append.mp n1.2.1
      have mQ : ∀ b, b ∈ S1 ∨ b ∈ S2 ↔ b ∈ S ∨ b ∈ T := fun b => by rw [← memQ b, List.mem_append]
      have wOk : ∀ a, W a → (a ∉ O2 ∧ a ∉ S1 ∧ a ∉ S2) ∧ H1 a ≠ none := fun a ha => by
        have q := p.wkeep ok ha
        refine ⟨⟨fun z => q.1.1 (mem a (.inl z)), fun z => ?_, fun z => ?_⟩, q.2⟩
        · exact ((mQ a).mp (.inl z)).elim q.1.2 fun z => q.1.1 (mem a (.inr z))
        · exact ((mQ a).mp (.inr z)).elim q.1.2 fun z => q.1.1 (mem a (.inr z))
      have trQ : ∀ b, b ∈ S1 ∨ b ∈ S2 → H1 b ≠ none := fun b hb => ((mQ b).mp hb).elim (fun z => p.tr b (.inr z)) fun z => p.tr b (.inl (mem b (.inr z)))
      have trO : ∀ b, b ∈ O2 → H1 b ≠ none := fun b hb => p.tr b (.inl (mem b (.inl hb)))
      have pp : ∀ {b : Addr}, Pp (fun a => W a ∨ a ∈ S2) O2 S1 b → Pp W O2 (S ++ T) b := fun {b} z => by
        rcases z with (z | z) | z | z
        · exact .inl z
        · exact .inr (.inr (List.mem_append.mpr ((mQ b).mp (.inr z))))
        · exact .inr (.inl z)
        · exact .inr (.inr (List.mem_append.mpr ((mQ b).mp (.inl z))))
      have hld1 : Hld X.K H1 (fun a => W a ∨ a ∈ S2) σ ρ2 O2 S1 v x := by
        refine ⟨re.mono fun b z => pp z, rv1.mono fun b z => pp z, ?_, fun a ha => ?_, fun b hb => hb.elim (trO b) fun z => trQ b (.inl z)⟩
        · exact List.nodup_append.mpr ⟨n1.1, n2.1, fun a ha b hb e => n1.2.2 a ha b (List.mem_append_left _ hb) e⟩
        · rcases ha with ha | ha
          · exact ⟨⟨(wOk a ha).1.1, (wOk a ha).1.2.1⟩, (wOk a ha).2⟩
          · exact ⟨⟨fun z => n1.2.2 a z a (List.mem_append_right _ ha) rfl, fun z => n2.2.2 a z a ha rfl⟩, trQ a (.inr ha)⟩
      obtain ⟨O3, s1, _, _⟩ := asg_ok hld1 a1
      have hld2 : Hld X.K H1 W (σ.set i (some v)) ρ3 O3 S2 w y := by
        refine ⟨s1.ok.re.mono fun b z => ?_, rv2.mono fun b z => ?_, ?_, fun a ha => ?_, fun b hb => ?_⟩
        · rcases z with z | z | z
          · exact .inl (.inl z)
          · exact .inr (.inl z)
          · exact .inl (.inr z)
        · rcases z with z | z | z
          · exact .inl z
          · rcases s1.new b z with z | z
            · rcases List.mem_append.mp z with z | z
              · exact .inr (.inl z)
              · exact .inr (.inr (List.mem_append.mpr ((mQ b).mp (.inl z))))
            · exact absurd z (s1.ok.tr b (by assumption))
          · exact .inr (.inr (List.mem_append.mpr ((mQ b).mp (.inr z))))
        · refine List.nodup_append.mpr ⟨s1.ok.nd, n2.2.1, fun a ha b hb e => ?_⟩
          subst e
          exact (s1.ok.w a (.inr hb)).1 ha
        · exact ⟨⟨(s1.ok.w a (.inl ha)).1, (wOk a ha).1.2.2⟩, (wOk a ha).2⟩
        · exact hb.elim (s1.ok.tr b) fun z => trQ b (.inr z)
      obtain ⟨O4, s2, _, _⟩ := asg_ok hld2 a2
      have old : ∀ b, b ∈ O4 → b ∈ O ∨ H b = none := fun b hb => by
        have h1 : ∀ b, b ∈ O2 ∨ b ∈ S1 ∨ b ∈ S2 → b ∈ O ∨ H b = none := fun b z => by
          rcases z with z | z
          · exact p.new b (.inl (mem b (.inl z)))
          · rcases (mQ b).mp z with z | z
            · exact p.new b (.inr z)
            · exact p.new b (.inl (mem b (.inr z)))
        have h2 : ∀ b, H1 b = none → b ∈ O ∨ H b = none := fun b z => by
          by_cases hb : b ∈ O
          · exact .inl hb
          · cases e : H b with
            | none => exact .inr rfl
            | some o => rw [p.keep b o e hb] at z; cases z
        rcases s2.new b hb with z | z
        · rcases List.mem_append.mp z with z | z
          · rcases s1.new b z with z | z
            · rcases List.mem_append.mp z with z | z
              · exact h1 b (.inl z)
              · exact h1 b (.inr (.inl z))
            · exact h2 b z
          · exact h1 b (.inr (.inr z))
        · exact h2 b z
      exact f H1 O4 _ ⟨fun b o e n => p.keep b o e n, old, s2.ok, fun q hq => (s2.io q hq).trans (s1.io q hq), s2.len.trans s1.len⟩
theorem ss_par {X : Cx} {i j : Nat} {nx ny : Str} {a b : Expr} {As : Es} {px py pt pos : Pos} {kt k2 : Nat} {pt2 : Pos} (hc : X.calm = true) (hN : X.N.Nodup) (hi : X.N[i]? = some nx) (hj : X.N[j]? = some ny) (hij : i ≠ j)
    (hx : X.env.scope.names.lookup nx = some .local) (hy : X.env.scope.names.lookup ny = some .local) (ha : SA X M [a, b] As)
    (hw : swappedStores [.Tuple [.Name nx px, .Name ny py] kt pt] (.Tuple [a, b] k2 pt2) X.env = pure (some [nx, ny])) :
    SS X M (.Assign [.Tuple [.Name nx px, .Name ny py] kt pt] (.Tuple [a, b] k2 pt2) pos) (.setT [i, j] As) := ss_parG (ps_par hc hN hi hj hij hx hy ha hw rfl)
end
end Pu

set_option Elab.async false
set_option maxRecDepth 100000
set_option maxHeartbeats 4000000
namespace Pu
open PySem L2 RZ RT PyProof.Rows PyProof

/-! ### a, b = x, y where a name is not the frame's own: the pair is made, then taken apart -/
theorem ps_par0 {X : Cx} {i j : Nat} {x y : Str} {a b : Expr} {ta : TA} {px py pt pos : Pos} {kt k2 : Nat} {pt2 : Pos} (hc : X.calm = true) (hN : X.N.Nodup) (hi : X.N[i]? = some x) (hj : X.N[j]? = some y)
    (hx : Loc X.env.scope x) (hy : Loc X.env.scope y) (fx : X.fn x = true ∨ X.env.scope.names.lookup x = some .local) (fy : X.fn y = true ∨ X.env.scope.names.lookup y = some .local) (ha : PA X [a, b] ta)
    (hw : swappedStores [.Tuple [.Name x px, .Name y py] kt pt] (.Tuple [a, b] k2 pt2) X.env = pure none)
    (hs : swapsWithSole [.Tuple [.Name x px, .Name y py] kt pt] (.Tuple [a, b] k2 pt2) pos.line X.env = pure false := by rfl) :
    PS X (.Assign [.Tuple [.Name x px, .Name y py] kt pt] (.Tuple [a, b] k2 pt2) pos) (tPar i j ta) := by
  refine ⟨fun pins s σ H D I h => ?_⟩
  refine wpAny_Assign_stores (Tuple_ (thn (ha.run _ pins s σ H _ I h) fun us s1 ⟨vs, H1, I1, r1, q1⟩ => ?_)) hs hw
  obtain ⟨v, w, e1, q1⟩ := q1
  subst e1
  obtain ⟨u1, u2, rfl, rv, rw'⟩ : ∃ u1 u2, us = [u1, u2] ∧ RelV v u1 ∧ RelV w u2 := by
    cases r1 with
    | cons p q =>
      cases q with
      | cons p' q' =>
        cases q'
        exact ⟨_, _, rfl, p, p'⟩
  refine wpAny_newObj_type ?_ (by show 2 ≤ sizeLine; decide)
  have I2 : Inv X pins σ H1 { s1 with heap := s1.heap.push { cls := .type "tuple", data := .seq [u1, u2].toArray } } := I1.kept (t' := s1.toks) fun b o e => Heap.get?_push_of_some _ e
  have h1 : (assignEach [.Tuple [.Name x px, .Name y py] kt pt] X.env).map (·.2) = [assign (.Tuple [.Name x px, .Name y py] kt pt) X.env] := rfl
  rw [h1]
  refine thn (assign_Tuple_tuple (items := #[u1, u2]) (I.ok.hd hc) (IsTup.new s1.heap _) rfl rfl fun h' hx' => ?_) fun _ s2 q => q
  have I3 := I2.kept (h' := h') (t' := s1.toks) fun b o e => hx' b o (Nat.ne_of_lt (Heap.lt_size e)) e
  exact (pgs_cons (pg_name (pos := px) hN hi hx fx) (pgs_cons (pg_name (pos := py) hN hj hy fy) pgs_nil)).run pins _ σ H1 [v, w] [u1, u2] D.nx I3 (.cons rv (.cons rw' .nil)) ⟨v, [w], rfl, ⟨w, [], rfl, ⟨rfl, q1⟩⟩⟩
end Pu

set_option Elab.async false
set_option maxRecDepth 100000
set_option maxHeartbeats 4000000
namespace Pu
open PySem L2 RZ RT PyProof.Rows PyProof

/-! ### own lists in an own list -/
section
variable {K : PySem.W.Frag} {io : Nat → Bool} {H H' : Hp} {P P' W : Addr → Prop} {σ σ' : L2.St} {ρ : Env} {O S : List Addr} {i j n : Nat} {ys : List Val}
/-- the own list at n in a list of values -/
theorem RVs.inner : ∀ {n : Nat} {xs : List Val} {us : List V} {S : List Addr}, RVs H P us xs S → xs[n]? = some (.ol ys) →
    ∃ l zs T A B, us[n]? = some (.ref l) ∧ H l = some (.lst zs) ∧ RVs H P zs ys T ∧ S = A ++ ((l :: T) ++ B) ∧
      ∀ (H' : Hp) (P' : Addr → Prop), Fut H P H' P' → (∀ b, b ∈ A ∨ b ∈ B → ∀ o, H b = some o → H' b = some o) → ∀ zs' ys' T', H' l = some (.lst zs') → RVs H' P' zs' ys' T' → RVs H' P' us (xs.set n (.ol ys')) (A ++ ((l :: T') ++ B))
  | _, [], _, _, _, e => by simp at e
  | 0, x :: xs, _, _, h, e => by
    cases h with
    | @cons v vs _ _ S1 S2 h1 h2 =>
      obtain rfl : x = .ol ys := by simpa using e
      cases h1 with
      | @ol l zs _ T q1 q2 =>
        refine ⟨l, zs, T, [], S2, rfl, q1, q2, rfl, fun H' P' f k zs' ys' T' q3 q4 => ?_⟩
        show RVs H' P' (V.ref l :: vs) (Val.ol ys' :: xs) ((l :: T') ++ S2)
        exact RVs.cons (.ol q3 q4) (h2.fut f fun b hb o eo => k b (.inr hb) o eo)
  | n + 1, x :: xs, _, _, h, e => by
    cases h with
    | @cons v vs _ _ S1 S2 h1 h2 =>
      obtain ⟨l, zs, T, A, B, e1, e2, e3, rfl, k⟩ := RVs.inner (n := n) h2 (by simpa using e)
      refine ⟨l, zs, T, S1 ++ A, B, by simpa using e1, e2, e3, by simp [List.append_assoc], fun H' P' f kk zs' ys' T' q3 q4 => ?_⟩
      have q := RVs.cons (h1.fut f fun b hb o eo => kk b (.inl (List.mem_append_left _ hb)) o eo) (k H' P' f (fun b hb o eo => kk b (hb.imp (fun z => List.mem_append_right _ z) id) o eo) zs' ys' T' q3 q4)
      rw [List.append_assoc]
      exact q
/-- a value put behind an own list in an own list (no place of its own) -/
theorem own_inner {xs : List Val} {x : D} {v : V} (ok : Okk K H W σ ρ O) (e : getS ρ i = some (.ol xs)) (en : xs[n]? = some (.ol ys)) (hx : ∀ H P, RD H P v x) :
    ∃ lo us l zs, σ[i]? = some (some (.ref lo)) ∧ H lo = some (.lst us) ∧ us.length = xs.length ∧ us[n]? = some (.ref l) ∧ H l = some (.lst zs) ∧ zs.length = ys.length ∧
      Stp K io H W O σ (upd H l (.lst (zs ++ [v]))) O σ (putS ρ i (.ol (xs.set n (.ol (ys ++ [.d x]))))) := by
  unfold getS at e
  split at e
  case h_2 => cases e
  rename_i z eq
  cases e
  obtain ⟨A, Si, B, ov, e1, e2, r1, k⟩ := ok.re.at3 eq
  cases r1 with
  | lo r1 =>
    cases r1 with
    | @ol lo us _ S1 h1 h2 =>
      obtain ⟨l, zs, T, A2, B2, u1, u2, u3, u4, k2⟩ := h2.inner en
      have nd := ok.nd
      rw [e1, u4] at nd
      have hl : l ∈ O := by rw [e1, u4]; simp
      refine ⟨lo, us, l, zs, e2, h1, h2.length, u1, u2, u3.length, ?_⟩
      -- l stands alone
      have n1 := List.nodup_append.mp nd
      have n2 := List.nodup_append.mp n1.2.1
      have n3 := List.nodup_cons.mp n2.1
      have n4 := List.nodup_append.mp n3.2
      have n5 := List.nodup_append.mp n4.2.1
      have n6 := List.nodup_cons.mp n5.1
      have lA : ∀ b, b ∈ A → b ≠ l := fun b hb z => n1.2.2 b hb l (by simp) z
      have lB : ∀ b, b ∈ B → b ≠ l := fun b hb z => n2.2.2 l (by simp) b hb z.symm
      have lo_ne : lo ≠ l := fun z => n3.1 (by rw [z]; simp)
      have lA2 : ∀ b, b ∈ A2 → b ≠ l := fun b hb z => n4.2.2 b hb l (by simp) z
      have lB2 : ∀ b, b ∈ B2 → b ≠ l := fun b hb z => n5.2.2 l (by simp) b hb z.symm
      have lT : ∀ b, b ∈ T → b ≠ l := fun b hb z => n6.1 (by rw [← z]; exact hb)
      have fut : Fut H (Pp W O []) (upd H l (.lst (zs ++ [v]))) (Pp W O []) := fun b o e nb => by
        have nl : b ≠ l := fun z => nb (.inr (.inl (z ▸ hl)))
        exact ⟨by rw [upd_ne nl]; exact e, nb⟩
      have keepT : ∀ b, b ∈ T → ∀ o, H b = some o → (upd H l (.lst (zs ++ [v]))) b = some o := fun b hb o eo => by rw [upd_ne (lT b hb)]; exact eo
      have inn := k2 _ _ fut (fun b hb o eo => by
        rw [upd_ne (hb.elim (lA2 b) (lB2 b))]; exact eo) (zs ++ [v]) (ys ++ [.d x]) (T ++ []) upd_same ((u3.fut fut keepT).snoc (.d (hx _ _)))
      rw [List.append_nil, ← u4] at inn
      have re := k _ _ fut (fun b hb o eo => by rw [upd_ne (hb.elim (lA b) (lB b))]; exact eo) (some (.ref lo)) (.lo (.ol (xs.set n (.ol (ys ++ [.d x]))))) (lo :: S1) (.lo (.ol (by rw [upd_ne lo_ne]; exact h1) inn))
      have e3 : σ.set i (some (.ref lo)) = σ := by
        obtain ⟨g1, g2⟩ := List.getElem?_eq_some_iff.mp e2
        rw [← g2, List.set_getElem_self]
      rw [e3, ← e1] at re
      have tr' : ∀ b, H b ≠ none → (upd H l (.lst (zs ++ [v]))) b ≠ none := fun b hb => by
        by_cases nb : b = l
        · subst nb; rw [upd_same]; exact fun z => nomatch z
        · rw [upd_ne nb]; exact hb
      refine ⟨fun b o eo nb => ?_, fun b hb => .inl hb, ⟨re, ok.nd, fun a ha => ⟨(ok.w a ha).1, tr' a (ok.w a ha).2⟩, fun b hb => tr' b (ok.tr b hb)⟩, fun _ _ => rfl, rfl⟩
      rw [upd_ne (fun z => nb (by rw [z]; exact hl))]; exact eo
/-- a slot that is forgotten, whatever stands there -/
theorem okk_un (ok : Okk K H W σ ρ O) (hj : j < ρ.length) (o : Option V) : ∃ O', O'.Sublist O ∧ Okk K H W (σ.set j o) (ρ.set j .un) O' := by
  obtain ⟨A, S, B, ov, e1, e2, r, k⟩ := ok.re.at3 (List.getElem?_eq_getElem hj)
  have fut : Fut H (Pp W O []) H (Pp W (A ++ ([] ++ B)) []) := fun b o eo nb => ⟨eo, fun z => by
    rcases z with z | z | z
    · exact nb (.inl z)
    · refine nb (.inr (.inl ?_))
      rw [e1]
      rcases List.mem_append.mp z with z | z
      · exact List.mem_append_left _ z
      · exact List.mem_append_right _ (List.mem_append_right _ z)
    · exact nomatch z⟩
  have sub : (A ++ ([] ++ B)).Sublist O := by
    rw [e1, List.nil_append]
    exact List.Sublist.append_left (List.sublist_append_right S B) A
  refine ⟨A ++ ([] ++ B), sub, k _ _ fut (fun _ _ _ e => e) o .un [] (.un _), sub.nodup ok.nd, fun a ha => ⟨fun z => (ok.w a ha).1 (sub.subset z), (ok.w a ha).2⟩, fun b hb => ok.tr b (sub.subset hb)⟩
end
/-! ### for y in xs: y.append(None) -/
section
variable {X : Cx} {M : Mach} {i j : Nat} {y1 y2 : Str} {p1 p2 p3 p4 p5 apos cpos pos : Pos} {jj : Nat}
def appd (c : D) : Val → Val
  | .ol ys => .ol (ys ++ [.d c])
  | v => v
theorem upto_set (f : Val → Val) : ∀ (xs : List Val) (n : Nat) (h : n < xs.length), ((xs.take n).map f ++ xs.drop n).set n (f xs[n]) = (xs.take (n + 1)).map f ++ xs.drop (n + 1)
  | x :: xs, 0, _ => by simp
  | x :: xs, n + 1, h => by
    have ih := upto_set f xs n (by simpa using h)
    simp only [List.take_succ_cons, List.map_cons, List.drop_succ_cons, List.cons_append, List.set_cons_succ, List.getElem_cons_succ, ih]
theorem ss_appEach (hp : PassesOwn (model X.prog X.w) X.A X.env X.xe) (hc : X.calm = true) (hN : X.N.Nodup) (hi : X.N[i]? = some y1) (hvi : Vis X.env.scope y1) (d1 : (y1 == ("__debug__" : Str)) = false) (d2 : (y1 == ("__classdict__" : Str)) = false)
    (hj : X.N[j]? = some y2) (hl : Loc X.env.scope y2) (hf : X.fn y2 = true ∨ X.env.scope.names.lookup y2 = some .local) (hvj : Vis X.env.scope y2) (d3 : (y2 == ("__debug__" : Str)) = false) (d4 : (y2 == ("__classdict__" : Str)) = false) (hline : (apos.endLine == cpos.line) = true) :
    SS X M (.For (.Name y2 p1) (.Name y1 p2) [.Expr (.Call (.Attribute (.Name y2 p3) "append" apos) [.Constant .none jj p4] [] cpos) p5] [] pos) (.appEach i j (.cst .non)) := by
  have body := pss_one (ps_expr (pos := p5) (pe_bm PySem.F.plainAttrs_list PySem.F.slot_list_append PySem.F.type_list_append mt_append (pe_var (pos := p3) hj hvj d3 d4) (pa_cons (pe_non (X := X) (pos := p4) (j := jj)) pa_nil rfl) rfl (by rfl) hline rfl rfl) rfl)
  refine (ps_for hp hc (pi_seq (pe_var (pos := p2) hi hvi d1 d2)) (pg_name (pos := p1) hN hj hl hf) body (fun x => rfl)).imp fun D σ H ⟨W, ρ, O, o, ok, he, f⟩ => ?_
  unfold exec at he
  split at he
  case h_2 => cases he
  rename_i x0 xs eqe g
  cases eqe
  split at he
  case isFalse => cases he
  rename_i hcond
  cases he
  simp only [Bool.and_eq_true, decide_eq_true_eq, bne_iff_ne, ne_eq, Bool.not_eq_true'] at hcond
  obtain ⟨hall, hij, hio, hjl⟩ := hcond
  have il : i < ρ.length := by
    unfold getS at g
    split at g
    · rename_i z eq; exact (List.getElem?_eq_some_iff.mp eq).1
    · cases g
  let up : Nat → List Val := fun n => (xs.take n).map (appd .non) ++ xs.drop n
  let rn : Nat → Env := fun n => (ρ.set j .un).set i (.lo (.ol (up n)))
  have rn_un : ∀ n, (rn n).set j .un = rn n := fun n => by
    show ((ρ.set j .un).set i _).set j .un = _
    rw [List.set_comm _ _ hij, List.set_set]
  have rn_i : ∀ n, getS (rn n) i = some (.ol (up n)) := fun n => by
    unfold getS
    show (match ((ρ.set j .un).set i (.lo (.ol (up n))))[i]? with | some (.lo v) => some v | _ => none) = _
    rw [List.getElem?_set_self (by rw [List.length_set]; exact il)]
  have rn_len : ∀ n, (rn n).length = ρ.length := fun n => by
    show ((ρ.set j .un).set i _).length = _
    rw [List.length_set, List.length_set]
  have rn_0 : rn 0 = ρ.set j .un := by
    show (ρ.set j .un).set i (.lo (.ol ((xs.take 0).map (appd .non) ++ xs.drop 0))) = _
    rw [List.take_zero, List.map_nil, List.nil_append, List.drop_zero]
    have e0 : (ρ.set j .un)[i]? = some (.lo (.ol xs)) := by
      rw [List.getElem?_set_ne (Ne.symm hij)]
      unfold getS at g
      split at g
      · rename_i z eq; cases g; exact eq
      · cases g
    obtain ⟨h1, h2⟩ := List.getElem?_eq_some_iff.mp e0
    rw [← h2, List.set_getElem_self]
  have rn_s : ∀ n (hn : n < xs.length), putS (rn n) i (.ol ((up n).set n (appd .non xs[n]))) = rn (n + 1) := fun n hn => by
    show ((ρ.set j .un).set i _).set i _ = (ρ.set j .un).set i _
    rw [List.set_set]
    show (ρ.set j .un).set i (.lo (.ol (((xs.take n).map (appd .non) ++ xs.drop n).set n (appd .non xs[n])))) = _
    rw [upto_set]
  obtain ⟨l0, us0, e0, hl0⟩ := var_ol ok.re (show isOl ρ i = true by unfold isOl; rw [g])
  refine ⟨.ref l0, e0, .inl ⟨l0, us0, rfl, SqL.of hl0, ?_⟩⟩
  refine ⟨fun n m σ' H' => m = xs.length - n ∧ n ≤ xs.length ∧ ∃ O2, σ'[i]? = some (some (.ref l0)) ∧ Stp X.K M.io H W O σ H' O2 σ' (rn n), ⟨_, rfl, Nat.zero_le _, ?_⟩, ?_⟩
  · obtain ⟨O1, sub, ok1⟩ := okk_un ok hjl ((σ[j]?).getD none)
    have es : σ.set j ((σ[j]?).getD none) = σ := by
      apply List.ext_getElem?
      intro q
      rw [List.getElem?_set]
      by_cases hq : j = q
      · subst hq
        by_cases hl : j < σ.length
        · simp [hl]
        · simp [hl]
      · simp [hq]
    rw [es] at ok1
    rw [rn_0]
    exact ⟨O1, e0, fun _ _ e _ => e, fun b hb => .inl (sub.subset hb), ok1, fun _ _ => rfl, rfl⟩
  · rintro n m σ' H' ⟨rfl, hn, O2, ei, st⟩
    have hus : ∃ us, H' l0 = some (.lst us) ∧ us.length = xs.length := by
      obtain ⟨A, Si, B, u, _, e2, r⟩ := st.ok.re.val (rn_i n)
      rw [ei] at e2
      cases e2
      cases r with
      | ol h1 h2 =>
        refine ⟨_, h1, ?_⟩
        rw [h2.length]
        show ((xs.take n).map (appd .non) ++ xs.drop n).length = _
        rw [List.length_append, List.length_map, List.length_take, List.length_drop]; omega
    obtain ⟨us, hus, hul⟩ := hus
    by_cases hlt : n < xs.length
    · right
      have en : (up n)[n]? = some xs[n] := by
        show ((xs.take n).map (appd .non) ++ xs.drop n)[n]? = _
        rw [List.getElem?_append_right (by rw [List.length_map, List.length_take]; omega), List.length_map, List.length_take, Nat.min_eq_left (by omega), Nat.sub_self, List.getElem?_drop, Nat.add_zero, List.getElem?_eq_getElem hlt]
      have hx := List.all_eq_true.mp hall xs[n] (List.getElem_mem hlt)
      obtain ⟨ys, hys⟩ : ∃ ys, xs[n] = .ol ys := by
        cases q : xs[n] with
        | ol ys => exact ⟨ys, rfl⟩
        | d z => rw [q] at hx; cases hx
      rw [hys] at hx en
      have hx' : ys.length < line := of_decide_eq_true hx
      have gu : us[n]? = some us[n] := List.getElem?_eq_getElem (by omega)
      refine ⟨⟨us, us[n], SqL.of hus, gu⟩, fun σ3 H3 => ∃ O3, σ3[i]? = some (some (.ref l0)) ∧ Stp X.K M.io H W O σ H3 O3 σ3 (rn (n + 1)), fun σ3 H3 z => ⟨xs.length - (n + 1), by omega, rfl, hlt, z⟩, fun v H2 y => ?_⟩
      obtain ⟨rfl, y⟩ := y
      have ev : us[n] = v := by
        have := y us (SqL.of hus)
        rw [gu] at this
        exact Option.some.inj this
      -- the slot j bears the list at n
      obtain ⟨O3, sub, ok3⟩ := okk_un st.ok (j := j) (by rw [rn_len]; exact hjl) (some v)
      rw [rn_un] at ok3
      have ei3 : (σ'.set j (some v))[i]? = some (some (.ref l0)) := by rw [List.getElem?_set_ne (Ne.symm hij)]; exact ei
      obtain ⟨lo, us', l, zs, q1, q2, q3, q4, q5, q6, st3⟩ := own_inner (io := M.io) (x := .non) (v := .non) ok3 (rn_i n) en (fun _ _ => .non)
      rw [ei3] at q1
      cases q1
      rw [hus] at q2
      cases q2
      rw [gu, ev] at q4
      cases q4
      have jl : j < σ'.length := by
        rw [st.len]
        have := ok.re.length
        omega
      have ej : (σ'.set j (some (V.ref l)))[j]? = some (some (V.ref l)) := List.getElem?_set_self jl
      refine ⟨.ref l, ej, .inl ⟨rfl, _, SqL.of q5⟩, ⟨l, zs, .non, rfl, rfl, q5, by rw [q6]; exact hx', O3, ei3, ?_⟩⟩
      have e5 := rn_s n hlt
      rw [hys] at e5
      rw [show (Val.ol (ys ++ [.d .non])) = appd .non (.ol ys) from rfl, e5] at st3
      refine ⟨fun b o eo nb => st3.keep b o (st.keep b o eo nb) fun z => ?_, fun b hb => ?_, st3.ok, fun q hq => ?_, ?_⟩
      · rcases st.new b (sub.subset z) with w | w
        · exact nb w
        · rw [w] at eo; cases eo
      · exact st.new b (sub.subset hb)
      · have hqj : q ≠ j := fun z => by rw [z, hio] at hq; cases hq
        rw [List.getElem?_set_ne (Ne.symm hqj)]
        exact st.io q hq
      · rw [List.length_set]; exact st.len
    · left
      have hn' : n = xs.length := by omega
      refine ⟨⟨us, SqL.of hus, by omega⟩, ?_⟩
      subst hn'
      have ef : rn xs.length = (putS ρ i (.ol (xs.map fun v => match v with
          | .ol ys => .ol (ys ++ [.d .non])
          | v => v))).set j .un := by
        show (ρ.set j .un).set i (.lo (.ol ((xs.take xs.length).map (appd .non) ++ xs.drop xs.length))) = _
        rw [List.take_length, List.drop_length, List.append_nil, List.set_comm _ _ (Ne.symm hij)]
        rfl
      rw [ef] at st
      exact f _ _ _ st
/-! ### told[0].append(None) -/
theorem ss_appAt {y : Str} {k2 : Nat} {p6 : Pos} {k : Int} (hi : X.N[i]? = some y) (hvi : Vis X.env.scope y) (d1 : (y == ("__debug__" : Str)) = false) (d2 : (y == ("__classdict__" : Str)) = false) (hline : (apos.endLine == cpos.line) = true) :
    SS X M (.Expr (.Call (.Attribute (.Subscript (.Name y p1) (.Constant (.int k) k2 p2) p6) "append" apos) [.Constant .none jj p4] [] cpos) p5) (.appAt i (.cst (.int k)) (.cst .non)) := by
  refine (ps_expr (pos := p5) (pe_bm PySem.F.plainAttrs_list PySem.F.slot_list_append PySem.F.type_list_append mt_append (pe_ix (pos := p6) ix_list (pe_var (pos := p1) hi hvi d1 d2) (pe_int (X := X) (i := k) (j := k2) (pos := p2)) (fun _ _ => rfl)) (pa_cons (pe_non (X := X) (pos := p4) (j := jj)) pa_nil rfl) rfl (by rfl) hline rfl rfl) rfl).imp fun D σ H ⟨W, ρ, O, o, ok, he, f⟩ => ?_
  unfold exec at he
  split at he
  case h_2 => cases he
  rename_i k0 e0 g0 j xs g eqk eqe
  cases eqk
  obtain ⟨m, e1, he⟩ := Option.bind_eq_some_iff.mp he
  split at he
  case h_2 => cases he
  rename_i ys ey
  split at he
  case isFalse => cases he
  rename_i hlen
  cases he
  obtain ⟨lo, us, l, zs, q1, q2, q3, q4, q5, q6, st⟩ := own_inner (io := M.io) (x := .non) (v := .non) ok eqe ey (fun _ _ => .non)
  refine ⟨.ref lo, q1, ⟨lo, us, k, .ref l, rfl, rfl, SqL.of q2, ?_, .inl ⟨rfl, _, SqL.of q5⟩, ⟨l, zs, .non, rfl, rfl, q5, by rw [q6]; exact hlen, f _ _ _ st⟩⟩⟩
  have ek : k = j := by cases g; rfl
  rw [ek]
  unfold L2.atI
  rw [q3, e1]
  exact q4
end
end Pu

set_option Elab.async false
set_option maxRecDepth 100000
set_option maxHeartbeats 4000000
namespace Pu
open PySem L2 RZ RT PyProof.Rows PyProof

/-! ### name += e, whole numbers -/
def augT : Op → TIp
  | .add => ipI fun i j => i + j
  | .sub => ipI fun i j => i - j
  | _ => fun _ _ _ _ => False
def augP : Op → Operator
  | .add => .Add | .sub => .Sub | .mul => .Mult | .fdiv => .FloorDiv | .mod => .Mod | .pow => .Pow
theorem aug_pip {X : Cx} (o : Op) (h : o = .add ∨ o = .sub) : PIp X (augP o) (augT o) := by
  rcases h with rfl | rfl
  · exact ip_add
  · exact ip_sub
section
variable {X : Cx} {M : Mach} {e : Expr} {A : E} {i : Nat} {o : Op} {N : Ends} {σ : L2.St} {H : Hp} {pos py : Pos}
theorem aug_inv {x y z : D} (h : augop o x y = some z) : ∃ n m k : Int, x = .int n ∧ y = .int m ∧ z = .int k ∧ (o = .add ∨ o = .sub) ∧ ∀ (H : Hp) (Q : VK), Q (.int k) H → augT o (.int n) (.int m) H Q := by
  unfold augop at h
  split at h
  · cases h; exact ⟨_, _, _, rfl, rfl, rfl, .inl rfl, fun H Q q => ⟨_, _, rfl, rfl, q⟩⟩
  · cases h; exact ⟨_, _, _, rfl, rfl, rfl, .inr rfl, fun H Q q => ⟨_, _, rfl, rfl, q⟩⟩
  · cases h
theorem aug_imp {K : PySem.W.Frag} (h : tS K M (.aug i o A) N σ H) : tAug i (tE K M A) (augT o) N σ H := by
  obtain ⟨W, ρ, O, ot, ok, he, f⟩ := h
  unfold exec at he
  split at he
  · rename_i x hx
    obtain ⟨⟨r, ρ1⟩, e1, he⟩ := Option.bind_eq_some_iff.mp he
    obtain ⟨y, e2, he⟩ := Option.bind_eq_some_iff.mp he
    obtain ⟨z, e3, he⟩ := Option.bind_eq_some_iff.mp he
    obtain ⟨ρ3, e4, rfl⟩ := Option.map_eq_some_iff.mp he
    obtain ⟨n, m, k, rfl, rfl, rfl, _, hq⟩ := aug_inv e3
    obtain ⟨_, _, _, u, _, hu, ru⟩ := ok.re.val hx
    have eu : u = .int n := by cases ru with | d q => cases q; rfl
    subst eu
    refine ⟨_, hu, W, ρ, O, r, ρ1, ok, e1, fun H1 O1 S1 v p => ?_⟩
    have dv := dat_ok p.re p.rr.one e2
    have ev : v = .int m := by
      generalize hz : toPy (Pu.D.int m) = dz at dv
      cases dv <;> first | (cases hz; rfl) | cases hz
    subst ev
    refine hq H1 _ (p.giveD ok (z := .int k) (v := .int k) (Q := fun v H => N.nx (σ.set i (some v)) H) (fun H3 S3 v q => ?_) (.int _))
    obtain ⟨O3, s, _, _⟩ := asg_ok (q.hld ok) e4
    refine f H3 O3 _ ⟨fun b o e n => s.keep b o (q.keep b o e n) fun z => ?_, fun b z => ?_, s.ok, s.io, s.len⟩
    · rcases q.new b (List.mem_append.mp z) with z | z
      · exact n z
      · rw [z] at e; cases e
    · rcases s.new b z with z | z
      · exact q.new b (List.mem_append.mp z)
      · by_cases hb : b ∈ O
        · exact .inl hb
        · cases e : H b with
          | none => exact .inr rfl
          | some o => rw [q.keep b o e hb] at z; cases z
  · cases he
theorem ss_aug {y : Str} (h : o = .add ∨ o = .sub) (hN : X.N.Nodup) (hi : X.N[i]? = some y) (hx : Loc X.env.scope y) (he : SE X M e A) (hf : X.fn y = true ∨ X.env.scope.names.lookup y = some .local) :
    SS X M (.AugAssign (.Name y py) (augP o) e pos) (.aug i o A) := (ps_aug hN hi hx he (aug_pip o h) hf).imp fun _ _ _ h => aug_imp h
end
end Pu

set_option Elab.async false
set_option maxRecDepth 100000
set_option maxHeartbeats 3200000
/-! Sets: what stands at a set's address when its elements were put in one by one. -/
namespace Pu.Sx
open PySem PyProof.Rows L2
open PySem.W (EachIs)

theorem each_perm {α β : Type} {R : α → β → Prop} {l l' : List α} (p : l'.Perm l) : ∀ {m : List β}, EachIs R l m → ∃ m', m'.Perm m ∧ EachIs R l' m' := by
  induction p with
  | nil => intro m e; exact ⟨m, .refl _, e⟩
  | cons x _ ih =>
    intro m e
    cases e with
    | cons h t =>
      obtain ⟨m', q, e'⟩ := ih t
      exact ⟨_ :: m', q.cons _, .cons h e'⟩
  | swap x y l =>
    intro m e
    cases e with
    | cons h t => cases t with
      | cons h2 t => exact ⟨_, .swap _ _ _, .cons h2 (.cons h t)⟩
  | trans _ _ ih1 ih2 =>
    intro m e
    obtain ⟨m1, q1, e1⟩ := ih2 e
    obtain ⟨m2, q2, e2⟩ := ih1 e1
    exact ⟨m2, q2.trans q1, e2⟩
theorem each_len {α β : Type} {R : α → β → Prop} : ∀ {l : List α} {m : List β}, EachIs R l m → l.length = m.length
  | _, _, .nil => rfl
  | _, _, .cons _ t => congrArg (· + 1) (each_len t)
theorem each_mem {α β : Type} {R : α → β → Prop} : ∀ {l : List α} {m : List β}, EachIs R l m → ∀ x ∈ l, ∃ y ∈ m, R x y
  | _, _, .cons h t, x, hx => by
    rcases List.mem_cons.mp hx with rfl | hx
    · exact ⟨_, List.mem_cons_self .., h⟩
    · obtain ⟨y, hy, r⟩ := each_mem t x hx
      exact ⟨y, List.mem_cons_of_mem _ hy, r⟩
theorem each_mem' {α β : Type} {R : α → β → Prop} : ∀ {l : List α} {m : List β}, EachIs R l m → ∀ y ∈ m, ∃ x ∈ l, R x y
  | _, _, .cons h t, y, hy => by
    rcases List.mem_cons.mp hy with rfl | hy
    · exact ⟨_, List.mem_cons_self .., h⟩
    · obtain ⟨x, hx, r⟩ := each_mem' t y hy
      exact ⟨x, List.mem_cons_of_mem _ hx, r⟩
/-- what the new set is, before anything is put in -/
def fresh (w : World) : Obj := { cls := .type "set", dict := none, data := .set #[] 0 (.fresh 0 0 (!w.params.followText "set-order")) }
theorem fresh_led (w : World) : w.params.followText "set-order" = true ∨ (SetTable.fresh 0 0 (!w.params.followText "set-order")).led = true := by
  show _ ∨ (!w.params.followText "set-order") = true
  cases w.params.followText "set-order"
  · exact .inr rfl
  · exact .inl rfl
/-- a set that can be walked -/
structure SWk (w : World) (h : Heap) (a : Addr) (es : Array (Int × Value)) (ep : Nat) (t : SetTable) : Prop where
  ob : ∃ o, h.get? a = some o ∧ o.ExactSet ∧ o.data = .set es ep t
  sz : es.size < scanBound
  fits : t.fits es.size = true
  ris : Ris t.place.toList
  led : w.params.followText "set-order" = true ∨ t.led = true
theorem SWk.keep {w : World} {h h' : Heap} {a : Addr} {es : Array (Int × Value)} {ep : Nat} {t : SetTable} (R : SWk w h a es ep t) (k : ∀ o, h.get? a = some o → h'.get? a = some o) : SWk w h' a es ep t := by
  obtain ⟨⟨o, e, x, d⟩, r1, r2, r3, r4⟩ := R
  exact ⟨⟨o, k o e, x, d⟩, r1, r2, r3, r4⟩

/-! ### set(xs), by what each element does -/
section
variable {P : Program} {w : World} {A : Around} {E : Value → Shared → Prop} {s : Shared}
/-- In i h S: what is so of the set at S behind i elements -/
structure Puts (P : Program) (w : World) (A : Around) (h0 : Heap) (items : Array Value) (In : Nat → Heap → Addr → Prop) : Prop where
  new : ∀ h S, h.get? S = some (fresh w) → In 0 h S
  keep : ∀ i h h' S, i ≤ items.size → (∀ b o, h0.get? b = some o → h'.get? b = some o) → (∀ o, h.get? S = some o → h'.get? S = some o) → In i h S → In i h' S
  step : ∀ (i : Nat) (v : Value) (s : Shared) (S : Addr) (E : Value → Shared → Prop) (Q : Bool → Shared → Prop), items[i]? = some v → h0.get? S = none → (∀ b o, h0.get? b = some o → s.heap.get? b = some o) → In i s.heap S →
    (∀ b h' tk, s.toks ≤ tk → Heap.SameBut S s.heap h' → In (i + 1) h' S → Q b { s with heap := h', toks := tk }) → wpAny (model P w) A (setAdd S v) Q E s
variable {items : Array Value} {In : Nat → Heap → Addr → Prop} {h0 : Heap}
theorem puts_loop {I : Addr} {fp wr : List Addr} {G : Array GenState → Array GenState → Prop} {n : Nat} {Pv : Nat → Value → Prop} {St : Nat → Shared → Prop} {R : Result → Shared → Prop} (p : Puts P w A.in1 h0 items In)
    (W : WalksS P w A.in1 I fp wr G n Pv St) (S : Addr) (hS : S ∉ fp) (hn : n ≤ items.size) (hv : ∀ i v, Pv i v → items[i]? = some v) (hS0 : h0.get? S = none) (hw0 : ∀ b ∈ wr, h0.get? b = none) :
    ∀ (k i : Nat) (s : Shared), n - i = k → i ≤ n → St i s → (∀ b o, h0.get? b = some o → s.heap.get? b = some o) → In i s.heap S →
      (∀ s', Moved (S :: wr) G s s' → In n s'.heap S → (∀ b o, h0.get? b = some o → s'.heap.get? b = some o) → R (.ok (.ret .none)) s') →
      codeAny (model P w) A (.builtin "set.update.loop" ⟨[.ref S, .ref I], []⟩) R s := by
  have out : S ∉ wr := fun h => hS (W.sub _ h)
  have old : ∀ {s s' : Shared}, Moved wr G s s' → (∀ b o, h0.get? b = some o → s.heap.get? b = some o) → ∀ b o, h0.get? b = some o → s'.heap.get? b = some o := fun m q b o e =>
    m.heap b o (fun z => by rw [hw0 b z] at e; cases e) (q b o e)
  have up : ∀ {s s' : Shared}, Moved wr G s s' → Moved (S :: wr) G s s' := fun m => m.mono fun b hb => List.mem_cons_of_mem _ hb
  intro k
  induction k with
  | zero =>
    intro i s hk hi st q hin hR
    obtain rfl : i = n := by omega
    refine codeAny_builtin F.entry_set_update_loop ?_
    rw [Around.under_plainId F.plain_set_update_loop _]
    show wpAny _ A.in1 (pyNext (.ref I) >>= _) _ _ s
    refine wpAny_bind (W.done s _ _ st fun s' m => ?_)
    show wpAny _ A.in1 (ret Value.none) _ _ s'
    exact wpAny_pure (hR s' (up m) (p.keep _ _ _ _ hn (old m q) (fun o e => m.heap S o out e) hin) (old m q))
  | succ k ih =>
    intro i s hk hi st q hin hR
    have hlt : i < n := by omega
    refine codeAny_builtin F.entry_set_update_loop ?_
    rw [Around.under_plainId F.plain_set_update_loop _]
    show wpAny _ A.in1 (pyNext (.ref I) >>= _) _ _ s
    refine wpAny_bind (W.item i s _ _ hlt st fun v s' hP st' m => ?_)
    have q' := old m q
    show wpAny _ A.in1 (holding [v] (setAdd S v) >>= _) _ _ s'
    refine wpAny_bind (wpAny_holding ?_)
    refine p.step i v s' S _ _ (hv i v hP) hS0 q' (p.keep _ _ _ _ (by omega) q' (fun o e => m.heap S o out e) hin) fun b h' tk htk sb hin' => ?_
    have q2 : ∀ b o, h0.get? b = some o → h'.get? b = some o := fun b o e => (sb.2 b (fun z => by rw [z, hS0] at e; cases e)).trans (q' b o e)
    refine wpAny_pure ⟨plainId_quiet F.plain_set_update_loop _, ih (i + 1) _ (by omega) hlt (W.frame _ s' _ _ st' htk fun b hb o e => ?_) q2 hin' fun s2 m2 in2 q3 => ?_⟩
    · rw [sb.2 b (fun z : b = S => hS (z ▸ hb))]; exact e
    · refine hR s2 (Moved.trans W.gtrans ((up m).then_heap htk fun b o hb e => ?_) m2) in2 q3
      rw [sb.2 b (fun z : b = S => hb (z ▸ List.mem_cons_self ..))]; exact e

set_option maxHeartbeats 6400000 in
/-- set(x) of a list -/
theorem set_of_list {l : Addr} {Q : Value → Shared → Prop} (hh : A.handled = none) (hl : s.heap.IsList l items) (p : ∀ A' : Around, A'.units ≤ A.units + 3 → Puts P w A' s.heap items In)
    (h : ∀ (h' : Heap) (tk : Nat), In items.size h' s.heap.objs.size → (∀ b o, s.heap.get? b = some o → h'.get? b = some o) → Q (.ref s.heap.objs.size) { s with heap := h', toks := tk }) : wpAny (model P w) A (call (.type "set") [.ref l]) Q E s := by
  obtain ⟨c, tl, hmro⟩ := F.called_set.mro
  have made := F.called_set.made
  have subs := F.called_set.sub
  refine wpAny_call (codeAny_of_tree ?_)
  show wpAny _ _ (callAny (.type "set") _) _ _ _
  refine wpAny_pure ⟨Code.quiet_builtin _ (by decide +kernel), codeAny_builtin F.entry_type_call ?_⟩
  rw [Around.under_plain (weight_type_call_type "set" [.ref l] []) rfl]
  have g1 := F.called_set.notType
  have g2 := F.called_set.canCreate
  have g3 := F.typeCall_set_1 (.ref l)
  repeat (any_goals (first | assumption | wp_step))
  refine codeAny_mono (code_set_led1 (.ref l) (E := E) (Q₁ := fun obj s1 => obj = .ref s.heap.objs.size ∧ s1 = { s with heap := s.heap.push (fresh w) }) ⟨rfl, rfl⟩) fun r s1 hr => ?_
  cases r with
  | error e => exact hr
  | ok fl =>
    cases fl with
    | ret obj =>
      obtain ⟨rfl, rfl⟩ := hr
      have at0 : (s.heap.push (fresh w)).get? s.heap.objs.size = some (fresh w) := Heap.get?_push_size _ rfl
      have ty0 : Shared.TypeIs { s with heap := s.heap.push (fresh w) } (.ref s.heap.objs.size) "set" := ⟨_, at0, rfl⟩
      have li := F.called_set.init.lookup
      have bi := F.called_set.init.bind (.ref s.heap.objs.size)
      repeat (any_goals (first | assumption | wp_step))
      refine codeAny_mono (codeAny_call_builtin (R := wants (fun r s2 => r = .none ∧ ∃ h' tk, s2 = { s with heap := h', toks := tk } ∧ In items.size h' s.heap.objs.size ∧ (∀ b o, s.heap.get? b = some o → h'.get? b = some o)) E) F.called_set.init.plain F.entry_set_init (check_set_init_1 ty0 ?_)) fun r2 s2 hr2 => ?_
      · have hl1 : (s.heap.push (fresh w)).IsList l items := hl.push _
        obtain ⟨ol, hol, hcl, nl, hdl⟩ := hl
        have hlS : l < s.heap.objs.size := Heap.lt_size hol
        have hol1 := Heap.get?_push_of_some (fresh w) hol
        obtain ⟨ocls, odict, odata, oslots⟩ := ol
        dsimp only at hcl hdl
        subst hcl; subst hdl
        have u1 := F.sub_list_set
        have u2 := F.sub_list_frozenset
        have u3 : (Value.type "list" == Value.type "dict") = false := by decide
        unfold Builtin.«set.__init__» noKeywords Builtin.Frozenset.updateFrom
        generalize hPI : pyIter = PI
        wp_walk
        subst hPI
        refine wpAny_pyIter_list hl1 ?_
        refine wpAny_bind (wpAny_runValue ?_)
        have hz : (s.heap.push (fresh w)).objs.size = s.heap.objs.size + 1 := Heap.size_push ..
        have neI : l ≠ (s.heap.push (fresh w)).objs.size := by rw [hz]; exact Nat.ne_of_lt (Nat.lt_succ_of_lt hlS)
        have nin : s.heap.objs.size ∉ [(s.heap.push (fresh w)).objs.size, l] := by
          rw [hz]; simp only [List.mem_cons, List.not_mem_nil, or_false, not_or]; exact ⟨Nat.ne_of_lt (Nat.lt_succ_self _), Nat.ne_of_gt hlS⟩
        have none_of : ∀ b, s.heap.objs.size ≤ b → s.heap.get? b = none := fun b hb => by
          cases q : s.heap.get? b with
          | none => rfl
          | some o => exact absurd (Nat.lt_of_lt_of_le (Heap.lt_size q) hb) (Nat.lt_irrefl _)
        refine puts_loop (p _ (Nat.le_refl _)) ((Walks.list (by simp [hh]) _ l neI items).toS) s.heap.objs.size nin (Nat.le_refl _) (fun i v e => e) (none_of _ (Nat.le_refl _))
          (fun b hb => none_of b (by rw [List.mem_singleton.mp hb, hz]; exact Nat.le_succ _)) (items.size - 0) 0 _ rfl (Nat.zero_le _) ⟨⟨_, Heap.get?_push_size _ rfl, rfl, rfl⟩, hl1.push _⟩ (fun b o e => Heap.get?_push_of_some _ (Heap.get?_push_of_some _ e)) ?in0 ?done
        case in0 => exact (p A.in1.in1.in1 (Nat.le_refl _)).new _ _ (Heap.get?_push_of_some _ at0)
        case done =>
          intro s' m i' q
          obtain ⟨h', g2, d', tk', os'⟩ := s'
          have eg : g2 = s.gens := m.gens
          have ed : d' = s.drawn := m.drawn
          have eo : os' = s.os := m.os
          subst eg; subst ed; subst eo
          show wpAny _ _ _ _ _ _
          refine wpAny_pure ?_
          show wpAny _ _ (ret Value.none) _ _ _
          exact wpAny_pure ⟨rfl, h', tk', rfl, i', q⟩
      · cases r2 with
        | error e => exact hr2
        | ok fl2 =>
          cases fl2 with
          | ret r =>
            obtain ⟨rfl, h', tk, rfl, i', q⟩ := hr2
            repeat (any_goals (first | assumption | wp_step))
            exact h _ _ i' q
          | _ => exact hr2.elim
    | _ => exact hr.elim

set_option maxHeartbeats 6400000 in
/-- set(x) of a tuple -/
theorem set_of_tuple {l : Addr} {Q : Value → Shared → Prop} (hh : A.handled = none) (hl : s.heap.IsTuple l items) (p : ∀ A' : Around, A'.units ≤ A.units + 3 → Puts P w A' s.heap items In)
    (h : ∀ (h' : Heap) (tk : Nat), In items.size h' s.heap.objs.size → (∀ b o, s.heap.get? b = some o → h'.get? b = some o) → Q (.ref s.heap.objs.size) { s with heap := h', toks := tk }) : wpAny (model P w) A (call (.type "set") [.ref l]) Q E s := by
  obtain ⟨c, tl, hmro⟩ := F.called_set.mro
  have made := F.called_set.made
  have subs := F.called_set.sub
  refine wpAny_call (codeAny_of_tree ?_)
  show wpAny _ _ (callAny (.type "set") _) _ _ _
  refine wpAny_pure ⟨Code.quiet_builtin _ (by decide +kernel), codeAny_builtin F.entry_type_call ?_⟩
  rw [Around.under_plain (weight_type_call_type "set" [.ref l] []) rfl]
  have g1 := F.called_set.notType
  have g2 := F.called_set.canCreate
  have g3 := F.typeCall_set_1 (.ref l)
  repeat (any_goals (first | assumption | wp_step))
  refine codeAny_mono (code_set_led1 (.ref l) (E := E) (Q₁ := fun obj s1 => obj = .ref s.heap.objs.size ∧ s1 = { s with heap := s.heap.push (fresh w) }) ⟨rfl, rfl⟩) fun r s1 hr => ?_
  cases r with
  | error e => exact hr
  | ok fl =>
    cases fl with
    | ret obj =>
      obtain ⟨rfl, rfl⟩ := hr
      have at0 : (s.heap.push (fresh w)).get? s.heap.objs.size = some (fresh w) := Heap.get?_push_size _ rfl
      have ty0 : Shared.TypeIs { s with heap := s.heap.push (fresh w) } (.ref s.heap.objs.size) "set" := ⟨_, at0, rfl⟩
      have li := F.called_set.init.lookup
      have bi := F.called_set.init.bind (.ref s.heap.objs.size)
      repeat (any_goals (first | assumption | wp_step))
      refine codeAny_mono (codeAny_call_builtin (R := wants (fun r s2 => r = .none ∧ ∃ h' tk, s2 = { s with heap := h', toks := tk } ∧ In items.size h' s.heap.objs.size ∧ (∀ b o, s.heap.get? b = some o → h'.get? b = some o)) E) F.called_set.init.plain F.entry_set_init (check_set_init_1 ty0 ?_)) fun r2 s2 hr2 => ?_
      · have hl1 : (s.heap.push (fresh w)).IsTuple l items := hl.push _
        obtain ⟨ol, hol, hcl, nl, hdl⟩ := hl
        have hlS : l < s.heap.objs.size := Heap.lt_size hol
        have hol1 := Heap.get?_push_of_some (fresh w) hol
        obtain ⟨ocls, odict, odata, oslots⟩ := ol
        dsimp only at hcl hdl
        subst hcl; subst hdl
        have u1 := F.sub_tuple_set
        have u2 := F.sub_tuple_frozenset
        have u3 : (Value.type "tuple" == Value.type "dict") = false := by decide
        unfold Builtin.«set.__init__» noKeywords Builtin.Frozenset.updateFrom
        generalize hPI : pyIter = PI
        wp_walk
        subst hPI
        refine wpAny_pyIter_tuple hl1 ?_
        refine wpAny_bind (wpAny_runValue ?_)
        have hz : (s.heap.push (fresh w)).objs.size = s.heap.objs.size + 1 := Heap.size_push ..
        have neI : l ≠ (s.heap.push (fresh w)).objs.size := by rw [hz]; exact Nat.ne_of_lt (Nat.lt_succ_of_lt hlS)
        have nin : s.heap.objs.size ∉ [(s.heap.push (fresh w)).objs.size, l] := by
          rw [hz]; simp only [List.mem_cons, List.not_mem_nil, or_false, not_or]; exact ⟨Nat.ne_of_lt (Nat.lt_succ_self _), Nat.ne_of_gt hlS⟩
        have none_of : ∀ b, s.heap.objs.size ≤ b → s.heap.get? b = none := fun b hb => by
          cases q : s.heap.get? b with
          | none => rfl
          | some o => exact absurd (Nat.lt_of_lt_of_le (Heap.lt_size q) hb) (Nat.lt_irrefl _)
        refine puts_loop (p _ (Nat.le_refl _)) ((Walks.tuple (by simp [hh]) _ l neI items).toS) s.heap.objs.size nin (Nat.le_refl _) (fun i v e => e) (none_of _ (Nat.le_refl _))
          (fun b hb => none_of b (by rw [List.mem_singleton.mp hb, hz]; exact Nat.le_succ _)) (items.size - 0) 0 _ rfl (Nat.zero_le _) ⟨⟨_, Heap.get?_push_size _ rfl, rfl, rfl⟩, hl1.push _⟩ (fun b o e => Heap.get?_push_of_some _ (Heap.get?_push_of_some _ e)) ?in0 ?done
        case in0 => exact (p A.in1.in1.in1 (Nat.le_refl _)).new _ _ (Heap.get?_push_of_some _ at0)
        case done =>
          intro s' m i' q
          obtain ⟨h', g2, d', tk', os'⟩ := s'
          have eg : g2 = s.gens := m.gens
          have ed : d' = s.drawn := m.drawn
          have eo : os' = s.os := m.os
          subst eg; subst ed; subst eo
          show wpAny _ _ _ _ _ _
          refine wpAny_pure ?_
          show wpAny _ _ (ret Value.none) _ _ _
          exact wpAny_pure ⟨rfl, h', tk', rfl, i', q⟩
      · cases r2 with
        | error e => exact hr2
        | ok fl2 =>
          cases fl2 with
          | ret r =>
            obtain ⟨rfl, h', tk, rfl, i', q⟩ := hr2
            repeat (any_goals (first | assumption | wp_step))
            exact h _ _ i' q
          | _ => exact hr2.elim
    | _ => exact hr.elim
end
end Pu.Sx

set_option Elab.async false
set_option maxRecDepth 100000
set_option maxHeartbeats 3200000
/-! Sets of whole numbers and texts. -/
namespace Pu.Sx
open PySem PyProof.Rows L2
open PySem.W (EachIs)

section
variable {P : Program} {w : World} {A : Around} {E : Value → Shared → Prop} {s : Shared}
/-- an element, and what it is -/
def Ele (P : Program) (w : World) (e : Int × Value) (k : Key) : Prop := (mixKind P w).is k e.2 = true ∧ e.1 = (mixKind P w).hash k
theorem is_scan {k : Key} {v : Value} (h : (mixKind P w).is k v = true) : v.scannable = true := by
  rcases keyIs_shape h with ⟨i, t, rfl, rfl⟩ | ⟨x, t, rfl, rfl⟩ <;> rfl
theorem ele_elems {l : List (Int × Value)} {ks : List Key} (e : EachIs (Ele P w) l ks) : ElemsOf (mixKind P w) l := fun x hx => by
  obtain ⟨k, _, h1, h2⟩ := each_mem e x hx
  exact ⟨⟨k, h1, h2⟩, is_scan h1⟩
theorem ele_find {l : List (Int × Value)} {ks : List Key} (e : EachIs (Ele P w) l ks) (k : Key) : (∃ x ∈ l, (mixKind P w).is k x.2 = true) ↔ k ∈ ks := by
  constructor
  · rintro ⟨x, hx, h⟩
    obtain ⟨k', hk', h', _⟩ := each_mem e x hx
    rw [(mixKind P w).inj _ _ _ h h']; exact hk'
  · intro hk
    obtain ⟨x, hx, h, _⟩ := each_mem' e k hk
    exact ⟨x, hx, h⟩
/-- the set at a has the keys ks -/
def Keys (P : Program) (w : World) (h : Heap) (a : Addr) (ks : List Key) : Prop := ∃ es ep t, SWk w h a es ep t ∧ EachIs (Ele P w) es.toList ks ∧ ks.Nodup
theorem gave_end (b : Bool) {s : Shared} {Q : Unit → Shared → Prop} (h : Q () s) : wpAny (model P w) A (match b with | true => rule "set.scan.the-table-gave-way" | false => pure ()) Q E s := by
  cases b
  · exact wpAny_pure h
  · exact wpAny_rule h
theorem lay_keys {g : Bool → Sem Unit} (hg : ∀ (b : Bool) (s : Shared) (Q : Unit → Shared → Prop), Q () s → wpAny (model P w) A (g b) Q E s) {a : Addr} {o : Obj} {es es' : Array (Int × Value)} {ep : Nat} {t t' : SetTable} {ks : List Key} (ho : s.heap.get? a = some o) (hx : o.ExactSet) (hd : o.data = .set es ep t)
    (e : EachIs (Ele P w) es'.toList ks) (nd : ks.Nodup) (hb : es'.size < scanBound) (hf : t'.fits es'.size = true) (hr : Ris t'.place.toList) (hl : w.params.followText "set-order" = true ∨ t'.led = true) {wd : Bool} {R : Option Bool → Shared → Prop}
    (hR : ∀ h' ks', Heap.SameBut a s.heap h' → Keys P w h' a ks' → ks'.Perm ks → R (some true) { s with heap := h' }) :
    wpAny (model P w) A (do
        storeSet a es' t'
        if (!wd && t'.tooFull) = true then do
            g (relayAll t' es' (SetTable.grown es'.size)).2.2
            storeSet a (relayAll t' es' (SetTable.grown es'.size)).1 (relayAll t' es' (SetTable.grown es'.size)).2.1
            pure (some true)
          else pure (some true)) R E s := by
  have ho1 := store_at (es' := es') (t' := t') ho hd
  have sb1 := Heap.SameBut.update s.heap a (Obj.putSet es' t')
  refine wpAny_bind (wpAny_storeSet_of ho hd ?_ (fits_of_scanBound hb))
  split
  · obtain ⟨es2, t2, gave, hZ⟩ : ∃ es2 t2 gave, relayAll t' es' (SetTable.grown es'.size) = (es2, t2, gave) := ⟨_, _, _, rfl⟩
    have p := relayAll_perm t' es' (SetTable.grown es'.size)
    have f2 := relayAll_fits t' es' (SetTable.grown es'.size)
    have r2 := relayAll_ris t' es' (SetTable.grown es'.size)
    have l2 := relayAll_led t' es' (SetTable.grown es'.size)
    rw [hZ] at p f2 r2 l2 ⊢
    dsimp only at p f2 r2 l2 ⊢
    obtain ⟨ks2, q, e2⟩ := each_perm p e
    have hb2 : es2.size < scanBound := by rw [← Array.length_toList, p.length_eq, Array.length_toList]; exact hb
    refine wpAny_bind (hg _ _ _ (wpAny_bind (wpAny_storeSet_of ho1 rfl ?_ (fits_of_scanBound hb2))))
    refine wpAny_pure (hR _ ks2 (sb1.trans (Heap.SameBut.update _ a _)) ⟨es2, _, t2, ⟨⟨_, store_at (es' := es2) (t' := t2) ho1 rfl, hx, rfl⟩, hb2, f2, r2, ?_⟩, e2, q.nodup_iff.mpr nd⟩ q)
    exact hl.imp id fun z => by rw [l2]; exact z
  · exact wpAny_pure (hR _ ks sb1 ⟨es', _, t', ⟨⟨_, ho1, hx, rfl⟩, hb, hf, hr, hl⟩, e, nd⟩ (.refl _))
/-- one more -/
theorem put_key {a : Addr} {ks : List Key} {k : Key} {v : Value} {Q : Bool → Shared → Prop} (R : Keys P w s.heap a ks) (hk : (mixKind P w).is k v = true) (room : ks.length + 1 < scanBound)
    (hQ : ∀ b h' ks', Heap.SameBut a s.heap h' → Keys P w h' a ks' → (k ∈ ks → ks' = ks) → (k ∉ ks → ks'.Perm (k :: ks)) → Q b { s with heap := h' }) : wpAny (model P w) A (setAddHashed a v ((mixKind P w).hash k)) Q E s := by
  have R0 := R
  obtain ⟨es, ep, t, ⟨⟨o, ho, hx, hd⟩, hb, hf, hr, hl⟩, e, nd⟩ := R
  have hs := is_scan hk
  have el := ele_elems e
  have len := each_len e
  unfold setAddHashed setAddHashedIn
  refine wpAny_holding (wpAny_bind (wpAny_setState_of ho hd hf ?_))
  dsimp only
  rw [byScan_of hs hb el]
  simp only [↓reduceIte]
  unfold setAddByScan
  refine wpAny_bind (wpAny_bind (wpAny_rule (wpAny_bind (wpAny_setScan_of hk ho hd hf el ?_))))
  cases hfi : List.findIdx? (fun e => (mixKind P w).is k e.2) es.toList with
  | some j =>
    obtain ⟨hj, pj, _⟩ := List.findIdx?_eq_some_iff_getElem.mp hfi
    have hin : k ∈ ks := (ele_find e k).mp ⟨_, List.getElem_mem hj, pj⟩
    exact wpAny_pure (wpAny_pure (hQ false s.heap ks (Heap.SameBut.refl a s.heap) R0 (fun _ => rfl) fun z => absurd hin z))
  | none =>
    have hout : k ∉ ks := fun z => by
      obtain ⟨x, hx', q⟩ := (ele_find e k).mpr z
      have c := List.findIdx?_eq_none_iff.mp hfi x hx'
      rw [q] at c; cases c
    obtain ⟨es1, t1, wd, gave, hZ⟩ : ∃ es1 t1 wd gave, layNew t es ((mixKind P w).hash k) v = (es1, t1, wd, gave) := ⟨_, _, _, _, rfl⟩
    have p := layNew_perm t es ((mixKind P w).hash k) v
    have f1 := layNew_fits t es ((mixKind P w).hash k) v
    have r1 := layNew_ris t es ((mixKind P w).hash k) v hr
    have l1 := layNew_led t es ((mixKind P w).hash k) v
    dsimp only
    rw [hZ] at p f1 r1 l1 ⊢
    dsimp only at p f1 r1 l1 ⊢
    rw [Array.toList_push] at p
    have pc : es1.toList.Perm (((mixKind P w).hash k, v) :: es.toList) := p.trans (List.perm_append_singleton _ _)
    obtain ⟨ks1, q1, e1⟩ := each_perm pc (m := k :: ks) (.cons ⟨hk, rfl⟩ e)
    have nd1 : ks1.Nodup := q1.nodup_iff.mpr (List.nodup_cons.mpr ⟨hout, nd⟩)
    have sz1 : es1.size < scanBound := by
      rw [← Array.length_toList, each_len e1, q1.length_eq, List.length_cons]; exact room
    have led1 : w.params.followText "set-order" = true ∨ t1.led = true := hl.imp id fun z => by rw [l1]; exact z
    have fin : ∀ h' ks', Heap.SameBut a s.heap h' → Keys P w h' a ks' → ks'.Perm ks1 → Q true { s with heap := h' } := fun h' ks' sb r q => hQ true h' ks' sb r (fun z => absurd z hout) fun _ => q.trans q1
    refine wpAny_bind (gave_end _ ?_)
    split
    · refine wpAny_bind ?_
      rw [hashByValue_scannable 8 hs]
      refine wpAny_pure (lay_keys (fun b s Q q => gave_end b q) ho hx hd e1 nd1 sz1 ?_ ?_ ?_ fun h' ks' sb r q => ?_)
      · first | (split <;> first | exact f1 | exact SetTable.fits_plain_off f1) | exact f1
      · first | (split <;> exact r1) | exact r1
      · first | (split <;> exact led1) | exact led1
      · dsimp only; exact wpAny_pure (fin h' ks' sb r q)
    · refine wpAny_bind (wpAny_pure ?_)
      simp only [↓reduceIte]
      refine lay_keys (fun b s Q q => gave_end b q) ho hx hd e1 nd1 sz1 f1 r1 led1 fun h' ks' sb r q => ?_
      dsimp only; exact wpAny_pure (fin h' ks' sb r q)
/-- what the first i of the keys ns have put in -/
def KeysIn (P : Program) (w : World) (ns : List Key) (i : Nat) (h : Heap) (a : Addr) : Prop := ∃ ks, Keys P w h a ks ∧ ks.length ≤ i ∧ ∀ k, k ∈ ks ↔ k ∈ ns.take i
theorem keys_puts {h0 : Heap} {items : Array Value} {ns : List Key} (hv : EachIs (fun v k => (mixKind P w).is k v = true) items.toList ns) (hb : ns.length + 1 < scanBound) : Puts P w A h0 items (KeysIn P w ns) where
  new := fun h S e => ⟨[], ⟨#[], 0, _, ⟨⟨_, e, ⟨rfl, rfl, rfl⟩, rfl⟩, by decide, by rfl, List.Pairwise.nil, fresh_led w⟩, .nil, List.nodup_nil⟩, Nat.le_refl _, fun k => by simp⟩
  keep := fun i h h' S _ _ k ⟨ks, ⟨es, ep, t, W, e, nd⟩, r⟩ => ⟨ks, ⟨es, ep, t, W.keep k, e, nd⟩, r⟩
  step := fun i v s S E Q hi _ _ ⟨ks, R, hl, hm⟩ hQ => by
    have hi' : items.toList[i]? = some v := by rw [Array.getElem?_toList]; exact hi
    have at_ : ∀ {l : List Value} {ns : List Key} {i : Nat}, EachIs (fun v k => (mixKind P w).is k v = true) l ns → l[i]? = some v → ∃ k, ns[i]? = some k ∧ (mixKind P w).is k v = true := by
      intro l ns i e
      induction e generalizing i with
      | nil => intro h; cases h
      | cons h _ ih =>
        intro q
        cases i with
        | zero => cases q; exact ⟨_, rfl, h⟩
        | succ i => exact ih q
    obtain ⟨k, hk, isk⟩ := at_ hv hi'
    have hlt : i < ns.length := (List.getElem?_eq_some_iff.mp hk).1
    unfold setAdd
    refine wpAny_holding (wpAny_bind ((mixKind P w).pyHash isk ?_))
    refine put_key (s := { s with toks := s.toks + 1 }) R isk (by omega) fun b h' ks' sb R' c1 c2 => hQ b h' _ (Nat.le_succ _) sb ⟨ks', R', ?_, fun j => ?_⟩
    · by_cases c : k ∈ ks
      · rw [c1 c]; omega
      · rw [(c2 c).length_eq, List.length_cons]; omega
    · rw [List.take_add_one, hk, List.mem_append, ← hm j]
      by_cases c : k ∈ ks
      · rw [c1 c]
        simp only [Option.toList, List.mem_singleton]
        exact ⟨.inl, fun z => z.elim id fun z => z ▸ c⟩
      · rw [(c2 c).mem_iff, List.mem_cons]
        simp only [Option.toList, List.mem_singleton]
        exact Or.comm
end
end Pu.Sx

set_option Elab.async false
set_option maxRecDepth 100000
set_option maxHeartbeats 6400000
/-! Sets of tuples of whole numbers and texts. -/
namespace Pu.Sx
open PySem PyProof.Rows L2
open PySem.W (EachIs)

theorem each_get {α β : Type} {R : α → β → Prop} : ∀ {l : List α} {m : List β} {i : Nat} {y : β}, EachIs R l m → m[i]? = some y → ∃ x, l[i]? = some x ∧ R x y
  | _, _, 0, _, .cons h _, e => by cases e; exact ⟨_, rfl, h⟩
  | _, _, i + 1, _, .cons _ t, e => each_get t (i := i) e
theorem each_get' {α β : Type} {R : α → β → Prop} : ∀ {l : List α} {m : List β} {i : Nat} {x : α}, EachIs R l m → l[i]? = some x → ∃ y, m[i]? = some y ∧ R x y
  | _, _, 0, _, .cons h _, e => by cases e; exact ⟨_, rfl, h⟩
  | _, _, i + 1, _, .cons _ t, e => each_get' t (i := i) e
theorem each_take {α β : Type} {R : α → β → Prop} : ∀ {l : List α} {m : List β} (n : Nat), EachIs R l m → EachIs R (l.take n) (m.take n)
  | _, _, 0, _ => by rw [List.take_zero, List.take_zero]; exact .nil
  | _, _, _ + 1, .nil => .nil
  | _, _, n + 1, .cons h t => .cons h (each_take n t)
theorem each_drop {α β : Type} {R : α → β → Prop} : ∀ {l : List α} {m : List β} (n : Nat), EachIs R l m → EachIs R (l.drop n) (m.drop n)
  | _, _, 0, e => e
  | _, _, _ + 1, .nil => .nil
  | _, _, n + 1, .cons _ t => each_drop n t
theorem each_app {α β : Type} {R : α → β → Prop} : ∀ {l l' : List α} {m m' : List β}, EachIs R l m → EachIs R l' m' → EachIs R (l ++ l') (m ++ m')
  | _, _, _, _, .nil, e => e
  | _, _, _, _, .cons h t, e => .cons h (each_app t e)
theorem each_mono {α β : Type} {R R' : α → β → Prop} (f : ∀ x y, R x y → R' x y) : ∀ {l : List α} {m : List β}, EachIs R l m → EachIs R' l m
  | _, _, .nil => .nil
  | _, _, .cons h t => .cons (f _ _ h) (each_mono f t)
theorem each_pick {α β : Type} {R : α → β → Prop} {l : List α} {m : List β} (e : EachIs R l m) : ∀ (o : List Nat), (∀ i ∈ o, i < m.length) → EachIs R (o.filterMap (l[·]?)) (o.filterMap (m[·]?))
  | [], _ => .nil
  | i :: o, h => by
    have hi := h i (List.mem_cons_self ..)
    have hm := List.getElem?_eq_getElem hi
    obtain ⟨x, hx, r⟩ := each_get e hm
    rw [List.filterMap_cons_some hx, List.filterMap_cons_some hm]
    exact .cons r (each_pick e o fun j hj => h j (List.mem_cons_of_mem _ hj))

section
variable (P : Program) (w : World)
abbrev hT (k : List Key) : Int := tupleKeyHash (mixKind P w) k
abbrev IsT (h : Heap) (k : List Key) (b : Addr) : Prop := IsTupleKey (mixKind P w) h k b
/-- an element of the table -/
def Row (h : Heap) (G : List Key → Addr → Prop) (e : Int × Value) (k : List Key) : Prop := ∃ b, e = (hT P w k, Value.ref b) ∧ IsT P w h k b ∧ G k b
/-- the table of the set at a, with the elements L in the table's sequence -/
structure Tb (h0 : Heap) (G : List Key → Addr → Prop) (h : Heap) (a : Addr) (L : List (List Key)) (es : Array (Int × Value)) (ep : Nat) (t : SetTable) : Prop where
  wk : SWk w h a es ep t
  rows : EachIs (Row P w h0 G) es.toList L
  nd : L.Nodup
  tab : TabOk t (L.map (hT P w))
  room : L.length * 5 < t.mask * 3
  few : L.length < 64
end
theorem isT_up {P : Program} {w : World} {h h' : Heap} (q : ∀ b o, h.get? b = some o → h'.get? b = some o) {k : List Key} {b : Addr} (r : IsT P w h k b) : IsT P w h' k b := by
  obtain ⟨o, items, n, ho, r⟩ := r
  exact ⟨o, items, n, q b o ho, r⟩
section
variable {P : Program} {w : World} {A : Around} {E : Value → Shared → Prop} {s : Shared}
/-! ### what is asked of a tuple meanwhile -/
theorem leafs {k : List Key} {vs : List Value} (h : ItemsAre (mixKind P w) k vs) : ∀ v ∈ vs, (∀ n, ofAClassStatement n v = pure false) ∧ ∀ n, ∃ b, hashByValue n v = pure b := by
  induction h with
  | nil => intro v hv; cases hv
  | cons h1 _ ih =>
    intro v hv
    rcases List.mem_cons.mp hv with rfl | hv
    · rcases keyIs_shape h1 with ⟨i, t, rfl, rfl⟩ | ⟨x, t, rfl, rfl⟩
      · exact ⟨fun n => by cases n <;> rfl, fun n => ⟨true, by cases n <;> rfl⟩⟩
      · exact ⟨fun n => by cases n <;> rfl, fun n => ⟨false, by cases n <;> rfl⟩⟩
    · exact ih v hv
theorem noClass {k : List Key} {b : Addr} {Q : Bool → Shared → Prop} (hk : IsT P w s.heap k b) (h : Q false s) : wpAny (model P w) A (ofAClassStatement 8 (.ref b)) Q E s := by
  have ty := hk.typeIs
  obtain ⟨o, items, n, ho, _, hd, hi⟩ := hk
  have lf := leafs hi
  unfold ofAClassStatement
  refine wpAny_bind (wpAny_typeOf ty ?_)
  dsimp only
  simp only [show (("tuple" : String) == "tuple") = true by decide, if_true]
  try refine wpAny_bind (wpAny_pure ?_)
  try simp only [Bool.not_true, Bool.false_eq_true, if_false]
  show wpAny _ _ (seqItems? (.ref b) >>= _) _ _ s
  refine wpAny_bind (wpAny_seqItems ho hd (wpAny_bind ?_))
  show wpAny _ _ (forIn items _ _) _ _ s
  rw [← Array.forIn_toList]
  refine wpAny_forIn_list _ (fun rest r s' => r.1 = none ∧ s' = s ∧ ∀ v ∈ rest, v ∈ items.toList) _ ?_ ?_ _ _ ⟨rfl, rfl, fun _ h => h⟩
  · rintro v rest r s' ⟨hr, rfl, all⟩
    rw [(lf v (all v (List.mem_cons_self ..))).1]
    refine wpAny_bind (wpAny_pure ?_)
    simp only [Bool.false_eq_true, if_false]
    exact wpAny_pure ⟨rfl, rfl, fun u hu => all u (List.mem_cons_of_mem _ hu)⟩
  · rintro ⟨r1, r2⟩ s' ⟨hr, rfl, _⟩
    dsimp only at hr
    subst hr
    exact wpAny_pure h
theorem hashSome {k : List Key} {b : Addr} {Q : Bool → Shared → Prop} (hk : IsT P w s.heap k b) (h : ∀ b, Q b s) : wpAny (model P w) A (hashByValue 8 (.ref b)) Q E s := by
  have ty := hk.typeIs
  obtain ⟨o, items, n, ho, _, hd, hi⟩ := hk
  have lf := leafs hi
  unfold hashByValue
  refine wpAny_bind (wpAny_specialOf ty F.slot_tuple_hash.lookup ?_)
  show wpAny _ _ (seqItems? (.ref b) >>= _) _ _ s
  refine wpAny_bind (wpAny_seqItems ho hd (wpAny_bind ?_))
  show wpAny _ _ (forIn items _ _) _ _ s
  rw [← Array.forIn_toList]
  refine wpAny_forIn_list _ (fun rest r s' => r.1 = none ∧ s' = s ∧ ∀ v ∈ rest, v ∈ items.toList) _ ?_ ?_ _ _ ⟨rfl, rfl, fun _ h => h⟩
  · rintro v rest r s' ⟨hr, rfl, all⟩
    obtain ⟨c, hc⟩ := (lf v (all v (List.mem_cons_self ..))).2 7
    rw [hc]
    refine wpAny_bind (wpAny_pure ?_)
    cases c with
    | true =>
      simp only [Bool.not_true, Bool.false_eq_true, if_false]
      exact wpAny_pure ⟨rfl, rfl, fun u hu => all u (List.mem_cons_of_mem _ hu)⟩
    | false =>
      simp only [Bool.not_false, if_true]
      exact wpAny_pure (wpAny_pure (h false))
  · rintro ⟨r1, r2⟩ s' ⟨hr, rfl, _⟩
    dsimp only at hr
    subst hr
    exact wpAny_pure (h true)
theorem notSeen {k : List Key} {b : Addr} {Q : Bool → Shared → Prop} (hk : IsT P w s.heap k b) {ys : List Value} (hy : ∀ y ∈ ys, ∃ k' c, y = Value.ref c ∧ IsT P w s.heap k' c) (h : Q false s) :
    wpAny (model P w) A (searchCouldBeSeen (.ref b) ys) Q E s := by
  unfold searchCouldBeSeen
  refine wpAny_bind (wpAny_forIn_list _ (fun rest r s' => r.1 = none ∧ s' = s ∧ ∀ y ∈ rest, ∃ k' c, y = Value.ref c ∧ IsT P w s.heap k' c) _ ?_ ?_ _ _ ⟨rfl, rfl, hy⟩)
  · rintro v rest r s' ⟨hr, rfl, hall⟩
    obtain ⟨k', c, rfl, hc⟩ := hall v (List.mem_cons_self ..)
    have more : ∀ y ∈ rest, ∃ k' c, y = Value.ref c ∧ IsT P w s'.heap k' c := fun u hu => hall u (List.mem_cons_of_mem _ hu)
    dsimp only
    by_cases hv : (b == c || (carriedByValue (.ref b) && carriedByValue (.ref c))) = true
    · exact wp_if_pos hv (wpAny_pure ⟨rfl, rfl, more⟩)
    · refine wp_if_neg hv (wpAny_bind (wpAny_eqIsQuiet_tuple hk ?_))
      simp only [Bool.not_true, Bool.false_eq_true, if_false]
      refine wpAny_bind (wpAny_eqIsQuiet_tuple hc ?_)
      simp only [Bool.not_true, Bool.false_eq_true, if_false]
      refine wpAny_bind (noClass hk ?_)
      simp only [Bool.false_eq_true, if_false]
      refine wpAny_bind (noClass hc ?_)
      simp only [Bool.false_eq_true, if_false]
      exact wpAny_pure ⟨rfl, rfl, more⟩
  · rintro ⟨r1, r2⟩ s' ⟨hr, rfl, _⟩
    dsimp only at hr
    subst hr
    exact wpAny_pure h
end
end Pu.Sx

set_option Elab.async false
set_option maxRecDepth 100000
set_option maxHeartbeats 6400000
/-! Sets of tuples: looking for one, putting one in. -/
namespace Pu.Sx
open PySem PyProof.Rows L2
open PySem.W (EachIs)

/-- the c-th step of a hash's way -/
abbrev stepAt (m : Nat) (h : Int) (c : Nat) : SetTable.Probe := nth m (runAt m (SetTable.bits h % (m + 1)) (SetTable.bits h)) c
theorem step_plain (m : Nat) (h : Int) (c : Nat) : (stepAt m h c).dummy = none := by
  have go : ∀ (c : Nat) (p : SetTable.Probe), p.dummy = none → (nth m p c).dummy = none := by
    intro c
    induction c with
    | zero => exact fun p h => h
    | succ c ih =>
      intro p h
      refine ih (adv m p) ?_
      unfold adv
      split <;> exact h
  exact go c _ rfl
theorem step_on (m : Nat) (h : Int) (c q : Nat) : nth m (stepAt m h c) q = stepAt m h (c + q) := (nth_add m c _ q).symm
section
variable {P : Program} {w : World} {A : Around} {E : Value → Shared → Prop} {s : Shared} {a : Addr} {L : List (List Key)} {es : Array (Int × Value)} {ep : Nat} {t : SetTable} {h0 : Heap} {G : List Key → Addr → Prop}
theorem Tb.size (R : Tb P w h0 G s.heap a L es ep t) : es.size = L.length := by rw [← Array.length_toList]; exact each_len R.rows
theorem Tb.at (R : Tb P w h0 G s.heap a L es ep t) {i : Nat} {k : List Key} (h : L[i]? = some k) : ∃ b, es[i]? = some (hT P w k, Value.ref b) ∧ IsT P w h0 k b := by
  obtain ⟨x, hx, b, rfl, hb, _⟩ := each_get R.rows h
  exact ⟨b, by rw [← Array.getElem?_toList]; exact hx, hb⟩
theorem Tb.place (R : Tb P w h0 G s.heap a L es ep t) : t.place.toList.length = L.length := by
  have := R.tab.sz
  rw [List.length_map] at this
  rw [Array.length_toList]; exact this
theorem Tb.hash (R : Tb P w h0 G s.heap a L es ep t) {i : Nat} {k : List Key} (h : L[i]? = some k) : (es[i]?.map (·.1)).getD 0 = hT P w k := by
  obtain ⟨b, e, _⟩ := R.at h
  rw [e]; rfl
/-- from the c-th step on -/
theorem seek (R : Tb P w h0 G s.heap a L es ep t) (q0 : ∀ b o, h0.get? b = some o → s.heap.get? b = some o) {x : Addr} {k : List Key} (hx : IsT P w s.heap k x) (hu : A.units < cLine) {N : Nat} (hN : N < 10 * SetTable.turns t.mask) (hend : way t.mask (hT P w k) N ∉ t.place.toList) (hpre : ∀ c, c < N → way t.mask (hT P w k) c ∈ t.place.toList)
    {Q : SetFound → Shared → Prop} (yes : k ∈ L → Q (.there none) s) (no : k ∉ L → Q (.free (way t.mask (hT P w k) N) false) s) :
    ∀ (f c : Nat) (stand : Option SetTable.Probe), stand.getD (t.probeStart (hT P w k)) = stepAt t.mask (hT P w k) c → c ≤ N → N - c < f → (∀ i : Nat, L[i]? = some k → ∃ c', c ≤ c' ∧ c' < N ∧ t.place.toList[i]? = some (way t.mask (hT P w k) c')) →
      wpAny (model P w) A (setSearchFrom a (.ref x) (hT P w k) true f stand) Q E s := by
  obtain ⟨o, ho, hex, hd⟩ := R.wk.ob
  have gw : ¬ t.gaveWay = true := by
    unfold SetTable.gaveWay
    rw [mask_odd R.tab.mok]; decide
  have wy : ∀ c q, (nth t.mask (stepAt t.mask (hT P w k) c) q).j = way t.mask (hT P w k) (c + q) := fun c q => congrArg SetTable.Probe.j (step_on _ _ c q)
  intro f
  induction f with
  | zero => intro c stand _ _ h; exact absurd h (Nat.not_lt_zero _)
  | succ f ih =>
    intro c stand hst hc hf hre
    rw [setSearchFrom_succ]
    refine wpAny_bind (wpAny_setState_of ho hd R.wk.fits ?_)
    dsimp only
    refine wp_if_neg gw ?_
    try refine wpAny_bind (wpAny_pure ?_)
    rcases go_spec t R.tab.ris R.tab.dm (fun i => (es[i]?.map (·.1)).getD 0) (hT P w k) (10 * SetTable.turns t.mask) (N - c) (stepAt t.mask (hT P w k) c) (step_plain _ _ c) (by omega)
      (fun q hq => by rw [wy]; exact hpre (c + q) (by omega)) (by rw [wy, show c + (N - c) = N by omega]; exact hend) with ⟨q, i, hq, hi, hh, hno, hp⟩ | ⟨hno, hp⟩
    · have hp' : t.probe (fun i => (es[i]?.map (·.1)).getD 0) (hT P w k) (stand.getD (t.probeStart (hT P w k))) = some (.candidate (way t.mask (hT P w k) (c + q)) i (stepAt t.mask (hT P w k) (c + (q + 1)))) := by
        rw [hst, ← wy, ← step_on]; exact hp
      rw [hp']
      dsimp only
      rw [wy] at hi
      have il : i < L.length := by rw [← R.place]; exact (List.getElem?_eq_some_iff.mp hi).1
      obtain ⟨k0, hk0⟩ : ∃ k0, L[i]? = some k0 := ⟨_, List.getElem?_eq_getElem il⟩
      obtain ⟨b, eb, tb⟩ := R.at hk0
      have tb := isT_up q0 tb
      have live : t.slot (way t.mask (hT P w k) (c + q)) = .live i := slot_live R.tab.ris hi
      have go : wpAny (model P w) A (searchRest a (.ref x) (hT P w k) true f es t (way t.mask (hT P w k) (c + q)) i (stepAt t.mask (hT P w k) (c + (q + 1)))) Q E s := by
        unfold searchRest
        rw [eb]
        dsimp only
        refine wpAny_bind (wpAny_holding (wpAny_eqBool_tuple hu tb hx (wpAny_bind (wpAny_setState_of ho hd R.wk.fits ?_))))
        dsimp only
        by_cases same : k0 = k
        · exact wp_if_pos (by simp [same]) (wpAny_pure (yes (same ▸ List.mem_of_getElem? hk0)))
        · refine wp_if_neg (by simp [same]) ?_
          try refine wpAny_bind (wpAny_pure ?_)
          rw [sameMem]
          dsimp only
          simp only [if_true, live, eb]
          refine wpAny_bind (wpAny_isSame_ref_self (wpAny_bind (wpAny_pure ?_)))
          simp only [if_true]
          refine wp_if_neg (by simp [same]) (ih (c + (q + 1)) _ rfl (by omega) (by omega) fun j hj => ?_)
          obtain ⟨c', l1, l2, l3⟩ := hre j hj
          refine ⟨c', ?_, l2, l3⟩
          have hj' : (es[j]?.map (·.1)).getD 0 = hT P w k := R.hash hj
          by_cases z1 : c' < c + q
          · exact absurd hj' (hno (c' - c) j (by omega) (by rw [wy, show c + (c' - c) = c' by omega]; exact l3))
          · by_cases z2 : c' = c + q
            · subst z2
              have := slot_live R.tab.ris l3
              rw [live] at this
              injection this with this
              subst this
              rw [hk0] at hj
              exact absurd (Option.some.inj hj) same
            · omega
      by_cases hl : t.led = true
      · refine wp_if_neg (by simp [hl]) ?_
        try refine wpAny_bind (wpAny_pure ?_)
        exact go
      · refine wp_if_pos (by simp [hl]) (wpAny_bind (notSeen hx (fun y hy => ?_) ?_))
        · obtain ⟨e, he, rfl⟩ := List.mem_map.mp hy
          have he1 : e ∈ es ∧ e.1 = hT P w k := by simpa using he
          obtain ⟨k', _, b', rfl, hb', _⟩ := each_mem R.rows e (by simpa using he1.1)
          exact ⟨k', b', rfl, isT_up q0 hb'⟩
        · refine wp_if_neg (by decide) ?_
          try refine wpAny_bind (wpAny_pure ?_)
          exact go
    · have hp' : t.probe (fun i => (es[i]?.map (·.1)).getD 0) (hT P w k) (stand.getD (t.probeStart (hT P w k))) = some (.empty (way t.mask (hT P w k) N) none) := by
        have e2 := wy c (N - c)
        rw [show c + (N - c) = N by omega] at e2
        rw [hst, ← e2]; exact hp
      rw [hp']
      dsimp only
      refine wpAny_pure (no fun hm => ?_)
      obtain ⟨j, hj, e⟩ := List.getElem_of_mem hm
      have hj' : L[j]? = some k := by rw [List.getElem?_eq_getElem hj, e]
      obtain ⟨c', l1, l2, l3⟩ := hre j hj'
      exact absurd (R.hash hj') (hno (c' - c) j (by omega) (by rw [wy, show c + (c' - c) = c' by omega]; exact l3))
theorem look (R : Tb P w h0 G s.heap a L es ep t) (q0 : ∀ b o, h0.get? b = some o → s.heap.get? b = some o) {x : Addr} {k : List Key} (hx : IsT P w s.heap k x) (hu : A.units < cLine) {Q : SetFound → Shared → Prop} (yes : k ∈ L → Q (.there none) s)
    (no : ∀ N, k ∉ L → way t.mask (hT P w k) N ∉ t.place.toList → (∀ c, c < N → way t.mask (hT P w k) c ∈ t.place.toList) → Q (.free (way t.mask (hT P w k) N) false) s) : wpAny (model P w) A (setSearch a (.ref x) (hT P w k) true) Q E s := by
  have room := R.room
  obtain ⟨N, h1, h2, h3⟩ := R.tab.first (by rw [List.length_map]; omega) (hT P w k)
  have big : N < 100000 := by
    have : 10 * SetTable.turns t.mask ≤ 1420 := by
      unfold SetTable.turns
      rcases R.tab.mok with e | e | e <;> omega
    omega
  unfold setSearch
  refine seek R q0 hx hu h1 h2 h3 yes (fun hn => no N hn h2 h3) 100000 0 none rfl (Nat.zero_le _) (by omega) fun i hi => ?_
  have hm : (L.map (hT P w))[i]? = some (hT P w k) := by rw [List.getElem?_map, hi]; rfl
  have il : i < t.place.toList.length := by rw [R.place]; exact (List.getElem?_eq_some_iff.mp hi).1
  obtain ⟨c, hc, e⟩ := R.tab.before h2 hm (List.getElem?_eq_getElem il)
  exact ⟨c, Nat.zero_le _, hc, by rw [List.getElem?_eq_getElem il, e]⟩
/-- the table laid anew -/
theorem relay {o : Obj} (ho : s.heap.get? a = some o) (hex : o.ExactSet) (hd : o.data = .set es ep t) (rows : EachIs (Row P w h0 G) es.toList L) (hsz : t.place.size = es.size) (hdm : t.dummies = #[]) (hfl : es.size ≤ t.mask) (nd : L.Nodup)
    (ld : w.params.followText "set-order" = true ∨ t.led = true) (few : L.length < 64) {wanted M : Nat} (hw : SetTable.sizeAbove wanted - 1 = M) (hM : MaskOk M) (hw2 : SetTable.sizeAbove wanted ≤ 128) (hn : L.length * 5 < M * 3) {Q : Unit → Shared → Prop}
    (hQ : ∀ h' L' es' ep' t', Heap.SameBut a s.heap h' → Tb P w h0 G h' a L' es' ep' t' → L'.Perm L → Q () { s with heap := h' }) : wpAny (model P w) A (setRelay a wanted) Q E s := by
  have len : es.size = L.length := by rw [← Array.length_toList]; exact each_len rows
  have fits : t.fits es.size = true := by
    unfold SetTable.fits SetTable.fill
    rw [hdm, Bool.and_eq_true, beq_iff_eq, decide_eq_true_eq]
    show t.place.size = es.size ∧ t.place.size + 0 ≤ t.mask
    omega
  obtain ⟨t', order, e, hp, T, em, el, _, ed⟩ := relaid_ok t (hs := es.map (·.1)) (wanted := wanted) hw hM (by rw [Array.size_map, len]; omega)
  rw [Array.size_map, len] at hp
  have inr : ∀ i ∈ order.toList, i < L.length := fun i hi => List.mem_range.mp (hp.mem_iff.mp hi)
  have rows2 := each_pick rows order.toList inr
  have eL : (order.toList.filterMap (L[·]?)).Perm L := by
    refine (hp.filterMap _).trans (List.Perm.of_eq ?_)
    have go : ∀ n, n ≤ L.length → (List.range n).filterMap (fun i => L[i]?) = L.take n := by
      intro n
      induction n with
      | zero => intro _; rfl
      | succ n ih =>
        intro hn
        have hlt : n < L.length := hn
        rw [List.range_succ, List.filterMap_append, ih (Nat.le_of_lt hlt), List.take_succ, List.getElem?_eq_getElem hlt, List.filterMap_cons_some (List.getElem?_eq_getElem hlt)]
        rfl
    have := go L.length (Nat.le_refl _)
    rwa [List.take_length] at this
  have ehash : (order.toList.filterMap (L[·]?)).map (hT P w) = order.toList.map fun i => (es.map (·.1)).getD i 0 := by
    have go : ∀ l : List Nat, (∀ i ∈ l, i < L.length) → (l.filterMap (L[·]?)).map (hT P w) = l.map fun i => (es.map (·.1)).getD i 0 := by
      intro l
      induction l with
      | nil => intro _; rfl
      | cons i l ih =>
        intro hl
        have hi := hl i (List.mem_cons_self ..)
        have hLi := List.getElem?_eq_getElem hi
        obtain ⟨x, hx, b, rfl, _⟩ := each_get rows hLi
        rw [List.filterMap_cons_some hLi, List.map_cons, List.map_cons, ih fun j hj => hl j (List.mem_cons_of_mem _ hj)]
        congr 1
        have hx' : es[i]? = some (hT P w L[i], Value.ref b) := by rw [← Array.getElem?_toList]; exact hx
        have : (es.map (·.1))[i]? = some (hT P w L[i]) := by rw [Array.getElem?_map, hx']; rfl
        simp [Array.getD_eq_getD_getElem?, this]
    exact go _ inr
  have toL : (order.filterMap (es[·]?)).toList = order.toList.filterMap (es.toList[·]?) := by
    simp
  have hs2 : (order.filterMap (es[·]?)).size = es.size := by rw [← Array.length_toList, toL, each_len rows2, eL.length_eq, len]
  rw [← toL] at rows2
  rw [← ehash] at T
  generalize order.toList.filterMap (L[·]?) = L2 at rows2 eL T
  rw [setRelay_eq]
  refine wpAny_bind (wpAny_setState_of ho hd fits ?_)
  dsimp only
  refine wp_if_neg (by rw [sizeLine_eq]; omega) ?_
  try refine wpAny_bind (wpAny_pure ?_)
  rw [e]
  dsimp only
  refine wpAny_bind (wp_if_neg (by rw [hs2]; simp) ?_)
  try refine wpAny_bind (wpAny_pure ?_)
  refine wpAny_pure ?_
  dsimp only
  generalize order.filterMap (es[·]?) = es2 at rows2 hs2
  refine wpAny_storeSet_of ho hd ?_ (by rw [hs2, len, sizeLine_eq]; omega)
  have sb : Heap.SameBut a s.heap (s.heap.update a (Obj.putSet es2 t')) := Heap.SameBut.update ..
  have l2 := each_len rows2
  rw [Array.length_toList] at l2
  have hsz2 := T.sz
  rw [List.length_map] at hsz2
  refine hQ _ L2 es2 (ep + 1) t' sb ⟨⟨⟨_, store_at ho hd, ⟨hex.1, hex.2.1, hex.2.2⟩, rfl⟩, by unfold scanBound; omega, ?_, T.ris, by rw [el]; exact ld⟩, rows2, eL.nodup_iff.mpr nd, T, by rw [eL.length_eq, em]; exact hn, by rw [eL.length_eq]; exact few⟩ eL
  unfold SetTable.fits SetTable.fill
  rw [T.dm, Bool.and_eq_true, beq_iff_eq, decide_eq_true_eq]
  show t'.place.size = es2.size ∧ t'.place.size + 0 ≤ t'.mask
  have := eL.length_eq
  omega
end
end Pu.Sx

set_option Elab.async false
set_option maxRecDepth 100000
set_option maxHeartbeats 6400000
/-! Sets of tuples, put in one by one. -/
namespace Pu.Sx
open PySem PyProof.Rows L2
open PySem.W (EachIs)

section
variable {P : Program} {w : World} {A : Around} {E : Value → Shared → Prop} {s : Shared} {a : Addr} {L : List (List Key)} {es : Array (Int × Value)} {ep : Nat} {t : SetTable} {h0 : Heap} {G : List Key → Addr → Prop}
theorem tab_plain {t : SetTable} {hs : List Int} (T : TabOk t hs) (b : Bool) : TabOk (if b then t else { t with plain := false }) hs := by
  cases b
  · exact ⟨T.ris, T.dm, T.sz, T.mok, T.bd, T.reach⟩
  · exact T
theorem put_tup (R : Tb P w h0 G s.heap a L es ep t) (q0 : ∀ b o, h0.get? b = some o → s.heap.get? b = some o) {x : Addr} {k : List Key} (hx : IsT P w h0 k x) (hg : G k x) (hu : A.units < cLine) (few0 : k ∉ L → L.length + 1 < 64) {Q : Bool → Shared → Prop}
    (hQ : ∀ b h' L' es' ep' t', Heap.SameBut a s.heap h' → Tb P w h0 G h' a L' es' ep' t' → (k ∈ L → L' = L) → (k ∉ L → L'.Perm (k :: L)) → Q b { s with heap := h' }) : wpAny (model P w) A (setAddHashed a (.ref x) (hT P w k)) Q E s := by
  obtain ⟨o, ho, hex, hd⟩ := R.wk.ob
  have room := R.room
  unfold setAddHashed
  refine wpAny_holding ?_
  rw [show (100000 : Nat) = 99999 + 1 from rfl, setAddHashedIn_succ]
  refine wpAny_bind (wpAny_setState_of ho hd R.wk.fits ?_)
  dsimp only
  refine wp_if_neg (by simp [byScan, Value.scannable]) ?_
  try refine wpAny_bind (wpAny_pure ?_)
  refine wpAny_bind (look R q0 (isT_up q0 hx) hu (fun hm => ?_) fun N hm hend hpre => ?_)
  · dsimp only
    exact wpAny_pure (hQ false s.heap L es ep t (Heap.SameBut.refl a s.heap) R (fun _ => rfl) fun z => absurd hm z)
  have few := few0 hm
  dsimp only
  refine wpAny_bind (wpAny_setState_of ho hd R.wk.fits ?_)
  dsimp only
  obtain ⟨q1, q2, q3, q4, q5, _, _, _, q9⟩ := R.tab.put hend hpre
  rw [List.length_map] at q2 q9
  generalize hpt : t.put (way t.mask (hT P w k) N) = pt at q1 q3 q4 q5 q9 ⊢
  obtain ⟨t1, pl⟩ := pt
  dsimp only at q1 q3 q4 q5 q9 ⊢
  subst q1
  generalize hpp : SetTable.below t.place (way t.mask (hT P w k) N) = p at q2 q3 ⊢
  have pm : (L.take p ++ k :: L.drop p).Perm (k :: L) := by
    have h : (L.take p ++ k :: L.drop p).Perm (k :: (L.take p ++ L.drop p)) := List.perm_middle
    rwa [List.take_append_drop] at h
  have rows1 : EachIs (Row P w h0 G) (SetTable.insertAt es p (hT P w k, Value.ref x)).toList (L.take p ++ k :: L.drop p) := by
    rw [SetTable.toList_insertAt]
    exact each_app (each_take p R.rows) (.cons ⟨x, rfl, hx, hg⟩ (each_drop p R.rows))
  have hmap : (L.take p ++ k :: L.drop p).map (hT P w) = (L.map (hT P w)).take p ++ hT P w k :: (L.map (hT P w)).drop p := by
    rw [List.map_append, List.map_cons, List.map_take, List.map_drop]
  rw [← hmap] at q3
  generalize SetTable.insertAt es p (hT P w k, Value.ref x) = es1 at rows1 ⊢
  generalize L.take p ++ k :: L.drop p = L1 at pm rows1 q3
  have len1 : L1.length = L.length + 1 := pm.length_eq
  have sz1 : es1.size = L.length + 1 := by rw [← Array.length_toList, each_len rows1, len1]
  have nd1 : L1.Nodup := pm.nodup_iff.mpr (List.nodup_cons.mpr ⟨hm, R.nd⟩)
  -- whatever is told of its hash
  have rest : ∀ b : Bool, wpAny (model P w) A (do
      storeSet a es1 (if b then t1 else { t1 with plain := false })
      if (!false && (if b then t1 else { t1 with plain := false }).tooFull) = true then setRelay a (SetTable.grown (es.size + 1))
      return true) Q E s := fun b => by
    have T2 := tab_plain q3 b
    have m2 : (if b then t1 else { t1 with plain := false }).mask = t.mask := by cases b <;> exact q4
    have l2 : (if b then t1 else { t1 with plain := false }).led = t.led := by cases b <;> exact q5
    have f2 : (if b then t1 else { t1 with plain := false }).fill = L.length + 1 := by cases b <;> exact q9
    generalize (if b then t1 else { t1 with plain := false }) = t2 at T2 m2 l2 f2
    have psz := T2.sz
    rw [List.length_map, len1] at psz
    refine wpAny_bind (wpAny_storeSet_of ho hd ?_ (by rw [sz1, sizeLine_eq]; omega))
    have sb : Heap.SameBut a s.heap (s.heap.update a (Obj.putSet es1 t2)) := Heap.SameBut.update ..
    have ho1 := store_at (es' := es1) (t' := t2) ho hd
    generalize s.heap.update a (Obj.putSet es1 t2) = h1 at sb ho1 ⊢
    have ld2 : w.params.followText "set-order" = true ∨ t2.led = true := by rw [l2]; exact R.wk.led
    have hex1 : ({ o with data := .set es1 (ep + 1) t2 } : Obj).ExactSet := ⟨hex.1, hex.2.1, hex.2.2⟩
    by_cases hf : t2.tooFull = true
    · dsimp only
      refine wp_if_pos (by simp [hf]) ?_
      refine wpAny_bind ?_
      have full : (L.length + 1) * 5 ≥ t2.mask * 3 := by
        have h := hf
        unfold SetTable.tooFull at h
        rw [decide_eq_true_eq, f2] at h
        exact h
      have two : (t.mask = 7 ∧ L.length = 4) ∨ (t.mask = 31 ∧ L.length = 18) := by
        rcases R.tab.mok with e | e | e
        · left; rw [m2, e] at full; rw [e] at room; exact ⟨e, by omega⟩
        · right; rw [m2, e] at full; rw [e] at room; exact ⟨e, by omega⟩
        · exfalso; rw [m2, e] at full; omega
      have go : ∀ M, SetTable.sizeAbove (SetTable.grown (L.length + 1)) - 1 = M → MaskOk M → SetTable.sizeAbove (SetTable.grown (L.length + 1)) ≤ 128 → (L.length + 1) * 5 < M * 3 →
          wpAny (model P w) A (setRelay a (SetTable.grown (es.size + 1))) (fun _ s' => wpAny (model P w) A (pure true) Q E s') E { s with heap := h1 } := fun M g1 g2 g3 g4 => by
        rw [R.size]
        refine relay (s := { s with heap := h1 }) ho1 hex1 rfl rows1 (by rw [psz, sz1]) T2.dm (by rw [sz1, m2]; rcases two with ⟨e, e2⟩ | ⟨e, e2⟩ <;> omega) nd1 ld2 (by omega) g1 g2 g3 (by omega) ?_
        intro h2 L2 es2 ep2 t2 sb2 R2 pm2
        exact wpAny_pure (hQ true h2 L2 es2 ep2 t2 (sb.trans sb2) R2 (fun z => absurd z hm) fun _ => pm2.trans pm)
      rcases two with ⟨_, e2⟩ | ⟨_, e2⟩
      · exact go 31 (by rw [e2, size_20]) (.inr (.inl rfl)) (by rw [e2, size_20]; decide) (by omega)
      · exact go 127 (by rw [e2, size_76]) (.inr (.inr rfl)) (by rw [e2, size_76]; decide) (by omega)
    · dsimp only
      refine wp_if_neg (by simp [hf]) ?_
      have notfull : (L.length + 1) * 5 < t2.mask * 3 := by
        have h := hf
        unfold SetTable.tooFull at h
        rw [decide_eq_true_eq, f2] at h
        omega
      refine wpAny_pure (hQ true h1 L1 es1 (ep + 1) t2 sb ⟨⟨⟨_, ho1, hex1, rfl⟩, by unfold scanBound; omega, ?_, T2.ris, ld2⟩, rows1, nd1, T2, by omega, by omega⟩ (fun z => absurd z hm) fun _ => pm)
      unfold SetTable.fits SetTable.fill
      rw [T2.dm, Bool.and_eq_true, beq_iff_eq, decide_eq_true_eq]
      show t2.place.size = es1.size ∧ t2.place.size + 0 ≤ t2.mask
      omega
  by_cases hpl : t1.plain = true
  · first
      | (refine wp_if_pos hpl (wpAny_bind (hashSome (isT_up q0 hx) fun b => ?_)); exact rest b)
      | (refine wpAny_bind (wp_if_pos hpl (hashSome (isT_up q0 hx) fun b => ?_)); exact rest b)
  · first
      | (refine wp_if_neg hpl (wpAny_bind (wpAny_pure ?_)); exact rest true)
      | (refine wpAny_bind (wp_if_neg hpl (wpAny_pure ?_)); exact rest true)
/-- what the first i tuples have put in -/
def TupsIn (P : Program) (w : World) (h0 : Heap) (G : List Key → Addr → Prop) (ks : List (List Key)) (i : Nat) (h : Heap) (a : Addr) : Prop := ∃ L es ep t, Tb P w h0 G h a L es ep t ∧ L.length ≤ i ∧ ∀ k, k ∈ L ↔ k ∈ ks.take i
theorem tups_puts {h0 : Heap} {G : List Key → Addr → Prop} {items : Array Value} {ks : List (List Key)} (hu : A.units < cLine) (hv : EachIs (fun v k => ∃ b, v = Value.ref b ∧ IsT P w h0 k b ∧ G k b) items.toList ks) (hb : ∀ l : List (List Key), l.Nodup → (∀ k ∈ l, k ∈ ks) → l.length < 64) : Puts P w A h0 items (TupsIn P w h0 G ks) where
  new := fun h S e => ⟨[], #[], 0, _, ⟨⟨⟨_, e, ⟨rfl, rfl, rfl⟩, rfl⟩, by decide, by rfl, List.Pairwise.nil, fresh_led w⟩, .nil, List.nodup_nil, ⟨List.Pairwise.nil, rfl, rfl, .inl rfl, fun x hx => (by cases hx), fun i h j hi => (by simp at hi)⟩, (by show 0 * 5 < 7 * 3; decide), (by decide)⟩, Nat.le_refl _, fun k => by simp⟩
  keep := fun i h h' S _ _ k ⟨L, es, ep, t, ⟨W, r1, r2, r3, r4, r5⟩, q⟩ => ⟨L, es, ep, t, ⟨W.keep k, r1, r2, r3, r4, r5⟩, q⟩
  step := fun i v s S E Q hi _ q0 ⟨L, es, ep, t, R, hl, hm⟩ hQ => by
    have hi' : items.toList[i]? = some v := by rw [Array.getElem?_toList]; exact hi
    obtain ⟨k, hk, b, rfl, hx, hg⟩ := each_get' hv hi'
    have hlt : i < ks.length := (List.getElem?_eq_some_iff.mp hk).1
    have few : k ∉ L → L.length + 1 < 64 := fun c => by
      have := hb (k :: L) (List.nodup_cons.mpr ⟨c, R.nd⟩) (fun j hj => by
        rcases List.mem_cons.mp hj with rfl | hj
        · exact List.mem_of_getElem? hk
        · exact List.mem_of_mem_take ((hm j).mp hj))
      exact this
    unfold setAdd
    refine wpAny_holding (wpAny_bind (wpAny_pyHash_tuple hu (isT_up q0 hx) ?_))
    refine put_tup (s := { s with toks := s.toks + (k.length + 1) }) R q0 hx hg hu few fun b h' L' es' ep' t' sb R' c1 c2 => hQ b h' _ (Nat.le_add_right _ _) sb ⟨L', es', ep', t', R', ?_, fun j => ?_⟩
    · by_cases c : k ∈ L
      · rw [c1 c]; omega
      · rw [(c2 c).length_eq, List.length_cons]; omega
    · rw [List.take_add_one, hk, List.mem_append, ← hm j]
      by_cases c : k ∈ L
      · rw [c1 c]
        simp only [Option.toList, List.mem_singleton]
        exact ⟨.inl, fun z => z.elim id fun z => z ▸ c⟩
      · rw [(c2 c).mem_iff, List.mem_cons]
        simp only [Option.toList, List.mem_singleton]
        exact Or.comm
end
end Pu.Sx

set_option Elab.async false
set_option maxRecDepth 100000
set_option maxHeartbeats 3200000
/-! Sets of data: what set(xs) leaves, sorted(set), len(set). -/
namespace Pu
open PySem L2 PyProof.Rows
open PySem.W (dataLe alike AllAlike Sortable EachIs)
open Pu.Sx

/-- a number or a text as a key -/
def leafK : D → Option Key
  | .int i => some (.inl i)
  | .str s => some (.inr ⟨s.toArray⟩)
  | _ => none
def kD : Key → D
  | .inl i => .int i
  | .inr x => .str x.cps.toList
theorem kD_leaf : ∀ {d : D}, leafD d = true → ∃ k, d = kD k ∧ leafK d = some k
  | .int i, _ => ⟨.inl i, rfl, rfl⟩
  | .str s, _ => ⟨.inr ⟨s.toArray⟩, by simp [kD], rfl⟩
theorem kD_inj : ∀ {a b : Key}, kD a = kD b → a = b
  | .inl i, .inl j, h => by cases h; rfl
  | .inr x, .inr y, h => by
    have h1 : x.cps.toList = y.cps.toList := by injection h
    rw [PySem.W.str_of_cps h1]
  | .inl _, .inr _, h => by cases h
  | .inr _, .inl _, h => by cases h
section
variable {K : PySem.W.Frag} {H : Hp} {P : Addr → Prop}
theorem rd_key {v : V} {k : Key} (h : RD H P v (kD k)) : v = kV k := by
  cases k with
  | inl i => cases h; rfl
  | inr x =>
    obtain ⟨e, _⟩ := RD.str_inv h
    rw [e]
    show V.str ⟨x.cps.toList.toArray⟩ = V.str x
    simp
theorem rds_keys : ∀ {ks : List Key} {vs : List V}, RDs H P vs (ks.map kD) → vs = ks.map kV
  | [], _, h => by cases h; rfl
  | k :: ks, _, h => by
    cases h with
    | cons h1 h2 => rw [rd_key h1, rds_keys h2]; rfl
end
theorem leafs_keys : ∀ {ds : List D}, ds.all leafD = true → ∃ ks : List Key, ds = ks.map kD
  | [], _ => ⟨[], rfl⟩
  | d :: ds, h => by
    rw [List.all_cons, Bool.and_eq_true] at h
    obtain ⟨k, e, _⟩ := kD_leaf h.1
    obtain ⟨ks, e2⟩ := leafs_keys h.2
    exact ⟨k :: ks, by rw [e, e2]; rfl⟩
def kT (ks : List Key) : D := .tup (ks.map kD)
theorem map_kD_inj : ∀ {a b : List Key}, a.map kD = b.map kD → a = b
  | [], [], _ => rfl
  | [], _ :: _, h => by cases h
  | _ :: _, [], h => by cases h
  | x :: a, y :: b, h => by
    rw [List.map_cons, List.map_cons, List.cons.injEq] at h
    rw [kD_inj h.1, map_kD_inj h.2]
theorem kT_inj {a b : List Key} (h : kT a = kT b) : a = b := map_kD_inj (by injection h)
theorem flats_keys : ∀ {ds : List D}, ds.all flatD = true → ∃ ks : List (List Key), ds = ks.map kT
  | [], _ => ⟨[], rfl⟩
  | d :: ds, h => by
    rw [List.all_cons, Bool.and_eq_true] at h
    obtain ⟨ks, e2⟩ := flats_keys h.2
    cases d with
    | tup xs =>
      obtain ⟨k, e⟩ := leafs_keys (show xs.all leafD = true from h.1)
      exact ⟨k :: ks, by rw [e2, e]; rfl⟩
    | _ => cases h.1
theorem nodup_map {α β : Type} {f : α → β} (hf : ∀ x y, f x = f y → x = y) {l : List α} (h : l.Nodup) : (l.map f).Nodup := by
  induction l with
  | nil => exact List.nodup_nil
  | cons x l ih =>
    obtain ⟨h1, h2⟩ := List.nodup_cons.mp h
    refine List.nodup_cons.mpr ⟨fun m => ?_, ih h2⟩
    obtain ⟨y, hy, e⟩ := List.mem_map.mp m
    exact h1 (by rw [← hf y x e]; exact hy)
theorem perm_of {α : Type} {f : α → D} (hf : ∀ x y, f x = f y → x = y) {ks ns : List α} (nd : ks.Nodup) (hm : ∀ k, k ∈ ks ↔ k ∈ ns) : (ks.map f).Perm (dd (ns.map f)) := by
  refine (List.perm_ext_iff_of_nodup (nodup_map hf nd) (nodup_dd _)).mpr fun a => ?_
  rw [mem_dd, List.mem_map, List.mem_map]
  exact ⟨fun ⟨k, h, e⟩ => ⟨k, (hm k).mp h, e⟩, fun ⟨k, h, e⟩ => ⟨k, (hm k).mpr h, e⟩⟩
section
variable {X : Cx} {pins : List (Addr × Obj)} {σ : L2.St} {H : Hp} {s : Shared} {P : Addr → Prop}
/-- a value that is this datum -/
def Den (H : Hp) (P : Addr → Prop) (u : Value) (d : D) : Prop := ∃ v, RelV v u ∧ RD H P v d
theorem den_all : ∀ {vs : List V} {us : List Value} {ds : List D}, Vals vs us → RDs H P vs ds → EachIs (Den H P) us ds
  | _, _, _, .nil, r => by cases r; exact .nil
  | _, _, _, .cons h t, r => by
    cases r with
    | cons r1 r2 => exact .cons ⟨_, h, r1⟩ (den_all t r2)
theorem each_map_r {α β γ : Type} {R : α → β → Prop} {f : γ → β} : ∀ {l : List α} {m : List γ}, EachIs R l (m.map f) → EachIs (fun a c => R a (f c)) l m
  | _, [], h => by cases h; exact .nil
  | _, _ :: _, h => by
    cases h with
    | cons h t => exact .cons h (each_map_r t)
theorem each_map_l {α β γ : Type} {R : α → β → Prop} {f : γ → α} : ∀ {l : List γ} {m : List β}, EachIs (fun c b => R (f c) b) l m → EachIs R (l.map f) m
  | _, _, .nil => .nil
  | _, _, .cons h t => .cons h (each_map_l t)
theorem each_map_r' {α β γ : Type} {R : α → β → Prop} {f : γ → β} : ∀ {l : List α} {m : List γ}, EachIs (fun a c => R a (f c)) l m → EachIs R l (m.map f)
  | _, _, .nil => .nil
  | _, _, .cons h t => .cons h (each_map_r' t)
theorem each_mono_mem {α β : Type} {R R' : α → β → Prop} : ∀ {l : List α} {m : List β}, EachIs R l m → (∀ x y, x ∈ l → y ∈ m → R x y → R' x y) → EachIs R' l m
  | _, _, .nil, _ => .nil
  | _, _, .cons h t, f => .cons (f _ _ (List.mem_cons_self ..) (List.mem_cons_self ..) h) (each_mono_mem t fun x y hx hy => f x y (List.mem_cons_of_mem _ hx) (List.mem_cons_of_mem _ hy))
theorem short_list {α : Type} {l m : List α} (h : l.Nodup) (hs : ∀ x ∈ l, x ∈ m) : l.length ≤ m.length := by
  classical
  induction l generalizing m with
  | nil => exact Nat.zero_le _
  | cons x l ih =>
    obtain ⟨h1, h2⟩ := List.nodup_cons.mp h
    have hx := hs x (List.mem_cons_self ..)
    have := ih h2 (m := m.erase x) fun y hy => (List.mem_erase_of_ne (fun (e : y = x) => h1 (by rw [← e]; exact hy))).mpr (hs y (List.mem_cons_of_mem _ hy))
    rw [List.length_erase_of_mem hx] at this
    have := List.length_pos_of_mem hx
    rw [List.length_cons]; omega
theorem set_call {a : Addr} {its : List Value} {ds : List D} {Q : Value → Shared → Prop} {E : Value → Shared → Prop} (hc : X.calm = true) (hu : X.A.units + 64 < cLine) (I : Inv X pins σ H s) (pl : s.heap.IsList a its.toArray ∨ s.heap.IsTuple a its.toArray) (dn : EachIs (Den H P) its ds) (hh : hashable ds = true)
    (h : ∀ (h' : Heap) (tk : Nat) (es : Array (Int × Value)) (ep : Nat) (t : SetTable) (ds' : List D), (∀ b o, s.heap.get? b = some o → h'.get? b = some o) → SWk X.w h' s.heap.objs.size es ep t → EachIs (Den H P) (es.toList.map (·.2)) ds' → ds'.Perm (dd ds) →
      Q (.ref s.heap.objs.size) { s with heap := h', toks := tk }) : wpAny (model X.prog X.w) X.A (call (.type "set") [.ref a]) Q E s := by
  have two : ∀ {In : Nat → Heap → Addr → Prop}, (∀ A' : Around, A'.units ≤ X.A.units + 3 → Puts X.prog X.w A' s.heap its.toArray In) → (∀ (h' : Heap) (tk : Nat), In its.toArray.size h' s.heap.objs.size → (∀ b o, s.heap.get? b = some o → h'.get? b = some o) → Q (.ref s.heap.objs.size) { s with heap := h', toks := tk }) →
      wpAny (model X.prog X.w) X.A (call (.type "set") [.ref a]) Q E s := fun p q => by
    rcases pl with pl | pl
    · exact set_of_list (I.ok.hd hc) pl p q
    · exact set_of_tuple (I.ok.hd hc) pl p q
  unfold hashable at hh
  rw [Bool.or_eq_true, Bool.and_eq_true, Bool.and_eq_true, decide_eq_true_eq, decide_eq_true_eq] at hh
  have len := each_len dn
  rcases hh with ⟨hl, hn⟩ | ⟨hf, hn⟩
  · obtain ⟨ns, rfl⟩ := leafs_keys hl
    rw [List.length_map] at hn len
    have ek : EachIs (fun v k => (mixKind X.prog X.w).is k v = true) its ns := each_mono (fun v k ⟨u, r, rd⟩ => by rw [rd_key rd] at r; exact kV_is r) (each_map_r dn)
    refine two (In := KeysIn X.prog X.w ns) (fun A' _ => keys_puts (by simpa using ek) hn) fun h' tk ⟨ks, ⟨es, ep, t, W, e, nd⟩, _, hm⟩ kp => ?_
    rw [List.size_toArray, len, List.take_length] at hm
    refine h h' tk es ep t (ks.map kD) kp W (each_map_l (each_map_r' (each_mono_mem e fun x k _ hk ⟨h1, _⟩ => ?_))) (perm_of (fun _ _ => kD_inj) nd hm)
    obtain ⟨v, hv, u, r, rd⟩ := each_mem' (each_map_r dn) k ((hm k).mp hk)
    refine ⟨kV k, ?_, by rw [← rd_key rd]; exact rd⟩
    rcases keyIs_shape h1 with ⟨i, t, rfl, e⟩ | ⟨y, t, rfl, e⟩
    · exact ⟨t, e⟩
    · exact ⟨t, e⟩
  · obtain ⟨ns, rfl⟩ := flats_keys hf
    rw [List.length_map] at len
    -- each item is a tuple of these keys
    have ek : EachIs (fun v k => ∃ b, v = Value.ref b ∧ Sx.IsT X.prog X.w s.heap k b ∧ RD H P (.ref b) (kT k)) its ns := each_mono (fun v k ⟨u, r, rd⟩ => by
      obtain ⟨b, xs, rfl, h1, h2, h3⟩ := RD.tup_inv rd
      have e := rds_keys h3
      subst e
      obtain ⟨its', rv, ⟨o, ho, hc', n, hd⟩, _⟩ := I.tuple (SqT.of (K := X.K) h1)
      refine ⟨b, r, ⟨o, its'.toArray, n, ho, hc', hd, ?_⟩, rd⟩
      have go : ∀ {k : List Key} {us : List Value}, Vals (k.map kV) us → PySem.ItemsAre (mixKind X.prog X.w) k us := by
        intro k
        induction k with
        | nil => intro us h; cases h; exact .nil
        | cons x k ih =>
          intro us h
          cases h with
          | cons h1 h2 => exact .cons (kV_is h1) (ih h2)
      simpa using go rv) (each_map_r dn)
    refine two (In := TupsIn X.prog X.w s.heap (fun k b => RD H P (.ref b) (kT k)) ns) (fun A' hA => tups_puts (by omega) (by simpa using ek) fun l hl hs => ?_) fun h' tk ⟨L, es, ep, t, R, _, hm⟩ kp => ?_
    · have := short_list (nodup_map (f := kT) (fun _ _ => kT_inj) hl) (m := dd (ns.map kT)) fun x hx => by
        obtain ⟨k, hk, rfl⟩ := List.mem_map.mp hx
        exact mem_dd.mpr (List.mem_map.mpr ⟨k, hs k hk, rfl⟩)
      rw [List.length_map] at this
      omega
    · rw [List.size_toArray, len, List.take_length] at hm
      refine h h' tk es ep t (L.map kT) kp R.wk (each_map_l (each_map_r' (each_mono (fun x k ⟨b, e, _, g⟩ => ⟨.ref b, by rw [e]; rfl, g⟩) R.rows))) (perm_of (fun _ _ => kT_inj) R.nd hm)
end
end Pu

set_option Elab.async false
set_option maxRecDepth 100000
set_option maxHeartbeats 3200000
/-! sorted(set(xs)), len(set(xs)). -/
namespace Pu.Sx
open PySem PySem.Calls PyProof.Rows L2
open PySem.W (EachIs AllAlike Sortable dataLe dataKind SortsAt sortVals sortVals_data bound_map each_map list_sort_vals sortingHeap)

section
variable {P : Program} {w : World} {A : Around} {E : Value → Shared → Prop} {s : Shared} {a : Addr} {es : Array (Int × Value)} {ep : Nat} {t : SetTable}
theorem sorted_obj {β : Type} {R : Value → β → Prop} {enc : β → PyData} {bs : List β} {Q : Value → Shared → Prop} (hh : A.handled = none) (W : SWk w s.heap a es ep t) (dn : EachIs R (es.toList.map (·.2)) bs) (er : EachIs (fun v b => ∃ as, Reads s.heap v (enc b) as) (es.toList.map (·.2)) bs)
    (hal : AllAlike (bs.map enc)) (hk : Sortable (bs.map enc)) (hu : ∀ b ∈ bs, A.units + 2 + (enc b).depth < cLine)
    (hQ : ∀ s' p (out : List Value) (c : Nat) (bs' : List β), (∀ b o, s.heap.get? b = some o → s'.heap.get? b = some o) → s'.gens = s.gens → s'.os = s.os → s.heap.objs.size ≤ p → s'.heap.get? p = some (seqObj "list" out.toArray c) → bs'.Perm bs →
      EachIs R out (bs'.mergeSort (dataLe false enc)) → Q (.ref p) s') : wpAny (model P w) A (call (.builtin "sorted") [.ref a]) Q E s := by
  obtain ⟨o, ho, hex, hd⟩ := W.ob
  refine call_function_entry kind_sorted plain_sorted entry_sorted (args_sorted1 _) ?_
  unfold Builtin.«sorted»
  refine wpAny_bind (m := checkCount "sorted" 1 1 _) (wpAny_pure ?_)
  refine wpAny_bind (collect_set (A := A.in1) hh ⟨o, ho, hex.1, hd⟩ W.fits W.sz W.ris W.led fun s1 vs k1 hz g1 o1 pm => ?_)
  have both : EachIs (fun v b => R v b ∧ ∃ as, Reads s1.heap v (enc b) as) (es.toList.map (·.2)) bs := by
    have go : ∀ {l : List Value} {m : List β}, EachIs R l m → EachIs (fun v b => ∃ as, Reads s.heap v (enc b) as) l m → EachIs (fun v b => R v b ∧ ∃ as, Reads s1.heap v (enc b) as) l m := by
      intro l m h
      induction h with
      | nil => intro _; exact .nil
      | cons h1 _ ih =>
        intro e
        cases e with
        | cons h2 e2 =>
          obtain ⟨as, r⟩ := h2
          exact .cons ⟨h1, as, PyProof.Rows.Reads.keeps k1 r⟩ (ih e2)
    exact go dn er
  obtain ⟨bs', q, e⟩ := each_perm pm both
  have hlen : vs.length ≤ sizeLine := by
    have := W.sz
    unfold scanBound at this
    rw [pm.length_eq, List.length_map, Array.length_toList, sizeLine_eq]; omega
  refine wpAny_bind (wpAny_newList ?_ hlen)
  show wpAny _ _ _ _ _ { s1 with heap := s1.heap.push (seqObj "list" vs.toArray 0) }
  have at0 : (s1.heap.push (seqObj "list" vs.toArray 0)).get? s1.heap.objs.size = some (seqObj "list" vs.toArray 0) := Heap.get?_push_size _ rfl
  have sh_old : ∀ {b o}, s1.heap.get? b = some o → (sortingHeap (s1.heap.push (seqObj "list" vs.toArray 0)) s1.heap.objs.size vs).get? b = some o := fun {b o} e => by
    have hlt := Heap.lt_size e
    refine PySem.W.sortingHeap_old (Nat.ne_of_lt hlt) ?_
    rw [Heap.get?_push_ne _ _ _ (Nat.ne_of_lt hlt)]; exact e
  have er' : EachIs (fun v b => ∃ as, Reads (sortingHeap (s1.heap.push (seqObj "list" vs.toArray 0)) s1.heap.objs.size vs) v (enc b) as) vs bs' := each_mono (fun v b ⟨_, as, r⟩ => ⟨as, PyProof.Rows.Reads.keeps (fun _ _ => sh_old) r⟩) e
  have hal' : AllAlike (bs'.map enc) := fun x hx y hy => hal x ((q.map enc).mem_iff.mp hx) y ((q.map enc).mem_iff.mp hy)
  have hk' : Sortable (bs'.map enc) := hk.imp (fun f x hx => f x ((q.map enc).mem_iff.mp hx)) (fun f x hx => f x ((q.map enc).mem_iff.mp hx))
  have S := SortsAt.data (prog := P) (w := w) (A := A.in1.in1) (s := { s1 with heap := sortingHeap (s1.heap.push (seqObj "list" vs.toArray 0)) s1.heap.objs.size vs }) (each_map (R := fun v d => ∃ as, Reads (sortingHeap (s1.heap.push (seqObj "list" vs.toArray 0)) s1.heap.objs.size vs) v d as) enc er') hal' hk' (bound_map (A := A.in1.in1) fun b hb => hu b (q.mem_iff.mp hb))
  refine wpAny_bind (wpAny_holding (wpAny_call_entry_kw slot_list_sort ⟨_, at0, rfl⟩ entry_list_sort ?body (args_list_sort _)))
  case body =>
    show wpAny (model P w) A.in1.in1 (Builtin.«list.sort» ⟨[.ref s1.heap.objs.size], []⟩) _ _ _
    refine wpAny_mono (list_sort_vals (P := fun f s2 => f = .done (.ret .none) ∧ Q (.ref s1.heap.objs.size) s2) (s := { s1 with heap := s1.heap.push (seqObj "list" vs.toArray 0) }) at0 S hlen ⟨rfl, ?_⟩) (fun f s2 hf => ?_) fun _ _ e => e
    · obtain ⟨c, hc⟩ := sortedHeap_at (vs := vs) (out := (sortVals (dataKind (sortingHeap (s1.heap.push (seqObj "list" vs.toArray 0)) s1.heap.objs.size vs) (bs'.map enc)) false vs vs).toArray) at0
      refine hQ _ s1.heap.objs.size _ c bs' (fun b o e => ?_) g1 o1 hz hc q (sortVals_data false (each_mono (fun _ _ h => h.1) e) er' hal')
      have e2 := k1 b o e
      have hlt := Heap.lt_size e2
      refine (sortedHeap_old (Nat.ne_of_lt hlt) (by rw [size_push']; exact Nat.lt_succ_of_lt hlt)).trans ?_
      rw [Heap.get?_push_ne _ _ _ (Nat.ne_of_lt hlt)]
      exact e2
    · obtain ⟨rfl, hq⟩ := hf
      exact ⟨_, rfl, wpAny_pure ⟨_, rfl, hq⟩⟩
end
end Pu.Sx
namespace Pu
open PySem L2 PyProof.Rows
open PySem.W (dataLe alike AllAlike Sortable EachIs)
open Pu.Sx

/-! ### the sequence does not hang on the table's -/
theorem leaf_toks : ∀ {x y : D}, leafD x = true → leafD y = true → PySem.W.keyToks (toPy x) = PySem.W.keyToks (toPy y) → x = y
  | .int i, .int j, _, _, h => by
    have : [Sum.inl i] = ([Sum.inl j] : List (Int ⊕ List Nat)) := h
    cases this; rfl
  | .str s, .str t, _, _, h => by
    have : [Sum.inr (⟨s.toArray⟩ : Str).cps.toList] = ([Sum.inr (⟨t.toArray⟩ : Str).cps.toList] : List (Int ⊕ List Nat)) := h
    have h2 : (⟨s.toArray⟩ : Str).cps.toList = (⟨t.toArray⟩ : Str).cps.toList := by
      have h1 := (List.cons.inj this).1
      exact Sum.inr.inj h1
    have : s = t := by simpa using h2
    rw [this]
  | .int i, .str t, _, _, h => by
    have : [Sum.inl i] = ([Sum.inr (⟨t.toArray⟩ : Str).cps.toList] : List (Int ⊕ List Nat)) := h
    cases this
  | .str s, .int j, _, _, h => by
    have : [Sum.inr (⟨s.toArray⟩ : Str).cps.toList] = ([Sum.inl j] : List (Int ⊕ List Nat)) := h
    cases this
theorem leaf_one : ∀ {x : D}, leafD x = true → ∃ q, PySem.W.keyToks (toPy x) = [q]
  | .int i, _ => ⟨_, rfl⟩
  | .str s, _ => ⟨_, rfl⟩
theorem leafs_toks : ∀ {xs ys : List D}, xs.all leafD = true → ys.all leafD = true → PySem.W.keyToksAll (toPys xs) = PySem.W.keyToksAll (toPys ys) → xs = ys
  | [], [], _, _, _ => rfl
  | [], y :: ys, _, _, h => by
    have : [Sum.inl 0] = (Sum.inl 1 :: (PySem.W.keyToks (toPy y) ++ PySem.W.keyToksAll (toPys ys)) : List (Int ⊕ List Nat)) := by
      simpa only [toPys, PySem.W.keyToksAll] using h
    have h1 := (List.cons.inj this).1
    cases h1
  | x :: xs, [], _, _, h => by
    have : (Sum.inl 1 :: (PySem.W.keyToks (toPy x) ++ PySem.W.keyToksAll (toPys xs)) : List (Int ⊕ List Nat)) = [Sum.inl 0] := by
      simpa only [toPys, PySem.W.keyToksAll] using h
    have h1 := (List.cons.inj this).1
    cases h1
  | x :: xs, y :: ys, hx, hy, h => by
    rw [List.all_cons, Bool.and_eq_true] at hx hy
    have h2 : (Sum.inl 1 :: (PySem.W.keyToks (toPy x) ++ PySem.W.keyToksAll (toPys xs)) : List (Int ⊕ List Nat)) = Sum.inl 1 :: (PySem.W.keyToks (toPy y) ++ PySem.W.keyToksAll (toPys ys)) := by
      simpa only [toPys, PySem.W.keyToksAll] using h
    have h3 := (List.cons.inj h2).2
    obtain ⟨q, eq⟩ := leaf_one hx.1
    obtain ⟨r, er⟩ := leaf_one hy.1
    rw [eq, er] at h3
    have h4 := List.cons.inj h3
    have h5 := h4.1
    subst h5
    rw [leaf_toks hx.1 hy.1 (by rw [eq, er]), leafs_toks hx.2 hy.2 h4.2]
theorem hash_toks {x y : D} (hx : leafD x = true ∨ flatD x = true) (hy : leafD y = true ∨ flatD y = true) (hs : leafD x = leafD y) (h : PySem.W.keyToks (toPy x) = PySem.W.keyToks (toPy y)) : x = y := by
  cases e : leafD x with
  | true => exact leaf_toks e (by rw [← hs, e]) h
  | false =>
    have e' : leafD y = false := by rw [← hs, e]
    rw [e] at hx; rw [e'] at hy
    have hx := hx.resolve_left Bool.false_ne_true
    have hy := hy.resolve_left Bool.false_ne_true
    cases x with
    | tup xs => cases y with
      | tup ys => rw [leafs_toks hx hy h]
      | _ => cases hy
    | _ => cases hx
theorem dle_eq (a b : D) : dle a b = !PyProof.Rows.lexLt itemOrd (PySem.W.keyToks (toPy b)) (PySem.W.keyToks (toPy a)) := rfl
theorem dle_tot (a b : D) : (dle a b || dle b a) = true := by
  rw [dle_eq, dle_eq]
  cases h1 : PyProof.Rows.lexLt itemOrd (PySem.W.keyToks (toPy b)) (PySem.W.keyToks (toPy a)) with
  | false => rfl
  | true =>
    cases h2 : PyProof.Rows.lexLt itemOrd (PySem.W.keyToks (toPy a)) (PySem.W.keyToks (toPy b)) with
    | false => rfl
    | true =>
      have := PyProof.Rows.lex_trans _ _ _ h1 h2
      rw [PyProof.Rows.lex_irrefl] at this
      cases this
theorem dle_trans (a b c : D) (h1 : dle a b = true) (h2 : dle b c = true) : dle a c = true := by
  rw [dle_eq, Bool.not_eq_true'] at h1 h2 ⊢
  cases h : PyProof.Rows.lexLt itemOrd (PySem.W.keyToks (toPy c)) (PySem.W.keyToks (toPy a)) with
  | false => rfl
  | true =>
    rcases PyProof.Rows.lex_negTrans _ (PySem.W.keyToks (toPy b)) _ h with q | q
    · rw [h2] at q; cases q
    · rw [h1] at q; cases q
/-- the same elements come to the same list -/
theorem sort_same {xs ys : List D} (p : xs.Perm ys) (hl : ∀ x ∈ ys, ∀ y ∈ ys, PySem.W.keyToks (toPy x) = PySem.W.keyToks (toPy y) → x = y) : xs.mergeSort dle = ys.mergeSort dle := by
  refine List.Perm.eq_of_pairwise (le := fun a b => dle a b = true) (fun a b ha hb h1 h2 => ?_) (List.pairwise_mergeSort dle_trans dle_tot xs) (List.pairwise_mergeSort dle_trans dle_tot ys) ((List.mergeSort_perm _ _).trans (p.trans (List.mergeSort_perm _ _).symm))
  have ha : a ∈ ys := p.mem_iff.mp ((List.mergeSort_perm _ _).mem_iff.mp ha)
  have hb : b ∈ ys := (List.mergeSort_perm _ _).mem_iff.mp hb
  rw [dle_eq, Bool.not_eq_true'] at h1 h2
  exact hl a ha b hb (PyProof.Rows.lex_total _ _ h2 h1)
theorem hash_alike {xs : List D} (h : hashable xs = true) : ∀ x ∈ dd xs, ∀ y ∈ dd xs, PySem.W.keyToks (toPy x) = PySem.W.keyToks (toPy y) → x = y := by
  unfold hashable at h
  rw [Bool.or_eq_true, Bool.and_eq_true, Bool.and_eq_true] at h
  intro x hx y hy e
  have hx := mem_dd.mp hx
  have hy := mem_dd.mp hy
  rcases h with ⟨h, _⟩ | ⟨h, _⟩
  · exact leaf_toks (List.all_eq_true.mp h x hx) (List.all_eq_true.mp h y hy) e
  · have fx := List.all_eq_true.mp h x hx
    have fy := List.all_eq_true.mp h y hy
    cases x with
    | tup xs => cases y with
      | tup ys => rw [leafs_toks fx fy e]
      | _ => cases fy
    | _ => cases fx
end Pu

set_option Elab.async false
set_option maxRecDepth 100000
set_option maxHeartbeats 3200000
namespace Pu
open PySem L2 PyProof.Rows
open PySem.W (dataLe alike AllAlike Sortable EachIs)
open Pu.Sx

section
variable {X : Cx} {M : Mach} {a : Expr} {A : E} {p1 p2 q pos : Pos}
theorem den_each {H : Hp} {P : Addr → Prop} : ∀ {us : List Value} {ds : List D}, EachIs (Den H P) us ds → ∃ vs, Vals vs us ∧ RDs H P vs ds
  | _, _, .nil => ⟨[], .nil, .nil⟩
  | _, _, .cons ⟨v, h, r⟩ t => by
    obtain ⟨vs, a, b⟩ := den_each t
    exact ⟨v :: vs, .cons h a, .cons r b⟩
/-- what is handed to set(): a list, or a tuple -/
def setSrc : D → Option (List D)
  | .lst xs => some xs
  | .tup xs => some xs
  | _ => none
theorem bsop_src {o : Bs} {x : D} {z : Val} (h : bsop o x = some z) : ∃ ds, setSrc x = some ds ∧ bsop o (.lst ds) = some z := by
  cases x with
  | lst xs => exact ⟨xs, rfl, h⟩
  | tup xs => exact ⟨xs, rfl, by cases o <;> exact h⟩
  | _ => cases o <;> cases h
/-- f(set(a)): the set is made, and f asked -/
theorem pe_ofSet {o : Bs} {f : Str} {id : String} (hc : X.calm = true) (hu : X.A.units + 65 < cLine) (hg : Gl X f) (hm : X.mg f = none) (hb : PySem.bootBuiltins f = some (.builtin id)) (hn : f ≠ "__name__") (hg2 : Gl X "set") (hm2 : X.mg "set" = none) (ha : SE X M a A)
    (na : starEach [a] X.env = [(false, eval a X.env)]) (hdb : (f == ("__debug__" : Str)) = false)
    (fin : ∀ (pins : List (Addr × Obj)) (s : Shared) (σ : L2.St) (H : Hp) (P : Addr → Prop) (Q : VK) (S : Addr) (es : Array (Int × Value)) (ep : Nat) (t : SetTable) (ds ds' : List D) (z : Val), Inv X pins σ H s → (∀ a, P a → H a ≠ none) → SWk X.w s.heap S es ep t → EachIs (Den H P) (es.toList.map (·.2)) ds' → ds'.Perm (dd ds) →
      bsop o (.lst ds) = some z → Gives H P z Q → wpAny (model X.prog X.w) X.A (call (.builtin id) [.ref S]) (EP X pins σ Q) X.xe s) :
    SE X M (.Call (.Name f p1) [.Call (.Name "set" p2) [a] [] q] [] pos) (.bs o A) := by
  refine ⟨fun pins s σ H Q I ⟨W, ρ, O, r, ρ', ok, he, k⟩ => ?_⟩
  unfold ev at he
  obtain ⟨⟨r1, ρ1⟩, e1, he⟩ := Option.bind_eq_some_iff.mp he
  obtain ⟨x, e2, he⟩ := Option.bind_eq_some_iff.mp he
  obtain ⟨z, e3, he⟩ := Option.map_eq_some_iff.mp he
  cases he
  refine Call_ (ld_blt I hg hm hb (hn := hn) (hd := hdb) ?_)
  refine PyProof.Rows.callWith_builtin1 (PyProof.Rows.args_cons ?_ rfl) rfl rfl
  refine Call_ (ld_blt I hg2 hm2 PyProof.Rows.boot_set ?_)
  refine PyProof.Rows.callWith_type1 (PyProof.Rows.args_cons (thn (ha.run pins s σ H (fun u H1 => ∃ O1 S, Post X.K H W O σ H1 O1 S [u] [r1] ρ1) I ⟨W, ρ, O, r1, ρ1, ok, e1, fun H1 O1 S u p => ⟨O1, S, p⟩⟩) fun v s1 ⟨u, H1, I1, ru, O1, S, p⟩ => PyProof.Rows.args_nil ?_) na) na rfl
  obtain ⟨ds, es1, e4⟩ := bsop_src e3
  have rg := p.rg ok p.rr.one (fun _ h => h) e2
  have hP := p.hp ok
  have gv : Gives H1 (fun a => W a ∨ a ∈ O1) z Q := p.give ok fun H3 S3 v q => k _ _ _ _ q
  have hh : hashable ds = true := by
    cases o with
    | sset =>
      have e4 : (if (hashable ds && sortableD (dd ds)) = true then some (Val.ol (((dd ds).mergeSort dle).map .d)) else none) = some z := e4
      split at e4
      · rename_i h; rw [Bool.and_eq_true] at h; exact h.1
      · cases e4
    | lset =>
      have e4 : (if hashable ds = true then some (Val.d (.int (dd ds).length)) else none) = some z := e4
      split at e4
      · assumption
      · cases e4
  have src : ∃ (b : Addr) (its : List Value), u = .ref b ∧ (s1.heap.IsList b its.toArray ∨ s1.heap.IsTuple b its.toArray) ∧ EachIs (Den H1 (fun a => W a ∨ a ∈ O1)) its ds := by
    cases x with
    | lst xs =>
      cases es1
      obtain ⟨b, vs, rfl, sq, rd⟩ := rg
      obtain ⟨its, rv, pl, hz⟩ := I1.list sq
      exact ⟨b, its, rfl, .inl pl.isList, den_all rv rd⟩
    | tup xs =>
      cases es1
      obtain ⟨b, vs, rfl, h1, _, rd⟩ := RD.tup_inv rg
      obtain ⟨its, rv, pl, hz⟩ := I1.tuple (SqT.of (K := X.K) h1)
      exact ⟨b, its, rfl, .inr pl, den_all rv rd⟩
    | _ => cases es1
  obtain ⟨b, its, rfl, pl, dn⟩ := src
  obtain rfl : v = Value.ref b := ru
  refine set_call hc (by omega) I1 pl dn hh fun h' tk es ep t ds' kp SWk' dn' pm => PyProof.Rows.args_nil ?_
  have I2 : Inv X pins σ H1 { s1 with heap := h', toks := tk } := I1.kept (t' := tk) kp
  exact fin pins { s1 with heap := h', toks := tk } σ H1 _ Q s1.heap.objs.size es ep t ds ds' z I2 hP SWk' dn' pm e4 gv
theorem se_lset (hc : X.calm = true) (hu : X.A.units + 65 < cLine) (hg : Gl X "len") (hm : X.mg "len" = none) (hg2 : Gl X "set") (hm2 : X.mg "set" = none) (ha : SE X M a A) (na : starEach [a] X.env = [(false, eval a X.env)]) :
    SE X M (.Call (.Name "len" p1) [.Call (.Name "set" p2) [a] [] q] [] pos) (.bs .lset A) := by
  refine pe_ofSet hc hu hg hm PySem.boot_len (by decide) hg2 hm2 ha na (by decide) fun pins s σ H P Q S es ep t ds ds' z I hP W dn pm e g => ?_
  obtain ⟨o, ho, hex, hd⟩ := W.ob
  have e : (if hashable ds = true then some (Val.d (.int (dd ds).length)) else none) = some z := e
  split at e
  · cases e
    have hl := each_len dn
    rw [List.length_map, Array.length_toList] at hl
    have hs := W.sz
    unfold scanBound at hs
    refine call_len_set ho hex hd W.fits (by omega) ⟨.int (dd ds).length, H, I.tok _, ⟨_, by rw [hl, pm.length_eq]⟩, give_d (.int _) g⟩
  · cases e
theorem se_sset (hc : X.calm = true) (hu : X.A.units + 65 < cLine) (hg : Gl X "sorted") (hm : X.mg "sorted" = none) (hg2 : Gl X "set") (hm2 : X.mg "set" = none) (ha : SE X M a A) (na : starEach [a] X.env = [(false, eval a X.env)]) :
    SE X M (.Call (.Name "sorted" p1) [.Call (.Name "set" p2) [a] [] q] [] pos) (.bs .sset A) := by
  refine pe_ofSet hc hu hg hm (b1_boot .sorted) (by decide) hg2 hm2 ha na (by decide) fun pins s σ H P Q S es ep t ds ds' z I hP W dn pm e g => ?_
  have e : (if (hashable ds && sortableD (dd ds)) = true then some (Val.ol (((dd ds).mergeSort dle).map .d)) else none) = some z := e
  split at e
  case isFalse => cases e
  rename_i hh
  rw [Bool.and_eq_true] at hh
  cases e
  obtain ⟨s1, s2, s3⟩ := sortable_ok hh.2
  have up : ∀ x ∈ ds'.map toPy, x ∈ (dd ds).map toPy := fun x hx => (pm.map toPy).mem_iff.mp hx
  have er : EachIs (fun v b => ∃ as, Reads s.heap v (toPy b) as) (es.toList.map (·.2)) ds' := each_mono (fun u d ⟨v, r, rd⟩ => Dp.reads I _ _ u (rd.dp (K := X.K)) r) dn
  refine sorted_obj (I.ok.hd hc) W dn er (fun x hx y hy => s1 x (up x hx) y (up y hy)) (s2.imp (fun f x hx => f x (up x hx)) (fun f x hx => f x (up x hx))) (fun d hd => by have := s3 d (pm.mem_iff.mp hd); omega) fun s' p out c bs' k g1 o1 hp hg' q eo => ?_
  have es2 : bs'.mergeSort (dataLe false toPy) = (dd ds).mergeSort dle := sort_same (q.trans pm) (hash_alike hh.1)
  rw [es2] at eo
  obtain ⟨ys, rv, rd⟩ := den_each eo
  have hn : H p = none := I.hok.fresh hp
  have hlen : ys.length ≤ sizeLine := by
    have hl := each_len dn
    rw [List.length_map, Array.length_toList] at hl
    have hs := W.sz
    unfold scanBound at hs
    rw [rd.length, (List.mergeSort_perm _ _).length_eq, ← pm.length_eq, ← hl, sizeLine_eq]; omega
  have J : Inv X pins σ (upd H p (.lst ys)) { s with heap := s'.heap, gens := s'.gens, drawn := s'.drawn, toks := s'.toks } :=
    I.call (ch := []) (Un.laid k hp hn) (I.hok.laid k hp ⟨hlen, out, c, rv, hg'⟩) (by rw [g1]; exact I.bare) (fun _ z => nomatch z)
  have e : s' = { s with heap := s'.heap, gens := s'.gens, drawn := s'.drawn, toks := s'.toks } := by
    cases s'
    cases s
    cases o1
    rfl
  rw [e]
  exact ⟨.ref p, _, J, rfl, give_lst hP rd g hn⟩
end
end Pu

set_option Elab.async false
set_option maxRecDepth 100000
set_option maxHeartbeats 3200000
/-! More of the language: reversed(range(n)), list(range(..)), xs.pop(), s.startswith(t, i). -/
namespace Pu
open PySem L2 PyProof.Rows

/-! ### reversed(range(n)) -/
theorem wk_rrange {H : Hp} {P : Addr → Prop} (hi : Int) : Wk (Itc (0 + (((hi - 0).toNat : Nat) : Int) - 1) (-1) (hi - 0).toNat) H P (ranged 0 hi).reverse := by
  intro H2 P2 f hP i
  have hlen : (ranged 0 hi).length = (hi - 0).toNat := by unfold ranged; simp
  refine ⟨fun x hx => ?_, fun hl => by show (hi - 0).toNat ≤ i; rw [List.length_reverse, hlen] at hl; exact hl⟩
  have hi' := (List.getElem?_eq_some_iff.mp hx).1
  rw [List.length_reverse, hlen] at hi'
  refine ⟨hi', fun u H3 y => ?_⟩
  obtain ⟨rfl, rfl⟩ := y
  refine ⟨fun _ _ e => e, ?_⟩
  rw [List.getElem?_reverse (by rw [hlen]; exact hi'), hlen] at hx
  unfold ranged at hx
  rw [List.getElem?_map, List.getElem?_range (by omega)] at hx
  cases hx
  rw [show (0 : Int) + (((hi - 0).toNat : Nat) : Int) - 1 + (i : Nat) * (-1) = 0 + (((hi - 0).toNat - 1 - i : Nat) : Int) by omega]
  exact .int _
section
variable {X : Cx} {M : Mach} {a b c tg : Expr} {A B G : E} {p1 p2 q pos apos : Pos}
theorem si_rrng1 (hg : Gl X "reversed") (hm : X.mg "reversed" = none) (hg2 : Gl X "range") (hm2 : X.mg "range" = none) (h : SE X M a A) (hs : starEach [a] X.env = [(false, eval a X.env)]) (hl : starEach [.Call (.Name "range" p2) [a] [] q] X.env = [(false, eval (.Call (.Name "range" p2) [a] [] q) X.env)]) :
    SI X M tg (.Call (.Name "reversed" p1) [.Call (.Name "range" p2) [a] [] q] [] pos) .rev (.cons (.lrng (.cst (.int 0)) A) .nil) := by
  refine (pi_revR hg hm (prg_1 hg2 hm2 h hs) hl).imp fun σ H R ⟨W, ρ, O, z, q, xs, ok, e1, e2, e3, k⟩ => ?_
  obtain ⟨r, ρ', e4, rfl⟩ := evs_one e1
  unfold ev at e4
  obtain ⟨⟨r1, ρ1⟩, f1, e4⟩ := Option.bind_eq_some_iff.mp e4
  obtain ⟨⟨r2, ρ2⟩, f2, e4⟩ := Option.bind_eq_some_iff.mp e4
  obtain ⟨x, f3, e4⟩ := Option.bind_eq_some_iff.mp e4
  obtain ⟨y, f4, e4⟩ := Option.bind_eq_some_iff.mp e4
  have g1 := f1
  unfold ev at g1
  cases g1
  cases f3
  split at e4
  case h_2 => cases e4
  rename_i i j heq
  cases heq
  split at e4
  case isFalse => cases e4
  rename_i hc
  cases e4
  rw [Bool.and_eq_true, Bool.and_eq_true, decide_eq_true_eq] at hc
  have hq : q = ([.lst (ranged 0 j)], ρ2) := by
    have : srcs ρ2 [.v (.ol ((ranged 0 j).map .d))] = some q := e2
    have e : srcs ρ2 [.v (.ol ((ranged 0 j).map .d))] = some ([.lst (Val.datas ((ranged 0 j).map .d))], ρ2) := rfl
    rw [e, datas_map] at this
    exact (Option.some.inj this).symm
  subst hq
  have hx : xs = (ranged 0 j).reverse := (Option.some.inj e3).symm
  subst hx
  refine ⟨W, ρ, O, r2, ρ2, ok, f2, fun H1 O1 S v p => ?_⟩
  have dy := dat_ok p.re p.rr.one f4
  cases dy
  exact ⟨_, rfl, by omega, by omega, (ends_of hc.1.2).1, (ends_of hc.1.2).2, k _ _ _ (p.forget.stp ok) (wk_rrange j)⟩
/-! ### list(range(..)) -/
theorem rg_ranged {H : Hp} {P : Addr → Prop} (i j : Int) : RDs H P (rgV i j) (ranged i j) := by
  unfold rgV ranged
  generalize List.range (j - i).toNat = l
  induction l with
  | nil => exact .nil
  | cons x l ih => exact .cons (.int _) ih
theorem ranged_len' (i j : Int) : (ranged i j).length = (j - i).toNat := by unfold ranged; simp
/-- from the reading to the two ends -/
theorem lrng_inv {σ : L2.St} {H : Hp} {Q : VK} (h : tE X.K M (.lrng A B) σ H Q) : tRg2 (tE X.K M A) (tE X.K M B) σ H fun i j H2 => RgOk i j ∧ ∃ P, (∀ a, P a → H2 a ≠ none) ∧ Gives H2 P (.ol ((ranged i j).map .d)) Q := by
  obtain ⟨W, ρ, O, r, ρ', ok, he, k⟩ := h
  unfold ev at he
  obtain ⟨⟨r1, ρ1⟩, e1, he⟩ := Option.bind_eq_some_iff.mp he
  obtain ⟨⟨r2, ρ2⟩, e2, he⟩ := Option.bind_eq_some_iff.mp he
  obtain ⟨x, e3, he⟩ := Option.bind_eq_some_iff.mp he
  obtain ⟨y, e4, he⟩ := Option.bind_eq_some_iff.mp he
  split at he
  case h_2 => cases he
  rename_i i j
  split at he
  case isFalse => cases he
  rename_i hc
  cases he
  rw [Bool.and_eq_true, Bool.and_eq_true, decide_eq_true_eq] at hc
  refine tE_two ok e1 e2 fun H2 O2 S u w p => ?_
  obtain ⟨S1, S2, _, h1, h2⟩ := p.rr.two
  have dx := dat_ok p.re h1 e3
  have dy := dat_ok p.re h2 e4
  cases dx; cases dy
  exact ⟨_, _, rfl, rfl, ⟨(ends_of hc.1.1).1, (ends_of hc.1.1).2, (ends_of hc.1.2).1, (ends_of hc.1.2).2, hc.2⟩, _, p.hp ok, p.give ok fun H3 S3 v q => k _ _ _ _ q⟩
theorem se_lrng2 (hc : X.calm = true) (hg : Gl X "list") (hm : X.mg "list" = none) (hg2 : Gl X "range") (hm2 : X.mg "range" = none) (ha : SE X M a A) (hb : SE X M b B) (hl : starEach [.Call (.Name "range" p2) [a, b] [] q] X.env = [(false, eval (.Call (.Name "range" p2) [a, b] [] q) X.env)])
    (na : starEach [a, b] X.env = (false, eval a X.env) :: starEach [b] X.env) (nb : starEach [b] X.env = [(false, eval b X.env)]) : SE X M (.Call (.Name "list" p1) [.Call (.Name "range" p2) [a, b] [] q] [] pos) (.lrng A B) :=
  (pe_listRg hc hg hm (prg_2 hg2 hm2 ha hb na nb (by rw [nb]; rfl)) hl).imp fun σ H Q h => by
    obtain ⟨W, ρ, O, r, ρ', ok, he, k⟩ := lrng_inv h
    refine ⟨W, ρ, O, r, ρ', ok, he, fun H1 O1 S u p => ?_⟩
    obtain ⟨W2, ρ2, O2, r2, ρ3, ok2, he2, k2⟩ := k _ _ _ _ p
    refine ⟨W2, ρ2, O2, r2, ρ3, ok2, he2, fun H2 O3 S2 w p2 => ?_⟩
    obtain ⟨i, j, e1, e2, hr, P, hP, g⟩ := k2 _ _ _ _ p2
    exact ⟨i, j, e1, e2, hr, fun q hq => give_lst hP (rg_ranged i j) g hq⟩
theorem se_lrng1 (hc : X.calm = true) (hg : Gl X "list") (hm : X.mg "list" = none) (hg2 : Gl X "range") (hm2 : X.mg "range" = none) (ha : SE X M a A) (hl : starEach [.Call (.Name "range" p2) [a] [] q] X.env = [(false, eval (.Call (.Name "range" p2) [a] [] q) X.env)])
    (na : starEach [a] X.env = [(false, eval a X.env)]) : SE X M (.Call (.Name "list" p1) [.Call (.Name "range" p2) [a] [] q] [] pos) (.lrng (.cst (.int 0)) A) :=
  (pe_listRg hc hg hm (prg_1 hg2 hm2 ha na) hl).imp fun σ H Q h => by
    obtain ⟨W, ρ, O, r, ρ', ok, he, k⟩ := h
    unfold ev at he
    obtain ⟨⟨r1, ρ1⟩, e1, he⟩ := Option.bind_eq_some_iff.mp he
    obtain ⟨⟨r2, ρ2⟩, e2, he⟩ := Option.bind_eq_some_iff.mp he
    obtain ⟨x, e3, he⟩ := Option.bind_eq_some_iff.mp he
    obtain ⟨y, e4, he⟩ := Option.bind_eq_some_iff.mp he
    have f1 := e1
    unfold ev at f1
    cases f1
    cases e3
    split at he
    case h_2 => cases he
    rename_i i j heq
    cases heq
    split at he
    case isFalse => cases he
    rename_i hc
    cases he
    rw [Bool.and_eq_true, Bool.and_eq_true, decide_eq_true_eq] at hc
    refine tE_one ok e2 fun H2 O2 S u p => ?_
    have dy := dat_ok p.re p.rr.one e4
    cases dy
    exact ⟨_, rfl, ⟨(ends_of hc.1.1).1, (ends_of hc.1.1).2, (ends_of hc.1.2).1, (ends_of hc.1.2).2, hc.2⟩, fun q hq => give_lst (p.hp ok) (rg_ranged _ _) (p.give ok fun H3 S3 v q => k _ _ _ _ q) hq⟩
theorem se_trng1 (hc : X.calm = true) (hg : Gl X "tuple") (hm : X.mg "tuple" = none) (hg2 : Gl X "range") (hm2 : X.mg "range" = none) (ha : SE X M a A) (hl : starEach [.Call (.Name "range" p2) [a] [] q] X.env = [(false, eval (.Call (.Name "range" p2) [a] [] q) X.env)])
    (na : starEach [a] X.env = [(false, eval a X.env)]) : SE X M (.Call (.Name "tuple" p1) [.Call (.Name "range" p2) [a] [] q] [] pos) (.b1 .tuple (.lrng (.cst (.int 0)) A)) :=
  (pe_tupRg hc hg hm (prg_1 hg2 hm2 ha na) hl).imp fun σ H Q h => by
    obtain ⟨W, ρ, O, r, ρ', ok, he, k⟩ := h
    unfold ev at he
    obtain ⟨⟨r0, ρ0⟩, e0, he⟩ := Option.bind_eq_some_iff.mp he
    obtain ⟨x0, e5, he⟩ := Option.bind_eq_some_iff.mp he
    obtain ⟨z, e6, he⟩ := Option.map_eq_some_iff.mp he
    unfold ev at e0
    obtain ⟨⟨r1, ρ1⟩, e1, e0⟩ := Option.bind_eq_some_iff.mp e0
    obtain ⟨⟨r2, ρ2⟩, e2, e0⟩ := Option.bind_eq_some_iff.mp e0
    obtain ⟨x, e3, e0⟩ := Option.bind_eq_some_iff.mp e0
    obtain ⟨y, e4, e0⟩ := Option.bind_eq_some_iff.mp e0
    have f1 := e1
    unfold ev at f1
    cases f1
    cases e3
    split at e0
    case h_2 => cases e0
    rename_i i j heq
    cases heq
    split at e0
    case isFalse => cases e0
    rename_i hc
    cases e0
    have hx : x0 = .lst (ranged 0 j) := by
      have : gdat ρ2 (.v (.ol ((ranged 0 j).map .d))) = some x0 := e5
      have e : gdat ρ2 (.v (.ol ((ranged 0 j).map .d))) = some (.lst (Val.datas ((ranged 0 j).map .d))) := rfl
      rw [e, datas_map] at this
      exact (Option.some.inj this).symm
    subst hx
    cases e6
    cases he
    rw [Bool.and_eq_true, Bool.and_eq_true, decide_eq_true_eq] at hc
    refine tE_one ok e2 fun H2 O2 S u p => ?_
    have dy := dat_ok p.re p.rr.one e4
    cases dy
    exact ⟨_, rfl, ⟨(ends_of hc.1.1).1, (ends_of hc.1.1).2, (ends_of hc.1.2).1, (ends_of hc.1.2).2, hc.2⟩, fun q hq => give_tup (p.hp ok) (rg_ranged _ _) (p.give ok fun H3 S3 v q => k _ _ _ _ q) hq⟩
/-! ### s.startswith(t, i) -/
theorem sw_occ {s t : List Nat} {i : Int} (h0 : 0 ≤ i) (h1 : i ≤ s.length) : PySem.Txt.startswith3 ⟨s.toArray⟩ ⟨t.toArray⟩ i = t.isPrefixOf (s.drop i.toNat) := by
  show Txt.startswith3 (mkS s) (mkS t) i = _
  obtain ⟨n, rfl⟩ := Int.eq_ofNat_of_zero_le h0
  have hn : n ≤ s.length := by omega
  have ef : ∀ L : Nat, fromIndex L (n : Int) = n := fun L => by unfold fromIndex; omega
  unfold Txt.startswith3
  rw [ef, sub_at, mkS_len, mkS_len, Int.toNat_natCast]
  rw [Bool.eq_iff_iff, Bool.and_eq_true, decide_eq_true_eq, beq_iff_eq, List.isPrefixOf_iff_prefix]
  constructor
  · rintro ⟨_, h⟩
    rw [← h]; exact List.take_prefix _ _
  · intro h
    refine ⟨?_, (List.prefix_iff_eq_take.mp h).symm⟩
    have := h.length_le
    rw [List.length_drop] at this
    omega
theorem sw3R_inv {r1 r2 r3 : R} {u : D} (h : sw3R r1 r2 r3 = some u) : ∃ s t i, r1 = .v (.d (.str s)) ∧ r2 = .v (.d (.str t)) ∧ r3 = .v (.d (.int i)) ∧ 0 ≤ i ∧ i ≤ s.length ∧ u = .bl (t.isPrefixOf (s.drop i.toNat)) := by
  have go : ∀ {x y z : D}, sw3 x y z = some u → ∃ s t i, x = .str s ∧ y = .str t ∧ z = .int i ∧ 0 ≤ i ∧ i ≤ s.length ∧ u = .bl (t.isPrefixOf (s.drop i.toNat)) := fun {x y z} h => by
    cases x <;> cases y <;> cases z <;> first | (cases h; done) | skip
    rename_i s t i
    have h : (if 0 ≤ i ∧ i ≤ s.length then some (D.bl (t.isPrefixOf (s.drop i.toNat))) else none) = some u := h
    split at h
    · rename_i hi
      cases h
      exact ⟨s, t, i, rfl, rfl, rfl, hi.1, hi.2, rfl⟩
    · cases h
  cases r1 with
  | v v1 => cases v1 with
    | d x => cases r2 with
      | v v2 => cases v2 with
        | d y => cases r3 with
          | v v3 => cases v3 with
            | d z =>
              obtain ⟨s, t, i, rfl, rfl, rfl, h2⟩ := go (show sw3 x y z = some u from h)
              exact ⟨s, t, i, rfl, rfl, rfl, h2⟩
            | ol _ => cases h
          | _ => cases h
        | ol _ => cases h
      | _ => cases h
    | ol _ => cases h
  | _ => cases h
theorem se_sw3 (ha : SE X M a A) (hb : SE X M b B) (hd : SE X M c G) (hs : starEach [b, c] X.env = (false, eval b X.env) :: starEach [c] X.env) (hs2 : starEach [c] X.env = [(false, eval c X.env)])
    (hbase : attributeBase a "startswith" X.env (eval a X.env) = eval a X.env) (hline : (apos.endLine == pos.line) = true) : SE X M (.Call (.Attribute a "startswith" apos) [b, c] [] pos) (.sw3 A B G) := by
  have few : ((backTo pos (starEach [b, c] X.env)).all (fun x => !x.1) && (backToKw pos (keywordEach [] X.env)).all (fun x => x.1.isSome) && decide (([b, c] : List Expr).length + ([] : List Keyword).length + (if ([] : List Keyword).isEmpty then 0 else 1) < 30)) = true := by
    rw [hs, hs2]; rfl
  refine (pe_bm (X := X) (cpos := pos) (apos := apos) PySem.F.plainAttrs_str PySem.F.slot_str_startswith PySem.F.type_str_startswith mt_startswith3 ha (pa_cons hb (pa_cons hd pa_nil hs2) hs) hbase few hline hs (by rw [hs2]; rfl)).imp fun σ H Q ⟨W, ρ, O, r, ρ', ok, he, k⟩ => ?_
  unfold ev at he
  obtain ⟨⟨r1, ρ1⟩, e1, he⟩ := Option.bind_eq_some_iff.mp he
  obtain ⟨⟨r2, ρ2⟩, e2, he⟩ := Option.bind_eq_some_iff.mp he
  obtain ⟨⟨r3, ρ3⟩, e3, he⟩ := Option.bind_eq_some_iff.mp he
  obtain ⟨u, e7, he⟩ := Option.map_eq_some_iff.mp he
  cases he
  have hsh := sw3R_inv e7
  obtain ⟨s, t, i, rfl, rfl, rfl, h0, h1, rfl⟩ := hsh
  have isv : ∀ {P : Addr → Prop} {H : Hp} {v : V} {d : D} {S : List Addr}, RR X.K H P σ v (.v (.d d)) S → RD H P v d := fun h => by cases h with | v h => cases h with | d h => exact h
  refine ⟨W, ρ, O, _, ρ1, ok, e1, fun H1 O1 S1 v1 p1 => ?_⟩
  obtain ⟨q1, _⟩ := RD.str_inv (isv p1.rr.one)
  subst q1
  refine ⟨rfl, _, ρ1, O1, _, ρ2, p1.ok ok, e2, fun H2 O2 S2 v2 p2 => ?_⟩
  obtain ⟨q2, _⟩ := RD.str_inv (isv p2.rr.one)
  subst q2
  have p12 := p1.trans ok p2
  refine ⟨_, ρ2, O2, _, ρ3, p12.ok ok, e3, fun H3 O3 S3 v3 p3 => ?_⟩
  have q3 := isv p3.rr.one
  cases q3
  refine ⟨_, _, i, rfl, rfl, ?_⟩
  rw [sw_occ h0 h1]
  exact (p12.trans ok p3).giveD ok (fun H3 S3 v q => k _ _ _ _ q) (.bl _)
/-! ### xs.pop() -/
theorem RVs.erase {H : Hp} {P : Addr → Prop} {x : D} : ∀ {xs : List Val} {vs : List V} {S : List Addr} {m : Nat}, RVs H P vs xs S → xs[m]? = some (.d x) → ∃ v, vs[m]? = some v ∧ RD H P v x ∧ RVs H P (vs.eraseIdx m) (xs.eraseIdx m) S
  | [], _, _, _, _, e => by cases e
  | y :: xs, _, _, 0, h, e => by
    cases e
    cases h with
    | cons h1 h2 =>
      cases h1 with
      | d h1 => exact ⟨_, rfl, h1, h2⟩
  | y :: xs, _, _, m + 1, h, e => by
    cases h with
    | cons h1 h2 =>
      obtain ⟨v, e1, e2, e3⟩ := RVs.erase h2 (m := m) e
      exact ⟨v, e1, e2, .cons h1 e3⟩
/-- a stored list takes another one's place, and a datum out of it is the answer -/
theorem pop_post {i : Nat} {K : PySem.W.Frag} {H : Hp} {W : Addr → Prop} {σ : L2.St} {ρ : Env} {O : List Addr} {xs : List Val} {m : Nat} {x : D} (ok : Okk K H W σ ρ O) (g : getS ρ i = some (.ol xs)) (hm : xs[m]? = some (.d x)) :
    ∃ l us v, σ[i]? = some (some (.ref l)) ∧ H l = some (.lst us) ∧ us.length = xs.length ∧ us[m]? = some v ∧ ∃ O', Post K H W O σ (upd H l (.lst (us.eraseIdx m))) O' [] [v] [.v (.d x)] (putS ρ i (.ol (xs.eraseIdx m))) := by
  have hld : Hld K H W σ ρ O [] .non (.d .non) := ok.hld .non
  obtain ⟨l, us, S1, e1, hl, rvs, wr⟩ := own_write (io := fun _ => false) hld g
  obtain ⟨v, e2, rd, rvs'⟩ := RVs.erase rvs hm
  obtain ⟨O', stp⟩ := wr _ _ _ rvs' ⟨[], by simp⟩
  have hlO : l ∈ O := by
    unfold getS at g
    split at g
    case h_2 => cases g
    rename_i z eq
    cases g
    obtain ⟨A, Si, B, ov, f1, f2, r1, _⟩ := ok.re.at3 eq
    rw [f2] at e1
    cases e1
    cases r1 with
    | lo r1 => cases r1 with
      | ol _ _ => rw [f1]; exact List.mem_append_right _ (List.mem_append_left _ (List.mem_cons_self ..))
  refine ⟨l, us, v, e1, hl, rvs.length, e2, O', fun b o e n => stp.keep b o e (by rw [List.append_nil]; exact n), fun b z => ?_, stp.ok.re, .cons (.v (.d (rd.fut fun b o e n => ?_))) .nil, by rw [List.append_nil]; exact stp.ok.nd, fun b z => z.elim (stp.ok.tr b) fun z => nomatch z⟩
  · have := stp.new b (z.elim id fun z => nomatch z)
    rwa [List.append_nil] at this
  · have nb : b ≠ l := fun q => n (.inr (.inl (q ▸ hlO)))
    refine ⟨(upd_ne nb).trans e, fun z => ?_⟩
    rcases z with z | z | z
    · exact n (.inl z)
    · rcases stp.new b z with q | q
      · rw [List.append_nil] at q; exact n (.inr (.inl q))
      · rw [e] at q; cases q
    · cases z
theorem se_pop0 {i : Nat} {y : Str} (hN : X.N[i]? = some y) (hv : Vis X.env.scope y) (h1 : (y == ("__debug__" : Str)) = false) (h2 : (y == ("__classdict__" : Str)) = false) (hline : (apos.endLine == pos.line) = true) :
    SE X M (.Call (.Attribute (.Name y p1) "pop" apos) [] [] pos) (.pop i none) := by
  refine (pe_bm0 (X := X) (cpos := pos) (apos := apos) PySem.F.plainAttrs_list PySem.F.slot_list_pop PySem.F.type_list_pop mt_pop (pe_var hN hv h1 h2) rfl hline).imp fun σ H Q ⟨W, ρ, O, r, ρ', ok, he, k⟩ => ?_
  unfold ev at he
  split at he
  case h_2 => cases he
  rename_i xs g
  obtain ⟨q, e1, he⟩ := Option.bind_eq_some_iff.mp he
  obtain ⟨z, e2, rfl⟩ := Option.map_eq_some_iff.mp (show (xs[xs.length - 1]?).map (fun y => (y, xs.dropLast)) = some q from e1)
  cases z with
  | ol _ => cases he
  | d x =>
    cases he
    obtain ⟨l, us, v, f1, f2, f3, f4, O', p⟩ := pop_post ok g e2
    refine ⟨_, f1, .inl ⟨rfl, us, SqL.of f2⟩, l, us, v, rfl, rfl, f2, by rw [f3]; exact f4, ?_⟩
    have e3 : xs.eraseIdx (xs.length - 1) = xs.dropLast := by simp [List.eraseIdx_length_sub_one]
    have e4 : us.eraseIdx (xs.length - 1) = us.dropLast := by rw [← f3]; simp [List.eraseIdx_length_sub_one]
    rw [e3, e4] at p
    exact k _ _ _ _ p
theorem se_pop1 {i : Nat} {y : Str} {n : Int} {kk : Nat} {p2 : Pos} (hN : X.N[i]? = some y) (hv : Vis X.env.scope y) (h1 : (y == ("__debug__" : Str)) = false) (h2 : (y == ("__classdict__" : Str)) = false) (hline : (apos.endLine == pos.line) = true) (hn : -(2 ^ 63) ≤ n ∧ n < 2 ^ 63) :
    SE X M (.Call (.Attribute (.Name y p1) "pop" apos) [.Constant (.int n) kk p2] [] pos) (.pop i (some n)) := by
  refine (pe_bm (X := X) (cpos := pos) (apos := apos) PySem.F.plainAttrs_list PySem.F.slot_list_pop PySem.F.type_list_pop mt_popAt (pe_var hN hv h1 h2) (pa_cons pe_int pa_nil) rfl rfl hline).imp fun σ H Q ⟨W, ρ, O, r, ρ', ok, he, k⟩ => ?_
  unfold ev at he
  split at he
  case h_2 => cases he
  rename_i xs g
  obtain ⟨q, e1, he⟩ := Option.bind_eq_some_iff.mp he
  obtain ⟨m, e0, e1⟩ := Option.bind_eq_some_iff.mp (show (L2.ixN xs.length n).bind (fun m => (xs[m]?).map fun y => (y, xs.eraseIdx m)) = some q from e1)
  obtain ⟨z, e2, rfl⟩ := Option.map_eq_some_iff.mp e1
  cases z with
  | ol _ => cases he
  | d x =>
    cases he
    obtain ⟨l, us, v, f1, f2, f3, f4, O', p⟩ := pop_post ok g e2
    refine ⟨_, f1, .inl ⟨rfl, us, SqL.of f2⟩, l, us, n, m, v, rfl, rfl, f2, hn.1, hn.2, by rw [f3]; exact (ixN_seq e0).1, f4, k _ _ _ _ p⟩
end
end Pu

set_option Elab.async false
set_option maxRecDepth 100000
set_option maxHeartbeats 2000000
namespace Pu
open PySem L2 RZ RT PyProof.Rows

/-! ### functions of the module, with no guard around -/
abbrev SpG := List V → Hp → VK → Prop
structure GFn (P : Program) (w : World) (K : PySem.W.Frag) (mg : Str → Option Value) (base : Heap) (k : Nat) (f : Addr) (fd : FuncData) (ps : List Str) (sp : SpG) : Prop where
  len : ∀ vs H Q, sp vs H Q → vs.length = ps.length
  run : ∀ (A : Around) (outer : List PySem.Env) (s : Shared) (H : Hp) (args : Args) (us : List Value) (vs : List V) (Q : VK), A.guards = some [] → Room k A → Env0 P w K mg base A outer s H → BindsTo s fd args (ps.zip us) → Vals vs us → sp vs H Q →
    codeAny (model P w) A (.call (.ref f) args) (CR CX0 outer P w H s Q E0) s
abbrev cxG (P : Program) (w : World) (K : PySem.W.Frag) (mg : Str → Option Value) (base : Heap) (N : List Str) (qual : Str) (scope : Scope) (f : Addr) (cd : Value) (A : Around) (outer : List PySem.Env) (s : Shared) (H : Hp) : Cx := (cxOf CX0 P w K mg base N qual scope f cd A outer s H E0).nox
section
variable {P : Program} {w : World} {K : PySem.W.Frag} {mg : Str → Option Value} {base : Heap} {x qual : Str} {params : Arguments} {body : List Stmt} {scope : Scope} {dvs : List V} {kws : List (Str × V)} {f : Addr} {fd : FuncData} {N ps : List Str} {k : Nat} {sp : SpG}
theorem GFn.none (h : ∀ vs H Q, ¬ sp vs H Q) : GFn P w K mg base k f fd ps sp := ⟨fun vs H Q z => (h vs H Q z).elim, fun A outer s H args us vs Q _ _ _ _ _ z => (h vs H Q z).elim⟩
theorem gfn_of (F : FunD K x qual params body scope dvs kws f fd) (S : FnScope N ps scope) (len : ∀ vs H Q, sp vs H Q → vs.length = ps.length)
    (hbody : ∀ (cdv : Value) (A : Around) (outer : List PySem.Env) (s : Shared) (H : Hp) (vs : List V) (Q : VK), A.guards = some [] → Room k (A.deeper (envOfC qual scope s.heap.objs.size f cdv)) → sp vs H Q →
      ∃ t, PSs (cxG P w K mg base N qual scope f cdv A outer s H) body t ∧ t { nx := fun _ H' => Q .non H', rt := Q } (start N vs) H) : GFn P w K mg base (k + 1) f fd ps sp := by
  obtain ⟨oc, od, dV, kV, doc, pm, an, cdv, ct, osl, rfl, lk, hcd, _, _⟩ := F.ex
  constructor
  · exact len
  intro A outer s H args us vs Q hg hr e0 hb r hsp
  have hlen := len _ _ _ hsp
  have KX : K.In s.heap := e0.mod.kin.keeps fun b o e => (e0.bs b o e).1
  have NL : s.heap.NoLimit := e0.mod.nolimit.keeps fun b o e => (e0.bs b o e).1
  have kinds : ((ps.zip us).all fun y => scope.names.lookup y.1 == some .local || scope.names.lookup y.1 == some .cell) = true := by
    rw [List.all_eq_true]
    rintro ⟨n, v⟩ hy
    rcases S.par n (List.of_mem_zip hy).1 with q | q
    · simp [q]
    · simp [q]
  refine Att.call_fn KX NL lk hcd hr.depth hb kinds (fun s1 ic => ?_) S.co S.gen S.kind
  obtain ⟨t, ht, hq⟩ := hbody cdv A outer s H vs Q hg (hr.deeper _) hsp
  have I := inv_start (CX := CX0) (E := E0) S hr.hd e0 hlen r ic
  have run := (PSs.nox ht).run [] s1 (start N vs) H _ I hq
  refine wpAny_mono run (fun fl s' hs => ?_) fun e s' hs => hs
  have ends : ∀ {σ' : L2.St} {H' : Hp} {v : V} {u : Value}, Inv (cxOf CX0 P w K mg base N qual scope f cdv A outer s H E0) [] σ' H' s' → RelV v u → Q v H' → CR CX0 outer P w H s Q E0 (.ok (.ret u)) s' :=
    fun J rv q => ⟨_, _, J.os, J.bare, J.base, J.hok, rv, q⟩
  cases fl with
  | next => obtain ⟨σ', H', J, q⟩ := hs; exact ends (v := .non) (u := .none) J rfl q
  | ret u => obtain ⟨v, σ', H', J, rv, q⟩ := hs; exact ends J rv q
  | brk => obtain ⟨_, _, _, q⟩ := hs; exact q.elim
  | cont => obtain ⟨_, _, _, q⟩ := hs; exact q.elim
end
section
variable {X : Cx} {k : Nat} {f : Addr} {fd : FuncData} {ps : List Str} {sp : SpG} {dvs : List V} {ds : List Value} {x : Str} {p pos : Pos} {e : Expr} {es : List Expr} {t : TA}
def tCallG (sp : SpG) (dvs : List V) (t : TA) : TE := fun σ H Q => t σ H fun vs H1 => sp (vs ++ dvs) H1 Q
theorem run_gfn {pins : List (Addr × Obj)} {σ : L2.St} {H : Hp} {s : Shared} {Q : VK} {us : List Value} {vs : List V} (F : GFn X.prog X.w X.K X.mg X.base k f fd ps sp) (gd : X.A.guards = some []) (room : Room k X.A) (hb : Binds X.K fd ps ds) (dv : Vals dvs ds) (I : Inv X pins σ H s)
    (r : Vals vs us) (h : sp (vs ++ dvs) H Q) : wpAny (model X.prog X.w) X.A (call (.ref f) us) (EP X pins σ Q) X.xe s := by
  have all := r.append dv
  have hl : (us ++ ds).length = ps.length := all.length.symm.trans (F.len _ _ _ h)
  have c := F.run X.A X.stack s H ⟨us, []⟩ (us ++ ds) (vs ++ dvs) Q gd room I.env0 (hb s us I.kIn hl) all h
  refine wpAny_call (codeAny_mono c ?_)
  intro res s' hq
  match res, hq with
  | .ok (.ret u), hq => exact I.after hq
  | .ok .next, hq => exact hq.elim
  | .ok .brk, hq => exact hq.elim
  | .ok .cont, hq => exact hq.elim
  | .error _, hq => exact hq.elim
theorem pe_gcall (F : GFn X.prog X.w X.K X.mg X.base k f fd ps sp) (gd : X.A.guards = some []) (room : Room k X.A) (hg : Gl X x) (hm : X.mg x = some (.ref f)) (hk : PySem.W.keepIn X.K (.ref f) = true) (hb : Binds X.K fd ps ds) (dv : Vals dvs ds) (ha : PA X (e :: es) t)
    (hdb : (x == ("__debug__" : Str)) = false) (he : starEach (e :: es) X.env = (false, eval e X.env) :: starEach es X.env) (hpl : (backTo pos (starEach es X.env)).any (·.1) = false) : PE X (.Call (.Name x p) (e :: es) [] pos) (tCallG sp dvs t) := by
  constructor
  intro pins s σ H Q I h
  have args := ha.run pos pins s σ H _ I h
  refine wpAny_Call_Name_kw (ld_glob I hg hm (PySem.W.callWith_K (h₀ := X.base) I.ok.mod.kin hk (thn args ?_) he hpl) hdb)
  rintro us s1 ⟨vs, H1, I1, r, q⟩
  exact ⟨I1.kIn, run_gfn F gd room hb dv I1 r q⟩
end

/-! ### keywords -/
def KBok (K : PySem.W.Frag) (fd : FuncData) (ps : List Str) (n : Nat) (ks : List Str) (perm : List Nat) : Prop :=
  ∀ (s : Shared) (us ws : List Value), K.In s.heap → us.length = n → ws.length = ks.length → BindsTo s fd ⟨us, ks.zip ws⟩ (ps.zip (pickL perm (us ++ ws)))
theorem vals_pick {vs : List V} {us : List Value} (h : Vals vs us) : ∀ perm : List Nat, Vals (pickL perm vs) (pickL perm us)
  | [] => .nil
  | k :: perm => by
    have ih := vals_pick h perm
    unfold pickL at ih ⊢
    rw [List.filterMap_cons, List.filterMap_cons]
    by_cases hk : k < vs.length
    · obtain ⟨u, hu, r⟩ := h.get (List.getElem?_eq_getElem hk)
      rw [List.getElem?_eq_getElem hk, hu]
      exact .cons r ih
    · have hl := h.length
      rw [List.getElem?_eq_none (show vs.length ≤ k by omega), List.getElem?_eq_none (show us.length ≤ k by omega)]
      exact ih
abbrev SK (X : Cx) (M : Mach) (kws : List Keyword) (As : Es) : Prop := PK X kws (tEs X.K M As)
section
variable {X : Cx} {M : Mach} {k n : Nat} {f : Addr} {fd : FuncData} {ps ks : List Str} {sp : SpG} {x : Str} {p pos kpos : Pos} {e : Expr} {es : List Expr} {kws : List Keyword} {t tk : TA} {perm : List Nat} {nm : Option Str} {A : E} {As : Es}
theorem _root_.L2.PK.imp {t t' : TA} (h : PK X kws t) (k : ∀ σ H Q, t' σ H Q → t σ H Q) : PK X kws t' := ⟨fun pos pins s σ H Q I q => h.run pos pins s σ H Q I (k σ H Q q)⟩
theorem sk_nil : SK X M [] .nil := by
  refine pk_nil.imp fun σ H Q ⟨W, ρ, O, rs, ρ', ok, he, k⟩ => ?_
  unfold evs at he
  cases he
  exact k H O [] [] ok.refl
theorem sk_cons (ha : SE X M e A) (hr : SK X M kws As) : SK X M (⟨nm, e, kpos⟩ :: kws) (.cons A As) := by
  refine (pk_cons ha hr).imp fun σ H Q ⟨W, ρ, O, rs, ρ', ok, he, k⟩ => ?_
  unfold evs at he
  obtain ⟨⟨r1, ρ1⟩, e1, he⟩ := Option.bind_eq_some_iff.mp he
  obtain ⟨⟨rs, ρ2⟩, e2, e3⟩ := Option.map_eq_some_iff.mp he
  cases e3
  exact ⟨W, ρ, O, r1, ρ1, ok, e1, fun H1 O1 S1 x p1 => ⟨_, ρ1, O1, rs, ρ2, p1.ok ok, e2, fun H2 O2 S2 ys p2 => k H2 O2 _ (x :: ys) (p1.trans ok p2)⟩⟩
def tCallKG (n m : Nat) (sp : SpG) (perm : List Nat) (t tk : TA) : TE := fun σ H Q => t σ H fun vs H1 => tk σ H1 fun zs H2 => vs.length = n ∧ zs.length = m ∧ sp (pickL perm (vs ++ zs)) H2 Q
theorem run_gfnk {pins : List (Addr × Obj)} {σ : L2.St} {H : Hp} {s : Shared} {Q : VK} {us ws : List Value} {vs zs : List V} (F : GFn X.prog X.w X.K X.mg X.base k f fd ps sp) (gd : X.A.guards = some []) (room : Room k X.A) (hb : KBok X.K fd ps n ks perm) (I : Inv X pins σ H s)
    (r : Vals vs us) (rz : Vals zs ws) (l1 : vs.length = n) (l2 : zs.length = ks.length) (h : sp (pickL perm (vs ++ zs)) H Q) : wpAny (model X.prog X.w) X.A (call (.ref f) us (ks.zip ws)) (EP X pins σ Q) X.xe s := by
  have all := vals_pick (r.append rz) perm
  have c := F.run X.A X.stack s H ⟨us, ks.zip ws⟩ _ _ Q gd room I.env0 (hb s us ws I.kIn (r.length.symm.trans l1) (rz.length.symm.trans l2)) all h
  refine wpAny_call (codeAny_mono c ?_)
  intro res s' hq
  match res, hq with
  | .ok (.ret u), hq => exact I.after hq
  | .ok .next, hq => exact hq.elim
  | .ok .brk, hq => exact hq.elim
  | .ok .cont, hq => exact hq.elim
  | .error _, hq => exact hq.elim
theorem gcallk_rest {pins : List (Addr × Obj)} {σ : L2.St} {Q : VK} (F : GFn X.prog X.w X.K X.mg X.base k f fd ps sp) (gd : X.A.guards = some []) (room : Room k X.A) (hb : KBok X.K fd ps n ks perm) (hkw : PK X kws tk) (hks : (backToKw pos (keywordEach kws X.env)).filterMap (·.1) = ks) (us : List Value) (s1 : Shared)
    (h : AP X pins σ (fun vs H1 => tk σ H1 fun zs H2 => vs.length = n ∧ zs.length = ks.length ∧ sp (pickL perm (vs ++ zs)) H2 Q) us s1) : wpAny (model X.prog X.w) X.A (evalAll ((backToKw pos (keywordEach kws X.env)).map (·.2)))
      (fun ws s2 => X.K.In s2.heap ∧ wpAny (model X.prog X.w) X.A (call (.ref f) us (((backToKw pos (keywordEach kws X.env)).filterMap (·.1)).zip ws)) (EP X pins σ Q) X.xe s2) X.xe s1 := by
  obtain ⟨vs, H1, I1, r, q⟩ := h
  refine thn (hkw.run pos pins s1 σ H1 _ I1 q) ?_
  rintro ws s2 ⟨zs, H2, I2, rz, l1, l2, q2⟩
  refine ⟨I2.kIn, ?_⟩
  rw [hks]
  exact run_gfnk F gd room hb I2 r rz l1 l2 q2
theorem pe_gcallk (F : GFn X.prog X.w X.K X.mg X.base k f fd ps sp) (gd : X.A.guards = some []) (room : Room k X.A) (hg : Gl X x) (hm : X.mg x = some (.ref f)) (hk : PySem.W.keepIn X.K (.ref f) = true) (hb : KBok X.K fd ps n ks perm)
    (ha : PA X (e :: es) t) (hkw : PK X kws tk) (hall : (backToKw pos (keywordEach kws X.env)).all (·.1.isSome) = true) (hks : (backToKw pos (keywordEach kws X.env)).filterMap (·.1) = ks) (hdb : (x == ("__debug__" : Str)) = false)
    (he : starEach (e :: es) X.env = (false, eval e X.env) :: starEach es X.env) (hpl : ((backTo pos (starEach (e :: es) X.env)).any (·.1) || (backToKw pos (keywordEach kws X.env)).any (·.1.isNone)) = false) :
    PE X (.Call (.Name x p) (e :: es) kws pos) (tCallKG n ks.length sp perm t tk) := by
  constructor
  intro pins s σ H Q I h
  have args := ha.run pos pins s σ H _ I h
  refine wpAny_Call_Name_kw (ld_glob I hg hm ?_ hdb)
  exact PySem.W.callWith_KW (h₀ := X.base) I.ok.mod.kin hk hall (thn args fun us s1 z => gcallk_rest F gd room hb hkw hks us s1 z) hpl he
theorem pe_gcallk0 (F : GFn X.prog X.w X.K X.mg X.base k f fd ps sp) (gd : X.A.guards = some []) (room : Room k X.A) (hg : Gl X x) (hm : X.mg x = some (.ref f)) (hk : PySem.W.keepIn X.K (.ref f) = true) (hb : KBok X.K fd ps n ks perm)
    (hkw : PK X kws tk) (hall : (backToKw pos (keywordEach kws X.env)).all (·.1.isSome) = true) (hks : (backToKw pos (keywordEach kws X.env)).filterMap (·.1) = ks) (hdb : (x == ("__debug__" : Str)) = false)
    (hpl : ((backTo pos (starEach [] X.env)).any (·.1) || (backToKw pos (keywordEach kws X.env)).any (·.1.isNone)) = false) :
    PE X (.Call (.Name x p) [] kws pos) (tCallKG n ks.length sp perm tNil tk) := by
  constructor
  intro pins s σ H Q I h
  refine wpAny_Call_Name_kw (ld_glob I hg hm ?_ hdb)
  exact PySem.W.callWith_KW0 (h₀ := X.base) I.ok.mod.kin hk hall (gcallk_rest F gd room hb hkw hks [] s ⟨[], H, I, .nil, h⟩) hpl
end

/-! ### the law's own call -/
theorem call_law {P : Program} {w : World} {K : PySem.W.Frag} {mg mb : Str → Option Value} {k : Nat} {fa a : Addr} {fd : FuncData} {x : Str} {sp : SpG} {s₁ : Shared} {vs : List Value} {ns : List Int}
    (inK : K.In s₁.heap) (nsG : s₁.heap.Ns mainGlobals mg) (nsB : s₁.heap.Ns builtinsNs mb) (boot : ∀ x : Str, x ≠ "__name__" → mb x = bootBuiltins x) (nolim : s₁.heap.NoLimit) (gens : s₁.gens = #[])
    (at_a : s₁.heap.get? a = some { cls := .type "list", data := .seq vs.toArray }) (nums : IntsAre vs ns) (small : ns.length ≤ sizeLine) (room : Room k callerA)
    (F : ∀ base : Heap, K.In base → base.Ns mainGlobals mg → GFn P w K mg base k fa fd [x] sp) (binds : ∀ (s : Shared) (u : Value), BindsTo s fd ⟨[u], []⟩ [(x, u)])
    (prom : ∀ H : Hp, Only H → SqL K H a (ns.map V.int) → sp [.ref a] H (fun v _ => v = .bl true)) :
    codeAny (model P w) callerA (.call (.ref fa) ⟨[.ref a], []⟩) (fun r s' => r = .ok (.ret (.bool true)) ∧ OldK s₁.heap s'.heap ∧ s'.os = s₁.os ∧ AllBare s'.gens) s₁ := by
  have rv := vals_ints nums
  have key : ∀ H : Hp, Only H → SqL K H a (ns.map V.int) → HOk P w H s₁.heap → (∀ b, H b ≠ none → b = a) → (H a ≠ none → K.lookup a = none) →
      codeAny (model P w) callerA (.call (.ref fa) ⟨[.ref a], []⟩) (fun r s' => r = .ok (.ret (.bool true)) ∧ OldK s₁.heap s'.heap ∧ s'.os = s₁.os ∧ AllBare s'.gens) s₁ := by
    intro H only sq hok one notK
    have nn : ∀ {b : Addr} {u : HO}, H b = some u → b = a := fun {b u} q => one b (by rw [q]; exact fun z => nomatch z)
    have dictN : ∀ {b : Addr} {o : Obj} {es : Array DictEntry} {ep : Nat}, s₁.heap.get? b = some o → o.data = .dict es ep → H b = none := by
      intro b o es ep e d
      cases q : H b with
      | none => rfl
      | some u =>
        obtain rfl := nn q
        rw [at_a] at e
        cases e
        exact absurd d (fun z => nomatch z)
    have nsH : ∀ {b : Addr} {m : Str → Option Value}, s₁.heap.Ns b m → (hidT s₁.heap H).Ns b m := by
      rintro b m ⟨o, es, ep, e, d, r⟩
      exact ⟨o, es, ep, hidT_get e (dictN e d), d, r⟩
    have inH : K.In (hidT s₁.heap H) := by
      intro b o e
      refine hidT_get (inK b o e) ?_
      cases q : H b with
      | none => rfl
      | some u =>
        obtain rfl := nn q
        rw [notK (by rw [q]; exact fun z => nomatch z)] at e
        cases e
    obtain ⟨mc, c1, c2⟩ := nolim
    have md : Mod K mg (hidT s₁.heap H) := ⟨inH, nsH nsG, ⟨mb, nsH nsB, boot⟩, ⟨mc, nsH c1, c2⟩⟩
    have nil0 : ∀ b : Addr, b ∈ frs ([] : List PySem.Env) → False := fun b z => nomatch (show b ∈ ([] : List Addr) from z)
    have env : Env0 P w K mg (hidT s₁.heap H) callerA [] s₁ H := ⟨rfl, md, fun b o e => of_hidT e, Nat.le_of_eq (hidT_size _ _), trivial, fun b z => (nil0 b z).elim, hok, .of_eq gens⟩
    have c := (F _ inH (nsH nsG)).run callerA [] s₁ H ⟨[.ref a], []⟩ [.ref a] [.ref a] _ rfl room env (binds s₁ (.ref a)) (.cons rfl .nil) (prom H only sq)
    refine codeAny_mono c ?_
    intro res s' hq
    match res, hq with
    | .error _, hq => exact hq.elim
    | .ok .next, hq => exact hq.elim
    | .ok .brk, hq => exact hq.elim
    | .ok .cont, hq => exact hq.elim
    | .ok (.ret u), ⟨v, H', os, bare, un, hok', rel, q⟩ =>
      have q' : v = .bl true := q
      subst q'
      have eu : u = Value.bool true := rel
      subst eu
      refine ⟨rfl, OldK.of_keep ?_, os, bare⟩
      intro b o e
      rcases only b with z | ⟨ob, xs, z⟩
      · exact un.keep b o e z (fun w => nil0 b w) (fun w => nomatch w)
      · obtain ⟨e1, _⟩ := hok b _ z
        obtain ⟨e2, _⟩ := hok' b _ (un.frzs b ob _ z)
        rw [e1] at e
        cases e
        exact e2
  cases hk : K.lookup a with
  | some o =>
    have e := inK a o hk
    rw [at_a] at e
    cases e
    refine key (fun _ => none) (fun _ => .inl rfl) (.inr ⟨_, vs.toArray, _, hk, rfl, rfl, rfl, ?_, by simpa using rv⟩) (fun b u z => nomatch z) (fun b z => absurd rfl z) (fun z => absurd rfl z)
    rw [List.size_toArray, nums.length]
    exact small
  | none =>
    have ea : (fun b => if b = a then some (HO.frz { cls := .type "list", data := .seq vs.toArray } (.lst (ns.map V.int))) else none) a = some (HO.frz { cls := .type "list", data := .seq vs.toArray } (.lst (ns.map V.int))) := if_pos rfl
    have one : ∀ b, (fun b => if b = a then some (HO.frz { cls := .type "list", data := .seq vs.toArray } (.lst (ns.map V.int))) else none) b ≠ none → b = a := fun b z => Classical.byContradiction fun n => z (if_neg n)
    refine key _ (fun b => ?_) (.inl (.inr ⟨_, ea⟩)) (fun b u z => ?_) one fun _ => hk
    · by_cases hb : b = a
      · exact .inr ⟨_, _, if_pos hb⟩
      · exact .inl (if_neg hb)
    · obtain rfl := one b (fun q => nomatch (z.symm.trans q))
      have z2 := ea.symm.trans z
      cases z2
      exact ⟨at_a, by rw [List.length_map]; exact small, vs, _, rv, at_a⟩
end Pu

set_option Elab.async false
set_option maxRecDepth 100000
set_option maxHeartbeats 2000000
namespace Pu
open PySem L2 RZ RT PyProof.Rows

/-! ### the module's functions, all at once -/
structure Fx where
  name : Str
  params : Arguments
  body : List Stmt
  scope : Scope
  N : List Str
  ps : List Str
  fd : Fd
/-- a call by keywords: which function, how many by place, the names, which argument each parameter is -/
structure Kp where
  f : Nat
  n : Nat
  ks : List Str
  perm : List Nat
/-- the module: its functions, its plain globals, the builtins' names it leaves alone, the calls by keywords -/
structure Md where
  fx : List Fx
  gc : List (Str × D)
  free : List Str
  kp : List Kp
def Md.F (m : Md) (f : Nat) : Option Fd := (m.fx[f]?).map (·.fd)
structure FxOk (K : PySem.W.Frag) (mg : Str → Option Value) (d : Fx) (a : Addr) (fdat : FuncData) : Prop where
  fn : FunD K d.name d.name d.params d.body d.scope [] [] a fdat
  glo : mg d.name = some (.ref a)
  sc : FnScope d.N d.ps d.scope
  bd : Binds K fdat d.ps []
  np : d.fd.np = d.ps.length
  n : d.fd.n = d.N.length
structure MdOk (K : PySem.W.Frag) (mg : Str → Option Value) (m : Md) (ad : Nat → Addr) (da : Nat → FuncData) : Prop where
  fx : ∀ (f : Nat) (d : Fx), m.fx[f]? = some d → FxOk K mg d (ad f) (da f)
  gc : ∀ p ∈ m.gc, ∃ (v : V) (u : Value), mg p.1 = some u ∧ RelV v u ∧ ∀ H P, RD H P v p.2
  free : ∀ y ∈ m.free, mg y = none
  kp : ∀ q ∈ m.kp, ∀ d, m.fx[q.f]? = some d → KBok K (da q.f) d.ps q.n q.ks q.perm
/-- a context in which the module's calls at level n stand -/
structure Cok (m : Md) (n : Nat) (X : Cx) : Prop where
  calm : X.calm = true
  nd : X.N.Nodup
  gd : X.A.guards = some []
  un : X.A.units + 65 < cLine
  ps : PassesOwn (model X.prog X.w) X.A X.env X.xe
  room : Room n X.A
  ex : ∃ ad da, MdOk X.K X.mg m ad da ∧ ∀ (f : Nat) (d : Fx), m.fx[f]? = some d → GFn X.prog X.w X.K X.mg X.base n (ad f) (da f) d.ps (spF X.K (callK m.F n) (flags m.F) d.fd.np f)
abbrev Md.mach (m : Md) (n : Nat) (d : Fd) : Mach := ⟨flags m.F, callK m.F n, fun j => d.fl.getD j false⟩
/-- every function's code reads its body -/
def CodeOk (m : Md) : Prop := ∀ (n f : Nat) (d : Fx), m.fx[f]? = some d → ∀ X : Cx, Cok m n X → X.env.scope = d.scope → (∀ y, X.fn y = true) → X.N = d.N → SSs X (m.mach n d.fd) d.body d.fd.body

section
variable {K : PySem.W.Frag} {io : Nat → Bool} {H H' : Hp} {P : Addr → Prop} {W : Addr → Prop} {σ : L2.St} {ρ : Env} {O : List Addr}
theorem RE.pad (h : RE K H P σ ρ O) : ∀ m : Nat, RE K H P (σ ++ List.replicate m none) (ρ ++ List.replicate m .un) O := by
  have un : ∀ m : Nat, RE K H P (List.replicate m none) (List.replicate m .un) [] := fun m => by
    induction m with
    | zero => exact .nil
    | succ m ih =>
      rw [List.replicate_succ, List.replicate_succ]
      exact RE.cons (S := []) (O := []) (.un _) ih
  intro m
  induction ρ generalizing σ O with
  | nil => cases h; exact un m
  | cons s ρ ih =>
    cases h with
    | cons h1 h2 => exact .cons h1 (ih h2)
theorem RE.take : ∀ {ρ : Env} {σ : L2.St} {O : List Addr}, RE K H P σ ρ O → ∀ n : Nat, ∃ O', O'.Sublist O ∧ RE K H P (σ.take n) (ρ.take n) O'
  | [], _, _, h, n => by cases h; exact ⟨[], List.Sublist.refl _, by simpa using RE.nil⟩
  | s :: ρ, _, _, h, 0 => by
    cases h; exact ⟨[], List.nil_sublist _, by simpa using RE.nil⟩
  | s :: ρ, _, _, h, n + 1 => by
    cases h with
    | cons h1 h2 =>
      obtain ⟨O', sb, r⟩ := RE.take h2 n
      exact ⟨_, List.Sublist.append (List.Sublist.refl _) sb, by simpa using RE.cons h1 r⟩
/-- the end of a body, as the caller sees it -/
theorem StpV.callV {vs : List V} {np : Nat} {fls : List Bool} {τ σ' : L2.St} {O' S : List Addr} {ρ' : Env} {u : V} {x : Val} (q : StpV K (fun j => fls.getD j false) H W O σ H' O' S σ' ρ' u x) (hσ : σ = vs.map some ++ τ) (hl : vs.length = np) :
    ∃ O1, CallV K fls H W O vs H' O1 S (σ'.take np) u x (ρ'.take np) := by
  obtain ⟨O1, sb, re⟩ := q.hld.re.take np
  have mono : ∀ b, Pp W O1 S b → Pp W O' S b := mono_pp sb
  refine ⟨O1, q.keep, fun b z => q.new b (z.imp (fun z => sb.subset z) id), q.hld.rv.fut (fut_same mono) (fun _ _ _ e => e), re.mono mono, nodup_sub sb q.hld.nd, fun b z => q.hld.tr b (z.imp (fun z => sb.subset z) id), fun j hj => ?_⟩
  have hj' := q.io j hj
  by_cases hlt : j < np
  · rw [List.getElem?_take_of_lt hlt, hj', hσ, List.getElem?_append_left (by rw [List.length_map]; omega)]
  · rw [List.getElem?_eq_none (by rw [List.length_take]; omega), List.getElem?_eq_none (by rw [List.length_map]; omega)]
theorem Stp.stpv {σ' : L2.St} {O' : List Addr} {ρ' : Env} (q : Stp K io H W O σ H' O' σ' ρ') : StpV K io H W O σ H' O' [] σ' ρ' .non (.d .non) :=
  StpV.mk q.keep (fun b h => h.elim (q.new b) fun z => nomatch z) (q.ok.hld .non) q.io q.len
end
section
variable {P : Program} {w : World} {K : PySem.W.Frag} {mg : Str → Option Value} {base : Heap} {m : Md} {ad : Nat → Addr} {da : Nat → FuncData}
theorem all_fns (code : CodeOk m) (ok : MdOk K mg m ad da) : ∀ (n f : Nat) (d : Fx), m.fx[f]? = some d → GFn P w K mg base n (ad f) (da f) d.ps (spF K (callK m.F n) (flags m.F) d.fd.np f)
  | 0, f, d, _ => .none fun vs H Q ⟨_, W, args, O, x, outs, _, e, _⟩ => by simp [callK] at e
  | n + 1, f, d, hd => by
    have ih := all_fns code ok n
    have fk := ok.fx f d hd
    refine gfn_of fk.fn fk.sc (fun vs H Q z => z.1.trans fk.np) fun cdv A outer s H vs Q hg hr hsp => ?_
    obtain ⟨hl, W, args, O, x, outs, okc, hC, kk⟩ := hsp
    have un : A.units + 3 + 16 * n + 200 < cLine := hr.un
    have c : Cok m n (cxG P w K mg base d.N d.name d.scope (ad f) cdv A outer s H) := ⟨rfl, fk.sc.nd, hg, by show A.units + 3 + 65 < cLine; omega, PassesOwn.never, hr, ad, da, ok, ih⟩
    refine ⟨_, code n f d hd _ c rfl (fun _ => rfl) rfl, ?_⟩
    have eF : m.F f = some d.fd := by unfold Md.F; rw [hd]; rfl
    have la : args.length = d.fd.np := by
      have := okc.re.length
      rw [List.length_map] at this
      omega
    unfold callK at hC
    rw [eF] at hC
    simp only [la, if_true] at hC
    have est : L2.start d.N vs = vs.map some ++ List.replicate (d.fd.n - d.fd.np) none := by unfold L2.start; rw [fk.n, hl]
    have fl : flags m.F f = d.fd.fl := by unfold flags; rw [eF]
    have okp : Okk K H W (L2.start d.N vs) (args ++ List.replicate (d.fd.n - d.fd.np) .un) O := ⟨by rw [est]; exact okc.re.pad _, okc.nd, okc.w, okc.tr⟩
    cases ho : exec (m.mach n d.fd) d.fd.body (args ++ List.replicate (d.fd.n - d.fd.np) .un) with
    | none => rw [ho] at hC; cases hC
    | some o =>
      rw [ho] at hC
      refine ⟨W, _, O, o, okp, ho, ?_⟩
      cases o with
      | nx ρ' =>
        cases hC
        intro H' O' σ' q
        obtain ⟨O1, cv⟩ := q.stpv.callV est hl
        rw [← fl] at cv
        exact kk _ _ _ _ _ cv
      | rt v ρ' =>
        cases hC
        intro H' O' S σ' u q
        obtain ⟨O1, cv⟩ := q.callV est hl
        rw [← fl] at cv
        exact kk _ _ _ _ _ cv
      | bk ρ' => cases hC
      | ct ρ' => cases hC
/-- the law: what its own function answers -/
theorem law_prom {k f : Nat} {d : Fx} {a : Addr} {ns : List Int} (h1 : d.fd.np = 1) (h : ∃ outs, callK m.F k f [.rd ns] = some (.d (.bl true), outs)) (H : Hp) (only : Only H) (sq : SqL K H a (ns.map V.int)) :
    spF K (callK m.F k) (flags m.F) d.fd.np f [.ref a] H (fun v _ => v = .bl true) := by
  obtain ⟨outs, e⟩ := h
  refine ⟨h1.symm, fun _ => False, [.rd ns], [], _, outs, ⟨?_, List.nodup_nil, fun a z => z.elim, fun a z => nomatch z⟩, e, fun H' O' S τ u c => ?_⟩
  · refine RE.cons (S := []) (O := []) (.rd ?_) .nil
    rcases sq with z | z
    · rcases z with z | ⟨o, z⟩
      · rcases only a with q | ⟨o, xs, q⟩
        · rw [z] at q; cases q
        · rw [z] at q; cases q
      · have np : ¬ Pp (fun _ => False) [] [] a := fun z => z.elim id fun z => z.elim (fun z => nomatch z) fun z => nomatch z
        exact .inl ⟨np, o, z⟩
    · exact .inr z
  · have rv := c.rv
    cases rv with
    | d rd => cases rd; rfl
end
end Pu

set_option Elab.async false
set_option maxRecDepth 100000
set_option maxHeartbeats 4000000
namespace Pu
open PySem L2 RZ RT PyProof.Rows

/-! ### from the text to code, each step with its reason -/
structure St where
  m : Md
  sc : Scope
  N : List Str
  fb : Str → Bool
structure Here (c : St) (X : Cx) (M : Mach) : Prop where
  ex : ∃ n, Cok c.m n X ∧ M.fl = flags c.m.F ∧ M.C = callK c.m.F n
  sc : X.env.scope = c.sc
  N : X.N = c.N
  fb : ∀ y, c.fb y = true → X.fn y = true
abbrev CE (c : St) (e : Expr) := Option { A : E // ∀ X M, Here c X M → SE X M e A }
abbrev CEs (c : St) (es : List Expr) := Option { A : Es // A.len = es.length ∧ ∀ X M, Here c X M → SA X M es A }
abbrev CT (c : St) (e : Expr) := Option { A : T // ∀ X M, Here c X M → ST X M e A }
abbrev CO (c : St) (e : Option Expr) := Option { A : Eo // ∀ X M, Here c X M → SO X M e A }
abbrev CG (c : St) (e : Expr) := Option { A : Tg // ∀ X M, Here c X M → SG X M e A }
def Tgs.len : Tgs → Nat
  | .nil => 0
  | .cons _ ts => ts.len + 1
abbrev CGs (c : St) (es : List Expr) := Option { A : Tgs // (A.len = es.length ∧ ∀ env, (assignEach es env).findIdx? (·.1) = none) ∧ ∀ X M, Here c X M → SGs X M es A }
abbrev CIt (c : St) (tg e : Expr) := Option { A : Ik × Es // ∀ X M, Here c X M → SI X M tg e A.1 A.2 }
abbrev CS (c : St) (e : Stmt) := Option { A : S // ∀ X M, Here c X M → SS X M e A }
abbrev CSs (c : St) (e : List Stmt) := Option { A : S // ∀ X M, Here c X M → SSs X M e A }
def isStar : Expr → Bool
  | .Starred _ _ => true
  | _ => false
theorem star_ok {a : Expr} {es : List Expr} {env : PySem.Env} (h : isStar a = false) : starEach (a :: es) env = (false, eval a env) :: starEach es env := by
  cases a <;> first | rfl | cases h
theorem star_any {env : PySem.Env} {pos : Pos} : ∀ {es : List Expr}, es.any isStar = false → (backTo pos (starEach es env)).any (·.1) = false
  | [], _ => rfl
  | a :: es, h => by
    rw [List.any_cons, Bool.or_eq_false_iff] at h
    rw [star_ok h.1]
    have ih := star_any (env := env) (pos := pos) h.2
    unfold backTo at ih ⊢
    simpa using ih
theorem asg_star {a : Expr} {es : List Expr} {env : PySem.Env} (h : isStar a = false) : assignEach (a :: es) env = (false, assign a env) :: assignEach es env := by
  cases a <;> first | rfl | cases h
def plainT : Expr → Bool
  | .UnaryOp .Not _ _ => false
  | .BoolOp _ _ _ => false
  | .IfExp _ _ _ _ => false
  | .Compare _ _ _ _ => false
  | _ => true
theorem plainT_ok {e : Expr} {env : PySem.Env} (h : plainT e = true) : ∀ whole, isTrue e env whole = (do let v ← whole; standAt e.pos; holding [v] (truthy v)) := by
  intro whole
  cases e with
  | UnaryOp op a p => cases op <;> first | rfl | cases h
  | BoolOp _ _ _ => cases h
  | IfExp _ _ _ _ => cases h
  | Compare _ _ _ _ => cases h
  | _ => rfl
def plainI : Expr → Bool
  | .Name _ _ => true
  | .Constant _ _ _ => true
  | .BinOp _ _ _ _ => true
  | .Call _ _ _ _ => true
  | .UnaryOp _ _ _ => true
  | .Subscript _ _ _ => true
  | .IfExp _ _ _ _ => true
  | _ => false
theorem plainI_ok {b : Expr} (h : plainI b = true) : PlainIx b := by
  intro o i
  cases b <;> first | rfl | cases h
def notComp : Expr → Bool
  | .ListComp _ _ _ _ => false
  | .SetComp _ _ _ _ => false
  | .DictComp _ _ _ _ _ => false
  | _ => true
theorem notComp_ok {e : Expr} {t : Option Expr} {l : Nat} {env : PySem.Env} (h : notComp e = true) : swapsWith e t l env = pure false := by
  cases e <;> first | rfl | cases h
def notSet : Expr → Bool
  | .Set _ _ _ => false
  | _ => true
theorem notSet_ok {e : Expr} {env : PySem.Env} (h : notSet e = true) : ∀ x, foldedSetIterable e env x = pure x := by
  intro x
  cases e <;> first | rfl | cases h
def St.gl (c : St) (x : Str) : Bool := decide (c.sc.names.lookup x = some .globalImplicit)
theorem Here.gl {c : St} {X : Cx} {M : Mach} (h : Here c X M) {x : Str} (e : c.gl x = true) : Gl X x := by
  show X.env.scope.names.lookup x = _
  rw [h.sc]
  exact of_decide_eq_true e
def St.bl (c : St) (x : Str) : Bool := c.gl x && decide (x ∈ c.m.free)
theorem Here.bl {c : St} {X : Cx} {M : Mach} (h : Here c X M) {x : Str} (e : c.bl x = true) : Gl X x ∧ X.mg x = none := by
  unfold St.bl at e
  rw [Bool.and_eq_true] at e
  obtain ⟨n, k, _⟩ := h.ex
  obtain ⟨ad, da, mo, _⟩ := k.ex
  exact ⟨h.gl e.1, mo.free x (of_decide_eq_true e.2)⟩
theorem Here.cok {c : St} {X : Cx} {M : Mach} (h : Here c X M) : X.calm = true ∧ X.N.Nodup ∧ X.A.guards = some [] ∧ X.A.units + 65 < cLine ∧ PassesOwn (model X.prog X.w) X.A X.env X.xe := by
  obtain ⟨n, k, _⟩ := h.ex
  exact ⟨k.calm, k.nd, k.gd, k.un, k.ps⟩
def St.blk (c : St) (scope : Scope) : St := ⟨c.m, relS scope c.sc, c.N, fun x => scope.names.lookup x == some .cell⟩
theorem Here.blk {c : St} {X : Cx} {M : Mach} (h : Here c X M) (s : Shared) (H : Hp) (scope : Scope) (C : Addr) (cl : List (Str × Addr)) (fp : List Addr) : Here (c.blk scope) (X.blk s H scope (compEnvC scope cl C X.env) fp) M := by
  obtain ⟨n, k, e1, e2⟩ := h.ex
  refine ⟨⟨n, ⟨k.calm, k.nd, k.gd, k.un, PassesOwn.never, k.room, k.ex⟩, e1, e2⟩, ?_, h.N, fun y z => z⟩
  show relS scope X.env.scope = _
  rw [h.sc]; rfl
def opOf : (p : Operator) → Option { o : Op // opP o = p }
  | .Add => some ⟨.add, rfl⟩
  | .Sub => some ⟨.sub, rfl⟩
  | .Mult => some ⟨.mul, rfl⟩
  | .FloorDiv => some ⟨.fdiv, rfl⟩
  | .Mod => some ⟨.mod, rfl⟩
  | .Pow => some ⟨.pow, rfl⟩
  | _ => none
def cmOf (p : CmpOp) : Option { o : Cm // cmP o = p } :=
  match p with
  | .Lt => some ⟨.lt, rfl⟩
  | .LtE => some ⟨.le, rfl⟩
  | .Gt => some ⟨.gt, rfl⟩
  | .GtE => some ⟨.ge, rfl⟩
  | .Eq => some ⟨.eq, rfl⟩
  | .NotEq => some ⟨.ne, rfl⟩
  | .In => some ⟨.in_, rfl⟩
  | .NotIn => some ⟨.nin, rfl⟩
  | .Is => some ⟨.is_, rfl⟩
  | .IsNot => some ⟨.isn, rfl⟩
def tyOf (x : Str) : Option { t : Ty // t.nS = x } :=
  if h : Ty.nS .int = x then some ⟨_, h⟩ else if h : Ty.nS .bool = x then some ⟨_, h⟩ else if h : Ty.nS .str = x then some ⟨_, h⟩ else if h : Ty.nS .list = x then some ⟨_, h⟩ else if h : Ty.nS .tuple = x then some ⟨_, h⟩ else none
def b1Of (x : Str) : Option { o : B1 // b1N o = x } :=
  let rec go : List B1 → Option { o : B1 // b1N o = x }
    | [] => none
    | o :: os => if h : b1N o = x then some ⟨o, h⟩ else go os
  go [.len, .abs, .sum, .all, .any, .int, .list, .tuple, .repr, .max, .min, .sorted, .bool]
def mtOf (x : Str) : Option { o : Mt // mtN o = x } :=
  let rec go : List Mt → Option { o : Mt // mtN o = x }
    | [] => none
    | o :: os => if h : mtN o = x then some ⟨o, h⟩ else go os
  go [.index, .startswith, .endswith]
/-- what a method is asked of, other than super() -/
def plainB : Expr → Bool
  | .Name _ _ => true
  | .Constant _ _ _ => true
  | .Subscript _ _ _ => true
  | .BinOp _ _ _ _ => true
  | .List _ _ => true
  | .Call _ (_ :: _) _ _ => true
  | _ => false
theorem plainB_ok {e : Expr} (h : plainB e = true) (n : Str) (env : PySem.Env) : attributeBase e n env (eval e env) = eval e env := by
  cases e with
  | Call f as ks p => cases as with
    | nil => cases h
    | cons a as => cases f <;> rfl
  | _ => first | rfl | cases h
end Pu

set_option Elab.async false
set_option maxRecDepth 100000
set_option maxHeartbeats 4000000
namespace Pu
open PySem L2 RZ RT PyProof.Rows

structure Rc where
  e : ∀ (c : St) (e : Expr), CE c e
  t : ∀ (c : St) (e : Expr), CT c e
  g : ∀ (c : St) (e : Expr), CG c e
def cEs (r : Rc) (c : St) : (es : List Expr) → CEs c es
  | [] => some ⟨.nil, rfl, fun X M _ => sa_nil⟩
  | a :: es => if h : isStar a = false then
      match r.e c a, cEs r c es with
      | some ⟨A, ha⟩, some ⟨As, hl, hs⟩ => some ⟨.cons A As, congrArg (· + 1) hl, fun X M h0 => sa_cons (ha X M h0) (hs X M h0) (star_ok h)⟩
      | _, _ => none
    else none
def cKs (r : Rc) (c : St) : (kws : List Keyword) → Option { A : Es // A.len = kws.length ∧ (∀ env pos, (backToKw pos (keywordEach kws env)).all (·.1.isSome) = true ∧ (backToKw pos (keywordEach kws env)).filterMap (·.1) = kws.filterMap (·.arg) ∧ (backToKw pos (keywordEach kws env)).any (·.1.isNone) = false) ∧ (kws.filterMap (·.arg)).length = kws.length ∧ ∀ X M, Here c X M → SK X M kws A }
  | [] => some ⟨.nil, rfl, fun env pos => ⟨rfl, rfl, rfl⟩, rfl, fun X M _ => sk_nil⟩
  | ⟨some nm, a, p⟩ :: kws => match r.e c a, cKs r c kws with
      | some ⟨A, ha⟩, some ⟨As, hl, hk, hn, hs⟩ => some ⟨.cons A As, congrArg (· + 1) hl, fun env pos => by
          obtain ⟨h1, h2, h3⟩ := hk env pos
          have e : backToKw pos (keywordEach (⟨some nm, a, p⟩ :: kws) env) = (some nm, (do let v ← eval a env; standAt pos; pure v)) :: backToKw pos (keywordEach kws env) := rfl
          rw [e, List.all_cons, List.filterMap_cons, List.any_cons, h1, h2, h3]
          exact ⟨rfl, rfl, rfl⟩, by simpa using hn, fun X M h0 => sk_cons (ha X M h0) (hs X M h0)⟩
      | _, _ => none
  | ⟨none, _, _⟩ :: _ => none
def cO (r : Rc) (c : St) : (e : Option Expr) → CO c e
  | none => some ⟨.no, fun X M _ => so_no⟩
  | some a => match r.e c a with
    | some ⟨A, ha⟩ => some ⟨.so A, fun X M h0 => so_so (ha X M h0)⟩
    | none => none
def St.ix (c : St) (x : Str) : Nat := c.N.idxOf x
def St.vis (c : St) (x : Str) : Bool := decide (c.N[c.ix x]? = some x) && (decide (c.sc.names.lookup x = some .local) || (decide (c.sc.names.lookup x = some .cell) || decide (c.sc.names.lookup x = some .free)))
def cName (c : St) (x : Str) (pos : Pos) : CE c (.Name x pos) :=
  if hd : (x == ("__debug__" : Str)) = false ∧ (x == ("__classdict__" : Str)) = false then
    if h : c.vis x = true then some ⟨.var (c.ix x), fun X M h0 => by
      unfold St.vis at h
      rw [Bool.and_eq_true, Bool.or_eq_true, Bool.or_eq_true] at h
      refine se_var (by rw [h0.N]; exact of_decide_eq_true h.1) ?_ hd.1 hd.2
      unfold Vis
      rw [h0.sc]
      exact h.2.imp of_decide_eq_true fun z => z.imp of_decide_eq_true of_decide_eq_true⟩
    else if hg : c.gl x = true then match hf : c.m.gc.find? (fun p => p.1 == x) with
      | some p => if he : p.1 = x then some ⟨.cst p.2, fun X M h0 => by
          obtain ⟨n, k, _⟩ := h0.ex
          obtain ⟨ad, da, mo, _⟩ := k.ex
          obtain ⟨v, u, e1, e2, e3⟩ := mo.gc p (List.mem_of_find?_eq_some hf)
          rw [he] at e1
          exact se_cst (pe_glob (h0.gl hg) e1 e2 hd.1) e3⟩ else none
      | none => none
    else none
  else none
def cConst (c : St) (k : Const) (j : Nat) (pos : Pos) : CE c (.Constant k j pos) :=
  match k with
  | .none => some ⟨.cst .non, fun X M _ => se_cst pe_non fun _ _ => .non⟩
  | .bool b => some ⟨.cst (.bl b), fun X M _ => se_cst pe_bl fun _ _ => .bl b⟩
  | .int i => some ⟨.cst (.int i), fun X M _ => se_cst pe_int fun _ _ => .int i⟩
  | .str x => if h : x.cps.toList.length ≤ line ∧ x.cps.toList.all (fun c => decide (c < 0x110000)) = true then some ⟨.cst (.str x.cps.toList), fun X M _ => se_cst pe_str fun H P => by
      have q := RD.str (H := H) (P := P) x.cps.toList h.1 h.2
      rwa [Array.toArray_toList] at q⟩ else none
  | _ => none
def isNm : Expr → Bool
  | .Name _ _ => true
  | _ => false
def fzIf {c : St} {e : Expr} (b : Bool) (z : { A : E // ∀ X M, Here c X M → SE X M e A }) : { A : E // ∀ X M, Here c X M → SE X M e A } :=
  match b with
  | true => ⟨.fz z.1, fun X M h => se_fz (z.2 X M h)⟩
  | false => z
def cAnd (r : Rc) (c : St) (pos : Pos) : (vs : List Expr) → CE c (.BoolOp .And vs pos)
  | [] => none
  | [a] => match r.e c a with
    | some ⟨A, ha⟩ => some ⟨A, fun X M h0 => pe_one (ha X M h0)⟩
    | none => none
  | a :: b :: rest => match r.e c a, cAnd r c pos (b :: rest) with
    | some ⟨A, ha⟩, some ⟨B, hb⟩ => some ⟨.and A B, fun X M h0 => se_and (ha X M h0) (hb X M h0)⟩
    | _, _ => none
def cOr (r : Rc) (c : St) (pos : Pos) : (vs : List Expr) → CE c (.BoolOp .Or vs pos)
  | [] => none
  | [a] => match r.e c a with
    | some ⟨A, ha⟩ => some ⟨A, fun X M h0 => pe_one (ha X M h0)⟩
    | none => none
  | a :: b :: rest => match r.e c a, cOr r c pos (b :: rest) with
    | some ⟨A, ha⟩, some ⟨B, hb⟩ => some ⟨.or A B, fun X M h0 => se_or (ha X M h0) (hb X M h0)⟩
    | _, _ => none
abbrev CW (c : St) (e : Expr) := Option { A : T // ∀ X M, Here c X M → SW X M e A }
def wAnd (r : Rc) (c : St) (pos : Pos) : (vs : List Expr) → CW c (.BoolOp .And vs pos)
  | [] => none
  | [a] => match r.t c a with
    | some ⟨A, ha⟩ => some ⟨A, fun X M h0 => sw_and1 (ha X M h0)⟩
    | none => none
  | a :: b :: rest => match r.t c a, wAnd r c pos (b :: rest) with
    | some ⟨A, ha⟩, some ⟨B, hb⟩ => some ⟨.an A B, fun X M h0 => sw_and (ha X M h0) (hb X M h0)⟩
    | _, _ => none
def wOr (r : Rc) (c : St) (pos : Pos) : (vs : List Expr) → CW c (.BoolOp .Or vs pos)
  | [] => none
  | [a] => match r.t c a with
    | some ⟨A, ha⟩ => some ⟨A, fun X M h0 => sw_or1 (ha X M h0)⟩
    | none => none
  | a :: b :: rest => match r.t c a, wOr r c pos (b :: rest) with
    | some ⟨A, ha⟩, some ⟨B, hb⟩ => some ⟨.orr A B, fun X M h0 => sw_or (ha X M h0) (hb X M h0)⟩
    | _, _ => none
/-! ### what is walked -/
def cIt (r : Rc) (c : St) (tg : Expr) (e : Expr) : CIt c tg e :=
  match e with
  | .Call (.Name f p) args [] pos =>
    if hr : c.bl "range" = true ∧ f = "range" then
      match args with
      | [a] => if ha : isStar a = false then match cEs r c [a] with
        | some ⟨As, _, hs⟩ => some ⟨(.rng1, As), fun X M h0 => by rw [hr.2]; exact si_rng1 (h0.bl hr.1).1 (h0.bl hr.1).2 (hs X M h0) (star_ok ha)⟩
        | none => none else none
      | [a, b] => if ha : isStar a = false ∧ isStar b = false then match cEs r c [a, b] with
        | some ⟨As, _, hs⟩ => some ⟨(.rng2, As), fun X M h0 => by rw [hr.2]; exact si_rng2 (h0.bl hr.1).1 (h0.bl hr.1).2 (hs X M h0) (by rw [star_ok ha.1, star_ok ha.2]; rfl) (star_ok ha.2)⟩
        | none => none else none
      | _ => none
    else if hr : c.bl "reversed" = true ∧ f = "reversed" then
      match args with
      | [.Call (.Name f2 p2) [a] [] q] => if ha : isStar a = false ∧ c.bl "range" = true ∧ f2 = "range" then match r.e c a with
        | some ⟨A, hA⟩ => some ⟨(.rev, .cons (.lrng (.cst (.int 0)) A) .nil), fun X M h0 => by
            rw [hr.2, ha.2.2]
            exact si_rrng1 (h0.bl hr.1).1 (h0.bl hr.1).2 (h0.bl ha.2.1).1 (h0.bl ha.2.1).2 (hA X M h0) (star_ok ha.1) (star_ok rfl)⟩
        | none => none
        else match r.e c (.Call (.Name f2 p2) [a] [] q) with
        | some ⟨A, hA⟩ => some ⟨(.rev, .cons A .nil), fun X M h0 => by rw [hr.2]; exact si_rev (h0.bl hr.1).1 (h0.bl hr.1).2 (hA X M h0) (star_ok rfl)⟩
        | none => none
      | [a] => if ha : isStar a = false then match r.e c a with
        | some ⟨A, hA⟩ => some ⟨(.rev, .cons A .nil), fun X M h0 => by rw [hr.2]; exact si_rev (h0.bl hr.1).1 (h0.bl hr.1).2 (hA X M h0) (star_ok ha)⟩
        | none => none else none
      | _ => none
    else if hr : c.bl "zip" = true ∧ f = "zip" then
      match tg, args with
      | .Tuple elts kk tpos, [a, b] => if ha : isStar a = false ∧ isStar b = false then match cEs r c [a, b] with
        | some ⟨As, _, hs⟩ => some ⟨(.zip, As), fun X M h0 => by rw [hr.2]; exact si_zip (h0.bl hr.1).1 (h0.bl hr.1).2 (hs X M h0) (star_ok ha.1) (star_any (by rw [List.any_cons, ha.2]; rfl))⟩
        | none => none else none
      | _, _ => none
    else if hr : c.bl "enumerate" = true ∧ f = "enumerate" then
      match tg, args with
      | .Tuple elts kk tpos, [.Call (.Name f2 p2) [a, b] [] pos2] => if ha : isStar a = false ∧ isStar b = false ∧ c.bl "zip" = true ∧ f2 = "zip" then match cEs r c [a, b] with
        | some ⟨As, _, hs⟩ => some ⟨(.enzip, As), fun X M h0 => by rw [hr.2, ha.2.2.2]; exact si_ez (h0.bl hr.1).1 (h0.bl hr.1).2 (h0.bl ha.2.2.1).1 (h0.bl ha.2.2.1).2 (hs X M h0) (star_ok ha.1) (star_any (by rw [List.any_cons, ha.2.1]; rfl))⟩
        | none => none else none
      | .Tuple elts kk tpos, [a] => if ha : isStar a = false then match cEs r c [a] with
        | some ⟨As, _, hs⟩ => some ⟨(.enum, As), fun X M h0 => by rw [hr.2]; exact si_enum (h0.bl hr.1).1 (h0.bl hr.1).2 (hs X M h0) (star_ok ha)⟩
        | none => none else none
      | _, _ => none
    else match r.e c (.Call (.Name f p) args [] pos) with
      | some ⟨A, hA⟩ => some ⟨(.seq, .cons A .nil), fun X M h0 => si_seq (hA X M h0)⟩
      | none => none
  | e => match r.e c e with
    | some ⟨A, hA⟩ => some ⟨(.seq, .cons A .nil), fun X M h0 => si_seq (hA X M h0)⟩
    | none => none
/-! ### comprehensions -/
def ownOf (N : List Str) (scope : Scope) : List (Str × Nat) := scope.names.filterMap fun y => match y.2 with
  | .local => if y.1 ∈ N then some (y.1, N.idxOf y.1) else none
  | .cell => if y.1 ∈ N then some (y.1, N.idxOf y.1) else none
  | _ => none
structure LcP (c : St) (elt tg iter : Expr) (ifs : List Expr) (scope : Scope) where
  k : Ik
  src : Es
  t : Tg
  T0 : T
  A : E
  ok : ∀ X M, Here c X M → LcOk X M elt tg iter ifs scope (ownOf c.N scope) k src t T0 A
def cIfs (r : Rc) (c : St) : (ifs : List Expr) → Option { A : T // ∀ X M, Here c X M → PTs X ifs (tT X.K M A) }
  | [] => some ⟨.yes, fun X M _ => pts_yes⟩
  | [e] => match r.t c e with
    | some ⟨A, h⟩ => some ⟨A, fun X M h0 => pts_if (h X M h0)⟩
    | none => none
  | _ => none
def cLc (r : Rc) (c : St) (elt tg iter : Expr) (ifs : List Expr) (scope : Scope) : Option (LcP c elt tg iter ifs scope) :=
  if hb : blkC c.N c.sc scope (ownOf c.N scope) = true ∧ notSet iter = true then
    match cIt r c tg iter, r.g (c.blk scope) tg, cIfs r (c.blk scope) ifs, r.e (c.blk scope) elt with
    | some ⟨I, hI⟩, some ⟨t, ht⟩, some ⟨T0, hT⟩, some ⟨A, hA⟩ => if hs : (t.names.all fun j => decide (j ∈ (ownOf c.N scope).map (·.2))) = true then
        some ⟨I.1, I.2, t, T0, A, fun X M h0 => ⟨hI X M h0, by rw [h0.N, h0.sc]; exact blkOk_by hb.1, fun s H C cl fp => ht _ M (h0.blk s H scope C cl fp), fun s H C cl fp => hT _ M (h0.blk s H scope C cl fp), fun s H C cl fp => hA _ M (h0.blk s H scope C cl fp), notSet_ok hb.2, fun j hj => of_decide_eq_true (List.all_eq_true.mp hs j hj)⟩⟩
      else none
    | _, _, _, _ => none
  else none
/-! ### targets -/
def cGs (r : Rc) (c : St) : (es : List Expr) → CGs c es
  | [] => some ⟨.nil, ⟨rfl, fun _ => rfl⟩, fun X M _ => sgs_nil⟩
  | a :: es => if h : isStar a = false then match r.g c a, cGs r c es with
      | some ⟨A, ha⟩, some ⟨As, hl, hs⟩ => some ⟨.cons A As, ⟨congrArg (· + 1) hl.1, fun env => by rw [asg_star h, List.findIdx?_cons]; simp [hl.2 env]⟩, fun X M h0 => sgs_cons (ha X M h0) (hs X M h0) (by rw [asg_star h]; rfl)⟩
      | _, _ => none
    else none
theorem asgTs_len {M : Mach} : ∀ {ts : Tgs} {ds : List D} {ρ ρ' : Env}, asgTs M ts ds ρ = some ρ' → ds.length = ts.len
  | .nil, [], _, _, _ => rfl
  | .nil, _ :: _, _, _, e => by simp [asgTs] at e
  | .cons _ _, [], _, _, e => by simp [asgTs] at e
  | .cons t ts, d :: ds, ρ, ρ', e => by
    rw [asgTs] at e
    obtain ⟨ρ1, _, e2⟩ := Option.bind_eq_some_iff.mp e
    show ds.length + 1 = ts.len + 1
    rw [asgTs_len e2]
theorem asgEach_len {env : PySem.Env} : ∀ es : List Expr, (assignEach es env).length = es.length
  | [] => rfl
  | a :: es => by
    have ih := asgEach_len (env := env) es
    cases a <;> (unfold assignEach; simpa using ih)
def St.loc (c : St) (x : Str) : Bool := decide (c.N[c.ix x]? = some x) && ((decide (c.sc.names.lookup x = some .local)) || (decide (c.sc.names.lookup x = some .cell) && c.fb x))
theorem Here.loc {c : St} {X : Cx} {M : Mach} (h : Here c X M) {x : Str} (e : c.loc x = true) : X.N[c.ix x]? = some x ∧ Loc X.env.scope x ∧ (X.fn x = true ∨ X.env.scope.names.lookup x = some .local) := by
  unfold St.loc at e
  rw [Bool.and_eq_true, Bool.or_eq_true, Bool.and_eq_true] at e
  unfold L2.Loc
  rw [h.N, h.sc]
  refine ⟨of_decide_eq_true e.1, ?_, ?_⟩
  · exact e.2.imp of_decide_eq_true fun z => of_decide_eq_true z.1
  · exact e.2.elim (fun z => .inr (of_decide_eq_true z)) fun z => .inl (h.fb x z.2)
def cG (r : Rc) (c : St) (e : Expr) : CG c e :=
  match e with
  | .Name x pos => if h : c.loc x = true then some ⟨.nm (c.ix x), fun X M h0 => let q := h0.loc h; sg_nm h0.cok.2.1 q.1 q.2.1 q.2.2⟩ else none
  | .Tuple es n pos => match cGs r c es with
    | some ⟨ts, hl, hs⟩ => some ⟨.tp ts, fun X M h0 => sg_tp h0.cok.1 (hs X M h0) (hl.2 _) fun ds ρ ρ' q => by rw [asgTs_len q, hl.1, asgEach_len]⟩
    | none => none
  | _ => none
end Pu

set_option Elab.async false
set_option maxRecDepth 100000
set_option maxHeartbeats 4000000
namespace Pu
open PySem L2 RZ RT PyProof.Rows

/-! ### calls -/
def cTys (c : St) : (es : List Expr) → Option { ts : List Ty // ∀ X M, Here c X M → SY X es ts }
  | [] => some ⟨[], fun X M _ => sy_nil⟩
  | .Name x p :: es => if h : c.bl x = true then match tyOf x, cTys c es with
      | some ⟨t, ht⟩, some ⟨ts, hs⟩ => some ⟨t :: ts, fun X M h0 => by
          subst ht
          exact sy_cons (h0.bl h).1 (h0.bl h).2 (hs X M h0)⟩
      | _, _ => none
    else none
  | _ => none
def cFn (r : Rc) (c : St) (f : Str) (p : Pos) (args : List Expr) (kws : List Keyword) (pos : Pos) : CE c (.Call (.Name f p) args kws pos) :=
  let ix := c.m.fx.findIdx fun d => d.name == f
  match hd : c.m.fx[ix]? with
  | none => none
  | some d => if hf : d.name = f ∧ c.gl f = true ∧ (f == ("__debug__" : Str)) = false ∧ args.any isStar = false then
      match kws, args with
      | [], a :: as => match cEs r c (a :: as) with
        | some ⟨As, hl, hs⟩ => if hn : As.len + ([] : List D).length = d.fd.np then some ⟨.call ix As [], fun X M h0 => by
            obtain ⟨n, k, e1, e2⟩ := h0.ex
            obtain ⟨ad, da, mo, G⟩ := k.ex
            have fk := mo.fx ix d hd
            have st : isStar a = false ∧ as.any isStar = false := by
              have := hf.2.2.2
              rw [List.any_cons, Bool.or_eq_false_iff] at this
              exact this
            have h := pe_gcall (p := p) (pos := pos) (G ix d hd) k.gd k.room (h0.gl hf.2.1) (by rw [← hf.1]; exact fk.glo) fk.fn.kp fk.bd .nil (hs X M h0) hf.2.2.1 (star_ok st.1) (star_any st.2)
            refine h.imp fun σ H Q z => ?_
            have z2 := call_imp (dvs := []) (fun _ _ => .nil) hn z
            rw [e1, e2] at z2
            exact z2⟩ else none
        | none => none
      | k0 :: ks, args => match hq : c.m.kp.find? (fun q => decide (q.f = ix ∧ q.n = args.length ∧ q.ks = (k0 :: ks).filterMap (·.arg))) with
        | none => none
        | some q => match cEs r c args, cKs r c (k0 :: ks) with
          | some ⟨As, hl, hs⟩, some ⟨Ks, hkl, hka, hkn, hks⟩ => if hn : (pickL q.perm (List.range (As.len + Ks.len))).length = d.fd.np then some ⟨.callk ix As Ks q.perm, fun X M h0 => by
              obtain ⟨n, k, e1, e2⟩ := h0.ex
              obtain ⟨ad, da, mo, G⟩ := k.ex
              have fk := mo.fx ix d hd
              have qq := List.find?_some hq
              have qm := List.mem_of_find?_eq_some hq
              obtain ⟨q1, q2, q3⟩ := of_decide_eq_true qq
              have kb := mo.kp q qm d (by rw [q1]; exact hd)
              rw [q1] at kb
              have lenK : Ks.len = q.ks.length := by rw [hkl, q3, hkn]
              have lenA : As.len = q.n := by rw [hl, q2]
              have hl2 : ∀ xs : List V, xs.length = As.len + Ks.len → (pickL q.perm xs).length = d.fd.np := fun xs hx => by
                rw [← hn]; exact pickL_len (by rw [hx, List.length_range]) _
              obtain ⟨ka1, ka2, ka3⟩ := hka X.env pos
              cases args with
              | cons a as =>
                have st : isStar a = false ∧ as.any isStar = false := by
                  have := hf.2.2.2
                  rw [List.any_cons, Bool.or_eq_false_iff] at this
                  exact this
                have h := pe_gcallk (p := p) (G ix d hd) k.gd k.room (h0.gl hf.2.1) (by rw [← hf.1]; exact fk.glo) fk.fn.kp kb (hs X M h0) (hks X M h0) ka1 (by rw [ka2, q3]) hf.2.2.1 (star_ok st.1) (by rw [star_any hf.2.2.2, ka3]; rfl)
                refine h.imp fun σ H Q z => ?_
                have z2 := callk_imp hl2 z
                rw [e1, e2, lenA, lenK] at z2
                exact z2
              | nil =>
                have h := pe_gcallk0 (p := p) (G ix d hd) k.gd k.room (h0.gl hf.2.1) (by rw [← hf.1]; exact fk.glo) fk.fn.kp kb (hks X M h0) ka1 (by rw [ka2, q3]) hf.2.2.1 (by rw [ka3]; rfl)
                refine h.imp fun σ H Q z => ?_
                have z2 := callk_imp hl2 z
                rw [e1, e2, lenA, lenK] at z2
                cases As with
                | cons _ _ => simp [Es.len] at hl
                | nil =>
                  obtain ⟨W, ρ, O, rs, ρ', ok, he, kk⟩ := z2
                  unfold evs at he
                  cases he
                  exact kk H O [] [] ok.refl⟩ else none
          | _, _ => none
      | _, _ => none
    else none
def cBuilt (r : Rc) (c : St) (f : Str) (p : Pos) (args : List Expr) (pos : Pos) : CE c (.Call (.Name f p) args [] pos) :=
  match args with
  | [a] => if ha : isStar a = false ∧ c.bl f = true then match b1Of f, r.e c a with
      | some ⟨o, ho⟩, some ⟨A, hA⟩ => some ⟨.b1 o A, fun X M h0 => by
          subst ho
          exact se_b1 o h0.cok.2.2.2.1 h0.cok.1 h0.cok.2.2.1 (h0.bl ha.2).1 (h0.bl ha.2).2 (hA X M h0) (star_ok ha.1)⟩
      | _, _ => none
    else none
  | [a, b] => if ha : isStar a = false ∧ isStar b = false ∧ c.bl f = true then
      if hf : f = "isinstance" then match b, r.e c a with
        | .Name x p2, some ⟨A, hA⟩ => if hx : c.bl x = true then match tyOf x with
          | some ⟨t, ht⟩ => some ⟨.isi A [t], fun X M h0 => by
              subst ht
              have q := h0.bl ha.2.2
              rw [hf] at q ⊢
              exact se_isi1 q.1 q.2 (hA X M h0) (h0.bl hx).1 (h0.bl hx).2 (star_ok ha.1)⟩
          | none => none else none
        | .Tuple es n p2, some ⟨A, hA⟩ => match cTys c es with
          | some ⟨ts, hts⟩ => if hl : ts.length ≤ sizeLine then some ⟨.isi A ts, fun X M h0 => by
              have q := h0.bl ha.2.2
              rw [hf] at q ⊢
              exact se_isiT q.1 q.2 (hA X M h0) (hts X M h0) hl (star_ok ha.1)⟩ else none
          | none => none
        | _, _ => none
      else if hf : f = "max" then match r.e c a, r.e c b with
        | some ⟨A, hA⟩, some ⟨B, hB⟩ => some ⟨.b2 .max A B, fun X M h0 => by
              have q := h0.bl ha.2.2
              rw [hf] at q ⊢
              exact se_max2 h0.cok.1 q.1 q.2 (hA X M h0) (hB X M h0) (star_ok ha.1) (star_ok ha.2.1) (star_any (by rw [List.any_cons, ha.2.1]; rfl))⟩
        | _, _ => none
      else if hf : f = "min" then match r.e c a, r.e c b with
        | some ⟨A, hA⟩, some ⟨B, hB⟩ => some ⟨.b2 .min A B, fun X M h0 => by
              have q := h0.bl ha.2.2
              rw [hf] at q ⊢
              exact se_min2 h0.cok.1 q.1 q.2 (hA X M h0) (hB X M h0) (star_ok ha.1) (star_ok ha.2.1) (star_any (by rw [List.any_cons, ha.2.1]; rfl))⟩
        | _, _ => none
      else if hf : f = "divmod" then match r.e c a, r.e c b with
        | some ⟨A, hA⟩, some ⟨B, hB⟩ => some ⟨.b2 .divmod A B, fun X M h0 => by
              have q := h0.bl ha.2.2
              rw [hf] at q ⊢
              exact se_divmod q.1 q.2 (hA X M h0) (hB X M h0) (star_ok ha.1) (star_ok ha.2.1) (star_any (by rw [List.any_cons, ha.2.1]; rfl))⟩
        | _, _ => none
      else none
    else none
  | _ => none
def cJoin (r : Rc) (c : St) (a : Expr) (at_ : Str) (apos : Pos) (args : List Expr) (pos : Pos) : CE c (.Call (.Attribute a at_ apos) args [] pos) :=
  match a, args with
  | .Constant (.str x) j p, [b] => if h : at_ = "join" ∧ isStar b = false ∧ (apos.endLine == pos.line) = true then
      match cConst c (.str x) j p, r.e c b with
      | some ⟨.cst (.str sep), hA⟩, some ⟨B, hB⟩ => some ⟨.b2 .join (.cst (.str sep)) B, fun X M h0 => by
          rw [h.1]
          exact se_join (hA X M h0) (hB X M h0) (star_ok h.2.1) rfl h.2.2⟩
      | _, _ => none
    else none
  | _, _ => none
def cMaxd (r : Rc) (c : St) (f : Str) (p : Pos) (a : Expr) (kws : List Keyword) (pos : Pos) : CE c (.Call (.Name f p) [a] kws pos) :=
  if h : f = "max" ∧ isStar a = false ∧ c.bl f = true ∧ kws.filterMap (·.arg) = [Str.ofString "default"] ∧ kws.any (·.arg.isNone) = false then
    match r.e c a, cKs r c kws with
    | some ⟨A, hA⟩, some ⟨.cons (.cst (.int d)) .nil, hl, hk, hn, hs⟩ => some ⟨.b2 .maxd A (.cst (.int d)), fun X M h0 => by
        have q := h0.bl h.2.2.1
        rw [h.1] at q ⊢
        obtain ⟨h1, h2, h3⟩ := hk X.env pos
        exact se_maxd h0.cok.1 h0.cok.2.2.2.1 q.1 q.2 (hA X M h0) (hs X M h0) (star_ok h.2.1) h1 h3 (by rw [h2]; exact h.2.2.2.1)⟩
    | _, _ => none
  else none
theorem Here.vis {c : St} {X : Cx} {M : Mach} (h0 : Here c X M) {x : Str} (hv : c.vis x = true) : X.N[c.ix x]? = some x ∧ Vis X.env.scope x := by
  unfold St.vis at hv
  rw [Bool.and_eq_true, Bool.or_eq_true, Bool.or_eq_true] at hv
  refine ⟨by rw [h0.N]; exact of_decide_eq_true hv.1, ?_⟩
  unfold Vis
  rw [h0.sc]
  exact hv.2.imp of_decide_eq_true fun z => z.imp of_decide_eq_true of_decide_eq_true
/-- xs.pop(), xs.pop(k); s.startswith(t, i) -/
def cPop (r : Rc) (c : St) (a : Expr) (at_ : Str) (apos : Pos) (args : List Expr) (pos : Pos) : CE c (.Call (.Attribute a at_ apos) args [] pos) :=
  match a, args with
  | .Name y p1, [] => if h : at_ = "pop" ∧ c.vis y = true ∧ (y == ("__debug__" : Str)) = false ∧ (y == ("__classdict__" : Str)) = false ∧ (apos.endLine == pos.line) = true then
      some ⟨.pop (c.ix y) none, fun X M h0 => by
        rw [h.1]
        exact se_pop0 (h0.vis h.2.1).1 (h0.vis h.2.1).2 h.2.2.1 h.2.2.2.1 h.2.2.2.2⟩
    else none
  | .Name y p1, [.Constant (.int n) kk p2] => if h : at_ = "pop" ∧ c.vis y = true ∧ (y == ("__debug__" : Str)) = false ∧ (y == ("__classdict__" : Str)) = false ∧ (apos.endLine == pos.line) = true ∧ -(2 ^ 63) ≤ n ∧ n < 2 ^ 63 then
      some ⟨.pop (c.ix y) (some n), fun X M h0 => by
        rw [h.1]
        exact se_pop1 (h0.vis h.2.1).1 (h0.vis h.2.1).2 h.2.2.1 h.2.2.2.1 h.2.2.2.2.1 h.2.2.2.2.2⟩
    else none
  | a, [b, d] => if h : at_ = "startswith" ∧ isStar b = false ∧ isStar d = false ∧ (apos.endLine == pos.line) = true ∧ plainB a = true then match r.e c a, r.e c b, r.e c d with
      | some ⟨A, hA⟩, some ⟨B, hB⟩, some ⟨G, hG⟩ => some ⟨.sw3 A B G, fun X M h0 => by
          rw [h.1]
          exact se_sw3 (hA X M h0) (hB X M h0) (hG X M h0) (star_ok h.2.1) (star_ok h.2.2.1) (plainB_ok h.2.2.2.2 _ _) h.2.2.2.1⟩
      | _, _, _ => none
    else none
  | _, _ => none
/-- sorted(set(a)), len(set(a)); list(range(..)), tuple(range(a)) -/
def cBs (r : Rc) (c : St) (f : Str) (p : Pos) (args : List Expr) (pos : Pos) : CE c (.Call (.Name f p) args [] pos) :=
  match args with
  | [.Call (.Name g p2) [a] [] q] => if ha : isStar a = false ∧ c.bl f = true ∧ c.bl g = true then
      if h : f = "sorted" ∧ g = "set" then match r.e c a with
        | some ⟨A, hA⟩ => some ⟨.bs .sset A, fun X M h0 => by
            obtain ⟨rfl, rfl⟩ := h
            exact se_sset h0.cok.1 h0.cok.2.2.2.1 (h0.bl ha.2.1).1 (h0.bl ha.2.1).2 (h0.bl ha.2.2).1 (h0.bl ha.2.2).2 (hA X M h0) (star_ok ha.1)⟩
        | none => none
      else if h : f = "len" ∧ g = "set" then match r.e c a with
        | some ⟨A, hA⟩ => some ⟨.bs .lset A, fun X M h0 => by
            obtain ⟨rfl, rfl⟩ := h
            exact se_lset h0.cok.1 h0.cok.2.2.2.1 (h0.bl ha.2.1).1 (h0.bl ha.2.1).2 (h0.bl ha.2.2).1 (h0.bl ha.2.2).2 (hA X M h0) (star_ok ha.1)⟩
        | none => none
      else if h : f = "list" ∧ g = "range" then match r.e c a with
        | some ⟨A, hA⟩ => some ⟨.lrng (.cst (.int 0)) A, fun X M h0 => by
            obtain ⟨rfl, rfl⟩ := h
            exact se_lrng1 h0.cok.1 (h0.bl ha.2.1).1 (h0.bl ha.2.1).2 (h0.bl ha.2.2).1 (h0.bl ha.2.2).2 (hA X M h0) (star_ok rfl) (star_ok ha.1)⟩
        | none => none
      else if h : f = "tuple" ∧ g = "range" then match r.e c a with
        | some ⟨A, hA⟩ => some ⟨.b1 .tuple (.lrng (.cst (.int 0)) A), fun X M h0 => by
            obtain ⟨rfl, rfl⟩ := h
            exact se_trng1 h0.cok.1 (h0.bl ha.2.1).1 (h0.bl ha.2.1).2 (h0.bl ha.2.2).1 (h0.bl ha.2.2).2 (hA X M h0) (star_ok rfl) (star_ok ha.1)⟩
        | none => none
      else none
    else none
  | [.Call (.Name g p2) [a, b] [] q] => if h : isStar a = false ∧ isStar b = false ∧ c.bl f = true ∧ c.bl g = true ∧ f = "list" ∧ g = "range" then
      match r.e c a, r.e c b with
      | some ⟨A, hA⟩, some ⟨B, hB⟩ => some ⟨.lrng A B, fun X M h0 => by
          obtain ⟨h1, h2, h3, h4, rfl, rfl⟩ := h
          exact se_lrng2 h0.cok.1 (h0.bl h3).1 (h0.bl h3).2 (h0.bl h4).1 (h0.bl h4).2 (hA X M h0) (hB X M h0) (star_ok rfl) (star_ok h1) (star_ok h2)⟩
      | _, _ => none
    else none
  | _ => none
def cMet (r : Rc) (c : St) (a : Expr) (at_ : Str) (apos : Pos) (args : List Expr) (pos : Pos) : CE c (.Call (.Attribute a at_ apos) args [] pos) :=
  match args with
  | [b] => if h : isStar b = false ∧ (apos.endLine == pos.line) = true ∧ plainB a = true then
      match mtOf at_, r.e c a, r.e c b with
      | some ⟨o, ho⟩, some ⟨A, hA⟩, some ⟨B, hB⟩ => some ⟨.met o A B, fun X M h0 => by
          subst ho
          exact se_met o h0.cok.2.2.2.1 (hA X M h0) (hB X M h0) (star_ok h.1) (plainB_ok h.2.2 _ _) h.2.1⟩
      | _, _, _ => none
    else none
  | _ => none
def cSub (r : Rc) (c : St) (a b : Expr) (pos : Pos) : CE c (.Subscript a b pos) :=
  match b with
  | .Slice lo hi none p2 => match r.e c a, cO r c lo, cO r c hi with
    | some ⟨A, hA⟩, some ⟨L, hL⟩, some ⟨Hh, hH⟩ => some ⟨.sl A L Hh, fun X M h0 => se_sl (hA X M h0) (hL X M h0) (hH X M h0)⟩
    | _, _, _ => none
  | .Slice none none (some (.UnaryOp .USub (.Constant (.int 1) k p1) p2)) p3 => match r.e c a with
    | some ⟨A, hA⟩ => some ⟨.rev A, fun X M h0 => se_rev (hA X M h0)⟩
    | none => none
  | b => if hb : plainI b = true then match r.e c a, r.e c b with
    | some ⟨A, hA⟩, some ⟨B, hB⟩ => some ⟨.idx A B, fun X M h0 => se_idx (hA X M h0) (hB X M h0) (plainI_ok hb)⟩
    | _, _ => none else none
def stepE (r : Rc) (c : St) (e : Expr) : CE c e :=
  match e with
  | .Name x pos => cName c x pos
  | .Constant k j pos => cConst c k j pos
  | .BinOp a p b pos => match opOf p, r.e c a, r.e c b with
    | some ⟨o, ho⟩, some za, some zb =>
      let wa := fzIf (isNm a && decide (o = .add)) za
      let wb := fzIf (isNm b && decide (o = .add)) zb
      some ⟨.bin o wa.1 wb.1, fun X M h0 => by subst ho; exact se_bin o (wa.2 X M h0) (wb.2 X M h0)⟩
    | _, _, _ => none
  | .UnaryOp .USub a pos => match r.e c a with
    | some ⟨A, hA⟩ => some ⟨.neg A, fun X M h0 => se_neg (hA X M h0)⟩
    | none => none
  | .UnaryOp .Not a pos => match r.e c a with
    | some ⟨A, hA⟩ => some ⟨.not A, fun X M h0 => se_not (hA X M h0)⟩
    | none => none
  | .BoolOp .And vs pos => cAnd r c pos vs
  | .BoolOp .Or vs pos => cOr r c pos vs
  | .Compare a [p] [b] pos => match cmOf p with
    | some ⟨o, ho⟩ => if hm : behindInMarks (cmP o) b = false then match r.e c a, r.e c b with
      | some ⟨A, hA⟩, some ⟨B, hB⟩ => some ⟨.cmp o A B, fun X M h0 => by subst ho; exact se_cmp h0.cok.2.2.2.1 o (hA X M h0) (hB X M h0) hm⟩
      | _, _ => none else none
    | none => none
  | .Compare a [p, p'] [b, d] pos => match cmOf p, cmOf p' with
    | some ⟨o, ho⟩, some ⟨o', ho'⟩ => if hm : lastMarks [cmP o, cmP o'] [b, d] = false then match r.e c a, r.e c b, r.e c d with
      | some ⟨A, hA⟩, some ⟨B, hB⟩, some ⟨G, hG⟩ => some ⟨.chn o o' A B G, fun X M h0 => by subst ho ho'; exact se_chn h0.cok.2.2.2.1 o o' (hA X M h0) (hB X M h0) (hG X M h0) hm⟩
      | _, _, _ => none else none
    | _, _ => none
  | .IfExp t a b pos => match r.t c t, r.e c a, r.e c b with
    | some ⟨T0, hT⟩, some ⟨A, hA⟩, some ⟨B, hB⟩ => some ⟨.ite T0 A B, fun X M h0 => se_ite (hT X M h0) (hA X M h0) (hB X M h0)⟩
    | _, _, _ => none
  | .Subscript a b pos => cSub r c a b pos
  | .Tuple es n pos => match cEs r c es with
    | some ⟨As, _, hs⟩ => some ⟨.tup As, fun X M h0 => se_tup (hs X M h0)⟩
    | none => none
  | .List es pos => match cEs r c es with
    | some ⟨As, _, hs⟩ => some ⟨.lst As, fun X M h0 => se_lst (hs X M h0)⟩
    | none => none
  | .ListComp elt [⟨tg, iter, ifs, 0⟩] scope pos => match cLc r c elt tg iter ifs scope with
    | some q => some ⟨.comp ((ownOf c.N scope).map (·.2)) q.k q.src q.t q.T0 q.A, fun X M h0 => se_lc h0.cok.1 h0.cok.2.1 (q.ok X M h0)⟩
    | none => none
  | .Call (.Name f p) args kws pos => match cFn r c f p args kws pos with
    | some z => some z
    | none => match kws with
      | [] => match cBs r c f p args pos with
        | some z => some z
        | none => cBuilt r c f p args pos
      | k :: ks => match args with
        | [a] => cMaxd r c f p a (k :: ks) pos
        | _ => none
  | .Call (.Attribute a at_ apos) args [] pos => match cJoin r c a at_ apos args pos with
    | some z => some z
    | none => match cPop r c a at_ apos args pos with
      | some z => some z
      | none => cMet r c a at_ apos args pos
  | _ => none
def stepT (r : Rc) (c : St) (e : Expr) : CT c e :=
  match e with
  | .UnaryOp .Not a pos => match r.t c a with
    | some ⟨A, hA⟩ => some ⟨.no A, fun X M h0 => st_no (hA X M h0)⟩
    | none => none
  | .BoolOp .And vs pos => match wAnd r c pos vs with
    | some ⟨A, hA⟩ => some ⟨A, fun X M h0 => (hA X M h0).pt⟩
    | none => none
  | .BoolOp .Or vs pos => match wOr r c pos vs with
    | some ⟨A, hA⟩ => some ⟨A, fun X M h0 => (hA X M h0).pt⟩
    | none => none
  | .Compare a [p] [b] pos => match cmOf p with
    | some ⟨o, ho⟩ => if hm : behindInMarks (cmP o) b = false then match r.e c a, r.e c b with
      | some ⟨A, hA⟩, some ⟨B, hB⟩ => some ⟨.tr (.cmp o A B), fun X M h0 => by subst ho; exact st_cmp h0.cok.2.2.2.1 o (hA X M h0) (hB X M h0) hm⟩
      | _, _ => none else none
    | none => none
  | .Compare a [p, p'] [b, d] pos => match cmOf p, cmOf p' with
    | some ⟨o, ho⟩, some ⟨o', ho'⟩ => if hm : lastMarks [cmP o, cmP o'] [b, d] = false then match r.e c a, r.e c b, r.e c d with
      | some ⟨A, hA⟩, some ⟨B, hB⟩, some ⟨G, hG⟩ => some ⟨.tr (.chn o o' A B G), fun X M h0 => by subst ho ho'; exact st_chn h0.cok.2.2.2.1 o o' (hA X M h0) (hB X M h0) (hG X M h0) hm⟩
      | _, _, _ => none else none
    | _, _ => none
  | e => if h : plainT e = true then match r.e c e with
    | some ⟨A, hA⟩ => some ⟨.tr A, fun X M h0 => st_tr (hA X M h0) (plainT_ok h)⟩
    | none => none else none
theorem asg_sub {o k : Expr} {pos : Pos} {env : PySem.Env} (h : plainI k = true) (v : Value) : assign (.Subscript o k pos) env v = (do
      let ov ← holding [v] (eval o env)
      let iv ← holding [v, ov] (eval k env)
      standAt pos
      holding [v, ov, iv] (setItem ov iv v)
      release [v, ov, iv] []) := by
  cases k <;> first | rfl | cases h
def stepG (r : Rc) (c : St) (e : Expr) : CG c e :=
  match e with
  | .Subscript (.Name y p1) k pos => if h : c.vis y = true ∧ (y == ("__debug__" : Str)) = false ∧ (y == ("__classdict__" : Str)) = false ∧ plainI k = true then
      match r.e c k with
      | some ⟨A, hA⟩ => some ⟨.ix (c.ix y) A, fun X M h0 => by
          have hv := h.1
          unfold St.vis at hv
          rw [Bool.and_eq_true, Bool.or_eq_true, Bool.or_eq_true] at hv
          refine sg_ix (by rw [h0.N]; exact of_decide_eq_true hv.1) ?_ h.2.1 h.2.2.1 (hA X M h0) (asg_sub h.2.2.2)
          unfold Vis
          rw [h0.sc]
          exact hv.2.imp of_decide_eq_true fun z => z.imp of_decide_eq_true of_decide_eq_true⟩
      | none => none
    else none
  | e => cG r c e
def rc : Nat → Rc
  | 0 => ⟨fun _ _ => none, fun _ _ => none, fun _ _ => none⟩
  | n + 1 => ⟨stepE (rc n), stepT (rc n), stepG (rc n)⟩
end Pu

set_option Elab.async false
set_option maxRecDepth 100000
set_option maxHeartbeats 4000000
namespace Pu
open PySem L2 RZ RT PyProof.Rows

/-! ### statements -/
abbrev DS (c : St) (e : Stmt) := { A : S // ∀ X M, Here c X M → SS X M e A }
abbrev DSs (c : St) (e : List Stmt) := { A : S // ∀ X M, Here c X M → SSs X M e A }
def St.swB (c : St) (scope : Scope) (y : Str) (py p : Pos) : Bool := c.sc.kind == .function && c.sc.names.lookup y == some .local && py.line == p.line && !(scope.names.any fun (n, k) => n == y && (k == .local || k == .cell))
theorem Here.sw {c : St} {X : Cx} {M : Mach} (h : Here c X M) {elt : Expr} {gens : List Comprehension} {scope : Scope} {p py : Pos} {y : Str} {l : Nat} (hk : c.sc.kind = .function) : swapsWith (.ListComp elt gens scope p) (some (.Name y py)) l X.env = pure (c.swB scope y py p) := by
  have e : swapsWith (.ListComp elt gens scope p) (some (.Name y py)) l X.env = pure (X.env.blockKind == .function && X.env.kindOf y == some .local && py.line == (Expr.ListComp elt gens scope p).pos.line && !(scope.names.any fun (n, k) => n == y && (k == .local || k == .cell))) := rfl
  rw [e]
  unfold St.swB
  have bk : X.env.blockKind = .function := by
    unfold Env.blockKind
    rw [h.sc, hk]
    rfl
  have kd : X.env.kindOf y = c.sc.names.lookup y := by
    show X.env.scope.names.lookup y = _
    rw [h.sc]
  rw [bk, kd, hk]
  rfl
theorem sw_none {tg e : Expr} {env : PySem.Env} (h : (match tg, e with
    | .Tuple _ _ _, .Tuple _ _ _ => false
    | .List _ _, .Tuple _ _ _ => false
    | _, _ => true) = true) : swappedStores [tg] e env = pure none := by
  unfold swappedStores
  cases tg <;> first
    | rfl
    | (cases e <;> first | rfl | cases h)
theorem sw_two {x y : Str} {px py pt pt2 : Pos} {kt k2 : Nat} {a b : Expr} {env : PySem.Env} (h1 : env.blockKind = .function) (h2 : isStar a = false) (h3 : isStar b = false) (h4 : env.kindOf x = some .local) (h5 : env.kindOf y = some .local) (h6 : px.line = py.line) (h7 : x ≠ y)
    (h8 : ([a, b].all (foldedForSure 8)) = false) (h9 : ([a, b].all (constantsAlone 8)) = false) : swappedStores [.Tuple [.Name x px, .Name y py] kt pt] (.Tuple [a, b] k2 pt2) env = pure (some [x, y]) := by
  have e1 : (y == x) = false := by
    cases q : (y == x) with
    | false => rfl
    | true => exact absurd (eq_of_beq q).symm h7
  have e : swappedStores [.Tuple [.Name x px, .Name y py] kt pt] (.Tuple [a, b] k2 pt2) env = (if (isStar a || (isStar b || false)) = true then pure none else
      let names := [Expr.Name x px, Expr.Name y py].filterMap fun
        | .Name id pos => if env.kindOf id == some .local && pos.line == px.line then some id else none
        | _ => none
      if names.length != 2 || names.eraseDups.length != names.length then pure none else
      if [a, b].all (foldedForSure 8) then pure none else
      if [a, b].all (constantsAlone 8) then unsupported "assign.tuple-of-constant-expressions:order-of-the-stores" else
      pure (some names)) := by
    unfold swappedStores
    rw [h1]
    rfl
  rw [e, h2, h3, h8, h9]
  simp [h4, h5, h6, List.eraseDups_cons, e1]
theorem sw_none2 {x y : Str} {px py pt pt2 : Pos} {kt k2 : Nat} {a b : Expr} {env : PySem.Env} (h2 : isStar a = false) (h3 : isStar b = false) (h : (env.kindOf x == some .local) = false ∨ (env.kindOf y == some .local) = false) :
    swappedStores [.Tuple [.Name x px, .Name y py] kt pt] (.Tuple [a, b] k2 pt2) env = pure none := by
  have e : swappedStores [.Tuple [.Name x px, .Name y py] kt pt] (.Tuple [a, b] k2 pt2) env = (if (false || false || (env.blockKind != .function)) = true then pure none else if (isStar a || (isStar b || false)) = true then pure none else
      let names := [Expr.Name x px, Expr.Name y py].filterMap fun
        | .Name id pos => if env.kindOf id == some .local && pos.line == px.line then some id else none
        | _ => none
      if names.length != 2 || names.eraseDups.length != names.length then pure none else
      if [a, b].all (foldedForSure 8) then pure none else
      if [a, b].all (constantsAlone 8) then unsupported "assign.tuple-of-constant-expressions:order-of-the-stores" else
      pure (some names)) := by
    unfold swappedStores
    rfl
  rw [e, h2, h3]
  have hl : (([Expr.Name x px, Expr.Name y py].filterMap fun
        | .Name id pos => if env.kindOf id == some .local && pos.line == px.line then some id else none
        | _ => none).length != 2) = true := by
    rcases h with h | h
    · simp only [List.filterMap_cons, List.filterMap_nil, h, Bool.false_and, Bool.false_eq_true, if_false]
      split <;> rfl
    · simp only [List.filterMap_cons, List.filterMap_nil, h, Bool.false_and, Bool.false_eq_true, if_false]
      split <;> rfl
  split
  · rfl
  · simp only [Bool.or_self, Bool.false_eq_true, if_false]
    rw [if_pos (by rw [hl]; rfl)]
theorem sw_none3 {x y : Str} {px py pt pt2 : Pos} {kt k2 : Nat} {a b : Expr} {env : PySem.Env} (h2 : isStar a = false) (h3 : isStar b = false) (h8 : ([a, b].all (foldedForSure 8)) = true) :
    swappedStores [.Tuple [.Name x px, .Name y py] kt pt] (.Tuple [a, b] k2 pt2) env = pure none := by
  have e : swappedStores [.Tuple [.Name x px, .Name y py] kt pt] (.Tuple [a, b] k2 pt2) env = (if (false || false || (env.blockKind != .function)) = true then pure none else if (isStar a || (isStar b || false)) = true then pure none else
      let names := [Expr.Name x px, Expr.Name y py].filterMap fun
        | .Name id pos => if env.kindOf id == some .local && pos.line == px.line then some id else none
        | _ => none
      if names.length != 2 || names.eraseDups.length != names.length then pure none else
      if [a, b].all (foldedForSure 8) then pure none else
      if [a, b].all (constantsAlone 8) then unsupported "assign.tuple-of-constant-expressions:order-of-the-stores" else
      pure (some names)) := by
    unfold swappedStores
    rfl
  rw [e, h2, h3, h8]
  split
  · rfl
  · simp only [Bool.or_self, Bool.false_eq_true, if_false, if_true]
    split <;> rfl
def noT : Expr → Expr → Bool
  | .Tuple _ _ _, .Tuple _ _ _ => false
  | .List _ _, .Tuple _ _ _ => false
  | _, _ => true
theorem noT_ok {tg e : Expr} {env : PySem.Env} (h : noT tg e = true) : swappedStores [tg] e env = pure none := by
  unfold swappedStores
  cases tg <;> first
    | rfl
    | (cases e <;> first | rfl | cases h)
def never {c : St} {st : Stmt} : DS c st := ⟨.never, fun X M _ => ss_never⟩
def dSet (r : Rc) (c : St) (y : Str) (py : Pos) (e : Expr) (pos : Pos) : DS c (.Assign [.Name y py] e pos) :=
  if h : c.loc y = true then
    match e with
    | .ListComp elt [⟨tg, iter, ifs, 0⟩] scope p => if hk : c.sc.kind = .function then match cLc r c elt tg iter ifs scope with
      | none => never
      | some q => if hs : c.swB scope y py p = true then
          if hl : c.sc.names.lookup y = some .local then ⟨.set (c.ix y) (.comp ((ownOf c.N scope).map (·.2)) q.k q.src q.t q.T0 q.A), fun X M h0 =>
            ss_setLc h0.cok.1 h0.cok.2.1 (h0.loc h).1 (by rw [h0.sc]; exact hl) (by rw [h0.sw hk, hs]) (q.ok X M h0)⟩ else never
        else ⟨.set (c.ix y) (.comp ((ownOf c.N scope).map (·.2)) q.k q.src q.t q.T0 q.A), fun X M h0 =>
            ss_set h0.cok.2.1 (h0.loc h).1 (h0.loc h).2.1 (se_lc h0.cok.1 h0.cok.2.1 (q.ok X M h0)) (by rw [h0.sw hk]; rw [Bool.not_eq_true] at hs; rw [hs]) (h0.loc h).2.2⟩
      else never
    | e => if hn : notComp e = true then match r.e c e with
      | some ⟨A, hA⟩ => ⟨.set (c.ix y) A, fun X M h0 => ss_set h0.cok.2.1 (h0.loc h).1 (h0.loc h).2.1 (hA X M h0) (notComp_ok hn) (h0.loc h).2.2⟩
      | none => never
      else never
  else never
def dUnp (r : Rc) (c : St) (tg e : Expr) (pos : Pos) : DS c (.Assign [tg] e pos) :=
  if h : notComp e = true ∧ noT tg e = true ∧ isStar tg = false then match r.e c e, r.g c tg with
    | some ⟨A, hA⟩, some ⟨t, ht⟩ => ⟨.unp t A, fun X M h0 => ss_unp (hA X M h0) (ht X M h0) (notComp_ok h.1) (noT_ok h.2.1) (by rw [asg_star h.2.2]; rfl)⟩
    | _, _ => never
  else never
def dPar (r : Rc) (c : St) (x y : Str) (px py pt : Pos) (kt : Nat) (a b : Expr) (k2 : Nat) (pt2 pos : Pos) : DS c (.Assign [.Tuple [.Name x px, .Name y py] kt pt] (.Tuple [a, b] k2 pt2) pos) :=
  if h : c.sc.kind = .function ∧ isStar a = false ∧ isStar b = false ∧ c.sc.names.lookup x = some .local ∧ c.sc.names.lookup y = some .local ∧ px.line = py.line ∧ x ≠ y ∧ ([a, b].all (foldedForSure 8)) = false ∧ ([a, b].all (constantsAlone 8)) = false ∧ c.N[c.ix x]? = some x ∧ c.N[c.ix y]? = some y ∧ c.ix x ≠ c.ix y then
    match cEs r c [a, b] with
    | some ⟨As, _, hs⟩ => ⟨.setT [c.ix x, c.ix y] As, fun X M h0 => by
        obtain ⟨h1, h2, h3, h4, h5, h6, h7, h8, h9, h10, h11, h12⟩ := h
        have kd : ∀ z, X.env.kindOf z = c.sc.names.lookup z := fun z => by
          show X.env.scope.names.lookup z = _
          rw [h0.sc]
        refine ss_par h0.cok.1 h0.cok.2.1 (by rw [h0.N]; exact h10) (by rw [h0.N]; exact h11) h12 (by rw [h0.sc]; exact h4) (by rw [h0.sc]; exact h5) (hs X M h0) (sw_two ?_ h2 h3 (by rw [kd]; exact h4) (by rw [kd]; exact h5) h6 h7 h8 h9)
        unfold Env.blockKind
        rw [h0.sc, h1]
        rfl⟩
    | none => never
  else if h : isStar a = false ∧ isStar b = false ∧ ((c.sc.names.lookup x == some .local) = false ∨ (c.sc.names.lookup y == some .local) = false) ∧ c.loc x = true ∧ c.loc y = true then
    match cEs r c [a, b] with
    | some ⟨As, _, hs⟩ => ⟨.setT [c.ix x, c.ix y] As, fun X M h0 => by
        obtain ⟨h2, h3, h4, h5, h6⟩ := h
        have kd : ∀ z, X.env.kindOf z = c.sc.names.lookup z := fun z => by
          show X.env.scope.names.lookup z = _
          rw [h0.sc]
        exact ss_parG (ps_par0 h0.cok.1 h0.cok.2.1 (h0.loc h5).1 (h0.loc h6).1 (h0.loc h5).2.1 (h0.loc h6).2.1 (h0.loc h5).2.2 (h0.loc h6).2.2 (hs X M h0) (sw_none2 h2 h3 (by rw [kd, kd]; exact h4)) rfl)⟩
    | none => never
  else if h : isStar a = false ∧ isStar b = false ∧ ([a, b].all (foldedForSure 8)) = true ∧ x ≠ y ∧ c.loc x = true ∧ c.loc y = true then
    match r.e c (.Tuple [a, b] k2 pt2), r.g c (.Tuple [.Name x px, .Name y py] kt pt) with
    | some ⟨A, hA⟩, some ⟨t, ht⟩ => ⟨.unp t A, fun X M h0 => ss_unp (hA X M h0) (ht X M h0) rfl (sw_none3 h.1 h.2.1 h.2.2.1) rfl⟩
    | _, _ => never
  else never
def dAssign (r : Rc) (c : St) (tg e : Expr) (pos : Pos) : DS c (.Assign [tg] e pos) :=
  match tg, e with
  | .Name y py, e => dSet r c y py e pos
  | .Tuple [.Name x px, .Name y py] kt pt, .Tuple [a, b] k2 pt2 => dPar r c x y px py pt kt a b k2 pt2 pos
  | tg, e => dUnp r c tg e pos
def dExpr (r : Rc) (c : St) (e : Expr) (pos : Pos) : DS c (.Expr e pos) :=
  match e with
  | .Constant (.str x) j p => ⟨.pass, fun X M _ => ss_doc⟩
  | .Call (.Attribute (.Name y p1) m apos) [a] [] p => if h : c.vis y = true ∧ (y == ("__debug__" : Str)) = false ∧ (y == ("__classdict__" : Str)) = false ∧ isStarE a = false ∧ (apos.endLine == p.line) = true then
      if hm : m = "append" then match r.e c a with
        | some ⟨A, hA⟩ => ⟨.app (c.ix y) A, fun X M h0 => by rw [hm]; exact ss_app (h0.vis h.1).1 (h0.vis h.1).2 h.2.1 h.2.2.1 h.2.2.2.1 (hA X M h0) h.2.2.2.2⟩
        | none => never
      else if hm : m = "extend" then match r.e c a with
        | some ⟨A, hA⟩ => ⟨.ext (c.ix y) A, fun X M h0 => by rw [hm]; exact ss_ext (h0.vis h.1).1 (h0.vis h.1).2 h.2.1 h.2.2.1 h.2.2.2.1 (hA X M h0) h.2.2.2.2⟩
        | none => never
      else match r.e c (.Call (.Attribute (.Name y p1) m apos) [a] [] p) with
        | some ⟨A, hA⟩ => ⟨.ex A, fun X M h0 => ss_ex (hA X M h0) (notComp_ok rfl)⟩
        | none => never
    else never
  | .Call (.Attribute (.Subscript (.Name y p1) (.Constant (.int k) k2 p2) p6) m apos) [.Constant .none jj p4] [] p => if h : c.vis y = true ∧ (y == ("__debug__" : Str)) = false ∧ (y == ("__classdict__" : Str)) = false ∧ m = "append" ∧ (apos.endLine == p.line) = true then
      ⟨.appAt (c.ix y) (.cst (.int k)) (.cst .non), fun X M h0 => by
        obtain ⟨h1, h2, h3, rfl, h5⟩ := h
        exact ss_appAt (h0.vis h1).1 (h0.vis h1).2 h2 h3 h5⟩
    else never
  | e => if hn : notComp e = true then match r.e c e with
    | some ⟨A, hA⟩ => ⟨.ex A, fun X M h0 => ss_ex (hA X M h0) (notComp_ok hn)⟩
    | none => never
    else never
def dBlk (c : St) (f : ∀ st, DS c st) : (l : List Stmt) → DSs c l
  | [] => ⟨.pass, fun X M _ => sss_nil⟩
  | [s] => ⟨(f s).1, fun X M h0 => sss_one ((f s).2 X M h0)⟩
  | s :: l => ⟨.seq (f s).1 (dBlk c f l).1, fun X M h0 => sss_cons ((f s).2 X M h0) ((dBlk c f l).2 X M h0)⟩
/-- for y in xs: y.append(None) -/
def dEach (c : St) (st : Stmt) : Option (DS c st) :=
  match st with
  | .For (.Name y2 p1) (.Name y1 p2) [.Expr (.Call (.Attribute (.Name y3 p3) mm apos) [.Constant .none jj p4] [] cpos) p5] [] pos =>
    if h : y3 = y2 ∧ mm = "append" ∧ c.vis y1 = true ∧ c.loc y2 = true ∧ c.vis y2 = true ∧ (y1 == ("__debug__" : Str)) = false ∧ (y1 == ("__classdict__" : Str)) = false ∧ (y2 == ("__debug__" : Str)) = false ∧ (y2 == ("__classdict__" : Str)) = false ∧ (apos.endLine == cpos.line) = true then
      some ⟨.appEach (c.ix y1) (c.ix y2) (.cst .non), fun X M h0 => by
        obtain ⟨rfl, rfl, h1, h2, h3, h4, h5, h6, h7, h8⟩ := h
        exact ss_appEach h0.cok.2.2.2.2 h0.cok.1 h0.cok.2.1 (h0.vis h1).1 (h0.vis h1).2 h4 h5 (h0.loc h2).1 (h0.loc h2).2.1 (h0.loc h2).2.2 (h0.vis h3).2 h6 h7 h8⟩
    else none
  | _ => none
def dStep (r : Rc) (c : St) (f : ∀ st, DS c st) (st : Stmt) : DS c st :=
  match st with
  | .Assign [tg] e pos => dAssign r c tg e pos
  | .Expr e pos => dExpr r c e pos
  | .AugAssign (.Name y py) .Add e pos => if h : c.loc y = true then match r.e c e with
      | some ⟨A, hA⟩ => ⟨.aug (c.ix y) .add A, fun X M h0 => ss_aug (o := .add) (.inl rfl) h0.cok.2.1 (h0.loc h).1 (h0.loc h).2.1 (hA X M h0) (h0.loc h).2.2⟩
      | none => never
    else never
  | .AugAssign (.Name y py) .Sub e pos => if h : c.loc y = true then match r.e c e with
      | some ⟨A, hA⟩ => ⟨.aug (c.ix y) .sub A, fun X M h0 => ss_aug (o := .sub) (.inr rfl) h0.cok.2.1 (h0.loc h).1 (h0.loc h).2.1 (hA X M h0) (h0.loc h).2.2⟩
      | none => never
    else never
  | .Return none pos => ⟨.retN, fun X M _ => ss_retN⟩
  | .Return (some e) pos => match r.e c e with
    | some ⟨A, hA⟩ => ⟨.ret A, fun X M h0 => ss_ret (hA X M h0)⟩
    | none => never
  | .If t a b pos => match r.t c t with
    | some ⟨T0, hT⟩ => ⟨.ite T0 (dBlk c f a).1 (dBlk c f b).1, fun X M h0 => ss_if (hT X M h0) ((dBlk c f a).2 X M h0) ((dBlk c f b).2 X M h0)⟩
    | none => never
  | .While t b [] pos => match r.t c t with
    | some ⟨T0, hT⟩ => ⟨.whl T0 (dBlk c f b).1, fun X M h0 => ss_while h0.cok.2.2.2.2 (hT X M h0) ((dBlk c f b).2 X M h0)⟩
    | none => never
  | .For tg it b [] pos => match dEach c (.For tg it b [] pos) with
    | some z => z
    | none => if hn : notSet it = true then match cIt r c tg it, r.g c tg with
    | some ⟨I, hI⟩, some ⟨t, ht⟩ => ⟨.for_ I.1 I.2 t (dBlk c f b).1, fun X M h0 => ss_for h0.cok.2.2.2.2 h0.cok.1 (hI X M h0) (ht X M h0) ((dBlk c f b).2 X M h0) (notSet_ok hn)⟩
    | _, _ => never
    else never
  | .Pass pos => ⟨.pass, fun X M _ => ss_pass⟩
  | .Break pos => ⟨.brk, fun X M _ => ss_brk⟩
  | .Continue pos => ⟨.cont, fun X M _ => ss_cont⟩
  | _ => never
def dS (r : Rc) (c : St) : Nat → (st : Stmt) → DS c st
  | 0, _ => never
  | n + 1, st => dStep r c (dS r c n) st
/-- a body's code -/
def code (m : Md) (d : Fx) : DSs ⟨m, d.scope, d.N, fun _ => true⟩ d.body := dBlk _ (dS (rc 10) _ 8) d.body
theorem code_ok {m : Md} (h : ∀ d ∈ m.fx, (code m d).1 = d.fd.body) : CodeOk m := by
  intro n f d hd X k hs hf hN
  rw [← h d (List.mem_of_getElem? hd)]
  exact (code m d).2 X _ ⟨⟨n, k, rfl, rfl⟩, hs, hN, fun y _ => hf y⟩
end Pu

set_option Elab.async false
set_option maxRecDepth 100000
set_option maxHeartbeats 4000000
namespace Pu
open PySem L2 RZ RT C8 PyProof.Rows

/-! ### the head's facts, and the law -/
def Fx.toD (d : Fx) : He.DefD := ⟨(d.name, none), d.name, d.name, d.params, d.body, d.scope, [], []⟩
def Md.fnH (m : Md) : List He.DefD := m.fx.map Fx.toD
def gcFa : Str × D → Option He.Fa
  | (x, .int i) => some (.int x i)
  | (x, .str s) => some (.str x ⟨s.toArray⟩)
  | _ => none
def gcOk : Str × D → Bool
  | (x, .int i) => true
  | (x, .str s) => decide (s.length ≤ line) && s.all (fun c => decide (c < 0x110000))
  | _ => false
def Md.fa (m : Md) : List He.Fa := m.fx.map (fun d => .glo d.name) ++ (m.free.map .free ++ m.gc.filterMap gcFa)
def BindP (d : Fx) : Prop := ∀ (kV doc pm : Value) (an : Option Addr) (cdv ct : Value) (us : List Value), us.length = d.ps.length → bindArgs (PySem.W.fnOf d.name d.name d.params d.body d.scope .none kV doc pm an cdv ct) ⟨us, []⟩ = pure (d.ps.zip us)
def KBindP (d : Fx) (q : Kp) : Prop := ∀ (kV doc pm : Value) (an : Option Addr) (cdv ct : Value) (us ws : List Value), us.length = q.n → ws.length = q.ks.length →
  bindArgs (PySem.W.fnOf d.name d.name d.params d.body d.scope .none kV doc pm an cdv ct) ⟨us, q.ks.zip ws⟩ = pure (d.ps.zip (pickL q.perm (us ++ ws)))
/-- what of a module is seen from its text alone -/
structure MdSt (m : Md) : Prop where
  sc : ∀ d ∈ m.fx, (scC d.N d.ps d.scope && (decide (d.fd.np = d.ps.length) && decide (d.fd.n = d.N.length))) = true
  gc : m.gc.all gcOk = true
  bd : ∀ d ∈ m.fx, BindP d
  kb : ∀ q ∈ m.kp, ∀ d, m.fx[q.f]? = some d → KBindP d q
  code : ∀ d ∈ m.fx, (code m d).1 = d.fd.body
theorem md_ok {K : PySem.W.Frag} {h : Heap} {mg : Str → Option Value} {m : Md} (st : MdSt m) (c : He.SaysD m.fa m.fnH K) (X : K.In h) (G : h.Ns mainGlobals mg) : ∃ ad da, MdOk K mg m ad da := by
  have fact : ∀ f ∈ m.fa, f.ok K = true := fun f hf => by
    obtain ⟨i, hi, e⟩ := List.mem_iff_getElem.mp hf
    exact c.fact i (by rw [List.getElem?_eq_getElem hi, e])
  have fn : ∀ f : Nat, ∃ fd : FuncData, ∀ d, m.fx[f]? = some d → FxOk K mg d (He.ga K d.name) fd ∧ ∀ q ∈ m.kp, q.f = f → KBok K fd d.ps q.n q.ks q.perm := fun f => by
    cases hf : m.fx[f]? with
    | none => exact ⟨PySem.W.fnOf "" "" default [] default .none .none .none .none none .none .none, fun d e => nomatch e⟩
    | some d =>
      obtain ⟨fd, F⟩ := c.def_ f (d := d.toD) (by unfold Md.fnH; rw [List.getElem?_map, hf]; rfl)
      have F' : FunD K d.name d.name d.params d.body d.scope [] [] (He.ga K d.name) fd := F
      have hd := List.mem_of_getElem? hf
      have s := st.sc d hd
      simp only [Bool.and_eq_true, decide_eq_true_eq] at s
      refine ⟨fd, fun d' e => ?_⟩
      cases e
      refine ⟨⟨F', He.glo_ok X G (fact _ (List.mem_append_left _ (List.mem_map.mpr ⟨d, hd, rfl⟩))), fnScope_by s.1, F'.bindsN (st.bd d hd), s.2.1, s.2.2⟩, fun q hq eq => ?_⟩
      have kb := st.kb q hq d (by rw [eq]; exact hf)
      intro sh us ws _ l1 l2
      obtain ⟨oc, od, dV, kV, doc, pm, an, cdv, ct, osl, rfl, lk, hcd, hD, hK⟩ := F'.ex
      rcases hD with ⟨_, rfl⟩ | ⟨e, _⟩
      · exact .of_eq (kb kV doc pm an cdv ct us ws l1 l2)
      · exact absurd rfl e
  obtain ⟨da, hda⟩ := Classical.axiomOfChoice fn
  refine ⟨fun f => match m.fx[f]? with | some d => He.ga K d.name | none => 0, da, ⟨fun f d hd => ?_, fun p hp => ?_, fun y hy => ?_, fun q hq d hd => ((hda q.f d hd).2 q hq rfl)⟩⟩
  · have e : (match m.fx[f]? with | some d => He.ga K d.name | none => 0) = He.ga K d.name := by rw [hd]
    show FxOk K mg d (match m.fx[f]? with | some d => He.ga K d.name | none => 0) (da f)
    rw [e]
    exact (hda f d hd).1
  · have ok := List.all_eq_true.mp st.gc p hp
    obtain ⟨x, v⟩ := p
    have mem : ∀ f, gcFa (x, v) = some f → f.ok K = true := fun f e => fact f (List.mem_append_right _ (List.mem_append_right _ (List.mem_filterMap.mpr ⟨_, hp, e⟩)))
    cases v with
    | int i =>
      obtain ⟨t, e⟩ := He.int_ok X G (mem _ rfl)
      exact ⟨.int i, _, e, ⟨t, rfl⟩, fun H P => .int i⟩
    | str s =>
      obtain ⟨t, e⟩ := He.str_ok X G (mem _ rfl)
      simp only [gcOk, Bool.and_eq_true, decide_eq_true_eq] at ok
      exact ⟨.str _, _, e, ⟨t, rfl⟩, fun H P => .str s ok.1 ok.2⟩
    | _ => cases ok
  · exact He.free_ok X G (fact _ (List.mem_append_right _ (List.mem_append_left _ (List.mem_map.mpr ⟨y, hy, rfl⟩))))
/-- the goal of the head (case hc), from what the law's own code answers -/
theorem walk_pu {l : PySem.W.OpenLaw} {n k fL : Nat} {q : Program} {loose : List Str} {XP : (Str → Option Value) → Heap → Prop} {YP : World → Heap → Prop} {d : DefRec} {x : Str} {m : Md} {dL : Fx}
    (hn : l.most = some n) (hn2 : n ≤ sizeLine) (hdf : d.params.defaults = []) (hr : Room k callerA) (st : MdSt m) (hL : m.fx[fL]? = some dL) (hname : dL.name = d.name) (hps : dL.ps = [x])
    (hY : ∀ (w : World) (h : Heap), YP w h → ∃ K : PySem.W.Frag, K.In h ∧ He.SaysD m.fa m.fnH K)
    (ans : ∀ ns : List Int, ns.length ≤ n → ∃ outs, callK m.F k fL [.rd ns] = some (.d (.bl true), outs)) :
    PySem.W.WalkO q loose XP YP l.row.toRowW d [] (fun f vs => PySem.call f vs) := by
  refine Att.attach_call hn hdf fun w s₀ s₁ mg mb fa o pm cd doc a vs ns G Y ho hd hcd hmg hobj hints hlen hg => ?_
  obtain ⟨K, KX, c⟩ := hY w _ Y
  obtain ⟨ad, da, ok⟩ := md_ok st c KX G.T.g
  have fk := ok.fx fL dL hL
  have e1 := fk.glo
  rw [hname, hmg] at e1
  have e2 : fa = ad fL := by cases e1; rfl
  subst e2
  have np : dL.fd.np = 1 := by rw [fk.np, hps]; rfl
  have hD := List.mem_of_getElem? hL
  refine call_law (sp := spF K (callK m.F k) (flags m.F) dL.fd.np fL) (fd := da fL) (x := x) KX G.T.g G.T.b G.T.builtins G.T.nolimit hg hobj hints (Nat.le_trans hlen hn2) hr (fun base _ _ => ?_) (fun s u => ?_) fun H only sq => law_prom np (ans ns hlen) H only sq
  · rw [← hps]
    exact all_fns (code_ok st.code) ok k fL dL hL
  · have b := fk.fn.bindsA (st.bd dL hD) s [u] (by rw [hps]; rfl)
    rw [hps] at b
    exact b
end Pu

set_option maxRecDepth 100000
set_option maxHeartbeats 0
namespace Lawk12
open Pu
local macro_rules | `(tactic| simp! only [$ls,*]) => `(tactic| simp -implicitDefEqProofs -dsimp only [flat_app, datas_app, ↓we_fzF, ↓fz_v, ↓fz_rd, ↓fz_pk, ↓fzs_ol, ↓fzs_s, ↓fzs_0, we_fzF, fz_v, fz_rd, fz_pk, fzs_ol, fzs_s, fzs_0, isD_d, isD_map, isD_map1, ↓ws_each, ws_each, appV_ol, shortOl_ol, ↓bd_len, ↓bd_abs, ↓bd_sum, ↓bd_all, ↓bd_any, ↓bd_int, ↓bd_list, ↓bd_tuple, ↓bd_repr, ↓bd_max, ↓bd_min, ↓bd_sorted, ↓bd_bool, bd_len, bd_abs, bd_sum, bd_all, bd_any, bd_int, bd_list, bd_tuple, bd_repr, bd_max, bd_min, bd_sorted, bd_bool, ↓o_eq_bl, ↓o_ne_bl, o_eq_bl, o_ne_bl, bne_self_eq_false, beq_self_eq_true, Bool.bne_false, Bool.bne_true, ↓okSl_d, ↓okSl_ol, ↓okSl_rd, ↓okLo_lo, ↓ok_dat_d, ↓ok_dat_ol, ↓ok_dat_pk, ↓ok_dat_rd, ↓ok_fdat_d, ↓ok_fdat_ol, ↓ok_fdat_pk, ↓ok_gdat_d, ↓ok_gdat_ol, ↓ok_gdat_pk, ↓ok_gdat_rd, ↓ok_ndat_d, ↓ok_ndat_ol, ↓ok_ndat_pk, ↓ok_esc_v, ↓ok_esc_pk, ↓ok_mov_v, ↓ok_srcD_d, ↓ok_srcD_ol, ↓ok_srcD_pk, ↓ok_srcD_rd, ↓ok_srcs_nil, ↓ok_srcs_cons, ↓ok_escs_nil, ↓ok_escs_cons, ↓we_var, ↓we_cst, ↓we_bin, ↓wneg_int, ↓we_neg, ↓wbl_bl, ↓we_not, ↓we_and, ↓we_or, ↓we_cmp, ↓we_chn, ↓we_ite, ↓we_idx, ↓we_sl, ↓we_rev, ↓we_tup, ↓we_lst, ↓we_turn, ↓we_isi, ↓we_b1, ↓we_b2, ↓wint_int, ↓we_ono, ↓we_oso, ↓we_nil, ↓we_cons, ↓wt_yes, ↓wt_tr, ↓wt_no, ↓wt_an, ↓wt_or, ↓sq_nx, ↓sq_rt, ↓sq_bk, ↓sq_ct, ↓ws_seq, ↓ws_set, ↓ws_movs_nil, ↓ws_movs_cons, ↓ws_asgs_nil, ↓ws_asgs_cons, ↓ws_setT, ↓ws_unp, ↓ws_ex, ↓ws_ite, ↓ws_ret, ↓ws_retN, ↓ws_pass, ↓ws_brk, ↓ws_cont, ↓wol_ol, ↓ws_app, ↓ws_for, ↓ws_whl, ↓wlst_lst, ↓ws_ext, ↓wa_nm, ↓wa_tp, ↓wa_nil, ↓wa_cons, ↓wa_ix, ↓o_add_int, ↓o_add_str, ↓o_add_lst, ↓o_add_tup, ↓o_sub, ↓o_mul_int, ↓o_mul_str, ↓o_mul_lst, ↓o_fdiv, ↓o_mod, ↓o_pow, ↓o_eq_int, ↓o_ne_int, ↓o_eq_str, ↓o_ne_str, ↓o_lt_int, ↓o_le_int, ↓o_gt_int, ↓o_ge_int, ↓o_lt_str, ↓o_le_str, ↓o_gt_str, ↓o_ge_str, ↓o_in_str, ↓o_nin_str, ↓o_is_non, ↓o_isn_non, ↓o_is_bl, ↓o_isn_bl, ↓o_idx_lst, ↓o_idx_tup, ↓o_idx_str, ↓o_sl_str, ↓o_sl_lst, ↓o_sl_tup, ↓o_rev_str, ↓o_rev_lst, ↓o_len_str, ↓o_len_lst, ↓o_len_tup, ↓o_abs, ↓o_int_int, ↓o_int_bl, ↓o_bool_int, ↓o_list_lst, ↓o_list_tup, ↓o_list_str, ↓o_sorted_str, ↓mkd_str, ↓mkd_lst, ↓o_ix_str, ↓o_ix_lst, ↓o_sw, ↓o_ew, ↓wda_d, ↓ws_aug, ↓o_aug_add, ↓o_aug_sub, ↓o_maxd, ↓ws_appAt, ↓wol2_ol, ↓o_enzip, ↓we_met, ↓o_tuple_lst, ↓o_tuple_tup, ↓o_repr, ↓o_all, ↓o_any, ↓o_sum, ↓o_max, ↓o_min, ↓o_max2, ↓o_min2, ↓o_divmod, ↓o_join, ↓o_seq_lst, ↓o_seq_tup, ↓o_seq_str, ↓o_rng1, ↓o_rng2, ↓o_zip_lst, ↓o_zip_tup, ↓o_enum, ↓o_gcd, ↓o_sset, ↓o_ssetT, ↓o_lset, ↓o_lsetT, ↓o_sw3, ↓we_bs, ↓we_sw3, ↓we_pop, ↓we_dlk, ↓we_lrng, ↓wid_int, isD_ol, ↓o_revl, ↓sl_s, ↓sl_0, ↓lo_s, ↓lo_0, ↓ok_asgM, ↓ok_movM, ↓we_callM, ↓we_callkM, ↓ok_pickR, ↓fin_rt, ↓fin_nx, ↓lp_nx, ↓lp_ct, ↓lp_bk, ↓lp_rt, ↓we_compC, okSl_d, okSl_ol, okSl_rd, okLo_lo, ok_dat_d, ok_dat_ol, ok_dat_pk, ok_dat_rd, ok_fdat_d, ok_fdat_ol, ok_fdat_pk, ok_gdat_d, ok_gdat_ol, ok_gdat_pk, ok_gdat_rd, ok_ndat_d, ok_ndat_ol, ok_ndat_pk, ok_esc_v, ok_esc_pk, ok_mov_v, ok_srcD_d, ok_srcD_ol, ok_srcD_pk, ok_srcD_rd, ok_srcs_nil, ok_srcs_cons, ok_escs_nil, ok_escs_cons, we_var, we_cst, we_bin, wneg_int, we_neg, wbl_bl, we_not, we_and, we_or, we_cmp, we_chn, we_ite, we_idx, we_sl, we_rev, we_tup, we_lst, we_turn, we_isi, we_b1, we_b2, wint_int, we_ono, we_oso, we_nil, we_cons, wt_yes, wt_tr, wt_no, wt_an, wt_or, sq_nx, sq_rt, sq_bk, sq_ct, ws_seq, ws_set, ws_movs_nil, ws_movs_cons, ws_asgs_nil, ws_asgs_cons, ws_setT, ws_unp, ws_ex, ws_ite, ws_ret, ws_retN, ws_pass, ws_brk, ws_cont, wol_ol, ws_app, ws_for, ws_whl, wlst_lst, ws_ext, wa_nm, wa_tp, wa_nil, wa_cons, wa_ix, o_add_int, o_add_str, o_add_lst, o_add_tup, o_sub, o_mul_int, o_mul_str, o_mul_lst, o_fdiv, o_mod, o_pow, o_eq_int, o_ne_int, o_eq_str, o_ne_str, o_lt_int, o_le_int, o_gt_int, o_ge_int, o_lt_str, o_le_str, o_gt_str, o_ge_str, o_in_str, o_nin_str, o_is_non, o_isn_non, o_is_bl, o_isn_bl, o_idx_lst, o_idx_tup, o_idx_str, o_sl_str, o_sl_lst, o_sl_tup, o_rev_str, o_rev_lst, o_len_str, o_len_lst, o_len_tup, o_abs, o_int_int, o_int_bl, o_bool_int, o_list_lst, o_list_tup, o_list_str, o_sorted_str, mkd_str, mkd_lst, o_ix_str, o_ix_lst, o_sw, o_ew, wda_d, ws_aug, o_aug_add, o_aug_sub, o_maxd, ws_appAt, wol2_ol, o_enzip, we_met, o_tuple_lst, o_tuple_tup, o_repr, o_all, o_any, o_sum, o_max, o_min, o_max2, o_min2, o_divmod, o_join, o_seq_lst, o_seq_tup, o_seq_str, o_rng1, o_rng2, o_zip_lst, o_zip_tup, o_enum, o_revl, sl_s, sl_0, lo_s, lo_0, ok_asgM, ok_movM, we_callM, we_callkM, ok_pickR, fin_rt, fin_nx, lp_nx, lp_ct, lp_bk, lp_rt, we_compC, ok1_some, ok2_some, if_true', if_false', data_d, data_ol, datas_nil, datas_cons, datas_mapd, datas_map1, flat_d, flat_nil, flat_cons, flat_mapd, flat_map1, truth_bl', truth_int, truth_str, truth_lst, truth_tup, truth_non, notOl_d', notOl_pk, fzR_v, fzR_rd, isNon_non, isNon_int, isNon_str, isNon_lst, isNon_tup, isNon_bl, hasTy, List.set_cons_zero, List.set_cons_succ, List.getD_cons_zero, List.getD_cons_succ, List.getD_nil, List.length_cons, List.length_nil, List.map_nil, List.map_cons, List.append_nil, List.nil_append, List.cons_append, List.take_succ_cons, List.take_zero, List.any_cons, List.any_nil, List.all_cons, List.all_nil, Bool.or_false, Bool.or_true, Bool.and_true, Bool.true_and, Bool.false_and, Bool.and_false, Bool.false_or, Bool.true_or, Bool.not_true, Bool.not_false, Bool.not_not, true_and, and_true, Nat.reduceAdd, Nat.reduceLT, Nat.reduceLeDiff, Nat.reduceEqDiff, Nat.zero_lt_succ, decide_true, decide_false, ne_eq, not_false_eq_true, Int.toNat_natCast, Int.reduceToNat, reduceCtorEq, pickL, List.filterMap_cons, List.filterMap_nil, if_true, if_false, Bool.false_eq_true, Int.cast_ofNat_Int, nc_add, nc_add1, nc_1add, nc_0add, nc_mul, nc_2mul, nc_mul2, nc_fdiv2, fmod_nat, fdiv_nat, cut_to, cut_from, cut_last, cut_ft, cut_all, cut_to_0, cut_to_1, cut_to_2, cut_to_3, cut_to_4, cut_from_1, cut_from_2, cut_from_3, wipe, unwipe, List.getElem?_cons_zero, List.getElem?_cons_succ, Option.getD_some, Int.reduceEq, Int.reduceLT, Int.reduceLE, Int.reducePow, Int.reduceNeg, Int.reduceAdd, Int.reduceSub, Int.reduceMul, atI_0, atI_1, atI_2, ixN_0, ixN_1, eq_self, and_self, Nat.reduceSub, List.replicate_zero, List.reduceReplicate, $ls,*])
local macro_rules | `(tactic| simpa! only [$ls,*]) => `(tactic| simp -implicitDefEqProofs -dsimp only [flat_app, datas_app, ↓we_fzF, ↓fz_v, ↓fz_rd, ↓fz_pk, ↓fzs_ol, ↓fzs_s, ↓fzs_0, we_fzF, fz_v, fz_rd, fz_pk, fzs_ol, fzs_s, fzs_0, isD_d, isD_map, isD_map1, ↓ws_each, ws_each, appV_ol, shortOl_ol, ↓bd_len, ↓bd_abs, ↓bd_sum, ↓bd_all, ↓bd_any, ↓bd_int, ↓bd_list, ↓bd_tuple, ↓bd_repr, ↓bd_max, ↓bd_min, ↓bd_sorted, ↓bd_bool, bd_len, bd_abs, bd_sum, bd_all, bd_any, bd_int, bd_list, bd_tuple, bd_repr, bd_max, bd_min, bd_sorted, bd_bool, ↓o_eq_bl, ↓o_ne_bl, o_eq_bl, o_ne_bl, bne_self_eq_false, beq_self_eq_true, Bool.bne_false, Bool.bne_true, ↓okSl_d, ↓okSl_ol, ↓okSl_rd, ↓okLo_lo, ↓ok_dat_d, ↓ok_dat_ol, ↓ok_dat_pk, ↓ok_dat_rd, ↓ok_fdat_d, ↓ok_fdat_ol, ↓ok_fdat_pk, ↓ok_gdat_d, ↓ok_gdat_ol, ↓ok_gdat_pk, ↓ok_gdat_rd, ↓ok_ndat_d, ↓ok_ndat_ol, ↓ok_ndat_pk, ↓ok_esc_v, ↓ok_esc_pk, ↓ok_mov_v, ↓ok_srcD_d, ↓ok_srcD_ol, ↓ok_srcD_pk, ↓ok_srcD_rd, ↓ok_srcs_nil, ↓ok_srcs_cons, ↓ok_escs_nil, ↓ok_escs_cons, ↓we_var, ↓we_cst, ↓we_bin, ↓wneg_int, ↓we_neg, ↓wbl_bl, ↓we_not, ↓we_cmp, ↓we_chn, ↓we_idx, ↓we_sl, ↓we_rev, ↓we_tup, ↓we_lst, ↓we_turn, ↓we_isi, ↓we_b1, ↓we_b2, ↓wint_int, ↓we_ono, ↓we_oso, ↓we_nil, ↓we_cons, ↓wt_yes, ↓wt_tr, ↓wt_no, ↓wt_an, ↓wt_or, ↓sq_nx, ↓sq_rt, ↓sq_bk, ↓sq_ct, ↓ws_seq, ↓ws_set, ↓ws_movs_nil, ↓ws_movs_cons, ↓ws_asgs_nil, ↓ws_asgs_cons, ↓ws_setT, ↓ws_unp, ↓ws_ex, ↓ws_ite, ↓ws_ret, ↓ws_retN, ↓ws_pass, ↓ws_brk, ↓ws_cont, ↓wol_ol, ↓ws_app, ↓ws_for, ↓ws_whl, ↓wlst_lst, ↓ws_ext, ↓wa_nm, ↓wa_tp, ↓wa_nil, ↓wa_cons, ↓wa_ix, ↓o_add_int, ↓o_add_str, ↓o_add_lst, ↓o_add_tup, ↓o_sub, ↓o_mul_int, ↓o_mul_str, ↓o_mul_lst, ↓o_fdiv, ↓o_mod, ↓o_pow, ↓o_eq_int, ↓o_ne_int, ↓o_eq_str, ↓o_ne_str, ↓o_lt_int, ↓o_le_int, ↓o_gt_int, ↓o_ge_int, ↓o_lt_str, ↓o_le_str, ↓o_gt_str, ↓o_ge_str, ↓o_in_str, ↓o_nin_str, ↓o_is_non, ↓o_isn_non, ↓o_is_bl, ↓o_isn_bl, ↓o_idx_lst, ↓o_idx_tup, ↓o_idx_str, ↓o_sl_str, ↓o_sl_lst, ↓o_sl_tup, ↓o_rev_str, ↓o_rev_lst, ↓o_len_str, ↓o_len_lst, ↓o_len_tup, ↓o_abs, ↓o_int_int, ↓o_int_bl, ↓o_bool_int, ↓o_list_lst, ↓o_list_tup, ↓o_list_str, ↓o_sorted_str, ↓mkd_str, ↓mkd_lst, ↓o_ix_str, ↓o_ix_lst, ↓o_sw, ↓o_ew, ↓wda_d, ↓ws_aug, ↓o_aug_add, ↓o_aug_sub, ↓o_maxd, ↓ws_appAt, ↓wol2_ol, ↓o_enzip, ↓we_met, ↓o_tuple_lst, ↓o_tuple_tup, ↓o_repr, ↓o_all, ↓o_any, ↓o_sum, ↓o_max, ↓o_min, ↓o_max2, ↓o_min2, ↓o_divmod, ↓o_join, ↓o_seq_lst, ↓o_seq_tup, ↓o_seq_str, ↓o_rng1, ↓o_rng2, ↓o_zip_lst, ↓o_zip_tup, ↓o_enum, ↓o_gcd, ↓o_sset, ↓o_ssetT, ↓o_lset, ↓o_lsetT, ↓o_sw3, ↓we_bs, ↓we_sw3, ↓we_pop, ↓we_dlk, ↓we_lrng, ↓wid_int, isD_ol, ↓o_revl, ↓sl_s, ↓sl_0, ↓lo_s, ↓lo_0, ↓ok_asgM, ↓ok_movM, ↓we_callM, ↓we_callkM, ↓ok_pickR, ↓fin_rt, ↓fin_nx, ↓lp_nx, ↓lp_ct, ↓lp_bk, ↓lp_rt, ↓we_compC, okSl_d, okSl_ol, okSl_rd, okLo_lo, ok_dat_d, ok_dat_ol, ok_dat_pk, ok_dat_rd, ok_fdat_d, ok_fdat_ol, ok_fdat_pk, ok_gdat_d, ok_gdat_ol, ok_gdat_pk, ok_gdat_rd, ok_ndat_d, ok_ndat_ol, ok_ndat_pk, ok_esc_v, ok_esc_pk, ok_mov_v, ok_srcD_d, ok_srcD_ol, ok_srcD_pk, ok_srcD_rd, ok_srcs_nil, ok_srcs_cons, ok_escs_nil, ok_escs_cons, we_var, we_cst, we_bin, wneg_int, we_neg, wbl_bl, we_not, we_cmp, we_chn, we_idx, we_sl, we_rev, we_tup, we_lst, we_turn, we_isi, we_b1, we_b2, wint_int, we_ono, we_oso, we_nil, we_cons, wt_yes, wt_tr, wt_no, wt_an, wt_or, sq_nx, sq_rt, sq_bk, sq_ct, ws_seq, ws_set, ws_movs_nil, ws_movs_cons, ws_asgs_nil, ws_asgs_cons, ws_setT, ws_unp, ws_ex, ws_ite, ws_ret, ws_retN, ws_pass, ws_brk, ws_cont, wol_ol, ws_app, ws_for, ws_whl, wlst_lst, ws_ext, wa_nm, wa_tp, wa_nil, wa_cons, wa_ix, o_add_int, o_add_str, o_add_lst, o_add_tup, o_sub, o_mul_int, o_mul_str, o_mul_lst, o_fdiv, o_mod, o_pow, o_eq_int, o_ne_int, o_eq_str, o_ne_str, o_lt_int, o_le_int, o_gt_int, o_ge_int, o_lt_str, o_le_str, o_gt_str, o_ge_str, o_in_str, o_nin_str, o_is_non, o_isn_non, o_is_bl, o_isn_bl, o_idx_lst, o_idx_tup, o_idx_str, o_sl_str, o_sl_lst, o_sl_tup, o_rev_str, o_rev_lst, o_len_str, o_len_lst, o_len_tup, o_abs, o_int_int, o_int_bl, o_bool_int, o_list_lst, o_list_tup, o_list_str, o_sorted_str, mkd_str, mkd_lst, o_ix_str, o_ix_lst, o_sw, o_ew, wda_d, ws_aug, o_aug_add, o_aug_sub, o_maxd, ws_appAt, wol2_ol, o_enzip, we_met, o_tuple_lst, o_tuple_tup, o_repr, o_all, o_any, o_sum, o_max, o_min, o_max2, o_min2, o_divmod, o_join, o_seq_lst, o_seq_tup, o_seq_str, o_rng1, o_rng2, o_zip_lst, o_zip_tup, o_enum, o_revl, sl_s, sl_0, lo_s, lo_0, ok_asgM, ok_movM, we_callM, we_callkM, ok_pickR, fin_rt, fin_nx, lp_nx, lp_ct, lp_bk, lp_rt, we_compC, ok1_some, ok2_some, if_true', if_false', data_d, data_ol, datas_nil, datas_cons, datas_mapd, datas_map1, flat_d, flat_nil, flat_cons, flat_mapd, flat_map1, truth_bl', truth_int, truth_str, truth_lst, truth_tup, truth_non, notOl_d', notOl_pk, fzR_v, fzR_rd, isNon_non, isNon_int, isNon_str, isNon_lst, isNon_tup, isNon_bl, hasTy, List.set_cons_zero, List.set_cons_succ, List.getD_cons_zero, List.getD_cons_succ, List.getD_nil, List.length_cons, List.length_nil, List.map_nil, List.map_cons, List.append_nil, List.nil_append, List.cons_append, List.take_succ_cons, List.take_zero, List.any_cons, List.any_nil, List.all_cons, List.all_nil, Bool.or_false, Bool.or_true, Bool.and_true, Bool.true_and, Bool.false_and, Bool.and_false, Bool.false_or, Bool.true_or, Bool.not_true, Bool.not_false, Bool.not_not, true_and, and_true, Nat.reduceAdd, Nat.reduceLT, Nat.reduceLeDiff, Nat.reduceEqDiff, Nat.zero_lt_succ, decide_true, decide_false, ne_eq, not_false_eq_true, Int.toNat_natCast, Int.reduceToNat, reduceCtorEq, pickL, List.filterMap_cons, List.filterMap_nil, if_true, if_false, Bool.false_eq_true, Int.cast_ofNat_Int, nc_add, nc_add1, nc_1add, nc_0add, nc_mul, nc_2mul, nc_mul2, nc_fdiv2, fmod_nat, fdiv_nat, cut_to, cut_from, cut_last, cut_ft, cut_all, cut_to_0, cut_to_1, cut_to_2, cut_to_3, cut_to_4, cut_from_1, cut_from_2, cut_from_3, wipe, unwipe, List.getElem?_cons_zero, List.getElem?_cons_succ, Option.getD_some, Int.reduceEq, Int.reduceLT, Int.reduceLE, Int.reducePow, Int.reduceNeg, Int.reduceAdd, Int.reduceSub, Int.reduceMul, atI_0, atI_1, atI_2, ixN_0, ixN_1, eq_self, and_self, Nat.reduceSub, List.replicate_zero, List.reduceReplicate, $ls,*])
/-- is_integer(value) -/
def b0 : S := .ret (.and (.isi (.var 0) [.int]) (.not (.isi (.var 0) [.bool])))
def d0 : Fd := ⟨1, 1, [false], b0⟩
/-- is_count(value) -/
def b1 : S := .ret (.and (.call 0 (.cons (.var 0) .nil) []) (.cmp .ge (.var 0) (.cst (.int 0))))
def d1 : Fd := ⟨1, 1, [false], b1⟩
/-- over(value, letters): letter -/
def b2 : S := .ret (.and (.isi (.var 0) [.str]) (.b1 .all (.comp [2] .seq (.cons (.var 0) .nil) (.nm 2) .yes (.cmp .in_ (.var 2) (.sl (.cst (.str [97, 98, 99])) .no (.so (.var 1)))))))
def d2 : Fd := ⟨2, 3, [false, false], b2⟩
/-- word_is_right(value) -/
def b3 : S := .ret (.call 4 (.cons (.var 0) (.cons (.b1 .len (.cst (.str [97, 98, 99]))) .nil)) [])
def d3 : Fd := ⟨1, 1, [false], b3⟩
/-- is_over(value, letters) -/
def b4 : S := .ret (.and (.call 2 (.cons (.var 0) (.cons (.var 1) .nil)) []) (.cmp .le (.b1 .len (.var 0)) (.cst (.int 400))))
def d4 : Fd := ⟨2, 2, [false, false], b4⟩
/-- shortest_first(words): word, many -/
def b5 : S := .ret (.comp [2, 1] .seq (.cons (.bs .sset (.comp [1] .seq (.cons (.var 0) .nil) (.nm 1) .yes (.tup (.cons (.b1 .len (.var 1)) (.cons (.var 1) .nil))))) .nil) (.tp (.cons (.nm 2) (.cons (.nm 1) .nil))) .yes (.var 1))
def d5 : Fd := ⟨1, 3, [false], b5⟩
/-- stream_is_right(value): part -/
def b6 : S := .seq (.ite (.orr (.no (.tr (.isi (.var 0) [.tuple]))) (.orr (.tr (.cmp .ne (.b1 .len (.var 0)) (.cst (.int 3)))) (.orr (.no (.tr (.isi (.idx (.var 0) (.cst (.int 0))) [.str]))) (.tr (.cmp .ne (.idx (.var 0) (.cst (.int 0))) (.cst (.str [115, 116, 114, 101, 97, 109]))))))) (.ret (.cst (.bl false))) .pass) (.seq (.ite (.no (.tr (.b1 .all (.comp [1] .seq (.cons (.sl (.var 0) (.so (.cst (.int 1))) .no) .nil) (.nm 1) .yes (.and (.call 2 (.cons (.var 1) (.cons (.b1 .len (.cst (.str [97, 98, 99]))) .nil)) []) (.cmp .le (.b1 .len (.var 1)) (.cst (.int 200)))))))) (.ret (.cst (.bl false))) .pass) (.ret (.cmp .ne (.idx (.var 0) (.cst (.int 2))) (.cst (.str [])))))
def d6 : Fd := ⟨1, 2, [false], b6⟩
/-- check_word(word) -/
def b7 : S := .ite (.no (.tr (.call 3 (.cons (.var 0) .nil) []))) .never .pass
def d7 : Fd := ⟨1, 1, [false], b7⟩
/-- check_many(many) -/
def b8 : S := .ite (.orr (.no (.tr (.call 1 (.cons (.var 0) .nil) []))) (.tr (.cmp .gt (.var 0) (.cst (.int 60))))) .never .pass
def d8 : Fd := ⟨1, 1, [false], b8⟩
/-- check_stream(stream) -/
def b9 : S := .ite (.no (.tr (.call 6 (.cons (.var 0) .nil) []))) .never .pass
def d9 : Fd := ⟨1, 1, [false], b9⟩
/-- common_begin(word, other): found -/
def b10 : S := .seq (.set 2 (.cst (.int 0))) (.seq (.whl (.an (.tr (.cmp .lt (.var 2) (.b2 .min (.b1 .len (.var 0)) (.b1 .len (.var 1))))) (.tr (.cmp .eq (.idx (.var 0) (.var 2)) (.idx (.var 1) (.var 2))))) (.aug 2 .add (.cst (.int 1)))) (.ret (.var 2)))
def d10 : Fd := ⟨2, 3, [false, false], b10⟩
/-- stretches_of(word, many): at -/
def b11 : S := .ret (.call 5 (.cons (.comp [2] .rng1 (.cons (.bin .add (.bin .sub (.b1 .len (.var 0)) (.var 1)) (.cst (.int 1))) .nil) (.nm 2) .yes (.sl (.var 0) (.so (.var 2)) (.so (.bin .add (.fz (.var 2)) (.fz (.var 1)))))) .nil) [])
def d11 : Fd := ⟨2, 3, [false, false], b11⟩
/-- root_round(word): many -/
def b12 : S := .seq (.for_ .rng2 (.cons (.cst (.int 1)) (.cons (.bin .add (.b1 .len (.var 0)) (.cst (.int 1))) .nil)) (.nm 1) (.ite (.an (.tr (.cmp .eq (.bin .mod (.b1 .len (.var 0)) (.var 1)) (.cst (.int 0)))) (.tr (.cmp .eq (.bin .mul (.sl (.var 0) .no (.so (.var 1))) (.bin .fdiv (.b1 .len (.var 0)) (.var 1))) (.var 0)))) (.ret (.sl (.var 0) .no (.so (.var 1)))) .pass)) (.ret (.var 0))
def d12 : Fd := ⟨1, 2, [false], b12⟩
/-- least_of(stream): ahead, turn -/
def b13 : S := .seq (.setT [1, 2] (.cons (.idx (.var 0) (.cst (.int 1))) (.cons (.call 12 (.cons (.idx (.var 0) (.cst (.int 2))) .nil) []) .nil))) (.seq (.whl (.an (.tr (.cmp .ne (.var 1) (.cst (.str [])))) (.tr (.cmp .eq (.idx (.var 1) (.neg (.cst (.int 1)))) (.idx (.var 2) (.neg (.cst (.int 1))))))) (.setT [1, 2] (.cons (.sl (.var 1) .no (.so (.neg (.cst (.int 1))))) (.cons (.bin .add (.idx (.var 2) (.neg (.cst (.int 1)))) (.sl (.var 2) .no (.so (.neg (.cst (.int 1)))))) .nil)))) (.ret (.tup (.cons (.cst (.str [115, 116, 114, 101, 97, 109])) (.cons (.var 1) (.cons (.var 2) .nil))))))
def d13 : Fd := ⟨1, 3, [false], b13⟩
/-- first_letters(stream, many): times -/
def b14 : S := .seq (.set 2 (.bin .add (.bin .fdiv (.var 1) (.b1 .len (.idx (.var 0) (.cst (.int 2))))) (.cst (.int 1)))) (.ret (.sl (.bin .add (.idx (.var 0) (.cst (.int 1))) (.bin .mul (.idx (.var 0) (.cst (.int 2))) (.var 2))) .no (.so (.var 1))))
def d14 : Fd := ⟨2, 3, [false, false], b14⟩
/-- far_enough(stream, other) -/
def b15 : S := .ret (.bin .add (.bin .add (.b2 .max (.b1 .len (.idx (.var 0) (.cst (.int 1)))) (.b1 .len (.idx (.var 1) (.cst (.int 1))))) (.b1 .len (.idx (.var 0) (.cst (.int 2))))) (.b1 .len (.idx (.var 1) (.cst (.int 2)))))
def d15 : Fd := ⟨2, 2, [false, false], b15⟩
/-- stretches(word, many) -/
def b16 : S := .seq (.ex (.call 7 (.cons (.var 0) .nil) [])) (.seq (.ex (.call 8 (.cons (.var 1) .nil) [])) (.ret (.call 11 (.cons (.var 0) (.cons (.var 1) .nil)) [])))
def d16 : Fd := ⟨2, 2, [false, false], b16⟩
/-- stretch_counts(word): many, at -/
def b17 : S := .seq (.ex (.call 7 (.cons (.var 0) .nil) [])) (.ret (.comp [1] .rng1 (.cons (.bin .add (.b1 .len (.var 0)) (.cst (.int 1))) .nil) (.nm 1) .yes (.bs .lset (.comp [2] .rng1 (.cons (.bin .add (.bin .sub (.b1 .len (.var 0)) (.var 1)) (.cst (.int 1))) .nil) (.nm 2) .yes (.sl (.var 0) (.so (.var 2)) (.so (.bin .add (.fz (.var 2)) (.fz (.var 1)))))))))
def d17 : Fd := ⟨1, 3, [false], b17⟩
/-- is_stream(value) -/
def b18 : S := .ret (.call 6 (.cons (.var 0) .nil) [])
def d18 : Fd := ⟨1, 1, [false], b18⟩
/-- least_stream(stream) -/
def b19 : S := .seq (.ex (.call 9 (.cons (.var 0) .nil) [])) (.ret (.call 13 (.cons (.var 0) .nil) []))
def d19 : Fd := ⟨1, 1, [false], b19⟩
/-- stream_begin(stream, many) -/
def b20 : S := .seq (.ex (.call 9 (.cons (.var 0) .nil) [])) (.seq (.ex (.call 8 (.cons (.var 1) .nil) [])) (.ret (.call 14 (.cons (.var 0) (.cons (.var 1) .nil)) [])))
def d20 : Fd := ⟨2, 2, [false, false], b20⟩
/-- streams_part(stream, other): many, found -/
def b21 : S := .seq (.ex (.call 9 (.cons (.var 0) .nil) [])) (.seq (.ex (.call 9 (.cons (.var 1) .nil) [])) (.seq (.set 2 (.call 15 (.cons (.var 0) (.cons (.var 1) .nil)) [])) (.seq (.set 3 (.call 10 (.cons (.call 14 (.cons (.var 0) (.cons (.var 2) .nil)) []) (.cons (.call 14 (.cons (.var 1) (.cons (.var 2) .nil)) []) .nil)) [])) (.ret (.ite (.tr (.cmp .lt (.var 3) (.var 2))) (.var 3) (.cst .non))))))
def d21 : Fd := ⟨2, 4, [false, false], b21⟩
/-- _law_pot(script, k): cell -/
def b22 : S := .seq (.set 2 (.ite (.tr (.cmp .lt (.var 1) (.b1 .len (.var 0)))) (.b1 .abs (.idx (.var 0) (.var 1))) (.bin .add (.bin .mul (.cst (.int 2389)) (.var 1)) (.cst (.int 1613))))) (.ret (.lst (.cons (.b2 .max (.cst (.int 0)) (.bin .sub (.var 2) (.bin .pow (.cst (.int 10)) (.cst (.int 18))))) (.cons (.bin .add (.bin .mod (.b1 .int (.bin .add (.bin .add (.bin .mul (.bin .mod (.b1 .int (.var 2)) (.cst (.int 2147483549))) (.cst (.int 40014))) (.bin .mul (.cst (.int 7219)) (.var 1))) (.cst (.int 1187)))) (.cst (.int 2147483563))) (.cst (.int 1))) .nil))))
def d22 : Fd := ⟨2, 3, [false, false], b22⟩
/-- _law_draw(pot, many): digit -/
def b23 : S := .seq (.ite (.tr (.cmp .gt (.idx (.var 0) (.cst (.int 0))) (.cst (.int 0)))) (.seq (.unp (.tp (.cons (.ix 0 (.cst (.int 0))) (.cons (.nm 2) .nil))) (.b2 .divmod (.idx (.var 0) (.cst (.int 0))) (.var 1))) (.ret (.var 2))) .pass) (.seq (.unp (.ix 0 (.cst (.int 1))) (.bin .mod (.b1 .int (.bin .add (.bin .mul (.idx (.var 0) (.cst (.int 1))) (.cst (.int 40692))) (.cst (.int 10253)))) (.cst (.int 2147483587)))) (.ret (.bin .mod (.b1 .int (.bin .fdiv (.bin .mod (.b1 .int (.bin .mul (.idx (.var 0) (.cst (.int 1))) (.idx (.var 0) (.cst (.int 1))))) (.cst (.int 2147483549))) (.cst (.int 17)))) (.var 1))))
def d23 : Fd := ⟨2, 3, [true, false], b23⟩
/-- _law_pick(pot, some) -/
def b24 : S := .ret (.idx (.var 1) (.call 23 (.cons (.var 0) (.cons (.b1 .len (.var 1)) .nil)) []))
def d24 : Fd := ⟨2, 2, [true, false], b24⟩
/-- _law_same(told, due): one, its -/
def b25 : S := .seq (.ite (.orr (.tr (.isi (.var 1) [.list])) (.tr (.isi (.var 1) [.tuple]))) (.seq (.ite (.orr (.tr (.cmp .ne (.isi (.var 0) [.list]) (.isi (.var 1) [.list]))) (.tr (.cmp .ne (.isi (.var 0) [.tuple]) (.isi (.var 1) [.tuple])))) (.ret (.cst (.bl false))) .pass) (.ret (.and (.cmp .eq (.b1 .len (.var 0)) (.b1 .len (.var 1))) (.b1 .all (.comp [2, 3] .zip (.cons (.var 0) (.cons (.var 1) .nil)) (.tp (.cons (.nm 2) (.cons (.nm 3) .nil))) .yes (.call 25 (.cons (.var 2) (.cons (.var 3) .nil)) [])))))) .pass) (.seq (.ite (.tr (.cmp .is_ (.var 1) (.cst .non))) (.ret (.cmp .is_ (.var 0) (.cst .non))) .pass) (.seq (.ite (.orr (.tr (.cmp .ne (.isi (.var 0) [.bool]) (.isi (.var 1) [.bool]))) (.tr (.cmp .ne (.isi (.var 0) [.str]) (.isi (.var 1) [.str])))) (.ret (.cst (.bl false))) .pass) (.ret (.and (.cmp .eq (.isi (.var 0) [.int]) (.isi (.var 1) [.int])) (.cmp .eq (.var 0) (.var 1))))))
def d25 : Fd := ⟨2, 4, [false, false], b25⟩
/-- _law_letters(pot, letters, many): at -/
def b26 : S := .ret (.b2 .join (.cst (.str [])) (.comp [3] .rng1 (.cons (.var 2) .nil) (.nm 3) .yes (.idx (.cst (.str [97, 98, 99])) (.call 23 (.cons (.var 0) (.cons (.var 1) .nil)) []))))
def d26 : Fd := ⟨3, 4, [true, false, false], b26⟩
/-- _law_word(pot, letters, most): line, many, piece, word, half, at -/
def b27 : S := .seq (.setT [3, 4] (.cons (.call 23 (.cons (.var 0) (.cons (.cst (.int 5)) .nil)) []) (.cons (.call 23 (.cons (.var 0) (.cons (.bin .add (.fz (.var 2)) (.cst (.int 1))) .nil)) []) .nil))) (.seq (.ite (.tr (.cmp .eq (.var 3) (.cst (.int 0)))) (.ret (.call 26 (.cons (.var 0) (.cons (.var 1) (.cons (.var 4) .nil))) [])) .pass) (.seq (.set 5 (.call 26 (.cons (.var 0) (.cons (.var 1) (.cons (.bin .add (.cst (.int 1)) (.call 23 (.cons (.var 0) (.cons (.cst (.int 5)) .nil)) [])) .nil))) [])) (.seq (.set 6 (.sl (.bin .mul (.var 5) (.bin .add (.fz (.var 4)) (.cst (.int 1)))) .no (.so (.var 4)))) (.seq (.ite (.tr (.cmp .eq (.var 3) (.cst (.int 1)))) (.ret (.var 6)) .pass) (.seq (.ite (.tr (.cmp .eq (.var 3) (.cst (.int 2)))) (.seq (.set 7 (.call 26 (.cons (.var 0) (.cons (.var 1) (.cons (.bin .fdiv (.b1 .int (.var 4)) (.cst (.int 2))) .nil))) [])) (.ret (.bin .add (.fz (.var 7)) (.rev (.var 7))))) .pass) (.seq (.set 8 (.call 23 (.cons (.var 0) (.cons (.bin .add (.fz (.var 4)) (.cst (.int 1))) .nil)) [])) (.ret (.sl (.bin .add (.bin .add (.sl (.var 6) .no (.so (.var 8))) (.call 26 (.cons (.var 0) (.cons (.var 1) (.cons (.cst (.int 1)) .nil))) [])) (.sl (.var 6) (.so (.var 8)) .no)) .no (.so (.var 2))))))))))
def d27 : Fd := ⟨3, 9, [true, false, false], b27⟩
/-- _law_stretches(word, many): found, at -/
def b28 : S := .seq (.set 2 (.lst .nil)) (.seq (.for_ .rng1 (.cons (.bin .add (.bin .sub (.b1 .len (.var 0)) (.var 1)) (.cst (.int 1))) .nil) (.nm 3) (.ite (.tr (.cmp .nin (.sl (.var 0) (.so (.var 3)) (.so (.bin .add (.fz (.var 3)) (.fz (.var 1))))) (.var 2))) (.app 2 (.sl (.var 0) (.so (.var 3)) (.so (.bin .add (.fz (.var 3)) (.fz (.var 1)))))) .pass)) (.ret (.b1 .sorted (.var 2))))
def d28 : Fd := ⟨2, 4, [false, false], b28⟩
/-- _law_stretches_right(pot, word): counts, told, many, count, full, due -/
def b29 : S := .seq (.set 2 (.comp [4] .rng1 (.cons (.bin .add (.b1 .len (.var 1)) (.cst (.int 1))) .nil) (.nm 4) .yes (.b1 .len (.call 28 (.cons (.var 1) (.cons (.var 4) .nil)) [])))) (.seq (.set 3 (.call 17 (.cons (.var 1) .nil) [])) (.seq (.ite (.no (.tr (.call 25 (.cons (.var 3) (.cons (.var 2) .nil)) []))) (.ret (.cst (.bl false))) .pass) (.seq (.app 3 (.cst .non)) (.seq (.ite (.no (.tr (.call 25 (.cons (.callk 17 .nil (.cons (.var 1) .nil) [0]) (.cons (.var 2) .nil)) []))) (.ret (.cst (.bl false))) .pass) (.seq (.for_ .enum (.cons (.var 2) .nil) (.tp (.cons (.nm 4) (.cons (.nm 5) .nil))) (.seq (.set 6 (.cmp .eq (.var 5) (.bin .add (.bin .sub (.b1 .len (.var 1)) (.var 4)) (.cst (.int 1))))) (.ite (.orr (.an (.tr (.var 6)) (.an (.tr (.cmp .lt (.var 4) (.b1 .len (.var 1)))) (.tr (.cmp .ne (.idx (.var 2) (.bin .add (.fz (.var 4)) (.cst (.int 1)))) (.bin .sub (.var 5) (.cst (.int 1))))))) (.tr (.cmp .gt (.var 5) (.bin .add (.bin .sub (.b1 .len (.var 1)) (.var 4)) (.cst (.int 1)))))) (.ret (.cst (.bl false))) .pass))) (.seq (.for_ .seq (.cons (.tup (.cons (.cst (.int 0)) (.cons (.call 23 (.cons (.var 0) (.cons (.cst (.int 8)) .nil)) []) (.cons (.b1 .len (.var 1)) (.cons (.b2 .min (.cst (.int 60)) (.bin .add (.b1 .len (.var 1)) (.cst (.int 1)))) .nil))))) .nil) (.nm 4) (.seq (.set 7 (.call 28 (.cons (.var 1) (.cons (.var 4) .nil)) [])) (.seq (.set 3 (.call 16 (.cons (.var 1) (.cons (.var 4) .nil)) [])) (.seq (.ite (.no (.tr (.call 25 (.cons (.var 3) (.cons (.var 7) .nil)) []))) (.ret (.cst (.bl false))) .pass) (.seq (.app 3 (.cst .non)) (.ite (.no (.tr (.call 25 (.cons (.callk 16 .nil (.cons (.var 4) (.cons (.var 1) .nil)) [1, 0]) (.cons (.var 7) .nil)) []))) (.ret (.cst (.bl false))) .pass)))))) (.ret (.cst (.bl true)))))))))
def d29 : Fd := ⟨2, 8, [true, false], b29⟩
/-- _law_begin(stream, many) -/
def b30 : S := .ret (.sl (.bin .add (.idx (.var 0) (.cst (.int 1))) (.bin .mul (.idx (.var 0) (.cst (.int 2))) (.bin .add (.fz (.var 1)) (.cst (.int 1))))) .no (.so (.var 1)))
def d30 : Fd := ⟨2, 2, [false, false], b30⟩
/-- _law_least(stream): ahead, turn, many, step -/
def b31 : S := .seq (.setT [1, 2] (.cons (.idx (.var 0) (.cst (.int 1))) (.cons (.idx (.var 0) (.cst (.int 2))) .nil))) (.seq (.for_ .rng2 (.cons (.cst (.int 1)) (.cons (.bin .add (.b1 .len (.var 2)) (.cst (.int 1))) .nil)) (.nm 3) (.ite (.tr (.cmp .eq (.bin .mul (.sl (.var 2) .no (.so (.var 3))) (.bin .fdiv (.b1 .int (.b1 .len (.var 2))) (.var 3))) (.var 2))) (.seq (.set 2 (.sl (.var 2) .no (.so (.var 3)))) .brk) .pass)) (.seq (.for_ .rng1 (.cons (.b1 .len (.var 1)) .nil) (.nm 4) (.ite (.tr (.cmp .eq (.idx (.var 1) (.neg (.cst (.int 1)))) (.idx (.var 2) (.neg (.cst (.int 1)))))) (.setT [1, 2] (.cons (.sl (.var 1) .no (.so (.neg (.cst (.int 1))))) (.cons (.bin .add (.idx (.var 2) (.neg (.cst (.int 1)))) (.sl (.var 2) .no (.so (.neg (.cst (.int 1)))))) .nil))) .brk)) (.ret (.tup (.cons (.cst (.str [115, 116, 114, 101, 97, 109])) (.cons (.var 1) (.cons (.var 2) .nil)))))))
def d31 : Fd := ⟨1, 5, [false], b31⟩
/-- _law_otherwise(pot, stream): ahead, turn, step -/
def b32 : S := .seq (.setT [2, 3] (.cons (.idx (.var 1) (.cst (.int 1))) (.cons (.bin .mul (.idx (.var 1) (.cst (.int 2))) (.bin .add (.cst (.int 1)) (.call 23 (.cons (.var 0) (.cons (.cst (.int 3)) .nil)) []))) .nil))) (.seq (.for_ .rng1 (.cons (.call 23 (.cons (.var 0) (.cons (.cst (.int 7)) .nil)) []) .nil) (.nm 4) (.setT [2, 3] (.cons (.bin .add (.fz (.var 2)) (.idx (.var 3) (.cst (.int 0)))) (.cons (.bin .add (.sl (.var 3) (.so (.cst (.int 1))) .no) (.idx (.var 3) (.cst (.int 0)))) .nil)))) (.ret (.tup (.cons (.cst (.str [115, 116, 114, 101, 97, 109])) (.cons (.var 2) (.cons (.var 3) .nil))))))
def d32 : Fd := ⟨2, 5, [true, false], b32⟩
/-- _law_two_right(stream, other): many, one, more, due, at, told -/
def b33 : S := .seq (.set 2 (.bin .add (.bin .add (.bin .add (.b1 .len (.idx (.var 0) (.cst (.int 1)))) (.b1 .len (.idx (.var 1) (.cst (.int 1))))) (.bin .mul (.cst (.int 2)) (.bin .add (.b1 .len (.idx (.var 0) (.cst (.int 2)))) (.b1 .len (.idx (.var 1) (.cst (.int 2))))))) (.cst (.int 5)))) (.seq (.setT [3, 4] (.cons (.call 30 (.cons (.var 0) (.cons (.var 2) .nil)) []) (.cons (.call 30 (.cons (.var 1) (.cons (.var 2) .nil)) []) .nil))) (.seq (.set 5 (.cst .non)) (.seq (.for_ .rev (.cons (.lrng (.cst (.int 0)) (.var 2)) .nil) (.nm 6) (.set 5 (.ite (.tr (.cmp .ne (.idx (.var 3) (.var 6)) (.idx (.var 4) (.var 6)))) (.var 6) (.var 5)))) (.seq (.set 7 (.lst (.cons (.call 21 (.cons (.var 0) (.cons (.var 1) .nil)) []) (.cons (.callk 21 .nil (.cons (.var 0) (.cons (.var 1) .nil)) [1, 0]) .nil)))) (.seq (.ite (.orr (.no (.tr (.call 25 (.cons (.var 7) (.cons (.lst (.cons (.var 5) (.cons (.var 5) .nil))) .nil)) []))) (.tr (.cmp .ne (.cmp .is_ (.var 5) (.cst .non)) (.cmp .eq (.call 31 (.cons (.var 0) .nil) []) (.call 31 (.cons (.var 1) .nil) []))))) (.ret (.cst (.bl false))) .pass) (.ret (.or (.cmp .is_ (.var 5) (.cst .non)) (.cmp .lt (.var 5) (.bin .add (.bin .add (.b2 .max (.b1 .len (.idx (.var 0) (.cst (.int 1)))) (.b1 .len (.idx (.var 1) (.cst (.int 1))))) (.b1 .len (.idx (.var 0) (.cst (.int 2))))) (.b1 .len (.idx (.var 1) (.cst (.int 2)))))))))))))
def d33 : Fd := ⟨2, 8, [false, false], b33⟩
/-- _law_stream_right(pot, letters): turn, stream, other, least, shown, many, due, at, bent, far, one -/
def b34 : S := .seq (.set 2 (.call 27 (.cons (.var 0) (.cons (.var 1) (.cons (.cst (.int 12)) .nil))) [])) (.seq (.set 3 (.tup (.cons (.cst (.str [115, 116, 114, 101, 97, 109])) (.cons (.call 27 (.cons (.var 0) (.cons (.var 1) (.cons (.cst (.int 12)) .nil))) []) (.cons (.ite (.tr (.cmp .ne (.var 2) (.cst (.str [])))) (.var 2) (.cst (.str [97]))) .nil))))) (.seq (.set 4 (.call 32 (.cons (.var 0) (.cons (.var 3) .nil)) [])) (.seq (.setT [5, 6] (.cons (.call 31 (.cons (.var 3) .nil) []) (.cons (.b1 .repr (.var 3)) .nil))) (.seq (.ite (.orr (.no (.tr (.call 25 (.cons (.lst (.cons (.call 19 (.cons (.var 3) .nil) []) (.cons (.callk 19 .nil (.cons (.var 4) .nil) [0]) (.cons (.call 19 (.cons (.var 5) .nil) []) .nil)))) (.cons (.bin .mul (.lst (.cons (.var 5) .nil)) (.cst (.int 3))) .nil)) []))) (.tr (.cmp .isn (.call 18 (.cons (.var 3) .nil) []) (.cst (.bl true))))) (.ret (.cst (.bl false))) .pass) (.seq (.set 7 (.call 23 (.cons (.var 0) (.cons (.cst (.int 61)) .nil)) [])) (.seq (.set 8 (.call 30 (.cons (.var 3) (.cons (.var 7) .nil)) [])) (.seq (.ite (.no (.tr (.call 25 (.cons (.lst (.cons (.call 20 (.cons (.var 3) (.cons (.var 7) .nil)) []) (.cons (.callk 20 .nil (.cons (.var 7) (.cons (.var 4) .nil)) [1, 0]) (.cons (.call 20 (.cons (.var 5) (.cons (.var 7) .nil)) []) .nil)))) (.cons (.bin .mul (.lst (.cons (.var 8) .nil)) (.cst (.int 3))) .nil)) []))) (.ret (.cst (.bl false))) .pass) (.seq (.set 9 (.call 23 (.cons (.var 0) (.cons (.b1 .len (.idx (.var 4) (.cst (.int 2)))) .nil)) [])) (.seq (.set 10 (.tup (.cons (.cst (.str [115, 116, 114, 101, 97, 109])) (.cons (.idx (.var 4) (.cst (.int 1))) (.cons (.bin .add (.bin .add (.sl (.idx (.var 4) (.cst (.int 2))) .no (.so (.var 9))) (.call 26 (.cons (.var 0) (.cons (.var 1) (.cons (.cst (.int 1)) .nil))) [])) (.sl (.idx (.var 4) (.cst (.int 2))) (.so (.bin .add (.fz (.var 9)) (.cst (.int 1)))) .no)) .nil))))) (.seq (.set 11 (.tup (.cons (.cst (.str [115, 116, 114, 101, 97, 109])) (.cons (.bin .add (.call 30 (.cons (.var 3) (.cons (.cst (.int 15)) .nil)) []) (.call 26 (.cons (.var 0) (.cons (.var 1) (.cons (.cst (.int 2)) .nil))) [])) (.cons (.sl (.call 24 (.cons (.var 0) (.cons (.lst (.cons (.cst (.str [97])) (.cons (.cst (.str [97, 98])) (.cons (.idx (.var 3) (.cst (.int 2))) .nil)))) .nil)) []) .no (.so (.cst (.int 20)))) .nil))))) (.ret (.and (.b1 .all (.comp [12] .seq (.cons (.tup (.cons (.var 4) (.cons (.var 10) (.cons (.var 11) (.cons (.var 5) .nil))))) .nil) (.nm 12) .yes (.call 33 (.cons (.var 3) (.cons (.var 12) .nil)) []))) (.cmp .eq (.b1 .repr (.var 3)) (.var 6))))))))))))))
def d34 : Fd := ⟨2, 13, [true, false], b34⟩
/-- _law_right(pot): letters, turn -/
def b35 : S := .seq (.set 1 (.bin .add (.cst (.int 1)) (.call 23 (.cons (.var 0) (.cons (.cst (.int 3)) .nil)) []))) (.ret (.and (.call 29 (.cons (.var 0) (.cons (.call 27 (.cons (.var 0) (.cons (.var 1) (.cons (.cst (.int 24)) .nil))) []) .nil)) []) (.b1 .all (.comp [2] .rng1 (.cons (.cst (.int 3)) .nil) (.nm 2) .yes (.call 34 (.cons (.var 0) (.cons (.var 1) .nil)) [])))))
def d35 : Fd := ⟨1, 3, [true], b35⟩
/-- law(script): k -/
def b36 : S := .ret (.b1 .all (.comp [1] .rng1 (.cons (.b2 .max (.cst (.int 1)) (.b2 .min (.cst (.int 2)) (.b1 .len (.var 0)))) .nil) (.nm 1) .yes (.call 35 (.cons (.call 22 (.cons (.var 0) (.cons (.var 1) .nil)) []) .nil) [])))
def d36 : Fd := ⟨1, 2, [false], b36⟩
def F (f : Nat) : Option Fd := [d0, d1, d2, d3, d4, d5, d6, d7, d8, d9, d10, d11, d12, d13, d14, d15, d16, d17, d18, d19, d20, d21, d22, d23, d24, d25, d26, d27, d28, d29, d30, d31, d32, d33, d34, d35, d36][f]?
theorem H0 : F 0 = some ⟨1, 1, [false], b0⟩ := rfl
theorem H1 : F 1 = some ⟨1, 1, [false], b1⟩ := rfl
theorem H2 : F 2 = some ⟨2, 3, [false, false], b2⟩ := rfl
theorem H3 : F 3 = some ⟨1, 1, [false], b3⟩ := rfl
theorem H4 : F 4 = some ⟨2, 2, [false, false], b4⟩ := rfl
theorem H5 : F 5 = some ⟨1, 3, [false], b5⟩ := rfl
theorem H6 : F 6 = some ⟨1, 2, [false], b6⟩ := rfl
theorem H7 : F 7 = some ⟨1, 1, [false], b7⟩ := rfl
theorem H8 : F 8 = some ⟨1, 1, [false], b8⟩ := rfl
theorem H9 : F 9 = some ⟨1, 1, [false], b9⟩ := rfl
theorem H10 : F 10 = some ⟨2, 3, [false, false], b10⟩ := rfl
theorem H11 : F 11 = some ⟨2, 3, [false, false], b11⟩ := rfl
theorem H12 : F 12 = some ⟨1, 2, [false], b12⟩ := rfl
theorem H13 : F 13 = some ⟨1, 3, [false], b13⟩ := rfl
theorem H14 : F 14 = some ⟨2, 3, [false, false], b14⟩ := rfl
theorem H15 : F 15 = some ⟨2, 2, [false, false], b15⟩ := rfl
theorem H16 : F 16 = some ⟨2, 2, [false, false], b16⟩ := rfl
theorem H17 : F 17 = some ⟨1, 3, [false], b17⟩ := rfl
theorem H18 : F 18 = some ⟨1, 1, [false], b18⟩ := rfl
theorem H19 : F 19 = some ⟨1, 1, [false], b19⟩ := rfl
theorem H20 : F 20 = some ⟨2, 2, [false, false], b20⟩ := rfl
theorem H21 : F 21 = some ⟨2, 4, [false, false], b21⟩ := rfl
theorem H22 : F 22 = some ⟨2, 3, [false, false], b22⟩ := rfl
theorem H23 : F 23 = some ⟨2, 3, [true, false], b23⟩ := rfl
theorem H24 : F 24 = some ⟨2, 2, [true, false], b24⟩ := rfl
theorem H25 : F 25 = some ⟨2, 4, [false, false], b25⟩ := rfl
theorem H26 : F 26 = some ⟨3, 4, [true, false, false], b26⟩ := rfl
theorem H27 : F 27 = some ⟨3, 9, [true, false, false], b27⟩ := rfl
theorem H28 : F 28 = some ⟨2, 4, [false, false], b28⟩ := rfl
theorem H29 : F 29 = some ⟨2, 8, [true, false], b29⟩ := rfl
theorem H30 : F 30 = some ⟨2, 2, [false, false], b30⟩ := rfl
theorem H31 : F 31 = some ⟨1, 5, [false], b31⟩ := rfl
theorem H32 : F 32 = some ⟨2, 5, [true, false], b32⟩ := rfl
theorem H33 : F 33 = some ⟨2, 8, [false, false], b33⟩ := rfl
theorem H34 : F 34 = some ⟨2, 13, [true, false], b34⟩ := rfl
theorem H35 : F 35 = some ⟨1, 3, [true], b35⟩ := rfl
theorem H36 : F 36 = some ⟨1, 2, [false], b36⟩ := rfl
end Lawk12
namespace Lawk12
open Pu
local macro_rules | `(tactic| simp! only [$ls,*]) => `(tactic| simp -implicitDefEqProofs -dsimp only [flat_app, datas_app, ↓we_fzF, ↓fz_v, ↓fz_rd, ↓fz_pk, ↓fzs_ol, ↓fzs_s, ↓fzs_0, we_fzF, fz_v, fz_rd, fz_pk, fzs_ol, fzs_s, fzs_0, isD_d, isD_map, isD_map1, ↓ws_each, ws_each, appV_ol, shortOl_ol, ↓bd_len, ↓bd_abs, ↓bd_sum, ↓bd_all, ↓bd_any, ↓bd_int, ↓bd_list, ↓bd_tuple, ↓bd_repr, ↓bd_max, ↓bd_min, ↓bd_sorted, ↓bd_bool, bd_len, bd_abs, bd_sum, bd_all, bd_any, bd_int, bd_list, bd_tuple, bd_repr, bd_max, bd_min, bd_sorted, bd_bool, ↓o_eq_bl, ↓o_ne_bl, o_eq_bl, o_ne_bl, bne_self_eq_false, beq_self_eq_true, Bool.bne_false, Bool.bne_true, ↓okSl_d, ↓okSl_ol, ↓okSl_rd, ↓okLo_lo, ↓ok_dat_d, ↓ok_dat_ol, ↓ok_dat_pk, ↓ok_dat_rd, ↓ok_fdat_d, ↓ok_fdat_ol, ↓ok_fdat_pk, ↓ok_gdat_d, ↓ok_gdat_ol, ↓ok_gdat_pk, ↓ok_gdat_rd, ↓ok_ndat_d, ↓ok_ndat_ol, ↓ok_ndat_pk, ↓ok_esc_v, ↓ok_esc_pk, ↓ok_mov_v, ↓ok_srcD_d, ↓ok_srcD_ol, ↓ok_srcD_pk, ↓ok_srcD_rd, ↓ok_srcs_nil, ↓ok_srcs_cons, ↓ok_escs_nil, ↓ok_escs_cons, ↓we_var, ↓we_cst, ↓we_bin, ↓wneg_int, ↓we_neg, ↓wbl_bl, ↓we_not, ↓we_and, ↓we_or, ↓we_cmp, ↓we_chn, ↓we_ite, ↓we_idx, ↓we_sl, ↓we_rev, ↓we_tup, ↓we_lst, ↓we_turn, ↓we_isi, ↓we_b1, ↓we_b2, ↓wint_int, ↓we_ono, ↓we_oso, ↓we_nil, ↓we_cons, ↓wt_yes, ↓wt_tr, ↓wt_no, ↓wt_an, ↓wt_or, ↓sq_nx, ↓sq_rt, ↓sq_bk, ↓sq_ct, ↓ws_seq, ↓ws_set, ↓ws_movs_nil, ↓ws_movs_cons, ↓ws_asgs_nil, ↓ws_asgs_cons, ↓ws_setT, ↓ws_unp, ↓ws_ex, ↓ws_ite, ↓ws_ret, ↓ws_retN, ↓ws_pass, ↓ws_brk, ↓ws_cont, ↓wol_ol, ↓ws_app, ↓ws_for, ↓ws_whl, ↓wlst_lst, ↓ws_ext, ↓wa_nm, ↓wa_tp, ↓wa_nil, ↓wa_cons, ↓wa_ix, ↓o_add_int, ↓o_add_str, ↓o_add_lst, ↓o_add_tup, ↓o_sub, ↓o_mul_int, ↓o_mul_str, ↓o_mul_lst, ↓o_fdiv, ↓o_mod, ↓o_pow, ↓o_eq_int, ↓o_ne_int, ↓o_eq_str, ↓o_ne_str, ↓o_lt_int, ↓o_le_int, ↓o_gt_int, ↓o_ge_int, ↓o_lt_str, ↓o_le_str, ↓o_gt_str, ↓o_ge_str, ↓o_in_str, ↓o_nin_str, ↓o_is_non, ↓o_isn_non, ↓o_is_bl, ↓o_isn_bl, ↓o_idx_lst, ↓o_idx_tup, ↓o_idx_str, ↓o_sl_str, ↓o_sl_lst, ↓o_sl_tup, ↓o_rev_str, ↓o_rev_lst, ↓o_len_str, ↓o_len_lst, ↓o_len_tup, ↓o_abs, ↓o_int_int, ↓o_int_bl, ↓o_bool_int, ↓o_list_lst, ↓o_list_tup, ↓o_list_str, ↓o_sorted_str, ↓mkd_str, ↓mkd_lst, ↓o_ix_str, ↓o_ix_lst, ↓o_sw, ↓o_ew, ↓wda_d, ↓ws_aug, ↓o_aug_add, ↓o_aug_sub, ↓o_maxd, ↓ws_appAt, ↓wol2_ol, ↓o_enzip, ↓we_met, ↓o_tuple_lst, ↓o_tuple_tup, ↓o_repr, ↓o_all, ↓o_any, ↓o_sum, ↓o_max, ↓o_min, ↓o_max2, ↓o_min2, ↓o_divmod, ↓o_join, ↓o_seq_lst, ↓o_seq_tup, ↓o_seq_str, ↓o_rng1, ↓o_rng2, ↓o_zip_lst, ↓o_zip_tup, ↓o_enum, ↓o_gcd, ↓o_sset, ↓o_ssetT, ↓o_lset, ↓o_lsetT, ↓o_sw3, ↓we_bs, ↓we_sw3, ↓we_pop, ↓we_dlk, ↓we_lrng, ↓wid_int, isD_ol, ↓o_revl, ↓sl_s, ↓sl_0, ↓lo_s, ↓lo_0, ↓ok_asgM, ↓ok_movM, ↓we_callM, ↓we_callkM, ↓ok_pickR, ↓fin_rt, ↓fin_nx, ↓lp_nx, ↓lp_ct, ↓lp_bk, ↓lp_rt, ↓we_compC, okSl_d, okSl_ol, okSl_rd, okLo_lo, ok_dat_d, ok_dat_ol, ok_dat_pk, ok_dat_rd, ok_fdat_d, ok_fdat_ol, ok_fdat_pk, ok_gdat_d, ok_gdat_ol, ok_gdat_pk, ok_gdat_rd, ok_ndat_d, ok_ndat_ol, ok_ndat_pk, ok_esc_v, ok_esc_pk, ok_mov_v, ok_srcD_d, ok_srcD_ol, ok_srcD_pk, ok_srcD_rd, ok_srcs_nil, ok_srcs_cons, ok_escs_nil, ok_escs_cons, we_var, we_cst, we_bin, wneg_int, we_neg, wbl_bl, we_not, we_and, we_or, we_cmp, we_chn, we_ite, we_idx, we_sl, we_rev, we_tup, we_lst, we_turn, we_isi, we_b1, we_b2, wint_int, we_ono, we_oso, we_nil, we_cons, wt_yes, wt_tr, wt_no, wt_an, wt_or, sq_nx, sq_rt, sq_bk, sq_ct, ws_seq, ws_set, ws_movs_nil, ws_movs_cons, ws_asgs_nil, ws_asgs_cons, ws_setT, ws_unp, ws_ex, ws_ite, ws_ret, ws_retN, ws_pass, ws_brk, ws_cont, wol_ol, ws_app, ws_for, ws_whl, wlst_lst, ws_ext, wa_nm, wa_tp, wa_nil, wa_cons, wa_ix, o_add_int, o_add_str, o_add_lst, o_add_tup, o_sub, o_mul_int, o_mul_str, o_mul_lst, o_fdiv, o_mod, o_pow, o_eq_int, o_ne_int, o_eq_str, o_ne_str, o_lt_int, o_le_int, o_gt_int, o_ge_int, o_lt_str, o_le_str, o_gt_str, o_ge_str, o_in_str, o_nin_str, o_is_non, o_isn_non, o_is_bl, o_isn_bl, o_idx_lst, o_idx_tup, o_idx_str, o_sl_str, o_sl_lst, o_sl_tup, o_rev_str, o_rev_lst, o_len_str, o_len_lst, o_len_tup, o_abs, o_int_int, o_int_bl, o_bool_int, o_list_lst, o_list_tup, o_list_str, o_sorted_str, mkd_str, mkd_lst, o_ix_str, o_ix_lst, o_sw, o_ew, wda_d, ws_aug, o_aug_add, o_aug_sub, o_maxd, ws_appAt, wol2_ol, o_enzip, we_met, o_tuple_lst, o_tuple_tup, o_repr, o_all, o_any, o_sum, o_max, o_min, o_max2, o_min2, o_divmod, o_join, o_seq_lst, o_seq_tup, o_seq_str, o_rng1, o_rng2, o_zip_lst, o_zip_tup, o_enum, o_revl, sl_s, sl_0, lo_s, lo_0, ok_asgM, ok_movM, we_callM, we_callkM, ok_pickR, fin_rt, fin_nx, lp_nx, lp_ct, lp_bk, lp_rt, we_compC, ok1_some, ok2_some, if_true', if_false', data_d, data_ol, datas_nil, datas_cons, datas_mapd, datas_map1, flat_d, flat_nil, flat_cons, flat_mapd, flat_map1, truth_bl', truth_int, truth_str, truth_lst, truth_tup, truth_non, notOl_d', notOl_pk, fzR_v, fzR_rd, isNon_non, isNon_int, isNon_str, isNon_lst, isNon_tup, isNon_bl, hasTy, List.set_cons_zero, List.set_cons_succ, List.getD_cons_zero, List.getD_cons_succ, List.getD_nil, List.length_cons, List.length_nil, List.map_nil, List.map_cons, List.append_nil, List.nil_append, List.cons_append, List.take_succ_cons, List.take_zero, List.any_cons, List.any_nil, List.all_cons, List.all_nil, Bool.or_false, Bool.or_true, Bool.and_true, Bool.true_and, Bool.false_and, Bool.and_false, Bool.false_or, Bool.true_or, Bool.not_true, Bool.not_false, Bool.not_not, true_and, and_true, Nat.reduceAdd, Nat.reduceLT, Nat.reduceLeDiff, Nat.reduceEqDiff, Nat.zero_lt_succ, decide_true, decide_false, ne_eq, not_false_eq_true, Int.toNat_natCast, Int.reduceToNat, reduceCtorEq, pickL, List.filterMap_cons, List.filterMap_nil, if_true, if_false, Bool.false_eq_true, Int.cast_ofNat_Int, nc_add, nc_add1, nc_1add, nc_0add, nc_mul, nc_2mul, nc_mul2, nc_fdiv2, fmod_nat, fdiv_nat, cut_to, cut_from, cut_last, cut_ft, cut_all, cut_to_0, cut_to_1, cut_to_2, cut_to_3, cut_to_4, cut_from_1, cut_from_2, cut_from_3, wipe, unwipe, List.getElem?_cons_zero, List.getElem?_cons_succ, Option.getD_some, Int.reduceEq, Int.reduceLT, Int.reduceLE, Int.reducePow, Int.reduceNeg, Int.reduceAdd, Int.reduceSub, Int.reduceMul, atI_0, atI_1, atI_2, ixN_0, ixN_1, eq_self, and_self, Nat.reduceSub, List.replicate_zero, List.reduceReplicate, $ls,*])
local macro_rules | `(tactic| simpa! only [$ls,*]) => `(tactic| simp -implicitDefEqProofs -dsimp only [flat_app, datas_app, ↓we_fzF, ↓fz_v, ↓fz_rd, ↓fz_pk, ↓fzs_ol, ↓fzs_s, ↓fzs_0, we_fzF, fz_v, fz_rd, fz_pk, fzs_ol, fzs_s, fzs_0, isD_d, isD_map, isD_map1, ↓ws_each, ws_each, appV_ol, shortOl_ol, ↓bd_len, ↓bd_abs, ↓bd_sum, ↓bd_all, ↓bd_any, ↓bd_int, ↓bd_list, ↓bd_tuple, ↓bd_repr, ↓bd_max, ↓bd_min, ↓bd_sorted, ↓bd_bool, bd_len, bd_abs, bd_sum, bd_all, bd_any, bd_int, bd_list, bd_tuple, bd_repr, bd_max, bd_min, bd_sorted, bd_bool, ↓o_eq_bl, ↓o_ne_bl, o_eq_bl, o_ne_bl, bne_self_eq_false, beq_self_eq_true, Bool.bne_false, Bool.bne_true, ↓okSl_d, ↓okSl_ol, ↓okSl_rd, ↓okLo_lo, ↓ok_dat_d, ↓ok_dat_ol, ↓ok_dat_pk, ↓ok_dat_rd, ↓ok_fdat_d, ↓ok_fdat_ol, ↓ok_fdat_pk, ↓ok_gdat_d, ↓ok_gdat_ol, ↓ok_gdat_pk, ↓ok_gdat_rd, ↓ok_ndat_d, ↓ok_ndat_ol, ↓ok_ndat_pk, ↓ok_esc_v, ↓ok_esc_pk, ↓ok_mov_v, ↓ok_srcD_d, ↓ok_srcD_ol, ↓ok_srcD_pk, ↓ok_srcD_rd, ↓ok_srcs_nil, ↓ok_srcs_cons, ↓ok_escs_nil, ↓ok_escs_cons, ↓we_var, ↓we_cst, ↓we_bin, ↓wneg_int, ↓we_neg, ↓wbl_bl, ↓we_not, ↓we_cmp, ↓we_chn, ↓we_idx, ↓we_sl, ↓we_rev, ↓we_tup, ↓we_lst, ↓we_turn, ↓we_isi, ↓we_b1, ↓we_b2, ↓wint_int, ↓we_ono, ↓we_oso, ↓we_nil, ↓we_cons, ↓wt_yes, ↓wt_tr, ↓wt_no, ↓wt_an, ↓wt_or, ↓sq_nx, ↓sq_rt, ↓sq_bk, ↓sq_ct, ↓ws_seq, ↓ws_set, ↓ws_movs_nil, ↓ws_movs_cons, ↓ws_asgs_nil, ↓ws_asgs_cons, ↓ws_setT, ↓ws_unp, ↓ws_ex, ↓ws_ite, ↓ws_ret, ↓ws_retN, ↓ws_pass, ↓ws_brk, ↓ws_cont, ↓wol_ol, ↓ws_app, ↓ws_for, ↓ws_whl, ↓wlst_lst, ↓ws_ext, ↓wa_nm, ↓wa_tp, ↓wa_nil, ↓wa_cons, ↓wa_ix, ↓o_add_int, ↓o_add_str, ↓o_add_lst, ↓o_add_tup, ↓o_sub, ↓o_mul_int, ↓o_mul_str, ↓o_mul_lst, ↓o_fdiv, ↓o_mod, ↓o_pow, ↓o_eq_int, ↓o_ne_int, ↓o_eq_str, ↓o_ne_str, ↓o_lt_int, ↓o_le_int, ↓o_gt_int, ↓o_ge_int, ↓o_lt_str, ↓o_le_str, ↓o_gt_str, ↓o_ge_str, ↓o_in_str, ↓o_nin_str, ↓o_is_non, ↓o_isn_non, ↓o_is_bl, ↓o_isn_bl, ↓o_idx_lst, ↓o_idx_tup, ↓o_idx_str, ↓o_sl_str, ↓o_sl_lst, ↓o_sl_tup, ↓o_rev_str, ↓o_rev_lst, ↓o_len_str, ↓o_len_lst, ↓o_len_tup, ↓o_abs, ↓o_int_int, ↓o_int_bl, ↓o_bool_int, ↓o_list_lst, ↓o_list_tup, ↓o_list_str, ↓o_sorted_str, ↓mkd_str, ↓mkd_lst, ↓o_ix_str, ↓o_ix_lst, ↓o_sw, ↓o_ew, ↓wda_d, ↓ws_aug, ↓o_aug_add, ↓o_aug_sub, ↓o_maxd, ↓ws_appAt, ↓wol2_ol, ↓o_enzip, ↓we_met, ↓o_tuple_lst, ↓o_tuple_tup, ↓o_repr, ↓o_all, ↓o_any, ↓o_sum, ↓o_max, ↓o_min, ↓o_max2, ↓o_min2, ↓o_divmod, ↓o_join, ↓o_seq_lst, ↓o_seq_tup, ↓o_seq_str, ↓o_rng1, ↓o_rng2, ↓o_zip_lst, ↓o_zip_tup, ↓o_enum, ↓o_gcd, ↓o_sset, ↓o_ssetT, ↓o_lset, ↓o_lsetT, ↓o_sw3, ↓we_bs, ↓we_sw3, ↓we_pop, ↓we_dlk, ↓we_lrng, ↓wid_int, isD_ol, ↓o_revl, ↓sl_s, ↓sl_0, ↓lo_s, ↓lo_0, ↓ok_asgM, ↓ok_movM, ↓we_callM, ↓we_callkM, ↓ok_pickR, ↓fin_rt, ↓fin_nx, ↓lp_nx, ↓lp_ct, ↓lp_bk, ↓lp_rt, ↓we_compC, okSl_d, okSl_ol, okSl_rd, okLo_lo, ok_dat_d, ok_dat_ol, ok_dat_pk, ok_dat_rd, ok_fdat_d, ok_fdat_ol, ok_fdat_pk, ok_gdat_d, ok_gdat_ol, ok_gdat_pk, ok_gdat_rd, ok_ndat_d, ok_ndat_ol, ok_ndat_pk, ok_esc_v, ok_esc_pk, ok_mov_v, ok_srcD_d, ok_srcD_ol, ok_srcD_pk, ok_srcD_rd, ok_srcs_nil, ok_srcs_cons, ok_escs_nil, ok_escs_cons, we_var, we_cst, we_bin, wneg_int, we_neg, wbl_bl, we_not, we_cmp, we_chn, we_idx, we_sl, we_rev, we_tup, we_lst, we_turn, we_isi, we_b1, we_b2, wint_int, we_ono, we_oso, we_nil, we_cons, wt_yes, wt_tr, wt_no, wt_an, wt_or, sq_nx, sq_rt, sq_bk, sq_ct, ws_seq, ws_set, ws_movs_nil, ws_movs_cons, ws_asgs_nil, ws_asgs_cons, ws_setT, ws_unp, ws_ex, ws_ite, ws_ret, ws_retN, ws_pass, ws_brk, ws_cont, wol_ol, ws_app, ws_for, ws_whl, wlst_lst, ws_ext, wa_nm, wa_tp, wa_nil, wa_cons, wa_ix, o_add_int, o_add_str, o_add_lst, o_add_tup, o_sub, o_mul_int, o_mul_str, o_mul_lst, o_fdiv, o_mod, o_pow, o_eq_int, o_ne_int, o_eq_str, o_ne_str, o_lt_int, o_le_int, o_gt_int, o_ge_int, o_lt_str, o_le_str, o_gt_str, o_ge_str, o_in_str, o_nin_str, o_is_non, o_isn_non, o_is_bl, o_isn_bl, o_idx_lst, o_idx_tup, o_idx_str, o_sl_str, o_sl_lst, o_sl_tup, o_rev_str, o_rev_lst, o_len_str, o_len_lst, o_len_tup, o_abs, o_int_int, o_int_bl, o_bool_int, o_list_lst, o_list_tup, o_list_str, o_sorted_str, mkd_str, mkd_lst, o_ix_str, o_ix_lst, o_sw, o_ew, wda_d, ws_aug, o_aug_add, o_aug_sub, o_maxd, ws_appAt, wol2_ol, o_enzip, we_met, o_tuple_lst, o_tuple_tup, o_repr, o_all, o_any, o_sum, o_max, o_min, o_max2, o_min2, o_divmod, o_join, o_seq_lst, o_seq_tup, o_seq_str, o_rng1, o_rng2, o_zip_lst, o_zip_tup, o_enum, o_revl, sl_s, sl_0, lo_s, lo_0, ok_asgM, ok_movM, we_callM, we_callkM, ok_pickR, fin_rt, fin_nx, lp_nx, lp_ct, lp_bk, lp_rt, we_compC, ok1_some, ok2_some, if_true', if_false', data_d, data_ol, datas_nil, datas_cons, datas_mapd, datas_map1, flat_d, flat_nil, flat_cons, flat_mapd, flat_map1, truth_bl', truth_int, truth_str, truth_lst, truth_tup, truth_non, notOl_d', notOl_pk, fzR_v, fzR_rd, isNon_non, isNon_int, isNon_str, isNon_lst, isNon_tup, isNon_bl, hasTy, List.set_cons_zero, List.set_cons_succ, List.getD_cons_zero, List.getD_cons_succ, List.getD_nil, List.length_cons, List.length_nil, List.map_nil, List.map_cons, List.append_nil, List.nil_append, List.cons_append, List.take_succ_cons, List.take_zero, List.any_cons, List.any_nil, List.all_cons, List.all_nil, Bool.or_false, Bool.or_true, Bool.and_true, Bool.true_and, Bool.false_and, Bool.and_false, Bool.false_or, Bool.true_or, Bool.not_true, Bool.not_false, Bool.not_not, true_and, and_true, Nat.reduceAdd, Nat.reduceLT, Nat.reduceLeDiff, Nat.reduceEqDiff, Nat.zero_lt_succ, decide_true, decide_false, ne_eq, not_false_eq_true, Int.toNat_natCast, Int.reduceToNat, reduceCtorEq, pickL, List.filterMap_cons, List.filterMap_nil, if_true, if_false, Bool.false_eq_true, Int.cast_ofNat_Int, nc_add, nc_add1, nc_1add, nc_0add, nc_mul, nc_2mul, nc_mul2, nc_fdiv2, fmod_nat, fdiv_nat, cut_to, cut_from, cut_last, cut_ft, cut_all, cut_to_0, cut_to_1, cut_to_2, cut_to_3, cut_to_4, cut_from_1, cut_from_2, cut_from_3, wipe, unwipe, List.getElem?_cons_zero, List.getElem?_cons_succ, Option.getD_some, Int.reduceEq, Int.reduceLT, Int.reduceLE, Int.reducePow, Int.reduceNeg, Int.reduceAdd, Int.reduceSub, Int.reduceMul, atI_0, atI_1, atI_2, ixN_0, ixN_1, eq_self, and_self, Nat.reduceSub, List.replicate_zero, List.reduceReplicate, $ls,*])
open Pu.P (wneg wbl wint wol wlst sq turnC Mk)
open Pu.Bo (wd okw fl_of over_b overB)
open Pu.Fw Pu.Tn Pu.Stm
/-! ### looks -/
theorem is_int (i : Int) : Gs F 1 0 [I i] (.d (.bl true)) := by
  refine Sp.mk H0 rfl fun k hk => ?_
  unfold b0
  simp! only []
theorem is_count (i : Int) (hi : 0 ≤ i) : Gs F 2 1 [I i] (.d (.bl true)) := by
  refine Sp.mk H1 rfl fun k hk => ?_
  unfold b1
  simp! only [gc1 (is_int i) hk (by decide), decide_eq_true hi]
theorem over (s : List Nat) (hs : abl 3 s) (hl : s.length ≤ 1000) : Gs F 1 2 [W s, I 3] (.d (.bl true)) := over_b (F := F) (f := 2) rfl s hs hl
theorem is_over (s : List Nat) (hs : wd s) : Gs F 2 4 [W s, I 3] (.d (.bl true)) := by
  have hl := hs.2
  refine Sp.mk H4 rfl fun k hk => ?_
  unfold b4
  simp! only [gc2 (over s hs.1 (by omega)) hk (by decide)]
  exact congrArg (fun b => Val.d (.bl b)) (decide_eq_true (by omega))
theorem word_right (s : List Nat) (hs : wd s) : Gs F 3 3 [W s] (.d (.bl true)) := by
  refine Sp.mk H3 rfl fun k hk => ?_
  unfold b3
  simp! only [gc2 (is_over s hs) hk (by decide)]
theorem check_word (s : List Nat) (hs : wd s) : Gs F 4 7 [W s] (.d .non) := by
  refine Sp.mk H7 rfl fun k hk => ?_
  unfold b7
  simp! only [gc1 (word_right s hs) hk (by decide)]
theorem check_many (i : Int) (h1 : 0 ≤ i) (h2 : i ≤ 60) : Gs F 3 8 [I i] (.d .non) := by
  refine Sp.mk H8 rfl fun k hk => ?_
  unfold b8
  simp! only [gc1 (is_count i h1) hk (by decide), decide_eq_false (show ¬ 60 < i by omega)]
/-- a stream -/
structure stm (a t : List Nat) : Prop where
  ha : abl 3 a
  ht : abl 3 t
  la : a.length ≤ 200
  lt : t.length ≤ 200
  ne : t ≠ []
abbrev sg : List Nat := [115, 116, 114, 101, 97, 109]
abbrev Sm (a t : List Nat) : D := .tup [.str [115, 116, 114, 101, 97, 109], .str a, .str t]
theorem stream_right (a t : List Nat) (h : stm a t) : Gs F 2 6 [A (Sm a t)] (.d (.bl true)) := by
  obtain ⟨h1, h2, h3, h4, h5⟩ := h
  refine Sp.mk H6 rfl fun k hk => ?_
  unfold b6
  have o : okS ([115, 116, 114, 101, 97, 109] : List Nat) = true := by decide
  simp! only [o]
  refine cmp_map [a, t] .str (fun _ => .bl true) rfl rfl (show 2 ≤ 16777216 by decide) (fun s hs => ?_) ?_
  · have q : abl 3 s ∧ s.length ≤ 200 := by
      simp only [List.mem_cons, List.not_mem_nil, or_false] at hs
      rcases hs with rfl | rfl
      · exact ⟨h1, h3⟩
      · exact ⟨h2, h4⟩
    simp! only [gc2 (over s q.1 (by omega)) (show 1 ≤ k by omega) (by decide), decide_eq_true (show ((s.length : Nat) : Int) ≤ 200 by omega)]
  · simp! only [show Pu.b1 .all (D.lst [D.bl true, D.bl true]) = some (.d (.bl true)) from rfl, h2.ok (show 3 ≤ 1000 by decide), decide_eq_false h5]
    decide
theorem check_stream (a t : List Nat) (h : stm a t) : Gs F 3 9 [A (Sm a t)] (.d .non) := by
  refine Sp.mk H9 rfl fun k hk => ?_
  unfold b9
  simp! only [gc1 (stream_right a t h) hk (by decide)]
/-! ### where two words part -/
/-- how many first letters two words share -/
def cb : List Nat → List Nat → Nat
  | c :: u, d :: v => if c = d then cb u v + 1 else 0
  | _, _ => 0
theorem cb_le : ∀ u v : List Nat, cb u v ≤ u.length ∧ cb u v ≤ v.length
  | [], v => ⟨Nat.zero_le _, Nat.zero_le _⟩
  | c :: u, [] => ⟨Nat.zero_le _, Nat.zero_le _⟩
  | c :: u, d :: v => by
    have := cb_le u v
    unfold cb
    split
    · rw [List.length_cons, List.length_cons]; omega
    · exact ⟨Nat.zero_le _, Nat.zero_le _⟩
theorem cb_same : ∀ (u v : List Nat) (i : Nat), i < cb u v → u[i]? = v[i]?
  | [], v, i, h => by cases v <;> cases h
  | c :: u, [], i, h => by cases h
  | c :: u, d :: v, i, h => by
    unfold cb at h
    split at h
    · rename_i e
      cases i with
      | zero => rw [e]; rfl
      | succ i => rw [List.getElem?_cons_succ, List.getElem?_cons_succ]; exact cb_same u v i (by omega)
    · cases h
theorem cb_next : ∀ (u v : List Nat), cb u v < u.length → cb u v < v.length → u[cb u v]? ≠ v[cb u v]?
  | [], v, h, _ => by cases h
  | c :: u, [], _, h => by cases h
  | c :: u, d :: v, h1, h2 => by
    unfold cb at h1 h2 ⊢
    split at h1
    · rename_i e
      rw [if_pos e] at h2 ⊢
      rw [List.getElem?_cons_succ, List.getElem?_cons_succ]
      exact cb_next u v (by rw [List.length_cons] at h1; omega) (by rw [List.length_cons] at h2; omega)
    · rename_i e
      rw [if_neg e]
      intro q; exact e (Option.some.inj q)
theorem cb_of {u v : List Nat} {n : Nat} (h1 : n ≤ u.length) (h2 : n ≤ v.length) (h : ∀ i, i < n → u[i]? = v[i]?) (hn : n = u.length ∨ n = v.length ∨ u[n]? ≠ v[n]?) : cb u v = n := by
  rcases Nat.lt_trichotomy (cb u v) n with c | c | c
  · exact absurd (h _ c) (cb_next u v (by omega) (by omega))
  · exact c
  · have := cb_le u v
    rcases hn with q | q | q
    · omega
    · omega
    · exact absurd (cb_same u v n c) q
theorem min_n (a b : Nat) : (if (b : Int) < (a : Int) then (b : Int) else (a : Int)) = ((min a b : Nat) : Int) := by split <;> omega
theorem common_begin (u v : List Nat) (hu : abl 3 u) (hv : abl 3 v) (lu : u.length ≤ 400) (lv : v.length ≤ 400) : Gs F 1 10 [W u, W v] (.d (.int (cb u v : Nat))) := by
  refine Sp.mk H10 rfl fun k hk => ?_
  unfold b10
  simp! only []
  refine wh_inv (fun m ρ => ∃ n : Nat, m = 400 - n ∧ n ≤ u.length ∧ n ≤ v.length ∧ (∀ i, i < n → u[i]? = v[i]?) ∧ ρ = [W u, W v, I (n : Nat)]) 400 ⟨0, rfl, Nat.zero_le _, Nat.zero_le _, fun i hi => absurd hi (Nat.not_lt_zero i), rfl⟩ (by decide) ?_
  rintro m ρ ⟨n, rfl, n1, n2, hpre, rfl⟩
  simp! only [min_n u.length v.length]
  have out : (n = u.length ∨ n = v.length ∨ u[n]? ≠ v[n]?) → cb u v = n := fun q => cb_of n1 n2 hpre q
  refine wifd (fun h => ?_) (fun h => ?_)
  · have h1 : n < u.length := by omega
    have h2 : n < v.length := by omega
    have o1 : okS [u[n]] = true := by
      have := hu u[n] (List.getElem_mem h1)
      unfold okS; simp; omega
    have o2 : okS [v[n]] = true := by
      have := hv v[n] (List.getElem_mem h2)
      unfold okS; simp; omega
    simp! only [atI_nat h1, atI_nat h2, o1, o2]
    refine wifd (fun e => ?_) (fun e => ?_)
    · have e' : u[n]? = v[n]? := by
        rw [List.getElem?_eq_getElem h1, List.getElem?_eq_getElem h2]
        congr 1; simpa using e
      simp! only []
      refine ⟨400 - (n + 1), by omega, n + 1, rfl, h1, h2, fun i hi => ?_, rfl⟩
      by_cases q : i = n
      · rw [q]; exact e'
      · exact hpre i (by omega)
    · have ne : u[n]? ≠ v[n]? := by
        rw [List.getElem?_eq_getElem h1, List.getElem?_eq_getElem h2]
        intro q; exact e (by rw [Option.some.inj q])
      rw [out (.inr (.inr ne))]
      simp! only []
  · rw [out (by omega)]
    simp! only []
/-! ### stretches -/
theorem rng_cut (w : List Nat) (m : Nat) : ranged 0 ((w.length : Int) - (m : Int) + 1) = (List.range (w.length + 1 - m)).map fun (i : Nat) => .int (i : Int) := by
  by_cases c : m ≤ w.length + 1
  · rw [ranged_nat (N := w.length + 1 - m) (by omega)]
    refine List.map_congr_left fun i _ => ?_
    rw [Int.zero_add]
  · rw [ranged_nil (by omega), show w.length + 1 - m = 0 by omega]; rfl
theorem shortest_first (l : List (List Nat)) (n : Nat) (hl : l.length < 64) (hn : ∀ s ∈ l, s.length = n) : Gs F 1 5 [.lo (.ol (l.map fun s => .d (.str s)))] (.ol ((ss l).map fun s => .d (.str s))) := by
  have sl : (ss l).length < 64 := by rw [ss_len]; exact Nat.lt_of_le_of_lt (du_len l) hl
  refine Sp.mk H5 rfl fun k hk => ?_
  unfold b5
  simp! only []
  refine cmp_map l .str lnw rfl rfl (by show _ ≤ 16777216; omega) (fun s hs => ?_) ?_
  · simp! only []
    decide
  · simp! only [sset_lnw hn, sset_lnw_ok hl]
    refine cmp_map (ss l) lnw .str rfl rfl (by show _ ≤ 16777216; omega) (fun s hs => ?_) ?_
    · simp! only []
    · simp! only []
theorem stretches_of (w : List Nat) (hl : w.length ≤ 60) (m : Nat) (hm : m ≤ 70) : Gs F 2 11 [W w, I m] (.ol ((ss (stl w m)).map fun s => .d (.str s))) := by
  refine Sp.mk H11 rfl fun k hk => ?_
  unfold b11
  simp! only []
  refine ⟨ends62_of (by omega) (by omega), cmp_map (List.range (w.length + 1 - m)) (fun (i : Nat) => .int (i : Int)) (fun i => .str ((w.take (i + m)).drop i)) (rng_cut w m) rfl (by rw [List.length_range]; show _ ≤ 16777216; omega) (fun i hi => ?_) ?_⟩
  · simp! only []
  · have em : ((List.range (w.length + 1 - m)).map fun i => Val.d (.str ((w.take (i + m)).drop i))) = (stl w m).map fun s => .d (.str s) := by unfold stl; rw [List.map_map]; rfl
    rw [em]
    simp! only [vgcall (rs := [.v (.ol ((stl w m).map fun s => .d (.str s)))]) rfl (shortest_first (stl w m) m (by rw [stl_len]; omega) fun s hs => stl_m hs) hk (show 1 ≤ 1 by decide)]
theorem cutS {x : Option Out} {Q : Out → Prop} (I : Env → Prop) (h : Ok1 x fun o => ∃ ρ', o = .nx ρ' ∧ I ρ') (hQ : ∀ ρ', I ρ' → Q (.nx ρ')) : Ok1 x Q := by
  obtain ⟨o, e, ρ', rfl, hi⟩ := h
  exact ⟨_, e, hQ ρ' hi⟩
theorem stl_ws {w s : List Nat} {m : Nat} (hw : abl 3 w) (h : s ∈ stl w m) : abl 3 s := by
  obtain ⟨i, _, rfl⟩ := List.mem_map.mp h
  exact (hw.take _).drop _
theorem stretches (w : List Nat) (hw : wd w) (hl : w.length ≤ 60) (m : Nat) (hm : m ≤ 60) : Gs F 5 16 [W w, I m] (.ol ((ss (stl w m)).map fun s => .d (.str s))) := by
  refine Sp.mk H16 rfl fun k hk => ?_
  unfold b16
  simp! only [gc1 (check_word w hw) hk (by decide), gc1 (check_many (m : Int) (by omega) (by omega)) (show 3 ≤ k by omega) (by decide), gc2 (stretches_of w hl m (by omega)) (show 2 ≤ k by omega) (by decide)]
/-- how many -/
def cn (w : List Nat) (m : Nat) : Nat := (du (stl w m)).length
theorem stretch_counts (w : List Nat) (hw : wd w) (hl : w.length ≤ 60) : Gs F 5 17 [W w] (.ol ((List.range (w.length + 1)).map fun m => .d (.int (cn w m : Nat)))) := by
  refine Sp.mk H17 rfl fun k hk => ?_
  unfold b17
  simp! only [gc1 (check_word w hw) hk (by decide)]
  refine ⟨ends62_of (by omega) (by omega), cmp_map (List.range (w.length + 1)) (fun (i : Nat) => .int ((0 : Int) + (i : Int))) (fun m => .int (cn w m : Nat)) (ranged_nat (by omega)) rfl (by rw [List.length_range]; show _ ≤ 16777216; omega) (fun m hm => ?_) ?_⟩
  · rw [nc_0add]
    have hm := List.mem_range.mp hm
    simp! only []
    refine ⟨ends62_of (by omega) (by omega), cmp_map (List.range (w.length + 1 - m)) (fun (i : Nat) => .int (i : Int)) (fun i => .str ((w.take (i + m)).drop i)) (rng_cut w m) rfl (by rw [List.length_range]; show _ ≤ 16777216; omega) (fun i hi => ?_) ?_⟩
    · simp! only []
    · have em : ((List.range (w.length + 1 - m)).map fun i => D.str ((w.take (i + m)).drop i)) = (stl w m).map .str := by unfold stl; rw [List.map_map]; rfl
      simp! only [em, hash_strs (l := stl w m) (by rw [stl_len]; omega), dd_map str_inj, List.length_map]
      rfl
  · simp! only []
/-- the law's: each that is not there yet -/
theorem law_stretches (w : List Nat) (hw : abl 3 w) (hl : w.length ≤ 60) (m : Nat) (hm : m ≤ 70) : Gs F 1 28 [W w, I m] (.ol ((ss (stl w m)).map fun s => .d (.str s))) := by
  refine Sp.mk H28 rfl fun k hk => ?_
  unfold b28
  simp! only []
  refine ⟨by decide, ends62_of (by omega) (by omega), for_list (List.range (w.length + 1 - m)) (fun (i : Nat) => .int (i : Int)) (rng_cut w m) (fun pre ρ => ∃ (f : List (List Nat)) (s3 : Slot), f.Nodup ∧ (∀ x, x ∈ f ↔ ∃ i ∈ pre, (w.take (i + m)).drop i = x) ∧ f.length ≤ pre.length ∧ ρ = [W w, I m, .lo (.ol (f.map fun s => .d (.str s))), s3]) ⟨[], _, List.nodup_nil, fun x => by simp, Nat.le_refl _, rfl⟩ ?_ ?_⟩
  · rintro pre i post ρ hd ⟨f, s3, hn, hf, hfl, rfl⟩
    have hpl : pre.length ≤ 60 := by
      have := congrArg List.length hd
      rw [List.length_range, List.length_append, List.length_cons] at this; omega
    have hfw : ∀ x ∈ f, abl 3 x := fun x hx => by
      obtain ⟨j, _, rfl⟩ := (hf x).mp hx
      exact (hw.take _).drop _
    have hin : ∀ u, abl 3 u → ∀ {Q : Bool → Prop}, Ok1 (cmpop .nin (.str u) (.lst (f.map .str))) Q = Q (!decide (u ∈ f)) := fun u hu {Q} => by
      have e : cmpop .nin (.str u) (.lst (f.map .str)) = (if (D.ok (.str u) && D.ok (.lst (f.map .str))) = true then some ((f.map D.str).any fun y => D.eqv y (.str u)) else none).map (!·) := by
        rcases u with _ | ⟨c, _ | ⟨d, t⟩⟩ <;> rfl
      have e2 : ((f.map D.str).any fun y => D.eqv y (.str u)) = decide (u ∈ f) := by
        rw [Bool.eq_iff_iff, List.any_eq_true, decide_eq_true_eq]
        constructor
        · rintro ⟨z, hz, e⟩
          obtain ⟨v, hv, rfl⟩ := List.mem_map.mp hz
          have : v = u := by rw [show D.eqv (.str v) (.str u) = decide (v = u) from eqv_str] at e; exact of_decide_eq_true e
          exact this ▸ hv
        · intro h
          exact ⟨.str u, List.mem_map.mpr ⟨u, h, rfl⟩, by rw [show D.eqv (.str u) (.str u) = decide (u = u) from eqv_str]; exact decide_eq_true rfl⟩
      rw [e, ok_str, hu.ok (by decide), ok_nice (nice_strs (fun s hs => (hfw s hs).ok (by decide)) (by show _ ≤ 16777216; omega)) (Nat.le_trans rk_strs (by decide)), e2]
      exact ok1_some
    have hu : abl 3 ((w.take (i + m)).drop i) := (hw.take _).drop _
    simp! only [hin _ hu]
    refine wifn (fun h => ?_) (fun h => ?_)
    · simp! only []
      refine ⟨by rw [List.length_map]; show _ < 16777216; omega, f ++ [(w.take (i + m)).drop i], _, ?_, fun x => ?_, by rw [List.length_append, List.length_append]; show _ + 1 ≤ _ + 1; omega, by rw [List.map_append]; rfl⟩
      · rw [List.nodup_append]
        refine ⟨hn, List.pairwise_singleton _ _, fun a ha b hb q => ?_⟩
        rw [List.mem_singleton.mp hb] at q
        exact h (q ▸ ha)
      · rw [List.mem_append, List.mem_singleton, hf]
        constructor
        · rintro (⟨j, hj, e⟩ | e)
          · exact ⟨j, List.mem_append_left _ hj, e⟩
          · exact ⟨i, by simp, e.symm⟩
        · rintro ⟨j, hj, e⟩
          rw [List.mem_append, List.mem_singleton] at hj
          rcases hj with hj | rfl
          · exact .inl ⟨j, hj, e⟩
          · exact .inr e.symm
    · simp! only []
      refine ⟨f, _, hn, fun x => ?_, by rw [List.length_append]; omega, rfl⟩
      rw [hf]
      constructor
      · rintro ⟨j, hj, e⟩
        exact ⟨j, List.mem_append_left _ hj, e⟩
      · rintro ⟨j, hj, e⟩
        rw [List.mem_append, List.mem_singleton] at hj
        rcases hj with hj | rfl
        · exact ⟨j, hj, e⟩
        · have : (w.take (j + m)).drop j ∈ f := by simpa using h
          rw [e] at this
          exact (hf x).mp this
  · rintro ρ ⟨f, s3, hn, hf, hfl, rfl⟩
    have es : (f.map D.str).mergeSort dle = (ss (stl w m)).map .str := by
      rw [← ss_of hn (l := stl w m) (fun x => by
        rw [hf]; unfold stl; rw [List.mem_map])]
      rw [List.map_mergeSort]
      intro a _ b _
      exact (dle_str a b).symm
    have eo : ∀ {Q : Val → Prop}, Ok1 (Pu.b1 .sorted (.lst (f.map D.str))) Q = Q (.ol (((ss (stl w m)).map D.str).map .d)) := fun {Q} => by
      rw [o_sorted, sortable_strs, es]; simp
    simp! only [eo, List.map_map]
    rfl
/-! ### the least form -/
theorem find_first {p : Nat → Bool} {l pre post : List Nat} {d : Nat} (e : l = pre ++ d :: post) (hp : pre.find? p = none) : l.find? p = if p d then some d else post.find? p := by
  rw [e, List.find?_append, hp, List.find?_cons]
  cases p d <;> rfl
theorem good_pw {w : List Nat} {d : Nat} : good w d = (decide (w.length % d = 0) && decide (w = (List.replicate (w.length / d) (w.take d)).flatten)) := rfl
theorem rng_one (n : Nat) : ranged 1 ((n + 1 : Nat) : Int) = ((List.range n).map (1 + ·)).map fun (i : Nat) => .int (i : Int) := by
  rw [ranged_nat (N := n) (by omega), List.map_map]
  refine List.map_congr_left fun i _ => ?_
  show D.int (1 + (i : Int)) = D.int ((1 + i : Nat) : Int)
  congr 1
theorem root_round (w : List Nat) (hw : abl 3 w) (hl : w.length ≤ 200) (h0 : w ≠ []) : Gs F 1 12 [W w] (.d (.str (rt w))) := by
  have hn := List.length_pos_iff.mpr h0
  refine Sp.mk H12 rfl fun k hk => ?_
  unfold b12
  simp! only []
  refine ⟨by rw [Bool.and_eq_true]; exact ⟨by decide, ends62_of (by omega) (by omega)⟩, for_list ((List.range w.length).map (1 + ·)) (fun (i : Nat) => .int (i : Int)) (rng_one _) (fun pre ρ => pre.find? (good w) = none ∧ ∃ s2, ρ = [W w, s2]) ⟨rfl, _, rfl⟩ ?_ ?_⟩
  · rintro pre d post ρ hd ⟨hpre, s2, rfl⟩
    have hdm : d ∈ (List.range w.length).map (1 + ·) := by rw [hd]; simp
    obtain ⟨i, hi, rfl⟩ := List.mem_map.mp hdm
    have hi := List.mem_range.mp hi
    simp! only []
    refine ⟨by omega, wifd (fun h => ?_) (fun h => ?_)⟩
    · have hm : w.length % (1 + i) = 0 := by omega
      have tl : (w.take (1 + i)).length = 1 + i := by rw [List.length_take]; omega
      have dm := Nat.div_mul_cancel (Nat.dvd_of_mod_eq_zero hm)
      have dl := Nat.div_le_self w.length (1 + i)
      simp! only [((hw.take (1 + i)).rep (w.length / (1 + i))).ok (show 3 ≤ 1000 by decide), hw.ok (show 3 ≤ 1000 by decide)]
      generalize hkk : w.length / (1 + i) = kk at dm dl ⊢
      refine ⟨⟨by omega, by omega⟩, ⟨by rw [tl, Nat.mul_comm, dm]; show _ ≤ 16777216; omega, by omega, by omega⟩, wifd (fun h2 => ?_) (fun h2 => ?_)⟩
      · have hg : good w (1 + i) = true := by rw [good_pw, hkk, decide_eq_true hm, decide_eq_true h2.symm]; rfl
        have hs : sz w = 1 + i := by
          unfold sz
          rw [find_first hd hpre, if_pos hg]; rfl
        simp! only []
        unfold rt; rw [hs]
      · have hg : good w (1 + i) = false := by rw [good_pw, hkk, decide_eq_false (p := w = _) (fun q => h2 q.symm), Bool.and_false]
        simp! only []
        refine ⟨?_, _, rfl⟩
        rw [List.find?_append, hpre, List.find?_cons, hg]; rfl
    · have hm : ¬ w.length % (1 + i) = 0 := by omega
      have hg : good w (1 + i) = false := by rw [good_pw, decide_eq_false hm, Bool.false_and]
      simp! only []
      refine ⟨?_, _, rfl⟩
      rw [List.find?_append, hpre, List.find?_cons, hg]; rfl
  · rintro ρ ⟨hall, s2, rfl⟩
    exfalso
    have := List.find?_eq_none.mp hall w.length (List.mem_map.mpr ⟨w.length - 1, List.mem_range.mpr (by omega), by omega⟩)
    exact this (good_all h0)
end Lawk12
namespace Lawk12
open Pu
local macro_rules | `(tactic| simp! only [$ls,*]) => `(tactic| simp -implicitDefEqProofs -dsimp only [flat_app, datas_app, ↓we_fzF, ↓fz_v, ↓fz_rd, ↓fz_pk, ↓fzs_ol, ↓fzs_s, ↓fzs_0, we_fzF, fz_v, fz_rd, fz_pk, fzs_ol, fzs_s, fzs_0, isD_d, isD_map, isD_map1, ↓ws_each, ws_each, appV_ol, shortOl_ol, ↓bd_len, ↓bd_abs, ↓bd_sum, ↓bd_all, ↓bd_any, ↓bd_int, ↓bd_list, ↓bd_tuple, ↓bd_repr, ↓bd_max, ↓bd_min, ↓bd_sorted, ↓bd_bool, bd_len, bd_abs, bd_sum, bd_all, bd_any, bd_int, bd_list, bd_tuple, bd_repr, bd_max, bd_min, bd_sorted, bd_bool, ↓o_eq_bl, ↓o_ne_bl, o_eq_bl, o_ne_bl, bne_self_eq_false, beq_self_eq_true, Bool.bne_false, Bool.bne_true, ↓okSl_d, ↓okSl_ol, ↓okSl_rd, ↓okLo_lo, ↓ok_dat_d, ↓ok_dat_ol, ↓ok_dat_pk, ↓ok_dat_rd, ↓ok_fdat_d, ↓ok_fdat_ol, ↓ok_fdat_pk, ↓ok_gdat_d, ↓ok_gdat_ol, ↓ok_gdat_pk, ↓ok_gdat_rd, ↓ok_ndat_d, ↓ok_ndat_ol, ↓ok_ndat_pk, ↓ok_esc_v, ↓ok_esc_pk, ↓ok_mov_v, ↓ok_srcD_d, ↓ok_srcD_ol, ↓ok_srcD_pk, ↓ok_srcD_rd, ↓ok_srcs_nil, ↓ok_srcs_cons, ↓ok_escs_nil, ↓ok_escs_cons, ↓we_var, ↓we_cst, ↓we_bin, ↓wneg_int, ↓we_neg, ↓wbl_bl, ↓we_not, ↓we_and, ↓we_or, ↓we_cmp, ↓we_chn, ↓we_ite, ↓we_idx, ↓we_sl, ↓we_rev, ↓we_tup, ↓we_lst, ↓we_turn, ↓we_isi, ↓we_b1, ↓we_b2, ↓wint_int, ↓we_ono, ↓we_oso, ↓we_nil, ↓we_cons, ↓wt_yes, ↓wt_tr, ↓wt_no, ↓wt_an, ↓wt_or, ↓sq_nx, ↓sq_rt, ↓sq_bk, ↓sq_ct, ↓ws_seq, ↓ws_set, ↓ws_movs_nil, ↓ws_movs_cons, ↓ws_asgs_nil, ↓ws_asgs_cons, ↓ws_setT, ↓ws_unp, ↓ws_ex, ↓ws_ite, ↓ws_ret, ↓ws_retN, ↓ws_pass, ↓ws_brk, ↓ws_cont, ↓wol_ol, ↓ws_app, ↓ws_for, ↓ws_whl, ↓wlst_lst, ↓ws_ext, ↓wa_nm, ↓wa_tp, ↓wa_nil, ↓wa_cons, ↓wa_ix, ↓o_add_int, ↓o_add_str, ↓o_add_lst, ↓o_add_tup, ↓o_sub, ↓o_mul_int, ↓o_mul_str, ↓o_mul_lst, ↓o_fdiv, ↓o_mod, ↓o_pow, ↓o_eq_int, ↓o_ne_int, ↓o_eq_str, ↓o_ne_str, ↓o_lt_int, ↓o_le_int, ↓o_gt_int, ↓o_ge_int, ↓o_lt_str, ↓o_le_str, ↓o_gt_str, ↓o_ge_str, ↓o_in_str, ↓o_nin_str, ↓o_is_non, ↓o_isn_non, ↓o_is_bl, ↓o_isn_bl, ↓o_idx_lst, ↓o_idx_tup, ↓o_idx_str, ↓o_sl_str, ↓o_sl_lst, ↓o_sl_tup, ↓o_rev_str, ↓o_rev_lst, ↓o_len_str, ↓o_len_lst, ↓o_len_tup, ↓o_abs, ↓o_int_int, ↓o_int_bl, ↓o_bool_int, ↓o_list_lst, ↓o_list_tup, ↓o_list_str, ↓o_sorted_str, ↓mkd_str, ↓mkd_lst, ↓o_ix_str, ↓o_ix_lst, ↓o_sw, ↓o_ew, ↓wda_d, ↓ws_aug, ↓o_aug_add, ↓o_aug_sub, ↓o_maxd, ↓ws_appAt, ↓wol2_ol, ↓o_enzip, ↓we_met, ↓o_tuple_lst, ↓o_tuple_tup, ↓o_repr, ↓o_all, ↓o_any, ↓o_sum, ↓o_max, ↓o_min, ↓o_max2, ↓o_min2, ↓o_divmod, ↓o_join, ↓o_seq_lst, ↓o_seq_tup, ↓o_seq_str, ↓o_rng1, ↓o_rng2, ↓o_zip_lst, ↓o_zip_tup, ↓o_enum, ↓o_gcd, ↓o_sset, ↓o_ssetT, ↓o_lset, ↓o_lsetT, ↓o_sw3, ↓we_bs, ↓we_sw3, ↓we_pop, ↓we_dlk, ↓we_lrng, ↓wid_int, isD_ol, ↓o_revl, ↓sl_s, ↓sl_0, ↓lo_s, ↓lo_0, ↓ok_asgM, ↓ok_movM, ↓we_callM, ↓we_callkM, ↓ok_pickR, ↓fin_rt, ↓fin_nx, ↓lp_nx, ↓lp_ct, ↓lp_bk, ↓lp_rt, ↓we_compC, okSl_d, okSl_ol, okSl_rd, okLo_lo, ok_dat_d, ok_dat_ol, ok_dat_pk, ok_dat_rd, ok_fdat_d, ok_fdat_ol, ok_fdat_pk, ok_gdat_d, ok_gdat_ol, ok_gdat_pk, ok_gdat_rd, ok_ndat_d, ok_ndat_ol, ok_ndat_pk, ok_esc_v, ok_esc_pk, ok_mov_v, ok_srcD_d, ok_srcD_ol, ok_srcD_pk, ok_srcD_rd, ok_srcs_nil, ok_srcs_cons, ok_escs_nil, ok_escs_cons, we_var, we_cst, we_bin, wneg_int, we_neg, wbl_bl, we_not, we_and, we_or, we_cmp, we_chn, we_ite, we_idx, we_sl, we_rev, we_tup, we_lst, we_turn, we_isi, we_b1, we_b2, wint_int, we_ono, we_oso, we_nil, we_cons, wt_yes, wt_tr, wt_no, wt_an, wt_or, sq_nx, sq_rt, sq_bk, sq_ct, ws_seq, ws_set, ws_movs_nil, ws_movs_cons, ws_asgs_nil, ws_asgs_cons, ws_setT, ws_unp, ws_ex, ws_ite, ws_ret, ws_retN, ws_pass, ws_brk, ws_cont, wol_ol, ws_app, ws_for, ws_whl, wlst_lst, ws_ext, wa_nm, wa_tp, wa_nil, wa_cons, wa_ix, o_add_int, o_add_str, o_add_lst, o_add_tup, o_sub, o_mul_int, o_mul_str, o_mul_lst, o_fdiv, o_mod, o_pow, o_eq_int, o_ne_int, o_eq_str, o_ne_str, o_lt_int, o_le_int, o_gt_int, o_ge_int, o_lt_str, o_le_str, o_gt_str, o_ge_str, o_in_str, o_nin_str, o_is_non, o_isn_non, o_is_bl, o_isn_bl, o_idx_lst, o_idx_tup, o_idx_str, o_sl_str, o_sl_lst, o_sl_tup, o_rev_str, o_rev_lst, o_len_str, o_len_lst, o_len_tup, o_abs, o_int_int, o_int_bl, o_bool_int, o_list_lst, o_list_tup, o_list_str, o_sorted_str, mkd_str, mkd_lst, o_ix_str, o_ix_lst, o_sw, o_ew, wda_d, ws_aug, o_aug_add, o_aug_sub, o_maxd, ws_appAt, wol2_ol, o_enzip, we_met, o_tuple_lst, o_tuple_tup, o_repr, o_all, o_any, o_sum, o_max, o_min, o_max2, o_min2, o_divmod, o_join, o_seq_lst, o_seq_tup, o_seq_str, o_rng1, o_rng2, o_zip_lst, o_zip_tup, o_enum, o_revl, sl_s, sl_0, lo_s, lo_0, ok_asgM, ok_movM, we_callM, we_callkM, ok_pickR, fin_rt, fin_nx, lp_nx, lp_ct, lp_bk, lp_rt, we_compC, ok1_some, ok2_some, if_true', if_false', data_d, data_ol, datas_nil, datas_cons, datas_mapd, datas_map1, flat_d, flat_nil, flat_cons, flat_mapd, flat_map1, truth_bl', truth_int, truth_str, truth_lst, truth_tup, truth_non, notOl_d', notOl_pk, fzR_v, fzR_rd, isNon_non, isNon_int, isNon_str, isNon_lst, isNon_tup, isNon_bl, hasTy, List.set_cons_zero, List.set_cons_succ, List.getD_cons_zero, List.getD_cons_succ, List.getD_nil, List.length_cons, List.length_nil, List.map_nil, List.map_cons, List.append_nil, List.nil_append, List.cons_append, List.take_succ_cons, List.take_zero, List.any_cons, List.any_nil, List.all_cons, List.all_nil, Bool.or_false, Bool.or_true, Bool.and_true, Bool.true_and, Bool.false_and, Bool.and_false, Bool.false_or, Bool.true_or, Bool.not_true, Bool.not_false, Bool.not_not, true_and, and_true, Nat.reduceAdd, Nat.reduceLT, Nat.reduceLeDiff, Nat.reduceEqDiff, Nat.zero_lt_succ, decide_true, decide_false, ne_eq, not_false_eq_true, Int.toNat_natCast, Int.reduceToNat, reduceCtorEq, pickL, List.filterMap_cons, List.filterMap_nil, if_true, if_false, Bool.false_eq_true, Int.cast_ofNat_Int, nc_add, nc_add1, nc_1add, nc_0add, nc_mul, nc_2mul, nc_mul2, nc_fdiv2, fmod_nat, fdiv_nat, cut_to, cut_from, cut_last, cut_ft, cut_all, cut_to_0, cut_to_1, cut_to_2, cut_to_3, cut_to_4, cut_from_1, cut_from_2, cut_from_3, wipe, unwipe, List.getElem?_cons_zero, List.getElem?_cons_succ, Option.getD_some, Int.reduceEq, Int.reduceLT, Int.reduceLE, Int.reducePow, Int.reduceNeg, Int.reduceAdd, Int.reduceSub, Int.reduceMul, atI_0, atI_1, atI_2, ixN_0, ixN_1, eq_self, and_self, Nat.reduceSub, List.replicate_zero, List.reduceReplicate, $ls,*])
local macro_rules | `(tactic| simpa! only [$ls,*]) => `(tactic| simp -implicitDefEqProofs -dsimp only [flat_app, datas_app, ↓we_fzF, ↓fz_v, ↓fz_rd, ↓fz_pk, ↓fzs_ol, ↓fzs_s, ↓fzs_0, we_fzF, fz_v, fz_rd, fz_pk, fzs_ol, fzs_s, fzs_0, isD_d, isD_map, isD_map1, ↓ws_each, ws_each, appV_ol, shortOl_ol, ↓bd_len, ↓bd_abs, ↓bd_sum, ↓bd_all, ↓bd_any, ↓bd_int, ↓bd_list, ↓bd_tuple, ↓bd_repr, ↓bd_max, ↓bd_min, ↓bd_sorted, ↓bd_bool, bd_len, bd_abs, bd_sum, bd_all, bd_any, bd_int, bd_list, bd_tuple, bd_repr, bd_max, bd_min, bd_sorted, bd_bool, ↓o_eq_bl, ↓o_ne_bl, o_eq_bl, o_ne_bl, bne_self_eq_false, beq_self_eq_true, Bool.bne_false, Bool.bne_true, ↓okSl_d, ↓okSl_ol, ↓okSl_rd, ↓okLo_lo, ↓ok_dat_d, ↓ok_dat_ol, ↓ok_dat_pk, ↓ok_dat_rd, ↓ok_fdat_d, ↓ok_fdat_ol, ↓ok_fdat_pk, ↓ok_gdat_d, ↓ok_gdat_ol, ↓ok_gdat_pk, ↓ok_gdat_rd, ↓ok_ndat_d, ↓ok_ndat_ol, ↓ok_ndat_pk, ↓ok_esc_v, ↓ok_esc_pk, ↓ok_mov_v, ↓ok_srcD_d, ↓ok_srcD_ol, ↓ok_srcD_pk, ↓ok_srcD_rd, ↓ok_srcs_nil, ↓ok_srcs_cons, ↓ok_escs_nil, ↓ok_escs_cons, ↓we_var, ↓we_cst, ↓we_bin, ↓wneg_int, ↓we_neg, ↓wbl_bl, ↓we_not, ↓we_cmp, ↓we_chn, ↓we_idx, ↓we_sl, ↓we_rev, ↓we_tup, ↓we_lst, ↓we_turn, ↓we_isi, ↓we_b1, ↓we_b2, ↓wint_int, ↓we_ono, ↓we_oso, ↓we_nil, ↓we_cons, ↓wt_yes, ↓wt_tr, ↓wt_no, ↓wt_an, ↓wt_or, ↓sq_nx, ↓sq_rt, ↓sq_bk, ↓sq_ct, ↓ws_seq, ↓ws_set, ↓ws_movs_nil, ↓ws_movs_cons, ↓ws_asgs_nil, ↓ws_asgs_cons, ↓ws_setT, ↓ws_unp, ↓ws_ex, ↓ws_ite, ↓ws_ret, ↓ws_retN, ↓ws_pass, ↓ws_brk, ↓ws_cont, ↓wol_ol, ↓ws_app, ↓ws_for, ↓ws_whl, ↓wlst_lst, ↓ws_ext, ↓wa_nm, ↓wa_tp, ↓wa_nil, ↓wa_cons, ↓wa_ix, ↓o_add_int, ↓o_add_str, ↓o_add_lst, ↓o_add_tup, ↓o_sub, ↓o_mul_int, ↓o_mul_str, ↓o_mul_lst, ↓o_fdiv, ↓o_mod, ↓o_pow, ↓o_eq_int, ↓o_ne_int, ↓o_eq_str, ↓o_ne_str, ↓o_lt_int, ↓o_le_int, ↓o_gt_int, ↓o_ge_int, ↓o_lt_str, ↓o_le_str, ↓o_gt_str, ↓o_ge_str, ↓o_in_str, ↓o_nin_str, ↓o_is_non, ↓o_isn_non, ↓o_is_bl, ↓o_isn_bl, ↓o_idx_lst, ↓o_idx_tup, ↓o_idx_str, ↓o_sl_str, ↓o_sl_lst, ↓o_sl_tup, ↓o_rev_str, ↓o_rev_lst, ↓o_len_str, ↓o_len_lst, ↓o_len_tup, ↓o_abs, ↓o_int_int, ↓o_int_bl, ↓o_bool_int, ↓o_list_lst, ↓o_list_tup, ↓o_list_str, ↓o_sorted_str, ↓mkd_str, ↓mkd_lst, ↓o_ix_str, ↓o_ix_lst, ↓o_sw, ↓o_ew, ↓wda_d, ↓ws_aug, ↓o_aug_add, ↓o_aug_sub, ↓o_maxd, ↓ws_appAt, ↓wol2_ol, ↓o_enzip, ↓we_met, ↓o_tuple_lst, ↓o_tuple_tup, ↓o_repr, ↓o_all, ↓o_any, ↓o_sum, ↓o_max, ↓o_min, ↓o_max2, ↓o_min2, ↓o_divmod, ↓o_join, ↓o_seq_lst, ↓o_seq_tup, ↓o_seq_str, ↓o_rng1, ↓o_rng2, ↓o_zip_lst, ↓o_zip_tup, ↓o_enum, ↓o_gcd, ↓o_sset, ↓o_ssetT, ↓o_lset, ↓o_lsetT, ↓o_sw3, ↓we_bs, ↓we_sw3, ↓we_pop, ↓we_dlk, ↓we_lrng, ↓wid_int, isD_ol, ↓o_revl, ↓sl_s, ↓sl_0, ↓lo_s, ↓lo_0, ↓ok_asgM, ↓ok_movM, ↓we_callM, ↓we_callkM, ↓ok_pickR, ↓fin_rt, ↓fin_nx, ↓lp_nx, ↓lp_ct, ↓lp_bk, ↓lp_rt, ↓we_compC, okSl_d, okSl_ol, okSl_rd, okLo_lo, ok_dat_d, ok_dat_ol, ok_dat_pk, ok_dat_rd, ok_fdat_d, ok_fdat_ol, ok_fdat_pk, ok_gdat_d, ok_gdat_ol, ok_gdat_pk, ok_gdat_rd, ok_ndat_d, ok_ndat_ol, ok_ndat_pk, ok_esc_v, ok_esc_pk, ok_mov_v, ok_srcD_d, ok_srcD_ol, ok_srcD_pk, ok_srcD_rd, ok_srcs_nil, ok_srcs_cons, ok_escs_nil, ok_escs_cons, we_var, we_cst, we_bin, wneg_int, we_neg, wbl_bl, we_not, we_cmp, we_chn, we_idx, we_sl, we_rev, we_tup, we_lst, we_turn, we_isi, we_b1, we_b2, wint_int, we_ono, we_oso, we_nil, we_cons, wt_yes, wt_tr, wt_no, wt_an, wt_or, sq_nx, sq_rt, sq_bk, sq_ct, ws_seq, ws_set, ws_movs_nil, ws_movs_cons, ws_asgs_nil, ws_asgs_cons, ws_setT, ws_unp, ws_ex, ws_ite, ws_ret, ws_retN, ws_pass, ws_brk, ws_cont, wol_ol, ws_app, ws_for, ws_whl, wlst_lst, ws_ext, wa_nm, wa_tp, wa_nil, wa_cons, wa_ix, o_add_int, o_add_str, o_add_lst, o_add_tup, o_sub, o_mul_int, o_mul_str, o_mul_lst, o_fdiv, o_mod, o_pow, o_eq_int, o_ne_int, o_eq_str, o_ne_str, o_lt_int, o_le_int, o_gt_int, o_ge_int, o_lt_str, o_le_str, o_gt_str, o_ge_str, o_in_str, o_nin_str, o_is_non, o_isn_non, o_is_bl, o_isn_bl, o_idx_lst, o_idx_tup, o_idx_str, o_sl_str, o_sl_lst, o_sl_tup, o_rev_str, o_rev_lst, o_len_str, o_len_lst, o_len_tup, o_abs, o_int_int, o_int_bl, o_bool_int, o_list_lst, o_list_tup, o_list_str, o_sorted_str, mkd_str, mkd_lst, o_ix_str, o_ix_lst, o_sw, o_ew, wda_d, ws_aug, o_aug_add, o_aug_sub, o_maxd, ws_appAt, wol2_ol, o_enzip, we_met, o_tuple_lst, o_tuple_tup, o_repr, o_all, o_any, o_sum, o_max, o_min, o_max2, o_min2, o_divmod, o_join, o_seq_lst, o_seq_tup, o_seq_str, o_rng1, o_rng2, o_zip_lst, o_zip_tup, o_enum, o_revl, sl_s, sl_0, lo_s, lo_0, ok_asgM, ok_movM, we_callM, we_callkM, ok_pickR, fin_rt, fin_nx, lp_nx, lp_ct, lp_bk, lp_rt, we_compC, ok1_some, ok2_some, if_true', if_false', data_d, data_ol, datas_nil, datas_cons, datas_mapd, datas_map1, flat_d, flat_nil, flat_cons, flat_mapd, flat_map1, truth_bl', truth_int, truth_str, truth_lst, truth_tup, truth_non, notOl_d', notOl_pk, fzR_v, fzR_rd, isNon_non, isNon_int, isNon_str, isNon_lst, isNon_tup, isNon_bl, hasTy, List.set_cons_zero, List.set_cons_succ, List.getD_cons_zero, List.getD_cons_succ, List.getD_nil, List.length_cons, List.length_nil, List.map_nil, List.map_cons, List.append_nil, List.nil_append, List.cons_append, List.take_succ_cons, List.take_zero, List.any_cons, List.any_nil, List.all_cons, List.all_nil, Bool.or_false, Bool.or_true, Bool.and_true, Bool.true_and, Bool.false_and, Bool.and_false, Bool.false_or, Bool.true_or, Bool.not_true, Bool.not_false, Bool.not_not, true_and, and_true, Nat.reduceAdd, Nat.reduceLT, Nat.reduceLeDiff, Nat.reduceEqDiff, Nat.zero_lt_succ, decide_true, decide_false, ne_eq, not_false_eq_true, Int.toNat_natCast, Int.reduceToNat, reduceCtorEq, pickL, List.filterMap_cons, List.filterMap_nil, if_true, if_false, Bool.false_eq_true, Int.cast_ofNat_Int, nc_add, nc_add1, nc_1add, nc_0add, nc_mul, nc_2mul, nc_mul2, nc_fdiv2, fmod_nat, fdiv_nat, cut_to, cut_from, cut_last, cut_ft, cut_all, cut_to_0, cut_to_1, cut_to_2, cut_to_3, cut_to_4, cut_from_1, cut_from_2, cut_from_3, wipe, unwipe, List.getElem?_cons_zero, List.getElem?_cons_succ, Option.getD_some, Int.reduceEq, Int.reduceLT, Int.reduceLE, Int.reducePow, Int.reduceNeg, Int.reduceAdd, Int.reduceSub, Int.reduceMul, atI_0, atI_1, atI_2, ixN_0, ixN_1, eq_self, and_self, Nat.reduceSub, List.replicate_zero, List.reduceReplicate, $ls,*])
open Pu.P (wneg wbl wint wol wlst sq turnC Mk)
open Pu.Bo (wd okw fl_of over_b overB)
open Pu.Fw Pu.Tn Pu.Stm
theorem lo_stm {a t : List Nat} (h : stm a t) : stm (lo a t).1 (lo a t).2 := by
  obtain ⟨i1, i2, i3, i4, i5⟩ := lo_spec (a := a) h.ne
  have hab : ∀ d ∈ a ++ t, 97 ≤ d ∧ d < 97 + 3 := fun d hd => (List.mem_append.mp hd).elim (h.ha d) (h.ht d)
  exact ⟨fun d hd => hab d (i5 d (List.mem_append_left _ hd)), fun d hd => hab d (i5 d (List.mem_append_right _ hd)), Nat.le_trans i3 h.la, Nat.le_trans i4 h.lt, i2.ne⟩
theorem ok1c {c : Nat} (h : 97 ≤ c ∧ c < 97 + 3) : okS [c] = true := by unfold okS; simp; omega
theorem last_of {y : List Nat} (h : y ≠ []) : ∃ y' d, y = y' ++ [d] := ⟨y.dropLast, y.getLast h, (List.dropLast_concat_getLast h).symm⟩
theorem at_last {y : List Nat} {d : Nat} : L2.atI (y ++ [d]) (-1) = some d := by
  rw [atI_last (by simp)]; simp
theorem rdr_yes {c : Nat} {x y : List Nat} : rdr (c :: x) (y ++ [c]) = rdr x (c :: y) := by
  rw [rdr, if_pos (by simp), List.dropLast_concat]
theorem rdr_no {c d : Nat} {x y : List Nat} (h : c ≠ d) : rdr (c :: x) (y ++ [d]) = (c :: x, y ++ [d]) := by
  rw [rdr, if_neg (by simp; exact fun q => h q.symm)]
theorem least_of (a t : List Nat) (h : stm a t) : Gs F 2 13 [A (Sm a t)] (.d (Sm (lo a t).1 (lo a t).2)) := by
  obtain ⟨ha, ht, la, lt, ne⟩ := h
  refine Sp.mk H13 rfl fun k hk => ?_
  unfold b13
  simp! only [gc1 (root_round t ht lt ne) hk (by decide)]
  refine wh_inv (fun m ρ => ∃ x y, m = x.length ∧ rdr x y = rdr a.reverse (rt t) ∧ abl 3 x ∧ abl 3 y ∧ y ≠ [] ∧ x.length ≤ 200 ∧ y.length ≤ 200 ∧ ρ = [A (Sm a t), W x.reverse, W y]) a.length ⟨a.reverse, rt t, by rw [List.length_reverse], rfl, ha.rev, ht.take _, rt_ne ne, by rw [List.length_reverse]; exact la, by have := (sz_spec ne).2.1; rw [rt_len ne]; omega, by rw [List.reverse_reverse]⟩ (by omega) ?_
  rintro m ρ ⟨x, y, rfl, hr, hx, hy, hne, lx, ly, rfl⟩
  have fin_ : rdr x y = (x, y) → (Sm x.reverse y) = Sm (lo a t).1 (lo a t).2 := fun q => by unfold lo; rw [← hr, q]
  cases x with
  | nil =>
    simp! only [show okS ([] : List Nat) = true from rfl, List.reverse_nil]
    refine ⟨by decide, ?_⟩
    exact congrArg Val.d (fin_ rfl)
  | cons c x =>
    obtain ⟨y, d, rfl⟩ := last_of hne
    have hc := ok1c (hx c (List.mem_cons_self ..))
    have hd := ok1c (hy d (by simp))
    have hxr : okS (x.reverse ++ [c]) = true := by
      have := hx.rev.ok (show 3 ≤ 1000 by decide)
      rwa [List.reverse_cons] at this
    have nn : decide (x.reverse ++ [c] = []) = false := decide_eq_false (by simp)
    simp! only [List.reverse_cons, hxr, nn, at_last, hc, hd, List.dropLast_concat]
    refine ⟨by decide, wifd (fun e => ?_) (fun e => ?_)⟩
    · obtain rfl : c = d := by simpa using e
      have lx' : x.length + 1 ≤ 200 := lx
      have ly' : y.length + 1 ≤ 200 := by rw [List.length_append] at ly; exact ly
      simp! only [List.reverse_cons, at_last, List.dropLast_concat]
      refine ⟨by show 1 + _ ≤ 16777216; omega, x.length, Nat.lt_succ_self _, x, c :: y, rfl, by rw [← hr, rdr_yes], fun d hd => hx d (List.mem_cons_of_mem _ hd), fun d hd => ?_, by simp, by omega, ly', rfl⟩
      rcases List.mem_cons.mp hd with rfl | hd
      · exact hx _ (List.mem_cons_self ..)
      · exact hy d (List.mem_append_left _ hd)
    · have e' : c ≠ d := fun q => e (by rw [q])
      simp! only []
      refine ⟨by decide, ?_⟩
      exact congrArg Val.d (fin_ (rdr_no e'))
theorem law_least (a t : List Nat) (h : stm a t) : Gs F 1 31 [A (Sm a t)] (.d (Sm (lo a t).1 (lo a t).2)) := by
  obtain ⟨ha, ht, la, lt, ne⟩ := h
  have hn := List.length_pos_iff.mpr ne
  refine Sp.mk H31 rfl fun k hk => ?_
  unfold b31
  simp! only []
  refine ⟨by rw [Bool.and_eq_true]; exact ⟨by decide, ends62_of (by omega) (by omega)⟩, cutS (fun ρ => ∃ s3, ρ = [A (Sm a t), W a, W (rt t), s3, .un]) (for_list ((List.range t.length).map (1 + ·)) (fun (i : Nat) => .int (i : Int)) (rng_one _) (fun pre ρ => pre.find? (good t) = none ∧ ∃ s3, ρ = [A (Sm a t), W a, W t, s3, .un]) ⟨rfl, _, rfl⟩ ?_ ?_) ?_⟩
  · rintro pre d post ρ hd ⟨hpre, s3, rfl⟩
    have hdm : d ∈ (List.range t.length).map (1 + ·) := by rw [hd]; simp
    obtain ⟨i, hi, rfl⟩ := List.mem_map.mp hdm
    have hi := List.mem_range.mp hi
    have dl := Nat.div_mul_le_self t.length (1 + i)
    have d2 := Nat.div_le_self t.length (1 + i)
    have tl : (t.take (1 + i)).length = 1 + i := by rw [List.length_take]; omega
    simp! only [((ht.take (1 + i)).rep (t.length / (1 + i))).ok (show 3 ≤ 1000 by decide), ht.ok (show 3 ≤ 1000 by decide)]
    generalize hkk : t.length / (1 + i) = kk at dl d2 ⊢
    refine ⟨⟨by omega, by omega⟩, ⟨by rw [tl, Nat.mul_comm]; show _ ≤ 16777216; omega, by omega, by omega⟩, wifd (fun h2 => ?_) (fun h2 => ?_)⟩
    · have hm : t.length % (1 + i) = 0 := by
        have e := congrArg List.length h2
        rw [show (List.replicate kk (t.take (1 + i))).flatten = pw (t.take (1 + i)) kk from rfl, pw_len, tl] at e
        rw [← e]; exact Nat.mul_mod_left _ _
      have hg : good t (1 + i) = true := by rw [good_pw, hkk, decide_eq_true hm, decide_eq_true h2.symm]; rfl
      have hs : sz t = 1 + i := by
        unfold sz
        rw [find_first hd hpre, if_pos hg]; rfl
      simp! only []
      exact ⟨_, by unfold rt; rw [hs], _, rfl⟩
    · have hg : good t (1 + i) = false := by rw [good_pw, hkk, decide_eq_false (p := t = _) (fun q => h2 q.symm), Bool.and_false]
      simp! only []
      refine ⟨?_, _, rfl⟩
      rw [List.find?_append, hpre, List.find?_cons, hg]; rfl
  · rintro ρ ⟨hall, s2, rfl⟩
    exfalso
    have := List.find?_eq_none.mp hall t.length (List.mem_map.mpr ⟨t.length - 1, List.mem_range.mpr (by omega), by omega⟩)
    exact this (good_all ne)
  rintro ρ ⟨s3, rfl⟩
  simp! only []
  refine ⟨ends62_of (by omega) (by omega), for_rng a.length (by omega) (fun i ρ => ∃ x y s4, x.length + i = a.length ∧ rdr x y = rdr a.reverse (rt t) ∧ abl 3 x ∧ abl 3 y ∧ y ≠ [] ∧ y.length ≤ 200 ∧ ρ = [A (Sm a t), W x.reverse, W y, s3, s4]) ⟨a.reverse, rt t, _, by rw [List.length_reverse]; omega, rfl, ha.rev, ht.take _, rt_ne ne, by have := (sz_spec ne).2.1; rw [rt_len ne]; omega, by rw [List.reverse_reverse]⟩ ?_ ?_⟩
  · rintro i hi ρ ⟨x, y, s4, hxl, hr, hx, hy, hne, ly, rfl⟩
    cases x with
    | nil => rw [List.length_nil] at hxl; omega
    | cons c x =>
      obtain ⟨y, d, rfl⟩ := last_of hne
      have hc := ok1c (hx c (List.mem_cons_self ..))
      have hd := ok1c (hy d (by simp))
      simp! only [List.reverse_cons, at_last, hc, hd]
      refine wifd (fun e => ?_) (fun e => ?_)
      · obtain rfl : c = d := by simpa using e
        have ly' : y.length + 1 ≤ 200 := by rw [List.length_append] at ly; exact ly
        simp! only [List.reverse_cons, at_last, List.dropLast_concat]
        refine ⟨by show 1 + _ ≤ 16777216; omega, x, c :: y, _, by rw [List.length_cons] at hxl; omega, by rw [← hr, rdr_yes], fun d hd => hx d (List.mem_cons_of_mem _ hd), fun d hd => ?_, by simp, ly', rfl⟩
        rcases List.mem_cons.mp hd with rfl | hd
        · exact hx _ (List.mem_cons_self ..)
        · exact hy d (List.mem_append_left _ hd)
      · have e' : c ≠ d := fun q => e (by rw [q])
        simp! only []
        refine ⟨by decide, ?_⟩
        refine congrArg Val.d ?_
        unfold lo
        rw [← hr, rdr_no e']
  · rintro ρ ⟨x, y, s4, hxl, hr, hx, hy, hne, ly, rfl⟩
    obtain rfl : x = [] := List.length_eq_zero_iff.mp (by omega)
    simp! only []
    refine ⟨by decide, ?_⟩
    refine congrArg Val.d ?_
    unfold lo
    rw [← hr]; rfl
/-! ### first letters -/
theorem pre_ok {a t : List Nat} {n : Nat} (h : stm a t) : abl 3 (pre a t n) := (h.ha.app (h.ht.rep (n + 1))).take n
theorem first_letters (a t : List Nat) (h : stm a t) (n : Nat) (hn : n ≤ 1000) : Gs F 1 14 [A (Sm a t), I n] (.d (.str (pre a t n))) := by
  obtain ⟨ha, ht, la, lt, ne⟩ := h
  have h0 := List.length_pos_iff.mpr ne
  refine Sp.mk H14 rfl fun k hk => ?_
  unfold b14
  have hb : t.length * (n / t.length + 1) ≤ 1200 := by
    have := Nat.div_mul_le_self n t.length
    rw [Nat.mul_add, Nat.mul_comm]; omega
  have hp : (a ++ (List.replicate (n / t.length + 1) t).flatten).take n = pre a t n := by
    refine pre_pow (m := n / t.length + 1) ne ?_
    have e := Nat.mod_add_div n t.length
    have m := Nat.mod_lt n h0
    rw [Nat.add_mul, Nat.one_mul, Nat.mul_comm]; omega
  have hq := Nat.div_le_self n t.length
  simp! only [hp]
  refine ⟨⟨by omega, by omega⟩, ?_⟩
  generalize n / t.length = q at hb hq
  refine ⟨⟨by show _ ≤ 16777216; omega, by omega⟩, ?_⟩
  rw [show (List.replicate (q + 1) t).flatten = pw t (q + 1) from rfl, pw_len, Nat.mul_comm]
  show _ ≤ 16777216
  omega
theorem max_n (a b : Nat) : (if (b : Int) > (a : Int) then (b : Int) else (a : Int)) = ((max a b : Nat) : Int) := by split <;> omega
theorem far_enough (a t b u : List Nat) : Gs F 1 15 [A (Sm a t), A (Sm b u)] (.d (.int (far a t b u : Nat))) := by
  refine Sp.mk H15 rfl fun k hk => ?_
  unfold b15
  simp! only [max_n]
  rfl
theorem law_begin (a t : List Nat) (h : stm a t) (n : Nat) (hn : n ≤ 1000) : Gs F 1 30 [A (Sm a t), I n] (.d (.str (pre a t n))) := by
  obtain ⟨ha, ht, la, lt, ne⟩ := h
  have hb : t.length * (n + 1) ≤ 200 * 1001 := Nat.mul_le_mul lt (by omega)
  refine Sp.mk H30 rfl fun k hk => ?_
  unfold b30
  simp! only []
  refine ⟨⟨by show _ ≤ 16777216; omega, by omega⟩, ?_, rfl⟩
  rw [show (List.replicate (n + 1) t).flatten = pw t (n + 1) from rfl, pw_len, Nat.mul_comm]
  show _ ≤ 16777216
  omega
/-! ### from outside -/
theorem is_stream (a t : List Nat) (h : stm a t) : Gs F 3 18 [A (Sm a t)] (.d (.bl true)) := by
  refine Sp.mk H18 rfl fun k hk => ?_
  unfold b18
  simp! only [gc1 (stream_right a t h) hk (by decide)]
theorem least_stream (a t : List Nat) (h : stm a t) : Gs F 4 19 [A (Sm a t)] (.d (Sm (lo a t).1 (lo a t).2)) := by
  refine Sp.mk H19 rfl fun k hk => ?_
  unfold b19
  simp! only [gc1 (check_stream a t h) hk (by decide), gc1 (least_of a t h) (show 2 ≤ k by omega) (by decide)]
theorem stream_begin (a t : List Nat) (h : stm a t) (n : Nat) (hn : n ≤ 60) : Gs F 4 20 [A (Sm a t), I n] (.d (.str (pre a t n))) := by
  refine Sp.mk H20 rfl fun k hk => ?_
  unfold b20
  simp! only [gc1 (check_stream a t h) hk (by decide), gc1 (check_many (n : Int) (by omega) (by omega)) (show 3 ≤ k by omega) (by decide), gc2 (first_letters a t h n (by omega)) (show 1 ≤ k by omega) (by decide)]
def optN : Option Nat → D
  | some n => .int (n : Int)
  | none => .non
theorem cb_fd {a t b u : List Nat} (ht : t ≠ []) (hu : u ≠ []) (n : Nat) : cb (pre a t n) (pre b u n) = (fd (sv a t) (sv b u) n).getD n := by
  cases e : fd (sv a t) (sv b u) n with
  | none =>
    have h := fd_none.mp e
    rw [Option.getD_none]
    exact cb_of (by rw [pre_len ht]; exact Nat.le_refl _) (by rw [pre_len hu]; exact Nat.le_refl _) (fun i hi => by rw [pre_get ht hi, pre_get hu hi]; exact h i hi) (.inl (pre_len ht).symm)
  | some i =>
    obtain ⟨h1, h2, h3⟩ := fd_some.mp e
    rw [Option.getD_some]
    exact cb_of (by rw [pre_len ht]; exact Nat.le_of_lt h1) (by rw [pre_len hu]; exact Nat.le_of_lt h1) (fun j hj => by rw [pre_get ht (by omega), pre_get hu (by omega)]; exact h3 j hj) (.inr (.inr (by rw [pre_get ht h1, pre_get hu h1]; exact h2)))
/-- where two streams part -/
def prt (a t b u : List Nat) : Option Nat := fd (sv a t) (sv b u) (far a t b u)
theorem prt_comm (a t b u : List Nat) : prt b u a t = prt a t b u := by
  unfold prt fd
  rw [show far b u a t = far a t b u by unfold far; rw [Nat.max_comm]; omega]
  congr 1
  funext i
  by_cases h : sv b u i = sv a t i
  · rw [decide_eq_true h, decide_eq_true h.symm]
  · rw [decide_eq_false h, decide_eq_false (fun q => h q.symm)]
theorem far_le {a t b u : List Nat} (h : stm a t) (g : stm b u) : far a t b u ≤ 600 := by
  have := h.la; have := h.lt; have := g.la; have := g.lt
  unfold far; omega
theorem streams_part (a t b u : List Nat) (h : stm a t) (g : stm b u) (hl : far a t b u ≤ 400) : Gs F 4 21 [A (Sm a t), A (Sm b u)] (.d (optN (prt a t b u))) := by
  have c := cb_fd (a := a) (b := b) h.ne g.ne (far a t b u)
  refine Sp.mk H21 rfl fun k hk => ?_
  unfold b21
  simp! only [gc1 (check_stream a t h) hk (by decide), gc1 (check_stream b u g) hk (by decide), gc2 (far_enough a t b u) (show 1 ≤ k by omega) (by decide), gc2 (first_letters a t h (far a t b u) (by omega)) (show 1 ≤ k by omega) (by decide), gc2 (first_letters b u g (far a t b u) (by omega)) (show 1 ≤ k by omega) (by decide), gc2 (common_begin (pre a t (far a t b u)) (pre b u (far a t b u)) (pre_ok h) (pre_ok g) (by rw [pre_len h.ne]; exact hl) (by rw [pre_len g.ne]; exact hl)) (show 1 ≤ k by omega) (by decide), c]
  unfold prt
  cases e : fd (sv a t) (sv b u) (far a t b u) with
  | none =>
    refine wifd (fun q => ?_) (fun q => ?_)
    · exfalso; simp only [Option.getD_none] at q; omega
    · simp! only []
      rfl
  | some i =>
    have := (fd_some.mp e).1
    refine wifd (fun q => ?_) (fun q => ?_)
    · simp! only [c, e]
      rfl
    · exfalso; simp only [Option.getD_some] at q; omega
/-! ### what is drawn -/
theorem draw : DrawOk F 23 := ⟨fun n h0 h1 => draw_b (c := 10253) rfl n h0 h1, rfl, by decide⟩
theorem letters : LettersOk F 26 := ⟨fun lt m h1 h2 hm => letters_b (d := 23) (n := 1) rfl lt m (draw.1 lt h1 (by omega)) draw.2 h2 hm, rfl, by decide⟩
theorem word (lt m : Nat) (h1 : 1 ≤ lt) (h3 : lt ≤ 3) (hm : m < 500) : Pf F 3 27 [.int lt, .int m] (wordy lt m) := word_b (d := 23) (l := 26) rfl draw letters lt m h1 h3 hm
theorem pot (ns : List Int) (i : Nat) : Gp F 1 22 [.rd ns, I i] (fun v => ∃ x y, v = .ol [.d (.int x), .d (.int y)] ∧ pok x y) := pot_b (a := 2389) (b := 1613) (c := 7219) (e := 1187) rfl (by decide) (by decide) ns i
theorem pick (xs : List D) (h0 : 0 < xs.length) (h1 : xs.length < 1000000) : Rf F 2 24 [.v (.ol (xs.map .d))] (fun v => ∃ x ∈ xs, v = .d x) := pick_b (d := 23) rfl draw xs h0 h1
theorem S25 : F 25 = some ⟨2, 4, [false, false], sameB 25⟩ := rfl
theorem same {d : D} (hd : nice d = true) (hr : rk d ≤ 3) (v w : Val) (hv : v.data = d) (hw : w.data = d) : Gs F 4 25 [.lo v, .lo w] (.d (.bl true)) := (same_v S25 v w d hd hv hw).up (by omega)
theorem nice_l {xs : List D} (h : xs.all nice = true) (hl : xs.length ≤ 1000) : nice (.lst xs) = true := nice_lst (fun x hx => List.all_eq_true.mp h x hx) (by show _ ≤ 16777216; omega)
theorem nice_Sm {a t : List Nat} (h : stm a t) : nice (Sm a t) = true := nice_tup (fun x hx => by
  simp only [List.mem_cons, List.not_mem_nil, or_false] at hx
  rcases hx with rfl | rfl | rfl
  · exact (by decide : okS ([115, 116, 114, 101, 97, 109] : List Nat) = true)
  · exact h.ha.ok (show 3 ≤ 1000 by decide)
  · exact h.ht.ok (show 3 ≤ 1000 by decide)) (by show 3 ≤ 16777216; decide)
theorem eqv_Sm (a t b u : List Nat) : D.eqv (Sm a t) (Sm b u) = decide (a = b ∧ t = u) := by
  have e : D.eqv (Sm a t) (Sm b u) = (D.eqv (.str sg) (.str sg) && (D.eqv (.str a) (.str b) && (D.eqv (.str t) (.str u) && true))) := rfl
  rw [e, eqv_str, eqv_str, eqv_str, decide_eq_true rfl, Bool.true_and, Bool.and_true]
  by_cases h1 : a = b <;> by_cases h2 : t = u <;> simp [h1, h2]
theorem rev_mid {N x : Nat} {pre post : List Nat} (h : (List.range N).reverse = pre ++ x :: post) : x + pre.length + 1 = N := by
  have h2 := congrArg (·[pre.length]?) h
  have hl := congrArg List.length h
  rw [List.length_reverse, List.length_range, List.length_append, List.length_cons] at hl
  have h2 : (List.range N).reverse[pre.length]? = (pre ++ x :: post)[pre.length]? := h2
  rw [List.getElem?_append_right (Nat.le_refl _), Nat.sub_self, List.getElem?_reverse (by rw [List.length_range]; omega), List.length_range, List.getElem?_range (by omega)] at h2
  have : N - 1 - pre.length = x := Option.some.inj h2
  omega
theorem rng_rev (N : Nat) : (ranged 0 (N : Int)).reverse = ((List.range N).reverse).map fun (i : Nat) => .int (i : Int) := by
  rw [ranged_nat (N := N) (by omega), List.map_reverse]
  congr 1
  refine List.map_congr_left fun i _ => ?_
  rw [Int.zero_add]
theorem isNon_opt (o : Option Nat) : isNon (optN o) = o.isNone := by cases o <;> rfl
theorem two_right (a t b u : List Nat) (h : stm a t) (g : stm b u) (hl : a.length + b.length + 2 * (t.length + u.length) ≤ 390) : Gs F 5 33 [A (Sm a t), A (Sm b u)] (.d (.bl true)) := by
  have hfar : far a t b u ≤ a.length + b.length + 2 * (t.length + u.length) + 5 := by unfold far; omega
  obtain ⟨N, hN⟩ : ∃ N, N = a.length + b.length + 2 * (t.length + u.length) + 5 := ⟨_, rfl⟩
  have eN : fd (sv a t) (sv b u) N = prt a t b u := fd_far h.ne g.ne (by omega)
  have eqs : ∀ {Q : Bool → Prop}, Ok1 (cmpop .eq (Sm (lo a t).1 (lo a t).2) (Sm (lo b u).1 (lo b u).2)) Q = Q (prt a t b u).isNone := fun {Q} => by
    rw [o_eq_lst (nice_Sm (lo_stm h)) (nice_Sm (lo_stm g)) (by show 1 ≤ 64; decide) (by show 1 ≤ 64; decide) (eqv_Sm _ _ _ _)]
    congr 1
    rw [Bool.eq_iff_iff, decide_eq_true_eq, Option.isNone_iff_eq_none]
    unfold prt
    rw [fd_lo h.ne g.ne]
    exact ⟨fun q => Prod.ext q.1 q.2, fun q => by rw [q]; exact ⟨rfl, rfl⟩⟩
  have bk : Gs F 4 21 [A (Sm a t), A (Sm b u)] (.d (optN (prt a t b u))) := streams_part a t b u h g (by omega)
  have bk2 : Gs F 4 21 [A (Sm b u), A (Sm a t)] (.d (optN (prt a t b u))) := by
    have := streams_part b u a t g h (by rw [show far b u a t = far a t b u by unfold far; rw [Nat.max_comm]; omega]; omega)
    rwa [prt_comm] at this
  refine Sp.mk H33 rfl fun k hk => ?_
  unfold b33
  have e5 : ((a.length + b.length + 2 * (t.length + u.length) : Nat) : Int) + 5 = (N : Int) := by omega
  have o1 := pre_ok (n := N) h
  have o2 := pre_ok (n := N) g
  have l1 := pre_len (a := a) (n := N) h.ne
  have l2 := pre_len (a := b) (n := N) g.ne
  simp! only [e5, gc2 (law_begin a t h N (by omega)) (show 1 ≤ k by omega) (by decide), gc2 (law_begin b u g N (by omega)) (show 1 ≤ k by omega) (by decide)]
  have f1 : ∀ {j : Nat} (hj : j < N), ∃ c d, L2.atI (pre a t N) (j : Int) = some c ∧ L2.atI (pre b u N) (j : Int) = some d ∧ sv a t j = some c ∧ sv b u j = some d ∧ okS [c] = true ∧ okS [d] = true := fun {j} hj => by
    have g1 := pre_get (a := a) h.ne hj
    have g2 := pre_get (a := b) g.ne hj
    rw [List.getElem?_eq_getElem (by omega)] at g1 g2
    exact ⟨_, _, atI_nat (by omega), atI_nat (by omega), g1.symm, g2.symm, ok1c (o1 _ (List.getElem_mem _)), ok1c (o2 _ (List.getElem_mem _))⟩
  refine ⟨by rw [show small64 2 = true by decide]; rfl, by rw [Bool.and_eq_true, Bool.and_eq_true, decide_eq_true_eq]; exact ⟨⟨by decide, ends62_of (by omega) (by omega)⟩, by show _ ≤ 16777216; omega⟩, for_list (List.range N).reverse (fun (i : Nat) => .int (i : Int)) (rng_rev N) (fun pre_ ρ => ∃ (o : Option Nat) (s6 : Slot), (o = none → ∀ j, N ≤ j + pre_.length → j < N → sv a t j = sv b u j) ∧ (∀ i, o = some i → N ≤ i + pre_.length ∧ i < N ∧ sv a t i ≠ sv b u i ∧ ∀ j, N ≤ j + pre_.length → j < i → sv a t j = sv b u j) ∧ ρ = [A (Sm a t), A (Sm b u), I (N : Nat), W (pre a t N), W (pre b u N), A (optN o), s6, .un]) ?_ ?_ ?_⟩
  · refine ⟨none, .un, fun _ j h1 h2 => ?_, fun i q => ?_, rfl⟩
    · rw [List.length_nil] at h1; omega
    · cases q
  · rintro pre_ x post ρ hd ⟨o, s6, i1, i2, rfl⟩
    have hx := rev_mid hd
    obtain ⟨c, d, a1, a2, a3, a4, a5, a6⟩ := f1 (show x < N by omega)
    simpa! only []
    refine valV (.v (.d (optN (if sv a t x = sv b u x then o else some x)))) ?_ ?_
    · simp! only [a1, a2, a5, a6]
      refine wifn (fun e => ?_) (fun e => ?_)
      · have : ¬ sv a t x = sv b u x := by rw [a3, a4]; intro q; exact e (by rw [Option.some.inj q])
        rw [if_neg this]
        simp! only []
        rfl
      · have : sv a t x = sv b u x := by rw [a3, a4]; congr 1; simpa using e
        rw [if_pos this]
        simp! only []
    simp! only []
    refine ⟨if sv a t x = sv b u x then o else some x, _, fun q j h1 h2 => ?_, fun i q => ?_, rfl⟩
    · rw [List.length_append, List.length_singleton] at h1
      by_cases e : sv a t x = sv b u x
      · rw [if_pos e] at q
        by_cases e2 : j = x
        · rw [e2]; exact e
        · exact i1 q j (by omega) h2
      · rw [if_neg e] at q; cases q
    · rw [List.length_append, List.length_singleton]
      by_cases e : sv a t x = sv b u x
      · rw [if_pos e] at q
        obtain ⟨j1, j2, j3, j4⟩ := i2 i q
        refine ⟨by omega, j2, j3, fun j h1 h2 => ?_⟩
        by_cases e2 : j = x
        · rw [e2]; exact e
        · exact j4 j (by omega) h2
      · rw [if_neg e] at q
        obtain rfl : x = i := Option.some.inj q
        exact ⟨by omega, by omega, e, fun j h1 h2 => by omega⟩
  · rintro ρ ⟨o, s6, i1, i2, rfl⟩
    rw [List.length_reverse, List.length_range] at i1 i2
    have eo : o = prt a t b u := by
      rw [← eN]
      cases o with
      | none => exact (fd_none.mpr fun j hj => i1 rfl j (by omega) hj).symm
      | some i =>
        obtain ⟨_, j2, j3, j4⟩ := i2 i rfl
        exact (fd_some.mpr ⟨j2, j3, fun j hj => j4 j (by omega) hj⟩).symm
    subst eo
    have no : nice (optN (prt a t b u)) = true := by cases prt a t b u <;> rfl
    have n2 : nice (.lst [optN (prt a t b u), optN (prt a t b u)]) = true := nice_l (by
      simp only [List.all_cons, List.all_nil, no, Bool.and_self]) (by show 2 ≤ 1000; decide)
    have r2 : rk (.lst [optN (prt a t b u), optN (prt a t b u)]) ≤ 3 := Nat.le_trans (Nat.succ_le_succ (rks_le (n := 0) fun x hx => by
      simp only [List.mem_cons, List.not_mem_nil, or_false] at hx
      rcases hx with rfl | rfl <;> cases prt a t b u <;> exact Nat.zero_le _)) (by decide)
    simp! only [gc2 bk (show 4 ≤ k by omega) (by decide), gc2 bk2 (show 4 ≤ k by omega) (by decide)]
    refine ⟨by decide, by decide, acallQ (same n2 r2 _ _ ?_ ?_) ⟨_, _, by rfl, rfl⟩ (by omega) rfl ?_⟩
    · simp! only []
    · simp! only []
    simp! only [isNon_opt, gc1 (law_least a t h) (show 1 ≤ k by omega) (by decide), gc1 (law_least b u g) (show 1 ≤ k by omega) (by decide), eqs]
    refine wif (fun e => ?_) (fun e => ?_)
    · simp! only []
    · obtain ⟨i, ei⟩ : ∃ i, prt a t b u = some i := by
        cases q : prt a t b u with
        | none => rw [q] at e; cases e
        | some i => exact ⟨i, rfl⟩
      have hi := (fd_some.mp ei).1
      rw [ei]
      simp! only [optN, max_n, show max a.length b.length + t.length + u.length = far a t b u from rfl, decide_eq_true (show ((i : Nat) : Int) < (far a t b u : Nat) by omega)]
/-- the same stream, told otherwise -/
theorem otherwise (a t : List Nat) (h : stm a t) (la : a.length ≤ 12) (lt : t.length ≤ 12) : Pf F 2 32 [Sm a t] (fun v => ∃ b u, v = .d (Sm b u) ∧ stm b u ∧ (∀ k, sv b u k = sv a t k) ∧ b.length ≤ 18 ∧ u.length ≤ 36) := by
  have h0 := List.length_pos_iff.mpr h.ne
  intro a' b' hp
  refine Sp.mk H32 rfl fun k hk => ?_
  unfold b32
  simp! only []
  refine draw.call 3 (by omega) rfl (by decide) (by decide) hp rfl fun x y r hp hr => ?_
  simp! only []
  have hb := Nat.mul_le_mul lt (show 1 + r ≤ 3 by omega)
  refine ⟨⟨by show _ ≤ 16777216; omega, by omega, by omega⟩, draw.call 7 (by omega) rfl (by decide) (by decide) hp rfl fun x y n hp hn => ?_⟩
  simp! only []
  refine ⟨ends62_of (by omega) (by omega), for_rng n (by omega) (fun i ρ => ∃ b u s4, abl 3 b ∧ abl 3 u ∧ b.length = a.length + i ∧ u.length = (1 + r) * t.length ∧ (∀ k, sv b u k = sv a t k) ∧ ρ = [Pt x y, A (Sm a t), W b, W u, s4]) ⟨a, pw t (1 + r), _, h.ha, h.ht.rep _, rfl, pw_len _ _, fun k => sv_pw h.ne (by omega), rfl⟩ ?_ ?_⟩
  · rintro i hi ρ ⟨b, u, s4, hb1, hu1, lb, lu, hs, rfl⟩
    have hu0 : 0 < u.length := by rw [lu]; exact Nat.mul_pos (by omega) h0
    rw [Nat.mul_comm] at hb
    cases u with
    | nil => cases hu0
    | cons c u =>
      rw [List.length_cons] at lu
      simp! only [List.drop_one, List.tail_cons]
      refine ⟨by show _ + 1 ≤ 16777216; omega, by show _ + 1 ≤ 16777216; omega, b ++ [c], u ++ [c], _, hb1.app (fun d hd => ?_), ?_, by rw [List.length_append, List.length_singleton]; omega, by rw [List.length_append, List.length_singleton]; exact lu, fun k => ?_, rfl⟩
      · rw [List.mem_singleton.mp hd]; exact hu1 c (List.mem_cons_self ..)
      · exact abl.app (fun d hd => hu1 d (List.mem_cons_of_mem _ hd)) (fun d hd => by rw [List.mem_singleton.mp hd]; exact hu1 c (List.mem_cons_self ..))
      · have := sv_move (a := b) (t := c :: u) (c := c) (k := k) (by simp) rfl
        rw [← hs, ← this]
        rfl
  · rintro ρ ⟨b, u, s4, hb1, hu1, lb, lu, hs, rfl⟩
    have hu0 : 0 < u.length := by rw [lu]; exact Nat.mul_pos (by omega) h0
    rw [Nat.mul_comm] at hb
    simp! only []
    exact ⟨by decide, x, y, _, rfl, rfl, hp, b, u, rfl, ⟨hb1, hu1, by omega, by omega, List.length_pos_iff.mp hu0⟩, hs, by omega, by omega⟩
theorem show_Sm {a t : List Nat} (h : stm a t) : (Sm a t).showy = true := by
  have l1 := h.la
  have l2 := h.lt
  refine showy_sh (x := Sm a t) ?_ (by show 1 ≤ 40; decide) ?_
  · show (okS sg && (okS a && (okS t && true))) = true
    rw [h.ha.ok (show 3 ≤ 1000 by decide), h.ht.ok (show 3 ≤ 1000 by decide)]; rfl
  · show 6 + 1 + (a.length + 1 + (t.length + 1 + 0)) ≤ 1000000
    omega
theorem nice3 {x : D} (h : nice x = true) : nice (.lst [x, x, x]) = true := nice_l (by simp only [List.all_cons, List.all_nil, h, Bool.and_self]) (by show 3 ≤ 1000; decide)
theorem stream_right' (lt : Nat) (h1 : 1 ≤ lt) (h3 : lt ≤ 3) : Pf F 6 34 [.int lt] (fun v => v = .d (.bl true)) := by
  intro a' b' hp
  refine Sp.mk H34 rfl fun k hk => ?_
  unfold b34
  simp! only []
  refine potcall2 (word lt 12 h1 h3 (by decide)) (by omega) ⟨rfl, by decide⟩ hp rfl fun x y v hp ⟨w, e1, a1, l1⟩ => ?_
  subst e1
  simp! only []
  refine potcall2 (word lt 12 h1 h3 (by decide)) (by omega) ⟨rfl, by decide⟩ hp rfl fun x y v hp ⟨a, e2, a2, l2⟩ => ?_
  subst e2
  simpa! only [a1.ok (show lt ≤ 1000 by omega)]
  refine valV (.v (.d (.str (if w = [] then [97] else w)))) ?_ ?_
  · simp! only [a1.ok (show lt ≤ 1000 by omega)]
    refine ⟨by decide, wifn (fun h => ?_) (fun h => ?_)⟩
    · rw [if_neg h]; simp! only []
    · rw [if_pos h]; simp! only []
  have ht : abl 3 (if w = [] then [97] else w) ∧ (if w = [] then [97] else w) ≠ [] ∧ (if w = [] then [97] else w).length ≤ 12 := by
    by_cases q : w = []
    · rw [if_pos q]; exact ⟨fun d hd => by rw [List.mem_singleton.mp hd]; omega, by decide, by decide⟩
    · rw [if_neg q]; exact ⟨a1.up h3, q, l1⟩
  generalize (if w = [] then [97] else w) = t at ht
  have hs : stm a t := ⟨a2.up h3, ht.1, by omega, by omega, ht.2.1⟩
  have hlo := lo_stm hs
  obtain ⟨_, _, lo1, lo2, _⟩ := lo_spec (a := a) ht.2.1
  simp! only []
  refine ⟨by decide, potcall1 (otherwise a t hs l2 ht.2.2) (by omega) ⟨rfl, by decide⟩ hp rfl fun x y v hp ⟨b, u, e3, hbu, hsv, lb, lu⟩ => ?_⟩
  subst e3
  have lo_eq : lo b u = lo a t := (lo_iff hbu.ne hs.ne).mpr hsv
  have lo_lo : lo (lo a t).1 (lo a t).2 = lo a t := (lo_iff hlo.ne hs.ne).mpr (lo_spec ht.2.1).1
  have g1 := least_stream a t hs
  have g2 : Gs F 4 19 [A (Sm b u)] (.d (Sm (lo a t).1 (lo a t).2)) := by
    have := least_stream b u hbu
    rwa [lo_eq] at this
  have g3 : Gs F 4 19 [A (Sm (lo a t).1 (lo a t).2)] (.d (Sm (lo a t).1 (lo a t).2)) := by
    have := least_stream _ _ hlo
    rwa [lo_lo] at this
  have ss := show_Sm hs
  simp! only [gc1 (law_least a t hs) (show 1 ≤ k by omega) (by decide), ss, gc1 g1 (show 4 ≤ k by omega) (by decide), gc1 g2 (show 4 ≤ k by omega) (by decide), gc1 g3 (show 4 ≤ k by omega) (by decide), List.flatten_cons, List.flatten_nil]
  have rs3 : rk (.lst [Sm (lo a t).1 (lo a t).2, Sm (lo a t).1 (lo a t).2, Sm (lo a t).1 (lo a t).2]) ≤ 3 := by show 2 ≤ 3; decide
  refine ⟨by decide, by decide, by decide, acallQ (same (nice3 (nice_Sm hlo)) rs3 _ _ ?_ ?_) ⟨_, _, by rfl, rfl⟩ (by omega) rfl ?_⟩
  · simp! only []
  · simp! only []
  simp! only [gc1 (is_stream a t hs) (show 3 ≤ k by omega) (by decide)]
  refine draw.call 61 (by omega) rfl (by decide) (by decide) hp rfl fun x y m hp hm => ?_
  have b1 := stream_begin a t hs m (by omega)
  have b2 : Gs F 4 20 [A (Sm b u), I m] (.d (.str (pre a t m))) := by
    have := stream_begin b u hbu m (by omega)
    rwa [pre_eq hbu.ne hs.ne hsv] at this
  have b3 : Gs F 4 20 [A (Sm (lo a t).1 (lo a t).2), I m] (.d (.str (pre a t m))) := by
    have := stream_begin _ _ hlo m (by omega)
    rwa [pre_eq hlo.ne hs.ne (lo_spec ht.2.1).1] at this
  simp! only [gc2 (law_begin a t hs m (by omega)) (show 1 ≤ k by omega) (by decide), gc2 b1 (show 4 ≤ k by omega) (by decide), gc2 b2 (show 4 ≤ k by omega) (by decide), gc2 b3 (show 4 ≤ k by omega) (by decide), List.flatten_cons, List.flatten_nil]
  have np : nice (.str (pre a t m)) = true := (pre_ok hs).ok (show 3 ≤ 1000 by decide)
  refine ⟨by decide, by decide, by decide, acallQ (same (nice3 np) (by show 1 ≤ 3; decide) _ _ ?_ ?_) ⟨_, _, by rfl, rfl⟩ (by omega) rfl ?_⟩
  · simp! only []
  · simp! only []
  simp! only []
  refine draw.call u.length (by omega) rfl (List.length_pos_iff.mpr hbu.ne) (by omega) hp rfl fun x y at_ hp hat => ?_
  simp! only []
  refine letters.call lt 1 (by omega) rfl rfl h1 h3 (by decide) hp rfl fun x y l hp hl ll => ?_
  simp! only []
  refine ⟨by rw [List.length_take]; show _ ≤ 16777216; omega, by rw [List.length_append, List.length_take, List.length_drop]; show _ ≤ 16777216; omega, by decide, ?_⟩
  have bent : stm b (u.take at_ ++ l ++ u.drop (at_ + 1)) ∧ (u.take at_ ++ l ++ u.drop (at_ + 1)).length ≤ 37 := by
    have e : (u.take at_ ++ l ++ u.drop (at_ + 1)).length = u.length := by
      rw [List.length_append, List.length_append, List.length_take, List.length_drop]; omega
    exact ⟨⟨hbu.ha, ((hbu.ht.take _).app (hl.up h3)).app (hbu.ht.drop _), by omega, by omega, fun q => by rw [q] at e; simp at e; omega⟩, by omega⟩
  generalize u.take at_ ++ l ++ u.drop (at_ + 1) = u2 at bent
  have b15 : Gs F 1 30 [A (Sm a t), I 15] (.d (.str (pre a t 15))) := law_begin a t hs 15 (by omega)
  simp! only [gc2 b15 (show 1 ≤ k by omega) (by decide)]
  refine letters.call lt 2 (by omega) rfl rfl h1 h3 (by decide) hp rfl fun x y l2' hp hl2 ll2 => ?_
  have p15 : (pre a t 15).length = 15 := pre_len hs.ne
  have fa : abl 3 (pre a t 15 ++ l2') ∧ (pre a t 15 ++ l2').length = 17 := ⟨(pre_ok hs).app (hl2.up h3), by rw [List.length_append, p15, ll2]⟩
  simp! only []
  refine ⟨by rw [p15]; show _ ≤ 16777216; omega, by decide, ?_⟩
  generalize pre a t 15 ++ l2' = a3 at fa
  refine potcallR (rs := [.v (.ol (([[97], [97, 98], t].map D.str).map .d))]) rfl (pick ([[97], [97, 98], t].map .str) (by show 0 < 3; decide) (by show 3 < 1000000; decide)) (by omega) ⟨rfl, show 2 ≤ 2 by decide⟩ hp rfl fun x y v hp hv => ?_
  obtain ⟨z, hz, rfl⟩ := hv
  obtain ⟨t3, ht3, rfl⟩ := List.mem_map.mp hz
  have t3ok : abl 3 t3 ∧ t3 ≠ [] := by
    simp only [List.mem_cons, List.not_mem_nil, or_false] at ht3
    rcases ht3 with rfl | rfl | rfl
    · exact ⟨fun d hd => by rw [List.mem_singleton.mp hd]; omega, by decide⟩
    · exact ⟨fun d hd => by simp only [List.mem_cons, List.not_mem_nil, or_false] at hd; omega, by decide⟩
    · exact ⟨ht.1, ht.2.1⟩
  have t4 : abl 3 (t3.take 20) ∧ t3.take 20 ≠ [] ∧ (t3.take 20).length ≤ 20 := ⟨t3ok.1.take 20, Pa.take_ne t3ok.2 (by decide), by rw [List.length_take]; omega⟩
  simp! only [show cut t3 none (some 20) = t3.take 20 from cut_to (k := 20)]
  generalize t3.take 20 = t4' at t4
  have l4 : t.length ≤ 12 := ht.2.2
  refine ⟨by decide, by decide, cmp_map [(b, u), (b, u2), (a3, t4'), lo a t] (fun p => Sm p.1 p.2) (fun _ => .bl true) rfl rfl (show 4 ≤ 16777216 by decide) (fun p hm => ?_) ?_⟩
  · have hw : stm p.1 p.2 ∧ a.length + p.1.length + 2 * (t.length + p.2.length) ≤ 390 := by
      simp only [List.mem_cons, List.not_mem_nil, or_false] at hm
      rcases hm with rfl | rfl | rfl | rfl
      · exact ⟨hbu, by show _ + b.length + 2 * (_ + u.length) ≤ 390; omega⟩
      · exact ⟨bent.1, by show _ + b.length + 2 * (_ + u2.length) ≤ 390; omega⟩
      · exact ⟨⟨fa.1, t4.1, by show a3.length ≤ 200; omega, by show t4'.length ≤ 200; omega, t4.2.1⟩, by show _ + a3.length + 2 * (_ + t4'.length) ≤ 390; omega⟩
      · exact ⟨hlo, by omega⟩
    simp! only [gc2 (two_right a t p.1 p.2 hs hw.1 hw.2) (show 5 ≤ k by omega) (by decide)]
  · simp! only [show Pu.b1 .all (D.lst [D.bl true, D.bl true, D.bl true, D.bl true]) = some (.d (.bl true)) from rfl, ss, okS_repr ss]
    exact ⟨_, _, _, rfl, rfl, hp⟩
/-! ### stretches, as the law has them -/
theorem numbered_range (f : Nat → D) : ∀ N k, numbered k ((List.range N).map fun i => f (k + i)) = (List.range N).map fun i => .tup [.int ((k + i : Nat) : Int), f (k + i)]
  | 0, k => rfl
  | N + 1, k => by
    rw [List.range_succ_eq_map, List.map_cons, List.map_cons, List.map_map, List.map_map, numbered]
    have ih := numbered_range f N (k + 1)
    have e : (List.range N).map ((fun i => f (k + i)) ∘ Nat.succ) = (List.range N).map fun i => f (k + 1 + i) := List.map_congr_left fun i _ => by
      show f (k + (i + 1)) = _
      rw [show k + (i + 1) = k + 1 + i by omega]
    rw [e, ih]
    congr 1
    refine List.map_congr_left fun i _ => ?_
    show D.tup [.int ((k + 1 + i : Nat) : Int), f (k + 1 + i)] = D.tup [.int ((k + (i + 1) : Nat) : Int), f (k + (i + 1))]
    rw [show k + (i + 1) = k + 1 + i by omega]
theorem numbered_range0 (f : Nat → D) (N : Nat) : numbered 0 ((List.range N).map f) = (List.range N).map fun i => .tup [.int (i : Int), f i] := by
  have := numbered_range f N 0
  simpa only [Nat.zero_add] using this
theorem counts_right (lt : Nat) (w : List Nat) (hw : abl 3 w) (hl : w.length ≤ 24) : Pf F 6 29 [.str w] (fun v => v = .d (.bl true)) := by
  have hwd : wd w := ⟨hw, by omega⟩
  have hcn : ∀ m, cn w m ≤ 25 := fun m => by
    have := du_len (stl w m)
    rw [stl_len] at this
    unfold cn; omega
  have hc1 : ∀ m, cn w m ≤ w.length + 1 - m := fun m => by
    have := du_len (stl w m)
    rwa [stl_len] at this
  intro a' b' hp
  refine Sp.mk H29 rfl fun k hk => ?_
  unfold b29
  simp! only []
  refine ⟨ends62_of (by omega) (by omega), cmp_map (List.range (w.length + 1)) (fun (i : Nat) => .int ((0 : Int) + (i : Int))) (fun m => .int (cn w m : Nat)) (ranged_nat (by omega)) rfl (by rw [List.length_range]; show _ ≤ 16777216; omega) (fun m hm => ?_) ?_⟩
  · rw [nc_0add]
    have hm := List.mem_range.mp hm
    simp! only [gc2 (law_stretches w hw (by omega) m (by omega)) (show 1 ≤ k by omega) (by decide), List.length_map, ss_len]
    rfl
  have nc : nice (.lst ((List.range (w.length + 1)).map fun m => .int (cn w m : Nat))) = true := nice_ints (by rw [List.length_range]; show _ ≤ 16777216; omega)
  have rc : rk (.lst ((List.range (w.length + 1)).map fun m => .int (cn w m : Nat))) ≤ 3 := Nat.le_trans rk_ints (by decide)
  simp! only [gc1 (stretch_counts w hwd (by omega)) (show 5 ≤ k by omega) (by decide)]
  refine acallQ (same nc rc _ _ ?_ ?_) ⟨_, _, by rfl, rfl⟩ (by omega) rfl ?_
  · simp! only []
  · simp! only []
  simp! only [gc1 (stretch_counts w hwd (by omega)) (show 5 ≤ k by omega) (by decide)]
  refine ⟨by rw [List.length_map, List.length_range]; show _ < 16777216; omega, acallQ (same nc rc _ _ ?_ ?_) ⟨_, _, by rfl, rfl⟩ (by omega) rfl ?_⟩
  · simp! only []
  · simp! only []
  simp! only [numbered_range0]
  refine for_list (List.range (w.length + 1)) (fun i => D.tup [.int (i : Int), .int (cn w i : Nat)]) rfl (fun pre_ ρ => ∃ s4 s5 s6, ρ = [Pt a' b', W w, A (.lst ((List.range (w.length + 1)).map fun m => .int (cn w m : Nat))), .lo (.ol (((List.range (w.length + 1)).map fun m => .d (.int (cn w m : Nat))) ++ [.d .non])), s4, s5, s6, .un]) ⟨_, _, _, rfl⟩ ?_ ?_
  · rintro pre_ m post ρ hd ⟨s4, s5, s6, rfl⟩
    have hm : m < w.length + 1 := List.mem_range.mp (by rw [hd]; simp)
    have hc := hc1 m
    have hat : ∀ j, j < w.length + 1 → L2.atI ((List.range (w.length + 1)).map fun m => D.int (cn w m : Nat)) (j : Int) = some (.int (cn w j : Nat)) := fun j hj => by
      rw [atI_nat (by rw [List.length_map, List.length_range]; exact hj), List.getElem_map, List.getElem_range]
    simp! only [nc_sub (show m ≤ w.length by omega)]
    have fg : decide (((w.length - m + 1 : Nat) : Int) < ((cn w m : Nat) : Int)) = false := decide_eq_false (by omega)
    refine wifd (fun h => ?_) (fun h => ?_)
    · simp! only []
      refine wifd (fun h2 => ?_) (fun h2 => ?_)
      · have fn := full_next (w := w) (m := m) (by omega) (by show cn w m = _; omega)
        have e1 : cn w (m + 1) = w.length - m := fn
        simp! only [hat (m + 1) (by omega), e1]
        rw [decide_eq_true (show ((w.length - m : Nat) : Int) = ((cn w m : Nat) : Int) - 1 by omega)]
        simp! only [nc_sub (show m ≤ w.length by omega), fg]
        exact ⟨_, _, _, rfl⟩
      · simp! only [nc_sub (show m ≤ w.length by omega), fg]
        exact ⟨_, _, _, rfl⟩
    · simp! only [nc_sub (show m ≤ w.length by omega), fg]
      exact ⟨_, _, _, rfl⟩
  · rintro ρ ⟨s4, s5, s6, rfl⟩
    simp! only []
    refine draw.call 8 (by omega) rfl (by decide) (by decide) hp rfl fun x y r hp hr => ?_
    have emin : (if ((w.length : Nat) : Int) + 1 < 60 then ((w.length : Nat) : Int) + 1 else 60) = ((w.length + 1 : Nat) : Int) := by
      rw [if_pos (by omega)]; omega
    have emin2 : (if ((w.length + 1 : Nat) : Int) < 60 then ((w.length + 1 : Nat) : Int) else 60) = ((w.length + 1 : Nat) : Int) := by
      rw [if_pos (by omega)]
    simp! only [emin, emin2]
    refine ⟨by decide, for_list [0, r, w.length, w.length + 1] (fun (i : Nat) => .int (i : Int)) rfl (fun pre_ ρ => ∃ s3 s4 s7, ρ = [Pt x y, W w, A (.lst ((List.range (w.length + 1)).map fun m => .int (cn w m : Nat))), s3, s4, s5, s6, s7]) ⟨_, _, _, rfl⟩ ?_ ?_⟩
    · rintro pre_ m post ρ hd ⟨s3, s4, s7, rfl⟩
      have hm : m ≤ 60 := by
        have hmm : m ∈ [0, r, w.length, w.length + 1] := by rw [hd]; simp
        simp only [List.mem_cons, List.not_mem_nil, or_false] at hmm
        rcases hmm with rfl | rfl | rfl | rfl <;> omega
      have hss : ∀ s ∈ ss (stl w m), abl 3 s := fun s hs => stl_ws hw (ss_mem.mp hs)
      have hsl : (ss (stl w m)).length ≤ 25 := by rw [ss_len]; exact hcn m
      have ns : nice (.lst ((ss (stl w m)).map .str)) = true := nice_strs (fun s hs => (hss s hs).ok (by decide)) (by show _ ≤ 16777216; omega)
      have rs' : rk (.lst ((ss (stl w m)).map .str)) ≤ 3 := Nat.le_trans rk_strs (by decide)
      simp! only [gc2 (law_stretches w hw (by omega) m (by omega)) (show 1 ≤ k by omega) (by decide), gc2 (stretches w hwd (by omega) m hm) (show 5 ≤ k by omega) (by decide)]
      refine acallQ (same ns rs' _ _ ?_ ?_) ⟨_, _, by rfl, rfl⟩ (by omega) rfl ?_
      · simp! only []
      · simp! only []
      simp! only [gc2 (stretches w hwd (by omega) m hm) (show 5 ≤ k by omega) (by decide)]
      refine ⟨by rw [List.length_map]; show _ < 16777216; omega, acallQ (same ns rs' _ _ ?_ ?_) ⟨_, _, by rfl, rfl⟩ (by omega) rfl ?_⟩
      · simp! only []
      · simp! only []
      simp! only []
      exact ⟨_, _, _, rfl⟩
    · rintro ρ ⟨s3, s4, s7, rfl⟩
      simp! only []
      exact ⟨x, y, _, rfl, rfl, hp⟩
/-! ### the law -/
theorem right (a b : Int) (hp : pok a b) : Gp F 8 35 [Pt a b] (fun v => v = .d (.bl true)) := by
  refine Sp.mk H35 rfl fun k hk => ?_
  unfold b35
  simp! only []
  refine draw.call 3 (by omega) rfl (by decide) (by decide) hp rfl fun a b r hp hr => ?_
  simp! only []
  refine potcall2 (word (1 + r) 24 (by omega) (by omega) (by decide)) (by omega) ⟨rfl, by decide⟩ hp rfl fun a b v hp ⟨w, e1, a1, l1⟩ => ?_
  subst e1
  simp! only []
  refine potcall1 (counts_right (1 + r) w (a1.up (by omega)) l1) (by omega) ⟨rfl, by decide⟩ hp rfl fun a b v hp hv => ?_
  subst hv
  simp! only []
  refine ⟨by decide, cmp_inv (fun ρ => ∃ a b, pok a b ∧ ρ = [Pt a b, I (1 + r : Nat), .un]) (fun v => ∃ _ : Unit, v = .d (.bl true) ∧ True) rfl (by decide) ⟨a, b, hp, rfl⟩ ?_ ?_⟩
  · rintro x hx ρ ⟨a, b, hp, rfl⟩
    simp! only []
    refine potcall1 (stream_right' (1 + r) (by omega) (by omega)) (by omega) ⟨rfl, by decide⟩ hp rfl fun a b v hp hv => ?_
    subst hv
    simp! only []
    exact ⟨⟨a, b, hp, rfl⟩, _, rfl, (), rfl⟩
  · intro vs ρ' ⟨a, b, hp, e⟩ hl hv
    obtain ⟨us, rfl, _⟩ := map_of (g := fun _ : Unit => Val.d (.bl true)) (R := fun _ => True) hv
    rw [e]
    simp! only [all_true]
theorem law_main (ns : List Int) : Gs F 9 36 [.rd ns] (.d (.bl true)) := by
  refine Sp.mk H36 rfl fun k hk => ?_
  unfold b36
  simp! only []
  have hE : (if (if (((ns.map D.int).length : Nat) : Int) < 2 then (((ns.map D.int).length : Nat) : Int) else 2) > 1 then (if (((ns.map D.int).length : Nat) : Int) < 2 then (((ns.map D.int).length : Nat) : Int) else 2) else 1) = ((max 1 (min 2 ns.length) : Nat) : Int) := by
    rw [List.length_map]
    split <;> split <;> omega
  rw [hE]
  refine ⟨ends62_of (by omega) (by omega), cmp_map (List.range (max 1 (min 2 ns.length))) (fun (i : Nat) => .int ((0 : Int) + (i : Int))) (fun _ => .bl true) (ranged_nat (by omega)) rfl (by rw [List.length_range]; show _ ≤ 16777216; omega) (fun i hi => ?_) ?_⟩
  · rw [nc_0add]
    simp! only []
    refine vcall (rs := [.rd ns, .v (.d (.int (i : Int)))]) rfl (pot ns i) (by omega) (show 2 ≤ 2 by decide) fun v hv => ?_
    obtain ⟨x, y, rfl, hp⟩ := hv
    simp! only []
    refine vcall (rs := [.v (.ol [.d (.int x), .d (.int y)])]) rfl (right x y hp) (by omega) (show 1 ≤ 1 by decide) fun v hv => ?_
    subst hv
    simp! only []
  · simp! only [all_true]
end Lawk12
namespace Lawk12
open PySem PySem.Spec PyProof.Rows L2 Pu
def top (i : Nat) : Stmt := PySem.Challenge.pw_spelledonce_k12_whole_stretches_and_stre.main.body.getD i (.Pass ⟨0, 0, 0, 0⟩)
def f0 : Fx := ⟨"is_integer", defArgs (top 1), defBody (top 1), defScope (top 1), ["value"], ["value"], d0⟩
def f1 : Fx := ⟨"is_count", defArgs (top 2), defBody (top 2), defScope (top 2), ["value"], ["value"], d1⟩
def f2 : Fx := ⟨"over", defArgs (top 13), defBody (top 13), defScope (top 13), ["value", "letters", "letter"], ["value", "letters"], d2⟩
def f3 : Fx := ⟨"word_is_right", defArgs (top 14), defBody (top 14), defScope (top 14), ["value"], ["value"], d3⟩
def f4 : Fx := ⟨"is_over", defArgs (top 15), defBody (top 15), defScope (top 15), ["value", "letters"], ["value", "letters"], d4⟩
def f5 : Fx := ⟨"shortest_first", defArgs (top 16), defBody (top 16), defScope (top 16), ["words", "word", "many"], ["words"], d5⟩
def f6 : Fx := ⟨"stream_is_right", defArgs (top 17), defBody (top 17), defScope (top 17), ["value", "part"], ["value"], d6⟩
def f7 : Fx := ⟨"check_word", defArgs (top 18), defBody (top 18), defScope (top 18), ["word"], ["word"], d7⟩
def f8 : Fx := ⟨"check_many", defArgs (top 19), defBody (top 19), defScope (top 19), ["many"], ["many"], d8⟩
def f9 : Fx := ⟨"check_stream", defArgs (top 20), defBody (top 20), defScope (top 20), ["stream"], ["stream"], d9⟩
def f10 : Fx := ⟨"common_begin", defArgs (top 21), defBody (top 21), defScope (top 21), ["word", "other", "found"], ["word", "other"], d10⟩
def f11 : Fx := ⟨"stretches_of", defArgs (top 22), defBody (top 22), defScope (top 22), ["word", "many", "at"], ["word", "many"], d11⟩
def f12 : Fx := ⟨"root_round", defArgs (top 23), defBody (top 23), defScope (top 23), ["word", "many"], ["word"], d12⟩
def f13 : Fx := ⟨"least_of", defArgs (top 24), defBody (top 24), defScope (top 24), ["stream", "ahead", "turn"], ["stream"], d13⟩
def f14 : Fx := ⟨"first_letters", defArgs (top 25), defBody (top 25), defScope (top 25), ["stream", "many", "times"], ["stream", "many"], d14⟩
def f15 : Fx := ⟨"far_enough", defArgs (top 26), defBody (top 26), defScope (top 26), ["stream", "other"], ["stream", "other"], d15⟩
def f16 : Fx := ⟨"stretches", defArgs (top 27), defBody (top 27), defScope (top 27), ["word", "many"], ["word", "many"], d16⟩
def f17 : Fx := ⟨"stretch_counts", defArgs (top 28), defBody (top 28), defScope (top 28), ["word", "many", "at"], ["word"], d17⟩
def f18 : Fx := ⟨"is_stream", defArgs (top 29), defBody (top 29), defScope (top 29), ["value"], ["value"], d18⟩
def f19 : Fx := ⟨"least_stream", defArgs (top 30), defBody (top 30), defScope (top 30), ["stream"], ["stream"], d19⟩
def f20 : Fx := ⟨"stream_begin", defArgs (top 31), defBody (top 31), defScope (top 31), ["stream", "many"], ["stream", "many"], d20⟩
def f21 : Fx := ⟨"streams_part", defArgs (top 32), defBody (top 32), defScope (top 32), ["stream", "other", "many", "found"], ["stream", "other"], d21⟩
def f22 : Fx := ⟨"_law_pot", defArgs (top 34), defBody (top 34), defScope (top 34), ["script", "k", "cell"], ["script", "k"], d22⟩
def f23 : Fx := ⟨"_law_draw", defArgs (top 35), defBody (top 35), defScope (top 35), ["pot", "many", "digit"], ["pot", "many"], d23⟩
def f24 : Fx := ⟨"_law_pick", defArgs (top 36), defBody (top 36), defScope (top 36), ["pot", "some"], ["pot", "some"], d24⟩
def f25 : Fx := ⟨"_law_same", defArgs (top 37), defBody (top 37), defScope (top 37), ["told", "due", "one", "its"], ["told", "due"], d25⟩
def f26 : Fx := ⟨"_law_letters", defArgs (top 38), defBody (top 38), defScope (top 38), ["pot", "letters", "many", "at"], ["pot", "letters", "many"], d26⟩
def f27 : Fx := ⟨"_law_word", defArgs (top 39), defBody (top 39), defScope (top 39), ["pot", "letters", "most", "line", "many", "piece", "word", "half", "at"], ["pot", "letters", "most"], d27⟩
def f28 : Fx := ⟨"_law_stretches", defArgs (top 40), defBody (top 40), defScope (top 40), ["word", "many", "found", "at"], ["word", "many"], d28⟩
def f29 : Fx := ⟨"_law_stretches_right", defArgs (top 41), defBody (top 41), defScope (top 41), ["pot", "word", "counts", "told", "many", "count", "full", "due"], ["pot", "word"], d29⟩
def f30 : Fx := ⟨"_law_begin", defArgs (top 42), defBody (top 42), defScope (top 42), ["stream", "many"], ["stream", "many"], d30⟩
def f31 : Fx := ⟨"_law_least", defArgs (top 43), defBody (top 43), defScope (top 43), ["stream", "ahead", "turn", "many", "step"], ["stream"], d31⟩
def f32 : Fx := ⟨"_law_otherwise", defArgs (top 44), defBody (top 44), defScope (top 44), ["pot", "stream", "ahead", "turn", "step"], ["pot", "stream"], d32⟩
def f33 : Fx := ⟨"_law_two_right", defArgs (top 45), defBody (top 45), defScope (top 45), ["stream", "other", "many", "one", "more", "due", "at", "told"], ["stream", "other"], d33⟩
def f34 : Fx := ⟨"_law_stream_right", defArgs (top 46), defBody (top 46), defScope (top 46), ["pot", "letters", "turn", "stream", "other", "least", "shown", "many", "due", "at", "bent", "far", "one"], ["pot", "letters"], d34⟩
def f35 : Fx := ⟨"_law_right", defArgs (top 47), defBody (top 47), defScope (top 47), ["pot", "letters", "turn"], ["pot"], d35⟩
def f36 : Fx := ⟨"law", defArgs (top 48), defBody (top 48), defScope (top 48), ["script", "k"], ["script"], d36⟩
def m : Md := ⟨[f0, f1, f2, f3, f4, f5, f6, f7, f8, f9, f10, f11, f12, f13, f14, f15, f16, f17, f18, f19, f20, f21, f22, f23, f24, f25, f26, f27, f28, f29, f30, f31, f32, f33, f34, f35, f36], [("ALL", .str [97, 98, 99]), ("MOST_LETTERS", .int 400), ("MOST_STREAM", .int 200), ("MOST_MANY", .int 60)], ["isinstance", "int", "bool", "str", "all", "len", "sorted", "set", "tuple", "min", "range", "max", "abs", "divmod", "list", "zip", "enumerate", "reversed", "repr"], [⟨17, 0, ["word"], [0]⟩, ⟨16, 0, ["many", "word"], [1, 0]⟩, ⟨21, 0, ["other", "stream"], [1, 0]⟩, ⟨20, 0, ["many", "stream"], [1, 0]⟩, ⟨19, 0, ["stream"], [0]⟩]⟩
theorem mF : m.F = F := by
  funext f
  unfold Md.F F
  rw [← List.getElem?_map]
  rfl
def most : Nat := 63
end Lawk12
namespace Lawk12
open PySem PySem.Spec PyProof.Rows L2 Pu
theorem ans (ns : List Int) (_ : ns.length ≤ most) : ∃ outs, callK m.F 60 36 [.rd ns] = some (.d (.bl true), outs) := by
  rw [mF]
  obtain ⟨v, o, e, q, _⟩ := Lawk12.law_main ns 60 (by decide)
  subst q
  exact ⟨o, e⟩
end Lawk12
namespace Lawk12
open PySem PySem.Spec PyProof.Rows L2 Pu
theorem bd0 : BindP f0 := fun _ _ _ _ _ _ us hl => match us, hl with | [_], _ => rfl
theorem co0 : (code m f0).1 = b0 := by kernel_rfl
theorem bd1 : BindP f1 := fun _ _ _ _ _ _ us hl => match us, hl with | [_], _ => rfl
theorem co1 : (code m f1).1 = b1 := by kernel_rfl
theorem bd2 : BindP f2 := fun _ _ _ _ _ _ us hl => match us, hl with | [_, _], _ => rfl
theorem co2 : (code m f2).1 = b2 := by kernel_rfl
theorem bd3 : BindP f3 := fun _ _ _ _ _ _ us hl => match us, hl with | [_], _ => rfl
theorem co3 : (code m f3).1 = b3 := by kernel_rfl
theorem bd4 : BindP f4 := fun _ _ _ _ _ _ us hl => match us, hl with | [_, _], _ => rfl
theorem co4 : (code m f4).1 = b4 := by kernel_rfl
theorem bd5 : BindP f5 := fun _ _ _ _ _ _ us hl => match us, hl with | [_], _ => rfl
theorem co5 : (code m f5).1 = b5 := by kernel_rfl
theorem bd6 : BindP f6 := fun _ _ _ _ _ _ us hl => match us, hl with | [_], _ => rfl
theorem co6 : (code m f6).1 = b6 := by kernel_rfl
theorem bd7 : BindP f7 := fun _ _ _ _ _ _ us hl => match us, hl with | [_], _ => rfl
theorem co7 : (code m f7).1 = b7 := by kernel_rfl
theorem bd8 : BindP f8 := fun _ _ _ _ _ _ us hl => match us, hl with | [_], _ => rfl
theorem co8 : (code m f8).1 = b8 := by kernel_rfl
theorem bd9 : BindP f9 := fun _ _ _ _ _ _ us hl => match us, hl with | [_], _ => rfl
theorem co9 : (code m f9).1 = b9 := by kernel_rfl
theorem bd10 : BindP f10 := fun _ _ _ _ _ _ us hl => match us, hl with | [_, _], _ => rfl
theorem co10 : (code m f10).1 = b10 := by kernel_rfl
theorem bd11 : BindP f11 := fun _ _ _ _ _ _ us hl => match us, hl with | [_, _], _ => rfl
theorem co11 : (code m f11).1 = b11 := by kernel_rfl
theorem bd12 : BindP f12 := fun _ _ _ _ _ _ us hl => match us, hl with | [_], _ => rfl
theorem co12 : (code m f12).1 = b12 := by kernel_rfl
theorem bd13 : BindP f13 := fun _ _ _ _ _ _ us hl => match us, hl with | [_], _ => rfl
theorem co13 : (code m f13).1 = b13 := by kernel_rfl
theorem bd14 : BindP f14 := fun _ _ _ _ _ _ us hl => match us, hl with | [_, _], _ => rfl
theorem co14 : (code m f14).1 = b14 := by kernel_rfl
theorem bd15 : BindP f15 := fun _ _ _ _ _ _ us hl => match us, hl with | [_, _], _ => rfl
theorem co15 : (code m f15).1 = b15 := by kernel_rfl
theorem bd16 : BindP f16 := fun _ _ _ _ _ _ us hl => match us, hl with | [_, _], _ => rfl
theorem co16 : (code m f16).1 = b16 := by kernel_rfl
theorem bd17 : BindP f17 := fun _ _ _ _ _ _ us hl => match us, hl with | [_], _ => rfl
theorem co17 : (code m f17).1 = b17 := by kernel_rfl
theorem bd18 : BindP f18 := fun _ _ _ _ _ _ us hl => match us, hl with | [_], _ => rfl
theorem co18 : (code m f18).1 = b18 := by kernel_rfl
theorem bd19 : BindP f19 := fun _ _ _ _ _ _ us hl => match us, hl with | [_], _ => rfl
theorem co19 : (code m f19).1 = b19 := by kernel_rfl
theorem bd20 : BindP f20 := fun _ _ _ _ _ _ us hl => match us, hl with | [_, _], _ => rfl
theorem co20 : (code m f20).1 = b20 := by kernel_rfl
theorem bd21 : BindP f21 := fun _ _ _ _ _ _ us hl => match us, hl with | [_, _], _ => rfl
theorem co21 : (code m f21).1 = b21 := by kernel_rfl
theorem bd22 : BindP f22 := fun _ _ _ _ _ _ us hl => match us, hl with | [_, _], _ => rfl
theorem co22 : (code m f22).1 = b22 := by kernel_rfl
theorem bd23 : BindP f23 := fun _ _ _ _ _ _ us hl => match us, hl with | [_, _], _ => rfl
theorem co23 : (code m f23).1 = b23 := by kernel_rfl
theorem bd24 : BindP f24 := fun _ _ _ _ _ _ us hl => match us, hl with | [_, _], _ => rfl
theorem co24 : (code m f24).1 = b24 := by kernel_rfl
theorem bd25 : BindP f25 := fun _ _ _ _ _ _ us hl => match us, hl with | [_, _], _ => rfl
theorem co25 : (code m f25).1 = b25 := by kernel_rfl
theorem bd26 : BindP f26 := fun _ _ _ _ _ _ us hl => match us, hl with | [_, _, _], _ => rfl
theorem co26 : (code m f26).1 = b26 := by kernel_rfl
theorem bd27 : BindP f27 := fun _ _ _ _ _ _ us hl => match us, hl with | [_, _, _], _ => rfl
theorem co27 : (code m f27).1 = b27 := by kernel_rfl
theorem bd28 : BindP f28 := fun _ _ _ _ _ _ us hl => match us, hl with | [_, _], _ => rfl
theorem co28 : (code m f28).1 = b28 := by kernel_rfl
theorem bd29 : BindP f29 := fun _ _ _ _ _ _ us hl => match us, hl with | [_, _], _ => rfl
theorem co29 : (code m f29).1 = b29 := by kernel_rfl
theorem bd30 : BindP f30 := fun _ _ _ _ _ _ us hl => match us, hl with | [_, _], _ => rfl
theorem co30 : (code m f30).1 = b30 := by kernel_rfl
theorem bd31 : BindP f31 := fun _ _ _ _ _ _ us hl => match us, hl with | [_], _ => rfl
theorem co31 : (code m f31).1 = b31 := by kernel_rfl
theorem bd32 : BindP f32 := fun _ _ _ _ _ _ us hl => match us, hl with | [_, _], _ => rfl
theorem co32 : (code m f32).1 = b32 := by kernel_rfl
theorem bd33 : BindP f33 := fun _ _ _ _ _ _ us hl => match us, hl with | [_, _], _ => rfl
theorem co33 : (code m f33).1 = b33 := by kernel_rfl
theorem bd34 : BindP f34 := fun _ _ _ _ _ _ us hl => match us, hl with | [_, _], _ => rfl
theorem co34 : (code m f34).1 = b34 := by kernel_rfl
theorem bd35 : BindP f35 := fun _ _ _ _ _ _ us hl => match us, hl with | [_], _ => rfl
theorem co35 : (code m f35).1 = b35 := by kernel_rfl
theorem bd36 : BindP f36 := fun _ _ _ _ _ _ us hl => match us, hl with | [_], _ => rfl
theorem co36 : (code m f36).1 = b36 := by kernel_rfl
theorem kb0 : KBindP f17 ⟨17, 0, ["word"], [0]⟩ := fun _ _ _ _ _ _ us ws h1 h2 => match us, ws, h1, h2 with | [], [_], _, _ => rfl
theorem kb1 : KBindP f16 ⟨16, 0, ["many", "word"], [1, 0]⟩ := fun _ _ _ _ _ _ us ws h1 h2 => match us, ws, h1, h2 with | [], [_, _], _, _ => rfl
theorem kb2 : KBindP f21 ⟨21, 0, ["other", "stream"], [1, 0]⟩ := fun _ _ _ _ _ _ us ws h1 h2 => match us, ws, h1, h2 with | [], [_, _], _, _ => rfl
theorem kb3 : KBindP f20 ⟨20, 0, ["many", "stream"], [1, 0]⟩ := fun _ _ _ _ _ _ us ws h1 h2 => match us, ws, h1, h2 with | [], [_, _], _, _ => rfl
theorem kb4 : KBindP f19 ⟨19, 0, ["stream"], [0]⟩ := fun _ _ _ _ _ _ us ws h1 h2 => match us, ws, h1, h2 with | [], [_], _, _ => rfl
theorem st : MdSt m where
  sc := by decide +kernel
  gc := by decide +kernel
  bd := List.forall_mem_cons.mpr ⟨bd0, List.forall_mem_cons.mpr ⟨bd1, List.forall_mem_cons.mpr ⟨bd2, List.forall_mem_cons.mpr ⟨bd3, List.forall_mem_cons.mpr ⟨bd4, List.forall_mem_cons.mpr ⟨bd5, List.forall_mem_cons.mpr ⟨bd6, List.forall_mem_cons.mpr ⟨bd7, List.forall_mem_cons.mpr ⟨bd8, List.forall_mem_cons.mpr ⟨bd9, List.forall_mem_cons.mpr ⟨bd10, List.forall_mem_cons.mpr ⟨bd11, List.forall_mem_cons.mpr ⟨bd12, List.forall_mem_cons.mpr ⟨bd13, List.forall_mem_cons.mpr ⟨bd14, List.forall_mem_cons.mpr ⟨bd15, List.forall_mem_cons.mpr ⟨bd16, List.forall_mem_cons.mpr ⟨bd17, List.forall_mem_cons.mpr ⟨bd18, List.forall_mem_cons.mpr ⟨bd19, List.forall_mem_cons.mpr ⟨bd20, List.forall_mem_cons.mpr ⟨bd21, List.forall_mem_cons.mpr ⟨bd22, List.forall_mem_cons.mpr ⟨bd23, List.forall_mem_cons.mpr ⟨bd24, List.forall_mem_cons.mpr ⟨bd25, List.forall_mem_cons.mpr ⟨bd26, List.forall_mem_cons.mpr ⟨bd27, List.forall_mem_cons.mpr ⟨bd28, List.forall_mem_cons.mpr ⟨bd29, List.forall_mem_cons.mpr ⟨bd30, List.forall_mem_cons.mpr ⟨bd31, List.forall_mem_cons.mpr ⟨bd32, List.forall_mem_cons.mpr ⟨bd33, List.forall_mem_cons.mpr ⟨bd34, List.forall_mem_cons.mpr ⟨bd35, List.forall_mem_cons.mpr ⟨bd36, fun _ z => nomatch z⟩⟩⟩⟩⟩⟩⟩⟩⟩⟩⟩⟩⟩⟩⟩⟩⟩⟩⟩⟩⟩⟩⟩⟩⟩⟩⟩⟩⟩⟩⟩⟩⟩⟩⟩⟩⟩
  kb := List.forall_mem_cons.mpr ⟨(fun d e => by cases e; exact kb0), List.forall_mem_cons.mpr ⟨(fun d e => by cases e; exact kb1), List.forall_mem_cons.mpr ⟨(fun d e => by cases e; exact kb2), List.forall_mem_cons.mpr ⟨(fun d e => by cases e; exact kb3), List.forall_mem_cons.mpr ⟨(fun d e => by cases e; exact kb4), fun _ z => nomatch z⟩⟩⟩⟩⟩
  code := List.forall_mem_cons.mpr ⟨co0, List.forall_mem_cons.mpr ⟨co1, List.forall_mem_cons.mpr ⟨co2, List.forall_mem_cons.mpr ⟨co3, List.forall_mem_cons.mpr ⟨co4, List.forall_mem_cons.mpr ⟨co5, List.forall_mem_cons.mpr ⟨co6, List.forall_mem_cons.mpr ⟨co7, List.forall_mem_cons.mpr ⟨co8, List.forall_mem_cons.mpr ⟨co9, List.forall_mem_cons.mpr ⟨co10, List.forall_mem_cons.mpr ⟨co11, List.forall_mem_cons.mpr ⟨co12, List.forall_mem_cons.mpr ⟨co13, List.forall_mem_cons.mpr ⟨co14, List.forall_mem_cons.mpr ⟨co15, List.forall_mem_cons.mpr ⟨co16, List.forall_mem_cons.mpr ⟨co17, List.forall_mem_cons.mpr ⟨co18, List.forall_mem_cons.mpr ⟨co19, List.forall_mem_cons.mpr ⟨co20, List.forall_mem_cons.mpr ⟨co21, List.forall_mem_cons.mpr ⟨co22, List.forall_mem_cons.mpr ⟨co23, List.forall_mem_cons.mpr ⟨co24, List.forall_mem_cons.mpr ⟨co25, List.forall_mem_cons.mpr ⟨co26, List.forall_mem_cons.mpr ⟨co27, List.forall_mem_cons.mpr ⟨co28, List.forall_mem_cons.mpr ⟨co29, List.forall_mem_cons.mpr ⟨co30, List.forall_mem_cons.mpr ⟨co31, List.forall_mem_cons.mpr ⟨co32, List.forall_mem_cons.mpr ⟨co33, List.forall_mem_cons.mpr ⟨co34, List.forall_mem_cons.mpr ⟨co35, List.forall_mem_cons.mpr ⟨co36, fun _ z => nomatch z⟩⟩⟩⟩⟩⟩⟩⟩⟩⟩⟩⟩⟩⟩⟩⟩⟩⟩⟩⟩⟩⟩⟩⟩⟩⟩⟩⟩⟩⟩⟩⟩⟩⟩⟩⟩⟩
abbrev R : PySem.W.OpenRow := PySem.W.OpenLaw.row PySem.Challenge.rw_spelledonce_k12_whole_stretches_and_stre
abbrev hk : PySem.W.Hook := He.hookD 4 m.fa m.fnH
def ob (s : PySem.W.SharedT) : He.AlD := He.obsDG 4 m.fa m.fnH (HandSHeadRun.getT s)
theorem ob_eq (s : PySem.W.SharedT) : ob s = hk.obs s.abs := He.obsDG_eq (HandSHeadRun.getT_eq s)
def lo : List Str := (["is_integer", "is_count", "WordError", "InvalidWord", "InvalidStream", "InvalidMany", "ALL", "MOST_LETTERS", "MOST_MANY", "MOST_STREAM", "over", "word_is_right", "is_over", "shortest_first", "stream_is_right", "check_word", "check_many", "check_stream", "common_begin", "stretches_of", "root_round", "least_of", "first_letters", "far_enough", "stretches", "stretch_counts", "is_stream", "least_stream", "stream_begin", "streams_part"] : List Str) ++ (["_law_pot", "_law_draw", "_law_pick", "_law_same", "_law_letters", "_law_word", "_law_stretches", "_law_stretches_right", "_law_begin", "_law_least", "_law_otherwise", "_law_two_right", "_law_stream_right", "_law_right"] : List Str)
theorem run (w : World) : HandSHeadRun.RunEq R (PySem.W.view R.prog [48]) hk ob 4000 lo w := by
  intro os
  kernel_rfl
end Lawk12
open PySem PySem.W PySem.Calls PyProof.Rows
theorem PySem.Challenge.cw_spelledonce_k12_whole_stretches_and_stre_holds : PySem.Challenge.rw_spelledonce_k12_whole_stretches_and_stre.Holds := by
  w_on; o_law
  refine HandSHeadRun.head_any (r := OpenLaw.row PySem.Challenge.rw_spelledonce_k12_whole_stretches_and_stre) (q := view (OpenLaw.row PySem.Challenge.rw_spelledonce_k12_whole_stretches_and_stre).prog [48]) (H := Lawk12.hk) (ob := Lawk12.ob) (M := 4000) (loose := Lawk12.lo) (d := HandSHeadRun.topDef (OpenLaw.row PySem.Challenge.rw_spelledonce_k12_whole_stretches_and_stre).prog 48) (kwd := []) Lawk12.ob_eq
    (by kernel_rfl) (fun s => by kernel_rfl) Lawk12.run (by kernel_rfl) (by kernel_rfl) (by kernel_rfl) (by rfl) (by first | assumption | decide +kernel) (by decide +kernel) ⟨rfl, rfl, rfl, rfl, rfl, by decide +kernel⟩ ?hw ?hc
  case hw => w_witness2
  case hc =>
    exact Pu.walk_pu (l := PySem.Challenge.rw_spelledonce_k12_whole_stretches_and_stre) (n := Lawk12.most) (k := 60) (fL := 36) (x := "script") rfl (by decide +kernel) (by kernel_rfl) ⟨rfl, by decide, by decide⟩ Lawk12.st (dL := Lawk12.f36) rfl (by kernel_rfl) rfl (fun _ _ z => z) Lawk12.ans
