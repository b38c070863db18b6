import PyProof.Rows.All
import Wide.All
import OpenK.AllK
import Wide.FinOn
import HandS.ForMost
import HandS.Wide
import HandS.ForExc
import HandS.CallSlots
import HandS.TupAny
import HandS.SortInts
import HandS.Conv
import HandS.Deep
import HandS.IsInst
import HandS.Style
import HandS.Flow
import HandS.Iter
import HandS.DictTup
import KE.KIndexOf
import PyProof.WalkInts
import HandS.Zip
import KE.KDictZip
import KE.KDictPairs
import HandS.More
import HandS.NamedTupSort
import HandS.Ends
import KE.KEqSeq
import PySem.Challenge.RW_kindmakes_k73_who_leaves_a_structure
set_option Elab.async false
set_option linter.all false
set_option maxRecDepth 100000
/-! QA: a small language of pure values: trees, and flat lists and dicts each owned by one slot; its evaluator. -/
namespace Q
open PySem L2

abbrev D := PyData
inductive Val where
  | d (x : D)
  | lst (xs : List D)
  | dct (kvs : List (Key × D))
  | ins (c : Str) (fs : List (Str × D))
  /-- read only: the script; (t) a plain tuple that a slot keeps -/
  | scr (xs : List D) (t : Bool)
abbrev Rho := List (Option Val)
structure Exn where
  c : Str
  fs : List (Str × D)
/-- a handle: a value of one's own, or the thing that a slot holds -/
inductive Hd where
  | v (x : Val)
  | s (i : Nat)
inductive Out (α : Type) where
  | ok (a : α) (r : Rho)
  | exc (e : Exn) (r : Rho)
  | bad
inductive SO where
  | next (r : Rho)
  | ret (x : Val) (r : Rho)
  | brk (r : Rho)
  | cnt (r : Rho)
  | exc (e : Exn) (r : Rho)
  | bad
inductive CR where
  | ok (x : Val) (outs : Rho)
  | exc (e : Exn) (outs : Rho)
  | bad
abbrev FT := Nat → List Val → CR

inductive BOp where | add | sub | mul | mod | fdiv | pow
  deriving DecidableEq, Repr
inductive COp where | eq | ne | lt | le | gt | ge | inn | nin | isn | isnn
  deriving DecidableEq, Repr
inductive F1 where | tuple | list | sorted | min | max | sum | len | int | str | repr | dict | all | any | lenset
  deriving DecidableEq, Repr
inductive F2 where | min | max
  deriving DecidableEq, Repr
inductive Ty where | int | bool | str | tuple | list
  deriving DecidableEq, Repr
/-- methods that read -/
inductive Mt where | index | get1 | get2 | join | split | count
  deriving DecidableEq, Repr
/-- methods that change a slot's thing -/
inductive Mu where | append | pop0 | pop1 | insert | reverse | clear
  deriving DecidableEq, Repr
/-- what is made of an iterator -/
inductive Cv where | tuple | list | dict
  deriving DecidableEq, Repr

/-- expressions, lists of them (nil, cons), iterators -/
inductive IE where
  | k (x : D)
  | var (i : Nat)
  | nil
  | cons (e es : IE)
  | tup (es : IE)
  | lst (es : IE)
  | bin (o : BOp) (a b : IE)
  | neg (a : IE)
  | cmp (o : COp) (a b : IE)
  | chain (o1 o2 : COp) (a b c : IE)
  | and (a b : IE)
  | or (a b : IE)
  | not (a : IE)
  | ife (c a b : IE)
  | ix (a b : IE)
  | sl (a lo hi : IE)
  | bnd (a : IE)
  | rev (a : IE)
  | call (f : Nat) (es : IE)
  | f1 (f : F1) (a : IE)
  | f2 (f : F2) (a b : IE)
  | isi (a : IE) (ts : List Ty)
  | mth (m : Mt) (a es : IE)
  | mut (m : Mu) (i : Nat) (es : IE)
  | ext (i : Nat) (e : IE)
  | cv (c : Cv) (it : IE)
  | lc (own : List Nat) (tg : List Nat) (one : Bool) (it : IE) (cs : IE) (elt : IE)
  | dnew
  | dsp (ks vs : IE)
  -- iterators
  | seq (e : IE)
  | rng1 (a : IE)
  | rng2 (a b : IE)
  | zip (a b : IE)
  | enum (a : IE)
  | vals (a : IE)

inductive IS where
  | skip
  | sq (s t : IS)
  | asg (i : Nat) (e : IE)
  | unp (is : List Nat) (e : IE)
  | setix (i : Nat) (ki e : IE)
  | ex (e : IE)
  | ret (e : IE)
  | iff (c : IE) (a b : IS)
  | for_ (tg : List Nat) (one : Bool) (it : IE) (b : IS)
  | whl (c : IE) (b : IS)
  | rais (c : Str) (fs : List Str) (es : IE)
  | brk
  | cnt
  | no

/-! ### values -/
def isMut : Val → Bool
  | .d _ => false
  | .scr _ _ => false
  | _ => true
def gt (r : Rho) (i : Nat) : Option Val := r.getD i none
def dr (r : Rho) : Hd → Option Val
  | .v x => some x
  | .s i => gt r i
def fz : Val → Option D
  | .d x => some x
  | .lst xs => some (.list xs)
  | _ => none
/-- as a tree: what a slot holds is frozen there -/
def tr (r : Rho) : Hd → Option (D × Rho)
  | .v x => match fz x with
    | some t => some (t, r)
    | none => none
  | .s i => match gt r i with
    | some x => match fz x with
      | some t => some (t, r.set i (some (.d t)))
      | none => none
    | none => none
def lstOf : Val → Option (List D)
  | .lst xs => some xs
  | .d (.list xs) => some xs
  | _ => none
def seqOf : Val → Option (List D)
  | .lst xs => some xs
  | .d (.list xs) => some xs
  | .d (.tuple xs) => some xs
  | _ => none
def keyOf : D → Option Key
  | .int i => some (.inl i)
  | .str x => some (.inr x)
  | _ => none
def unkey : Key → D
  | .inl i => .int i
  | .inr x => .str x
def lookD (kvs : List (Key × D)) (k : Key) : Option D := (kvs.find? fun kv => decide (kv.1 = k)).map (·.2)
def putD (kvs : List (Key × D)) (k : Key) (v : D) : List (Key × D) :=
  if (kvs.any fun kv => decide (kv.1 = k)) = true then kvs.map (fun kv => if kv.1 = k then (kv.1, v) else kv) else kvs ++ [(k, v)]
def mergeD (kvs : List (Key × D)) : List (Key × D) → List (Key × D)
  | [] => kvs
  | p :: ps => mergeD (putD kvs p.1 p.2) ps
def intsOf : List D → Option (List Int)
  | [] => some []
  | .int i :: r => match intsOf r with
    | some is => some (i :: is)
    | none => none
  | _ :: _ => none
def strsOf : List D → Option (List Str)
  | [] => some []
  | .str i :: r => match strsOf r with
    | some is => some (i :: is)
    | none => none
  | _ :: _ => none
def blsOf : List D → Option (List Bool)
  | [] => some []
  | .bool i :: r => match blsOf r with
    | some is => some (i :: is)
    | none => none
  | _ :: _ => none
def pairsOf : List D → Option (List (Key × D))
  | [] => some []
  | .tuple [a, b] :: r => match keyOf a, pairsOf r with
    | some k, some ps => some ((k, b) :: ps)
    | _, _ => none
  | _ :: _ => none
def flatD : D → Bool
  | .none => true | .bool _ => true | .int _ => true | .str _ => true
  | _ => false
/-- the tree's own == for what == can be asked of -/
def eqD (a b : D) : Option Bool :=
  match a, b with
  | .int i, .int j => some (decide (i = j))
  | .str x, .str y => some (decide (x = y))
  | .bool x, .bool y => some (decide (x = y))
  | a, b => if SeqAt.shaped a && SeqAt.shaped b then some (PyData.eqv a b) else none
def seen : Val → Option D
  | .d x => some x
  | .scr xs false => some (.list xs)
  | .lst xs => some (.list xs)
  | _ => none
def eqV (x y : Val) : Option Bool := match seen x, seen y with
  | some a, some b => eqD a b
  | _, _ => none
def inD (x : D) (ys : List D) : Bool := ys.any fun y => PyData.eqv y x
def inV (x y : Val) : Option Bool := match x, y with
  | .d (.str a), .d (.str b) => some (!(Builtin.Str.occurrences b a 0 b.length 1).isEmpty)
  | .d a, .dct kvs => match keyOf a with
    | some k => some (lookD kvs k).isSome
    | none => none
  | .d a, y => match seqOf y with
    | some ys => if flatD a && ys.all flatD then some (inD a ys) else none
    | none => none
  | _, _ => none
def addV (x y : Val) : Option Val := match x, y with
  | .d (.int i), .d (.int j) => some (.d (.int (i + j)))
  | .d (.str x), .d (.str y) => if x.length + y.length ≤ sizeLine then some (.d (.str (x ++ y))) else none
  | .d (.tuple xs), .d (.tuple ys) => if xs.length + ys.length ≤ sizeLine then some (.d (.tuple (xs ++ ys))) else none
  | x, y => match lstOf x, lstOf y with
    | some xs, some ys => if xs.length + ys.length ≤ sizeLine then some (.lst (xs ++ ys)) else none
    | _, _ => none
def subV (x y : Val) : Option Val := match x, y with
  | .d (.int i), .d (.int j) => some (.d (.int (i - j)))
  | _, _ => none
def mulV (x y : Val) : Option Val := match x, y with
  | .d (.int i), .d (.int j) => if i.natAbs.log2 + j.natAbs.log2 < 1000000 then some (.d (.int (i * j))) else none
  | x, .d (.int k) => match lstOf x with
    | some xs => if -(2 ^ 63) ≤ k ∧ k < 2 ^ 63 ∧ xs.length * k.toNat ≤ sizeLine then some (.lst (List.replicate k.toNat xs).flatten) else none
    | none => none
  | _, _ => none
def modV (x y : Val) : Option Val := match x, y with
  | .d (.int i), .d (.int j) => if 0 < j then some (.d (.int (i % j))) else none
  | _, _ => none
def fdivV (x y : Val) : Option Val := match x, y with
  | .d (.int i), .d (.int j) => if 0 < j ∧ j.natAbs.log2 < 9000 then some (.d (.int (i / j))) else none
  | _, _ => none
def powV (x y : Val) : Option Val := match x, y with
  | .d (.int i), .d (.int j) => if 0 ≤ j ∧ j ≤ 1000000 ∧ i.natAbs < 2 ^ 64 then some (.d (.int (i ^ j.toNat))) else none
  | _, _ => none
def binV : BOp → Val → Val → Option Val
  | .add => addV
  | .sub => subV
  | .mul => mulV
  | .mod => modV
  | .fdiv => fdivV
  | .pow => powV
def cmpI (f : Int → Int → Bool) : Val → Val → Option Bool
  | .d (.int i), .d (.int j) => some (f i j)
  | _, _ => none
def cmpV : COp → Val → Val → Option Bool
  | .eq, x, y => eqV x y
  | .ne, x, y => (eqV x y).map (!·)
  | .lt, x, y => cmpI (fun i j => decide (i < j)) x y
  | .le, x, y => cmpI (fun i j => decide (i ≤ j)) x y
  | .gt, x, y => cmpI (fun i j => decide (j < i)) x y
  | .ge, x, y => cmpI (fun i j => decide (j ≤ i)) x y
  | .inn, x, y => inV x y
  | .nin, x, y => (inV x y).map (!·)
  | .isn, x, y => match x, y with
    | .d a, .d .none => match a with
      | .none => some true
      | _ => some false
    | _, _ => none
  | .isnn, x, y => match x, y with
    | .d a, .d .none => match a with
      | .none => some false
      | _ => some true
    | _, _ => none
def ixV (x y : Val) : Option D := match x, y with
  | .d (.str z), .d (.int i) => if z.length ≤ sizeLine then match atI z.cps.toList i with
    | some c => some (.str ⟨#[c]⟩)
    | none => none
    else none
  | .dct kvs, .d k => match keyOf k with
    | some k => lookD kvs k
    | none => none
  | x, .d (.int i) => match seqOf x with
    | some xs => atI xs i
    | none => none
  | _, _ => none
def cutD (xs : List D) (lo hi : Option Int) : List D := (xs.drop (HT.sIx xs.length 0 lo)).take (HT.sIx xs.length xs.length hi - HT.sIx xs.length 0 lo)
def slV (l h : Option Int) (x : Val) : Option Val := match x with
    | .d (.tuple xs) => some (.d (.tuple (cutD xs l h)))
    | .scr xs false => some (.lst (cutD xs l h))
    | x => match lstOf x with
      | some xs => some (.lst (cutD xs l h))
      | none => none
/-! order -/
def insI (x : Int) : List Int → List Int
  | [] => [x]
  | y :: r => if x ≤ y then x :: y :: r else y :: insI x r
def sortI : List Int → List Int
  | [] => []
  | x :: r => insI x (sortI r)
/-- rows: tuples of tuples of ints, by their order -/
def ltR : List (List Int) → List (List Int) → Bool
  | [], [] => false
  | [], _ :: _ => true
  | _ :: _, [] => false
  | x :: xs, y :: ys => if x = y then ltR xs ys else HT.lexLt x y
def insR (x : List (List Int)) : List (List (List Int)) → List (List (List Int))
  | [] => [x]
  | y :: r => if ltR y x then y :: insR x r else x :: y :: r
def sortR : List (List (List Int)) → List (List (List Int))
  | [] => []
  | x :: r => insR x (sortR r)
def rowsIn : List D → Option (List (List Int))
  | [] => some []
  | .tuple ys :: r => match intsOf ys, rowsIn r with
    | some n, some ns => some (n :: ns)
    | _, _ => none
  | _ :: _ => none
def rowsAll : List D → Option (List (List (List Int)))
  | [] => some []
  | .tuple ys :: r => match rowsIn ys, rowsAll r with
    | some n, some ns => some (n :: ns)
    | _, _ => none
  | _ :: _ => none
def toD (r : List (List Int)) : D := .tuple (r.map fun n => .tuple (n.map .int))
def minL : Int → List Int → Int
  | m, [] => m
  | m, x :: r => minL (if x < m then x else m) r
def maxL : Int → List Int → Int
  | m, [] => m
  | m, x :: r => maxL (if m < x then x else m) r
def showOk (d : D) : Bool := d.showable && !d.hasDict && decide (d.depth ≤ 64) && decide (d.shown.length ≤ sizeLine)
def f1V (f : F1) (x : Val) : Option Val := match f with
  | .len => match x with
    | .d (.str z) => if z.length ≤ sizeLine then some (.d (.int z.length)) else none
    | .dct kvs => some (.d (.int kvs.length))
    | x => match seqOf x with
      | some xs => some (.d (.int xs.length))
      | none => none
  | .tuple => match seqOf x with
    | some xs => some (.d (.tuple xs))
    | none => none
  | .list => match seqOf x with
    | some xs => some (.lst xs)
    | none => none
  | .sorted => match seqOf x with
    | some xs => match intsOf xs with
      | some is => some (.lst ((sortI is).map .int))
      | none => match rowsAll xs with
        | some rs => if decide (rs.length < 2) || rs.all (fun r => !r.isEmpty) then some (.lst ((sortR rs).map toD)) else none
        | none => none
    | none => none
  | .min => match seqOf x with
    | some xs => match intsOf xs with
      | some (i :: is) => some (.d (.int (minL i is)))
      | _ => none
    | none => none
  | .max => match seqOf x with
    | some xs => match intsOf xs with
      | some (i :: is) => some (.d (.int (maxL i is)))
      | _ => none
    | none => none
  | .sum => match lstOf x with
    | some xs => match intsOf xs with
      | some is => some (.d (.int is.sum))
      | none => none
    | none => none
  | .int => match x with
    | .d (.int i) => some (.d (.int i))
    | .d (.bool b) => some (.d (.int (if b then 1 else 0)))
    | _ => none
  | .str => match x with
    | .d (.int i) => if i.natAbs.log2 < 1920 then some (.d (.str (toString i))) else none
    | _ => none
  | .repr => match seqOf x, seen x with
    | some _, some d => if showOk d then some (.d (.str d.shown)) else none
    | _, _ => none
  | .dict => match x with
    | .dct kvs => some (.dct kvs)
    | x => match seqOf x with
      | some xs => match pairsOf xs with
        | some ps => some (.dct (mergeD [] ps))
        | none => none
      | none => none
  | .all => match lstOf x with
    | some xs => match blsOf xs with
      | some bs => some (.d (.bool (bs.all id)))
      | none => none
    | none => none
  | .any => match lstOf x with
    | some xs => match blsOf xs with
      | some bs => some (.d (.bool (bs.any id)))
      | none => none
    | none => none
  | .lenset => none
def f2V (f : F2) (x y : Val) : Option D := match f, x, y with
  | .min, .d (.int i), .d (.int j) => some (.int (if j < i then j else i))
  | .max, .d (.int i), .d (.int j) => some (.int (if j > i then j else i))
  | _, _, _ => none
def tyD : D → Option Ty
  | .int _ => some .int
  | .bool _ => some .bool
  | .str _ => some .str
  | .tuple _ => some .tuple
  | .list _ => some .list
  | _ => none
def isTy : Ty → Ty → Bool
  | .bool, .int => true
  | a, b => decide (a = b)
def isiV (x : Val) (ts : List Ty) : Option Bool := match x with
  | .d .none => some false
  | .d x => match tyD x with
    | some t => some (ts.any (isTy t))
    | none => none
  | .lst _ => some (ts.any (isTy .list))
  | _ => none
def idxD (x : D) : List D → Nat → Option Nat
  | [], _ => none
  | y :: r, i => if PyData.eqv y x then some i else idxD x r (i + 1)
def mthV (m : Mt) (x : Val) (es : List Val) : Option Val := match m, es with
  | .index, [.d y] => match lstOf x with
    | some xs => if flatD y && xs.all flatD then match idxD y xs 0 with
      | some i => some (.d (.int (i : Int)))
      | none => none
      else none
    | none => none
  | _, _ => none
/-- a plain tuple's index, ints alone -/
def idxTV (xs : List D) (k : Int) : Option Nat := match intsOf xs with
  | some _ => idxD (.int k) xs 0
  | none => none
/-- the result and what then stands -/
def mutL (m : Mu) (xs : List D) (es : List D) : Option (D × List D) := match m, es with
  | .append, [y] => if xs.length < sizeLine then some (.none, xs ++ [y]) else none
  | .reverse, [] => some (.none, xs.reverse)
  | .pop1, [.int i] => if -(2 ^ 63) ≤ i ∧ i < 2 ^ 63 then match seqIndex? i xs.length with
    | some k => match xs[k]? with
      | some y => some (y, xs.eraseIdx k)
      | none => none
    | none => none
    else none
  | _, _ => none
def setV (x : Val) (k : Val) (v : D) : Option Val := match x, k with
  | .lst xs, .d (.int i) => match ixN xs.length i with
    | some j => some (.lst (xs.set j v))
    | none => none
  | .dct kvs, .d k => match keyOf k with
    | some k => if kvs.length < sizeLine then some (.dct (putD kvs k v)) else none
    | none => none
  | _, _ => none
def rngD (lo : Int) (n : Nat) : List D := (List.range n).map fun (i : Nat) => .int (lo + (i : Int))
def zipD (xs ys : List D) : List D := (xs.zip ys).map fun p => .tuple [p.1, p.2]
def enumD (xs : List D) : List D := xs.zipIdx.map fun p => .tuple [.int (p.2 : Int), p.1]
def cvV (c : Cv) (xs : List D) : Option Val := match c with
  | .tuple => if xs.length ≤ sizeLine then some (.d (.tuple xs)) else none
  | .list => if xs.length ≤ sizeLine then some (.lst xs) else none
  | .dict => match pairsOf xs with
    | some ps => some (.dct (mergeD [] ps))
    | none => none

/-! ### the evaluator -/
def Out.bind {α β : Type} (o : Out α) (f : α → Rho → Out β) : Out β := match o with
  | .ok a r => f a r
  | .exc e r => .exc e r
  | .bad => .bad
def lift1 {α : Type} (r : Rho) (h : Hd) (f : Val → Option α) (g : α → Val) : Out Hd := match dr r h with
  | some x => match f x with
    | some z => .ok (.v (g z)) r
    | none => .bad
  | none => .bad
def lift2 {α : Type} (r : Rho) (h h' : Hd) (f : Val → Val → Option α) (g : α → Val) : Out Hd := match dr r h, dr r h' with
  | some x, some y => match f x y with
    | some z => .ok (.v (g z)) r
    | none => .bad
  | _, _ => .bad
def ofB (b : Bool) : Val := .d (.bool b)
def tstO (o : Out Hd) : Out Bool := match o with
  | .ok (.v (.d (.bool b))) r => .ok b r
  | .ok _ _ => .bad
  | .exc e r => .exc e r
  | .bad => .bad
def treeO (o : Out Hd) : Out D := match o with
  | .ok h r => match tr r h with
    | some (t, r') => .ok t r'
    | none => .bad
  | .exc e r => .exc e r
  | .bad => .bad
def treesH (r : Rho) : List Hd → Option (List D × Rho)
  | [] => some ([], r)
  | h :: hs => match tr r h with
    | some (t, r1) => match treesH r1 hs with
      | some (ts, r2) => some (t :: ts, r2)
      | none => none
    | none => none
def drs (r : Rho) : List Hd → Option (List Val)
  | [] => some []
  | h :: hs => match dr r h, drs r hs with
    | some x, some xs => some (x :: xs)
    | _, _ => none
def slotsOf : List Hd → List Nat
  | [] => []
  | .v _ :: hs => slotsOf hs
  | .s i :: hs => i :: slotsOf hs
def putOuts (r : Rho) : List Hd → List Val → Rho → Rho
  | .s i :: hs, x :: xs, o :: os => putOuts (if isMut x then r.set i o else r) hs xs os
  | .v _ :: hs, _ :: xs, _ :: os => putOuts r hs xs os
  | _, _, _ => r
def callO (f : List Val → CR) (hs : List Hd) (r : Rho) : Out Hd :=
  match drs r hs with
  | some xs => if (slotsOf hs).Nodup then match f xs with
    | .ok x outs => .ok (.v x) (putOuts r hs xs outs)
    | .exc e outs => .exc e (putOuts r hs xs outs)
    | .bad => .bad
    else .bad
  | none => .bad
/-- targets -/
def setAll (r : Rho) : List Nat → List D → Option Rho
  | [], [] => some r
  | i :: is, x :: xs => setAll (r.set i (some (.d x))) is xs
  | _, _ => none
def tgt (tg : List Nat) (one : Bool) (x : D) (r : Rho) : Option Rho :=
  if one then setAll r tg [x] else match x with
    | .tuple xs => setAll r tg xs
    | _ => none
def wipeR (r : Rho) : List Nat → Rho
  | [] => r
  | i :: is => (wipeR r is).set i none
/-- the own slots as they were -/
def backR (r0 r : Rho) : List Nat → Rho
  | [] => r
  | i :: is => (backR r0 r is).set i (gt r0 i)
def ownOk (r : Rho) (own : List Nat) : Bool := own.all fun i => match gt r i with
  | none => true
  | some x => !isMut x
def lcL (tg : List Nat) (one : Bool) (own : List Nat) (c : Rho → Out Bool) (e : Rho → Out D) : List D → List D → Rho → Out (List D)
  | [], acc, r => .ok acc r
  | x :: xs, acc, r => match tgt tg one x (wipeR r own) with
    | some r1 => match c r1 with
      | .ok true r2 => match e r2 with
        | .ok y r3 => if acc.length < sizeLine then lcL tg one own c e xs (acc ++ [y]) r3 else .bad
        | _ => .bad
      | .ok false r2 => lcL tg one own c e xs acc r2
      | _ => .bad
    | none => .bad
def lcO (own : List Nat) (r0 : Rho) (o : Out (List D)) : Out Hd := match o with
  | .ok ys r => if ownOk r own then .ok (.v (.lst ys)) (backR r0 r own) else .bad
  | .exc _ _ => .bad
  | .bad => .bad

/-! ### the forms, by their parts -/
def varF (i : Nat) : Rho → Out Hd := fun r => match gt r i with
  | some (.d x) => .ok (.v (.d x)) r
  | some (.scr xs true) => .ok (.v (.d (.tuple xs))) r
  | some _ => .ok (.s i) r
  | none => .bad
def notF (ft : Rho → Out Bool) : Rho → Out Hd := fun r => (ft r).bind fun t r => .ok (.v (ofB (!t))) r
def andF (ft fu : Rho → Out Bool) : Rho → Out Hd := fun r => (ft r).bind fun t r => if t then (fu r).bind fun u r => .ok (.v (ofB u)) r else .ok (.v (ofB false)) r
def orF (ft fu : Rho → Out Bool) : Rho → Out Hd := fun r => (ft r).bind fun t r => if t then .ok (.v (ofB true)) r else (fu r).bind fun u r => .ok (.v (ofB u)) r
def chainF (f1 f2 : Val → Val → Option Bool) (fa fb fc : Rho → Out Hd) : Rho → Out Hd := fun r => (fa r).bind fun h r => (fb r).bind fun g r => match dr r h, dr r g with
  | some x, some y => match f1 x y with
    | some true => (fc r).bind fun k r => lift2 r g k f2 ofB
    | some false => .ok (.v (ofB false)) r
    | none => .bad
  | _, _ => .bad
/-- a bound of a slice: none is written as the constant none -/
def bndO (o : Out Hd) : Out (Option Int) := match o with
  | .ok (.v (.d .none)) r => .ok none r
  | .ok (.v (.d (.int i))) r => .ok (some i) r
  | .ok _ _ => .bad
  | .exc e r => .exc e r
  | .bad => .bad
def slF (fa fl fh : Rho → Out Hd) : Rho → Out Hd := fun r => (fa r).bind fun h r => (bndO (fl r)).bind fun l r => (bndO (fh r)).bind fun u r => lift1 r h (slV l u) id
def negV (x : Val) : Option Int := match x with
    | .d (.int i) => some i
    | _ => none
def revV (x : Val) : Option (List D) := match x with
    | .d (.tuple xs) => some xs
    | _ => none
def mthF (m : Mt) (fa : Rho → Out Hd) (fs : Rho → Out (List Hd)) : Rho → Out Hd := fun r => (fa r).bind fun h r => match dr r h with
    | some (.d (.tuple xs)) => (fs r).bind fun gs r => match drs r gs with
        | some [.d (.int k)] => match idxTV xs k with
          | some j => .ok (.v (.d (.int (j : Int)))) r
          | none => .bad
        | _ => .bad
    | some x0 => if (lstOf x0).isSome then (fs r).bind fun gs r => match dr r h, drs r gs with
        | some x, some ys => match mthV m x ys with
            | some z => .ok (.v z) r
            | none => .bad
        | _, _ => .bad
      else .bad
    | none => .bad
def mutF (i : Nat) (fs : Rho → Out (List D)) (f : List D → List D → Option (D × List D)) : Rho → Out Hd := fun r => match gt r i with
    | some (.lst _) => (fs r).bind fun ys r => match gt r i with
      | some (.lst xs) => match f xs ys with
        | some (z, xs') => .ok (.v (.d z)) (r.set i (some (.lst xs')))
        | none => .bad
      | _ => .bad
    | _ => .bad
def extF (i : Nat) (fa : Rho → Out Hd) : Rho → Out Hd := fun r => match gt r i with
    | some (.lst _) => (fa r).bind fun h r => match gt r i, dr r h with
      | some (.lst xs), some y => match seqOf y with
        | some ys => if xs.length + ys.length ≤ sizeLine then .ok (.v (.d .none)) (r.set i (some (.lst (xs ++ ys)))) else .bad
        | none => .bad
      | _, _ => .bad
    | _ => .bad
def cvF (c : Cv) (fi : Rho → Out (List D)) : Rho → Out Hd := fun r => (fi r).bind fun xs r => match cvV c xs with
    | some z => .ok (.v z) r
    | none => .bad
def lcF (own tg : List Nat) (one : Bool) (fi : Rho → Out (List D)) (fc : Rho → Out Bool) (fe : Rho → Out D) : Rho → Out Hd := fun r => (fi r).bind fun xs r => if ownOk r own then
      lcO own r (lcL tg one own fc fe xs [] (wipeR r own)) else .bad
def seqF (fa : Rho → Out Hd) : Rho → Out (List D) := fun r => (fa r).bind fun h r => match tr r h with
    | some (.list xs, r) => .ok xs r
    | some (.tuple xs, r) => .ok xs r
    | _ => .bad
def rng1F (fa : Rho → Out Hd) : Rho → Out (List D) := fun r => (fa r).bind fun h r => match dr r h with
    | some (.d (.int j)) => if -(2 ^ 62) ≤ j ∧ j < 2 ^ 62 then .ok (rngD 0 j.toNat) r else .bad
    | _ => .bad
def rng2F (fa fb : Rho → Out Hd) : Rho → Out (List D) := fun r => (fa r).bind fun h r => (fb r).bind fun g r => match dr r h, dr r g with
    | some (.d (.int i)), some (.d (.int j)) => if -(2 ^ 62) ≤ i ∧ i < 2 ^ 62 ∧ -(2 ^ 62) ≤ j ∧ j < 2 ^ 62 then .ok (rngD i (j - i).toNat) r else .bad
    | _, _ => .bad
def zipF (fa fb : Rho → Out Hd) : Rho → Out (List D) := fun r => (fa r).bind fun h r => (fb r).bind fun g r => match dr r h, dr r g with
    | some (.d (.tuple xs)), some (.d (.tuple ys)) => .ok (zipD xs ys) r
    | _, _ => .bad
def enumF (fa : Rho → Out Hd) : Rho → Out (List D) := fun r => (fa r).bind fun h r => match tr r h with
    | some (.list xs, r) => .ok (enumD xs) r
    | _ => .bad
def valsF (fa : Rho → Out Hd) : Rho → Out (List D) := fun r => (fa r).bind fun h r => match dr r h with
    | some (.dct kvs) => .ok (kvs.map (·.2)) r
    | _ => .bad

mutual
def evE (F : FT) : IE → Rho → Out Hd
  | .k x, r => .ok (.v (.d x)) r
  | .var i, r => varF i r
  | .tup es, r => (evT F es r).bind fun ds r => .ok (.v (.d (.tuple ds))) r
  | .lst es, r => (evT F es r).bind fun ds r => .ok (.v (.lst ds)) r
  | .bin o a b, r => (evE F a r).bind fun h r => (evE F b r).bind fun g r => lift2 r h g (binV o) id
  | .neg a, r => (evE F a r).bind fun h r => lift1 r h negV fun i => .d (.int (-i))
  | .cmp o a b, r => (evE F a r).bind fun h r => (evE F b r).bind fun g r => lift2 r h g (cmpV o) ofB
  | .chain o1 o2 a b c, r => chainF (cmpV o1) (cmpV o2) (evE F a) (evE F b) (evE F c) r
  | .and a b, r => andF (fun r => tstO (evE F a r)) (fun r => tstO (evE F b r)) r
  | .or a b, r => orF (fun r => tstO (evE F a r)) (fun r => tstO (evE F b r)) r
  | .not a, r => notF (fun r => tstO (evE F a r)) r
  | .ife c a b, r => (tstO (evE F c r)).bind fun t r => if t then evE F a r else evE F b r
  | .ix a b, r => (evE F a r).bind fun h r => (evE F b r).bind fun g r => lift2 r h g ixV .d
  | .bnd a, r => (evE F a r).bind fun h r => lift1 r h negV fun i => .d (.int i)
  | .sl a lo hi, r => slF (evE F a) (evE F lo) (evE F hi) r
  | .rev a, r => (evE F a r).bind fun h r => lift1 r h revV fun xs => .d (.tuple xs.reverse)
  | .call f es, r => (evL F es r).bind fun hs r => callO (F f) hs r
  | .f1 f a, r => (evE F a r).bind fun h r => lift1 r h (f1V f) id
  | .f2 f a b, r => (evE F a r).bind fun h r => (evE F b r).bind fun g r => lift2 r h g (f2V f) .d
  | .isi a ts, r => (evE F a r).bind fun h r => lift1 r h (isiV · ts) ofB
  | .mth m a es, r => mthF m (evE F a) (evL F es) r
  | .mut m i es, r => mutF i (evT F es) (mutL m) r
  | .ext i e, r => extF i (evE F e) r
  | .cv c it, r => cvF c (evI F it) r
  | .lc own tg one it cs elt, r => lcF own tg one (evI F it) (fun r => tstO (evE F cs r)) (fun r => treeO (evE F elt r)) r
  | .dnew, r => .ok (.v (.dct [])) r
  | _, _ => .bad
/-- several, as handles -/
def evL (F : FT) : IE → Rho → Out (List Hd)
  | .nil, r => .ok [] r
  | .cons e es, r => (evE F e r).bind fun h r => (evL F es r).bind fun hs r => .ok (h :: hs) r
  | _, _ => .bad
/-- several, as trees -/
def evT (F : FT) : IE → Rho → Out (List D)
  | .nil, r => .ok [] r
  | .cons e es, r => (treeO (evE F e r)).bind fun t r => (evT F es r).bind fun ts r => .ok (t :: ts) r
  | _, _ => .bad
/-- what an iterator yields -/
def evI (F : FT) : IE → Rho → Out (List D)
  | .seq e, r => seqF (evE F e) r
  | .rng1 a, r => rng1F (evE F a) r
  | .rng2 a b, r => rng2F (evE F a) (evE F b) r
  | .zip a b, r => zipF (evE F a) (evE F b) r
  | .enum a, r => enumF (evE F a) r
  | .vals a, r => valsF (evE F a) r
  | _, _ => .bad
end

def ofOut {α : Type} (o : Out α) (f : α → Rho → SO) : SO := match o with
  | .ok a r => f a r
  | .exc e r => .exc e r
  | .bad => .bad
def forL (tg : List Nat) (one : Bool) (pin : List Bool) (b : Rho → SO) : List D → Rho → SO
  | [], r => .next r
  | x :: xs, r => if tg.any fun i => pin.getD i false then .bad else match tgt tg one x r with
    | some r1 => match b r1 with
      | .next r2 => forL tg one pin b xs r2
      | .cnt r2 => forL tg one pin b xs r2
      | .brk r2 => .next r2
      | .ret v r2 => .ret v r2
      | .exc e r2 => .exc e r2
      | .bad => .bad
    | none => .bad
def whlL (c : Rho → Out Bool) (b : Rho → SO) : Nat → Rho → SO
  | 0, _ => .bad
  | n + 1, r => match c r with
    | .ok true r1 => match b r1 with
      | .next r2 => whlL c b n r2
      | .cnt r2 => whlL c b n r2
      | .brk r2 => .next r2
      | .ret v r2 => .ret v r2
      | .exc e r2 => .exc e r2
      | .bad => .bad
    | .ok false r1 => .next r1
    | .exc e r1 => .exc e r1
    | .bad => .bad
def whlMost : Nat := 1000000
def retF (pin : List Bool) (h : Hd) (r : Rho) : SO := match h with
    | .v x => .ret x r
    | .s i => if pin.getD i false then match tr r (.s i) with
        | some (t, r) => .ret (.d t) r
        | none => .bad
      else match gt r i with
        | some x => .ret x (r.set i none)
        | none => .bad
def asgF (pin : List Bool) (i : Nat) (h : Hd) (r : Rho) : SO := if pin.getD i false || !decide (i < r.length) then .bad else match h with
    | .v x => .next (r.set i (some x))
    | .s j => match tr r (.s j) with
      | some (t, r) => .next (r.set i (some (.d t)))
      | none => .bad
def unpF (pin : List Bool) (is : List Nat) (t : D) (r : Rho) : SO := if is.any fun i => pin.getD i false then .bad else match t with
    | .tuple xs => match setAll r is xs with
      | some r => .next r
      | none => .bad
    | _ => .bad
def stixF (i : Nat) (t : D) (h : Hd) (r : Rho) : SO := match gt r i, dr r h with
    | some x, some y => match setV x y t with
      | some x' => .next (r.set i (some x'))
      | none => .bad
    | _, _ => .bad
def sqF (fs ft : Rho → SO) : Rho → SO := fun r => match fs r with
  | .next r => ft r
  | o => o
def evS (F : FT) (pin : List Bool) : IS → Rho → SO
  | .skip, r => .next r
  | .sq s t, r => sqF (evS F pin s) (evS F pin t) r
  | .asg i e, r => ofOut (evE F e r) (asgF pin i)
  | .unp is e, r => ofOut (treeO (evE F e r)) (unpF pin is)
  | .setix i ki e, r => ofOut (treeO (evE F e r)) fun t r => match gt r i with
    | some _ => ofOut (evE F ki r) (stixF i t)
    | none => .bad
  | .ex e, r => ofOut (evE F e r) fun _ r => .next r
  | .ret e, r => ofOut (evE F e r) (retF pin)
  | .iff c a b, r => ofOut (tstO (evE F c r)) fun t r => if t then evS F pin a r else evS F pin b r
  | .for_ tg one it b, r => ofOut (evI F it r) fun xs r => forL tg one pin (evS F pin b) xs r
  | .whl c b, r => whlL (fun r => tstO (evE F c r)) (evS F pin b) whlMost r
  | .rais c fs es, r => ofOut (evT F es r) fun ts r => .exc ⟨c, fs.zip ts⟩ r
  | .brk, r => .brk r
  | .cnt, r => .cnt r
  | .no, _ => .bad

structure FD where
  np : Nat
  n : Nat
  body : IS
def outsOf (np : Nat) (r : Rho) : Rho := r.take np
def crOf (np : Nat) : SO → CR
  | .next r => .ok (.d .none) (outsOf np r)
  | .ret x r => .ok x (outsOf np r)
  | .exc e r => .exc e (outsOf np r)
  | _ => .bad
def runF (F : FT) (fd : FD) (args : List Val) : CR :=
  if args.length = fd.np then crOf fd.np (evS F (args.map isMut) fd.body (args.map some ++ List.replicate (fd.n - fd.np) none)) else .bad
def sem (ds : List FD) : Nat → FT
  | 0 => fun _ _ => .bad
  | n + 1 => fun f args => match ds[f]? with
    | some fd => runF (sem ds n) fd args
    | none => .bad
end Q
/-! QB: what the small language's values are in the abstract heap; worlds and their steps. -/
namespace Q
open PySem L2

/-- a plain tuple object -/
def Pl (ob : Obj) : Prop := ob.cls = .type "tuple" ∧ ob.dict = none
def SqP (H : Hp) (a : Addr) (xs : List V) : Prop := ∃ ob, Pl ob ∧ H a = some (.frz ob (.tup xs))
theorem SqP.t {K : PySem.W.Frag} {H : Hp} {a : Addr} {xs : List V} (h : SqP H a xs) : SqT K H a xs := by
  obtain ⟨ob, _, h⟩ := h
  exact .inl (.inr ⟨ob, h⟩)
mutual
inductive Im (K : PySem.W.Frag) (H : Hp) (Z : Addr → Prop) : V → D → Prop
  | non : Im K H Z .non .none
  | bl (b : Bool) : Im K H Z (.bl b) (.bool b)
  | int (i : Int) : Im K H Z (.int i) (.int i)
  | str (x : Str) : Im K H Z (.str x) (.str x)
  | lst {a : Addr} {xs : List V} {ds : List D} : H a = some (.lst xs) → Z a → ImA K H Z xs ds → Im K H Z (.ref a) (.list ds)
  | tup {a : Addr} {xs : List V} {ds : List D} : SqP H a xs → ImA K H Z xs ds → Im K H Z (.ref a) (.tuple ds)
inductive ImA (K : PySem.W.Frag) (H : Hp) (Z : Addr → Prop) : List V → List D → Prop
  | nil : ImA K H Z [] []
  | cons {v : V} {vs : List V} {d : D} {ds : List D} : Im K H Z v d → ImA K H Z vs ds → ImA K H Z (v :: vs) (d :: ds)
end
/-- a list that nothing changes: known to the object, or one of the module's own -/
def SqS (K : PySem.W.Frag) (H : Hp) (a : Addr) (xs : List V) : Prop := (∃ ob, H a = some (.frz ob (.lst xs))) ∨ SqL K (fun _ => none) a xs
theorem SqS.sql {K : PySem.W.Frag} {H : Hp} {a : Addr} {xs : List V} (h : SqS K H a xs) : SqL K H a xs := by
  rcases h with ⟨o, h⟩ | h
  · exact .inl (.inr ⟨o, h⟩)
  · rcases h with h | h
    · rcases h with h | ⟨o, h⟩
      · cases h
      · cases h
    · exact .inr h
/-- what a slot may own -/
def Own : Option HO → Prop
  | some (.lst _) => True
  | some (.dK _) => True
  | some (.ins _ _ _) => True
  | _ => False
structure Keep (H : Hp) (Z : Addr → Prop) (H' : Hp) (Z' : Addr → Prop) : Prop where
  k : ∀ b o, H b = some o → ¬ Own (some o) → H' b = some o
  z : ∀ b o, Z b → H b = some o → H' b = some o
  zz : ∀ b, Z b → Z' b
section
variable {K : PySem.W.Frag} {H H' H1 H2 : Hp} {Z Z' Z1 Z2 : Addr → Prop}
theorem Keep.sqP (kp : Keep H Z H' Z') {a : Addr} {xs : List V} (h : SqP H a xs) : SqP H' a xs := by
  obtain ⟨ob, p, h⟩ := h
  exact ⟨ob, p, kp.k _ _ h id⟩
theorem Keep.sqT (kp : Keep H Z H' Z') {a : Addr} {xs : List V} (h : SqT K H a xs) : SqT K H' a xs := by
  rcases h with (h | ⟨o, h⟩) | h
  · exact .inl (.inl (kp.k _ _ h id))
  · exact .inl (.inr ⟨o, kp.k _ _ h id⟩)
  · exact .inr h
theorem Keep.sqL (kp : Keep H Z H' Z') {a : Addr} {xs : List V} (h : SqL K H a xs) (hz : Z a) : SqL K H' a xs := by
  rcases h with (h | ⟨o, h⟩) | h
  · exact .inl (.inl (kp.z _ _ hz h))
  · exact .inl (.inr ⟨o, kp.z _ _ hz h⟩)
  · exact .inr h
mutual
theorem Im.keep (kp : Keep H Z H' Z') : ∀ {v : V} {d : D}, Im K H Z v d → Im K H' Z' v d
  | _, _, .non => .non
  | _, _, .bl b => .bl b
  | _, _, .int i => .int i
  | _, _, .str x => .str x
  | _, _, .lst h z a => .lst (kp.z _ _ z h) (kp.zz _ z) (ImA.keep kp a)
  | _, _, .tup h a => .tup (kp.sqP h) (ImA.keep kp a)
theorem ImA.keep (kp : Keep H Z H' Z') : ∀ {vs : List V} {ds : List D}, ImA K H Z vs ds → ImA K H' Z' vs ds
  | _, _, .nil => .nil
  | _, _, .cons h t => .cons (Im.keep kp h) (ImA.keep kp t)
end
mutual
theorem Im.dp : ∀ {v : V} {d : D}, Im K H Z v d → Dp K H v d
  | _, _, .non => .non
  | _, _, .bl b => .bl b
  | _, _, .int i => .int i
  | _, _, .str x => .str x
  | _, _, .lst h z a => .lst (SqL.of h) (ImA.dp a)
  | _, _, .tup h a => .tup h.t (ImA.dp a)
theorem ImA.dp : ∀ {vs : List V} {ds : List D}, ImA K H Z vs ds → DpAll K H vs ds
  | _, _, .nil => .nil
  | _, _, .cons h t => .cons (Im.dp h) (ImA.dp t)
end
theorem ImA.length : ∀ {vs : List V} {ds : List D}, ImA K H Z vs ds → vs.length = ds.length
  | _, _, .nil => rfl
  | _, _, .cons h t => by simp [ImA.length t]
theorem ImA.get : ∀ {vs : List V} {ds : List D} {i : Nat} {d : D}, ImA K H Z vs ds → ds[i]? = some d → ∃ v, vs[i]? = some v ∧ Im K H Z v d
  | _, _, _, _, .nil, e => by simp at e
  | _, _, 0, _, .cons h t, e => by simp at e; subst e; exact ⟨_, by simp, h⟩
  | _, _, i + 1, d, .cons h t, e => by
    obtain ⟨v, e1, e2⟩ := ImA.get (i := i) (d := d) t (by simpa using e)
    exact ⟨v, by simpa using e1, e2⟩
theorem ImA.get' : ∀ {vs : List V} {ds : List D} {i : Nat} {v : V}, ImA K H Z vs ds → vs[i]? = some v → ∃ d, ds[i]? = some d ∧ Im K H Z v d
  | _, _, _, _, .nil, e => by simp at e
  | _, _, 0, _, .cons h t, e => by simp at e; subst e; exact ⟨_, by simp, h⟩
  | _, _, i + 1, d, .cons h t, e => by
    obtain ⟨v, e1, e2⟩ := ImA.get' (i := i) (v := d) t (by simpa using e)
    exact ⟨v, by simpa using e1, e2⟩
theorem ImA.append : ∀ {vs ws : List V} {ds es : List D}, ImA K H Z vs ds → ImA K H Z ws es → ImA K H Z (vs ++ ws) (ds ++ es)
  | _, _, _, _, .nil, b => b
  | _, _, _, _, .cons h t, b => .cons h (ImA.append t b)
theorem ImA.drop : ∀ (n : Nat) {vs : List V} {ds : List D}, ImA K H Z vs ds → ImA K H Z (vs.drop n) (ds.drop n)
  | 0, _, _, h => h
  | n + 1, _, _, .nil => .nil
  | n + 1, _, _, .cons _ t => ImA.drop n t
theorem ImA.take : ∀ (n : Nat) {vs : List V} {ds : List D}, ImA K H Z vs ds → ImA K H Z (vs.take n) (ds.take n)
  | 0, _, _, h => .nil
  | n + 1, _, _, .nil => .nil
  | n + 1, _, _, .cons h t => .cons h (ImA.take n t)
theorem ImA.reverse {vs : List V} {ds : List D} (h : ImA K H Z vs ds) : ImA K H Z vs.reverse ds.reverse := by
  induction vs generalizing ds with
  | nil => cases h; exact .nil
  | cons v vs ih =>
    cases h with
    | cons h t => rw [List.reverse_cons, List.reverse_cons]; exact (ih t).append (.cons h .nil)
theorem ImA.set : ∀ {vs : List V} {ds : List D} {v : V} {d : D} (i : Nat), ImA K H Z vs ds → Im K H Z v d → ImA K H Z (vs.set i v) (ds.set i d)
  | _, _, _, _, _, .nil, _ => .nil
  | _, _, _, _, 0, .cons h t, x => .cons x t
  | _, _, _, _, i + 1, .cons h t, x => .cons h (ImA.set i t x)
theorem ImA.eraseIdx : ∀ {vs : List V} {ds : List D} (i : Nat), ImA K H Z vs ds → ImA K H Z (vs.eraseIdx i) (ds.eraseIdx i)
  | _, _, _, .nil => .nil
  | _, _, 0, .cons h t => t
  | _, _, i + 1, .cons h t => .cons h (ImA.eraseIdx i t)
theorem ImA.rep {vs : List V} {ds : List D} (h : ImA K H Z vs ds) : ∀ k : Nat, ImA K H Z (List.replicate k vs).flatten (List.replicate k ds).flatten
  | 0 => .nil
  | k + 1 => by
    rw [List.replicate_succ, List.replicate_succ, List.flatten_cons, List.flatten_cons]
    exact h.append (ImA.rep h k)
/-- a value of one form by its tree -/
theorem Im.int_v {v : V} {i : Int} (h : Im K H Z v (.int i)) : v = .int i := by cases h; rfl
theorem Im.str_v {v : V} {x : Str} (h : Im K H Z v (.str x)) : v = .str x := by cases h; rfl
theorem Im.bl_v {v : V} {b : Bool} (h : Im K H Z v (.bool b)) : v = .bl b := by cases h; rfl
theorem Im.non_v {v : V} (h : Im K H Z v .none) : v = .non := by cases h; rfl
theorem Im.tup_p {v : V} {ds : List D} (h : Im K H Z v (.tuple ds)) : ∃ a xs, v = .ref a ∧ SqP H a xs ∧ ImA K H Z xs ds := by
  cases h with
  | tup h a => exact ⟨_, _, rfl, h, a⟩
theorem Im.tup_v {v : V} {ds : List D} (h : Im K H Z v (.tuple ds)) : ∃ a xs, v = .ref a ∧ SqT K H a xs ∧ ImA K H Z xs ds := by
  obtain ⟨a, xs, e, p, i⟩ := h.tup_p
  exact ⟨a, xs, e, p.t, i⟩
theorem Im.lst_v {v : V} {ds : List D} (h : Im K H Z v (.list ds)) : ∃ a xs, v = .ref a ∧ H a = some (.lst xs) ∧ Z a ∧ ImA K H Z xs ds := by
  cases h with
  | lst h z a => exact ⟨_, _, rfl, h, z, a⟩

/-! ### dicts -/
abbrev KIm (K : PySem.W.Frag) (H : Hp) (Z : Addr → Prop) : List (Key × V) → List (Key × D) → Prop := Paired fun p q => p.1 = q.1 ∧ Im K H Z p.2 q.2
theorem KIm.keep (kp : Keep H Z H' Z') {a : List (Key × V)} {b : List (Key × D)} (h : KIm K H Z a b) : KIm K H' Z' a b :=
  Paired.mapP h fun _ _ q => ⟨q.1, q.2.keep kp⟩

/-! ### values of slots -/
def VR (K : PySem.W.Frag) (H : Hp) (Z : Addr → Prop) (v : V) : Val → Option Addr → Prop
  | .d x, o => o = none ∧ Im K H Z v x
  | .lst xs, some a => v = .ref a ∧ ∃ ys, H a = some (.lst ys) ∧ ImA K H Z ys xs
  | .lst _, none => False
  | .dct kvs, some a => v = .ref a ∧ ∃ ys, H a = some (.dK ys) ∧ KIm K H Z ys kvs
  | .dct _, none => False
  | .ins _ _, _ => False
  | .scr xs false, o => o = none ∧ ∃ a ys, v = .ref a ∧ SqS K H a ys ∧ ImA K H Z ys xs
  | .scr xs true, o => o = none ∧ ∃ a ys, v = .ref a ∧ (∃ ob : Obj, ob.cls = .type "tuple" ∧ ob.dict = none ∧ H a = some (.frz ob (.tup ys))) ∧ ImA K H Z ys xs
theorem VR.d {v : V} {x : D} {o : Option Addr} (h : VR K H Z v (.d x) o) : o = none ∧ Im K H Z v x := h
theorem VR.scr_keep (kp : Keep H Z H' Z') {v : V} {xs : List D} {t : Bool} {o : Option Addr} (h : VR K H Z v (.scr xs t) o) : o = none ∧ VR K H' Z' v (.scr xs t) none := by
  cases t with
  | false =>
    obtain ⟨e, a, ys, h1, h2, h3⟩ := h
    exact ⟨e, rfl, a, ys, h1, h2.imp (fun ⟨ob, h2⟩ => ⟨ob, kp.k _ _ h2 id⟩) id, h3.keep kp⟩
  | true =>
    obtain ⟨e, a, ys, h1, ⟨ob, c1, c2, h2⟩, h3⟩ := h
    exact ⟨e, rfl, a, ys, h1, ⟨ob, c1, c2, kp.k _ _ h2 id⟩, h3.keep kp⟩
theorem VR.keep (kp : Keep H Z H' Z') {v : V} {x : Val} {o : Option Addr} (h : VR K H Z v x o) (ha : ∀ a, o = some a → H' a = H a) : VR K H' Z' v x o := by
  cases x with
  | d x => exact ⟨h.1, h.2.keep kp⟩
  | lst xs =>
    cases o with
    | none => exact h
    | some a =>
      obtain ⟨e, ys, h1, h2⟩ := h
      exact ⟨e, ys, by rw [ha a rfl]; exact h1, h2.keep kp⟩
  | dct kvs =>
    cases o with
    | none => exact h
    | some a =>
      obtain ⟨e, ys, h1, h2⟩ := h
      exact ⟨e, ys, by rw [ha a rfl]; exact h1, h2.keep kp⟩
  | ins c fs => exact h
  | scr xs t =>
    obtain ⟨e, q⟩ := VR.scr_keep kp h
    rw [e]
    exact q

/-! ### worlds -/
abbrev AsT := Nat → Option Addr
structure Rel (K : PySem.W.Frag) (σ : St) (H : Hp) (ρ : Rho) (As : AsT) (Z : Addr → Prop) : Prop where
  len : ρ.length = σ.length
  val : ∀ i x, gt ρ i = some x → ∃ v, σ[i]? = some (some v) ∧ VR K H Z v x (As i)
  nul : ∀ i, gt ρ i = none → As i = none
  own : ∀ i a, As i = some a → ¬ Z a ∧ Own (H a)
  inj : ∀ i j a, As i = some a → As j = some a → i = j
  zed : ∀ a, Z a → H a ≠ none
structure Stp (H : Hp) (As : AsT) (Z : Addr → Prop) (H' : Hp) (As' : AsT) (Z' : Addr → Prop) : Prop where
  chg : ∀ b o, H b = some o → (∀ i, As i ≠ some b) → H' b = some o
  dom : ∀ b, H' b = none → H b = none
  zz : ∀ b, Z b → Z' b
  as : ∀ i b, As' i = some b → (∃ j, As j = some b) ∨ H b = none
  zn : ∀ b, Z' b → Z b ∨ (∃ j, As j = some b) ∨ H b = none
variable {σ : St} {ρ ρ' ρ1 ρ2 : Rho} {As As' As1 As2 : AsT}
theorem Stp.refl : Stp H As Z H As Z := ⟨fun _ _ h _ => h, fun _ h => h, fun _ h => h, fun i b h => .inl ⟨i, h⟩, fun _ h => .inl h⟩
theorem Stp.trans (a : Stp H As Z H1 As1 Z1) (b : Stp H1 As1 Z1 H2 As2 Z2) : Stp H As Z H2 As2 Z2 where
  chg := fun c o h n => by
    refine b.chg c o (a.chg c o h n) fun i e => ?_
    rcases a.as i c e with ⟨j, q⟩ | q
    · exact n j q
    · rw [h] at q; cases q
  dom := fun c h => a.dom c (b.dom c h)
  zz := fun c h => b.zz c (a.zz c h)
  as := fun i c h => by
    rcases b.as i c h with ⟨j, q⟩ | q
    · exact a.as j c q
    · exact .inr (a.dom c q)
  zn := fun c h => by
    rcases b.zn c h with q | ⟨j, q⟩ | q
    · exact a.zn c q
    · exact .inr (a.as j c q)
    · exact .inr (.inr (a.dom c q))
theorem Rel.keep (R : Rel K σ H ρ As Z) (S : Stp H As Z H' As' Z') : Keep H Z H' Z' where
  k := fun b o h n => S.chg b o h fun i e => n (by have := (R.own i b e).2; rw [h] at this; exact this)
  z := fun b o h e => S.chg b o e fun i q => (R.own i b q).1 h
  zz := S.zz
/-- a world that only grows -/
theorem Rel.same (R : Rel K σ H ρ As Z) (s : Same H H') : Rel K σ H' ρ As Z where
  len := R.len
  val := fun i x h => by
    obtain ⟨v, e, q⟩ := R.val i x h
    refine ⟨v, e, q.keep ⟨fun b o h _ => s b o h, fun b o _ h => s b o h, fun _ h => h⟩ fun a ha => ?_⟩
    have ow := (R.own i a ha).2
    cases z : H a with
    | none => rw [z] at ow; exact ow.elim
    | some o => exact s a o z
  nul := R.nul
  own := fun i a h => by
    have ow := R.own i a h
    refine ⟨ow.1, ?_⟩
    cases z : H a with
    | none => rw [z] at ow; exact ow.2.elim
    | some o => rw [s a o z, ← z]; exact ow.2
  inj := R.inj
  zed := fun a h e => by
    cases z : H a with
    | none => exact R.zed a h z
    | some o => rw [s a o z] at e; cases e
theorem Stp.same (s : Same H H') : Stp H As Z H' As Z :=
  ⟨fun b o h _ => s b o h, fun b h => s.free h, fun _ h => h, fun i b h => .inl ⟨i, h⟩, fun _ h => .inl h⟩

/-- what a handle is -/
def Hnd (K : PySem.W.Frag) (σ : St) (H : Hp) (Z : Addr → Prop) (As : AsT) (v : V) (h : Hd) (ax : Option Addr) : Prop := match h with
  | .v x => VR K H Z v x ax ∧ ∀ a, ax = some a → ¬ Z a ∧ Own (H a) ∧ ∀ i, As i ≠ some a
  | .s i => ax = none ∧ σ[i]? = some (some v)
theorem Hnd.keep (R : Rel K σ H ρ As Z) (S : Stp H As Z H' As' Z') {v : V} {h : Hd} {ax : Option Addr} (n : Hnd K σ H Z As v h ax) : Hnd K σ H' Z' As' v h ax := by
  cases h with
  | s i => exact n
  | v x =>
    obtain ⟨r, f⟩ := n
    have same : ∀ a, ax = some a → H' a = H a := fun a e => by
      obtain ⟨_, ow, na⟩ := f a e
      cases z : H a with
      | none => rw [z] at ow; exact ow.elim
      | some o => exact S.chg a o z na
    refine ⟨r.keep (R.keep S) same, fun a e => ?_⟩
    obtain ⟨nz, ow, na⟩ := f a e
    have hn : H a ≠ none := fun q => by rw [q] at ow; exact ow
    refine ⟨fun q => ?_, by rw [same a e]; exact ow, fun i q => ?_⟩
    · rcases S.zn a q with q | ⟨j, q⟩ | q
      · exact nz q
      · exact na j q
      · exact hn q
    · rcases S.as i a q with ⟨j, q⟩ | q
      · exact na j q
      · exact hn q
/-- a handle's value -/
theorem Hnd.dr (R : Rel K σ H ρ As Z) {v : V} {h : Hd} {ax : Option Addr} {x : Val} (n : Hnd K σ H Z As v h ax) (e : dr ρ h = some x) : ∃ o, VR K H Z v x o ∧ ∀ a, o = some a → ¬ Z a ∧ Own (H a) := by
  cases h with
  | v y =>
    cases e
    exact ⟨ax, n.1, fun a q => ⟨(n.2 a q).1, (n.2 a q).2.1⟩⟩
  | s i =>
    obtain ⟨w, e1, q⟩ := R.val i x e
    rw [n.2] at e1
    cases e1
    exact ⟨_, q, fun a q => R.own i a q⟩

/-- a result of an expression -/
def Res (K : PySem.W.Frag) (σ : St) (H : Hp) (As : AsT) (Z : Addr → Prop) (ρ' : Rho) (h : Hd) (v : V) (H' : Hp) : Prop :=
  ∃ As' Z' ax, Rel K σ H' ρ' As' Z' ∧ Stp H As Z H' As' Z' ∧ Hnd K σ H' Z' As' v h ax ∧ ∀ a, ax = some a → (∃ j, As j = some a) ∨ H a = none
/-- how an exception lies -/
abbrev EXT := (Addr → Prop) → Exn → Value → Option Addr → Hp → Prop
def XRes (K : PySem.W.Frag) (EX : EXT) (σ : St) (H : Hp) (As : AsT) (Z : Addr → Prop) (ρ' : Rho) (e : Exn) (c : Value) (d : Option Addr) (H' : Hp) : Prop :=
  ∃ As' Z', Rel K σ H' ρ' As' Z' ∧ Stp H As Z H' As' Z' ∧ EX Z' e c d H'
theorem Res.trans {h : Hd} {v : V} (S : Stp H As Z H1 As1 Z1) (r : Res K σ H1 As1 Z1 ρ' h v H') : Res K σ H As Z ρ' h v H' := by
  obtain ⟨As', Z', ax, R, S', n, f⟩ := r
  refine ⟨As', Z', ax, R, S.trans S', n, fun a e => ?_⟩
  rcases f a e with ⟨j, q⟩ | q
  · exact S.as j a q
  · exact .inr (S.dom a q)
theorem XRes.trans {EX : EXT} {e : Exn} {c : Value} {d : Option Addr} (S : Stp H As Z H1 As1 Z1) (r : XRes K EX σ H1 As1 Z1 ρ' e c d H') : XRes K EX σ H As Z ρ' e c d H' := by
  obtain ⟨As', Z', R, S', x⟩ := r
  exact ⟨As', Z', R, S.trans S', x⟩
/-- a new value beside all that was -/
def New (K : PySem.W.Frag) (Z : Addr → Prop) (H H' : Hp) (u : V) (z : Val) : Prop :=
  Same H H' ∧ ∃ ax, VR K H' Z u z ax ∧ ∀ a, ax = some a → H a = none ∧ Own (H' a)
theorem Res.new {u : V} {z : Val} (R : Rel K σ H ρ As Z) (n : New K Z H H' u z) : Res K σ H As Z ρ (.v z) u H' := by
  obtain ⟨s, ax, r, f⟩ := n
  refine ⟨As, Z, ax, R.same s, Stp.same s, ⟨r, fun a e => ⟨fun q => R.zed a q (f a e).1, (f a e).2, fun i q => ?_⟩⟩, fun a e => .inr (f a e).1⟩
  have := (R.own i a q).2
  rw [(f a e).1] at this
  exact this
theorem New.d {u : V} {x : D} (h : Im K H Z u x) : New K Z H H u (.d x) := ⟨Same.refl H, none, ⟨rfl, h⟩, fun _ e => nomatch e⟩
theorem New.im {u : V} {x : D} (s : Same H H') (h : Im K H' Z u x) : New K Z H H' u (.d x) := ⟨s, none, ⟨rfl, h⟩, fun _ e => nomatch e⟩
theorem Same.up {p : Addr} {o : HO} (h : H p = none) : Same H (upd H p o) := fun b u e => by
  rw [upd_ne (ne_of_none e h)]; exact e
theorem Same.kp (s : Same H H') : Keep H Z H' Z := ⟨fun b o h _ => s b o h, fun b o _ h => s b o h, fun _ h => h⟩
theorem New.tup {p : Addr} {ob : Obj} {xs : List V} {ds : List D} (h : H p = none) (pl : Pl ob) (i : ImA K H Z xs ds) : New K Z H (upd H p (.frz ob (.tup xs))) (.ref p) (.d (.tuple ds)) :=
  New.im (Same.up h) (.tup ⟨ob, pl, upd_same⟩ (i.keep (Same.kp (Same.up h))))
theorem New.lst {p : Addr} {xs : List V} {ds : List D} (h : H p = none) (i : ImA K H Z xs ds) : New K Z H (upd H p (.lst xs)) (.ref p) (.lst ds) :=
  ⟨Same.up h, some p, ⟨rfl, xs, upd_same, i.keep (Same.kp (Same.up h))⟩, fun a e => by cases e; exact ⟨h, by rw [upd_same]; trivial⟩⟩
theorem New.dct {p : Addr} {xs : List (Key × V)} {ds : List (Key × D)} (h : H p = none) (i : KIm K H Z xs ds) : New K Z H (upd H p (.dK xs)) (.ref p) (.dct ds) :=
  ⟨Same.up h, some p, ⟨rfl, xs, upd_same, i.keep (Same.kp (Same.up h))⟩, fun a e => by cases e; exact ⟨h, by rw [upd_same]; trivial⟩⟩

/-! ### slots -/
theorem gt_set_self {r : Rho} {i : Nat} {o : Option Val} (h : i < r.length) : gt (r.set i o) i = o := by
  unfold gt
  rw [List.getD_eq_getElem?_getD, List.getElem?_set_self h]
  rfl
theorem gt_set_ne {r : Rho} {i j : Nat} {o : Option Val} (h : i ≠ j) : gt (r.set i o) j = gt r j := by
  unfold gt
  rw [List.getD_eq_getElem?_getD, List.getD_eq_getElem?_getD, List.getElem?_set_ne h]
theorem gt_lt {r : Rho} {i : Nat} {x : Val} (h : gt r i = some x) : i < r.length := by
  unfold gt at h
  rw [List.getD_eq_getElem?_getD] at h
  apply Classical.byContradiction
  intro n
  rw [List.getElem?_eq_none (by omega)] at h
  cases h
theorem gt_set {r : Rho} {i j : Nat} {o : Option Val} (h : i < r.length) : gt (r.set i o) j = if j = i then o else gt r j := by
  by_cases e : j = i
  · subst e; rw [if_pos rfl, gt_set_self h]
  · rw [if_neg e, gt_set_ne (Ne.symm e)]
def setA (As : AsT) (i : Nat) (o : Option Addr) : AsT := fun j => if j = i then o else As j
theorem setA_self {As : AsT} {i : Nat} {o : Option Addr} : setA As i o i = o := by unfold setA; rw [if_pos rfl]
theorem setA_ne {As : AsT} {i j : Nat} {o : Option Addr} (h : j ≠ i) : setA As i o j = As j := by unfold setA; rw [if_neg h]
/-- the thing of slot i is frozen -/
theorem Rel.freeze (R : Rel K σ H ρ As Z) {i : Nat} {x : Val} {t : D} (e : gt ρ i = some x) (f : fz x = some t) :
    ∃ As' Z', Rel K σ H (ρ.set i (some (.d t))) As' Z' ∧ Stp H As Z H As' Z' ∧ ∃ v, σ[i]? = some (some v) ∧ Im K H Z' v t := by
  obtain ⟨v, hv, r⟩ := R.val i x e
  have hi := gt_lt e
  cases x with
  | d y =>
    cases f
    refine ⟨As, Z, ⟨by rw [List.length_set]; exact R.len, fun j z q => ?_, fun j q => ?_, R.own, R.inj, R.zed⟩, Stp.refl, v, hv, r.2⟩
    · rw [gt_set hi] at q
      by_cases h : j = i
      · rw [if_pos h] at q; cases q; subst h; exact ⟨v, hv, r⟩
      · rw [if_neg h] at q; exact R.val j z q
    · rw [gt_set hi] at q
      by_cases h : j = i
      · rw [if_pos h] at q; cases q
      · rw [if_neg h] at q; exact R.nul j q
  | lst xs =>
    cases f
    cases hA : As i with
    | none => rw [hA] at r; exact r.elim
    | some a =>
      rw [hA] at r
      obtain ⟨ev, ys, h1, h2⟩ := r
      have kp : Keep H Z H (fun b => Z b ∨ b = a) := ⟨fun _ _ h _ => h, fun _ _ _ h => h, fun _ h => .inl h⟩
      have im : Im K H (fun b => Z b ∨ b = a) v (.list xs) := by
        rw [ev]; exact .lst h1 (.inr rfl) (h2.keep kp)
      refine ⟨setA As i none, fun b => Z b ∨ b = a, ⟨by rw [List.length_set]; exact R.len, fun j z q => ?_, fun j q => ?_, fun j b q => ?_, fun j k b q1 q2 => ?_, fun b q => ?_⟩, ⟨fun _ _ h _ => h, fun _ h => h, fun _ h => .inl h, fun j b q => ?_, fun b q => ?_⟩, v, hv, im⟩
      · rw [gt_set hi] at q
        by_cases h : j = i
        · rw [if_pos h] at q; cases q; subst h; rw [setA_self]; exact ⟨v, hv, rfl, im⟩
        · rw [if_neg h] at q
          rw [setA_ne h]
          obtain ⟨w, hw, r'⟩ := R.val j z q
          exact ⟨w, hw, r'.keep kp fun _ _ => rfl⟩
      · rw [gt_set hi] at q
        by_cases h : j = i
        · rw [if_pos h] at q; cases q
        · rw [if_neg h] at q; rw [setA_ne h]; exact R.nul j q
      · by_cases h : j = i
        · subst h; rw [setA_self] at q; cases q
        · rw [setA_ne h] at q
          refine ⟨fun z => ?_, (R.own j b q).2⟩
          rcases z with z | z
          · exact (R.own j b q).1 z
          · subst z; exact h (R.inj j i b q hA)
      · by_cases h : j = i
        · subst h; rw [setA_self] at q1; cases q1
        · by_cases h' : k = i
          · subst h'; rw [setA_self] at q2; cases q2
          · rw [setA_ne h] at q1; rw [setA_ne h'] at q2; exact R.inj j k b q1 q2
      · rcases q with q | q
        · exact R.zed b q
        · subst q; rw [h1]; exact fun z => nomatch z
      · by_cases h : j = i
        · subst h; rw [setA_self] at q; cases q
        · rw [setA_ne h] at q; exact .inl ⟨j, q⟩
      · rcases q with q | q
        · exact .inl q
        · exact .inr (.inl ⟨i, by rw [q]; exact hA⟩)
  | dct kvs => cases f
  | ins c fs => cases f
  | scr xs => cases f
/-- a handle as a tree -/
theorem Hnd.tr (R : Rel K σ H ρ As Z) {v : V} {h : Hd} {ax : Option Addr} {t : D} (n : Hnd K σ H Z As v h ax) (e : tr ρ h = some (t, ρ')) (fr : ∀ a, ax = some a → (∃ j, As1 j = some a) ∨ H1 a = none) (S1 : Stp H1 As1 Z1 H As Z) :
    ∃ As' Z', Rel K σ H ρ' As' Z' ∧ Stp H1 As1 Z1 H As' Z' ∧ Im K H Z' v t := by
  cases h with
  | s i =>
    unfold Q.tr at e
    dsimp only at e
    cases g : gt ρ i with
    | none => rw [g] at e; cases e
    | some x =>
      rw [g] at e
      dsimp only at e
      cases f : fz x with
      | none => rw [f] at e; cases e
      | some t' =>
        rw [f] at e
        cases e
        obtain ⟨As', Z', R', S', w, hw, im⟩ := R.freeze g f
        rw [n.2] at hw
        cases hw
        exact ⟨As', Z', R', S1.trans S', im⟩
  | v x =>
    unfold Q.tr at e
    dsimp only at e
    cases f : fz x with
    | none => rw [f] at e; cases e
    | some t' =>
      rw [f] at e
      cases e
      obtain ⟨r, fx⟩ := n
      cases x with
      | d y => cases f; exact ⟨As, Z, R, S1, r.2⟩
      | lst xs =>
        cases f
        cases ax with
        | none => exact r.elim
        | some a =>
          obtain ⟨ev, ys, h1, h2⟩ := r
          obtain ⟨nz, ow, na⟩ := fx a rfl
          have kp : Keep H Z H (fun b => Z b ∨ b = a) := ⟨fun _ _ h _ => h, fun _ _ _ h => h, fun _ h => .inl h⟩
          refine ⟨As, fun b => Z b ∨ b = a, ⟨R.len, fun j z q => ?_, R.nul, fun j b q => ⟨fun z => ?_, (R.own j b q).2⟩, R.inj, fun b q => ?_⟩, ⟨S1.chg, S1.dom, fun b q => .inl (S1.zz b q), S1.as, fun b q => ?_⟩, ?_⟩
          · obtain ⟨w, hw, r'⟩ := R.val j z q
            exact ⟨w, hw, r'.keep kp fun _ _ => rfl⟩
          · rcases z with z | z
            · exact (R.own j b q).1 z
            · subst z; exact na j q
          · rcases q with q | q
            · exact R.zed b q
            · subst q; rw [h1]; exact fun z => nomatch z
          · rcases q with q | q
            · exact S1.zn b q
            · subst q; exact .inr (fr b rfl)
          · rw [ev]; exact .lst h1 (.inr rfl) (h2.keep kp)
      | dct kvs => cases f
      | ins c fs => cases f
      | scr xs => cases f
/-- the thing of slot i is changed -/
theorem Rel.put (R : Rel K σ H ρ As Z) {i : Nat} {a : Addr} {x x' : Val} {o : HO} {v : V} (e : gt ρ i = some x) (hA : As i = some a) (hv : σ[i]? = some (some v)) (ho : Own (some o)) (r : VR K (upd H a o) Z v x' (some a)) :
    Rel K σ (upd H a o) (ρ.set i (some x')) As Z ∧ Stp H As Z (upd H a o) As Z := by
  have hi := gt_lt e
  have ow := R.own i a hA
  have S : Stp H As Z (upd H a o) As Z := ⟨fun b u h n => by rw [upd_ne (fun z => n i (by rw [z]; exact hA))]; exact h, fun b h => by
    by_cases z : b = a
    · subst z; rw [upd_same] at h; cases h
    · rw [upd_ne z] at h; exact h, fun _ h => h, fun j b h => .inl ⟨j, h⟩, fun _ h => .inl h⟩
  have kp := R.keep S
  refine ⟨⟨by rw [List.length_set]; exact R.len, fun j z q => ?_, fun j q => ?_, fun j b q => ⟨(R.own j b q).1, ?_⟩, R.inj, fun b q => ?_⟩, S⟩
  · rw [gt_set hi] at q
    by_cases h : j = i
    · rw [if_pos h] at q; cases q; subst h; rw [hA]; exact ⟨v, hv, r⟩
    · rw [if_neg h] at q
      obtain ⟨w, hw, r'⟩ := R.val j z q
      exact ⟨w, hw, r'.keep kp fun b hb => upd_ne fun z => h (R.inj j i b hb (by rw [z]; exact hA))⟩
  · rw [gt_set hi] at q
    by_cases h : j = i
    · rw [if_pos h] at q; cases q
    · rw [if_neg h] at q; exact R.nul j q
  · by_cases z : b = a
    · rw [z, upd_same]; exact ho
    · rw [upd_ne z]; exact (R.own j b q).2
  · by_cases z : b = a
    · rw [z, upd_same]; exact fun z => nomatch z
    · rw [upd_ne z]; exact R.zed b q
/-- slot i is stored -/
theorem Rel.store (R : Rel K σ H ρ As Z) {i : Nat} {x : Val} {ax : Option Addr} {v : V} (hi : i < σ.length) (r : VR K H Z v x ax) (f : ∀ a, ax = some a → ¬ Z a ∧ Own (H a) ∧ ∀ i, As i ≠ some a) :
    Rel K (σ.set i (some v)) H (ρ.set i (some x)) (setA As i ax) Z := by
  have hi' : i < ρ.length := by rw [R.len]; exact hi
  refine ⟨by rw [List.length_set, List.length_set]; exact R.len, fun j z q => ?_, fun j q => ?_, fun j b q => ?_, fun j k b q1 q2 => ?_, R.zed⟩
  · rw [gt_set hi'] at q
    by_cases h : j = i
    · rw [if_pos h] at q; cases q; subst h; rw [setA_self]; exact ⟨v, by rw [List.getElem?_set_self hi], r⟩
    · rw [if_neg h] at q; rw [setA_ne h, List.getElem?_set_ne (Ne.symm h)]; exact R.val j z q
  · rw [gt_set hi'] at q
    by_cases h : j = i
    · rw [if_pos h] at q; cases q
    · rw [if_neg h] at q; rw [setA_ne h]; exact R.nul j q
  · by_cases h : j = i
    · subst h; rw [setA_self] at q; exact ⟨(f b q).1, (f b q).2.1⟩
    · rw [setA_ne h] at q; exact R.own j b q
  · by_cases h : j = i
    · subst h; rw [setA_self] at q1
      by_cases h' : k = j
      · exact h'.symm
      · rw [setA_ne h'] at q2; exact absurd q2 ((f b q1).2.2 k)
    · rw [setA_ne h] at q1
      by_cases h' : k = i
      · subst h'; rw [setA_self] at q2; exact absurd q1 ((f b q2).2.2 j)
      · rw [setA_ne h'] at q2; exact R.inj j k b q1 q2
/-- slot i is forgotten -/
theorem Rel.drop (R : Rel K σ H ρ As Z) {i : Nat} {o : Option V} : Rel K (σ.set i o) H (ρ.set i none) (setA As i none) Z := by
  by_cases hi : i < ρ.length
  · refine ⟨by rw [List.length_set, List.length_set]; exact R.len, fun j z q => ?_, fun j q => ?_, fun j b q => ?_, fun j k b q1 q2 => ?_, R.zed⟩
    · rw [gt_set hi] at q
      by_cases h : j = i
      · rw [if_pos h] at q; cases q
      · rw [if_neg h] at q; rw [setA_ne h, List.getElem?_set_ne (Ne.symm h)]; exact R.val j z q
    · rw [gt_set hi] at q
      by_cases h : j = i
      · subst h; rw [setA_self]
      · rw [if_neg h] at q; rw [setA_ne h]; exact R.nul j q
    · by_cases h : j = i
      · subst h; rw [setA_self] at q; cases q
      · rw [setA_ne h] at q; exact R.own j b q
    · by_cases h : j = i
      · subst h; rw [setA_self] at q1; cases q1
      · rw [setA_ne h] at q1
        by_cases h' : k = i
        · subst h'; rw [setA_self] at q2; cases q2
        · rw [setA_ne h'] at q2; exact R.inj j k b q1 q2
  · have hg : gt ρ i = none := by
      cases e : gt ρ i with
      | none => rfl
      | some x => exact absurd (gt_lt e) hi
    have e1 : ρ.set i none = ρ := List.set_eq_of_length_le (by omega)
    have e2 : σ.set i o = σ := List.set_eq_of_length_le (by have := R.len; omega)
    have e3 : setA As i none = As := by
      funext j
      by_cases h : j = i
      · subst h; rw [setA_self, R.nul j hg]
      · rw [setA_ne h]
    rw [e1, e2, e3]
    exact R
theorem Stp.drop {i : Nat} : Stp H As Z H (setA As i none) Z := ⟨fun _ _ h _ => h, fun _ h => h, fun _ h => h, fun j b h => by
  by_cases e : j = i
  · subst e; rw [setA_self] at h; cases h
  · rw [setA_ne e] at h; exact .inl ⟨j, h⟩, fun _ h => .inl h⟩
end
end Q
set_option maxHeartbeats 2000000
/-! QH: rules that make tuples, each known to be plain. -/
namespace Q
open PySem L2 PyProof.Rows
section
variable {X : Cx} {es : List Expr} {pos p : Pos} {e : Expr}
theorem layT {pins : List (Addr × Obj)} {σ : L2.St} {H : Hp} {s : Shared} {xs : List V} {its : List Value} {Q : VK} (I : Inv X pins σ H s) (r : Vals xs its) (z : xs.length ≤ sizeLine) (q : ∀ q ob, H q = none → Pl ob → Q (.ref q) (upd H q (.frz ob (.tup xs)))) :
    EP X pins σ Q (.ref s.heap.objs.size) { s with heap := s.heap.push { cls := .type "tuple", data := .seq its.toArray } } :=
  ⟨.ref _, upd H s.heap.objs.size (.frz { cls := .type "tuple", data := .seq its.toArray } (.tup xs)), I.laid (t' := s.toks) (fun b u e => Heap.get?_push_of_some _ e) (Nat.le_refl _) ⟨Heap.get?_push_size _ rfl, z, its, r, ⟨_, Heap.get?_push_size _ rfl, rfl, _, rfl⟩⟩, rfl, q _ _ (I.hok.fresh (Nat.le_refl _)) ⟨rfl, rfl⟩⟩
def tTupP (t : TA) : TE := fun σ H Q => t σ H fun xs H1 => xs.length ≤ sizeLine ∧ ∀ q ob, H1 q = none → Pl ob → Q (.ref q) (upd H1 q (.frz ob (.tup xs)))
theorem pe_tupP {x1} {t : TA} (h : PA X es t) : PE X (.Tuple es x1 pos) (tTupP t) := by
  refine ⟨fun pins s σ H Q I hq => ?_⟩
  refine wpAny_Tuple_spliced (thn (h.run pos pins s σ H _ I hq) fun us s1 ⟨xs, H1, I1, r, z, q⟩ => ⟨by rw [← r.length]; exact z, ?_⟩)
  exact layT I1 r z q
def rCatP (K : PySem.W.Frag) : R2 := fun x y H Q => ∃ a b xs ys, x = .ref a ∧ y = .ref b ∧ SqT K H a xs ∧ SqT K H b ys ∧ xs.length + ys.length ≤ sizeLine ∧
  (xs = [] → Q (.ref b) H) ∧ (xs ≠ [] → ys = [] → Q (.ref a) H) ∧ (xs ≠ [] → ys ≠ [] → ∀ q ob, H q = none → Pl ob → Q (.ref q) (upd H q (.frz ob (.tup (xs ++ ys)))))
theorem op_catP : OpR X (binaryOp .Add) (rCatP X.K) := by
  intro pins s σ H x y v u Q I rx ry h
  obtain ⟨a, b, xs, ys, rfl, rfl, ha, hb, hz, q0, q1, q2⟩ := h
  cases rx
  cases ry
  obtain ⟨its, r1, p1, _⟩ := I.tuple ha
  obtain ⟨its2, r2, p2, _⟩ := I.tuple hb
  by_cases hx : xs = []
  · subst hx
    cases r1
    exact cat_tup0 p1 p2 ⟨.ref b, H, I, rfl, q0 rfl⟩
  · refine HT.cat_tup p1 p2 (fun z => hx (r1.nil_iff.mp z)) (fun z => ⟨.ref a, H, I, rfl, q1 hx (r2.nil_iff.mp z)⟩) (fun z => ?_) (by rw [← r1.length, ← r2.length]; exact hz)
    exact layT I (r1.append r2) (by rw [List.length_append]; exact hz) (q2 hx fun w => z (r2.nil_iff.mpr w))
def rSlP (K : PySem.W.Frag) : V → Option Int → Option Int → Hp → VK → Prop := fun x lo hi H Q => ∃ a xs, x = .ref a ∧ SqT K H a xs ∧
  (HT.sIx xs.length 0 lo = 0 ∧ HT.sIx xs.length xs.length hi = xs.length → Q (.ref a) H) ∧ (¬ (HT.sIx xs.length 0 lo = 0 ∧ HT.sIx xs.length xs.length hi = xs.length) → ∀ q ob, H q = none → Pl ob → Q (.ref q) (upd H q (.frz ob (.tup (cutV xs lo hi)))))
theorem sl_tupP : SlR X (rSlP X.K) := by
  intro pins s σ H x v vl vu lo hi sl Q I rx hs pl pu h
  obtain ⟨a, xs, rfl, hx, q1, q2⟩ := h
  cases rx
  obtain ⟨its, r, ht, hz⟩ := I.tuple hx
  have hlen : its.toArray.size = xs.length := by rw [List.size_toArray]; exact r.length.symm
  refine ⟨"tuple", _, PyProof.Rows.slot_tuple_getitem.lookup, ht.typeIs, ?_⟩
  by_cases hw : HT.sIx xs.length 0 lo = 0 ∧ HT.sIx xs.length xs.length hi = xs.length
  · exact getItem_tuple_whole ht hs pl pu (by rw [hlen]; exact hw) ⟨.ref a, H, I, rfl, q1 hw⟩
  · refine HT.getItem_tuple_cut ht hs pl pu (by rw [hlen]; exact hw) ?_ (by rw [hlen]; exact hz)
    rw [hlen]
    exact layT I ((r.drop (HT.sIx xs.length 0 lo)).take (HT.sIx xs.length xs.length hi - HT.sIx xs.length 0 lo)) (Nat.le_trans (cutV_length xs lo hi) hz) (q2 hw)
/-- tuple(x) of a list: a new one; of a tuple: itself -/
def rTupP (K : PySem.W.Frag) : List V → Hp → VK → Prop := fun vs H Q => ∃ a ys, vs = [.ref a] ∧ ((SqL K H a ys ∧ ∀ q ob, H q = none → Pl ob → Q (.ref q) (upd H q (.frz ob (.tup ys)))) ∨ (SqT K H a ys ∧ Q (.ref a) H))
theorem call_tupP : CallR X (.type "tuple") (rTupP X.K) := by
  intro pins s σ H xs us Q I r h
  obtain ⟨a, ys, rfl, h⟩ := h
  rw [Vals.ref1 r]
  rcases h with ⟨hs, k⟩ | ⟨hs, q⟩
  · obtain ⟨its, rv, pl, hz⟩ := I.list hs
    refine call_tuple_list pl.isList (fun h' hk => ?_) (by rw [List.size_toArray, ← rv.length]; exact hz)
    have I3 : Inv X pins σ H { s with heap := h' } := I.kept (t' := s.toks) hk
    have I4 : Inv X pins σ (upd H h'.objs.size (.frz { cls := .type "tuple", data := .seq its.toArray } (.tup ys))) { s with heap := h'.push { cls := .type "tuple", data := .seq its.toArray } } :=
      I3.laid (t' := s.toks) (fun b o e => Heap.get?_push_of_some _ e) (Nat.le_refl _) (show ObjOk X.prog X.w _ _ _ (.frz _ (.tup ys)) from ⟨Heap.get?_push_size _ rfl, hz, its, rv, IsTup.new _ _⟩)
    exact ⟨.ref h'.objs.size, _, I4, rfl, k _ _ (I3.hok.fresh (Nat.le_refl _)) ⟨rfl, rfl⟩⟩
  · obtain ⟨its, rv, pl, hz⟩ := I.tuple hs
    exact call_tuple_tup pl ⟨.ref a, H, I, rfl, q⟩
def tTupRgP (te : L2.St → Hp → (Int → Int → Hp → Prop) → Prop) : TE := fun σ H Q => te σ H fun a b H1 => RgOk a b ∧ ∀ q ob, H1 q = none → Pl ob → Q (.ref q) (upd H1 q (.frz ob (.tup (rgV a b))))
theorem pe_tupRgP {te : L2.St → Hp → (Int → Int → Hp → Prop) → Prop} (hc : X.calm = true) (hg : Gl X "tuple") (hm : X.mg "tuple" = none) (he : PRg X e te) (na : starEach [e] X.env = (false, eval e X.env) :: starEach [] X.env) : PE X (.Call (.Name "tuple" p) [e] [] pos) (tTupRgP te) := by
  refine ⟨fun pins s σ H Q I h => ?_⟩
  refine Call_ (ld_blt I hg hm boot_tuple (PyProof.Rows.callWith_type1 (args_cons (thn (he pins s σ H _ I h) fun x s1 ⟨r, a, b, t, u, v, H1, ex, hr, I1, ok, q⟩ => args_nil ?_) na) na))
  subst ex
  obtain ⟨b1, b2, b3, b4, b5⟩ := ok
  refine call_tuple_range (n := (b - a).toNat) (I1.ok.hd hc) hr (small_one b1 b2 b3 b4) (rangeSize_nat a b) b5 fun h' tk acc hk hi => ?_
  have I2 : Inv X pins σ H1 { s1 with heap := h', toks := tk } := I1.kept hk
  refine ⟨.ref h'.objs.size, upd H1 h'.objs.size (.frz _ (.tup (rgV a b))), I2.laid (t' := tk) (fun c o e => Heap.get?_push_of_some _ e) (Nat.le_refl _) (show ObjOk X.prog X.w _ _ _ (.frz _ (.tup (rgV a b))) from ⟨Heap.get?_push_size _ rfl, ?_, acc.toList, vals_rg hi, ?_⟩), rfl, q _ _ (I2.hok.fresh (Nat.le_refl _)) ⟨rfl, rfl⟩⟩
  · rw [rgV_length, sizeLine_eq]; omega
  · rw [Array.toArray_toList]; exact IsTup.new _ _
/-- tuples already laid are tracked, each as it is -/
theorem takeP {pins : List (Addr × Obj)} {σ : L2.St} {H0 : Hp} {s : Shared} {h' : Heap} {tk : Nat} {P : Addr → List V → Prop} (I0 : Inv X pins σ H0 s) : ∀ (L : List Addr) (H1 : Hp), Inv X pins σ H1 { s with heap := h', toks := tk } → L.Nodup →
    (∀ a ∈ L, s.heap.objs.size ≤ a ∧ H1 a = none ∧ ∃ vs ob, P a vs ∧ Pl ob ∧ ∀ H2, ObjOk X.prog X.w H2 h' a (.frz ob (.tup vs))) →
    ∃ H2, Inv X pins σ H2 { s with heap := h', toks := tk } ∧ (∀ b o, H1 b = some o → H2 b = some o) ∧ ∀ a ∈ L, ∃ vs, P a vs ∧ SqP H2 a vs
  | [], H1, I1, _, _ => ⟨H1, I1, fun _ _ e => e, fun _ h => nomatch h⟩
  | a :: L, H1, I1, hn, h => by
    obtain ⟨hb, hnone, vs, ob, hP, hpl, ok⟩ := h a (List.mem_cons_self ..)
    have I2 : Inv X pins σ (upd H1 a (.frz ob (.tup vs))) { s with heap := h', toks := tk } := I1.take (h' := h') (t' := tk) (fun b ob _ e => e) (I0.fpOk hb hnone) (ok _)
    rw [List.nodup_cons] at hn
    obtain ⟨H2, I3, g, q⟩ := takeP I0 L (upd H1 a (.frz ob (.tup vs))) I2 hn.2 fun c hc => by
      obtain ⟨c1, c2, c3⟩ := h c (List.mem_cons_of_mem _ hc)
      exact ⟨c1, by rw [upd_ne (fun z => hn.1 (by rw [← z]; exact hc))]; exact c2, c3⟩
    refine ⟨H2, I3, fun b o e => g b o (by rw [upd_ne (ne_of_none e hnone)]; exact e), fun c hc => ?_⟩
    rcases List.mem_cons.mp hc with rfl | hc
    · exact ⟨vs, hP, ob, hpl, g _ _ upd_same⟩
    · exact q c hc
end
/-- enumerate(a list): each pair new and plain -/
def IteP (K : PySem.W.Frag) (a : Addr) : It :=
  ⟨fun i H => ∃ (xs : List V) (x : V), SqL K H a xs ∧ xs[i]? = some x, fun i H v H' => ∃ T x ob, v = .ref T ∧ H T = none ∧ Pl ob ∧ H' = upd H T (.frz ob (.tup [.int (i : Nat), x])) ∧ ∀ xs, SqL K H a xs → xs[i]? = some x, fun i H => ∃ xs : List V, SqL K H a xs ∧ xs.length ≤ i⟩
theorem turn_enumP {P : Program} {w : World} {K : PySem.W.Frag} {elts : List Expr} {kk : Nat} {tpos : Pos} (a e it : Addr) :
    Turn P w K (.Tuple elts kk tpos) (IteP K a) [e, it] e (fun i h => (∃ old, IsEnum h e it ((i : Nat) : Int) old) ∧ h.IsListIter it a i ∧ e ≠ it) where
  mem := by simp
  obj := (turn_enum (P := P) (w := w) (K := K) (elts := elts) (kk := kk) (tpos := tpos) a e it).obj
  keep := (turn_enum (P := P) (w := w) (K := K) (elts := elts) (kk := kk) (tpos := tpos) a e it).keep
  item := by
    intro X hP hw hK hc i pins s σ H E I hf st hg
    subst hP hw hK
    obtain ⟨⟨old, he⟩, hit, hne⟩ := st
    obtain ⟨xs, x, hq, hx⟩ := hg
    obtain ⟨its, rv, p, hz⟩ := I.list hq
    obtain ⟨u, hu, ru⟩ := rv.get hx
    have hel : e < s.heap.objs.size := Heap.lt_size he
    have hil : it < s.heap.objs.size := by obtain ⟨_, q, _⟩ := hit; exact Heap.lt_size q
    refine wpAny_pyNext_enum_item he hit p.isList (x := u) (by simpa using hu) hne fun h' ho hit' hT hsz hk => ?_
    refine ⟨_, rfl, wpAny_letOwnedTupleGo_enum (s := { s with heap := h', toks := s.toks + 1 }) ho fun h'' he' sb => ?_⟩
    have hT2 : h''.get? s.heap.objs.size = some { cls := .type "tuple", data := .seq #[.int i s.toks, u] } := (sb.2 _ (Nat.ne_of_gt hel)).trans hT
    have new : ObjOk X.prog X.w (upd H s.heap.objs.size (.frz { cls := .type "tuple", data := .seq #[.int i s.toks, u] } (.tup [.int (i : Nat), x]))) h'' s.heap.objs.size (.frz { cls := .type "tuple", data := .seq #[.int i s.toks, u] } (.tup [.int (i : Nat), x])) :=
      ⟨hT2, by show 2 ≤ sizeLine; decide, [.int i s.toks, u], .cons ⟨_, rfl⟩ (.cons ru .nil), ⟨_, hT2, rfl, _, rfl⟩⟩
    have I1 := I.turnedNew (t' := s.toks + 1) (ch := [e, it]) (fun b ob hb q => (sb.2 b (fun z => hb (by simp [z]))).trans (hk b ob (fun z => hb (by simp [z])) (fun z => hb (by simp [z])) q)) hf (Nat.le_refl _) new
    refine ⟨.ref s.heap.objs.size, _, I1, rfl, ⟨_, x, _, rfl, I.hok.fresh (Nat.le_refl _), ⟨rfl, rfl⟩, rfl, fun ys hy => by rw [I.list_inj hy hq]; exact hx⟩, ⟨⟨u, ?_⟩, hit'.at fun o q => (sb.2 it (Ne.symm hne)).trans q, hne⟩, fun b hb => ?_⟩
    · have e1 : ((i + 1 : Nat) : Int) = (i : Int) + 1 := by omega
      rw [e1]; exact he'
    · have hb' : b < s.heap.objs.size := by
        have e' : b = e ∨ b = it := by simpa using hb
        rcases e' with z | z
        · rw [z]; exact hel
        · rw [z]; exact hil
      rw [upd_ne (Nat.ne_of_lt hb')]
      exact (hf b hb).1
  done := (turn_enum (P := P) (w := w) (K := K) (elts := elts) (kk := kk) (tpos := tpos) a e it).done
  self := (turn_enum (P := P) (w := w) (K := K) (elts := elts) (kk := kk) (tpos := tpos) a e it).self
def iEnumP (K : PySem.W.Frag) (ta : TA) : TI := fun σ H R => ta σ H fun vs H1 => ∃ a xs, vs = [.ref a] ∧ SqL K H1 a xs ∧ R (IteP K a) H1
theorem pi_enumP {X : Cx} {e : Expr} {ta : TA} {p pos tpos : Pos} {elts : List Expr} {kk : Nat} (hg : Gl X "enumerate") (hm : X.mg "enumerate" = none) (ha : PA X [e] ta) (hs : starEach [e] X.env = [(false, eval e X.env)]) :
    PI X (.Tuple elts kk tpos) (.Call (.Name "enumerate" p) [e] [] pos) (iEnumP X.K ta) := by
  refine ⟨fun pins s σ H R I h => ?_⟩
  refine Call_ (ld_blt I hg hm boot_enumerate (PyProof.Rows.callWith_type1 (thn (ha.run pos pins s σ H _ I h) fun us s1 ⟨vs, H1, I1, r1, q1⟩ => ?_) hs rfl))
  obtain ⟨a, xs, ex, hq, q⟩ := q1
  subst ex
  rw [Vals.ref1 r1]
  obtain ⟨its, rv, p', hz⟩ := I1.list hq
  refine call_enumerate_list p'.isList fun h' he hit hsz hk => wpAny_pyIter_enum he ?_
  have I2 : Inv X pins σ H1 { s1 with heap := h' } := I1.kept (t' := s1.toks) hk
  refine ⟨s1.heap.objs.size + 1, [s1.heap.objs.size + 1, s1.heap.objs.size], _, _, H1, rfl, I2, turn_enumP a (s1.heap.objs.size + 1) s1.heap.objs.size, ⟨⟨.none, he⟩, hit, Nat.succ_ne_self _⟩, fun b hb => ?_, q⟩
  have e' : b = s1.heap.objs.size + 1 ∨ b = s1.heap.objs.size := by simpa using hb
  have hle : s1.heap.objs.size ≤ b := by
    rcases e' with z | z
    · rw [z]; exact Nat.le_add_right _ _
    · rw [z]; exact Nat.le_refl _
  exact I1.fpOk hle (I1.hok.fresh hle)
end Q
/-! QC: from the model's text to the small language. -/
namespace Q
open PySem L2

/-- what a global name of the module is -/
inductive GV where
  | fn (id np : Nat)
  | cst (d : D)
  | bi
structure CC where
  N : List Str
  sc : Scope
  /-- names that may be stored -/
  st : Str → Bool
  /-- repr may be asked -/
  rp : Bool
  gl : Str → Option GV
def ixOf (N : List Str) (x : Str) : Option Nat := N.findIdx? fun y => decide (y = x)
def plainN (x : Str) : Bool := !decide (x = ("__debug__" : Str)) && !decide (x = ("__classdict__" : Str)) && !decide (x = ("__name__" : Str))
/-- a name of the def's own, as a slot -/
def slotOf (C : CC) (x : Str) : Option Nat := if plainN x then match C.sc.names.lookup x with
    | some .local => ixOf C.N x
    | some .cell => ixOf C.N x
    | some .free => ixOf C.N x
    | _ => none
  else none
/-- one that may be stored -/
def locOf (C : CC) (x : Str) : Option Nat := if C.st x then match C.sc.names.lookup x with
    | some .local => ixOf C.N x
    | some .cell => ixOf C.N x
    | _ => none
  else none
/-- the names that a comprehension's block has for itself -/
def ownSt (s : Scope) (x : Str) : Bool := match s.names.lookup x with
  | some .local => true
  | some .cell => true
  | _ => false
def CC.sub (C : CC) (s : Scope) : CC := { C with sc := relS s C.sc, st := ownSt s }
def globOf (C : CC) (x : Str) : Option GV := if plainN x then match C.sc.names.lookup x with
    | some .globalImplicit => C.gl x
    | _ => none
  else none
def isBi (C : CC) (x : Str) : Bool := match globOf C x with
  | some .bi => true
  | _ => false
def ownOf (C : CC) (s : Scope) : List (Str × Nat) := s.names.filterMap fun y => match y.2 with
  | .local => (ixOf C.N y.1).map fun i => (y.1, i)
  | .cell => (ixOf C.N y.1).map fun i => (y.1, i)
  | _ => none
def bopOf : Operator → Option BOp
  | .Add => some .add | .Sub => some .sub | .Mult => some .mul | .Mod => some .mod | .FloorDiv => some .fdiv | .Pow => some .pow
  | _ => none
def copOf : CmpOp → Option COp
  | .Eq => some .eq | .NotEq => some .ne | .Lt => some .lt | .LtE => some .le | .Gt => some .gt | .GtE => some .ge | .In => some .inn | .NotIn => some .nin
  | _ => none
def f1Of (rp : Bool) (x : Str) : Option F1 :=
  if x = "tuple" then some .tuple else if x = "list" then some .list else if x = "sorted" then some .sorted else if x = "min" then some .min else if x = "max" then some .max else
  if x = "sum" then some .sum else if x = "len" then some .len else if x = "int" then some .int else if x = "str" then some .str else if x = "repr" ∧ rp = true then some .repr else
  if x = "dict" then some .dict else if x = "all" then some .all else if x = "any" then some .any else none
def f2Of (x : Str) : Option F2 := if x = "min" then some .min else if x = "max" then some .max else none
def tyOf (x : Str) : Option Ty := if x = "int" then some .int else if x = "bool" then some .bool else if x = "str" then some .str else if x = "tuple" then some .tuple else if x = "list" then some .list else none
def mtOf (x : Str) (n : Nat) : Option Mt := if x = "index" ∧ n = 1 then some .index else none
def muOf (x : Str) (n : Nat) : Option Mu := if x = "append" ∧ n = 1 then some .append else if x = "reverse" ∧ n = 0 then some .reverse else
  if x = "pop" ∧ n = 1 then some .pop1 else none
def plainC : COp → Bool
  | .inn => false
  | .nin => false
  | .isn => false
  | .isnn => false
  | _ => true
def namesOf : List Expr → Option (List Str)
  | [] => some []
  | .Name x _ :: r => match namesOf r with
    | some xs => some (x :: xs)
    | none => none
  | _ :: _ => none
def slotsAll (f : Str → Option Nat) : List Str → Option (List Nat)
  | [] => some []
  | x :: r => match f x, slotsAll f r with
    | some i, some is => some (i :: is)
    | _, _ => none
/-- a target of a for: a name, or names -/
def tgOf (C : CC) (e : Expr) : Option (List Nat × Bool) := match e with
  | .Name x _ => match locOf C x with
    | some i => some ([i], true)
    | none => none
  | .Tuple es _ _ => match namesOf es with
    | some xs => match slotsAll (locOf C) xs with
      | some is => some (is, false)
      | none => none
    | none => none
  | _ => none
def isCall : Expr → Bool
  | .Call _ _ _ _ => true
  | _ => false
def isTup : Expr → Bool
  | .Tuple _ _ _ => true
  | _ => false
def cNe : Expr → Bool
  | .Constant .none _ _ => true
  | _ => false

/-- a built-in's plain call by its name -/
def bCall (C : CC) (f : Str) (k : Nat) : Expr → Option (List Expr)
  | .Call (.Name g _) args [] _ => if g = f ∧ isBi C g = true ∧ args.length = k then some args else none
  | _ => none
/-- o.values() -/
def valsCall : Expr → Option Expr
  | .Call (.Attribute o m ap) [] [] p => if m = "values" ∧ (ap.endLine == p.line) = true ∧ isCall o = false then some o else none
  | _ => none
def cK : Const → Option IE
  | .int i => some (.k (.int i))
  | .str x => some (.k (.str x))
  | .bool b => some (.k (.bool b))
  | .none => some (.k .none)
  | _ => none
def cNm (C : CC) (x : Str) : Option IE := match slotOf C x with
  | some i => some (.var i)
  | none => match globOf C x with
    | some (.cst d) => some (.k d)
    | _ => none
def isOne : Option Expr → Bool
  | some (.UnaryOp .USub (.Constant (.int i) _ _) _) => decide (i = 1)
  | _ => false
def isSl : Expr → Bool
  | .Slice _ _ _ _ => true
  | _ => false
mutual
def cE : Nat → CC → Expr → Option IE
  | 0, _, _ => none
  | n + 1, C, e => match e with
    | .Constant c _ _ => cK c
    | .Name x _ => cNm C x
    | .Tuple es _ _ => if es.length ≤ 1000 then (cL n C es).map .tup else none
    | .List es _ => if es.length ≤ 1000 then (cL n C es).map .lst else none
    | .Dict ks vs _ => match ks, vs with
      | [], [] => some .dnew
      | _, _ => none
    | .BinOp a op b _ => match bopOf op, cE n C a, cE n C b with
      | some o, some x, some y => some (.bin o x y)
      | _, _, _ => none
    | .UnaryOp op a _ => match op with
      | .USub => (cE n C a).map .neg
      | .Not => (cE n C a).map .not
      | _ => none
    | .Compare a ops bs _ => cCmp n C a ops bs
    | .BoolOp op es _ => cBo n C op es
    | .IfExp c a b _ => match cE n C c, cE n C a, cE n C b with
      | some t, some x, some y => some (.ife t x y)
      | _, _, _ => none
    | .Subscript a b _ => cSub n C a b
    | .ListComp elt gens scope _ => cLC n C elt gens scope
    | .Call f args kw p => match kw with
      | [] => cCa n C f args p
      | _ => none
    | _ => none
def cCmp : Nat → CC → Expr → List CmpOp → List Expr → Option IE
  | 0, _, _, _, _ => none
  | n + 1, C, a, ops, bs => match ops, bs with
    | [op], [b] => match copOf op, cE n C a, cE n C b with
      | some o, some x, some y => some (.cmp o x y)
      | _, _, _ => none
    | [op, op'], [b, c] => match copOf op, copOf op', cE n C a, cE n C b, cE n C c with
      | some o, some o', some x, some y, some z => if plainC o && plainC o' then some (.chain o o' x y z) else none
      | _, _, _, _, _ => none
    | _, _ => none
def cBo : Nat → CC → BoolOp → List Expr → Option IE
  | 0, _, _, _ => none
  | n + 1, C, op, es => match es with
    | [a, b] => match cE n C a, cE n C b with
      | some x, some y => match op with
        | .And => some (.and x y)
        | .Or => some (.or x y)
      | _, _ => none
    | a :: b :: c :: r => match cE n C a, cBo n C op (b :: c :: r) with
      | some x, some y => match op with
        | .And => some (.and x y)
        | .Or => some (.or x y)
      | _, _ => none
    | _ => none
def cSub : Nat → CC → Expr → Expr → Option IE
  | 0, _, _, _ => none
  | n + 1, C, a, b => match b with
    | .Slice lo hi st _ => match st with
      | none => match cE n C a, cO n C lo, cO n C hi with
        | some x, some l, some h => some (.sl x l h)
        | _, _, _ => none
      | st => match lo, hi with
        | none, none => if isOne st then (cE n C a).map .rev else none
        | _, _ => none
    | b => match cE n C a, cE n C b with
      | some x, some y => some (.ix x y)
      | _, _ => none
def cLC : Nat → CC → Expr → List Comprehension → Scope → Option IE
  | 0, _, _, _, _ => none
  | n + 1, C, elt, gens, scope => match gens with
    | [⟨tg, iter, ifs, asy⟩] => if asy = 0 ∧ blkC C.N C.sc scope (ownOf C scope) = true then
        match cI n C (isTup tg) iter, tgOf (C.sub scope) tg, cE n (C.sub scope) elt, cC n (C.sub scope) ifs with
        | some it, some (is, one), some el, some c => if is.all fun i => ((ownOf C scope).map (·.2)).contains i then some (.lc ((ownOf C scope).map (·.2)) is one it c el) else none
        | _, _, _, _ => none
      else none
    | _ => none
def cCa : Nat → CC → Expr → List Expr → Pos → Option IE
  | 0, _, _, _, _ => none
  | n + 1, C, f, args, p => match f with
    | .Name f _ => match globOf C f with
      | some (.fn id np) => if args.length = np ∧ 0 < np then (cL n C args).map (.call id) else none
      | some .bi => match args with
        | [a] => if f = "tuple" then cT n C a else if f = "list" then cV n C a else match f1Of C.rp f with
            | some g => (cE n C a).map (.f1 g)
            | none => none
        | [a, b] => match f2Of f with
          | some g => match cE n C a, cE n C b with
            | some x, some y => some (.f2 g x y)
            | _, _ => none
          | none => none
        | _ => none
      | _ => none
    | .Attribute o m ap => if ap.endLine == p.line then cM n C o m args else none
    | _ => none
/-- a method's call -/
def cM : Nat → CC → Expr → Str → List Expr → Option IE
  | 0, _, _, _, _ => none
  | n + 1, C, o, m, args => match args with
    | [a] => if m = "index" then (if isCall o then none else match cE n C o, cE n C a with
          | some x, some y => some (.mth .index x (.cons y .nil))
          | _, _ => none)
        else match o with
        | .Name x _ => match slotOf C x, cE n C a with
          | some i, some y => if m = "extend" then some (.ext i y) else if m = "append" then some (.mut .append i (.cons y .nil)) else if m = "pop" then some (.mut .pop1 i (.cons y .nil)) else none
          | _, _ => none
        | _ => none
    | [] => match o with
      | .Name x _ => match slotOf C x with
        | some i => if m = "reverse" then some (.mut .reverse i .nil) else none
        | none => none
      | _ => none
    | _ => none
/-- tuple(e) -/
def cT : Nat → CC → Expr → Option IE
  | 0, _, _ => none
  | n + 1, C, a => match bCall C "range" 1 a with
    | some [b] => (cE n C b).map fun x => .cv .tuple (.rng1 x)
    | _ => match bCall C "zip" 2 a with
      | some [b, c] => match cE n C b, cE n C c with
        | some x, some y => some (.cv .tuple (.zip x y))
        | _, _ => none
      | _ => (cE n C a).map (.f1 .tuple)
/-- list(e) -/
def cV : Nat → CC → Expr → Option IE
  | 0, _, _ => none
  | n + 1, C, a => match bCall C "range" 1 a with
    | some [b] => (cE n C b).map fun x => .cv .list (.rng1 x)
    | _ => match valsCall a with
      | some o => (cE n C o).map fun x => .cv .list (.vals x)
      | none => (cE n C a).map (.f1 .list)
def cO : Nat → CC → Option Expr → Option IE
  | 0, _, _ => none
  | n + 1, C, e => match e with
    | none => some (.k .none)
    | some e => (cE n C e).map .bnd
def cC : Nat → CC → List Expr → Option IE
  | 0, _, _ => none
  | n + 1, C, es => match es with
    | [] => some (.k (.bool true))
    | [c] => cE n C c
    | _ => none
def cL : Nat → CC → List Expr → Option IE
  | 0, _, _ => none
  | n + 1, C, es => match es with
    | [] => some .nil
    | e :: r => match cE n C e, cL n C r with
      | some x, some xs => some (.cons x xs)
      | _, _ => none
/-- pr: the target is a tuple -/
def cI : Nat → CC → Bool → Expr → Option IE
  | 0, _, _, _ => none
  | n + 1, C, pr, e => match bCall C "range" 1 e with
    | some [a] => (cE n C a).map .rng1
    | _ => match bCall C "enumerate" 1 e with
      | some [a] => if pr then (cE n C a).map .enum else none
      | _ => (cE n C e).map .seq
end
def isLC : Expr → Bool
  | .ListComp _ _ _ _ => true
  | .SetComp _ _ _ _ => true
  | .DictComp _ _ _ _ _ => true
  | _ => false
/-- the stores of a tuple's items come one by one -/
def parNo : Expr → Bool
  | .Tuple vs _ _ => vs.all (foldedForSure 8)
  | e => !isLC e
mutual
def cS : Nat → CC → Stmt → Option IS
  | 0, _, _ => none
  | n + 1, C, s => match s with
    | .Pass _ => some .skip
    | .Break _ => some .brk
    | .Continue _ => some .cnt
    | .Return (some e) _ => (cE n C e).map .ret
    | .Return none _ => some (.ret (.k .none))
    | .Expr e _ => if isLC e then none else (cE n C e).map .ex
    | .Assign ts e _ => match ts with
      | [t] => match t with
        | .Name x _ => match locOf C x, cE n C e with
          | some i, some v => some (.asg i v)
          | _, _ => none
        | .Tuple us _ _ => if parNo e then match namesOf us with
            | some xs => match slotsAll (locOf C) xs, cE n C e with
              | some is, some v => some (.unp is v)
              | _, _ => none
            | none => none
          else none
        | .Subscript o ki _ => match o with
          | .Name x _ => if isLC e then none else match slotOf C x, cE n C ki, cE n C e with
            | some i, some k, some v => some (.setix i k v)
            | _, _, _ => none
          | _ => none
        | _ => none
      | _ => none
    | .If c a b _ => match cE n C c, cB n C a, cB n C b with
      | some t, some x, some y => some (.iff t x y)
      | _, _, _ => none
    | .For tg it b [] _ => match tgOf C tg, cI n C (isTup tg) it, cB n C b with
      | some (is, one), some i, some x => some (.for_ is one i x)
      | _, _, _ => none
    | .While c b [] _ => match cE n C c, cB n C b with
      | some t, some x => some (.whl t x)
      | _, _ => none
    | .Raise _ _ _ => some .no
    | _ => none
def cB : Nat → CC → List Stmt → Option IS
  | 0, _, _ => none
  | n + 1, C, ss => match ss with
    | [] => some .skip
    | [s] => cS n C s
    | s :: r => match cS n C s, cB n C r with
      | some x, some y => some (.sq x y)
      | _, _ => none
end
end Q
/-! QE: expressions: what the evaluator says is what the model does. -/
namespace Q
open PySem L2

/-- the setting: the written part, how exceptions lie, what is wanted of them -/
structure Gs where
  K : PySem.W.Frag
  EX : EXT
  W : WX
section
variable (G : Gs) (σ : St) (H : Hp) (As : AsT) (Z : Addr → Prop)
def OutX (e : Exn) (ρ' : Rho) : Prop := ∀ c d H', XRes G.K G.EX σ H As Z ρ' e c d H' → G.W c d σ H'
def OutQ (o : Out Hd) (Q : VK) : Prop := match o with
  | .ok h ρ' => ∀ v H', Res G.K σ H As Z ρ' h v H' → Q v H'
  | .exc e ρ' => OutX G σ H As Z e ρ'
  | .bad => False
/-- the state alone -/
def SRes (ρ' : Rho) (H' : Hp) (Φ : AsT → (Addr → Prop) → Prop) : Prop := ∃ As' Z', Rel G.K σ H' ρ' As' Z' ∧ Stp H As Z H' As' Z' ∧ Φ As' Z'
def OutB (o : Out Bool) (Q : Bool → Hp → Prop) : Prop := match o with
  | .ok b ρ' => ∀ H', SRes G σ H As Z ρ' H' (fun _ _ => True) → Q b H'
  | .exc e ρ' => OutX G σ H As Z e ρ'
  | .bad => False
def OutA (o : Out (List D)) (Q : List V → Hp → Prop) : Prop := match o with
  | .ok ds ρ' => ∀ vs H', SRes G σ H As Z ρ' H' (fun _ Z' => ImA G.K H' Z' vs ds) → Q vs H'
  | .exc e ρ' => OutX G σ H As Z e ρ'
  | .bad => False
/-- handles: each as it is, no two of one's own at one place -/
def HndL (K : PySem.W.Frag) (σ : St) (H : Hp) (Z : Addr → Prop) (As : AsT) : List V → List Hd → List (Option Addr) → Prop
  | [], [], [] => True
  | v :: vs, h :: hs, a :: axs => Hnd K σ H Z As v h a ∧ HndL K σ H Z As vs hs axs ∧ ∀ b, a = some b → some b ∉ axs
  | _, _, _ => False
def FrL (axs : List (Option Addr)) : Prop := ∀ a, some a ∈ axs → (∃ j, As j = some a) ∨ H a = none
def OutL (o : Out (List Hd)) (Q : List V → Hp → Prop) : Prop := match o with
  | .ok hs ρ' => ∀ vs H', SRes G σ H As Z ρ' H' (fun As' Z' => ∃ axs, HndL G.K σ H' Z' As' vs hs axs ∧ FrL H As axs) → Q vs H'
  | .exc e ρ' => OutX G σ H As Z e ρ'
  | .bad => False
end
def tE (G : Gs) (f : Rho → Out Hd) : TE := fun σ H Q => ∃ ρ As Z, Rel G.K σ H ρ As Z ∧ OutQ G σ H As Z (f ρ) Q
def tT (G : Gs) (f : Rho → Out Bool) : TT := fun σ H Q => ∃ ρ As Z, Rel G.K σ H ρ As Z ∧ OutB G σ H As Z (f ρ) Q
def tA (G : Gs) (f : Rho → Out (List D)) : TA := fun σ H Q => ∃ ρ As Z, Rel G.K σ H ρ As Z ∧ OutA G σ H As Z (f ρ) Q
def tL (G : Gs) (f : Rho → Out (List Hd)) : TA := fun σ H Q => ∃ ρ As Z, Rel G.K σ H ρ As Z ∧ OutL G σ H As Z (f ρ) Q

section
variable {G : Gs} {σ : St} {H H1 H' : Hp} {As As1 As' : AsT} {Z Z1 Z' : Addr → Prop} {ρ ρ1 ρ' : Rho}
theorem PE.imp {X : Cx} {e : Expr} {t t' : TE} (h : PE X e t) (w : ∀ σ H Q, t' σ H Q → t σ H Q) : PE X e t' := ⟨fun pins s σ H Q I q => h.run pins s σ H Q I (w σ H Q q)⟩
theorem PT.imp {X : Cx} {e : Expr} {t t' : TT} (h : PT X e t) (w : ∀ σ H Q, t' σ H Q → t σ H Q) : PT X e t' := ⟨fun pins s σ H Q I q => h.run pins s σ H Q I (w σ H Q q)⟩
theorem PW.imp {X : Cx} {e : Expr} {t t' : TT} (h : PW X e t) (w : ∀ σ H Q, t' σ H Q → t σ H Q) : PW X e t' := ⟨fun wh pins s σ H Q I q => h.run wh pins s σ H Q I (w σ H Q q)⟩
theorem PA.imp {X : Cx} {e : List Expr} {t t' : TA} (h : PA X e t) (w : ∀ σ H Q, t' σ H Q → t σ H Q) : PA X e t' := ⟨fun pos pins s σ H Q I q => h.run pos pins s σ H Q I (w σ H Q q)⟩
theorem OutX.trans (S : Stp H As Z H1 As1 Z1) {e : Exn} (h : OutX G σ H As Z e ρ') : OutX G σ H1 As1 Z1 e ρ' := fun c d H' x => h c d H' (x.trans S)
/-- an expression is evaluated at world 1, the base behind -/
theorem bindE (S : Stp H As Z H1 As1 Z1) (R : Rel G.K σ H1 ρ1 As1 Z1) {f : Rho → Out Hd} {g : Hd → Rho → Out Hd} {Q rest : VK} (hO : OutQ G σ H As Z ((f ρ1).bind g) Q)
    (k : ∀ h ρ2 v H2 As2 Z2 ax, Rel G.K σ H2 ρ2 As2 Z2 → Stp H1 As1 Z1 H2 As2 Z2 → Stp H As Z H2 As2 Z2 → Hnd G.K σ H2 Z2 As2 v h ax → (∀ a, ax = some a → (∃ j, As1 j = some a) ∨ H1 a = none) → OutQ G σ H As Z (g h ρ2) Q → rest v H2) : tE G f σ H1 rest := by
  refine ⟨ρ1, As1, Z1, R, ?_⟩
  cases e : f ρ1 with
  | ok h ρ2 =>
    rw [e] at hO
    intro v H2 ⟨As2, Z2, ax, R2, S2, n, fr⟩
    exact k h ρ2 v H2 As2 Z2 ax R2 S2 (S.trans S2) n fr hO
  | exc x ρ2 => rw [e] at hO; exact OutX.trans S hO
  | bad => rw [e] at hO; exact hO
theorem lift2_ok {α : Type} {h h' : Hd} {f : Val → Val → Option α} {g : α → Val} {Q : VK} (hO : OutQ G σ H As Z (lift2 ρ h h' f g) Q) :
    ∃ x y z, dr ρ h = some x ∧ dr ρ h' = some y ∧ f x y = some z ∧ ∀ v H', Res G.K σ H As Z ρ (.v (g z)) v H' → Q v H' := by
  unfold lift2 at hO
  cases e1 : dr ρ h with
  | none => rw [e1] at hO; exact hO.elim
  | some x =>
    cases e2 : dr ρ h' with
    | none => rw [e1, e2] at hO; exact hO.elim
    | some y =>
      rw [e1, e2] at hO
      dsimp only at hO
      cases e3 : f x y with
      | none => rw [e3] at hO; exact hO.elim
      | some z => rw [e3] at hO; exact ⟨x, y, z, rfl, rfl, e3, hO⟩
theorem lift1_ok {α : Type} {h : Hd} {f : Val → Option α} {g : α → Val} {Q : VK} (hO : OutQ G σ H As Z (lift1 ρ h f g) Q) :
    ∃ x z, dr ρ h = some x ∧ f x = some z ∧ ∀ v H', Res G.K σ H As Z ρ (.v (g z)) v H' → Q v H' := by
  unfold lift1 at hO
  cases e1 : dr ρ h with
  | none => rw [e1] at hO; exact hO.elim
  | some x =>
    rw [e1] at hO
    dsimp only at hO
    cases e3 : f x with
    | none => rw [e3] at hO; exact hO.elim
    | some z => rw [e3] at hO; exact ⟨x, z, rfl, e3, hO⟩
/-- an operation by values: what its rule asks follows from the values -/
def OpSnd (K : PySem.W.Frag) {α : Type} (r : R2) (f : Val → Val → Option α) (g : α → Val) : Prop :=
  ∀ (H : Hp) (Z : Addr → Prop) (v w : V) (x y : Val) (ox oy : Option Addr) (z : α) (Q : VK), VR K H Z v x ox → VR K H Z w y oy → f x y = some z → (∀ u H', New K Z H H' u (g z) → Q u H') → r v w H Q
def UnSnd (K : PySem.W.Frag) {α : Type} (r : V → Hp → VK → Prop) (f : Val → Option α) (g : α → Val) : Prop :=
  ∀ (H : Hp) (Z : Addr → Prop) (v : V) (x : Val) (ox : Option Addr) (z : α) (Q : VK), VR K H Z v x ox → f x = some z → (∀ u H', New K Z H H' u (g z) → Q u H') → r v H Q
/-- two operands, then an operation -/
theorem op_tE {α : Type} {fa fb : Rho → Out Hd} {f : Val → Val → Option α} {g : α → Val} {r : R2} (sd : OpSnd G.K r f g) {Q : VK}
    (h : tE G (fun ρ => (fa ρ).bind fun h ρ => (fb ρ).bind fun k ρ => lift2 ρ h k f g) σ H Q) : tOp r (tE G fa) (tE G fb) σ H Q := by
  obtain ⟨ρ, As, Z, R, hO⟩ := h
  refine bindE Stp.refl R hO fun h1 ρ1 v H1 As1 Z1 ax R1 S1 _ n1 _ hO1 => ?_
  refine bindE S1 R1 hO1 fun h2 ρ2 w H2 As2 Z2 ay R2 S12 S2 n2 _ hO2 => ?_
  obtain ⟨x, y, z, d1, d2, e, q⟩ := lift2_ok hO2
  obtain ⟨ox, r1, _⟩ := (n1.keep R1 S12).dr R2 d1
  obtain ⟨oy, r2, _⟩ := n2.dr R2 d2
  exact sd H2 Z2 v w x y ox oy z Q r1 r2 e fun u H' n => q u H' ((Res.new R2 n).trans S2)
theorem un_tE {α : Type} {fa : Rho → Out Hd} {f : Val → Option α} {g : α → Val} {r : V → Hp → VK → Prop} (sd : UnSnd G.K r f g) {Q : VK}
    (h : tE G (fun ρ => (fa ρ).bind fun h ρ => lift1 ρ h f g) σ H Q) : tUn r (tE G fa) σ H Q := by
  obtain ⟨ρ, As, Z, R, hO⟩ := h
  refine bindE Stp.refl R hO fun h1 ρ1 v H1 As1 Z1 ax R1 S1 _ n1 _ hO1 => ?_
  obtain ⟨x, z, d1, e, q⟩ := lift1_ok hO1
  obtain ⟨ox, r1, _⟩ := n1.dr R1 d1
  exact sd H1 Z1 v x ox z Q r1 e fun u H' n => q u H' ((Res.new R1 n).trans S1)

/-! ### the forms -/
variable {X : Cx} {e a b c : Expr} {fa fb fc : Rho → Out Hd} {pos : Pos}
theorem Res.tree {v : V} {x : D} (R : Rel G.K σ H ρ As Z) (h : Im G.K H Z v x) : Res G.K σ H As Z ρ (.v (.d x)) v H := Res.new R (New.d h)
theorem s_const {v : V} {x : D} (h : PE X e (tC v)) (i : ∀ H Z, Im G.K H Z v x) : PE X e (tE G fun r => .ok (.v (.d x)) r) :=
  PE.imp h fun σ H Q ⟨ρ, As, Z, R, hO⟩ => hO v H (Res.tree R (i H Z))
theorem s_var {i : Nat} (h : PE X e (tVar i)) : PE X e (tE G (varF i)) := PE.imp h fun σ H Q ⟨ρ, As, Z, R, hO⟩ => by
  unfold varF at hO
  cases g : gt ρ i with
  | none => rw [g] at hO; exact hO.elim
  | some x =>
    obtain ⟨v, hv, r⟩ := R.val i x g
    rw [g] at hO
    refine ⟨v, hv, ?_⟩
    cases x with
    | d y => exact hO v H (Res.tree R r.2)
    | lst xs => exact hO v H ⟨As, Z, none, R, Stp.refl, ⟨rfl, hv⟩, fun _ z => nomatch z⟩
    | dct xs => exact hO v H ⟨As, Z, none, R, Stp.refl, ⟨rfl, hv⟩, fun _ z => nomatch z⟩
    | ins c xs => exact hO v H ⟨As, Z, none, R, Stp.refl, ⟨rfl, hv⟩, fun _ z => nomatch z⟩
    | scr xs t =>
      cases t with
      | false => exact hO v H ⟨As, Z, none, R, Stp.refl, ⟨rfl, hv⟩, fun _ z => nomatch z⟩
      | true =>
        obtain ⟨_, a, ys, rfl, ⟨ob, c1, c2, h2⟩, h3⟩ := r
        exact hO _ H (Res.tree R (.tup ⟨ob, ⟨by assumption, by assumption⟩, h2⟩ h3))
theorem s_bin {α : Type} {op : Operator} {r : R2} {f : Val → Val → Option α} {g : α → Val} (ha : PE X a (tE G fa)) (hb : PE X b (tE G fb)) (ho : OpR X (binaryOp op) r) (sd : OpSnd G.K r f g) :
    PE X (.BinOp a op b pos) (tE G fun ρ => (fa ρ).bind fun h ρ => (fb ρ).bind fun k ρ => lift2 ρ h k f g) := PE.imp (pe_op ho ha hb) fun σ H Q h => op_tE sd h
theorem s_un {α : Type} {op : UnaryOp} {r : V → Hp → VK → Prop} {f : Val → Option α} {g : α → Val} (ha : PE X a (tE G fa)) (ho : UnR X (unaryOp op) r) (sd : UnSnd G.K r f g) :
    PE X (.UnaryOp op a pos) (tE G fun ρ => (fa ρ).bind fun h ρ => lift1 ρ h f g) := PE.imp (pe_un ho ha) fun σ H Q h => un_tE sd h
theorem s_cmp {α : Type} {op : CmpOp} {r : R2} {f : Val → Val → Option α} {g : α → Val} (ha : PE X a (tE G fa)) (hb : PE X b (tE G fb)) (ho : OpR X (compareOp op) r) (sd : OpSnd G.K r f g) (hm : behindInMarks op b = false) :
    PE X (.Compare a [op] [b] pos) (tE G fun ρ => (fa ρ).bind fun h ρ => (fb ρ).bind fun k ρ => lift2 ρ h k f g) := PE.imp (pe_cmpR ho ha hb hm) fun σ H Q h => op_tE sd h
theorem s_ix {r : R2} {f : Val → Val → Option D} (ha : PE X a (tE G fa)) (hb : PE X b (tE G fb)) (ho : IxR X r) (sd : OpSnd G.K r f .d) (hs : PlainIx b) :
    PE X (.Subscript a b pos) (tE G fun ρ => (fa ρ).bind fun h ρ => (fb ρ).bind fun k ρ => lift2 ρ h k f .d) := PE.imp (pe_ix ho ha hb hs) fun σ H Q h => op_tE sd h

/-! ### truth -/
theorem tst_ok {o : Out Hd} {Q : Bool → Hp → Prop} (hO : OutB G σ H As Z (tstO o) Q) :
    OutQ G σ H As Z o (fun v H' => ∃ b, v = .bl b ∧ Q b H') := by
  cases o with
  | bad => exact hO
  | exc e r => exact hO
  | ok h r =>
    cases h with
    | s i => exact hO.elim
    | v x =>
      cases x with
      | lst xs => exact hO.elim
      | dct xs => exact hO.elim
      | ins c xs => exact hO.elim
      | scr xs => exact hO.elim
      | d y =>
        cases y with
        | bool b =>
          intro v H' ⟨As', Z', ax, R', S', n, fr⟩
          exact ⟨b, n.1.2.bl_v, hO H' ⟨As', Z', R', S', trivial⟩⟩
        | none => exact hO.elim
        | int i => exact hO.elim
        | str x => exact hO.elim
        | list x => exact hO.elim
        | tuple x => exact hO.elim
        | dict x => exact hO.elim
/-- a test of a value -/
theorem s_tst (ha : PE X a (tE G fa)) (he : ∀ whole, isTrue a X.env whole = (do let v ← whole; standAt a.pos; holding [v] (truthy v))) : PT X a (tT G fun ρ => tstO (fa ρ)) :=
  PT.imp (pt_val ha he) fun σ H Q ⟨ρ, As, Z, R, hO⟩ => ⟨ρ, As, Z, R, tst_ok hO⟩
theorem s_tcmp {op : CmpOp} {r : R2} {f : Val → Val → Option Bool} (ha : PE X a (tE G fa)) (hb : PE X b (tE G fb)) (ho : OpR X (compareOp op) r) (sd : OpSnd G.K r f ofB) (hm : behindInMarks op b = false) :
    PT X (.Compare a [op] [b] pos) (tT G fun ρ => tstO ((fa ρ).bind fun h ρ => (fb ρ).bind fun k ρ => lift2 ρ h k f ofB)) :=
  PT.imp (pt_cmpR ho ha hb hm) fun σ H Q ⟨ρ, As, Z, R, hO⟩ => op_tE sd ⟨ρ, As, Z, R, tst_ok hO⟩
/-- a test, then something -/
theorem bindT (S : Stp H As Z H1 As1 Z1) (R : Rel G.K σ H1 ρ1 As1 Z1) {f : Rho → Out Bool} {g : Bool → Rho → Out Hd} {Q : VK} {rest : Bool → Hp → Prop} (hO : OutQ G σ H As Z ((f ρ1).bind g) Q)
    (k : ∀ t ρ2 H2 As2 Z2, Rel G.K σ H2 ρ2 As2 Z2 → Stp H As Z H2 As2 Z2 → OutQ G σ H As Z (g t ρ2) Q → rest t H2) : tT G f σ H1 rest := by
  refine ⟨ρ1, As1, Z1, R, ?_⟩
  cases e : f ρ1 with
  | ok h ρ2 =>
    rw [e] at hO
    intro H2 ⟨As2, Z2, R2, S2, _⟩
    exact k h ρ2 H2 As2 Z2 R2 (S.trans S2) hO
  | exc x ρ2 => rw [e] at hO; exact OutX.trans S hO
  | bad => rw [e] at hO; exact hO
theorem OutQ.at (S : Stp H As Z H1 As1 Z1) {o : Out Hd} {Q : VK} (h : OutQ G σ H As Z o Q) : OutQ G σ H1 As1 Z1 o Q := by
  cases o with
  | ok h' r => exact fun v H' q => h v H' (q.trans S)
  | exc e r => exact OutX.trans S h
  | bad => exact h
theorem SRes.trans {Φ : AsT → (Addr → Prop) → Prop} (S : Stp H As Z H1 As1 Z1) (h : SRes G σ H1 As1 Z1 ρ' H' Φ) : SRes G σ H As Z ρ' H' Φ := by
  obtain ⟨As', Z', R, S', f⟩ := h
  exact ⟨As', Z', R, S.trans S', f⟩
theorem OutB.at (S : Stp H As Z H1 As1 Z1) {o : Out Bool} {Q : Bool → Hp → Prop} (h : OutB G σ H As Z o Q) : OutB G σ H1 As1 Z1 o Q := by
  cases o with
  | ok h' r => exact fun H' q => h H' (SRes.trans S q)
  | exc e r => exact OutX.trans S h
  | bad => exact h
theorem s_ife {ft : Rho → Out Bool} (hc : PT X c (tT G ft)) (ha : PE X a (tE G fa)) (hb : PE X b (tE G fb)) :
    PE X (.IfExp c a b pos) (tE G fun ρ => (ft ρ).bind fun t ρ => if t then fa ρ else fb ρ) :=
  PE.imp (pe_ifExp hc ha hb) fun σ H Q ⟨ρ, As, Z, R, hO⟩ => bindT Stp.refl R hO fun t ρ2 H2 As2 Z2 R2 S2 hO2 => by
    cases t with
    | true => exact ⟨ρ2, As2, Z2, R2, OutQ.at S2 hO2⟩
    | false => exact ⟨ρ2, As2, Z2, R2, OutQ.at S2 hO2⟩
/-- and, or, not as values -/
theorem tst_of {f : Rho → Out Hd} {Q : VK} {R : VK} {g : Bool → Rho → Out Hd} (S : Stp H As Z H1 As1 Z1) (Re : Rel G.K σ H1 ρ1 As1 Z1) (hO : OutQ G σ H As Z ((tstO (f ρ1)).bind g) Q)
    (k : ∀ t ρ2 H2 As2 Z2, Rel G.K σ H2 ρ2 As2 Z2 → Stp H As Z H2 As2 Z2 → OutQ G σ H As Z (g t ρ2) Q → R (.bl t) H2) : tE G f σ H1 R := by
  obtain ⟨ρ, As', Z', R', h⟩ := bindT (f := fun r => tstO (f r)) (rest := fun t H2 => R (.bl t) H2) S Re hO k
  refine ⟨ρ, As', Z', R', ?_⟩
  have q := tst_ok h
  cases e : f ρ with
  | ok h' r => rw [e] at q; intro v H' x; obtain ⟨b, e1, e2⟩ := q v H' x; rw [e1]; exact e2
  | exc x r => rw [e] at q; exact q
  | bad => rw [e] at q; exact q
theorem Res.bl {b : Bool} (R : Rel G.K σ H1 ρ1 As1 Z1) (S : Stp H As Z H1 As1 Z1) : Res G.K σ H As Z ρ1 (.v (ofB b)) (.bl b) H1 := (Res.tree R (.bl b)).trans S
theorem s_not (ha : PE X a (tE G fa)) : PE X (.UnaryOp .Not a pos) (tE G (notF fun r => tstO (fa r))) :=
  PE.imp (pe_not ha) fun σ H Q ⟨ρ, As, Z, R, hO⟩ => tst_of Stp.refl R hO fun t ρ2 H2 As2 Z2 R2 S2 hO2 => ⟨t, rfl, hO2 _ _ (Res.bl R2 S2)⟩
theorem s_and {rest : List Expr} (ha : PE X a (tE G fa)) (hb : PE X (.BoolOp .And (b :: rest) pos) (tE G fb)) :
    PE X (.BoolOp .And (a :: b :: rest) pos) (tE G (andF (fun r => tstO (fa r)) fun r => tstO (fb r))) :=
  PE.imp (pe_and ha hb) fun σ H Q ⟨ρ, As, Z, R, hO⟩ => tst_of Stp.refl R hO fun t ρ2 H2 As2 Z2 R2 S2 hO2 => by
    refine ⟨t, rfl, ?_⟩
    cases t with
    | false => exact hO2 _ _ (Res.bl R2 S2)
    | true => exact tst_of (R := Q) S2 R2 hO2 fun u ρ3 H3 As3 Z3 R3 S3 hO3 => hO3 _ _ (Res.bl R3 S3)
theorem s_or {rest : List Expr} (ha : PE X a (tE G fa)) (hb : PE X (.BoolOp .Or (b :: rest) pos) (tE G fb)) :
    PE X (.BoolOp .Or (a :: b :: rest) pos) (tE G (orF (fun r => tstO (fa r)) fun r => tstO (fb r))) :=
  PE.imp (pe_or ha hb) fun σ H Q ⟨ρ, As, Z, R, hO⟩ => tst_of Stp.refl R hO fun t ρ2 H2 As2 Z2 R2 S2 hO2 => by
    refine ⟨t, rfl, ?_⟩
    cases t with
    | true => exact hO2 _ _ (Res.bl R2 S2)
    | false => exact tst_of (R := Q) S2 R2 hO2 fun u ρ3 H3 As3 Z3 R3 S3 hO3 => hO3 _ _ (Res.bl R3 S3)
/-- as tests -/
theorem tst_bindB {β : Type} {o : Out β} {g : β → Rho → Out Hd} : tstO (o.bind g) = o.bind fun t r => tstO (g t r) := by cases o <;> rfl
theorem tst_ofB {o : Out Bool} : tstO (o.bind fun u r => .ok (.v (ofB u)) r) = o := by cases o <;> rfl
theorem bindTB (S : Stp H As Z H1 As1 Z1) (R : Rel G.K σ H1 ρ1 As1 Z1) {f : Rho → Out Bool} {g : Bool → Rho → Out Bool} {Q : Bool → Hp → Prop} {rest : Bool → Hp → Prop} (hO : OutB G σ H As Z ((f ρ1).bind g) Q)
    (k : ∀ t ρ2 H2 As2 Z2, Rel G.K σ H2 ρ2 As2 Z2 → Stp H As Z H2 As2 Z2 → OutB G σ H As Z (g t ρ2) Q → rest t H2) : tT G f σ H1 rest := by
  refine ⟨ρ1, As1, Z1, R, ?_⟩
  cases e : f ρ1 with
  | ok h ρ2 =>
    rw [e] at hO
    intro H2 ⟨As2, Z2, R2, S2, _⟩
    exact k h ρ2 H2 As2 Z2 R2 (S.trans S2) hO
  | exc x ρ2 => rw [e] at hO; exact OutX.trans S hO
  | bad => rw [e] at hO; exact hO
variable {ft fu fv : Rho → Out Bool}
theorem s_tnot (ha : PT X a (tT G ft)) : PT X (.UnaryOp .Not a pos) (tT G fun r => tstO (notF ft r)) :=
  PT.imp (pt_not ha) fun σ H Q ⟨ρ, As, Z, R, hO⟩ => by
    try dsimp only at hO
    unfold notF at hO
    try dsimp only at hO
    rw [tst_bindB] at hO
    exact bindTB Stp.refl R hO fun t ρ2 H2 As2 Z2 R2 S2 hO2 => hO2 H2 ⟨As2, Z2, R2, S2, trivial⟩
theorem s_tand {rest : List Expr} (ha : PT X a (tT G ft)) (hb : PW X (.BoolOp .And (b :: rest) pos) (tT G fu)) : PW X (.BoolOp .And (a :: b :: rest) pos) (tT G fun r => tstO (andF ft fu r)) :=
  PW.imp (pw_and ha hb) fun σ H Q ⟨ρ, As, Z, R, hO⟩ => by
    try dsimp only at hO
    unfold andF at hO
    try dsimp only at hO
    rw [tst_bindB] at hO
    refine bindTB Stp.refl R hO fun t ρ2 H2 As2 Z2 R2 S2 hO2 => ?_
    cases t with
    | false => exact hO2 H2 ⟨As2, Z2, R2, S2, trivial⟩
    | true =>
      try dsimp only at hO2
      rw [if_pos rfl, tst_ofB] at hO2
      exact ⟨ρ2, As2, Z2, R2, OutB.at S2 hO2⟩
theorem s_tor {rest : List Expr} (ha : PT X a (tT G ft)) (hb : PW X (.BoolOp .Or (b :: rest) pos) (tT G fu)) : PW X (.BoolOp .Or (a :: b :: rest) pos) (tT G fun r => tstO (orF ft fu r)) :=
  PW.imp (pw_or ha hb) fun σ H Q ⟨ρ, As, Z, R, hO⟩ => by
    try dsimp only at hO
    unfold orF at hO
    try dsimp only at hO
    rw [tst_bindB] at hO
    refine bindTB Stp.refl R hO fun t ρ2 H2 As2 Z2 R2 S2 hO2 => ?_
    cases t with
    | true => exact hO2 H2 ⟨As2, Z2, R2, S2, trivial⟩
    | false =>
      try dsimp only at hO2
      rw [if_neg Bool.false_ne_true, tst_ofB] at hO2
      exact ⟨ρ2, As2, Z2, R2, OutB.at S2 hO2⟩

/-! ### several -/
theorem bindA {β : Type} (S : Stp H As Z H1 As1 Z1) (R : Rel G.K σ H1 ρ1 As1 Z1) {f : Rho → Out (List D)} {g : List D → Rho → Out Hd} {Q : VK} {rest : List V → Hp → Prop} (hO : OutQ G σ H As Z ((f ρ1).bind g) Q)
    (k : ∀ ds ρ2 vs H2 As2 Z2, Rel G.K σ H2 ρ2 As2 Z2 → Stp H As Z H2 As2 Z2 → ImA G.K H2 Z2 vs ds → OutQ G σ H As Z (g ds ρ2) Q → rest vs H2) : tA G f σ H1 rest := by
  refine ⟨ρ1, As1, Z1, R, ?_⟩
  cases e : f ρ1 with
  | ok h ρ2 =>
    rw [e] at hO
    intro vs H2 ⟨As2, Z2, R2, S2, i⟩
    exact k h ρ2 vs H2 As2 Z2 R2 (S.trans S2) i hO
  | exc x ρ2 => rw [e] at hO; exact OutX.trans S hO
  | bad => rw [e] at hO; exact hO
/-- an expression's tree -/
def OutD (G : Gs) (σ : St) (H : Hp) (As : AsT) (Z : Addr → Prop) (o : Out D) (Q : VK) : Prop := match o with
  | .ok d ρ' => ∀ v H', SRes G σ H As Z ρ' H' (fun _ Z' => Im G.K H' Z' v d) → Q v H'
  | .exc e ρ' => OutX G σ H As Z e ρ'
  | .bad => False
theorem tree_ok {o : Out Hd} {Q : VK} (hO : OutD G σ H As Z (treeO o) Q) : OutQ G σ H As Z o Q := by
  cases o with
  | bad => exact hO
  | exc e r => exact hO
  | ok h r =>
    intro v H' ⟨As', Z', ax, R', S', n, fr⟩
    unfold treeO at hO
    dsimp only at hO
    cases e : tr r h with
    | none => rw [e] at hO; exact hO.elim
    | some p =>
      obtain ⟨t, r'⟩ := p
      rw [e] at hO
      obtain ⟨As2, Z2, R2, S2, im⟩ := n.tr R' e fr S'
      exact hO v H' ⟨As2, Z2, R2, S2, im⟩
theorem s_anil : PA X [] (tA G fun r => .ok [] r) := PA.imp pa_nil fun σ H Q ⟨ρ, As, Z, R, hO⟩ => hO [] H ⟨As, Z, R, Stp.refl, .nil⟩
theorem s_acons {es : List Expr} {fs : Rho → Out (List D)} (ha : PE X e (tE G fa)) (hr : PA X es (tA G fs)) (hs : starEach (e :: es) X.env = (false, eval e X.env) :: starEach es X.env) :
    PA X (e :: es) (tA G fun r => (treeO (fa r)).bind fun t r => (fs r).bind fun ts r => .ok (t :: ts) r) :=
  PA.imp (pa_cons ha hr hs) fun σ H Q ⟨ρ, As, Z, R, hO⟩ => by
    try dsimp only at hO
    refine ⟨ρ, As, Z, R, tree_ok ?_⟩
    cases ea : treeO (fa ρ) with
    | bad => rw [ea] at hO; exact hO
    | exc x r => rw [ea] at hO; exact hO
    | ok t ρ1 =>
      rw [ea] at hO
      intro v H1 ⟨As1, Z1, R1, S1, im⟩
      refine ⟨ρ1, As1, Z1, R1, ?_⟩
      dsimp only [Out.bind] at hO
      cases eb : fs ρ1 with
      | bad => rw [eb] at hO; exact hO
      | exc x r => rw [eb] at hO; exact OutX.trans S1 hO
      | ok ts ρ2 =>
        rw [eb] at hO
        intro vs H2 ⟨As2, Z2, R2, S2, ia⟩
        exact hO (v :: vs) H2 ⟨As2, Z2, R2, S1.trans S2, .cons (im.keep (R1.keep S2)) ia⟩
theorem s_tup {es : List Expr} {x1 : Nat} {fs : Rho → Out (List D)} (h : PA X es (tA G fs)) (hz : ∀ r ds r', fs r = .ok ds r' → ds.length ≤ sizeLine) : PE X (.Tuple es x1 pos) (tE G fun r => (fs r).bind fun ds r => .ok (.v (.d (.tuple ds))) r) :=
  PE.imp (pe_tupP h) fun σ H Q ⟨ρ, As, Z, R, hO⟩ => by
    try dsimp only at hO
    refine ⟨ρ, As, Z, R, ?_⟩
    cases e : fs ρ with
    | bad => rw [e] at hO; exact hO
    | exc x r => rw [e] at hO; exact hO
    | ok ds ρ1 =>
      rw [e] at hO
      intro vs H1 ⟨As1, Z1, R1, S1, ia⟩
      refine ⟨by rw [ia.length]; exact hz _ _ _ e, fun p ob hp pl => hO _ _ ((Res.new R1 (New.tup hp pl ia)).trans S1)⟩
theorem s_lst {es : List Expr} {fs : Rho → Out (List D)} (h : PA X es (tA G fs)) (hz : ∀ r ds r', fs r = .ok ds r' → ds.length ≤ sizeLine) : PE X (.List es pos) (tE G fun r => (fs r).bind fun ds r => .ok (.v (.lst ds)) r) :=
  PE.imp (pe_lst h) fun σ H Q ⟨ρ, As, Z, R, hO⟩ => by
    try dsimp only at hO
    refine ⟨ρ, As, Z, R, ?_⟩
    cases e : fs ρ with
    | bad => rw [e] at hO; exact hO
    | exc x r => rw [e] at hO; exact hO
    | ok ds ρ1 =>
      rw [e] at hO
      intro vs H1 ⟨As1, Z1, R1, S1, ia⟩
      refine ⟨by rw [ia.length]; exact hz _ _ _ e, fun p hp => hO _ _ ((Res.new R1 (New.lst hp ia)).trans S1)⟩
/-- handles -/
theorem HndL.keep (R : Rel G.K σ H ρ As Z) (S : Stp H As Z H' As' Z') : ∀ {vs : List V} {hs : List Hd} {axs : List (Option Addr)}, HndL G.K σ H Z As vs hs axs → HndL G.K σ H' Z' As' vs hs axs
  | [], [], [], _ => trivial
  | _ :: _, _ :: _, _ :: _, ⟨a, b, c⟩ => ⟨a.keep R S, HndL.keep R S b, c⟩
theorem s_lnil : PA X [] (tL G fun r => .ok [] r) := PA.imp pa_nil fun σ H Q ⟨ρ, As, Z, R, hO⟩ => hO [] H ⟨As, Z, R, Stp.refl, [], trivial, fun _ h => absurd h (by simp)⟩
theorem s_lcons {es : List Expr} {fs : Rho → Out (List Hd)} (ha : PE X e (tE G fa)) (hr : PA X es (tL G fs)) (hs : starEach (e :: es) X.env = (false, eval e X.env) :: starEach es X.env) :
    PA X (e :: es) (tL G fun r => (fa r).bind fun t r => (fs r).bind fun ts r => .ok (t :: ts) r) :=
  PA.imp (pa_cons ha hr hs) fun σ H Q ⟨ρ, As, Z, R, hO⟩ => by
    try dsimp only at hO
    refine ⟨ρ, As, Z, R, ?_⟩
    cases ea : fa ρ with
    | bad => rw [ea] at hO; exact hO
    | exc x r => rw [ea] at hO; exact hO
    | ok t ρ1 =>
      rw [ea] at hO
      intro v H1 ⟨As1, Z1, ax, R1, S1, n, fr⟩
      refine ⟨ρ1, As1, Z1, R1, ?_⟩
      dsimp only [Out.bind] at hO
      cases eb : fs ρ1 with
      | bad => rw [eb] at hO; exact hO
      | exc x r => rw [eb] at hO; exact OutX.trans S1 hO
      | ok ts ρ2 =>
        rw [eb] at hO
        intro vs H2 ⟨As2, Z2, R2, S2, axs, nl, fl⟩
        refine hO (v :: vs) H2 ⟨As2, Z2, R2, S1.trans S2, ax :: axs, ⟨n.keep R1 S2, nl, fun b e hb => ?_⟩, fun a h => ?_⟩
        · subst e
          cases t with
          | s i => cases n.1
          | v x =>
            obtain ⟨_, ow, na⟩ := n.2 b rfl
            rcases fl b hb with ⟨j, q⟩ | q
            · exact na j q
            · rw [q] at ow; exact ow
        · rcases List.mem_cons.mp h with q | q
          · exact fr a q.symm
          · rcases fl a q with ⟨j, q⟩ | q
            · exact S1.as j a q
            · exact .inr (S1.dom a q)
end
end Q
/-! QS: statements, loops, iterators, comprehensions. -/
namespace Q
open PySem L2

def Pin (pin : List Bool) (σ σ' : St) : Prop := σ'.length = σ.length ∧ ∀ i, pin.getD i false = true → σ'[i]? = σ[i]?
theorem Pin.refl {pin : List Bool} {σ : St} : Pin pin σ σ := ⟨rfl, fun _ _ => rfl⟩
theorem Pin.trans {pin : List Bool} {σ σ1 σ2 : St} (a : Pin pin σ σ1) (b : Pin pin σ1 σ2) : Pin pin σ σ2 := ⟨b.1.trans a.1, fun i h => (b.2 i h).trans (a.2 i h)⟩
theorem Pin.set {pin : List Bool} {σ : St} {i : Nat} {o : Option V} (h : pin.getD i false = false) : Pin pin σ (σ.set i o) := ⟨by rw [List.length_set], fun j hj => by
  have : i ≠ j := fun e => by subst e; rw [h] at hj; cases hj
  rw [List.getElem?_set_ne this]⟩
section
variable (G : Gs) (pin : List Bool) (σ : St) (H : Hp) (As : AsT) (Z : Addr → Prop)
/-- the state behind a statement -/
def StR (ρ' : Rho) (σ' : St) (H' : Hp) : Prop := ∃ As' Z', Rel G.K σ' H' ρ' As' Z' ∧ Stp H As Z H' As' Z' ∧ Pin pin σ σ'
def StX (e : Exn) (ρ' : Rho) : Prop := ∀ c d σ' H', (∃ As' Z', Rel G.K σ' H' ρ' As' Z' ∧ Stp H As Z H' As' Z' ∧ Pin pin σ σ' ∧ G.EX Z' e c d H') → G.W c d σ' H'
def RetR (x : Val) (ρ' : Rho) (v : V) (H' : Hp) : Prop := ∃ σ' As' Z' ax, Rel G.K σ' H' ρ' As' Z' ∧ Stp H As Z H' As' Z' ∧ Pin pin σ σ' ∧ VR G.K H' Z' v x ax ∧
  ∀ a, ax = some a → (¬ Z' a ∧ Own (H' a) ∧ ∀ i, As' i ≠ some a) ∧ ((∃ j, As j = some a) ∨ H a = none)
def OutS (o : SO) (D : Ends) : Prop := match o with
  | .next ρ' => ∀ σ' H', StR G pin σ H As Z ρ' σ' H' → D.nx σ' H'
  | .brk ρ' => ∀ σ' H', StR G pin σ H As Z ρ' σ' H' → D.bk σ' H'
  | .cnt ρ' => ∀ σ' H', StR G pin σ H As Z ρ' σ' H' → D.ct σ' H'
  | .ret x ρ' => ∀ v H', RetR G pin σ H As Z x ρ' v H' → D.rt v H'
  | .exc e ρ' => StX G pin σ H As Z e ρ'
  | .bad => False
end
def tS (G : Gs) (pin : List Bool) (f : Rho → SO) : TS := fun D σ H => ∃ ρ As Z, Rel G.K σ H ρ As Z ∧ OutS G pin σ H As Z (f ρ) D
theorem PS.imp {X : Cx} {e : Stmt} {t t' : TS} (h : PS X e t) (w : ∀ D σ H, t' D σ H → t D σ H) : PS X e t' := ⟨fun pins s σ H D I q => h.run pins s σ H D I (w D σ H q)⟩
theorem PSs.imp {X : Cx} {e : List Stmt} {t t' : TS} (h : PSs X e t) (w : ∀ D σ H, t' D σ H → t D σ H) : PSs X e t' := ⟨fun pins s σ H D I q => h.run pins s σ H D I (w D σ H q)⟩
theorem PI.imp {X : Cx} {tg e : Expr} {t t' : TI} (h : PI X tg e t) (w : ∀ σ H R, t' σ H R → t σ H R) : PI X tg e t' := ⟨fun pins s σ H R I q => h.run pins s σ H R I (w σ H R q)⟩
section
variable {G : Gs} {pin : List Bool} {σ σ1 σ' : St} {H H1 H' : Hp} {As As1 As' : AsT} {Z Z1 Z' : Addr → Prop} {ρ ρ1 ρ' : Rho} {D : Ends}
theorem StR.trans {σ2 : St} {H2 : Hp} {ρ2 : Rho} (S : Stp H As Z H1 As1 Z1) (P : Pin pin σ σ1) (h : StR G pin σ1 H1 As1 Z1 ρ2 σ2 H2) : StR G pin σ H As Z ρ2 σ2 H2 := by
  obtain ⟨As', Z', R, S', P'⟩ := h
  exact ⟨As', Z', R, S.trans S', P.trans P'⟩
theorem OutS.at (S : Stp H As Z H1 As1 Z1) (P : Pin pin σ σ1) {o : SO} (h : OutS G pin σ H As Z o D) : OutS G pin σ1 H1 As1 Z1 o D := by
  cases o with
  | next r => exact fun σ' H' q => h σ' H' (q.trans S P)
  | brk r => exact fun σ' H' q => h σ' H' (q.trans S P)
  | cnt r => exact fun σ' H' q => h σ' H' (q.trans S P)
  | bad => exact h
  | exc e r =>
    intro c d σ' H' ⟨As', Z', R, S', P', x⟩
    exact h c d σ' H' ⟨As', Z', R, S.trans S', P.trans P', x⟩
  | ret x r =>
    intro v H' ⟨σ', As', Z', ax, R, S', P', q, f⟩
    refine h v H' ⟨σ', As', Z', ax, R, S.trans S', P.trans P', q, fun a e => ⟨(f a e).1, ?_⟩⟩
    rcases (f a e).2 with ⟨j, z⟩ | z
    · exact S.as j a z
    · exact .inr (S.dom a z)
/-- an expression, then a statement's rest -/
theorem bindS (S : Stp H As Z H1 As1 Z1) (P : Pin pin σ σ1) (R : Rel G.K σ1 H1 ρ1 As1 Z1) {f : Rho → Out Hd} {g : Hd → Rho → SO} {rest : VK} (hO : OutS G pin σ H As Z (ofOut (f ρ1) g) D)
    (k : ∀ h ρ2 v H2 As2 Z2 ax, Rel G.K σ1 H2 ρ2 As2 Z2 → Stp H As Z H2 As2 Z2 → Hnd G.K σ1 H2 Z2 As2 v h ax → (∀ a, ax = some a → (∃ j, As j = some a) ∨ H a = none) → OutS G pin σ H As Z (g h ρ2) D → rest v H2) : tE G f σ1 H1 rest := by
  refine ⟨ρ1, As1, Z1, R, ?_⟩
  cases e : f ρ1 with
  | ok h ρ2 =>
    rw [e] at hO
    intro v H2 ⟨As2, Z2, ax, R2, S2, n, fr⟩
    refine k h ρ2 v H2 As2 Z2 ax R2 (S.trans S2) n (fun a ea => ?_) hO
    rcases fr a ea with ⟨j, z⟩ | z
    · exact S.as j a z
    · exact .inr (S.dom a z)
  | exc x ρ2 =>
    rw [e] at hO
    intro c d H' ⟨As', Z', R', S', x'⟩
    exact hO c d σ1 H' ⟨As', Z', R', S.trans S', P, x'⟩
  | bad => rw [e] at hO; exact hO
theorem bindSt (S : Stp H As Z H1 As1 Z1) (P : Pin pin σ σ1) (R : Rel G.K σ1 H1 ρ1 As1 Z1) {f : Rho → Out Bool} {g : Bool → Rho → SO} {rest : Bool → Hp → Prop} (hO : OutS G pin σ H As Z (ofOut (f ρ1) g) D)
    (k : ∀ h ρ2 H2 As2 Z2, Rel G.K σ1 H2 ρ2 As2 Z2 → Stp H As Z H2 As2 Z2 → OutS G pin σ H As Z (g h ρ2) D → rest h H2) : tT G f σ1 H1 rest := by
  refine ⟨ρ1, As1, Z1, R, ?_⟩
  cases e : f ρ1 with
  | ok h ρ2 =>
    rw [e] at hO
    intro H2 ⟨As2, Z2, R2, S2, _⟩
    exact k h ρ2 H2 As2 Z2 R2 (S.trans S2) hO
  | exc x ρ2 =>
    rw [e] at hO
    intro c d H' ⟨As', Z', R', S', x'⟩
    exact hO c d σ1 H' ⟨As', Z', R', S.trans S', P, x'⟩
  | bad => rw [e] at hO; exact hO
/-- .. its tree -/
theorem bindSd (S : Stp H As Z H1 As1 Z1) (P : Pin pin σ σ1) (R : Rel G.K σ1 H1 ρ1 As1 Z1) {f : Rho → Out Hd} {g : Q.D → Rho → SO} {rest : VK} (hO : OutS G pin σ H As Z (ofOut (treeO (f ρ1)) g) D)
    (k : ∀ t ρ2 v H2 As2 Z2, Rel G.K σ1 H2 ρ2 As2 Z2 → Stp H As Z H2 As2 Z2 → Im G.K H2 Z2 v t → OutS G pin σ H As Z (g t ρ2) D → rest v H2) : tE G f σ1 H1 rest := by
  refine ⟨ρ1, As1, Z1, R, tree_ok ?_⟩
  cases e : treeO (f ρ1) with
  | ok t ρ2 =>
    rw [e] at hO
    intro v H2 ⟨As2, Z2, R2, S2, i⟩
    exact k t ρ2 v H2 As2 Z2 R2 (S.trans S2) i hO
  | exc x ρ2 =>
    rw [e] at hO
    intro c d H' ⟨As', Z', R', S', x'⟩
    exact hO c d σ1 H' ⟨As', Z', R', S.trans S', P, x'⟩
  | bad => rw [e] at hO; exact hO

variable {X : Cx} {pos : Pos} {st : Stmt} {rest : List Stmt} {fs ft : Rho → SO} {fa : Rho → Out Hd} {e : Expr}
theorem s_skip {st : List Stmt} (h : PSs X st tNext) : PSs X st (tS G pin fun r => .next r) := PSs.imp h fun D σ H ⟨ρ, As, Z, R, hO⟩ => hO σ H ⟨As, Z, R, Stp.refl, Pin.refl⟩
theorem s_skip1 {st : Stmt} (h : PS X st tNext) : PS X st (tS G pin fun r => .next r) := PS.imp h fun D σ H ⟨ρ, As, Z, R, hO⟩ => hO σ H ⟨As, Z, R, Stp.refl, Pin.refl⟩
theorem s_brk : PS X (.Break pos) (tS G pin fun r => .brk r) := PS.imp ps_break fun D σ H ⟨ρ, As, Z, R, hO⟩ => hO σ H ⟨As, Z, R, Stp.refl, Pin.refl⟩
theorem s_cnt : PS X (.Continue pos) (tS G pin fun r => .cnt r) := PS.imp ps_continue fun D σ H ⟨ρ, As, Z, R, hO⟩ => hO σ H ⟨As, Z, R, Stp.refl, Pin.refl⟩
theorem s_seq (h1 : PS X st (tS G pin fs)) (h2 : PSs X rest (tS G pin ft)) : PSs X (st :: rest) (tS G pin (sqF fs ft)) :=
  PSs.imp (pss_cons h1 h2) fun D σ H ⟨ρ, As, Z, R, hO⟩ => by
    refine ⟨ρ, As, Z, R, ?_⟩
    unfold sqF at hO
    try dsimp only at hO
    cases e : fs ρ with
    | next r =>
      rw [e] at hO
      intro σ1 H1 ⟨As1, Z1, R1, S1, P1⟩
      exact ⟨r, As1, Z1, R1, OutS.at S1 P1 hO⟩
    | brk r => rw [e] at hO; exact hO
    | cnt r => rw [e] at hO; exact hO
    | ret x r => rw [e] at hO; exact hO
    | exc x r => rw [e] at hO; exact hO
    | bad => rw [e] at hO; exact hO
theorem s_ex (he : PE X e (tE G fa)) (hs : swapsWith e none pos.line X.env = pure false) : PS X (.Expr e pos) (tS G pin fun r => ofOut (fa r) fun _ r => .next r) :=
  PS.imp (ps_expr he hs) fun D σ H ⟨ρ, As, Z, R, hO⟩ => bindS Stp.refl Pin.refl R hO fun h ρ2 v H2 As2 Z2 ax R2 S2 n fr hO2 => hO2 σ H2 ⟨As2, Z2, R2, S2, Pin.refl⟩
theorem ret_ok {h : Hd} {v : V} {ax : Option Addr} (R1 : Rel G.K σ1 H1 ρ1 As1 Z1) (S : Stp H As Z H1 As1 Z1) (P : Pin pin σ σ1) (n : Hnd G.K σ1 H1 Z1 As1 v h ax) (fr : ∀ a, ax = some a → (∃ j, As j = some a) ∨ H a = none)
    (hO : OutS G pin σ H As Z (retF pin h ρ1) D) : D.rt v H1 := by
  cases h with
  | v x => exact hO v H1 ⟨σ1, As1, Z1, ax, R1, S, P, n.1, fun a e => ⟨n.2 a e, fr a e⟩⟩
  | s i =>
    unfold retF at hO
    try dsimp only at hO
    by_cases hp : pin.getD i false = true
    · rw [if_pos hp] at hO
      cases e : tr ρ1 (.s i) with
      | none => rw [e] at hO; exact hO.elim
      | some p =>
        obtain ⟨t, r⟩ := p
        rw [e] at hO
        obtain ⟨As2, Z2, R2, S2, im⟩ := n.tr R1 e fr S
        exact hO v H1 ⟨σ1, As2, Z2, none, R2, S2, P, ⟨rfl, im⟩, fun _ z => nomatch z⟩
    · rw [if_neg hp] at hO
      cases g : gt ρ1 i with
      | none => rw [g] at hO; exact hO.elim
      | some x =>
        rw [g] at hO
        obtain ⟨w, hw, r⟩ := R1.val i x g
        rw [n.2] at hw
        cases hw
        have R2 := R1.drop (i := i) (o := σ1[i]?.join)
        have e2 : σ1.set i (σ1[i]?.join) = σ1 := by
          rw [n.2]
          exact List.ext_getElem? fun j => by
            by_cases h : i = j
            · subst h
              have hi : i < σ1.length := (List.getElem?_eq_some_iff.mp n.2).1
              rw [List.getElem?_set_self hi, n.2]
              rfl
            · rw [List.getElem?_set_ne h]
        rw [e2] at R2
        refine hO v H1 ⟨σ1, setA As1 i none, Z1, As1 i, R2, S.trans Stp.drop, P, r, fun a ea => ⟨⟨(R1.own i a ea).1, (R1.own i a ea).2, fun j q => ?_⟩, S.as i a ea⟩⟩
        by_cases h : j = i
        · subst h; rw [setA_self] at q; cases q
        · rw [setA_ne h] at q; exact h (R1.inj j i a q ea)
theorem s_ret (he : PE X e (tE G fa)) : PS X (.Return (some e) pos) (tS G pin fun r => ofOut (fa r) (retF pin)) :=
  PS.imp (ps_ret he) fun D σ H ⟨ρ, As, Z, R, hO⟩ => bindS Stp.refl Pin.refl R hO fun h ρ2 v H2 As2 Z2 ax R2 S2 n fr hO2 => ret_ok R2 S2 Pin.refl n fr hO2
theorem s_retN : PS X (.Return none pos) (tS G pin fun r => ofOut ((fun r => Out.ok (.v (.d .none)) r) r) (retF pin)) :=
  PS.imp ps_retN fun D σ H ⟨ρ, As, Z, R, hO⟩ => ret_ok R Stp.refl Pin.refl (h := .v (.d .none)) (ax := none) ⟨⟨rfl, .non⟩, fun _ z => nomatch z⟩ (fun _ z => nomatch z) hO
theorem s_iff {c : Expr} {a b : List Stmt} {fc : Rho → Out Bool} (hc : PT X c (tT G fc)) (ha : PSs X a (tS G pin fs)) (hb : PSs X b (tS G pin ft)) :
    PS X (.If c a b pos) (tS G pin fun r => ofOut (fc r) fun t r => if t then fs r else ft r) :=
  PS.imp (ps_if hc ha hb) fun D σ H ⟨ρ, As, Z, R, hO⟩ => bindSt Stp.refl Pin.refl R hO fun t ρ2 H2 As2 Z2 R2 S2 hO2 => by
    cases t with
    | true => exact ⟨ρ2, As2, Z2, R2, OutS.at S2 Pin.refl hO2⟩
    | false => exact ⟨ρ2, As2, Z2, R2, OutS.at S2 Pin.refl hO2⟩
/-! ### stores -/
theorem StpA {i : Nat} {ax : Option Addr} (S : Stp H As Z H1 As1 Z1) (fr : ∀ a, ax = some a → (∃ j, As j = some a) ∨ H a = none) : Stp H As Z H1 (setA As1 i ax) Z1 :=
  ⟨S.chg, S.dom, S.zz, fun j b h => by
    by_cases e : j = i
    · subst e; rw [setA_self] at h; exact fr b h
    · rw [setA_ne e] at h; exact S.as j b h, S.zn⟩
theorem asg_ok {i : Nat} {h : Hd} {v : V} {ax : Option Addr} (R1 : Rel G.K σ1 H1 ρ1 As1 Z1) (S : Stp H As Z H1 As1 Z1) (P : Pin pin σ σ1) (n : Hnd G.K σ1 H1 Z1 As1 v h ax) (fr : ∀ a, ax = some a → (∃ j, As j = some a) ∨ H a = none)
    (hO : OutS G pin σ H As Z (asgF pin i h ρ1) D) : D.nx (σ1.set i (some v)) H1 := by
  unfold asgF at hO
  by_cases hp : (pin.getD i false || !decide (i < ρ1.length)) = true
  · rw [if_pos hp] at hO; exact hO.elim
  · rw [if_neg hp] at hO
    have hp2 : (pin.getD i false || !decide (i < ρ1.length)) = false := by simpa using hp
    rw [Bool.or_eq_false_iff] at hp2
    have hp' : pin.getD i false = false := hp2.1
    have hi : i < σ1.length := by
      have := hp2.2
      rw [Bool.not_eq_false', decide_eq_true_eq] at this
      rw [← R1.len]; exact this
    cases h with
    | v x => exact hO _ H1 ⟨_, Z1, R1.store hi n.1 n.2, StpA S fr, P.trans (Pin.set hp')⟩
    | s j =>
      dsimp only at hO
      cases e : tr ρ1 (.s j) with
      | none => rw [e] at hO; exact hO.elim
      | some p =>
        obtain ⟨t, r⟩ := p
        rw [e] at hO
        obtain ⟨As2, Z2, R2, S2, im⟩ := n.tr R1 e fr S
        exact hO _ H1 ⟨_, Z2, R2.store (ax := none) hi ⟨rfl, im⟩ (fun _ z => nomatch z), StpA S2 (fun _ z => nomatch z), P.trans (Pin.set hp')⟩
theorem s_asg {i : Nat} {x : Str} {pos' : Pos} (h : PS X (.Assign [.Name x pos'] e pos) (tAsg (tE G fa) (gName i))) :
    PS X (.Assign [.Name x pos'] e pos) (tS G pin fun r => ofOut (fa r) (asgF pin i)) :=
  PS.imp h fun D σ H ⟨ρ, As, Z, R, hO⟩ => bindS Stp.refl Pin.refl R hO fun h ρ2 v H2 As2 Z2 ax R2 S2 n fr hO2 => asg_ok R2 S2 Pin.refl n fr hO2
/-- targets by their trees -/
def TgSnd (K : PySem.W.Frag) (pin : List Bool) (tg : List Nat) (one : Bool) (g : TG) : Prop :=
  ∀ (v : V) (d : Q.D) (ρ r1 : Rho) (σ : St) (H : Hp) (As : AsT) (Z : Addr → Prop) (Q : St → Hp → Prop), Rel K σ H ρ As Z → Im K H Z v d → tgt tg one d ρ = some r1 →
    (∀ σ1 As1, Rel K σ1 H r1 As1 Z → Stp H As Z H As1 Z → ((tg.any fun i => pin.getD i false) = false → Pin pin σ σ1) → (∀ j, j ∉ tg → σ1[j]? = σ[j]?) → σ1.length = σ.length → Q σ1 H) → g v σ H Q
theorem Stp.set {i : Nat} : Stp H As Z H (setA As i none) Z := Stp.drop
theorem tg_one {K : PySem.W.Frag} {i : Nat} : TgSnd K pin [i] true (gName i) := by
  intro v d ρ r1 σ H As Z Q R im e k
  unfold tgt at e
  rw [if_pos rfl] at e
  cases e
  by_cases hi : i < σ.length
  · exact k _ _ (R.store (ax := none) hi ⟨rfl, im⟩ (fun _ z => nomatch z)) Stp.drop (fun hp => Pin.set (by simpa using hp)) (fun j hj => by rw [List.getElem?_set_ne]; intro e; exact hj (by simp [e])) (by rw [List.length_set])
  · have e1 : ρ.set i (some (.d d)) = ρ := List.set_eq_of_length_le (by have := R.len; omega)
    have e2 : σ.set i (some v) = σ := List.set_eq_of_length_le (by omega)
    show Q (σ.set i (some v)) H
    rw [e2]
    exact k σ As (by show Rel K σ H (ρ.set i (some (.d d))) As Z; rw [e1]; exact R) Stp.refl (fun _ => Pin.refl) (fun _ _ => rfl) rfl
/-- several names -/
def gSlots : List Nat → TGs
  | [] => gNil
  | i :: is => gCons (gName i) (gSlots is)
theorem tgs_ok {K : PySem.W.Frag} : ∀ (tg : List Nat) (vs : List V) (ds : List Q.D) (ρ r1 : Rho) (σ : St) (H : Hp) (As : AsT) (Z : Addr → Prop) (Q : St → Hp → Prop), Rel K σ H ρ As Z → ImA K H Z vs ds → setAll ρ tg ds = some r1 →
    (∀ σ1 As1, Rel K σ1 H r1 As1 Z → Stp H As Z H As1 Z → ((tg.any fun i => pin.getD i false) = false → Pin pin σ σ1) → (∀ j, j ∉ tg → σ1[j]? = σ[j]?) → σ1.length = σ.length → Q σ1 H) → gSlots tg vs σ H Q
  | [], vs, ds, ρ, r1, σ, H, As, Z, Q, R, ia, e, k => by
    cases ia with
    | nil => cases e; exact ⟨rfl, k σ As R Stp.refl (fun _ => Pin.refl) (fun _ _ => rfl) rfl⟩
    | cons _ _ => cases e
  | i :: is, vs, ds, ρ, r1, σ, H, As, Z, Q, R, ia, e, k => by
    cases ia with
    | nil => cases e
    | cons im ia =>
      rename_i v vs d ds
      refine ⟨v, vs, rfl, ?_⟩
      refine tg_one (pin := pin) v d ρ _ σ H As Z _ R im (by unfold tgt; rw [if_pos rfl]; rfl) fun σ1 As1 R1 S1 P1 N1 L1 => ?_
      refine tgs_ok is vs ds _ r1 σ1 H As1 Z Q R1 ia e fun σ2 As2 R2 S2 P2 N2 L2 => ?_
      refine k σ2 As2 R2 (S1.trans S2) (fun hp => ?_) (fun j hj => ?_) (L2.trans L1)
      · rw [List.any_cons, Bool.or_eq_false_iff] at hp
        exact (P1 (by simpa using hp.1)).trans (P2 hp.2)
      · rw [N2 j (fun z => hj (List.mem_cons_of_mem _ z)), N1 j (fun z => hj (by simp at z; simp [z]))]
theorem setAll_len : ∀ {is : List Nat} {ds : List Q.D} {r r1 : Rho}, setAll r is ds = some r1 → is.length = ds.length
  | [], [], _, _, _ => rfl
  | [], _ :: _, _, _, h => by cases h
  | _ :: _, [], _, _, h => by cases h
  | _ :: is, _ :: ds, _, _, h => by
    have e := setAll_len (is := is) (ds := ds) h
    simp [e]
theorem tg_many {K : PySem.W.Frag} {tg : List Nat} : TgSnd K pin tg false (gTup K tg.length (gSlots tg)) := by
  intro v d ρ r1 σ H As Z Q R im e k
  unfold tgt at e
  rw [if_neg Bool.false_ne_true] at e
  cases d with
  | tuple ds =>
    dsimp only at e
    obtain ⟨a, xs, ev, hs, ia⟩ := im.tup_v
    exact ⟨a, xs, ev, hs, by rw [ia.length, setAll_len e], tgs_ok tg xs ds ρ r1 σ H As Z Q R ia e k⟩
  | none => cases e
  | bool b => cases e
  | int b => cases e
  | str b => cases e
  | list b => cases e
  | dict b => cases e
/-- a, b = e -/
theorem s_unp {ts : List Expr} {k : Nat} {tp : Pos} {is : List Nat} {g : TG} (h : PS X (.Assign [.Tuple ts k tp] e pos) (tAsg (tE G fa) g)) (sd : TgSnd G.K pin is false g) :
    PS X (.Assign [.Tuple ts k tp] e pos) (tS G pin fun r => ofOut (treeO (fa r)) (unpF pin is)) :=
  PS.imp h fun D σ H ⟨ρ, As, Z, R, hO⟩ => bindSd Stp.refl Pin.refl R hO fun t ρ2 v H2 As2 Z2 R2 S2 im hO2 => by
    unfold unpF at hO2
    by_cases hp : (is.any fun i => pin.getD i false) = true
    · rw [if_pos hp] at hO2; exact hO2.elim
    · rw [if_neg hp] at hO2
      cases t with
      | tuple ds =>
        dsimp only at hO2
        cases e1 : setAll ρ2 is ds with
        | none => rw [e1] at hO2; exact hO2.elim
        | some r1 =>
          rw [e1] at hO2
          exact sd v _ ρ2 r1 σ H2 As2 Z2 _ R2 im (by unfold tgt; rw [if_neg Bool.false_ne_true]; exact e1) fun σ1 As1 R1 S1 P1 _ _ => hO2 σ1 H2 ⟨As1, Z2, R1, S2.trans S1, P1 (by simpa using hp)⟩
      | none => exact hO2.elim
      | bool b => exact hO2.elim
      | int b => exact hO2.elim
      | str b => exact hO2.elim
      | list b => exact hO2.elim
      | dict b => exact hO2.elim

/-! ### iterators -/
structure ItOk (K : PySem.W.Frag) (J : It) (xs : List Q.D) (H0 : Hp) (Z0 : Addr → Prop) : Prop where
  go : ∀ H Z, Keep H0 Z0 H Z → ∀ i, i < xs.length → J.go i H
  yld : ∀ H Z, Keep H0 Z0 H Z → ∀ i d v H', xs[i]? = some d → J.yld i H v H' → Same H H' ∧ Im K H' Z v d
  stop : ∀ H Z, Keep H0 Z0 H Z → ∀ i, xs.length ≤ i → J.stop i H
def OutI (G : Gs) (σ : St) (H : Hp) (As : AsT) (Z : Addr → Prop) (o : Out (List Q.D)) (R : It → Hp → Prop) : Prop := match o with
  | .ok xs ρ' => ∀ J H', SRes G σ H As Z ρ' H' (fun _ Z' => ItOk G.K J xs H' Z') → R J H'
  | .exc e ρ' => OutX G σ H As Z e ρ'
  | .bad => False
def tI (G : Gs) (f : Rho → Out (List Q.D)) : TI := fun σ H R => ∃ ρ As Z, Rel G.K σ H ρ As Z ∧ OutI G σ H As Z (f ρ) R
theorem it_range {K : PySem.W.Frag} {lo : Int} {n : Nat} {H0 : Hp} {Z0 : Addr → Prop} : ItOk K (Itr lo n) (rngD lo n) H0 Z0 where
  go := fun H Z _ i h => by
    have h' : i < n := by simpa [rngD] using h
    exact h'
  yld := fun H Z _ i d v H' e y => by
    obtain ⟨rfl, rfl⟩ := y
    refine ⟨Same.refl _, ?_⟩
    unfold rngD at e
    rw [List.getElem?_map] at e
    cases q : (List.range n)[i]? with
    | none => rw [q] at e; cases e
    | some j =>
      rw [q] at e
      have : j = i := by
        have := List.getElem?_eq_some_iff.mp q
        obtain ⟨_, h2⟩ := this
        rw [List.getElem_range] at h2
        exact h2.symm
      cases e
      rw [this]
      exact .int _
  stop := fun H Z _ i h => by
    have h' : n ≤ i := by simpa [rngD] using h
    exact h'
theorem it_list {K : PySem.W.Frag} {a : Addr} {ys : List V} {xs : List Q.D} {H0 : Hp} {Z0 : Addr → Prop} (hs : SqL K H0 a ys) (hz : Z0 a) (ia : ImA K H0 Z0 ys xs) : ItOk K (Itl K a) xs H0 Z0 where
  go := fun H Z kp i h => by
    obtain ⟨v, e, _⟩ := ia.get (List.getElem?_eq_getElem h)
    exact ⟨ys, v, kp.sqL hs hz, e⟩
  yld := fun H Z kp i d v H' e y => by
    obtain ⟨rfl, y⟩ := y
    have q := y ys (kp.sqL hs hz)
    obtain ⟨w, e2, im⟩ := (ia.keep kp).get e
    rw [q] at e2
    cases e2
    exact ⟨Same.refl _, im⟩
  stop := fun H Z kp i h => ⟨ys, kp.sqL hs hz, by rw [ia.length]; exact h⟩
theorem it_tup {K : PySem.W.Frag} {a : Addr} {ys : List V} {xs : List Q.D} {H0 : Hp} {Z0 : Addr → Prop} (hs : SqT K H0 a ys) (ia : ImA K H0 Z0 ys xs) : ItOk K (Itt K a) xs H0 Z0 where
  go := fun H Z kp i h => by
    obtain ⟨v, e, _⟩ := ia.get (List.getElem?_eq_getElem h)
    exact ⟨ys, v, kp.sqT hs, e⟩
  yld := fun H Z kp i d v H' e y => by
    obtain ⟨rfl, y⟩ := y
    have q := y ys (kp.sqT hs)
    obtain ⟨w, e2, im⟩ := (ia.keep kp).get e
    rw [q] at e2
    cases e2
    exact ⟨Same.refl _, im⟩
  stop := fun H Z kp i h => ⟨ys, kp.sqT hs, by rw [ia.length]; exact h⟩
theorem PI.or {tg : Expr} {t t' : TI} (h : PI X tg e t) (h' : PI X tg e t') : PI X tg e (fun σ H R => t σ H R ∨ t' σ H R) := ⟨fun pins s σ H R I q => by
  rcases q with q | q
  · exact h.run pins s σ H R I q
  · exact h'.run pins s σ H R I q⟩
theorem PE.or {t t' : TE} (h : PE X e t) (h' : PE X e t') : PE X e (fun σ H R => t σ H R ∨ t' σ H R) := ⟨fun pins s σ H R I q => by
  rcases q with q | q
  · exact h.run pins s σ H R I q
  · exact h'.run pins s σ H R I q⟩
theorem s_iseq {tg : Expr} (hK : X.K = G.K) (he : PE X e (tE G fa)) : PI X tg e (tI G (seqF fa)) :=
  PI.imp (PI.or (pi_list he) (pi_tup he)) fun σ H Rk ⟨ρ, As, Z, R, hO⟩ => by
    unfold seqF at hO
    try dsimp only at hO
    cases ea : fa ρ with
    | bad => rw [ea] at hO; exact hO.elim
    | exc x r =>
      rw [ea] at hO
      refine .inl ⟨ρ, As, Z, R, ?_⟩
      rw [ea]
      exact hO
    | ok h ρ1 =>
      rw [ea] at hO
      dsimp only [Out.bind] at hO
      cases et : tr ρ1 h with
      | none => rw [et] at hO; exact hO.elim
      | some p =>
        obtain ⟨t, r⟩ := p
        rw [et] at hO
        cases t with
        | list xs =>
          refine .inl ⟨ρ, As, Z, R, ?_⟩
          rw [ea]
          intro v H1 ⟨As1, Z1, ax, R1, S1, n, fr⟩
          obtain ⟨As2, Z2, R2, S2, im⟩ := n.tr R1 et fr S1
          obtain ⟨a, ys, ev, hs, hz, ia⟩ := im.lst_v
          simp only [hK]
          exact ⟨a, ev, ⟨ys, SqL.of hs⟩, hO _ H1 ⟨As2, Z2, R2, S2, it_list (SqL.of hs) hz ia⟩⟩
        | tuple xs =>
          refine .inr ⟨ρ, As, Z, R, ?_⟩
          rw [ea]
          intro v H1 ⟨As1, Z1, ax, R1, S1, n, fr⟩
          obtain ⟨As2, Z2, R2, S2, im⟩ := n.tr R1 et fr S1
          obtain ⟨a, ys, ev, hs, ia⟩ := im.tup_v
          simp only [hK]
          exact ⟨a, ev, ⟨ys, hs⟩, hO _ H1 ⟨As2, Z2, R2, S2, it_tup hs ia⟩⟩
        | none => exact hO.elim
        | bool b => exact hO.elim
        | int b => exact hO.elim
        | str b => exact hO.elim
        | dict b => exact hO.elim

/-! ### loops -/
theorem drop_cons {α : Type} {l : List α} {i : Nat} (h : i < l.length) : l.drop i = l[i] :: l.drop (i + 1) := by rw [List.drop_eq_getElem_cons h]
theorem s_for {tg iter : Expr} {body : List Stmt} {is : List Nat} {one : Bool} {fi : Rho → Out (List Q.D)} {fb : Rho → SO} {g : TG} (hp : PassesOwn (model X.prog X.w) X.A X.env X.xe) (hc : X.calm = true) (hi : PI X tg iter (tI G fi)) (hg : PG X tg g) (sd : TgSnd G.K pin is one g)
    (hb : PSs X body (tS G pin fb)) (hs : ∀ x, foldedSetIterable iter X.env x = pure x) :
    PS X (.For tg iter body [] pos) (tS G pin fun r => ofOut (fi r) fun xs r => forL is one pin fb xs r) :=
  PS.imp (ps_for hp hc hi hg hb hs) fun D σ H ⟨ρ, As, Z, R, hO⟩ => by
    refine ⟨ρ, As, Z, R, ?_⟩
    dsimp only at hO
    cases ei : fi ρ with
    | bad => rw [ei] at hO; exact hO
    | exc x r =>
      rw [ei] at hO
      intro c d H' ⟨As', Z', R', S', x'⟩
      exact hO c d σ H' ⟨As', Z', R', S', Pin.refl, x'⟩
    | ok xs ρ1 =>
      rw [ei] at hO
      intro J H1 ⟨As1, Z1, R1, S1, it⟩
      refine ⟨fun i m σ' H' => i + m = xs.length ∧ ∃ ρ' As' Z', Rel G.K σ' H' ρ' As' Z' ∧ Stp H1 As1 Z1 H' As' Z' ∧ Pin pin σ σ' ∧ OutS G pin σ H As Z (forL is one pin fb (xs.drop i) ρ') D, ⟨xs.length, Nat.zero_add _, ρ1, As1, Z1, R1, Stp.refl, Pin.refl, hO⟩, ?_⟩
      rintro i m σ' H' ⟨hm, ρ', As', Z', R', S', P', q⟩
      have kp : Keep H1 Z1 H' Z' := R1.keep S'
      by_cases hl : i < xs.length
      · refine .inr ⟨it.go H' Z' kp i hl, fun σ'' H'' => i + 1 + (m - 1) = xs.length ∧ ∃ ρ' As' Z', Rel G.K σ'' H'' ρ' As' Z' ∧ Stp H1 As1 Z1 H'' As' Z' ∧ Pin pin σ σ'' ∧ OutS G pin σ H As Z (forL is one pin fb (xs.drop (i + 1)) ρ') D, fun σ'' H'' h => ⟨m - 1, by omega, h⟩, fun v H'' y => ?_⟩
        obtain ⟨sm, im⟩ := it.yld H' Z' kp i xs[i] v H'' (List.getElem?_eq_getElem hl) y
        rw [drop_cons hl] at q
        unfold forL at q
        by_cases hpn : (is.any fun i => pin.getD i false) = true
        · rw [if_pos hpn] at q; exact q.elim
        · rw [if_neg hpn] at q
          cases et : tgt is one xs[i] ρ' with
          | none => rw [et] at q; exact q.elim
          | some r1 =>
            rw [et] at q
            dsimp only at q
            have R'' := R'.same sm
            refine sd v xs[i] ρ' r1 σ' H'' As' Z' _ R'' im et fun σ2 As2 R2 S2 P2 _ _ => ?_
            have P2' : Pin pin σ σ2 := P'.trans (P2 (by simpa using hpn))
            have S2' : Stp H1 As1 Z1 H'' As2 Z' := S'.trans ((Stp.same sm).trans S2)
            refine ⟨r1, As2, Z', R2, ?_⟩
            have S0 : Stp H As Z H'' As2 Z' := S1.trans S2'
            cases eb : fb r1 with
            | bad => rw [eb] at q; exact q
            | next r2 =>
              rw [eb] at q
              intro σ3 H3 ⟨As3, Z3, R3, S3, P3⟩
              exact ⟨by omega, r2, As3, Z3, R3, S2'.trans S3, P2'.trans P3, q⟩
            | cnt r2 =>
              rw [eb] at q
              intro σ3 H3 ⟨As3, Z3, R3, S3, P3⟩
              exact ⟨by omega, r2, As3, Z3, R3, S2'.trans S3, P2'.trans P3, q⟩
            | brk r2 => rw [eb] at q; exact OutS.at (o := .next r2) S0 P2' q
            | ret x r2 => rw [eb] at q; exact OutS.at S0 P2' q
            | exc x r2 => rw [eb] at q; exact OutS.at S0 P2' q
      · refine .inl ⟨it.stop H' Z' kp i (by omega), ?_⟩
        rw [List.drop_eq_nil_of_le (by omega)] at q
        exact q σ' H' ⟨As', Z', R', S1.trans S', P'⟩
theorem s_whl {c : Expr} {body : List Stmt} {fc : Rho → Out Bool} {fb : Rho → SO} {n : Nat} (hp : PassesOwn (model X.prog X.w) X.A X.env X.xe) (hc : PT X c (tT G fc)) (hb : PSs X body (tS G pin fb)) :
    PS X (.While c body [] pos) (tS G pin fun r => whlL fc fb n r) :=
  PS.imp (ps_while hp hc hb) fun D σ H ⟨ρ, As, Z, R, hO⟩ => by
    refine ⟨fun m σ' H' => ∃ ρ' As' Z', Rel G.K σ' H' ρ' As' Z' ∧ Stp H As Z H' As' Z' ∧ Pin pin σ σ' ∧ OutS G pin σ H As Z (whlL fc fb m ρ') D, ⟨n, ρ, As, Z, R, Stp.refl, Pin.refl, hO⟩, ?_⟩
    rintro m σ' H' ⟨ρ', As', Z', R', S', P', q⟩
    refine ⟨ρ', As', Z', R', ?_⟩
    cases m with
    | zero => exact q.elim
    | succ m =>
      unfold whlL at q
      cases ec : fc ρ' with
      | bad => rw [ec] at q; exact q
      | exc x r =>
        rw [ec] at q
        intro c d H'' ⟨As'', Z'', R'', S'', x'⟩
        exact q c d σ' H'' ⟨As'', Z'', R'', S'.trans S'', P', x'⟩
      | ok t r1 =>
        rw [ec] at q
        intro H2 ⟨As2, Z2, R2, S2, _⟩
        have S0 := S'.trans S2
        cases t with
        | false => exact q σ' H2 ⟨As2, Z2, R2, S0, P'⟩
        | true =>
          rw [if_pos rfl]
          refine ⟨fun σ'' H'' => ∃ ρ' As' Z', Rel G.K σ'' H'' ρ' As' Z' ∧ Stp H As Z H'' As' Z' ∧ Pin pin σ σ'' ∧ OutS G pin σ H As Z (whlL fc fb m ρ') D, fun σ'' H'' h => ⟨m, Nat.lt_succ_self m, h⟩, r1, As2, Z2, R2, ?_⟩
          dsimp only at q
          cases eb : fb r1 with
          | bad => rw [eb] at q; exact q
          | next r2 =>
            rw [eb] at q
            intro σ3 H3 ⟨As3, Z3, R3, S3, P3⟩
            exact ⟨r2, As3, Z3, R3, S0.trans S3, P'.trans P3, q⟩
          | cnt r2 =>
            rw [eb] at q
            intro σ3 H3 ⟨As3, Z3, R3, S3, P3⟩
            exact ⟨r2, As3, Z3, R3, S0.trans S3, P'.trans P3, q⟩
          | brk r2 => rw [eb] at q; exact OutS.at (o := .next r2) S0 P' q
          | ret x r2 => rw [eb] at q; exact OutS.at S0 P' q
          | exc x r2 => rw [eb] at q; exact OutS.at S0 P' q
end
end Q
/-! QL: comprehensions, ranges, what changes a slot's thing. -/
namespace Q
open PySem L2
section
variable {G : Gs} {pin : List Bool} {σ σ1 σ' : St} {H H1 H' : Hp} {As As1 As' : AsT} {Z Z1 Z' : Addr → Prop} {ρ ρ1 ρ' : Rho} {K : PySem.W.Frag}
theorem wipeR_len (r : Rho) : ∀ own : List Nat, (wipeR r own).length = r.length
  | [] => rfl
  | i :: is => by unfold wipeR; rw [List.length_set, wipeR_len r is]
theorem gt_oob {r : Rho} {i : Nat} (h : ¬ i < r.length) : gt r i = none := by
  unfold gt
  rw [List.getD_eq_getElem?_getD, List.getElem?_eq_none (by omega)]
  rfl
theorem gt_set' {r : Rho} {i j : Nat} {o : Option Val} (h : i < r.length ∨ o = none) : gt (r.set i o) j = if j = i then o else gt r j := by
  by_cases hi : i < r.length
  · exact gt_set hi
  · rcases h with h | h
    · exact absurd h hi
    · subst h
      rw [List.set_eq_of_length_le (by omega)]
      by_cases e : j = i
      · subst e; rw [if_pos rfl, gt_oob hi]
      · rw [if_neg e]
theorem gt_wipeR (r : Rho) (j : Nat) : ∀ own : List Nat, gt (wipeR r own) j = if j ∈ own then none else gt r j
  | [] => by simp [wipeR]
  | i :: is => by
    unfold wipeR
    rw [gt_set' (.inr rfl), gt_wipeR r j is]
    by_cases e : j = i
    · subst e; simp
    · simp [e]
theorem wipe_get (σ : St) (j : Nat) : ∀ own : List Nat, j ∉ own → (wipe σ own)[j]? = σ[j]?
  | [], _ => rfl
  | i :: is, h => by
    unfold wipe
    rw [List.getElem?_set_ne (fun e => h (by simp [e])), wipe_get σ j is (fun z => h (List.mem_cons_of_mem _ z))]
theorem wipe_len (σ : St) (own : List Nat) : (wipe σ own).length = σ.length := wipe_length σ own
theorem backR_len (r0 r : Rho) : ∀ own : List Nat, (backR r0 r own).length = r.length
  | [] => rfl
  | i :: is => by unfold backR; rw [List.length_set, backR_len r0 r is]
theorem gt_backR {r0 r : Rho} (h : r0.length = r.length) (j : Nat) : ∀ own : List Nat, gt (backR r0 r own) j = if j ∈ own then gt r0 j else gt r j
  | [] => by simp [backR]
  | i :: is => by
    unfold backR
    have hi : i < (backR r0 r is).length ∨ gt r0 i = none := by
      rw [backR_len]
      by_cases z : i < r.length
      · exact .inl z
      · exact .inr (gt_oob (by omega))
    rw [gt_set' hi, gt_backR h j is]
    by_cases e : j = i
    · subst e; simp
    · simp [e]
def wipeA (As : AsT) (own : List Nat) : AsT := fun j => if j ∈ own then none else As j
theorem Rel.wipe (R : Rel K σ H ρ As Z) (own : List Nat) : Rel K (wipe σ own) H (wipeR ρ own) (wipeA As own) Z := by
  refine ⟨by rw [wipeR_len, wipe_len]; exact R.len, fun j x h => ?_, fun j h => ?_, fun j a h => ?_, fun j k a h1 h2 => ?_, R.zed⟩
  · rw [gt_wipeR] at h
    by_cases e : j ∈ own
    · rw [if_pos e] at h; cases h
    · rw [if_neg e] at h
      obtain ⟨v, hv, r⟩ := R.val j x h
      exact ⟨v, by rw [wipe_get σ j own e]; exact hv, by unfold wipeA; rw [if_neg e]; exact r⟩
  · rw [gt_wipeR] at h
    unfold wipeA
    by_cases e : j ∈ own
    · rw [if_pos e]
    · rw [if_neg e] at h ⊢; exact R.nul j h
  · unfold wipeA at h
    by_cases e : j ∈ own
    · rw [if_pos e] at h; cases h
    · rw [if_neg e] at h; exact R.own j a h
  · unfold wipeA at h1 h2
    by_cases e : j ∈ own
    · rw [if_pos e] at h1; cases h1
    · by_cases e' : k ∈ own
      · rw [if_pos e'] at h2; cases h2
      · rw [if_neg e] at h1; rw [if_neg e'] at h2; exact R.inj j k a h1 h2
theorem Stp.wipe {own : List Nat} : Stp H As Z H (wipeA As own) Z := ⟨fun _ _ h _ => h, fun _ h => h, fun _ h => h, fun j b h => by
  unfold wipeA at h
  by_cases e : j ∈ own
  · rw [if_pos e] at h; cases h
  · rw [if_neg e] at h; exact .inl ⟨j, h⟩, fun _ h => .inl h⟩
/-- behind the block: the own slots as they were (trees, or nothing) -/
theorem Rel.back {own : List Nat} {r0 r : Rho} {H0 : Hp} {As0 : AsT} {Z0 : Addr → Prop} (R0 : Rel K σ H0 r0 As0 Z0) (ok : ownOk r0 own = true) (kp : Keep H0 Z0 H Z) (R : Rel K (L2.wipe σ own) H (wipeR r own) As Z) : Rel K σ H (backR r0 r own) As Z := by
  have hl : r0.length = r.length := by
    have := R.len
    rw [wipeR_len, wipe_len] at this
    exact R0.len.trans this.symm
  refine ⟨by rw [backR_len, ← hl]; exact R0.len, fun j x h => ?_, fun j h => ?_, R.own, R.inj, R.zed⟩
  · rw [gt_backR hl] at h
    by_cases e : j ∈ own
    · rw [if_pos e] at h
      obtain ⟨v, hv, q⟩ := R0.val j x h
      have nm : isMut x = false := by
        have := List.all_eq_true.mp ok j e
        rw [h] at this
        simpa using this
      have hA : As j = none := R.nul j (by rw [gt_wipeR, if_pos e])
      cases x with
      | d y => exact ⟨v, hv, by rw [hA]; exact ⟨rfl, q.2.keep kp⟩⟩
      | lst y => cases nm
      | dct y => cases nm
      | ins c y => cases nm
      | scr y t => exact ⟨v, hv, by rw [hA]; exact (VR.scr_keep kp q).2⟩
    · rw [if_neg e] at h
      obtain ⟨v, hv, q⟩ := R.val j x (by rw [gt_wipeR, if_neg e]; exact h)
      rw [wipe_get σ j own e] at hv
      exact ⟨v, hv, q⟩
  · rw [gt_backR hl] at h
    by_cases e : j ∈ own
    · exact R.nul j (by rw [gt_wipeR, if_pos e])
    · rw [if_neg e] at h; exact R.nul j (by rw [gt_wipeR, if_neg e]; exact h)

/-- the setting within a comprehension: nothing is raised there -/
abbrev Gs.nox (G : Gs) : Gs := { G with W := fun _ _ _ _ => False }
variable {X : Cx} {pos : Pos} {e : Expr} {fa : Rho → Out Hd}
theorem wipe_same {σ2 : St} {own : List Nat} (hn : ∀ j, j ∉ own → σ2[j]? = (wipe σ own)[j]?) (hl : σ2.length = (wipe σ own).length) : wipe σ2 own = wipe σ own := by
  apply List.ext_getElem?
  intro j
  by_cases h : j ∈ own
  · have a : ∀ τ : St, ∀ l : List Nat, j ∈ l → (wipe τ l)[j]? = if j < τ.length then some none else none := by
      intro τ l
      induction l with
      | nil => intro z; cases z
      | cons i is ih =>
        intro z
        unfold wipe
        by_cases e : i = j
        · subst e
          by_cases w : i < (wipe τ is).length
          · rw [List.getElem?_set_self w, if_pos (by rw [wipe_len] at w; exact w)]
          · rw [List.getElem?_eq_none (by simpa using w), if_neg (by rw [wipe_len] at w; exact w)]
        · rw [List.getElem?_set_ne e]
          exact ih ((List.mem_cons.mp z).resolve_left fun q => e q.symm)
    rw [a σ2 own h, a σ own h, hl, wipe_len]
  · rw [wipe_get σ2 j own h, hn j h]
theorem lc_tE {own : List (Str × Nat)} {is : List Nat} {one : Bool} {fi : Rho → Out (List Q.D)} {fc : Rho → Out Bool} {fe : Rho → Out Hd} {g : TG}
    (sub : ∀ i ∈ is, i ∈ own.map (·.2)) (sd : TgSnd G.K [] is one g) {Q : VK} (h : tE G (lcF (own.map (·.2)) is one fi fc fun r => treeO (fe r)) σ H Q) : tLc (tI G fi) g (tT G.nox fc) (tE G.nox fe) (own.map (·.2)) σ H Q := by
  obtain ⟨ρ, As, Z, R, hO⟩ := h
  generalize hw : own.map (·.2) = ow at *
  unfold lcF at hO
  try dsimp only at hO
  refine ⟨ρ, As, Z, R, ?_⟩
  cases ei : fi ρ with
  | bad => rw [ei] at hO; exact hO
  | exc x r => rw [ei] at hO; exact hO
  | ok xs ρ1 =>
    rw [ei] at hO
    intro J H1 ⟨As1, Z1, R1, S1, it⟩ D hD
    dsimp only [Out.bind] at hO
    by_cases hok : ownOk ρ1 ow = true
    case neg => rw [if_neg hok] at hO; exact hO.elim
    rw [if_pos hok] at hO
    have sm0 : Same H1 (upd H1 D (.lst [])) := Same.up hD
    have nZ : ¬ Z1 D := fun z => R1.zed D z hD
    have nA : ∀ i, As1 i ≠ some D := fun i e => by have := (R1.own i D e).2; rw [hD] at this; exact this
    have fin : ∀ (ys : List PyData) (r : Rho) (H' : Hp) (As' : AsT) (Z' : Addr → Prop) (vs : List V), Rel G.K (wipe σ ow) H' (wipeR r ow) As' Z' → Stp H1 As1 Z1 H' As' Z' → H' D = some (.lst vs) → ImA G.K H' Z' vs ys → ¬ Z' D → (∀ i, As' i ≠ some D) →
        OutQ G σ H As Z (lcO ow ρ1 (.ok ys r)) Q → Q (.ref D) H' := by
      intro ys r H' As' Z' vs R' S' hD' ia nz na q
      unfold lcO at q
      dsimp only at q
      by_cases h2 : ownOk r ow = true
      case neg => rw [if_neg h2] at q; exact q.elim
      rw [if_pos h2] at q
      exact q (.ref D) H' ⟨As', Z', some D, R1.back hok (R1.keep S') R', S1.trans S', ⟨⟨rfl, vs, hD', ia⟩, fun a e => by cases e; exact ⟨nz, by rw [hD']; trivial, na⟩⟩, fun a e => by cases e; exact .inr (S1.dom D hD)⟩
    refine ⟨fun i m H' => i + m = xs.length ∧ ∃ r As' Z' vs acc, Rel G.K (wipe σ ow) H' (wipeR r ow) As' Z' ∧ Stp H1 As1 Z1 H' As' Z' ∧ H' D = some (.lst vs) ∧ ImA G.K H' Z' vs acc ∧ ¬ Z' D ∧ (∀ i, As' i ≠ some D) ∧
        OutQ G σ H As Z (lcO ow ρ1 (lcL is one ow fc (fun r => treeO (fe r)) (xs.drop i) acc r)) Q, ⟨xs.length, Nat.zero_add _, wipeR ρ1 ow, wipeA As1 ow, Z1, [], [], ?_, (Stp.same sm0).trans Stp.wipe, upd_same, .nil, nZ, ?_, hO⟩, ?_⟩
    · have : wipeR (wipeR ρ1 ow) ow = wipeR ρ1 ow := by
        apply List.ext_getElem?
        intro j
        have hlen : (wipeR (wipeR ρ1 ow) ow).length = (wipeR ρ1 ow).length := by rw [wipeR_len]
        have a := gt_wipeR (wipeR ρ1 ow) j ow
        have b := gt_wipeR ρ1 j ow
        by_cases z : j < (wipeR ρ1 ow).length
        · have g1 : gt (wipeR (wipeR ρ1 ow) ow) j = gt (wipeR ρ1 ow) j := by
            rw [a]
            by_cases h : j ∈ ow
            · rw [if_pos h, b, if_pos h]
            · rw [if_neg h]
          unfold gt at g1
          rw [List.getD_eq_getElem?_getD, List.getD_eq_getElem?_getD, List.getElem?_eq_getElem z, List.getElem?_eq_getElem (by rw [hlen]; exact z)] at g1
          rw [List.getElem?_eq_getElem z, List.getElem?_eq_getElem (by rw [hlen]; exact z)]
          exact congrArg some g1
        · rw [List.getElem?_eq_none (by omega), List.getElem?_eq_none (by omega)]
      rw [this]
      exact (R1.same sm0).wipe ow
    · intro i e
      unfold wipeA at e
      by_cases h : i ∈ ow
      · rw [if_pos h] at e; cases e
      · rw [if_neg h] at e; exact nA i e
    rintro i m H' ⟨hm, r, As', Z', vs, acc, R', S', hD', ia, nz, na, q⟩
    have kp : Keep H1 Z1 H' Z' := R1.keep S'
    by_cases hl : i < xs.length
    · refine .inr ⟨it.go H' Z' kp i hl, fun H'' => i + 1 + (m - 1) = xs.length ∧ ∃ r As' Z' vs acc, Rel G.K (wipe σ ow) H'' (wipeR r ow) As' Z' ∧ Stp H1 As1 Z1 H'' As' Z' ∧ H'' D = some (.lst vs) ∧ ImA G.K H'' Z' vs acc ∧ ¬ Z' D ∧ (∀ i, As' i ≠ some D) ∧
        OutQ G σ H As Z (lcO ow ρ1 (lcL is one ow fc (fun r => treeO (fe r)) (xs.drop (i + 1)) acc r)) Q, fun H'' h => ⟨m - 1, by omega, h⟩, fun v H'' y => ?_⟩
      obtain ⟨sm, im⟩ := it.yld H' Z' kp i xs[i] v H'' (List.getElem?_eq_getElem hl) y
      rw [drop_cons hl] at q
      unfold lcL at q
      cases et : tgt is one xs[i] (wipeR r ow) with
      | none => rw [et] at q; exact q.elim
      | some r1 =>
        rw [et] at q
        dsimp only at q
        refine sd v xs[i] (wipeR r ow) r1 (wipe σ ow) H'' As' Z' _ (R'.same sm) im et fun σ2 As2 R2 S2 _ N2 L2 => ?_
        refine ⟨wipe_same (fun j hj => N2 j fun z => hj (sub j z)) L2, ?_⟩
        have Sb : Stp H' As' Z' H'' As2 Z' := (Stp.same sm).trans S2
        have hD2 : H'' D = some (.lst vs) := sm D _ hD'
        have na2 : ∀ i, As2 i ≠ some D := fun i e => by
          rcases Sb.as i D e with ⟨j, z⟩ | z
          · exact na j z
          · rw [hD'] at z; cases z
        have ia2 := ia.keep (R'.keep Sb)
        refine ⟨r1, As2, Z', R2, ?_⟩
        -- the thing at D in later worlds
        have later : ∀ {H3 : Hp} {As3 : AsT} {Z3 : Addr → Prop}, Stp H'' As2 Z' H3 As3 Z3 → H3 D = some (.lst vs) ∧ ImA G.K H3 Z3 vs acc ∧ ¬ Z3 D ∧ ∀ i, As3 i ≠ some D := by
          intro H3 As3 Z3 S3
          refine ⟨S3.chg D _ hD2 na2, ia2.keep (R2.keep S3), fun z => ?_, fun i e => ?_⟩
          · rcases S3.zn D z with z | ⟨j, z⟩ | z
            · exact nz z
            · exact na2 j z
            · rw [hD2] at z; cases z
          · rcases S3.as i D e with ⟨j, z⟩ | z
            · exact na2 j z
            · rw [hD2] at z; cases z
        cases ec : fc r1 with
        | bad => rw [ec] at q; exact q
        | exc x r2 => rw [ec] at q; exact q.elim
        | ok t r2 =>
          rw [ec] at q
          intro H3 ⟨As3, Z3, R3, S3, _⟩
          obtain ⟨d3, i3, z3, a3⟩ := later S3
          cases t with
          | false =>
            rw [if_neg Bool.false_ne_true]
            dsimp only at q
            have W3 := R3.wipe ow
            rw [wipe_same (fun j hj => N2 j fun z => hj (sub j z)) L2] at W3
            refine ⟨by omega, r2, wipeA As3 ow, Z3, vs, acc, W3, S'.trans (Sb.trans (S3.trans Stp.wipe)), d3, i3, z3, fun i e => ?_, q⟩
            unfold wipeA at e
            by_cases h : i ∈ ow
            · rw [if_pos h] at e; cases e
            · rw [if_neg h] at e; exact a3 i e
          | true =>
            rw [if_pos rfl]
            dsimp only at q
            refine ⟨r2, As3, Z3, R3, tree_ok ?_⟩
            cases ee : treeO (fe r2) with
            | bad => rw [ee] at q; exact q
            | exc x r3 => rw [ee] at q; exact q.elim
            | ok d r3 =>
              rw [ee] at q
              intro v4 H4 ⟨As4, Z4, R4, S4, im4⟩
              obtain ⟨d4, i4, z4, a4⟩ := later (S3.trans S4)
              dsimp only at q
              by_cases hz : acc.length < sizeLine
              case neg => rw [if_neg hz] at q; exact q.elim
              rw [if_pos hz] at q
              refine ⟨vs, d4, by rw [i4.length]; exact hz, ?_⟩
              have W4 := R4.wipe ow
              rw [wipe_same (fun j hj => N2 j fun z => hj (sub j z)) L2] at W4
              -- D grows
              have nb : ∀ i, wipeA As4 ow i ≠ some D := fun i e => by
                unfold wipeA at e
                by_cases h : i ∈ ow
                · rw [if_pos h] at e; cases e
                · rw [if_neg h] at e; exact a4 i e
              have kp5 : Keep H4 Z4 (upd H4 D (.lst (vs ++ [v4]))) Z4 := ⟨fun b o h n => by
                  by_cases z : b = D
                  · subst z; rw [d4] at h; cases h; exact absurd trivial n
                  · rw [upd_ne z]; exact h, fun b o z h => by
                  by_cases w : b = D
                  · subst w; exact absurd z z4
                  · rw [upd_ne w]; exact h, fun _ h => h⟩
              have R5 : Rel G.K (wipe σ ow) (upd H4 D (.lst (vs ++ [v4]))) (wipeR r3 ow) (wipeA As4 ow) Z4 := by
                refine ⟨W4.len, fun j x h => ?_, W4.nul, fun j a h => ⟨(W4.own j a h).1, ?_⟩, W4.inj, fun a z => ?_⟩
                · obtain ⟨w, hw, qq⟩ := W4.val j x h
                  exact ⟨w, hw, qq.keep kp5 fun a ea => upd_ne fun z => nb j (by rw [ea, z])⟩
                · rw [upd_ne fun z => nb j (by rw [h, z])]; exact (W4.own j a h).2
                · by_cases w : a = D
                  · rw [w, upd_same]; exact fun z => nomatch z
                  · rw [upd_ne w]; exact W4.zed a z
              have S5 : Stp H1 As1 Z1 (upd H4 D (.lst (vs ++ [v4]))) (wipeA As4 ow) Z4 := by
                have S4' := S'.trans (Sb.trans ((S3.trans S4).trans (Stp.wipe (own := ow))))
                refine ⟨fun b o h n => ?_, fun b h => ?_, S4'.zz, S4'.as, S4'.zn⟩
                · rw [upd_ne (fun z => by rw [z, hD] at h; cases h)]; exact S4'.chg b o h n
                · by_cases w : b = D
                  · rw [w, upd_same] at h; cases h
                  · rw [upd_ne w] at h; exact S4'.dom b h
              exact ⟨by omega, r3, wipeA As4 ow, Z4, vs ++ [v4], acc ++ [d], R5, S5, upd_same, (i4.keep kp5).append (.cons (im4.keep kp5) .nil), z4, nb, q⟩
    · refine .inl ⟨it.stop H' Z' kp i (by omega), ?_⟩
      rw [List.drop_eq_nil_of_le (by omega)] at q
      exact fin acc r H' As' Z' vs R' S' hD' ia nz na q

/-! ### ranges -/
theorem s_lc {elt tg iter : Expr} {ifs : List Expr} {scope : Scope} {own : List (Str × Nat)} {is : List Nat} {one : Bool} {fi : Rho → Out (List Q.D)} {fc : Rho → Out Bool} {fe : Rho → Out Hd} {g : TG} (hK : X.K = G.K) (hc : X.calm = true) (hN : X.N.Nodup) (hi : PI X tg iter (tI G fi)) (ok : BlkOk X.N X.env.scope scope own)
    (sub : ∀ i ∈ is, i ∈ own.map (·.2)) (sd : TgSnd G.K [] is one g)
    (hg : ∀ (s : Shared) (H : Hp) (C : Addr) (cl : List (Str × Addr)) (fp : List Addr), PG (X.blk s H scope (compEnvC scope cl C X.env) fp) tg g)
    (ht : ∀ (s : Shared) (H : Hp) (C : Addr) (cl : List (Str × Addr)) (fp : List Addr), PTs (X.blk s H scope (compEnvC scope cl C X.env) fp) ifs (tT G.nox fc))
    (he : ∀ (s : Shared) (H : Hp) (C : Addr) (cl : List (Str × Addr)) (fp : List Addr), PE (X.blk s H scope (compEnvC scope cl C X.env) fp) elt (tE G.nox fe)) (hs : ∀ x, foldedSetIterable iter X.env x = pure x) :
    PE X (.ListComp elt [⟨tg, iter, ifs, 0⟩] scope pos) (tE G (lcF (own.map (·.2)) is one fi fc fun r => treeO (fe r))) :=
  PE.imp (pe_lc hc hN hi ok hg ht he hs) fun σ H Q h => lc_tE sub sd h
theorem int_of {h : Hd} {v : V} {ax : Option Addr} {j : Int} (R : Rel K σ H ρ As Z) (n : Hnd K σ H Z As v h ax) (e : dr ρ h = some (.d (.int j))) : v = .int j := by
  obtain ⟨o, r, _⟩ := n.dr R e
  exact r.2.int_v
/-- an expression's value as an argument -/
theorem argE {Q : List V → Hp → Prop} (h : tE G fa σ H fun v H' => Q [v] H') : tCons (tE G fa) tNil σ H Q := h
theorem s_rng1 {tg a : Expr} {p : Pos} (hg : Gl X "range") (hm : X.mg "range" = none) (ha : PE X a (tE G fa)) (hs1 : starEach [a] X.env = (false, eval a X.env) :: starEach [] X.env) : PI X tg (.Call (.Name "range" p) [a] [] pos) (tI G (rng1F fa)) :=
  PI.imp (pi_range1 hg hm (pa_cons ha pa_nil hs1) hs1) fun σ H Rk ⟨ρ, As, Z, R, hO⟩ => by
    unfold rng1F at hO
    try dsimp only at hO
    refine ⟨ρ, As, Z, R, ?_⟩
    cases ea : fa ρ with
    | bad => rw [ea] at hO; exact hO.elim
    | exc x r => rw [ea] at hO; exact hO
    | ok h ρ1 =>
      rw [ea] at hO
      intro v H1 ⟨As1, Z1, ax, R1, S1, n, fr⟩
      dsimp only [Out.bind] at hO
      cases ed : dr ρ1 h with
      | none => rw [ed] at hO; exact hO.elim
      | some x =>
        rw [ed] at hO
        cases x with
        | lst y => exact hO.elim
        | dct y => exact hO.elim
        | ins c y => exact hO.elim
        | scr y => exact hO.elim
        | d y =>
          cases y with
          | int j =>
            dsimp only at hO
            by_cases hb : -(2 ^ 62) ≤ j ∧ j < 2 ^ 62
            · rw [if_pos hb] at hO
              exact ⟨j, by rw [int_of R1 n ed], hb.1, hb.2, hO _ H1 ⟨As1, Z1, R1, S1, it_range⟩⟩
            · rw [if_neg hb] at hO; exact hO.elim
          | none => exact hO.elim
          | bool b => exact hO.elim
          | str b => exact hO.elim
          | list b => exact hO.elim
          | tuple b => exact hO.elim
          | dict b => exact hO.elim
/-! ### a slot's list is changed -/
def MuSnd (K : PySem.W.Frag) (r : V → List V → Hp → VK → Prop) (f : List Q.D → List Q.D → Option (Q.D × List Q.D)) : Prop :=
  ∀ (H : Hp) (Z : Addr → Prop) (a : Addr) (ys vs : List V) (xs ds : List Q.D) (z : Q.D) (xs' : List Q.D) (Q : VK), H a = some (.lst ys) → ¬ Z a → ImA K H Z ys xs → ImA K H Z vs ds → f xs ds = some (z, xs') →
    (∀ u ys', ImA K H Z ys' xs' → Im K H Z u z → Q u (upd H a (.lst ys'))) → r (.ref a) vs H Q
/-- a slot's list -/
theorem Rel.lst {i : Nat} {xs : List Q.D} (R : Rel K σ H ρ As Z) (g : gt ρ i = some (.lst xs)) : ∃ a ys, As i = some a ∧ σ[i]? = some (some (.ref a)) ∧ H a = some (.lst ys) ∧ ImA K H Z ys xs ∧ ¬ Z a := by
  obtain ⟨v, hv, r⟩ := R.val i _ g
  cases hA : As i with
  | none => rw [hA] at r; exact r.elim
  | some a =>
    rw [hA] at r
    obtain ⟨ev, ys, h1, h2⟩ := r
    subst ev
    exact ⟨a, ys, rfl, hv, h1, h2, (R.own i a hA).1⟩
/-- .. and another one stands there -/
theorem Rel.putLst {i : Nat} {a : Addr} {xs xs' : List Q.D} {ys' : List V} (R : Rel K σ H ρ As Z) (g : gt ρ i = some (.lst xs)) (hA : As i = some a) (hv : σ[i]? = some (some (.ref a))) (ia : ImA K H Z ys' xs') :
    Rel K σ (upd H a (.lst ys')) (ρ.set i (some (.lst xs'))) As Z ∧ Stp H As Z (upd H a (.lst ys')) As Z := by
  refine R.put g hA hv trivial ⟨rfl, ys', upd_same, ia.keep ⟨fun b o h n => ?_, fun b o z h => ?_, fun _ h => h⟩⟩
  · rw [upd_ne fun e => n (by have := (R.own i a hA).2; rw [← e, h] at this; exact this)]; exact h
  · rw [upd_ne fun e => (R.own i a hA).1 (by rw [← e]; exact z)]; exact h
theorem Rel.keepUpd {i : Nat} {a : Addr} {o : HO} (R : Rel K σ H ρ As Z) (hA : As i = some a) : Keep H Z (upd H a o) Z := ⟨fun b u h n => by
  rw [upd_ne fun e => n (by have := (R.own i a hA).2; rw [← e, h] at this; exact this)]; exact h, fun b u z h => by
  rw [upd_ne fun e => (R.own i a hA).1 (by rw [← e]; exact z)]; exact h, fun _ h => h⟩
/-- the receiver stays at its place while the arguments are evaluated -/
theorem slot_same {i : Nat} {v w : V} (h1 : σ[i]? = some (some v)) (h2 : σ[i]? = some (some w)) : v = w := by
  rw [h1] at h2; cases h2; rfl
theorem s_mut0 {x m : Str} {p ap : Pos} {i : Nat} {id : String} {r : V → List V → Hp → VK → Prop} {f : List Q.D → List Q.D → Option (Q.D × List Q.D)}
    (h : PE X e (tBM0 X.K "list" r (tVar i))) (hK : X.K = G.K) (sd : MuSnd G.K r f) : PE X e (tE G (mutF i (fun r => .ok [] r) f)) :=
  PE.imp h fun σ H Q ⟨ρ, As, Z, R, hO⟩ => by
    unfold mutF at hO
    try dsimp only at hO
    cases g : gt ρ i with
    | none => rw [g] at hO; exact hO.elim
    | some x =>
      cases x with
      | d y => rw [g] at hO; exact hO.elim
      | dct y => rw [g] at hO; exact hO.elim
      | ins c y => rw [g] at hO; exact hO.elim
      | scr y => rw [g] at hO; exact hO.elim
      | lst xs =>
        rw [g] at hO
        dsimp only [Out.bind] at hO
        rw [g] at hO
        dsimp only at hO
        obtain ⟨a, ys, hA, hv, ha, ia, nz⟩ := R.lst g
        refine ⟨.ref a, hv, Or.inl ⟨rfl, _, Or.inl (Or.inl ha)⟩, ?_⟩
        cases ef : f xs [] with
        | none => rw [ef] at hO; exact hO.elim
        | some zz =>
          obtain ⟨z, xs'⟩ := zz
          rw [ef] at hO
          refine sd H Z a ys [] xs [] z xs' Q ha nz ia .nil ef fun u ys' ia' im => ?_
          obtain ⟨R2, S2⟩ := R.putLst g hA hv ia'
          exact hO u _ ⟨As, Z, none, R2, S2, ⟨⟨rfl, im.keep (R.keepUpd hA)⟩, fun _ q => nomatch q⟩, fun _ q => nomatch q⟩
theorem s_mut {i : Nat} {r : V → List V → Hp → VK → Prop} {fs : Rho → Out (List Q.D)} {f : List Q.D → List Q.D → Option (Q.D × List Q.D)}
    (h : PE X e (tBM X.K "list" r (tVar i) (tA G fs))) (hK : X.K = G.K) (sd : MuSnd G.K r f) : PE X e (tE G (mutF i fs f)) :=
  PE.imp h fun σ H Q ⟨ρ, As, Z, R, hO⟩ => by
    unfold mutF at hO
    try dsimp only at hO
    cases g : gt ρ i with
    | none => rw [g] at hO; exact hO.elim
    | some x =>
      cases x with
      | d y => rw [g] at hO; exact hO.elim
      | dct y => rw [g] at hO; exact hO.elim
      | ins c y => rw [g] at hO; exact hO.elim
      | scr y => rw [g] at hO; exact hO.elim
      | lst xs0 =>
        rw [g] at hO
        dsimp only at hO
        obtain ⟨a0, ys0, hA0, hv0, ha0, _, _⟩ := R.lst g
        refine ⟨.ref a0, hv0, Or.inl ⟨rfl, _, Or.inl (Or.inl ha0)⟩, ρ, As, Z, R, ?_⟩
        cases es : fs ρ with
        | bad => rw [es] at hO; exact hO
        | exc x r1 => rw [es] at hO; exact hO
        | ok ds ρ1 =>
          rw [es] at hO
          intro vs H1 ⟨As1, Z1, R1, S1, iv⟩
          dsimp only [Out.bind] at hO
          cases g1 : gt ρ1 i with
          | none => rw [g1] at hO; exact hO.elim
          | some x =>
            cases x with
            | d y => rw [g1] at hO; exact hO.elim
            | dct y => rw [g1] at hO; exact hO.elim
            | ins c y => rw [g1] at hO; exact hO.elim
            | scr y => rw [g1] at hO; exact hO.elim
            | lst xs =>
              rw [g1] at hO
              dsimp only at hO
              obtain ⟨a, ys, hA, hv, ha, ia, nz⟩ := R1.lst g1
              cases slot_same hv0 hv
              cases ef : f xs ds with
              | none => rw [ef] at hO; exact hO.elim
              | some zz =>
                obtain ⟨z, xs'⟩ := zz
                rw [ef] at hO
                refine sd H1 Z1 a0 ys vs xs ds z xs' Q ha nz ia iv ef fun u ys' ia' im => ?_
                obtain ⟨R2, S2⟩ := R1.putLst g1 hA hv ia'
                exact hO u _ ⟨As1, Z1, none, R2, S1.trans S2, ⟨⟨rfl, im.keep (R1.keepUpd hA)⟩, fun _ q => nomatch q⟩, fun _ q => nomatch q⟩
/-- x.extend(e) -/
def ExSnd (K : PySem.W.Frag) (r : V → List V → Hp → VK → Prop) : Prop :=
  ∀ (H : Hp) (Z : Addr → Prop) (a : Addr) (ys : List V) (xs zs : List Q.D) (w : V) (y : Val) (oy : Option Addr) (Q : VK), H a = some (.lst ys) → ¬ Z a → ImA K H Z ys xs → VR K H Z w y oy → seqOf y = some zs → xs.length + zs.length ≤ sizeLine →
    (∀ ys', ImA K H Z ys' (xs ++ zs) → Q .non (upd H a (.lst ys'))) → r (.ref a) [w] H Q
theorem s_ext {i : Nat} {r : V → List V → Hp → VK → Prop} (h : PE X e (tBM X.K "list" r (tVar i) (tCons (tE G fa) tNil))) (hK : X.K = G.K) (sd : ExSnd G.K r) : PE X e (tE G (extF i fa)) :=
  PE.imp h fun σ H Q ⟨ρ, As, Z, R, hO⟩ => by
    unfold extF at hO
    try dsimp only at hO
    cases g : gt ρ i with
    | none => rw [g] at hO; exact hO.elim
    | some x =>
      cases x with
      | d y => rw [g] at hO; exact hO.elim
      | dct y => rw [g] at hO; exact hO.elim
      | ins c y => rw [g] at hO; exact hO.elim
      | scr y => rw [g] at hO; exact hO.elim
      | lst xs0 =>
        rw [g] at hO
        dsimp only at hO
        obtain ⟨a0, ys0, hA0, hv0, ha0, _, _⟩ := R.lst g
        refine ⟨.ref a0, hv0, Or.inl ⟨rfl, _, Or.inl (Or.inl ha0)⟩, ρ, As, Z, R, ?_⟩
        cases es : fa ρ with
        | bad => rw [es] at hO; exact hO
        | exc x r1 => rw [es] at hO; exact hO
        | ok h ρ1 =>
          rw [es] at hO
          intro v H1 ⟨As1, Z1, ax, R1, S1, n, fr⟩
          dsimp only [Out.bind] at hO
          cases g1 : gt ρ1 i with
          | none => rw [g1] at hO; exact hO.elim
          | some x =>
            cases x with
            | d y => rw [g1] at hO; exact hO.elim
            | dct y => rw [g1] at hO; exact hO.elim
            | ins c y => rw [g1] at hO; exact hO.elim
            | scr y => rw [g1] at hO; exact hO.elim
            | lst xs =>
              cases ed : dr ρ1 h with
              | none => rw [g1, ed] at hO; exact hO.elim
              | some y =>
                rw [g1, ed] at hO
                dsimp only at hO
                cases eq : seqOf y with
                | none => rw [eq] at hO; exact hO.elim
                | some zs =>
                  rw [eq] at hO
                  dsimp only at hO
                  by_cases hz : xs.length + zs.length ≤ sizeLine
                  case neg => rw [if_neg hz] at hO; exact hO.elim
                  rw [if_pos hz] at hO
                  obtain ⟨a, ys, hA, hv, ha, ia, nz⟩ := R1.lst g1
                  cases slot_same hv0 hv
                  obtain ⟨oy, ry, _⟩ := n.dr R1 ed
                  refine sd H1 Z1 a0 ys xs zs v y oy Q ha nz ia ry eq hz fun ys' ia' => ?_
                  obtain ⟨R2, S2⟩ := R1.putLst g1 hA hv ia'
                  exact hO .non _ ⟨As1, Z1, none, R2, S1.trans S2, ⟨⟨rfl, .non⟩, fun _ q => nomatch q⟩, fun _ q => nomatch q⟩
end
end Q
/-! QF: calls of defs, a def's promise by the evaluator. -/
namespace Q
open PySem L2

/-- of what a def was handed, what could change -/
def outsM : List Val → Rho → Rho
  | x :: xs, o :: os => (if isMut x then o else none) :: outsM xs os
  | _, _ => []
def asM (args : List Val) (As : AsT) : AsT := fun j => match args[j]? with
  | some x => if isMut x then As j else none
  | none => none
/-- the promise: what the evaluator says -/
def spF (K : PySem.W.Frag) (EX : EXT) (np : Nat) (F : List Val → CR) : Sp := fun vs H Q E => vs.length = np ∧ ∃ (args : List Val) (As : AsT) (Z : Addr → Prop), args.length = np ∧ Rel K (vs.map some) H (args.map some) As Z ∧
  match F args with
  | .ok x outs => ∀ v H' As' Z' ax, outs.length = np → Rel K (vs.map some) H' (outsM args outs) As' Z' → Stp H As Z H' As' Z' → VR K H' Z' v x ax → (∀ a, ax = some a → (¬ Z' a ∧ Own (H' a) ∧ ∀ i, As' i ≠ some a) ∧ ((∃ j, As j = some a) ∨ H a = none)) → Q v H'
  | .exc e outs => ∀ c d H' As' Z', outs.length = np → Rel K (vs.map some) H' (outsM args outs) As' Z' → Stp H As Z H' As' Z' → EX Z' e c d H' → E c d H'
  | .bad => False

section
variable {G : Gs} {σ σ' : St} {H H1 H2 H3 H' : Hp} {As As1 As2 As' : AsT} {Z Z1 Z2 Z' : Addr → Prop} {ρ ρ1 ρ2 ρ' : Rho} {K : PySem.W.Frag}
theorem outsM_len : ∀ {args : List Val} {outs : Rho}, outs.length = args.length → (outsM args outs).length = args.length
  | [], [], _ => rfl
  | [], _ :: _, h => by simp at h
  | _ :: _, [], h => by simp at h
  | x :: xs, o :: os, h => by
    have := outsM_len (args := xs) (outs := os) (by simpa using h)
    simp [outsM, this]
theorem gt_cons_zero {o : Option Val} {r : Rho} : gt (o :: r) 0 = o := rfl
theorem gt_cons_succ {o : Option Val} {r : Rho} {i : Nat} : gt (o :: r) (i + 1) = gt r i := rfl
theorem gt_outsM : ∀ {args : List Val} {outs : Rho} {j : Nat}, outs.length = args.length → gt (outsM args outs) j = (match args[j]? with
    | some x => if isMut x then gt outs j else none
    | none => none)
  | [], [], j, _ => by simp [outsM, gt]
  | [], _ :: _, _, h => by simp at h
  | _ :: _, [], _, h => by simp at h
  | x :: xs, o :: os, 0, h => by simp [outsM, gt_cons_zero]
  | x :: xs, o :: os, j + 1, h => by
    have := gt_outsM (args := xs) (outs := os) (j := j) (by simpa using h)
    simp only [outsM, gt_cons_succ, this, List.getElem?_cons_succ]
theorem gt_map {args : List Val} {j : Nat} : gt (args.map some) j = args[j]? := by
  unfold gt
  rw [List.getD_eq_getElem?_getD, List.getElem?_map]
  cases args[j]? <;> rfl

/-! ### the body's side -/
theorem gt_take {r : Rho} {n j : Nat} (h : j < n) : gt (r.take n) j = gt r j := by
  unfold gt
  rw [List.getD_eq_getElem?_getD, List.getD_eq_getElem?_getD, List.getElem?_take_of_lt h]
theorem out_rel {n' : List Str} {vs : List V} {args : List Val} (hl : vs.length = args.length) (P : Pin (args.map isMut) (L2.start n' vs) σ') (R : Rel K σ' H' ρ' As' Z') (hn : args.length ≤ ρ'.length) :
    Rel K (vs.map some) H' (outsM args (ρ'.take args.length)) (asM args As') Z' := by
  have hlo : (ρ'.take args.length).length = args.length := by rw [List.length_take]; omega
  refine ⟨by rw [outsM_len hlo, List.length_map, hl], fun j x h => ?_, fun j h => ?_, fun j a h => ?_, fun j k a h1 h2 => ?_, R.zed⟩
  · rw [gt_outsM hlo] at h
    cases e : args[j]? with
    | none => rw [e] at h; cases h
    | some y =>
      rw [e] at h
      dsimp only at h
      by_cases m : isMut y = true
      · rw [if_pos m] at h
        have hj : j < args.length := (List.getElem?_eq_some_iff.mp e).1
        rw [gt_take hj] at h
        obtain ⟨v, hv, r⟩ := R.val j x h
        have hp : (args.map isMut).getD j false = true := by
          rw [List.getD_eq_getElem?_getD, List.getElem?_map, e]; exact m
        have q := P.2 j hp
        rw [hv] at q
        refine ⟨v, ?_, by unfold asM; rw [e]; dsimp only; rw [if_pos m]; exact r⟩
        unfold L2.start at q
        rw [List.getElem?_append_left (by rw [List.length_map]; omega)] at q
        exact q.symm
      · rw [if_neg m] at h; cases h
  · rw [gt_outsM hlo] at h
    unfold asM
    cases e : args[j]? with
    | none => rfl
    | some y =>
      rw [e] at h
      dsimp only at h ⊢
      by_cases m : isMut y = true
      · rw [if_pos m] at h ⊢
        have hj : j < args.length := (List.getElem?_eq_some_iff.mp e).1
        rw [gt_take hj] at h
        exact R.nul j h
      · rw [if_neg m]
  · unfold asM at h
    cases e : args[j]? with
    | none => rw [e] at h; cases h
    | some y =>
      rw [e] at h
      dsimp only at h
      by_cases m : isMut y = true
      · rw [if_pos m] at h; exact R.own j a h
      · rw [if_neg m] at h; cases h
  · unfold asM at h1 h2
    cases e : args[j]? with
    | none => rw [e] at h1; cases h1
    | some y =>
      cases e' : args[k]? with
      | none => rw [e'] at h2; cases h2
      | some y' =>
        rw [e] at h1
        rw [e'] at h2
        dsimp only at h1 h2
        by_cases m : isMut y = true
        · by_cases m' : isMut y' = true
          · rw [if_pos m] at h1; rw [if_pos m'] at h2; exact R.inj j k a h1 h2
          · rw [if_neg m'] at h2; cases h2
        · rw [if_neg m] at h1; cases h1
theorem asM_sub {args : List Val} {j : Nat} {a : Addr} (h : asM args As j = some a) : As j = some a := by
  unfold asM at h
  cases e : args[j]? with
  | none => rw [e] at h; cases h
  | some y =>
    rw [e] at h
    dsimp only at h
    by_cases m : isMut y = true
    · rw [if_pos m] at h; exact h
    · rw [if_neg m] at h; cases h
theorem Stp.asM {args : List Val} (S : Stp H As Z H' As' Z') : Stp H As Z H' (Q.asM args As') Z' := ⟨S.chg, S.dom, S.zz, fun j b h => S.as j b (asM_sub h), S.zn⟩
/-- the start of a body -/
theorem start_rel {N : List Str} {vs : List V} {args : List Val} (hl : vs.length = args.length) (hn : args.length ≤ N.length) (R : Rel K (vs.map some) H (args.map some) As Z) :
    Rel K (L2.start N vs) H (args.map some ++ List.replicate (N.length - args.length) none) As Z := by
  refine ⟨by unfold L2.start; simp [hl], fun j x h => ?_, fun j h => ?_, R.own, R.inj, R.zed⟩
  · have hj : j < args.length := by
      apply Classical.byContradiction
      intro n
      unfold gt at h
      rw [List.getD_eq_getElem?_getD, List.getElem?_append_right (by rw [List.length_map]; omega), List.getElem?_replicate] at h
      split at h <;> cases h
    have g : gt (args.map some) j = some x := by
      unfold gt at h ⊢
      rw [List.getD_eq_getElem?_getD, List.getElem?_append_left (by rw [List.length_map]; exact hj)] at h
      rw [List.getD_eq_getElem?_getD]
      exact h
    obtain ⟨v, hv, r⟩ := R.val j x g
    refine ⟨v, ?_, r⟩
    unfold L2.start
    rw [List.getElem?_append_left (by rw [List.length_map]; omega)]
    exact hv
  · by_cases hj : j < args.length
    · have g : gt (args.map some) j = none := by
        unfold gt at h ⊢
        rw [List.getD_eq_getElem?_getD, List.getElem?_append_left (by rw [List.length_map]; exact hj)] at h
        rw [List.getD_eq_getElem?_getD]
        exact h
      exact R.nul j g
    · exact R.nul j (gt_oob (by rw [List.length_map]; exact hj))
theorem runF_ok {F : FT} {fd : FD} {args : List Val} (h : args.length = fd.np) : runF F fd args = crOf fd.np (evS F (args.map isMut) fd.body (args.map some ++ List.replicate (fd.n - fd.np) none)) := by unfold runF; rw [if_pos h]
/-- the reading of a body, from the promise: W as the exceptions' wish at the slots -/
theorem body_ok {EX : EXT} {F : FT} {fd : FD} {N : List Str} {vs : List V} {Q : VK} {E : XK} (hn : fd.np ≤ N.length) (hN : fd.n = N.length) (h : spF K EX fd.np (runF F fd) vs H Q E) :
    ∃ pin, tS ⟨K, EX, fun c d _ H' => E c d H'⟩ pin (evS F pin fd.body) { nx := fun _ H' => Q .non H', rt := Q } (L2.start N vs) H := by
  obtain ⟨hv, args, As, Z, ha, R, q⟩ := h
  rw [runF_ok ha] at q
  have hl : vs.length = args.length := hv.trans ha.symm
  have R0 := start_rel (N := N) hl (by omega) R
  rw [show N.length - args.length = fd.n - fd.np by omega] at R0
  refine ⟨args.map isMut, _, As, Z, R0, ?_⟩
  have key : ∀ {σ' : St} {H' : Hp} {ρ' : Rho} {As' : AsT} {Z' : Addr → Prop}, Rel K σ' H' ρ' As' Z' → Stp H As Z H' As' Z' → Pin (args.map isMut) (L2.start N vs) σ' → (outsOf fd.np ρ').length = fd.np ∧ Rel K (vs.map some) H' (outsM args (outsOf fd.np ρ')) (asM args As') Z' ∧ Stp H As Z H' (asM args As') Z' := by
    intro σ' H' ρ' As' Z' R' S' P'
    have hr : N.length = ρ'.length := by
      rw [R'.len, P'.1]
      unfold L2.start
      simp
      omega
    refine ⟨by unfold outsOf; rw [List.length_take]; omega, ?_, Stp.asM S'⟩
    unfold outsOf
    rw [← ha]
    exact out_rel hl P' R' (by omega)
  cases e : evS F (args.map isMut) fd.body (args.map some ++ List.replicate (fd.n - fd.np) none) with
  | bad => rw [e] at q; exact q
  | brk r => rw [e] at q; exact q.elim
  | cnt r => rw [e] at q; exact q.elim
  | next r =>
    rw [e] at q
    intro σ' H' ⟨As', Z', R', S', P'⟩
    obtain ⟨k1, k2, k3⟩ := key R' S' P'
    exact q .non H' _ Z' none k1 k2 k3 ⟨rfl, .non⟩ fun _ z => nomatch z
  | ret x r =>
    rw [e] at q
    intro v H' ⟨σ', As', Z', ax, R', S', P', rv, f⟩
    obtain ⟨k1, k2, k3⟩ := key R' S' P'
    exact q v H' _ Z' ax k1 k2 k3 rv fun a ea => ⟨⟨(f a ea).1.1, (f a ea).1.2.1, fun i z => (f a ea).1.2.2 i (asM_sub z)⟩, (f a ea).2⟩
  | exc x r =>
    rw [e] at q
    intro c d σ' H' ⟨As', Z', R', S', P', xx⟩
    obtain ⟨k1, k2, k3⟩ := key R' S' P'
    exact q c d H' _ Z' k1 k2 k3 xx
end
end Q
/-! QG: the caller's side of a call. -/
namespace Q
open PySem L2
section
variable {G : Gs} {σ σ' : St} {H H1 H2 H3 H' : Hp} {As As1 As2 Ac Ac' : AsT} {Z Z1 Z2 Z' : Addr → Prop} {ρ ρ1 ρ2 ρ' : Rho} {K : PySem.W.Frag}
def posS (i : Nat) : List Hd → Option Nat
  | [] => none
  | .s k :: hs => if k = i then some 0 else (posS i hs).map (· + 1)
  | .v _ :: hs => (posS i hs).map (· + 1)
def asL (As : AsT) : List Hd → List (Option Addr) → List (Option Addr)
  | .s i :: hs, _ :: axs => As i :: asL As hs axs
  | .v _ :: hs, a :: axs => a :: asL As hs axs
  | _, _ => []
theorem posS_some {i j : Nat} : ∀ {hs : List Hd}, posS i hs = some j → hs[j]? = some (.s i)
  | [], h => by cases h
  | .s k :: hs, h => by
    unfold posS at h
    by_cases e : k = i
    · rw [if_pos e] at h; cases h; subst e; rfl
    · rw [if_neg e] at h
      cases q : posS i hs with
      | none => rw [q] at h; cases h
      | some m => rw [q] at h; cases h; simpa using posS_some q
  | .v x :: hs, h => by
    unfold posS at h
    cases q : posS i hs with
    | none => rw [q] at h; cases h
    | some m => rw [q] at h; cases h; simpa using posS_some q
theorem posS_none {i : Nat} : ∀ {hs : List Hd}, posS i hs = none → i ∉ slotsOf hs
  | [], _ => by simp [slotsOf]
  | .s k :: hs, h => by
    unfold posS at h
    by_cases e : k = i
    · rw [if_pos e] at h; cases h
    · rw [if_neg e] at h
      have q : posS i hs = none := by
        cases q : posS i hs with
        | none => rfl
        | some m => rw [q] at h; cases h
      simp only [slotsOf, List.mem_cons, not_or]
      exact ⟨fun z => e z.symm, posS_none q⟩
  | .v x :: hs, h => by
    unfold posS at h
    have q : posS i hs = none := by
      cases q : posS i hs with
      | none => rfl
      | some m => rw [q] at h; cases h
    exact posS_none (hs := hs) q
theorem posS_of {i j : Nat} : ∀ {hs : List Hd}, (slotsOf hs).Nodup → hs[j]? = some (.s i) → posS i hs = some j
  | [], _, h => by simp at h
  | .s k :: hs, nd, h => by
    unfold posS
    have nd' : k ∉ slotsOf hs ∧ (slotsOf hs).Nodup := List.nodup_cons.mp nd
    cases j with
    | zero => simp at h; rw [if_pos h]
    | succ j =>
      have h' : hs[j]? = some (.s i) := by simpa using h
      have mem : ∀ {l : List Hd} {j : Nat}, l[j]? = some (.s i) → i ∈ slotsOf l := by
        intro l
        induction l with
        | nil => intro j h; simp at h
        | cons a l ih =>
          intro j h
          cases j with
          | zero => simp at h; subst h; simp [slotsOf]
          | succ j =>
            have := ih (j := j) (by simpa using h)
            cases a with
            | s m => simp [slotsOf, this]
            | v m => exact this
      rw [if_neg (fun e => nd'.1 (by rw [e]; exact mem h')), posS_of nd'.2 h']
      rfl
  | .v x :: hs, nd, h => by
    unfold posS
    cases j with
    | zero => simp at h
    | succ j => rw [posS_of (hs := hs) nd (by simpa using h)]; rfl
theorem HndL.get : ∀ {vs : List V} {hs : List Hd} {axs : List (Option Addr)} {j : Nat} {h : Hd}, HndL K σ H Z As vs hs axs → hs[j]? = some h → ∃ v a, vs[j]? = some v ∧ axs[j]? = some a ∧ Hnd K σ H Z As v h a := by
  intro vs
  induction vs with
  | nil =>
    intro hs axs j h n e
    cases hs with
    | nil => simp at e
    | cons _ _ => cases axs <;> exact n.elim
  | cons v vs ih =>
    intro hs axs j h n e
    cases hs with
    | nil => simp at e
    | cons h0 hs =>
      cases axs with
      | nil => exact n.elim
      | cons a axs =>
        cases j with
        | zero => simp at e; subst e; exact ⟨v, a, rfl, rfl, n.1⟩
        | succ j => simpa using ih (j := j) n.2.1 (by simpa using e)
theorem HndL.len : ∀ {vs : List V} {hs : List Hd} {axs : List (Option Addr)}, HndL K σ H Z As vs hs axs → vs.length = hs.length ∧ axs.length = hs.length
  | [], [], [], _ => ⟨rfl, rfl⟩
  | v :: vs, h :: hs, a :: axs, n => by have := HndL.len n.2.1; simp [this.1, this.2]
def pickA (As : AsT) (a : Option Addr) : Hd → Option Addr
  | .s i => As i
  | .v _ => a
theorem asL_get : ∀ {hs : List Hd} {axs : List (Option Addr)} {j : Nat} {h : Hd} {a : Option Addr}, hs[j]? = some h → axs[j]? = some a → axs.length = hs.length → (asL As hs axs).getD j none = pickA As a h := by
  intro hs
  induction hs with
  | nil => intro axs j h a e _ _; simp at e
  | cons h0 hs ih =>
    intro axs j h a e1 e2 e3
    cases axs with
    | nil => simp at e3
    | cons b axs =>
      cases j with
      | zero =>
        simp at e1 e2
        subst e1 e2
        cases h0 <;> rfl
      | succ j =>
        have := ih (axs := axs) (j := j) (h := h) (a := a) (by simpa using e1) (by simpa using e2) (by simpa using e3)
        cases h0 <;> simpa [asL] using this
theorem asL_len : ∀ {hs : List Hd} {axs : List (Option Addr)}, axs.length = hs.length → (asL As hs axs).length = hs.length := by
  intro hs
  induction hs with
  | nil => intro axs h; cases axs <;> rfl
  | cons h0 hs ih =>
    intro axs h
    cases axs with
    | nil => simp at h
    | cons b axs =>
      have := ih (axs := axs) (by simpa using h)
      cases h0 <;> simp [asL, this]
theorem drs_get : ∀ {hs : List Hd} {xs : List Val} {j : Nat} {h : Hd}, drs ρ hs = some xs → hs[j]? = some h → ∃ x, xs[j]? = some x ∧ dr ρ h = some x
  | [], _, _, _, _, e => by simp at e
  | a :: hs, xs, j, h, e, eh => by
    unfold drs at e
    cases e1 : dr ρ a with
    | none => rw [e1] at e; cases e
    | some x =>
      cases e2 : drs ρ hs with
      | none => rw [e1, e2] at e; cases e
      | some ys =>
        rw [e1, e2] at e
        cases e
        cases j with
        | zero => simp at eh; subst eh; exact ⟨x, rfl, e1⟩
        | succ j => simpa using drs_get (j := j) e2 (by simpa using eh)
theorem drs_len : ∀ {hs : List Hd} {xs : List Val}, drs ρ hs = some xs → xs.length = hs.length
  | [], xs, e => by cases e; rfl
  | a :: hs, xs, e => by
    unfold drs at e
    cases e1 : dr ρ a with
    | none => rw [e1] at e; cases e
    | some x =>
      cases e2 : drs ρ hs with
      | none => rw [e1, e2] at e; cases e
      | some ys =>
        rw [e1, e2] at e
        cases e
        simp [drs_len e2]
theorem asL_mem : ∀ {vs : List V} {hs : List Hd} {axs : List (Option Addr)} {a : Addr}, HndL K σ H Z As vs hs axs → some a ∈ asL As hs axs → (∃ i ∈ slotsOf hs, As i = some a) ∨ (some a ∈ axs ∧ ∀ i, As i ≠ some a)
  | [], [], [], a, _, h => by simp [asL] at h
  | v :: vs, .s i :: hs, b :: axs, a, n, h => by
    simp only [asL, List.mem_cons] at h
    rcases h with h | h
    · exact .inl ⟨i, by simp [slotsOf], h.symm⟩
    · rcases asL_mem n.2.1 h with ⟨i', m, e⟩ | ⟨m, e⟩
      · exact .inl ⟨i', by simp [slotsOf, m], e⟩
      · exact .inr ⟨List.mem_cons_of_mem _ m, e⟩
  | v :: vs, .v x :: hs, b :: axs, a, n, h => by
    simp only [asL, List.mem_cons] at h
    rcases h with h | h
    · exact .inr ⟨by simp [h], (n.1.2 a h.symm).2.2⟩
    · rcases asL_mem n.2.1 h with ⟨i', m, e⟩ | ⟨m, e⟩
      · exact .inl ⟨i', m, e⟩
      · exact .inr ⟨List.mem_cons_of_mem _ m, e⟩
theorem asL_nodup (R : Rel K σ H ρ As Z) : ∀ {vs : List V} {hs : List Hd} {axs : List (Option Addr)}, HndL K σ H Z As vs hs axs → (slotsOf hs).Nodup → ∀ j k a, (asL As hs axs).getD j none = some a → (asL As hs axs).getD k none = some a → j = k
  | [], [], [], _, _, j, k, a, h, _ => by simp [asL] at h
  | v :: vs, h0 :: hs, b :: axs, n, nd, j, k, a, h1, h2 => by
    have nd' : (slotsOf hs).Nodup := by
      cases h0 with
      | s i => exact (List.nodup_cons.mp nd).2
      | v x => exact nd
    have ih := asL_nodup R n.2.1 nd'
    have split : ∃ o, asL As (h0 :: hs) (b :: axs) = o :: asL As hs axs ∧ ∀ a, o = some a → some a ∉ asL As hs axs := by
      cases h0 with
      | s i =>
        refine ⟨As i, rfl, fun a e m => ?_⟩
        rcases asL_mem n.2.1 m with ⟨i', m', e'⟩ | ⟨_, e'⟩
        · have := R.inj i i' a e e'
          subst this
          exact (List.nodup_cons.mp nd).1 m'
        · exact e' i e
      | v x =>
        refine ⟨b, rfl, fun a e m => ?_⟩
        rcases asL_mem n.2.1 m with ⟨i', m', e'⟩ | ⟨m', _⟩
        · exact (n.1.2 a e).2.2 i' e'
        · exact n.2.2 a e m'
    obtain ⟨o, eo, no⟩ := split
    rw [eo] at h1 h2
    have mem : ∀ m, (asL As hs axs).getD m none = some a → some a ∈ asL As hs axs := fun m e => by
      rw [List.getD_eq_getElem?_getD] at e
      cases q : (asL As hs axs)[m]? with
      | none => rw [q] at e; cases e
      | some z => rw [q] at e; cases e; exact List.mem_of_getElem? q
    cases j with
    | zero =>
      cases k with
      | zero => rfl
      | succ k => exact absurd (mem k (by simpa using h2)) (no a (by simpa using h1))
    | succ j =>
      cases k with
      | zero => exact absurd (mem j (by simpa using h1)) (no a (by simpa using h2))
      | succ k => rw [ih j k a (by simpa using h1) (by simpa using h2)]
theorem Hnd.drA (R : Rel K σ H ρ As Z) {v : V} {h : Hd} {ax : Option Addr} {x : Val} (n : Hnd K σ H Z As v h ax) (e : Q.dr ρ h = some x) : VR K H Z v x (pickA As ax h) ∧ ∀ a, pickA As ax h = some a → ¬ Z a ∧ Own (H a) := by
  cases h with
  | v y => cases e; exact ⟨n.1, fun a q => ⟨(n.2 a q).1, (n.2 a q).2.1⟩⟩
  | s i =>
    obtain ⟨w, e1, q⟩ := R.val i x e
    rw [n.2] at e1
    cases e1
    exact ⟨q, fun a q => R.own i a q⟩
abbrev asC (As : AsT) (hs : List Hd) (axs : List (Option Addr)) : AsT := fun j => (asL As hs axs).getD j none
theorem call_rel (R : Rel K σ H ρ As Z) {vs : List V} {hs : List Hd} {axs : List (Option Addr)} {xs : List Val} (n : HndL K σ H Z As vs hs axs) (e : drs ρ hs = some xs) (nd : (slotsOf hs).Nodup) : Rel K (vs.map some) H (xs.map some) (asC As hs axs) Z := by
  obtain ⟨l1, l2⟩ := n.len
  have l3 := drs_len e
  have at_ : ∀ j, j < hs.length → ∃ h v a x, hs[j]? = some h ∧ vs[j]? = some v ∧ axs[j]? = some a ∧ xs[j]? = some x ∧ Hnd K σ H Z As v h a ∧ dr ρ h = some x ∧ asC As hs axs j = pickA As a h := fun j hj => by
    have eh : hs[j]? = some hs[j] := List.getElem?_eq_getElem hj
    obtain ⟨v, a, e1, e2, nn⟩ := n.get eh
    obtain ⟨x, e3, e4⟩ := drs_get e eh
    exact ⟨hs[j], v, a, x, eh, e1, e2, e3, nn, e4, asL_get eh e2 l2⟩
  have big : ∀ j, ¬ j < hs.length → asC As hs axs j = none := fun j hj => by
    show (asL As hs axs).getD j none = none
    rw [List.getD_eq_getElem?_getD, List.getElem?_eq_none (by rw [asL_len l2]; omega)]
    rfl
  refine ⟨by rw [List.length_map, List.length_map, l1, l3], fun j x h => ?_, fun j h => ?_, fun j a h => ?_, fun j k a h1 h2 => asL_nodup R n nd j k a h1 h2, R.zed⟩
  · rw [gt_map] at h
    have hj : j < hs.length := by rw [← l3]; exact (List.getElem?_eq_some_iff.mp h).1
    obtain ⟨h', v, a, x', e1, e2, e3, e4, nn, e5, e6⟩ := at_ j hj
    rw [h] at e4
    cases e4
    refine ⟨v, by rw [List.getElem?_map, e2]; rfl, ?_⟩
    rw [e6]
    exact (nn.drA R e5).1
  · rw [gt_map] at h
    by_cases hj : j < hs.length
    · obtain ⟨h', v, a, x', e1, e2, e3, e4, nn, e5, e6⟩ := at_ j hj
      rw [h] at e4; cases e4
    · exact big j hj
  · by_cases hj : j < hs.length
    · obtain ⟨h', v, b, x', e1, e2, e3, e4, nn, e5, e6⟩ := at_ j hj
      rw [e6] at h
      exact (nn.drA R e5).2 a h
    · rw [big j hj] at h; cases h
theorem putOuts_len : ∀ {hs : List Hd} {xs : List Val} {outs r : Rho}, (putOuts r hs xs outs).length = r.length
  | [], _, _, _ => by simp [putOuts]
  | .s i :: hs, [], _, _ => by simp [putOuts]
  | .v i :: hs, [], _, _ => by simp [putOuts]
  | .s i :: hs, x :: xs, [], _ => by simp [putOuts]
  | .v i :: hs, x :: xs, [], _ => by simp [putOuts]
  | .s i :: hs, x :: xs, o :: os, r => by
    unfold putOuts
    rw [putOuts_len]
    split <;> simp
  | .v i :: hs, x :: xs, o :: os, r => by
    unfold putOuts
    rw [putOuts_len]
theorem gt_putOuts : ∀ {hs : List Hd} {xs : List Val} {outs r : Rho}, xs.length = hs.length → outs.length = hs.length → (slotsOf hs).Nodup → (∀ i ∈ slotsOf hs, i < r.length) → ∀ i, gt (putOuts r hs xs outs) i = match posS i hs with
    | some j => (match xs[j]? with
      | some x => if isMut x then gt outs j else gt r i
      | none => gt r i)
    | none => gt r i
  | [], _, _, r, _, _, _, _, i => by simp [putOuts, posS]
  | h :: hs, [], _, r, l1, _, _, _, i => by simp at l1
  | h :: hs, x :: xs, [], r, _, l2, _, _, i => by simp at l2
  | .v y :: hs, x :: xs, o :: os, r, l1, l2, nd, hi, i => by
    unfold putOuts posS
    rw [gt_putOuts (hs := hs) (by simpa using l1) (by simpa using l2) nd hi i]
    cases posS i hs with
    | none => rfl
    | some j => simp [gt_cons_succ]
  | .s k :: hs, x :: xs, o :: os, r, l1, l2, nd, hi, i => by
    obtain ⟨nk, nd'⟩ := List.nodup_cons.mp nd
    have hk : k < r.length := hi k (by simp [slotsOf])
    have hi' : ∀ j ∈ slotsOf hs, j < (if isMut x = true then r.set k o else r).length := fun j hj => by
      have := hi j (by simp [slotsOf, hj])
      split <;> simpa using this
    unfold putOuts posS
    rw [gt_putOuts (hs := hs) (by simpa using l1) (by simpa using l2) nd' hi' i]
    by_cases e : k = i
    · subst e
      have q : posS k hs = none := by
        cases q : posS k hs with
        | none => rfl
        | some j =>
          have z := posS_some q
          exfalso
          apply nk
          have mem : ∀ {l : List Hd} {j : Nat}, l[j]? = some (.s k) → k ∈ slotsOf l := by
            intro l
            induction l with
            | nil => intro j h; simp at h
            | cons a l ih =>
              intro j h
              cases j with
              | zero => simp at h; subst h; simp [slotsOf]
              | succ j =>
                have := ih (j := j) (by simpa using h)
                cases a with
                | s m => simp [slotsOf, this]
                | v m => exact this
          exact mem z
      rw [q, if_pos rfl]
      dsimp only
      by_cases m : isMut x = true
      · simp [m, gt_cons_zero, gt_set hk]
      · simp [m]
    · rw [if_neg e]
      cases posS i hs with
      | none =>
        dsimp only [Option.map_none]
        by_cases m : isMut x = true
        · rw [if_pos m, gt_set_ne e]
        · rw [if_neg m]
      | some j =>
        simp only [Option.map_some, List.getElem?_cons_succ, gt_cons_succ]
        have s : gt (if isMut x = true then r.set k o else r) i = gt r i := by
          by_cases m : isMut x = true
          · rw [if_pos m, gt_set_ne e]
          · rw [if_neg m]
        rw [s]
def asB (As Ac' : AsT) (hs : List Hd) : AsT := fun i => match posS i hs with
  | some j => Ac' j
  | none => As i
/-- behind the call: the caller's world. Base: (H, As, Z); the arguments at (H2, As2, Z2); the callee's end at (H3, Ac', Z') -/
theorem call_back (R2 : Rel K σ H2 ρ2 As2 Z2) (S2 : Stp H As Z H2 As2 Z2) {vs : List V} {hs : List Hd} {axs : List (Option Addr)} {xs : List Val} {outs : Rho} (n : HndL K σ H2 Z2 As2 vs hs axs) (fr : FrL H As axs) (e : drs ρ2 hs = some xs) (nd : (slotsOf hs).Nodup)
    (lo : outs.length = hs.length) (R3 : Rel K (vs.map some) H3 (outsM xs outs) Ac' Z') (S3 : Stp H2 (asC As2 hs axs) Z2 H3 Ac' Z') :
    Rel K σ H3 (putOuts ρ2 hs xs outs) (asB As2 Ac' hs) Z' ∧ Stp H As Z H3 (asB As2 Ac' hs) Z' ∧
      ∀ a, ((∃ j, asC As2 hs axs j = some a) ∨ H2 a = none) → ((∃ j, As j = some a) ∨ H a = none) ∧ ((∀ j, Ac' j ≠ some a) → ∀ i, asB As2 Ac' hs i ≠ some a) := by
  obtain ⟨l1, l2⟩ := n.len
  have l3 := drs_len e
  have Rc := call_rel R2 n e nd
  have kp := Rc.keep S3
  have memC : ∀ {j a}, asC As2 hs axs j = some a → (∃ i ∈ slotsOf hs, As2 i = some a) ∨ (some a ∈ axs ∧ ∀ i, As2 i ≠ some a) := fun {j a} h => by
    refine asL_mem n ?_
    have h' : (asL As2 hs axs).getD j none = some a := h
    rw [List.getD_eq_getElem?_getD] at h'
    cases q : (asL As2 hs axs)[j]? with
    | none => rw [q] at h'; cases h'
    | some z => rw [q] at h'; cases h'; exact List.mem_of_getElem? q
  -- a slot that was not handed over is apart from what was
  have apart : ∀ {i j a}, posS i hs = none → As2 i = some a → asC As2 hs axs j ≠ some a := fun {i j a} hp hi hj => by
    rcases memC hj with ⟨i', m, e'⟩ | ⟨_, e'⟩
    · have := R2.inj i i' a hi e'
      subst this
      exact posS_none hp m
    · exact e' i hi
  have ltS : ∀ i ∈ slotsOf hs, i < ρ2.length := by
    have mem : ∀ {l : List Hd} {i : Nat}, i ∈ slotsOf l → ∃ j : Nat, l[j]? = some (Hd.s i) := by
      intro l
      induction l with
      | nil => intro i h; simp [slotsOf] at h
      | cons a l ih =>
        intro i h
        cases a with
        | s m =>
          simp only [slotsOf, List.mem_cons] at h
          rcases h with h | h
          · exact ⟨0, by simp [h]⟩
          · obtain ⟨j, q⟩ := ih h
            exact ⟨j + 1, by simpa using q⟩
        | v m =>
          obtain ⟨j, q⟩ := ih (i := i) h
          exact ⟨j + 1, by simpa using q⟩
    intro i hi
    obtain ⟨j, q⟩ := mem hi
    obtain ⟨x, _, e2⟩ := drs_get e q
    exact gt_lt e2
  have gp := gt_putOuts (r := ρ2) l3 lo nd ltS
  have own3 : ∀ {i a}, posS i hs = none → As2 i = some a → H3 a = H2 a := fun {i a} hp hi => by
    have ow := (R2.own i a hi).2
    cases z : H2 a with
    | none => rw [z] at ow; exact ow.elim
    | some o => exact S3.chg a o z fun j => apart hp hi
  have toBase : ∀ a, ((∃ j, asC As2 hs axs j = some a) ∨ H2 a = none) → (∃ j, As j = some a) ∨ H a = none := fun a h => by
    rcases h with ⟨j, q⟩ | q
    · rcases memC q with ⟨i, _, e'⟩ | ⟨m, _⟩
      · exact S2.as i a e'
      · exact fr a m
    · exact .inr (S2.dom a q)
  refine ⟨⟨by rw [putOuts_len]; exact R2.len, fun i x h => ?_, fun i h => ?_, fun i a h => ?_, fun i k a h1 h2 => ?_, R3.zed⟩, ⟨fun b o h nb => ?_, fun b h => S2.dom b (S3.dom b h), fun b h => S3.zz b (S2.zz b h), fun i b h => ?_, fun b h => ?_⟩, fun a h => ⟨toBase a h, fun na i q => ?_⟩⟩
  · rw [gp i] at h
    unfold asB
    cases hp : posS i hs with
    | none =>
      rw [hp] at h
      obtain ⟨v, hv, r⟩ := R2.val i x h
      exact ⟨v, hv, r.keep kp fun a ha => own3 hp ha⟩
    | some j =>
      rw [hp] at h
      dsimp only at h ⊢
      have hh := posS_some hp
      obtain ⟨v, a, e1, e2, nn⟩ := n.get hh
      obtain ⟨y, e3, e4⟩ := drs_get e hh
      rw [e3] at h
      dsimp only at h
      have hv : σ[i]? = some (some v) := nn.2
      by_cases m : isMut y = true
      · rw [if_pos m] at h
        have g : gt (outsM xs outs) j = some x := by
          rw [gt_outsM (by omega), e3]
          dsimp only
          rw [if_pos m]
          exact h
        obtain ⟨w, hw, r⟩ := R3.val j x g
        rw [List.getElem?_map, e1] at hw
        cases hw
        exact ⟨v, hv, r⟩
      · rw [if_neg m] at h
        obtain ⟨w, hw, r⟩ := R2.val i x h
        rw [hv] at hw
        cases hw
        have : x = y := by
          have : gt ρ2 i = some y := e4
          rw [h] at this
          exact Option.some.inj this
        subst this
        have g : gt (outsM xs outs) j = none := by
          rw [gt_outsM (by omega), e3]
          dsimp only
          rw [if_neg m]
        cases x with
        | d z =>
          rw [R3.nul j g]
          exact ⟨v, hv, rfl, r.2.keep kp⟩
        | lst z => exact absurd rfl m
        | dct z => exact absurd rfl m
        | ins c z => exact absurd rfl m
        | scr z t =>
          rw [R3.nul j g]
          exact ⟨v, hv, (VR.scr_keep kp r).2⟩
  · rw [gp i] at h
    unfold asB
    cases hp : posS i hs with
    | none => rw [hp] at h; exact R2.nul i h
    | some j =>
      rw [hp] at h
      dsimp only at h ⊢
      have hh := posS_some hp
      obtain ⟨y, e3, e4⟩ := drs_get e hh
      rw [e3] at h
      dsimp only at h
      refine R3.nul j ?_
      rw [gt_outsM (by omega), e3]
      dsimp only
      by_cases m : isMut y = true
      · rw [if_pos m] at h ⊢; exact h
      · rw [if_neg m]
  · unfold asB at h
    cases hp : posS i hs with
    | some j => rw [hp] at h; exact R3.own j a h
    | none =>
      rw [hp] at h
      have ow := R2.own i a h
      refine ⟨fun z => ?_, by rw [own3 hp h]; exact ow.2⟩
      rcases S3.zn a z with z | ⟨j, z⟩ | z
      · exact ow.1 z
      · exact apart hp h z
      · rw [z] at ow; exact ow.2
  · unfold asB at h1 h2
    have mixed : ∀ {i k j : Nat}, posS i hs = none → As2 i = some a → posS k hs = some j → Ac' j = some a → False := fun {i k j} p1 q1 p2 q2 => by
      rcases S3.as j a q2 with ⟨j', z⟩ | z
      · exact apart p1 q1 z
      · have := (R2.own i a q1).2
        rw [z] at this; exact this
    cases p1 : posS i hs with
    | none =>
      rw [p1] at h1
      cases p2 : posS k hs with
      | none => rw [p2] at h2; exact R2.inj i k a h1 h2
      | some j => rw [p2] at h2; exact (mixed p1 h1 p2 h2).elim
    | some j =>
      rw [p1] at h1
      cases p2 : posS k hs with
      | none => rw [p2] at h2; exact (mixed p2 h2 p1 h1).elim
      | some j' =>
        rw [p2] at h2
        have : j = j' := R3.inj j j' a h1 h2
        subst this
        have z1 := posS_some p1
        have z2 := posS_some p2
        rw [z1] at z2
        cases z2
        rfl
  · refine S3.chg b o (S2.chg b o h nb) fun j q => ?_
    rcases toBase b (.inl ⟨j, q⟩) with ⟨j', z⟩ | z
    · exact nb j' z
    · rw [h] at z; cases z
  · unfold asB at h
    cases hp : posS i hs with
    | none => rw [hp] at h; exact S2.as i b h
    | some j =>
      rw [hp] at h
      rcases S3.as j b h with z | z
      · exact toBase b (.inl z)
      · exact toBase b (.inr z)
  · rcases S3.zn b h with z | z | z
    · exact S2.zn b z
    · exact .inr (toBase b (.inl z))
    · exact .inr (toBase b (.inr z))
  · unfold asB at q
    cases hp : posS i hs with
    | some j => rw [hp] at q; exact na j q
    | none =>
      rw [hp] at q
      rcases h with ⟨j, z⟩ | z
      · exact apart hp q z
      · have := (R2.own i a q).2
        rw [z] at this; exact this

variable {X : Cx} {pos p : Pos} {x : Str} {es : List Expr}
/-- a call: from the promise to the caller -/
theorem call_tE {np : Nat} {F : List Val → CR} {fs : Rho → Out (List Hd)} {Q : VK} (h : tE G (fun r => (fs r).bind fun hs r => callO F hs r) σ H Q) (hnp : ∀ r hs r', fs r = .ok hs r' → hs.length = np) :
    tCallSD (spF G.K G.EX np F) [] (fun σ c d H => G.W c d σ H) (tL G fs) σ H Q := by
  obtain ⟨ρ, As, Z, R, hO⟩ := h
  refine ⟨ρ, As, Z, R, ?_⟩
  dsimp only at hO
  cases ef : fs ρ with
  | bad => rw [ef] at hO; exact hO
  | exc x r => rw [ef] at hO; exact hO
  | ok hs ρ2 =>
    rw [ef] at hO
    intro vs H2 ⟨As2, Z2, R2, S2, axs, n, fr⟩
    dsimp only [Out.bind] at hO
    unfold callO at hO
    have lh := hnp _ _ _ ef
    obtain ⟨l1, l2⟩ := n.len
    cases ed : drs ρ2 hs with
    | none => rw [ed] at hO; exact hO.elim
    | some xs =>
      rw [ed] at hO
      dsimp only at hO
      have l3 := drs_len ed
      by_cases nd : (slotsOf hs).Nodup
      case neg => rw [if_neg nd] at hO; exact hO.elim
      rw [if_pos nd] at hO
      rw [List.append_nil]
      refine ⟨by omega, xs, asC As2 hs axs, Z2, by omega, call_rel R2 n ed nd, ?_⟩
      cases eF : F xs with
      | bad => rw [eF] at hO; exact hO
      | ok x outs =>
        rw [eF] at hO
        intro v H3 Ac' Z' ax lo R3 S3 rv f
        obtain ⟨R4, S4, back⟩ := call_back R2 S2 n fr ed nd (by omega) R3 S3
        refine hO v H3 ⟨_, Z', ax, R4, S4, ⟨rv, fun a ea => ⟨(f a ea).1.1, (f a ea).1.2.1, (back a (f a ea).2).2 (f a ea).1.2.2⟩⟩, fun a ea => (back a (f a ea).2).1⟩
      | exc x outs =>
        rw [eF] at hO
        intro c d H3 Ac' Z' lo R3 S3 xx
        obtain ⟨R4, S4, _⟩ := call_back R2 S2 n fr ed nd (by omega) R3 S3
        exact hO c d H3 ⟨_, Z', R4, S4, xx⟩
end
end Q
/-! QP: the operations by values. -/
namespace Q
open PySem L2
section
variable {K : PySem.W.Frag} {H : Hp} {Z : Addr → Prop} {v : V} {x : Val} {o : Option Addr}
theorem VR.int_v {i : Int} (h : VR K H Z v (.d (.int i)) o) : v = .int i := h.2.int_v
theorem VR.str_v {i : Str} (h : VR K H Z v (.d (.str i)) o) : v = .str i := h.2.str_v
theorem VR.bl_v {i : Bool} (h : VR K H Z v (.d (.bool i)) o) : v = .bl i := h.2.bl_v
theorem VR.lst_of {xs : List D} (h : VR K H Z v x o) (e : lstOf x = some xs) : ∃ a ys, v = .ref a ∧ H a = some (.lst ys) ∧ ImA K H Z ys xs := by
  cases x with
  | lst zs =>
    cases e
    cases o with
    | none => exact h.elim
    | some a => obtain ⟨e, ys, h1, h2⟩ := h; exact ⟨a, ys, e, h1, h2⟩
  | d y =>
    cases y with
    | list zs => cases e; obtain ⟨a, ys, e, h1, _, h2⟩ := h.2.lst_v; exact ⟨a, ys, e, h1, h2⟩
    | _ => cases e
  | _ => cases e
theorem VR.seq_p {xs : List D} (h : VR K H Z v x o) (e : seqOf x = some xs) : ∃ a ys, v = .ref a ∧ (H a = some (.lst ys) ∨ SqP H a ys) ∧ ImA K H Z ys xs := by
  cases x with
  | lst zs =>
    cases e
    cases o with
    | none => exact h.elim
    | some a => obtain ⟨e, ys, h1, h2⟩ := h; exact ⟨a, ys, e, .inl h1, h2⟩
  | d y =>
    cases y with
    | list zs => cases e; obtain ⟨a, ys, e, h1, _, h2⟩ := h.2.lst_v; exact ⟨a, ys, e, .inl h1, h2⟩
    | tuple zs => cases e; obtain ⟨a, ys, e, h1, h2⟩ := h.2.tup_p; exact ⟨a, ys, e, .inr h1, h2⟩
    | _ => cases e
  | _ => cases e
theorem VR.seq_of {xs : List D} (h : VR K H Z v x o) (e : seqOf x = some xs) : ∃ a ys, v = .ref a ∧ (H a = some (.lst ys) ∨ SqT K H a ys) ∧ ImA K H Z ys xs := by
  obtain ⟨a, ys, e, p, i⟩ := h.seq_p e
  exact ⟨a, ys, e, p.imp id SqP.t, i⟩
theorem VR.dct_of {kvs : List (Key × D)} (h : VR K H Z v (.dct kvs) o) : ∃ a ys, v = .ref a ∧ H a = some (.dK ys) ∧ KIm K H Z ys kvs := by
  cases o with
  | none => exact h.elim
  | some a => obtain ⟨e, ys, h1, h2⟩ := h; exact ⟨a, ys, e, h1, h2⟩
theorem VR.dp {t : D} (h : VR K H Z v x o) (e : seen x = some t) : Dp K H v t := by
  cases x with
  | d y => cases e; exact h.2.dp
  | lst zs =>
    cases e
    cases o with
    | none => exact h.elim
    | some a => obtain ⟨e, ys, h1, h2⟩ := h; rw [e]; exact .lst (SqL.of h1) h2.dp
  | scr zs t =>
    cases t with
    | true => cases e
    | false =>
    cases e
    obtain ⟨_, a, ys, e, h1, h2⟩ := h
    rw [e]
    exact .lst h1.sql h2.dp
  | _ => cases e
/-! ### arithmetic -/
def rAddQ (K : PySem.W.Frag) : R2 := fun x y H Q => rI0 (fun i j => .int (i + j)) x y H Q ∨ ((∃ i j, x = .str i ∧ y = .str j ∧ i.length + j.length ≤ sizeLine ∧ Q (.str (i ++ j)) H) ∨ (rCatP K x y H Q ∨ rCat x y H Q))
theorem op_addQ {X : Cx} : OpR X (binaryOp .Add) (rAddQ X.K) := op_add.or (op_add_str.or (op_catP.or op_cat))
theorem cat_snd {v w : V} {x y : Val} {ox oy : Option Addr} {z : Val} {Q : VK} (h1 : VR K H Z v x ox) (h2 : VR K H Z w y oy)
    (e : (match lstOf x, lstOf y with
    | some xs, some ys => if xs.length + ys.length ≤ sizeLine then some (Val.lst (xs ++ ys)) else none
    | _, _ => none) = some z) (k : ∀ u H', New K Z H H' u z → Q u H') : rCat v w H Q := by
  cases e1 : lstOf x with
  | none => rw [e1] at e; cases e
  | some xs =>
    cases e2 : lstOf y with
    | none => rw [e1, e2] at e; cases e
    | some ys =>
      rw [e1, e2] at e
      dsimp only at e
      obtain ⟨a, us, ev, ha, ia⟩ := h1.lst_of e1
      obtain ⟨b, ws, ew, hb, ib⟩ := h2.lst_of e2
      by_cases hz : xs.length + ys.length ≤ sizeLine
      · rw [if_pos hz] at e
        cases e
        exact ⟨a, b, us, ws, ev, ew, ha, hb, by rw [ia.length, ib.length]; exact hz, fun p hp => k _ _ (New.lst hp (ia.append ib))⟩
      · rw [if_neg hz] at e; cases e
theorem snd_add : OpSnd K (rAddQ K) (binV .add) id := by
  intro H Z v w x y ox oy z Q h1 h2 e k
  dsimp only [binV] at e
  unfold addV at e
  split at e
  · cases e; exact .inl ⟨_, _, h1.int_v, h2.int_v, k _ _ (New.d (.int _))⟩
  · split at e
    · cases e; exact .inr (.inl ⟨_, _, h1.str_v, h2.str_v, by assumption, k _ _ (New.d (.str _))⟩)
    · cases e
  · split at e
    · rename_i hz
      cases e
      obtain ⟨a, us, ev, ha, ia⟩ := h1.2.tup_v
      obtain ⟨b, ws, ew, hb, ib⟩ := h2.2.tup_v
      refine .inr (.inr (.inl ⟨a, b, us, ws, ev, ew, ha, hb, by rw [ia.length, ib.length]; exact hz, fun q => ?_, fun q q' => ?_, fun _ _ p ob hp pl => ?_⟩))
      · subst q; cases ia; rw [← ew]; exact k _ _ (New.d h2.2)
      · subst q'; cases ib; rw [List.append_nil] at k; rw [← ev]; exact k _ _ (New.d h1.2)
      · exact k _ _ (New.tup hp pl (ia.append ib))
    · cases e
  · exact .inr (.inr (.inr (cat_snd h1 h2 e k)))
theorem snd_sub : OpSnd K (rI0 fun i j => .int (i - j)) (binV .sub) id := by
  intro H Z v w x y ox oy z Q h1 h2 e k
  dsimp only [binV] at e
  unfold subV at e
  split at e
  · cases e; exact ⟨_, _, h1.int_v, h2.int_v, k _ _ (New.d (.int _))⟩
  · cases e
def rMulQ : R2 := fun x y H Q => rI CMulW (fun i j => .int (i * j)) x y H Q ∨ rRep x y H Q
theorem op_mulQ {X : Cx} : OpR X (binaryOp .Mult) rMulQ := op_mulW.or op_rep
theorem snd_mul : OpSnd K rMulQ (binV .mul) id := by
  intro H Z v w x y ox oy z Q h1 h2 e k
  dsimp only [binV] at e
  unfold mulV at e
  split at e <;> try (cases e; done)
  · split at e
    · cases e; exact .inl ⟨_, _, h1.int_v, h2.int_v, by assumption, k _ _ (New.d (.int _))⟩
    · cases e
  · split at e
    · rename_i xs e1
      split at e
      · rename_i hb
        cases e
        obtain ⟨a, us, ev, ha, ia⟩ := h1.lst_of e1
        exact .inr ⟨a, _, us, ev, h2.int_v, ha, hb.1, hb.2.1, by rw [ia.length]; exact hb.2.2, fun p hp => k _ _ (New.lst hp (ia.rep _))⟩
      · cases e
    · cases e
theorem snd_mod : OpSnd K (rI (fun _ j => 0 < j) fun i j => .int (i % j)) (binV .mod) id := by
  intro H Z v w x y ox oy z Q h1 h2 e k
  dsimp only [binV] at e
  unfold modV at e
  split at e <;> try (cases e; done)
  · split at e
    · cases e; exact ⟨_, _, h1.int_v, h2.int_v, by assumption, k _ _ (New.d (.int _))⟩
    · cases e
theorem snd_fdiv : OpSnd K (rI CDivW fun i j => .int (i / j)) (binV .fdiv) id := by
  intro H Z v w x y ox oy z Q h1 h2 e k
  dsimp only [binV] at e
  unfold fdivV at e
  split at e <;> try (cases e; done)
  · split at e
    · cases e; exact ⟨_, _, h1.int_v, h2.int_v, by assumption, k _ _ (New.d (.int _))⟩
    · cases e
theorem snd_pow : OpSnd K (rI CPow fun i j => .int (i ^ j.toNat)) (binV .pow) id := by
  intro H Z v w x y ox oy z Q h1 h2 e k
  dsimp only [binV] at e
  unfold powV at e
  split at e <;> try (cases e; done)
  · split at e
    · cases e; exact ⟨_, _, h1.int_v, h2.int_v, by assumption, k _ _ (New.d (.int _))⟩
    · cases e
/-! ### comparisons -/
theorem snd_cmpI {f : Int → Int → Bool} {c : COp} (hf : cmpV c = cmpI f) : OpSnd K (rI0 fun i j => .bl (f i j)) (cmpV c) ofB := by
  intro H Z v w x y ox oy z Q h1 h2 e k
  rw [hf] at e
  unfold cmpI at e
  split at e
  · cases e; exact ⟨_, _, h1.int_v, h2.int_v, k _ _ (New.d (.bl _))⟩
  · cases e
def rEqQ (K : PySem.W.Frag) : R2 := fun x y H Q => rEq x y H Q ∨ rEqD K x y H Q
def rNeQ (K : PySem.W.Frag) : R2 := fun x y H Q => rNe x y H Q ∨ rNeD K x y H Q
theorem op_eqQ {X : Cx} (hu : X.A.units + 64 < cLine) : OpR X (compareOp .Eq) (rEqQ X.K) := op_eq.or (op_eqD hu)
theorem op_neQ {X : Cx} (hu : X.A.units + 64 < cLine) : OpR X (compareOp .NotEq) (rNeQ X.K) := op_ne.or (op_neD hu)
theorem seen_flat {x : Val} {d : D} (h : seen x = some d) (f : flatD d = true) : x = .d d := by
  cases x with
  | d y => cases h; rfl
  | lst y => cases h; cases f
  | dct y => cases h
  | ins c y => cases h
  | scr y t =>
    cases t with
    | false => cases h; cases f
    | true => cases h
theorem eq_snd {v w : V} {x y : Val} {ox oy : Option Addr} {b : Bool} (h1 : VR K H Z v x ox) (h2 : VR K H Z w y oy) (e : _root_.Q.eqV x y = some b) (P : Bool → Prop) (k : P b) :
    (scal v w = true ∧ P (decide (v = w))) ∨ (∃ d d', Dp K H v d ∧ Dp K H w d' ∧ SeqAt.shaped d = true ∧ SeqAt.shaped d' = true ∧ P (PyData.eqv d d')) := by
  unfold _root_.Q.eqV at e
  split at e
  · rename_i a b' e1 e2
    unfold eqD at e
    split at e
    · rename_i i j
      cases e
      have hx : x = .d (.int i) := seen_flat e1 rfl
      have hy : y = .d (.int j) := seen_flat e2 rfl
      subst hx hy
      rw [h1.int_v, h2.int_v]
      refine .inl ⟨rfl, ?_⟩
      have : decide (V.int i = V.int j) = decide (i = j) := by by_cases q : i = j <;> simp [q]
      rw [this]; exact k
    · rename_i i j
      cases e
      have hx : x = .d (.str i) := seen_flat e1 rfl
      have hy : y = .d (.str j) := seen_flat e2 rfl
      subst hx hy
      rw [h1.str_v, h2.str_v]
      refine .inl ⟨rfl, ?_⟩
      have : decide (V.str i = V.str j) = decide (i = j) := by by_cases q : i = j <;> simp [q]
      rw [this]; exact k
    · rename_i i j
      cases e
      have hx : x = .d (.bool i) := seen_flat e1 rfl
      have hy : y = .d (.bool j) := seen_flat e2 rfl
      subst hx hy
      rw [h1.bl_v, h2.bl_v]
      refine .inl ⟨rfl, ?_⟩
      have : decide (V.bl i = V.bl j) = decide (i = j) := by by_cases q : i = j <;> simp [q]
      rw [this]; exact k
    · split at e
      · rename_i hs
        cases e
        rw [Bool.and_eq_true] at hs
        exact .inr ⟨_, _, h1.dp e1, h2.dp e2, hs.1, hs.2, k⟩
      · cases e
  · cases e
theorem snd_eq : OpSnd K (rEqQ K) (cmpV .eq) ofB := by
  intro H Z v w x y ox oy z Q h1 h2 e k
  exact eq_snd h1 h2 e (fun b => Q (.bl b) H) (k _ _ (New.d (.bl _)))
theorem snd_ne : OpSnd K (rNeQ K) (cmpV .ne) ofB := by
  intro H Z v w x y ox oy z Q h1 h2 e k
  unfold cmpV at e
  dsimp only at e
  cases e1 : _root_.Q.eqV x y with
  | none => rw [e1] at e; cases e
  | some b =>
    rw [e1] at e
    cases e
    exact eq_snd h1 h2 e1 (fun b => Q (.bl (!b)) H) (k _ _ (New.d (.bl _)))
theorem flat_of {v : V} {d : D} (h : Im K H Z v d) (f : flatD d = true) : flatV v = true := by cases h <;> first | rfl | cases f
theorem eqV_eqv {v w : V} {d e : D} (h : Im K H Z v d) (h' : Im K H Z w e) (f : flatD d = true) (f' : flatD e = true) : L2.eqV v w = PyData.eqv d e := by
  cases h <;> cases h' <;> first | rfl | cases f | cases f'
theorem flats_of : ∀ {vs : List V} {ds : List D}, ImA K H Z vs ds → ds.all flatD = true → vs.all flatV = true
  | _, _, .nil, _ => rfl
  | _, _, .cons h t, f => by
    rw [List.all_cons, Bool.and_eq_true] at f
    rw [List.all_cons, Bool.and_eq_true]
    exact ⟨flat_of h f.1, flats_of t f.2⟩
theorem in_of {v : V} {d : D} (h : Im K H Z v d) (f : flatD d = true) : ∀ {vs : List V} {ds : List D}, ImA K H Z vs ds → ds.all flatD = true → L2.inV v vs = inD d ds
  | _, _, .nil, _ => rfl
  | _, _, .cons h' t, f' => by
    rw [List.all_cons, Bool.and_eq_true] at f'
    have := in_of h f t f'.2
    unfold L2.inV inD at this ⊢
    rw [List.any_cons, List.any_cons, this, eqV_eqv h' h f'.1 f]
/-- x in y -/
def rInQ (K : PySem.W.Frag) (neg : Bool) : R2 := fun x y H Q => rIn K neg x y H Q ∨ (∃ i j, x = .str i ∧ y = .str j ∧ Q (.bl (if neg then !(!(Builtin.Str.occurrences j i 0 j.length 1).isEmpty) else !(Builtin.Str.occurrences j i 0 j.length 1).isEmpty)) H)
theorem op_inQ {X : Cx} : OpR X (compareOp .In) (rInQ X.K false) := by
  intro pins s σ H x y v u Q I rx ry h
  rcases h with h | h
  · exact op_in_seq pins s σ H x y v u Q I rx ry h
  · exact op_in_str pins s σ H x y v u Q I rx ry h
theorem op_ninQ {X : Cx} : OpR X (compareOp .NotIn) (rInQ X.K true) := by
  intro pins s σ H x y v u Q I rx ry h
  rcases h with h | h
  · exact op_notIn_seq pins s σ H x y v u Q I rx ry h
  · exact op_notin_str pins s σ H x y v u Q I rx ry h
theorem in_snd {v w : V} {x y : Val} {ox oy : Option Addr} {b neg : Bool} {Q : VK} (h1 : VR K H Z v x ox) (h2 : VR K H Z w y oy) (e : _root_.Q.inV x y = some b) (nd : ∀ kvs, y ≠ .dct kvs) (k : Q (.bl (if neg then !b else b)) H) : rInQ K neg v w H Q := by
  unfold _root_.Q.inV at e
  split at e
  · cases e; exact .inr ⟨_, _, h1.str_v, h2.str_v, k⟩
  · exact absurd rfl (nd _)
  · split at e
    · rename_i a y _ _ ys e1
      split at e
      · rename_i hf
        rw [Bool.and_eq_true] at hf
        cases e
        obtain ⟨b', us, ew, hq, ia⟩ := h2.seq_of e1
        refine .inl ⟨b', us, ew, ?_, flat_of h1.2 hf.1, flats_of ia hf.2, ?_⟩
        · rcases hq with hq | hq
          · exact .inl (SqL.of hq)
          · exact .inr hq
        · rw [in_of h1.2 hf.1 ia hf.2]; exact k
      · cases e
    · cases e
  · cases e
theorem snd_isn : OpSnd K (fun x y H Q => y = .non ∧ Q (.bl (decide (x = .non))) H) (cmpV .isn) ofB := by
  intro H Z v w x y ox oy z Q h1 h2 e k
  unfold cmpV at e
  dsimp only at e
  split at e
  · rename_i a
    refine ⟨h2.2.non_v, ?_⟩
    cases a with
    | none => cases e; rw [h1.2.non_v]; exact k _ _ (New.d (.bl _))
    | bool b => cases e; rw [h1.bl_v]; exact k _ _ (New.d (.bl _))
    | int b => cases e; rw [h1.int_v]; exact k _ _ (New.d (.bl _))
    | str b => cases e; rw [h1.str_v]; exact k _ _ (New.d (.bl _))
    | list b => cases e; obtain ⟨a, _, ev, _⟩ := h1.2.lst_v; rw [ev]; exact k _ _ (New.d (.bl _))
    | tuple b => cases e; obtain ⟨a, _, ev, _⟩ := h1.2.tup_v; rw [ev]; exact k _ _ (New.d (.bl _))
    | dict b => exact nomatch h1.2
  · cases e
theorem snd_isnn : OpSnd K (fun x y H Q => y = .non ∧ Q (.bl (!decide (x = .non))) H) (cmpV .isnn) ofB := by
  intro H Z v w x y ox oy z Q h1 h2 e k
  unfold cmpV at e
  dsimp only at e
  split at e
  · rename_i a
    refine ⟨h2.2.non_v, ?_⟩
    cases a with
    | none => cases e; rw [h1.2.non_v]; exact k _ _ (New.d (.bl _))
    | bool b => cases e; rw [h1.bl_v]; exact k _ _ (New.d (.bl _))
    | int b => cases e; rw [h1.int_v]; exact k _ _ (New.d (.bl _))
    | str b => cases e; rw [h1.str_v]; exact k _ _ (New.d (.bl _))
    | list b => cases e; obtain ⟨a, _, ev, _⟩ := h1.2.lst_v; rw [ev]; exact k _ _ (New.d (.bl _))
    | tuple b => cases e; obtain ⟨a, _, ev, _⟩ := h1.2.tup_v; rw [ev]; exact k _ _ (New.d (.bl _))
    | dict b => exact nomatch h1.2
  · cases e
/-! ### items, slices -/
theorem ImA.atI {vs : List V} {ds : List D} {i : Int} {d : D} (h : ImA K H Z vs ds) (e : L2.atI ds i = some d) : ∃ v, L2.atI vs i = some v ∧ Im K H Z v d := by
  unfold L2.atI at e ⊢
  rw [h.length]
  cases q : ixN ds.length i with
  | none => rw [q] at e; cases e
  | some j => rw [q] at e; exact h.get e
theorem VR.ix_seq {i : Int} {d : D} {w : V} {oy : Option Addr} {xs : List D} (h1 : VR K H Z v x o) (h2 : VR K H Z w (.d (.int i)) oy) (e1 : seqOf x = some xs) (e : L2.atI xs i = some d) {Q : VK} (k : ∀ u H', New K Z H H' u (.d d) → Q u H') : rIx K v w H Q := by
  obtain ⟨a, ys, ev, hq, ia⟩ := h1.seq_of e1
  obtain ⟨u, eu, iu⟩ := ia.atI e
  rcases hq with hq | hq
  · exact .inl ⟨a, ys, i, u, ev, h2.int_v, SqL.of hq, eu, k _ _ (New.d iu)⟩
  · exact .inr (.inl ⟨a, ys, i, u, ev, h2.int_v, hq, eu, k _ _ (New.d iu)⟩)
def ixSV (x y : Val) : Option D := match x with
  | .dct _ => none
  | x => ixV x y
theorem snd_ix : OpSnd K (rIx K) ixSV .d := by
  intro H Z v w x y ox oy z Q h1 h2 e k
  unfold ixSV at e
  split at e
  · cases e
  · rename_i nd
    unfold ixV at e
    split at e
    · split at e
      · split at e
        · cases e
          exact .inr (.inr ⟨_, _, _, h1.str_v, h2.int_v, by assumption, by assumption, k _ _ (New.d (.str _))⟩)
        · cases e
      · cases e
    · exact absurd rfl (nd _)
    · split at e
      · exact h1.ix_seq h2 (by assumption) e k
      · cases e
    · cases e
theorem sIx_len (n : Nat) {vs : List V} {ds : List D} (h : vs.length = ds.length) (lo hi : Option Int) : cutV vs lo hi = (vs.drop (HT.sIx ds.length 0 lo)).take (HT.sIx ds.length ds.length hi - HT.sIx ds.length 0 lo) := by unfold cutV; rw [h]
theorem ImA.cut {vs : List V} {ds : List D} (h : ImA K H Z vs ds) (lo hi : Option Int) : ImA K H Z (cutV vs lo hi) (cutD ds lo hi) := by
  rw [sIx_len 0 h.length]
  exact (h.drop _).take _
def rSlQ (K : PySem.W.Frag) : V → Option Int → Option Int → Hp → VK → Prop := fun x lo hi H Q => rSlP K x lo hi H Q ∨ rSlL K x lo hi H Q
theorem sl_Q {X : Cx} : SlR X (rSlQ X.K) := sl_tupP.or sl_list
theorem cut_whole {α : Type} (xs : List α) : (xs.drop 0).take (xs.length - 0) = xs := by simp
theorem snd_sl {l h : Option Int} : UnSnd K (fun v H Q => rSlQ K v l h H Q) (slV l h) id := by
  intro H Z v x o z Q h1 e k
  unfold slV at e
  split at e
  · cases e
    obtain ⟨a, ys, ev, hq, ia⟩ := h1.2.tup_v
    refine .inl ⟨a, ys, ev, hq, fun q => ?_, fun _ p ob hp pl => k _ _ (New.tup hp pl (ia.cut l h))⟩
    rename_i xs
    have : cutD xs l h = xs := by
      unfold cutD
      rw [ia.length] at q
      rw [q.1, q.2]
      exact cut_whole xs
    rw [this] at k
    rw [← ev]
    exact k _ _ (New.d h1.2)
  · cases e
    obtain ⟨_, a, ys, ev, hq, ia⟩ := h1
    exact .inr ⟨a, ys, ev, hq.sql, fun p hp => k _ _ (New.lst hp (ia.cut l h))⟩
  · split at e
    · cases e
      obtain ⟨a, ys, ev, hq, ia⟩ := h1.lst_of (by assumption)
      exact .inr ⟨a, ys, ev, SqL.of hq, fun p hp => k _ _ (New.lst hp (ia.cut l h))⟩
    · cases e
end
end Q
/-! QK: the compiled text does what the text does. -/
namespace Q
open PySem L2

structure GOk (G : Gs) (F : FT) (X : Cx) (k : Nat) (x : Str) (g : GV) : Prop where
  fn : ∀ id np, g = .fn id np → ∃ (f : Addr) (fd : FuncData) (ps : List Str), X.mg x = some (.ref f) ∧ PySem.W.keepIn X.K (.ref f) = true ∧ Binds X.K fd ps [] ∧ FnOk X.prog X.w X.K X.mg X.base (L2.CX X.prog X.w) k f fd ps (spF G.K G.EX np (F id))
  cst : ∀ d, g = .cst d → ∃ (u : Value) (v : V), X.mg x = some u ∧ RelV v u ∧ ∀ H Z, Im X.K H Z v d
  bi : g = .bi → X.mg x = none
structure XOk (C : CC) (F : FT) (G : Gs) (X : Cx) : Prop where
  N : X.N = C.N
  nd : X.N.Nodup
  sc : X.env.scope = C.sc
  calm : X.calm = true
  K : X.K = G.K
  tk : Takes X G.W
  fnn : ∀ x, C.st x = true → X.fn x = true ∨ X.env.scope.names.lookup x ≠ some .cell
  gd : C.rp = true → X.A.guards = some []
  gl : ∃ k, Room k X.A ∧ ∀ x g, C.gl x = some g → GOk G F X k x g
section
variable {C : CC} {F : FT} {G : Gs} {X : Cx} {e : Expr} {pos : Pos}
theorem ixOf_some {N : List Str} {x : Str} {i : Nat} (h : ixOf N x = some i) : N[i]? = some x := by
  unfold ixOf at h
  obtain ⟨hi, e, _⟩ := List.findIdx?_eq_some_iff_getElem.mp h
  rw [List.getElem?_eq_getElem hi]
  simpa using e
theorem plainN_of {x : Str} (h : plainN x = true) : (x == ("__debug__" : Str)) = false ∧ (x == ("__classdict__" : Str)) = false ∧ x ≠ "__name__" := by
  unfold plainN at h
  simp only [Bool.and_eq_true, Bool.not_eq_true', decide_eq_false_iff_not] at h
  refine ⟨?_, ?_, h.2⟩
  · simpa using h.1.1
  · simpa using h.1.2
theorem XOk.vis (O : XOk C F G X) {x : Str} {i : Nat} (h : slotOf C x = some i) : X.N[i]? = some x ∧ Vis X.env.scope x ∧ plainN x = true := by
  unfold slotOf at h
  split at h
  · rename_i hp
    rw [O.N]
    unfold Vis
    rw [O.sc]
    split at h <;> first | (exact ⟨ixOf_some h, by simp_all, hp⟩) | (cases h; done)
  · cases h
theorem XOk.loc (O : XOk C F G X) {x : Str} {i : Nat} (h : locOf C x = some i) : X.N[i]? = some x ∧ Loc X.env.scope x ∧ C.st x = true := by
  unfold locOf at h
  rw [O.N]
  unfold L2.Loc
  rw [O.sc]
  split at h
  · rename_i hs
    split at h <;> first | (exact ⟨ixOf_some h, by simp_all, hs⟩) | (cases h; done)
  · cases h
theorem XOk.glob (O : XOk C F G X) {x : Str} {g : GV} (h : globOf C x = some g) : Gl X x ∧ plainN x = true ∧ C.gl x = some g := by
  unfold globOf at h
  split at h
  · rename_i hp
    split at h
    · refine ⟨?_, hp, h⟩
      show X.env.scope.names.lookup x = some .globalImplicit
      rw [O.sc]
      assumption
    · cases h
  · cases h
theorem XOk.biOk (O : XOk C F G X) {x : Str} (h : isBi C x = true) : Gl X x ∧ X.mg x = none ∧ plainN x = true := by
  unfold isBi at h
  split at h
  · rename_i hg
    obtain ⟨h1, h2, h3⟩ := O.glob hg
    obtain ⟨k, _, q⟩ := O.gl
    exact ⟨h1, (q x _ h3).bi rfl, h2⟩
  · cases h
theorem XOk.store (O : XOk C F G X) {x : Str} (h : Loc X.env.scope x) (hs : C.st x = true) : X.fn x = true ∨ X.env.scope.names.lookup x = some .local := by
  rcases h with h | h
  · exact .inr h
  · rcases O.fnn x hs with q | q
    · exact .inl q
    · exact absurd h q
theorem XOk.pg (O : XOk C F G X) {x : Str} {i : Nat} {p : Pos} (h : locOf C x = some i) : PG X (.Name x p) (gName i) := by
  obtain ⟨h1, h2, h3⟩ := O.loc h
  exact pg_name O.nd h1 h2 (O.store h2 h3)
theorem XOk.pv (O : XOk C F G X) {x : Str} {i : Nat} {p : Pos} (h : slotOf C x = some i) : PE X (.Name x p) (tVar i) := by
  obtain ⟨h1, h2, h3⟩ := O.vis h
  obtain ⟨h4, h5, _⟩ := plainN_of h3
  exact pe_var h1 h2 h4 h5
/-- targets -/
theorem assignEach_names : ∀ {ts : List Expr} {xs : List Str} {env : Env}, namesOf ts = some xs → (assignEach ts env).length = xs.length ∧ (assignEach ts env).findIdx? (·.1) = none ∧ ∀ t r, ts = t :: r → (assignEach (t :: r) env).map (·.2) = assign t env :: (assignEach r env).map (·.2)
  | [], xs, env, h => by cases h; exact ⟨rfl, rfl, fun t r e => by cases e⟩
  | t :: r, xs, env, h => by
    cases t with
    | Name x p =>
      unfold namesOf at h
      cases q : namesOf r with
      | none => rw [q] at h; cases h
      | some ys =>
        rw [q] at h
        cases h
        obtain ⟨a, b, _⟩ := assignEach_names (env := env) q
        refine ⟨by simp [assignEach, a], ?_, fun t' r' e => by cases e; rfl⟩
        simp only [assignEach, List.findIdx?_cons, Bool.false_eq_true, if_false]
        rw [b]
        rfl
    | _ => cases h
theorem XOk.pgs (O : XOk C F G X) : ∀ {ts : List Expr} {xs : List Str} {is : List Nat}, namesOf ts = some xs → slotsAll (locOf C) xs = some is → PGs X ts (gSlots is)
  | [], xs, is, h, h2 => by
    cases h
    cases h2
    exact pgs_nil
  | t :: r, xs, is, h, h2 => by
    cases t with
    | Name x p =>
      unfold namesOf at h
      cases q : namesOf r with
      | none => rw [q] at h; cases h
      | some ys =>
        rw [q] at h
        cases h
        unfold slotsAll at h2
        cases q1 : locOf C x with
        | none => rw [q1] at h2; cases h2
        | some i =>
          cases q2 : slotsAll (locOf C) ys with
          | none => rw [q1, q2] at h2; cases h2
          | some js =>
            rw [q1, q2] at h2
            cases h2
            exact pgs_cons (O.pg q1) (O.pgs q q2) (by simp [assignEach])
    | _ => cases h
theorem slotsAll_len {f : Str → Option Nat} : ∀ {xs : List Str} {is : List Nat}, slotsAll f xs = some is → is.length = xs.length
  | [], is, h => by cases h; rfl
  | x :: xs, is, h => by
    unfold slotsAll at h
    cases q1 : f x with
    | none => rw [q1] at h; cases h
    | some i =>
      cases q2 : slotsAll f xs with
      | none => rw [q1, q2] at h; cases h
      | some js => rw [q1, q2] at h; cases h; simp [slotsAll_len q2]
/-- a for's target -/
theorem XOk.tg (O : XOk C F G X) {tg : Expr} {is : List Nat} {one : Bool} {pin : List Bool} (h : tgOf C tg = some (is, one)) : ∃ g, PG X tg g ∧ TgSnd G.K pin is one g := by
  unfold tgOf at h
  split at h
  · rename_i x p
    cases q : locOf C x with
    | none => rw [q] at h; cases h
    | some i => rw [q] at h; cases h; exact ⟨gName i, O.pg q, tg_one⟩
  · rename_i es k p
    cases q : namesOf es with
    | none => rw [q] at h; cases h
    | some xs =>
      rw [q] at h
      dsimp only at h
      cases q2 : slotsAll (locOf C) xs with
      | none => rw [q2] at h; cases h
      | some js =>
        rw [q2] at h
        cases h
        obtain ⟨a, b, _⟩ := assignEach_names (env := X.env) q
        refine ⟨gTup G.K is.length (gSlots is), ?_, tg_many⟩
        rw [← O.K]
        exact pg_tup O.calm (O.pgs q q2) (by rw [a, slotsAll_len q2]) b
  · cases h
/-! the evaluator's rows -/
theorem ev_k {x : D} : evE F (.k x) = fun r => .ok (.v (.d x)) r := by funext r; simp only [evE]
theorem ev_var {i : Nat} : evE F (.var i) = varF i := by funext r; simp only [evE]
theorem ev_tup {es : IE} : evE F (.tup es) = fun r => (evT F es r).bind fun ds r => .ok (.v (.d (.tuple ds))) r := by funext r; simp only [evE]
theorem ev_lst {es : IE} : evE F (.lst es) = fun r => (evT F es r).bind fun ds r => .ok (.v (.lst ds)) r := by funext r; simp only [evE]
theorem ev_bin {o : BOp} {a b : IE} : evE F (.bin o a b) = fun r => (evE F a r).bind fun h r => (evE F b r).bind fun g r => lift2 r h g (binV o) id := by funext r; simp only [evE]
theorem ev_cmp {o : COp} {a b : IE} : evE F (.cmp o a b) = fun r => (evE F a r).bind fun h r => (evE F b r).bind fun g r => lift2 r h g (cmpV o) ofB := by funext r; simp only [evE]
theorem ev_and {a b : IE} : evE F (.and a b) = andF (fun r => tstO (evE F a r)) fun r => tstO (evE F b r) := by funext r; simp only [evE]
theorem ev_or {a b : IE} : evE F (.or a b) = orF (fun r => tstO (evE F a r)) fun r => tstO (evE F b r) := by funext r; simp only [evE]
theorem ev_not {a : IE} : evE F (.not a) = notF fun r => tstO (evE F a r) := by funext r; simp only [evE]
theorem ev_ife {c a b : IE} : evE F (.ife c a b) = fun r => (tstO (evE F c r)).bind fun t r => if t then evE F a r else evE F b r := by funext r; simp only [evE]
theorem ev_ix {a b : IE} : evE F (.ix a b) = fun r => (evE F a r).bind fun h r => (evE F b r).bind fun g r => lift2 r h g ixV .d := by funext r; simp only [evE]
theorem ev_call {f : Nat} {es : IE} : evE F (.call f es) = fun r => (evL F es r).bind fun hs r => callO (F f) hs r := by funext r; simp only [evE]
theorem ev_lc {own tg : List Nat} {one : Bool} {it cs elt : IE} : evE F (.lc own tg one it cs elt) = lcF own tg one (evI F it) (fun r => tstO (evE F cs r)) fun r => treeO (evE F elt r) := by funext r; simp only [evE]
theorem ev_ext {i : Nat} {a : IE} : evE F (.ext i a) = extF i (evE F a) := by funext r; simp only [evE]
theorem ev_mut {m : Mu} {i : Nat} {es : IE} : evE F (.mut m i es) = mutF i (evT F es) (mutL m) := by funext r; simp only [evE]
theorem ev_nilT : evT F .nil = fun r => .ok [] r := by funext r; simp only [evT]
theorem ev_consT {e es : IE} : evT F (.cons e es) = fun r => (treeO (evE F e r)).bind fun t r => (evT F es r).bind fun ts r => .ok (t :: ts) r := by funext r; simp only [evT]
theorem ev_nilL : evL F .nil = fun r => .ok [] r := by funext r; simp only [evL]
theorem ev_consL {e es : IE} : evL F (.cons e es) = fun r => (evE F e r).bind fun t r => (evL F es r).bind fun ts r => .ok (t :: ts) r := by funext r; simp only [evL]
theorem ev_seq {a : IE} : evI F (.seq a) = seqF (evE F a) := by funext r; simp only [evI]
theorem ev_rng1 {a : IE} : evI F (.rng1 a) = rng1F (evE F a) := by funext r; simp only [evI]
theorem ev_rng2 {a b : IE} : evI F (.rng2 a b) = rng2F (evE F a) (evE F b) := by funext r; simp only [evI]
end
end Q
/-! QM: more forms: built-ins by name, slices, chains, dicts, stores by place. -/
namespace Q
open PySem L2
section
variable {G : Gs} {pin : List Bool} {σ : St} {H H1 H2 H3 : Hp} {As As1 As2 : AsT} {Z Z1 Z2 : Addr → Prop} {ρ ρ1 ρ2 : Rho} {X : Cx} {e a b c : Expr} {fa fb fc : Rho → Out Hd} {pos p : Pos} {x : Str} {K : PySem.W.Frag}
/-! ### built-ins of one and of two arguments -/
theorem star1 {es : List Expr} {env : Env} (h : ∀ v p, a ≠ .Starred v p) : starEach (a :: es) env = (false, eval a env) :: starEach es env := by
  cases a <;> first | rfl | exact absurd rfl (h _ _)
theorem nostar0 {env : Env} {pos : Pos} : (backTo pos (starEach ([] : List Expr) env)).any (·.1) = false := rfl
def C1Snd (K : PySem.W.Frag) {α : Type} (r : List V → Hp → VK → Prop) (f : Val → Option α) (g : α → Val) : Prop := UnSnd K (fun v H Q => r [v] H Q) f g
def C2Snd (K : PySem.W.Frag) {α : Type} (r : List V → Hp → VK → Prop) (f : Val → Val → Option α) (g : α → Val) : Prop := OpSnd K (fun v w H Q => r [v, w] H Q) f g
theorem s_f1 {α : Type} {r : List V → Hp → VK → Prop} {f : Val → Option α} {g : α → Val} (h : PE X e (tCB r (tCons (tE G fa) tNil))) (sd : C1Snd G.K r f g) : PE X e (tE G fun ρ => (fa ρ).bind fun h ρ => lift1 ρ h f g) :=
  PE.imp h fun σ H Q h => un_tE sd h
theorem s_f2 {α : Type} {r : List V → Hp → VK → Prop} {f : Val → Val → Option α} {g : α → Val} (h : PE X e (tCB r (tCons (tE G fa) (tCons (tE G fb) tNil)))) (sd : C2Snd G.K r f g) : PE X e (tE G fun ρ => (fa ρ).bind fun h ρ => (fb ρ).bind fun k ρ => lift2 ρ h k f g) :=
  PE.imp h fun σ H Q h => op_tE sd h
theorem backTo_any {es : List Expr} {env : Env} {pos : Pos} (h : ∀ x ∈ es, ∀ v p, x ≠ .Starred v p) : (backTo pos (starEach es env)).any (·.1) = false := by
  have all : ∀ es : List Expr, (∀ x ∈ es, ∀ v p, x ≠ Expr.Starred v p) → ∀ x ∈ starEach es env, x.1 = false := by
    intro es
    induction es with
    | nil => intro _ x hx; cases hx
    | cons t r ih =>
      intro h x hx
      rw [star1 (h t (by simp))] at hx
      rcases List.mem_cons.mp hx with e | hx
      · rw [e]
      · exact ih (fun y hy => h y (List.mem_cons_of_mem _ hy)) x hx
  have q := all es h
  cases es with
  | nil => rfl
  | cons t r =>
    rw [List.any_eq_false]
    intro y hy
    have key : ∀ l : List (Bool × Sem Value), (∀ z ∈ l, z.1 = false) → ∀ z ∈ backTo pos l, z.1 = false := by
      intro l
      induction l with
      | nil => intro _ z hz; cases hz
      | cons w l ih =>
        intro hl z hz
        obtain ⟨b, m⟩ := w
        have hb := hl (b, m) (by simp)
        simp only [backTo, List.map_cons, List.mem_cons] at hz
        rcases hz with hz | hz
        · rw [hz]; exact hb
        · exact ih (fun z' hz' => hl z' (List.mem_cons_of_mem _ hz')) z (by simpa [backTo] using hz)
    simpa using key _ q y hy

/-! ### slices -/
def OutO (G : Gs) (σ : St) (H : Hp) (As : AsT) (Z : Addr → Prop) (o : Out (Option Int)) (Q : Option Int → Hp → Prop) : Prop := match o with
  | .ok b ρ' => ∀ H', SRes G σ H As Z ρ' H' (fun _ _ => True) → Q b H'
  | .exc e ρ' => OutX G σ H As Z e ρ'
  | .bad => False
def tO (G : Gs) (f : Rho → Out Hd) : TO := fun σ H Q => ∃ ρ As Z, Rel G.K σ H ρ As Z ∧ OutO G σ H As Z (bndO (f ρ)) Q
theorem PO.imp {eo : Option Expr} {t t' : TO} (h : PO X eo t) (w : ∀ σ H Q, t' σ H Q → t σ H Q) : PO X eo t' := ⟨fun pins s σ H Q I q => h.run pins s σ H Q I (w σ H Q q)⟩
theorem po_nil : PO X none (tO G fun r => .ok (.v (.d .none)) r) := PO.imp po_none fun σ H Q ⟨ρ, As, Z, R, hO⟩ => hO H ⟨As, Z, R, Stp.refl, trivial⟩
theorem po_int (h : PE X e (tE G fa)) : PO X (some e) (tO G fun r => (fa r).bind fun h r => lift1 r h negV fun i => .d (.int i)) := PO.imp (po_some h) fun σ H Q ⟨ρ, As, Z, R, hO⟩ => by
  refine ⟨ρ, As, Z, R, ?_⟩
  try dsimp only at hO
  cases ea : fa ρ with
  | bad => rw [ea] at hO; exact hO
  | exc x r => rw [ea] at hO; exact hO
  | ok h ρ1 =>
    rw [ea] at hO
    intro v H1 ⟨As1, Z1, ax, R1, S1, n, fr⟩
    dsimp only [Out.bind] at hO
    unfold lift1 at hO
    cases ed : dr ρ1 h with
    | none => rw [ed] at hO; exact hO.elim
    | some y =>
      rw [ed] at hO
      dsimp only at hO
      obtain ⟨o, r, _⟩ := n.dr R1 ed
      cases y with
      | d t =>
        cases t with
        | int i => exact ⟨i, r.int_v, hO H1 ⟨As1, Z1, R1, S1, trivial⟩⟩
        | _ => exact hO.elim
      | _ => exact hO.elim
theorem s_sl {lo hi : Option Expr} {fl fh : Rho → Out Hd} {p2 : Pos} (hK : X.K = G.K) (ha : PE X a (tE G fa)) (hl : PO X lo (tO G fl)) (hh : PO X hi (tO G fh)) : PE X (.Subscript a (.Slice lo hi none p2) pos) (tE G (slF fa fl fh)) :=
  PE.imp (pe_slice sl_Q ha hl hh) fun σ H Q ⟨ρ, As, Z, R, hO⟩ => by
    unfold slF at hO
    rw [hK]
    refine bindE Stp.refl R hO fun h1 ρ1 v H1 As1 Z1 ax R1 S1 _ n1 _ hO1 => ?_
    refine ⟨ρ1, As1, Z1, R1, ?_⟩
    cases e2 : bndO (fl ρ1) with
    | bad => rw [e2] at hO1; exact hO1
    | exc x r => rw [e2] at hO1; exact OutX.trans S1 hO1
    | ok l ρ2 =>
      rw [e2] at hO1
      intro H2 ⟨As2, Z2, R2, S2, _⟩
      refine ⟨ρ2, As2, Z2, R2, ?_⟩
      dsimp only [Out.bind] at hO1
      cases e3 : bndO (fh ρ2) with
      | bad => rw [e3] at hO1; exact hO1
      | exc x r => rw [e3] at hO1; exact OutX.trans (S1.trans S2) hO1
      | ok u ρ3 =>
        rw [e3] at hO1
        intro H3 ⟨As3, Z3, R3, S3, _⟩
        obtain ⟨y, z, d1, ez, q⟩ := lift1_ok hO1
        obtain ⟨ox, r1, _⟩ := ((n1.keep R1 S2).keep R2 S3).dr R3 d1
        exact snd_sl H3 Z3 v y ox z Q r1 ez fun u' H' n => q u' H' ((Res.new R3 n).trans (S1.trans (S2.trans S3)))

/-! ### a < b < c -/
theorem chain_tE {r r' : R2} {f1 f2 : Val → Val → Option Bool} (s1 : OpSnd G.K r f1 ofB) (s2 : OpSnd G.K r' f2 ofB) {Q : VK} (h : tE G (chainF f1 f2 fa fb fc) σ H Q) : tChain r r' (tE G fa) (tE G fb) (tE G fc) σ H Q := by
  obtain ⟨ρ, As, Z, R, hO⟩ := h
  unfold chainF at hO
  refine bindE Stp.refl R hO fun h1 ρ1 v H1 As1 Z1 ax R1 S1 _ n1 _ hO1 => ?_
  refine bindE S1 R1 hO1 fun h2 ρ2 w H2 As2 Z2 ay R2 S12 S2 n2 _ hO2 => ?_
  cases d1 : dr ρ2 h1 with
  | none => rw [d1] at hO2; exact hO2.elim
  | some x =>
    cases d2 : dr ρ2 h2 with
    | none => rw [d1, d2] at hO2; exact hO2.elim
    | some y =>
      rw [d1, d2] at hO2
      dsimp only at hO2
      obtain ⟨ox, r1, _⟩ := (n1.keep R1 S12).dr R2 d1
      obtain ⟨oy, r2, _⟩ := n2.dr R2 d2
      cases e1 : f1 x y with
      | none => rw [e1] at hO2; exact hO2.elim
      | some k =>
        rw [e1] at hO2
        refine s1 H2 Z2 v w x y ox oy k _ r1 r2 e1 fun u H3 n => ?_
        obtain ⟨sm, ax3, rv3, _⟩ := n
        refine ⟨k, by cases k <;> exact rv3.bl_v, ?_⟩
        have R3 := R2.same sm
        have S3 : Stp H As Z H3 As2 Z2 := S2.trans (Stp.same sm)
        cases k with
        | false => exact hO2 _ _ (Res.bl R3 S3)
        | true =>
          rw [if_pos rfl]
          dsimp only at hO2
          refine bindE S3 R3 hO2 fun h3 ρ4 w4 H4 As4 Z4 az R4 S34 S4 n4 _ hO4 => ?_
          obtain ⟨y', z', z, d3, d4, e, q⟩ := lift2_ok hO4
          obtain ⟨oy', r2', _⟩ := ((n2.keep R2 (Stp.same sm)).keep R3 S34).dr R4 d3
          obtain ⟨oz, r4, _⟩ := n4.dr R4 d4
          exact s2 H4 Z4 w w4 y' z' oy' oz z Q r2' r4 e fun u H' n => q u H' ((Res.new R4 n).trans S4)
theorem lastMarks2 {op op' : CmpOp} {b c : Expr} (h : behindInMarks op' c = false) : lastMarks [op, op'] [b, c] = false := by
  unfold lastMarks
  unfold lastMarks
  exact h
theorem s_chain {op op' : CmpOp} {r r' : R2} {f1 f2 : Val → Val → Option Bool} (ho : OpR X (compareOp op) r) (ho' : OpR X (compareOp op') r') (s1 : OpSnd G.K r f1 ofB) (s2 : OpSnd G.K r' f2 ofB) (ha : PE X a (tE G fa)) (hb : PE X b (tE G fb)) (hc : PE X c (tE G fc)) (hm : behindInMarks op' c = false) :
    PE X (.Compare a [op, op'] [b, c] pos) (tE G (chainF f1 f2 fa fb fc)) := PE.imp (pe_chain ho ho' ha hb hc (lastMarks2 hm)) fun σ H Q h => chain_tE s1 s2 h
theorem s_tchain {op op' : CmpOp} {r r' : R2} {f1 f2 : Val → Val → Option Bool} (ho : OpR X (compareOp op) r) (ho' : OpR X (compareOp op') r') (s1 : OpSnd G.K r f1 ofB) (s2 : OpSnd G.K r' f2 ofB) (ha : PE X a (tE G fa)) (hb : PE X b (tE G fb)) (hc : PE X c (tE G fc)) (hm : behindInMarks op' c = false) :
    PT X (.Compare a [op, op'] [b, c] pos) (tT G fun ρ => tstO (chainF f1 f2 fa fb fc ρ)) := PT.imp (pt_chain ho ho' ha hb hc (lastMarks2 hm)) fun σ H Q ⟨ρ, As, Z, R, hO⟩ => chain_tE s1 s2 ⟨ρ, As, Z, R, tst_ok hO⟩

/-! ### one of two ways, by the values -/
theorem or_tE2 {α : Type} (pr : Val → Val → Bool) {f : Val → Val → Option α} {g : α → Val} {Q : VK} (h : tE G (fun ρ => (fa ρ).bind fun h ρ => (fb ρ).bind fun k ρ => lift2 ρ h k f g) σ H Q) :
    tE G (fun ρ => (fa ρ).bind fun h ρ => (fb ρ).bind fun k ρ => lift2 ρ h k (fun x y => if pr x y then f x y else none) g) σ H Q ∨
    tE G (fun ρ => (fa ρ).bind fun h ρ => (fb ρ).bind fun k ρ => lift2 ρ h k (fun x y => if pr x y then none else f x y) g) σ H Q := by
  obtain ⟨ρ, As, Z, R, hO⟩ := h
  dsimp only at hO
  cases ea : fa ρ with
  | bad => rw [ea] at hO; exact hO.elim
  | exc x r => rw [ea] at hO; exact .inl ⟨ρ, As, Z, R, by dsimp only; rw [ea]; exact hO⟩
  | ok h ρ1 =>
    rw [ea] at hO
    dsimp only [Out.bind] at hO
    cases eb : fb ρ1 with
    | bad => rw [eb] at hO; exact hO.elim
    | exc x r => rw [eb] at hO; exact .inl ⟨ρ, As, Z, R, by dsimp only; rw [ea]; dsimp only [Out.bind]; rw [eb]; exact hO⟩
    | ok k ρ2 =>
      rw [eb] at hO
      unfold lift2 at hO
      dsimp only at hO
      cases d1 : dr ρ2 h with
      | none => rw [d1] at hO; exact hO.elim
      | some x =>
        cases d2 : dr ρ2 k with
        | none => rw [d1, d2] at hO; exact hO.elim
        | some y =>
          rw [d1, d2] at hO
          dsimp only at hO
          cases hp : pr x y with
          | true => exact .inl ⟨ρ, As, Z, R, by dsimp only; rw [ea]; dsimp only [Out.bind]; rw [eb]; dsimp only; unfold lift2; rw [d1, d2]; dsimp only; rw [hp, if_pos rfl]; exact hO⟩
          | false => exact .inr ⟨ρ, As, Z, R, by dsimp only; rw [ea]; dsimp only [Out.bind]; rw [eb]; dsimp only; unfold lift2; rw [d1, d2]; dsimp only; rw [hp, if_neg Bool.false_ne_true]; exact hO⟩

/-! ### dicts -/
def isDct : Val → Bool
  | .dct _ => true
  | _ => false
theorem key_v {v : V} {d : D} {k : Key} (h : Im K H Z v d) (e : keyOf d = some k) : v = kV k := by
  unfold keyOf at e
  split at e
  · cases e; exact h.int_v
  · cases e; exact h.str_v
  · cases e
theorem KIm.look {k : Key} : ∀ {ys : List (Key × V)} {kvs : List (Key × D)}, KIm K H Z ys kvs → (lookD kvs k = none ∧ valV ys k = none) ∨ ∃ d v, lookD kvs k = some d ∧ valV ys k = some v ∧ Im K H Z v d
  | [], [], _ => .inl ⟨rfl, rfl⟩
  | p :: ps, q :: qs, .cons h t => by
    by_cases e : p.1 = k
    · refine .inr ⟨q.2, p.2, ?_, valV_pos e, h.2⟩
      have : q.1 = k := by rw [← h.1]; exact e
      simp [lookD, List.find?_cons, this]
    · have e2 : ¬ q.1 = k := by rw [← h.1]; exact e
      have : lookD (q :: qs) k = lookD qs k := by simp [lookD, List.find?_cons, e2]
      rw [this, valV_neg e]
      exact KIm.look t
theorem KIm.any {k : Key} : ∀ {ys : List (Key × V)} {kvs : List (Key × D)}, KIm K H Z ys kvs → (ys.any fun kv => decide (kv.1 = k)) = kvs.any fun kv => decide (kv.1 = k)
  | [], [], _ => rfl
  | p :: ps, q :: qs, .cons h t => by rw [List.any_cons, List.any_cons, h.1, KIm.any t]
theorem KIm.mapPut {k : Key} {v : V} {d : D} (hv : Im K H Z v d) : ∀ {ys : List (Key × V)} {kvs : List (Key × D)}, KIm K H Z ys kvs → KIm K H Z (ys.map fun kv => if kv.1 = k then (kv.1, v) else kv) (kvs.map fun kv => if kv.1 = k then (kv.1, d) else kv)
  | [], [], _ => .nil
  | p :: ps, q :: qs, .cons h t => by
    refine .cons ?_ (KIm.mapPut hv t)
    dsimp only
    by_cases e : p.1 = k
    · rw [if_pos e, if_pos (by rw [← h.1]; exact e)]; exact ⟨h.1, hv⟩
    · rw [if_neg e, if_neg (by rw [← h.1]; exact e)]; exact h
theorem KIm.append {ys ws : List (Key × V)} {kvs zvs : List (Key × D)} (h : KIm K H Z ys kvs) (h' : KIm K H Z ws zvs) : KIm K H Z (ys ++ ws) (kvs ++ zvs) := by
  induction h with
  | nil => exact h'
  | cons a _ ih => exact .cons a ih
theorem KIm.put {k : Key} {v : V} {d : D} {ys : List (Key × V)} {kvs : List (Key × D)} (h : KIm K H Z ys kvs) (hv : Im K H Z v d) : KIm K H Z (putK ys k v) (putD kvs k d) := by
  unfold putK putD
  rw [KIm.any h]
  split
  · exact KIm.mapPut hv h
  · exact KIm.append h (.cons ⟨rfl, hv⟩ .nil)
theorem ix_dct {kvs : List (Key × D)} {y : Val} {z : D} (h : ixV (.dct kvs) y = some z) : ∃ kd ky, y = .d kd ∧ keyOf kd = some ky ∧ lookD kvs ky = some z := by
  cases y with
  | d kd =>
    have e : ixV (.dct kvs) (.d kd) = match keyOf kd with
      | some k => lookD kvs k
      | none => none := by cases kd <;> rfl
    rw [e] at h
    cases ek : keyOf kd with
    | none => rw [ek] at h; cases h
    | some ky => rw [ek] at h; exact ⟨kd, ky, rfl, ek, h⟩
  | _ => cases h
theorem in_dct {kvs : List (Key × D)} {x : Val} {b : Bool} (h : _root_.Q.inV x (.dct kvs) = some b) : ∃ kd ky, x = .d kd ∧ keyOf kd = some ky ∧ b = (lookD kvs ky).isSome := by
  cases x with
  | d kd =>
    have e : _root_.Q.inV (.d kd) (.dct kvs) = match keyOf kd with
      | some k => some (lookD kvs k).isSome
      | none => none := by cases kd <;> rfl
    rw [e] at h
    cases ek : keyOf kd with
    | none => rw [ek] at h; cases h
    | some ky => rw [ek] at h; cases h; exact ⟨kd, ky, rfl, ek, rfl⟩
  | _ => cases h
theorem dget_tE {Q : VK} (h : tE G (fun ρ => (fa ρ).bind fun h ρ => (fb ρ).bind fun k ρ => lift2 ρ h k (fun x y => if isDct x then ixV x y else none) Val.d) σ H Q) : tDGet (tE G fa) (tE G fb) σ H Q := by
  have sd : OpSnd G.K (fun x y H Q => ∃ a v, x = .ref a ∧ DGet H a y (some v) ∧ Q v H) (fun x y => if isDct x then ixV x y else none) Val.d := by
    intro H Z v w x y ox oy z Q h1 h2 e k
    cases x with
    | dct kvs =>
      dsimp only at e
      rw [if_pos (show isDct (.dct kvs) = true from rfl)] at e
      obtain ⟨a, ys, ev, ha, kim⟩ := h1.dct_of
      obtain ⟨kd, ky, ey, ek, el⟩ := ix_dct e
      subst ey
      rcases kim.look (k := ky) with ⟨q, _⟩ | ⟨d, v', q1, q2, im⟩
      · rw [q] at el; cases el
      · rw [q1] at el
        cases el
        refine ⟨a, v', ev, ?_, k _ _ (New.d im)⟩
        rw [key_v h2.2 ek, ← q2]
        exact DGet.k ha
    | d t => cases e
    | lst t => cases e
    | ins c t => cases e
    | scr t => cases e
  exact op_tE sd h
theorem s_ixQ (hK : X.K = G.K) (hu : X.A.units + 1 < cLine) (ha : PE X a (tE G fa)) (hb : PE X b (tE G fb)) (hs : PlainIx b) (hn : NoSl b) : PE X (.Subscript a b pos) (tE G fun ρ => (fa ρ).bind fun h ρ => (fb ρ).bind fun k ρ => lift2 ρ h k ixV .d) :=
  PE.imp (PE.or (pe_dget hu ha hb hn) (pe_ix ix_seq ha hb hs)) fun σ H Q h => by
    rcases or_tE2 (fun x _ => isDct x) h with h | h
    · exact .inl (dget_tE h)
    · refine .inr (op_tE ?_ h)
      rw [hK]
      intro H Z v w x y ox oy z Q h1 h2 e k
      refine snd_ix H Z v w x y ox oy z Q h1 h2 ?_ k
      cases x with
      | dct t => cases e
      | scr xs t => cases t <;> exact e
      | _ => exact e
def isDctR : Val → Val → Bool := fun _ y => isDct y
theorem din_snd {neg : Bool} : OpSnd K (fun y x H Q => ∃ a o, x = .ref a ∧ DGet H a y o ∧ Q (.bl (if neg then !o.isSome else o.isSome)) H) (fun x y => if isDctR x y then (if neg then (_root_.Q.inV x y).map (!·) else _root_.Q.inV x y) else none) ofB := by
  intro H Z v w x y ox oy z Q h1 h2 e k
  cases y with
  | dct kvs =>
    dsimp only at e
    rw [if_pos (show isDctR x (.dct kvs) = true from rfl)] at e
    obtain ⟨a, ys, ev, ha, kim⟩ := h2.dct_of
    have main : ∀ b, _root_.Q.inV x (.dct kvs) = some b → (∀ b', b' = (if neg then !b else b) → Q (.bl b') H) → ∃ a o, w = .ref a ∧ DGet H a v o ∧ Q (.bl (if neg then !o.isSome else o.isSome)) H := by
      intro b eb kk
      obtain ⟨kd, ky, ey, ek, el⟩ := in_dct eb
      subst ey
      refine ⟨a, valV ys ky, ev, ?_, kk _ ?_⟩
      · rw [key_v h1.2 ek]; exact DGet.k ha
      · rw [el]
        rcases kim.look (k := ky) with ⟨q1, q2⟩ | ⟨d, v', q1, q2, im⟩
        · rw [q1, q2]; rfl
        · rw [q1, q2]; rfl
    cases neg with
    | false => exact main z e fun b' eb => by rw [eb]; exact k _ _ (New.d (.bl _))
    | true =>
      rw [if_pos rfl] at e
      cases ei : _root_.Q.inV x (.dct kvs) with
      | none => rw [ei] at e; cases e
      | some b =>
        rw [ei] at e
        cases e
        exact main b ei fun b' eb => by rw [eb]; exact k _ _ (New.d (.bl _))
  | d t => cases e
  | lst t => cases e
  | ins c t => cases e
  | scr t => cases e
theorem in_nd_snd : OpSnd K (rInQ K false) (fun x y => if isDctR x y then none else _root_.Q.inV x y) ofB := by
  intro H Z v w x y ox oy z Q h1 h2 e k
  have nd : ∀ kvs, y ≠ .dct kvs := fun kvs q => by subst q; cases e
  have e' : _root_.Q.inV x y = some z := by
    dsimp only at e
    split at e
    · cases e
    · exact e
  exact in_snd h1 h2 e' nd (k _ _ (New.d (.bl _)))
theorem nin_nd_snd : OpSnd K (rInQ K true) (fun x y => if isDctR x y then none else (_root_.Q.inV x y).map (!·)) ofB := by
  intro H Z v w x y ox oy z Q h1 h2 e k
  have nd : ∀ kvs, y ≠ .dct kvs := fun kvs q => by subst q; cases e
  have e' : (_root_.Q.inV x y).map (!·) = some z := by
    dsimp only at e
    split at e
    · cases e
    · exact e
  cases ei : _root_.Q.inV x y with
  | none => rw [ei] at e'; cases e'
  | some b =>
    rw [ei] at e'
    cases e'
    exact in_snd (neg := true) h1 h2 ei nd (k _ _ (New.d (.bl _)))
theorem PT.or {t t' : TT} (h : PT X e t) (h' : PT X e t') : PT X e (fun σ H R => t σ H R ∨ t' σ H R) := ⟨fun pins s σ H R I q => by
  rcases q with q | q
  · exact h.run pins s σ H R I q
  · exact h'.run pins s σ H R I q⟩
theorem in_tE {Q : VK} (h : tE G (fun ρ => (fa ρ).bind fun h ρ => (fb ρ).bind fun k ρ => lift2 ρ h k (cmpV .inn) ofB) σ H Q) : tDIn (tE G fa) (tE G fb) σ H Q ∨ tOp (rInQ G.K false) (tE G fa) (tE G fb) σ H Q := by
  rcases or_tE2 isDctR h with h | h
  · exact .inl (op_tE (din_snd (neg := false)) h)
  · exact .inr (op_tE in_nd_snd h)
theorem nin_tE {Q : VK} (h : tE G (fun ρ => (fa ρ).bind fun h ρ => (fb ρ).bind fun k ρ => lift2 ρ h k (cmpV .nin) ofB) σ H Q) : tDNotIn (tE G fa) (tE G fb) σ H Q ∨ tOp (rInQ G.K true) (tE G fa) (tE G fb) σ H Q := by
  rcases or_tE2 isDctR h with h | h
  · exact .inl (op_tE (din_snd (neg := true)) h)
  · exact .inr (op_tE nin_nd_snd h)
theorem s_in (hK : X.K = G.K) (hu : X.A.units + 1 < cLine) (ha : PE X a (tE G fa)) (hb : PE X b (tE G fb)) (hm : behindInMarks .In b = false) :
    PE X (.Compare a [.In] [b] pos) (tE G fun ρ => (fa ρ).bind fun h ρ => (fb ρ).bind fun k ρ => lift2 ρ h k (cmpV .inn) ofB) :=
  PE.imp (PE.or (pe_cmp (pc_din hu ha hb) hm) (pe_cmpR op_inQ ha hb hm)) fun σ H Q h => by rw [hK]; exact in_tE h
theorem s_nin (hK : X.K = G.K) (hu : X.A.units + 1 < cLine) (ha : PE X a (tE G fa)) (hb : PE X b (tE G fb)) (hm : behindInMarks .NotIn b = false) :
    PE X (.Compare a [.NotIn] [b] pos) (tE G fun ρ => (fa ρ).bind fun h ρ => (fb ρ).bind fun k ρ => lift2 ρ h k (cmpV .nin) ofB) :=
  PE.imp (PE.or (pe_cmp (pc_dnotin hu ha hb) hm) (pe_cmpR op_ninQ ha hb hm)) fun σ H Q h => by rw [hK]; exact nin_tE h
theorem s_tin (hK : X.K = G.K) (hu : X.A.units + 1 < cLine) (ha : PE X a (tE G fa)) (hb : PE X b (tE G fb)) (hm : behindInMarks .In b = false) :
    PT X (.Compare a [.In] [b] pos) (tT G fun ρ => tstO ((fa ρ).bind fun h ρ => (fb ρ).bind fun k ρ => lift2 ρ h k (cmpV .inn) ofB)) :=
  PT.imp (PT.or (pt_cmp (pc_din hu ha hb) hm) (pt_cmpR op_inQ ha hb hm)) fun σ H Q ⟨ρ, As, Z, R, hO⟩ => by rw [hK]; exact in_tE ⟨ρ, As, Z, R, tst_ok hO⟩
theorem s_tnin (hK : X.K = G.K) (hu : X.A.units + 1 < cLine) (ha : PE X a (tE G fa)) (hb : PE X b (tE G fb)) (hm : behindInMarks .NotIn b = false) :
    PT X (.Compare a [.NotIn] [b] pos) (tT G fun ρ => tstO ((fa ρ).bind fun h ρ => (fb ρ).bind fun k ρ => lift2 ρ h k (cmpV .nin) ofB)) :=
  PT.imp (PT.or (pt_cmp (pc_dnotin hu ha hb) hm) (pt_cmpR op_ninQ ha hb hm)) fun σ H Q ⟨ρ, As, Z, R, hO⟩ => by rw [hK]; exact nin_tE ⟨ρ, As, Z, R, tst_ok hO⟩
end
end Q
set_option maxHeartbeats 1000000
/-! QX: rules over the model that the layer lacked: sorted, min, max, index of tuples, extend by a tuple, t[::-1]. -/
namespace SrtO
open PySem PyProof.Rows Srt
section
variable {prog : Program} {w : World} {A : Around} {E : Value → Shared → Prop} {s : Shared}
theorem collect_tupQ {l : Addr} {vs : List Value} {Q : List Value → Shared → Prop} (hl : IsTup s.heap l vs.toArray)
    (h : Q vs { s with heap := (s.heap.push (seqObj "list" #[] 0)).update s.heap.objs.size (Obj.mapSeq (· ++ vs.toArray)) }) (hsz : vs.length ≤ sizeLine) :
    wpAny (model prog w) A (collect (.ref l)) Q E s := by
  obtain ⟨o, ho, hc, n, hd⟩ := id hl
  unfold collect
  refine wpAny_bind (wpAny_runValue (codeAny_builtin entry_proto_collect' ?_))
  show wpAny _ _ (do again (.builtin "list.__iadd__" ⟨[← newList [], .ref l], []⟩)) _ _ s
  refine wpAny_bind (wpAny_newList (wpAny_pure ⟨Code.quiet_builtin _ (by decide +kernel), codeAny_builtin entry_list_iadd' ?_⟩))
  show wpAny _ _ (Builtin.List.listExtendWith (.ref s.heap.objs.size) (.ref l) (.ref s.heap.objs.size)) _ _ { s with heap := s.heap.push (seqObj "list" #[] 0) }
  unfold Builtin.List.listExtendWith
  have ho' : (s.heap.push (seqObj "list" #[] 0)).get? l = some o := Heap.get?_push_of_some _ ho
  refine wpAny_bind (wpAny_typeOf (T := "tuple") ⟨o, ho', hc⟩ ?_)
  have ht : (Value.type "tuple" == Value.type "tuple") = true := by rfl
  rw [if_pos (by rw [ht]; simp)]
  refine wpAny_bind (listItems_at ho' hd ?_)
  refine wpAny_bind (listItems_at (xs := #[]) (n := 0) (Heap.get?_push_size _ rfl) rfl ?_)
  rw [if_neg (by simp)]
  refine wpAny_bind (listUpdate_at (xs := #[]) (n := 0) (Heap.get?_push_size _ rfl) rfl ?_ (Nat.zero_le _) (by show (#[] ++ vs.toArray).size ≤ sizeLine + 1; simp only [Array.size_append, List.size_toArray, List.length_nil]; omega))
  refine wpAny_pure ?_
  show wpAny (model prog w) A (do
      let o ← load s.heap.objs.size
      match o.data with
      | .seq xs _ => pure xs.toList
      | _ => unsupported "internal:collect") Q E { s with heap := (s.heap.push (seqObj "list" #[] 0)).update s.heap.objs.size (Obj.mapSeq (· ++ vs.toArray)) }
  refine wpAny_bind (wpAny_load (get?_update_seq (Heap.get?_push_size _ rfl) _) ?_)
  show wpAny _ _ (pure ((#[] : Array Value) ++ vs.toArray).toList) Q E _
  rw [show ((#[] : Array Value) ++ vs.toArray).toList = vs by simp]
  exact wpAny_pure h
/-- sorted of a list or tuple, by what collects it -/
theorem sorted_ordQ {l : Addr} {vs : List Value} {ltv : Value → Value → Bool} {Q : Value → Shared → Prop} (O : Swo ltv)
    (hcol : ∀ (A : Around) (E : Value → Shared → Prop) (Q : List Value → Shared → Prop), Q vs { s with heap := (s.heap.push (seqObj "list" #[] 0)).update s.heap.objs.size (Obj.mapSeq (· ++ vs.toArray)) } → wpAny (model prog w) A (collect (.ref l)) Q E s) (hz : vs.length ≤ sizeLine)
    (hS : 2 ≤ vs.length → ∀ (h₁ : Heap) (a : Addr), h₁.get? a = some (seqObj "list" vs.toArray 0) → (∀ b o, s.heap.get? b = some o → b ≠ a ∧ h₁.get? b = some o) → SortableO prog w A.in1.in1 { s with heap := h₁ } a vs ltv)
    (h : ∀ out : List Value, Srtd ltv out → Stb ltv out vs → Q (.ref (s.heap.objs.size + 1)) { s with heap := sortedAll s.heap vs out.toArray }) :
    wpAny (model prog w) A (call (.builtin "sorted") [.ref l]) Q E s := by
  refine Calls.call_function_entry kind_sorted plain_sorted entry_sorted (args_sorted1 _) ?_
  unfold Builtin.«sorted»
  refine wpAny_bind (m := checkCount "sorted" 1 1 _) (wpAny_pure ?_)
  refine wpAny_bind (hcol _ _ _ ?_)
  refine wpAny_bind (wpAny_newList ?_ hz)
  have hsz : ((s.heap.push (seqObj "list" #[] 0)).update s.heap.objs.size (Obj.mapSeq (· ++ vs.toArray))).objs.size = s.heap.objs.size + 1 := by
    rw [Heap.size_update, size_push']
  have hoL : (((s.heap.push (seqObj "list" #[] 0)).update s.heap.objs.size (Obj.mapSeq (· ++ vs.toArray))).push (seqObj "list" vs.toArray 0)).get? (s.heap.objs.size + 1) = some (seqObj "list" vs.toArray 0) := by
    rw [← hsz]; exact Heap.get?_push_size _ rfl
  have keep : ∀ b o, s.heap.get? b = some o → b ≠ s.heap.objs.size + 1 ∧ (((s.heap.push (seqObj "list" #[] 0)).update s.heap.objs.size (Obj.mapSeq (· ++ vs.toArray))).push (seqObj "list" vs.toArray 0)).get? b = some o := fun b o q => by
    have hlt : b < s.heap.objs.size := Heap.lt_size q
    refine ⟨Nat.ne_of_lt (Nat.lt_succ_of_lt hlt), Heap.get?_push_of_some _ ?_⟩
    rw [Heap.get?_update_ne _ _ _ _ (Nat.ne_of_lt hlt)]
    exact Heap.get?_push_of_some _ q
  show wpAny _ _ _ _ _ { s with heap := ((s.heap.push (seqObj "list" #[] 0)).update s.heap.objs.size (Obj.mapSeq (· ++ vs.toArray))).push (seqObj "list" vs.toArray 0) }
  rw [hsz]
  refine wpAny_bind (wpAny_holding (wpAny_call_entry slot_list_sort ⟨_, hoL, rfl⟩ entry_list_sort (list_sort_ord O hoL hz (fun h2 => hS h2 _ _ hoL keep) fun out hs hb => ⟨_, rfl, ?_⟩) (args_list_sort _)))
  exact wpAny_pure ⟨_, rfl, h out hs hb⟩
end
end SrtO

namespace Q
open PySem L2 PyProof.Rows
section
variable {prog : Program} {w : World} {A : Around} {E : Value → Shared → Prop} {s : Shared}
/-! ### extend by a tuple -/
open PySem.AutoSeq1 in
theorem ext_list_tup (l : Addr) (items : Array Value) (n : Nat) (b : Addr) (items2 : Array Value) (n2 : Nat) (dd : Option Addr) (sl : Array (Option Value)) (hs0 : ¬(!items.isEmpty && Builtin.List.listTooLong (items.size + items2.size)) = true) (hs1 : items.size ≤ sizeLine) (hs2 : items.size + items2.size ≤ sizeLine + 1) :
    Meets (Builtin.«list.extend» ⟨[.ref l, .ref b], []⟩) (fun _ R s => s.heap.get? l = some { cls := .type "list", dict := none, data := .seq items n, slots := #[] } ∧ s.heap.get? b = some { cls := .type "tuple", dict := dd, data := .seq items2 n2, slots := sl } ∧ R (.ok (.ret Value.none)) { s with heap := s.heap.update l (Obj.mapSeq fun x => x ++ items2), toks := s.toks }) :=
  .of_wp fun prog w A R s h => by
    obtain ⟨hp, g, d, tk, os⟩ := s; obtain ⟨hl, hb, h⟩ := h; have f1 := idx_int; have f2 := PySem.AutoSeq1.sub_tuple_tuple; have f3 := PySem.AutoSeq1.sub_list_list; have f4 := PySem.AutoSeq1.sub_tuple_list; have f5 := PySem.AutoSeq1.sub_list_tuple;
    have hz' : (items ++ items2).size ≤ sizeLine + 1 := by rw [Array.size_append]; exact hs2
    wp_walk using (wpAny_updateSeq hl rfl (hz := hs1) (_hz' := hz')), wpAny_loadPart' hl, wpAny_loadPart' hb; exact ⟨_, rfl, h⟩
end
def rExtT (K : PySem.W.Frag) : V → List V → Hp → VK → Prop := fun x vs H Q => ∃ l b xs zs, x = .ref l ∧ vs = [.ref b] ∧ H l = some (.lst xs) ∧ SqT K H b zs ∧ xs.length + zs.length ≤ sizeLine ∧ Q .non (upd H l (.lst (xs ++ zs)))
theorem mt_extT {X : Cx} : MtR X "list.extend" (rExtT X.K) := by
  intro pins s σ H x vs v us Q I rx rv h
  obtain ⟨l, b, xs, zs, rfl, rfl, hH, hB, hz, q⟩ := h
  cases rx
  obtain ⟨u, rfl, ru⟩ := rv.one
  cases ru
  obtain ⟨z, its, n, r, hl, e⟩ := I.lstM hH
  obtain ⟨its2, r2, ⟨ob, e2, hc2, n2, hd2⟩, z2⟩ := I.tuple hB
  obtain ⟨oc, dd, od, sl⟩ := ob
  simp only at hc2 hd2
  subst hc2 hd2
  have l2 := r2.length
  have hsz : its.toArray.size + its2.toArray.size ≤ sizeLine := by rw [List.size_toArray, List.size_toArray]; omega
  have hlong : ¬ (!its.toArray.isEmpty && Builtin.List.listTooLong (its.toArray.size + its2.toArray.size)) = true := by
    rw [notLongL hsz, Bool.and_false]
    exact Bool.false_ne_true
  refine call_meets F.slot_list_extend ⟨_, e, rfl⟩ F.entry_list_extend (F.args_list_extend_2 _ _)
    (ext_list_tup l its.toArray n b its2.toArray n2 dd sl hlong (by rw [List.size_toArray]; omega) (by omega)) ⟨e, e2, ?_⟩
  refine ⟨.non, _, I.lset (its' := its ++ its2) hH e (by simp) (r.append r2) ?_, rfl, q⟩
  rw [List.length_append]
  omega
/-! ### sorted of ints: a list or a tuple -/
def rSortQ (K : PySem.W.Frag) : List V → Hp → VK → Prop := fun vs H Q => ∃ (a : Addr) (ns : List Int), vs = [V.ref a] ∧ (SqL K H a (ns.map V.int) ∨ SqT K H a (ns.map V.int)) ∧
  ∀ (ns' : List Int) (p : Addr), ns'.Perm ns → ns'.Pairwise (· ≤ ·) → H p = none → Q (.ref p) (upd H p (.lst (ns'.map V.int)))
theorem cr_sortQ {X : Cx} : CallR X (.builtin "sorted") (rSortQ X.K) := by
  intro pins s σ H vs us Q I r h
  obtain ⟨a, ns, rfl, hs, q⟩ := h
  rw [Vals.ref1 r]
  have main : ∀ its : List Value, Vals (ns.map V.int) its → (ns.map V.int).length ≤ sizeLine → (∀ (A : Around) (E : Value → Shared → Prop) (Q : List Value → Shared → Prop), Q its { s with heap := (s.heap.push (seqObj "list" #[] 0)).update s.heap.objs.size (Obj.mapSeq (· ++ its.toArray)) } → wpAny (model X.prog X.w) A (collect (.ref a)) Q E s) →
      wpAny (model X.prog X.w) X.A (call (.builtin "sorted") [.ref a]) (EP X pins σ Q) X.xe s := by
    intro its rv hz hcol
    have hi := rv.ints
    refine SrtO.sorted_ordQ SrtO.swo_int hcol (by rw [← rv.length]; exact hz) (fun h2 h₁ a' _ _ => SrtO.ints_sortable hi h2) fun out h1 h2 => ?_
    obtain ⟨k1, k2, k3⟩ := SrtO.ints_out hi h1 h2
    obtain ⟨ep, he'⟩ := PyProof.Rows.sortedAll_at s.heap its out.toArray
    have hlen : ((out.map SrtO.iv).map V.int).length ≤ sizeLine := by
      rw [List.length_map, k2.length_eq]
      rw [List.length_map] at hz
      exact hz
    exact ⟨.ref _, upd H (s.heap.objs.size + 1) (.lst ((out.map SrtO.iv).map V.int)), I.laid (t' := s.toks) (fun _ _ => PyProof.Rows.sortedAll_old) (Nat.le_succ _) ⟨hlen, out, ep, vals_of_ints k1, he'⟩, rfl, q _ _ k2 k3 (I.hok.fresh (Nat.le_succ _))⟩
  rcases hs with hs | hs
  · obtain ⟨its, rv, hl, hz⟩ := I.list hs
    exact main its rv hz fun A E Q hq => collect_list hl.isList hq (by rw [← rv.length]; exact hz)
  · obtain ⟨its, rv, hl, hz⟩ := I.tuple hs
    exact main its rv hz fun A E Q hq => SrtO.collect_tupQ hl hq (by rw [← rv.length]; exact hz)
/-! ### min, max of ints of a tuple -/
section
variable {prog : Program} {w : World} {A : Around} {E : Value → Shared → Prop} {s : Shared} {l : Addr} {xs : Array (Int × Tok)}
theorem iter_tupQ {Q : Value → Shared → Prop} (hl : s.heap.IsTuple l (intItems xs))
    (h : ∀ s₂ : Shared, s₂ = { s with heap := s.heap.push { cls := .type "tuple_iterator", data := .fields #[.ref l, .int 0 0] } } →
      (s₂.heap.IsTupleIter s.heap.objs.size l 0 ∧ s₂.heap.IsTuple l (intItems xs)) → (∀ b ∈ [s.heap.objs.size, l], b < s₂.heap.objs.size) → l ≠ s.heap.objs.size → Q (.ref s.heap.objs.size) s₂) :
    wpAny (model prog w) A (pyIter (.ref l)) Q E s := by
  have hlt : l < s.heap.objs.size := by obtain ⟨_, e, _⟩ := hl; exact Heap.lt_size e
  refine wpAny_pyIter_tuple hl (h _ rfl ⟨⟨_, Heap.get?_push_size _ rfl, rfl, rfl⟩, hl.push _⟩ (fun b hb => ?_) (Nat.ne_of_lt hlt))
  show b < (s.heap.push _).objs.size
  rw [Heap.size_push]
  rcases List.mem_cons.mp hb with rfl | hb
  · exact Nat.lt_succ_self _
  · rcases List.mem_cons.mp hb with rfl | hb
    · exact Nat.lt_succ_of_lt hlt
    · cases hb
theorem old_keptT {h' : Heap} (hk : ∀ b o, b ∉ [s.heap.objs.size] → (s.heap.push { cls := .type "tuple_iterator", data := .fields #[.ref l, .int 0 0] }).get? b = some o → h'.get? b = some o) :
    ∀ b o, s.heap.get? b = some o → h'.get? b = some o := fun b o e => by
  refine hk b o (fun hm => ?_) (Heap.get?_push_of_some _ e)
  rcases List.mem_cons.mp hm with e1 | hm
  · exact absurd (e1 ▸ Heap.lt_size e) (Nat.lt_irrefl _)
  · cases hm
theorem min_tupQ {Q : Value → Shared → Prop} (hh : A.handled = none) (hl : s.heap.IsTuple l (intItems xs)) (hne : 0 < xs.size)
    (h : ∀ v h' tk, (intItems xs)[argBest (fun i j => decide (numAt xs i < numAt xs j)) (xs.size - 1)]? = some v → (∀ b o, s.heap.get? b = some o → h'.get? b = some o) → Q v { s with heap := h', toks := tk }) :
    wpAny (model prog w) A (call (.builtin "min") [.ref l]) Q E s := by
  refine call_min_walk (iter_tupQ hl fun s₂ e st hfp hlI => ?_)
  subst e
  refine ⟨_, _, _, _, _, _, _, rfl, Walks.tuple (A := A.in1) hh _ l hlI (intItems xs), st, hfp, by simpa [intItems] using hne, CmpOf.ints_lt (numAt xs) (fun _ _ => intItems_at), fun v h' tk hP hk => ?_⟩
  exact h v h' tk (by simpa [intItems] using hP) (old_keptT hk)
theorem max_tupQ {Q : Value → Shared → Prop} (hh : A.handled = none) (hl : s.heap.IsTuple l (intItems xs)) (hne : 0 < xs.size)
    (h : ∀ v h' tk, (intItems xs)[argBest (fun i j => decide (numAt xs i > numAt xs j)) (xs.size - 1)]? = some v → (∀ b o, s.heap.get? b = some o → h'.get? b = some o) → Q v { s with heap := h', toks := tk }) :
    wpAny (model prog w) A (call (.builtin "max") [.ref l]) Q E s := by
  refine call_max_walk (iter_tupQ hl fun s₂ e st hfp hlI => ?_)
  subst e
  refine ⟨_, _, _, _, _, _, _, rfl, Walks.tuple (A := A.in1) hh _ l hlI (intItems xs), st, hfp, by simpa [intItems] using hne, CmpOf.ints_gt (numAt xs) (fun _ _ => intItems_at), fun v h' tk hP hk => ?_⟩
  exact h v h' tk (by simpa [intItems] using hP) (old_keptT hk)
end
end Q
/-! QN: the built-ins of one thing. -/
namespace Q
open PySem L2 PyProof.Rows
section
variable {K : PySem.W.Frag} {H : Hp} {Z : Addr → Prop} {v : V} {x : Val} {o : Option Addr}
theorem ImA.ints : ∀ {ys : List V} {xs : List D} {ns : List Int}, ImA K H Z ys xs → intsOf xs = some ns → ys = ns.map V.int ∧ xs = ns.map PyData.int
  | _, _, ns, .nil, e => by cases e; exact ⟨rfl, rfl⟩
  | _, _, ns, .cons h t, e => by
    cases h with
    | int i =>
      unfold intsOf at e
      rename_i ys xs
      cases q : intsOf xs with
      | none => rw [q] at e; cases e
      | some is =>
        rw [q] at e
        cases e
        obtain ⟨a, b⟩ := t.ints q
        rw [a, b]
        exact ⟨rfl, rfl⟩
    | _ => cases e
theorem ImA.bls : ∀ {ys : List V} {xs : List D} {ns : List Bool}, ImA K H Z ys xs → blsOf xs = some ns → ys = ns.map V.bl
  | _, _, ns, .nil, e => by cases e; rfl
  | _, _, ns, .cons h t, e => by
    cases h with
    | bl i =>
      unfold blsOf at e
      rename_i ys xs
      cases q : blsOf xs with
      | none => rw [q] at e; cases e
      | some is => rw [q] at e; cases e; rw [t.bls q]; rfl
    | _ => cases e
theorem ImA.ofInts : ∀ ns : List Int, ImA K H Z (ns.map V.int) (ns.map PyData.int)
  | [] => .nil
  | n :: ns => .cons (.int n) (ImA.ofInts ns)
theorem VR.sq {a : Addr} {ys : List V} (h : H a = some (.lst ys) ∨ SqT K H a ys) : SqL K H a ys ∨ SqT K H a ys := h.imp SqL.of id
variable {X : Cx}
theorem f1_int : CallR X (.type "int") (fun xs H Q => (∃ i, xs = [.int i] ∧ Q (.int i) H) ∨ ∃ k, xs = [.bl k] ∧ Q (.int (if k then 1 else 0)) H) ∧ C1Snd X.K (fun xs H Q => (∃ i, xs = [.int i] ∧ Q (.int i) H) ∨ ∃ k, xs = [.bl k] ∧ Q (.int (if k then 1 else 0)) H) (f1V .int) id := by
  refine ⟨call_int1, fun H Z v x ox z Q h e k => ?_⟩
  dsimp only [f1V] at e
  split at e
  · cases e; exact .inl ⟨_, by rw [h.int_v], k _ _ (New.d (.int _))⟩
  · cases e; exact .inr ⟨_, by rw [h.bl_v], k _ _ (New.d (.int _))⟩
  · cases e
theorem f1_str : ∃ r, CallR X (.type "str") r ∧ C1Snd X.K r (f1V .str) id := by
  refine ⟨_, call_str_int, fun H Z v x ox z Q h e k => ?_⟩
  dsimp only [f1V] at e
  split at e
  · split at e
    · cases e; exact ⟨_, by rw [h.int_v], by assumption, k _ _ (New.d (.str _))⟩
    · cases e
  · cases e
theorem call_lenD : CallR X (.builtin "len") (fun xs H Q => ∃ a kvs, xs = [.ref a] ∧ Rd H a (.dK kvs) ∧ Q (.int kvs.length) H) := by
  intro pins s σ H xs us Q I r h
  obtain ⟨a, kvs, rfl, hd, q⟩ := h
  rw [Vals.ref1 r]
  exact d_len I hd fun t s' I' => ⟨.int _, H, I', ⟨_, rfl⟩, q⟩
theorem f1_len : ∃ r, CallR X (.builtin "len") r ∧ C1Snd X.K r (f1V .len) id := by
  refine ⟨_, call_len_seq.or (call_len_str.or call_lenD), fun H Z v x ox z Q h e k => ?_⟩
  dsimp only [f1V] at e
  split at e
  · split at e
    · cases e; exact .inr (.inl ⟨_, by rw [h.str_v], by assumption, k _ _ (New.d (.int _))⟩)
    · cases e
  · cases e
    obtain ⟨a, ys, rfl, hd, kk⟩ := h.dct_of
    exact .inr (.inr ⟨a, ys, rfl, .of hd, k _ _ (by rw [Paired.length kk]; exact New.d (.int _))⟩)
  · split at e
    · cases e
      rename_i xs hs
      obtain ⟨a, ys, rfl, hd, ia⟩ := h.seq_of hs
      exact .inl ⟨a, ys, rfl, VR.sq hd, k _ _ (by rw [ia.length]; exact New.d (.int _))⟩
    · cases e
theorem f1_tuple : ∃ r, CallR X (.type "tuple") r ∧ C1Snd X.K r (f1V .tuple) id := by
  refine ⟨_, call_tupP, fun H Z v x ox z Q h e k => ?_⟩
  dsimp only [f1V] at e
  split at e
  · cases e
    rename_i xs hs
    obtain ⟨a, ys, rfl, hd, ia⟩ := h.seq_p hs
    rcases hd with hd | hd
    · exact ⟨a, ys, rfl, .inl ⟨SqL.of hd, fun l ob hl pl => k _ _ (New.tup hl pl ia)⟩⟩
    · exact ⟨a, ys, rfl, .inr ⟨hd.t, k _ _ (New.d (.tup hd ia))⟩⟩
  · cases e
theorem f1_list : ∃ r, CallR X (.type "list") r ∧ C1Snd X.K r (f1V .list) id := by
  refine ⟨_, call_list_of, fun H Z v x ox z Q h e k => ?_⟩
  dsimp only [f1V] at e
  split at e
  · cases e
    rename_i xs hs
    obtain ⟨a, ys, rfl, hd, ia⟩ := h.seq_of hs
    exact ⟨a, ys, rfl, VR.sq hd, fun l hl => k _ _ (New.lst hl ia)⟩
  · cases e
theorem f1_sum (hc : X.calm = true) : ∃ r, CallR X (.builtin "sum") r ∧ C1Snd X.K r (f1V .sum) id := by
  refine ⟨_, cr_sum hc, fun H Z v x ox z Q h e k => ?_⟩
  dsimp only [f1V] at e
  split at e
  · split at e
    · cases e
      rename_i xs hs _ ns hn
      obtain ⟨a, ys, rfl, hd, ia⟩ := h.lst_of hs
      obtain ⟨rfl, _⟩ := ia.ints hn
      exact ⟨a, ns, rfl, SqL.of hd, k _ _ (New.d (.int _))⟩
    · cases e
  · cases e
theorem f1_all (hc : X.calm = true) : ∃ r, CallR X (.builtin "all") r ∧ C1Snd X.K r (f1V .all) id := by
  refine ⟨_, cr_all hc, fun H Z v x ox z Q h e k => ?_⟩
  dsimp only [f1V] at e
  split at e
  · split at e
    · cases e
      rename_i xs hs _ ns hn
      obtain ⟨a, ys, rfl, hd, ia⟩ := h.lst_of hs
      obtain rfl := ia.bls hn
      exact ⟨a, ns, rfl, SqL.of hd, k _ _ (New.d (.bl _))⟩
    · cases e
  · cases e
theorem f1_any (hc : X.calm = true) : ∃ r, CallR X (.builtin "any") r ∧ C1Snd X.K r (f1V .any) id := by
  refine ⟨_, cr_any hc, fun H Z v x ox z Q h e k => ?_⟩
  dsimp only [f1V] at e
  split at e
  · split at e
    · cases e
      rename_i xs hs _ ns hn
      obtain ⟨a, ys, rfl, hd, ia⟩ := h.lst_of hs
      obtain rfl := ia.bls hn
      exact ⟨a, ns, rfl, SqL.of hd, k _ _ (New.d (.bl _))⟩
    · cases e
  · cases e
/-! sorted, of ints -/
theorem insI_perm (x : Int) : ∀ l : List Int, (insI x l).Perm (x :: l)
  | [] => .refl _
  | y :: r => by
    unfold insI
    split
    · exact .refl _
    · exact ((insI_perm x r).cons y).trans (.swap x y r)
theorem sortI_perm : ∀ l : List Int, (sortI l).Perm l
  | [] => .refl _
  | x :: r => (insI_perm x (sortI r)).trans ((sortI_perm r).cons x)
theorem insI_sorted (x : Int) : ∀ l : List Int, l.Pairwise (· ≤ ·) → (insI x l).Pairwise (· ≤ ·)
  | [], _ => by simp [insI]
  | y :: r, h => by
    unfold insI
    obtain ⟨h1, h2⟩ := List.pairwise_cons.mp h
    split
    · rename_i hxy
      exact List.pairwise_cons.mpr ⟨fun z hz => by rcases List.mem_cons.mp hz with rfl | hz; exact hxy; exact Int.le_trans hxy (h1 z hz), h⟩
    · rename_i hxy
      refine List.pairwise_cons.mpr ⟨fun z hz => ?_, insI_sorted x r h2⟩
      rcases List.mem_cons.mp ((insI_perm x r).mem_iff.mp hz) with rfl | hz
      · omega
      · exact h1 z hz
theorem sortI_sorted : ∀ l : List Int, (sortI l).Pairwise (· ≤ ·)
  | [] => .nil
  | x :: r => insI_sorted x _ (sortI_sorted r)
theorem sorted_unique {a b : List Int} (p : a.Perm b) (ha : a.Pairwise (· ≤ ·)) (hb : b.Pairwise (· ≤ ·)) : a = b :=
  List.Perm.eq_of_pairwise (fun x y _ _ h1 h2 => Int.le_antisymm h1 h2) ha hb p
theorem minL_le : ∀ (l : List Int) (m : Int), (minL m l = m ∨ minL m l ∈ l) ∧ minL m l ≤ m ∧ ∀ x ∈ l, minL m l ≤ x
  | [], m => ⟨.inl rfl, Int.le_refl _, fun x h => by cases h⟩
  | y :: r, m => by
    unfold minL
    obtain ⟨a, b, c⟩ := minL_le r (if y < m then y else m)
    split at a <;> rename_i hy
    · rw [if_pos hy] at b c ⊢
      exact ⟨.inr (by rcases a with a | a; rw [a]; exact List.mem_cons_self ..; exact List.mem_cons_of_mem _ a), by omega, fun x hx => by rcases List.mem_cons.mp hx with rfl | hx; exact b; exact c x hx⟩
    · rw [if_neg hy] at b c ⊢
      exact ⟨by rcases a with a | a; exact .inl a; exact .inr (List.mem_cons_of_mem _ a), b, fun x hx => by rcases List.mem_cons.mp hx with rfl | hx; omega; exact c x hx⟩
theorem maxL_le : ∀ (l : List Int) (m : Int), (maxL m l = m ∨ maxL m l ∈ l) ∧ m ≤ maxL m l ∧ ∀ x ∈ l, x ≤ maxL m l
  | [], m => ⟨.inl rfl, Int.le_refl _, fun x h => by cases h⟩
  | y :: r, m => by
    unfold maxL
    obtain ⟨a, b, c⟩ := maxL_le r (if m < y then y else m)
    split at a <;> rename_i hy
    · rw [if_pos hy] at b c ⊢
      exact ⟨.inr (by rcases a with a | a; rw [a]; exact List.mem_cons_self ..; exact List.mem_cons_of_mem _ a), by omega, fun x hx => by rcases List.mem_cons.mp hx with rfl | hx; exact b; exact c x hx⟩
    · rw [if_neg hy] at b c ⊢
      exact ⟨by rcases a with a | a; exact .inl a; exact .inr (List.mem_cons_of_mem _ a), b, fun x hx => by rcases List.mem_cons.mp hx with rfl | hx; omega; exact c x hx⟩
theorem minL_eq {i : Int} {is : List Int} {m : Int} (h1 : m ∈ i :: is) (h2 : ∀ y ∈ i :: is, m ≤ y) : m = minL i is := by
  obtain ⟨a, b, c⟩ := minL_le is i
  have q1 : m ≤ minL i is := h2 _ (by rcases a with a | a; rw [a]; exact List.mem_cons_self ..; exact List.mem_cons_of_mem _ a)
  have q2 : minL i is ≤ m := by rcases List.mem_cons.mp h1 with rfl | h1; exact b; exact c m h1
  omega
theorem maxL_eq {i : Int} {is : List Int} {m : Int} (h1 : m ∈ i :: is) (h2 : ∀ y ∈ i :: is, y ≤ m) : m = maxL i is := by
  obtain ⟨a, b, c⟩ := maxL_le is i
  have q1 : maxL i is ≤ m := h2 _ (by rcases a with a | a; rw [a]; exact List.mem_cons_self ..; exact List.mem_cons_of_mem _ a)
  have q2 : m ≤ maxL i is := by rcases List.mem_cons.mp h1 with rfl | h1; exact b; exact c m h1
  omega
def rMinT (K : PySem.W.Frag) : List V → Hp → VK → Prop := fun vs H Q => ∃ (a : Addr) (ns : List Int), vs = [V.ref a] ∧ SqT K H a (ns.map V.int) ∧ 0 < ns.length ∧ ∀ m, m ∈ ns → (∀ y, y ∈ ns → m ≤ y) → Q (.int m) H
def rMaxT (K : PySem.W.Frag) : List V → Hp → VK → Prop := fun vs H Q => ∃ (a : Addr) (ns : List Int), vs = [V.ref a] ∧ SqT K H a (ns.map V.int) ∧ 0 < ns.length ∧ ∀ m, m ∈ ns → (∀ y, y ∈ ns → y ≤ m) → Q (.int m) H
section
variable {prog : Program} {w : World} {A : Around} {E : Value → Shared → Prop} {s : Shared} {l : Addr} {its : List Value} {ns : List Int} {Q : Value → Shared → Prop}
theorem max_rawT (hh : A.handled = none) (hl : s.heap.IsTuple l its.toArray) (hi : IntsAre its ns) (hne : 0 < ns.length)
    (h : ∀ h' tk M t', (∀ b o, s.heap.get? b = some o → h'.get? b = some o) → M ∈ ns → (∀ a, a ∈ ns → a ≤ M) → Q (.int M t') { s with heap := h', toks := tk }) : wpAny (model prog w) A (call (.builtin "max") [.ref l]) Q E s := by
  obtain ⟨xs, e⟩ := hi.allInts.items
  have hn : numsOf (intItems xs).toList = ns := by rw [← e]; exact hi.numsOf
  rw [nums_intItems] at hn
  subst hn
  rw [e] at hl
  have hsz : 0 < xs.size := by simpa using hne
  refine max_tupQ hh hl hsz fun v h' tk hv hk => ?_
  obtain ⟨t, rfl⟩ := intItems_at hv
  obtain ⟨h1, h2⟩ := argBest_gt (numAt xs) (xs.size - 1)
  refine h h' tk _ t hk ?_ fun a ha => ?_
  · rw [numAt_eq]; exact PySem.getD_mem (by rw [List.length_map, Array.length_toList]; omega)
  · obtain ⟨j, hj, rfl⟩ := mem_getD ha
    rw [List.length_map, Array.length_toList] at hj
    rw [← numAt_eq]; exact h2 j (by omega)
theorem min_rawT (hh : A.handled = none) (hl : s.heap.IsTuple l its.toArray) (hi : IntsAre its ns) (hne : 0 < ns.length)
    (h : ∀ h' tk M t', (∀ b o, s.heap.get? b = some o → h'.get? b = some o) → M ∈ ns → (∀ a, a ∈ ns → M ≤ a) → Q (.int M t') { s with heap := h', toks := tk }) : wpAny (model prog w) A (call (.builtin "min") [.ref l]) Q E s := by
  obtain ⟨xs, e⟩ := hi.allInts.items
  have hn : numsOf (intItems xs).toList = ns := by rw [← e]; exact hi.numsOf
  rw [nums_intItems] at hn
  subst hn
  rw [e] at hl
  have hsz : 0 < xs.size := by simpa using hne
  refine min_tupQ hh hl hsz fun v h' tk hv hk => ?_
  obtain ⟨t, rfl⟩ := intItems_at hv
  obtain ⟨h1, h2⟩ := argBest_lt (numAt xs) (xs.size - 1)
  refine h h' tk _ t hk ?_ fun a ha => ?_
  · rw [numAt_eq]; exact PySem.getD_mem (by rw [List.length_map, Array.length_toList]; omega)
  · obtain ⟨j, hj, rfl⟩ := mem_getD ha
    rw [List.length_map, Array.length_toList] at hj
    rw [← numAt_eq]; exact h2 j (by omega)
end
theorem cr_maxT (hc : X.calm = true) : CallR X (.builtin "max") (rMaxT X.K) := by
  intro pins s σ H vs us Q I r h
  obtain ⟨a, ns, rfl, hs, hne, q⟩ := h
  obtain ⟨its, rv, hl, _⟩ := I.tuple hs
  rw [Vals.ref1 r]
  exact max_rawT (I.ok.hd hc) hl rv.ints hne fun h' tk m t' hk h1 h2 => ⟨.int _, H, I.kept hk, ⟨_, rfl⟩, q m h1 h2⟩
theorem cr_minT (hc : X.calm = true) : CallR X (.builtin "min") (rMinT X.K) := by
  intro pins s σ H vs us Q I r h
  obtain ⟨a, ns, rfl, hs, hne, q⟩ := h
  obtain ⟨its, rv, hl, _⟩ := I.tuple hs
  rw [Vals.ref1 r]
  exact min_rawT (I.ok.hd hc) hl rv.ints hne fun h' tk m t' hk h1 h2 => ⟨.int _, H, I.kept hk, ⟨_, rfl⟩, q m h1 h2⟩
theorem f1_min (hc : X.calm = true) : ∃ r, CallR X (.builtin "min") r ∧ C1Snd X.K r (f1V .min) id := by
  refine ⟨_, (cr_min hc).or (cr_minT hc), fun H Z v x ox z Q h e k => ?_⟩
  dsimp only [f1V] at e
  split at e
  · split at e
    · cases e
      rename_i xs hs _ i is hn
      obtain ⟨a, ys, rfl, hd, ia⟩ := h.seq_of hs
      obtain ⟨rfl, _⟩ := ia.ints hn
      have fin : ∀ m, m ∈ i :: is → (∀ y, y ∈ i :: is → m ≤ y) → Q (.int m) H := fun m h1 h2 => by
        rw [minL_eq h1 h2]; exact k _ _ (New.d (.int _))
      rcases hd with hd | hd
      · exact .inl ⟨a, _, rfl, SqL.of hd, Nat.succ_pos _, fin⟩
      · exact .inr ⟨a, _, rfl, hd, Nat.succ_pos _, fin⟩
    · cases e
  · cases e
theorem f1_max (hc : X.calm = true) : ∃ r, CallR X (.builtin "max") r ∧ C1Snd X.K r (f1V .max) id := by
  refine ⟨_, (cr_max hc).or (cr_maxT hc), fun H Z v x ox z Q h e k => ?_⟩
  dsimp only [f1V] at e
  split at e
  · split at e
    · cases e
      rename_i xs hs _ i is hn
      obtain ⟨a, ys, rfl, hd, ia⟩ := h.seq_of hs
      obtain ⟨rfl, _⟩ := ia.ints hn
      have fin : ∀ m, m ∈ i :: is → (∀ y, y ∈ i :: is → y ≤ m) → Q (.int m) H := fun m h1 h2 => by
        rw [maxL_eq h1 h2]; exact k _ _ (New.d (.int _))
      rcases hd with hd | hd
      · exact .inl ⟨a, _, rfl, SqL.of hd, Nat.succ_pos _, fin⟩
      · exact .inr ⟨a, _, rfl, hd, Nat.succ_pos _, fin⟩
    · cases e
  · cases e
theorem f2_min (hc : X.calm = true) : ∃ r, CallR X (.builtin "min") r ∧ C2Snd X.K r (f2V .min) Val.d := by
  refine ⟨_, call_min2 hc, fun H Z v w x y ox oy z Q h h' e k => ?_⟩
  unfold f2V at e
  split at e
  · cases e; exact ⟨_, _, by rw [h.int_v, h'.int_v], k _ _ (New.d (.int _))⟩
  · rename_i q; cases q
  · cases e
theorem f2_max (hc : X.calm = true) : ∃ r, CallR X (.builtin "max") r ∧ C2Snd X.K r (f2V .max) Val.d := by
  refine ⟨_, call_max2 hc, fun H Z v w x y ox oy z Q h h' e k => ?_⟩
  unfold f2V at e
  split at e
  · rename_i q; cases q
  · cases e; exact ⟨_, _, by rw [h.int_v, h'.int_v], k _ _ (New.d (.int _))⟩
  · cases e
end
end Q
/-! QR: more forms. -/
namespace Q
open PySem L2 PyProof.Rows
section
variable {G : Gs} {pin : List Bool} {σ : L2.St} {H H1 H2 H3 : Hp} {As As1 As2 : AsT} {Z Z1 Z2 : Addr → Prop} {ρ ρ1 ρ2 : Rho} {X : Cx} {e a b c : Expr} {fa fb fc : Rho → Out Hd} {pos p : Pos} {x : Str} {K : PySem.W.Frag}
theorem s_neg (ha : PE X a (tE G fa)) : PE X (.UnaryOp .USub a pos) (tE G fun ρ => (fa ρ).bind fun h ρ => lift1 ρ h negV fun i => .d (.int (-i))) :=
  s_un ha un_neg fun H Z v x ox z Q h e k => by
    unfold negV at e
    split at e
    · cases e; exact ⟨_, h.int_v, k _ _ (New.d (.int _))⟩
    · cases e
theorem s_dnew : PE X (.Dict [] [] pos) (tE G fun r => .ok (.v (.dct [])) r) :=
  PE.imp pe_dnewK fun σ H Q ⟨ρ, As, Z, R, hO⟩ => fun p hp => hO _ _ (Res.new R (New.dct hp .nil))
theorem mt_of {id : String} {r : V → List V → Hp → VK → Prop} (h : MtM X id r) : MtR X id r := h
/-! the changing methods -/
theorem mu_append : MuSnd K rAppend (mutL .append) := by
  intro H Z a ys vs xs ds z xs' Q ha nz ia iv e k
  cases iv with
  | nil => simp [mutL] at e
  | cons h t =>
    cases t with
    | nil =>
      rename_i v d
      have e : (if xs.length < sizeLine then some (PyData.none, xs ++ [d]) else none) = some (z, xs') := e
      split at e
      · cases e
        rename_i hz
        exact ⟨a, ys, _, rfl, rfl, ha, by rw [ia.length]; exact hz, k _ _ (ia.append (.cons h .nil)) .non⟩
      · cases e
    | cons h2 t2 => simp [mutL] at e
theorem mu_reverse : MuSnd K rReverse (mutL .reverse) := by
  intro H Z a ys vs xs ds z xs' Q ha nz ia iv e k
  cases iv with
  | nil =>
    have e : some (PyData.none, xs.reverse) = some (z, xs') := e
    cases e
    exact ⟨a, ys, rfl, rfl, ha, k _ _ ia.reverse .non⟩
  | cons h t => cases t <;> simp [mutL] at e
theorem mu_pop1 : MuSnd K rPopAt (mutL .pop1) := by
  intro H Z a ys vs xs ds z xs' Q ha nz ia iv e k
  cases iv with
  | nil => simp [mutL] at e
  | cons h t =>
    cases t with
    | cons h2 t2 => cases h <;> simp [mutL] at e
    | nil =>
      cases h with
      | int i =>
        have e : (if -(2 ^ 63) ≤ i ∧ i < 2 ^ 63 then match seqIndex? i xs.length with
          | some k => match xs[k]? with
            | some y => some (y, xs.eraseIdx k)
            | none => none
          | none => none
          else none) = some (z, xs') := e
        split at e
        · rename_i hb
          split at e
          · rename_i kk hk
            split at e
            · rename_i y hy
              cases e
              obtain ⟨v, hv, im⟩ := ia.get hy
              exact ⟨a, ys, _, kk, v, rfl, rfl, ha, hb.1, hb.2, by rw [ia.length]; exact hk, hv, k _ _ (ia.eraseIdx kk) im⟩
            · cases e
          · cases e
        · cases e
      | _ => simp [mutL] at e
def rExtQ (K : PySem.W.Frag) : V → List V → Hp → VK → Prop := fun x vs H Q => rExtend x vs H Q ∨ rExtT K x vs H Q
theorem mt_extQ : MtR X "list.extend" (rExtQ X.K) := by
  intro pins s σ H x xs v us Q I rx rv h
  rcases h with h | h
  · exact mt_extend pins s σ H x xs v us Q I rx rv h
  · exact mt_extT pins s σ H x xs v us Q I rx rv h
theorem ex_ext : ExSnd K (rExtQ K) := by
  intro H Z a ys xs zs w y oy Q ha nz ia rw' es hz k
  obtain ⟨b, ws, rfl, hb, ib⟩ := rw'.seq_of es
  rcases hb with hb | hb
  · exact .inl ⟨a, b, ys, ws, rfl, rfl, ha, hb, by rw [ia.length, ib.length]; exact hz, k _ (ia.append ib)⟩
  · exact .inr ⟨a, b, ys, ws, rfl, rfl, ha, hb, by rw [ia.length, ib.length]; exact hz, k _ (ia.append ib)⟩
/-! a slot's item is put -/
theorem PS.or {st : Stmt} {t t' : TS} (h : PS X st t) (h' : PS X st t') : PS X st (fun D σ H => t D σ H ∨ t' D σ H) := ⟨fun pins s σ H D I q => by
  rcases q with q | q
  · exact h.run pins s σ H D I q
  · exact h'.run pins s σ H D I q⟩
def stixG (i : Nat) (fk : Rho → Out Hd) (t : Q.D) (r : Rho) : SO := match gt r i with
  | some _ => ofOut (fk r) (stixF i t)
  | none => .bad
theorem setV_cases {x k : Val} {v : Q.D} {x' : Val} (h : setV x k v = some x') : (∃ xs i j, x = .lst xs ∧ k = .d (.int i) ∧ ixN xs.length i = some j ∧ x' = .lst (xs.set j v)) ∨
    ∃ kvs kd key, x = .dct kvs ∧ k = .d kd ∧ keyOf kd = some key ∧ kvs.length < sizeLine ∧ x' = .dct (putD kvs key v) := by
  unfold setV at h
  split at h
  · split at h
    · cases h; exact .inl ⟨_, _, _, rfl, rfl, by assumption, rfl⟩
    · cases h
  · split at h
    · split at h
      · cases h; exact .inr ⟨_, _, _, rfl, rfl, by assumption, by assumption, rfl⟩
      · cases h
    · cases h
  · cases h
theorem stix_tS {i : Nat} {fk fv : Rho → Out Hd} {D : Ends} (hK : X.K = G.K) (h : tS G pin (fun r => ofOut (treeO (fv r)) (stixG i fk)) D σ H) :
    sDPut (tVar i) (tE G fk) (tE G fv) D σ H ∨ tAsg (tE G fv) (gSub (tVar i) (tE G fk) rSetL) D σ H := by
  obtain ⟨ρ, As, Z, R, hO⟩ := h
  dsimp only at hO
  have triv : ∀ {T : VK}, (match treeO (fv ρ) with
      | .ok d ρ' => False
      | .exc e ρ' => OutX G σ H As Z e ρ'
      | .bad => False) → tE G fv σ H T := by
    intro T q
    refine ⟨ρ, As, Z, R, tree_ok ?_⟩
    cases ev : treeO (fv ρ) with
    | bad => rw [ev] at q; exact q.elim
    | exc y r => rw [ev] at q; exact q
    | ok t ρ1 => rw [ev] at q; exact q.elim
  cases ev : treeO (fv ρ) with
  | bad => rw [ev] at hO; exact hO.elim
  | exc y r => rw [ev] at hO; exact .inl (triv (by rw [ev]; exact fun c d H' ⟨As', Z', q1, q2, q3⟩ => hO c d σ H' ⟨As', Z', q1, q2, Pin.refl, q3⟩))
  | ok t ρ1 =>
    rw [ev] at hO
    dsimp only [ofOut] at hO
    unfold stixG at hO
    cases eg : gt ρ1 i with
    | none => rw [eg] at hO; exact hO.elim
    | some x0 =>
      rw [eg] at hO
      dsimp only at hO
      have fin : ∀ (P : V → V → V → Hp → (Hp → Prop) → Prop), (∀ v H1 As1 Z1, Rel G.K σ H1 ρ1 As1 Z1 → Stp H As Z H1 As1 Z1 → Im G.K H1 Z1 v t → ∃ w, σ[i]? = some (some w) ∧ tE G fk σ H1 fun y H3 => P w y v H3 fun H4 => D.nx σ H4) →
          tE G fv σ H fun v H1 => ∃ w, σ[i]? = some (some w) ∧ tE G fk σ H1 fun y H3 => P w y v H3 fun H4 => D.nx σ H4 := by
        intro P k
        refine ⟨ρ, As, Z, R, tree_ok ?_⟩
        rw [ev]
        intro v H1 ⟨As1, Z1, R1, S1, im⟩
        exact k v H1 As1 Z1 R1 S1 im
      cases ek : fk ρ1 with
      | bad => rw [ek] at hO; exact hO.elim
      | exc y r =>
        rw [ek] at hO
        refine .inl (fin (fun w y v H3 R => ∃ a H4, w = .ref a ∧ DPut H3 a y v H4 ∧ R H4) fun v H1 As1 Z1 R1 S1 im => ?_)
        obtain ⟨w, hw, _⟩ := R1.val i x0 eg
        refine ⟨w, hw, ρ1, As1, Z1, R1, ?_⟩
        rw [ek]
        exact fun c d H' ⟨As', Z', q1, q2, q3⟩ => hO c d σ H' ⟨As', Z', q1, S1.trans q2, Pin.refl, q3⟩
      | ok h ρ2 =>
        rw [ek] at hO
        dsimp only [ofOut] at hO
        unfold stixF at hO
        cases g2 : gt ρ2 i with
        | none => rw [g2] at hO; exact hO.elim
        | some x2 =>
          cases d2 : dr ρ2 h with
          | none => rw [g2, d2] at hO; exact hO.elim
          | some kv =>
            rw [g2, d2] at hO
            dsimp only at hO
            cases es : setV x2 kv t with
            | none => rw [es] at hO; exact hO.elim
            | some x' =>
              rw [es] at hO
              dsimp only at hO
              rcases setV_cases es with ⟨xs, ii, j, rfl, rfl, hj, rfl⟩ | ⟨kvs, kd, key, rfl, rfl, hk, hz, rfl⟩
              · refine .inr (fin (fun w y v H3 R => rSetL w y v H3 R) fun v H1 As1 Z1 R1 S1 im => ?_)
                obtain ⟨w, hw, _⟩ := R1.val i x0 eg
                refine ⟨w, hw, ρ1, As1, Z1, R1, ?_⟩
                rw [ek]
                intro y H3 ⟨As3, Z3, ax, R3, S3, n, fr⟩
                obtain ⟨a, ys, hA, hv, ha, ia, nz⟩ := R3.lst g2
                obtain rfl := slot_same hw hv
                obtain rfl := int_of R3 n d2
                refine ⟨a, ys, ii, j, rfl, rfl, ha, by rw [ia.length]; exact hj, ?_⟩
                obtain ⟨R4, S4⟩ := R3.putLst g2 hA hv (ia.set j (im.keep (R1.keep S3)))
                exact hO σ _ ⟨As3, Z3, R4, (S1.trans S3).trans S4, Pin.refl⟩
              · refine .inl (fin (fun w y v H3 R => ∃ a H4, w = .ref a ∧ DPut H3 a y v H4 ∧ R H4) fun v H1 As1 Z1 R1 S1 im => ?_)
                obtain ⟨w, hw, _⟩ := R1.val i x0 eg
                refine ⟨w, hw, ρ1, As1, Z1, R1, ?_⟩
                rw [ek]
                intro y H3 ⟨As3, Z3, ax, R3, S3, n, fr⟩
                obtain ⟨w', hv, r⟩ := R3.val i _ g2
                obtain rfl := slot_same hw hv
                cases hA : As3 i with
                | none => rw [hA] at r; exact r.elim
                | some a =>
                  rw [hA] at r
                  obtain ⟨rfl, ys, ha, kk⟩ := r
                  obtain ⟨oy, ry, _⟩ := n.dr R3 d2
                  obtain rfl := key_v ry.2 hk
                  refine ⟨a, _, rfl, DPut.k ha (by rw [Paired.length kk]; exact hz), ?_⟩
                  have kp := R3.keepUpd (o := .dK (putK ys key v)) hA
                  obtain ⟨R4, S4⟩ := R3.put (x' := .dct (putD kvs key t)) (o := .dK (putK ys key v)) g2 hA hv trivial ⟨rfl, _, upd_same, (KIm.put kk (im.keep (R1.keep S3))).keep kp⟩
                  exact hO σ _ ⟨As3, Z3, R4, (S1.trans S3).trans S4, Pin.refl⟩
end
end Q
set_option maxHeartbeats 2000000
/-! QY: tuple(zip(..)) of two tuples. -/
namespace QZ
open PySem RZ
open PySem.Sem (wp)
section
variable {prog : Program} {w : World} {A : Around} {E : Value → Shared → Prop} {s : Shared}
theorem zipT_item_held {z TI TO T i1 i2 l1 l2 : Addr} {f : Bool} {oT : Obj} {k1 k2 : Nat} {xs ys : Array Value} {x y : Value} {Q : Option Value → Shared → Prop} (D : ZipApart z TI TO i1 i2 l1 l2)
    (hz : IsZipHeld s.heap z TI TO T f) (hT : s.heap.get? T = some oT) (hTI : IsPair s.heap TI (.ref i1) (.ref i2))
    (h1 : s.heap.IsTupleIter i1 l1 k1) (h2 : s.heap.IsTupleIter i2 l2 k2) (hl1 : s.heap.IsTuple l1 xs) (hl2 : s.heap.IsTuple l2 ys) (hx : xs[k1]? = some x) (hy : ys[k2]? = some y)
    (hQ : ∀ h', IsZipHeld h' z TI TO T true → h'.IsTupleIter i1 l1 (k1 + 1) → h'.IsTupleIter i2 l2 (k2 + 1) → IsPair h' s.heap.objs.size x y → h'.objs.size = s.heap.objs.size + 1 →
      (∀ c o, c ≠ z → c ≠ i1 → c ≠ i2 → s.heap.get? c = some o → h'.get? c = some o) → Q (some (.ref s.heap.objs.size)) { s with heap := h' }) :
    wpAny (model prog w) A (pyNext (.ref z)) Q E s := by
  have hTy : s.TypeIs (.ref z) "zip" := ⟨_, hz, rfl⟩
  unfold pyNext
  refine wpAny_bind (wpAny_attempt (wpAny_callSpecial?_slot (name := Str.ofString "__next__") hTy F.slot_zip_next
    (wpAny_call_entry F.slot_zip_next hTy F.entry_zip_next ?_ (F.args_zip_next_1 _))))
  show wpAny _ _ (field (.ref z) 2 >>= _) _ _ _
  refine wpAny_bind (wpAny_field hz rfl (x := .bool false) rfl ?_)
  show wpAny _ _ (field (.ref z) 3 >>= _) _ _ _
  refine wpAny_bind (wpAny_field hz rfl (x := .ref TI) rfl ?_)
  refine wpAny_bind (wpAny_seqItems hTI rfl ?_)
  show wpAny _ _ (Builtin.SmallTypes.ownedTupleIsFree (.ref z) >>= _) _ _ _
  refine wpAny_bind (wpAny_tupleHeld_zip hz hT fun h₁ hz₁ hs₁ => ?_)
  simp only [Bool.false_eq_true, if_false]
  refine wpAny_bind ?_
  rw [← Array.forIn_toList]
  simp only [List.forIn_cons, List.forIn_nil]
  refine wpAny_bind (wpAny_bind (wpAny_holding ?_))
  show wpAny _ _ (Builtin.SmallTypes.nextOf (.ref i1) >>= _) _ _ _
  refine wpAny_bind (nextOf_tuple_item (s := { s with heap := h₁ }) (h1.extBut hs₁.extBut D.i1z) (hl1.extBut hs₁.extBut D.l1z) hx fun h₂ h1₂ hs₂ => wpAny_pure ?_)
  refine wpAny_pure ?_
  refine wpAny_bind (wpAny_bind (wpAny_holding ?_))
  show wpAny _ _ (Builtin.SmallTypes.nextOf (.ref i2) >>= _) _ _ _
  refine wpAny_bind (nextOf_tuple_item (s := { s with heap := h₂ }) ((h2.extBut hs₁.extBut D.i2z).extBut hs₂.extBut D.i12.symm) ((hl2.extBut hs₁.extBut D.l2z).extBut hs₂.extBut D.l2i1) hy fun h₃ h2₃ hs₃ => wpAny_pure ?_)
  refine wpAny_pure (wpAny_pure ?_)
  show wpAny _ _ (newTuple [x, y] >>= _) _ _ _
  refine wpAny_bind (wpAny_newTuple ?_)
  have hsz : h₃.objs.size = s.heap.objs.size := by rw [hs₃.1, hs₂.1, hs₁.1]
  have hz₃ : IsZipHeld h₃ z TI TO T true := hs₃.extBut _ _ D.i2z.symm (hs₂.extBut _ _ D.i1z.symm hz₁)
  have hk : ∀ c o, c ≠ z → c ≠ i1 → c ≠ i2 → s.heap.get? c = some o → h₃.get? c = some o := fun c o c1 c2 c3 e => hs₃.extBut _ _ c3 (hs₂.extBut _ _ c2 (hs₁.extBut _ _ c1 e))
  have h1₃ : h₃.IsTupleIter i1 l1 (k1 + 1) := h1₂.extBut hs₃.extBut D.i12
  refine wpAny_pure ⟨_, rfl, wpAny_pure ?_⟩
  show Q (some (.ref h₃.objs.size)) _
  have hp : IsPair (h₃.push { cls := .type "tuple", data := .seq #[x, y] }) h₃.objs.size x y := Heap.get?_push_size _ rfl
  have hz4 : (h₃.push { cls := .type "tuple", data := .seq #[x, y] }).objs.size = h₃.objs.size + 1 := Heap.size_push ..
  rw [hsz] at hp hz4 ⊢
  exact hQ _ (Heap.get?_push_of_some _ hz₃) (h1₃.at fun o e => Heap.get?_push_of_some _ e) (h2₃.at fun o e => Heap.get?_push_of_some _ e) hp hz4 fun c o c1 c2 c3 e => Heap.get?_push_of_some _ (hk c o c1 c2 c3 e)
theorem zipT_end_held {z TI TO T i1 i2 l1 l2 : Addr} {f : Bool} {oT : Obj} {k1 k2 : Nat} {xs ys : Array Value} {Q : Option Value → Shared → Prop} (hh : A.handled = none) (D : ZipApart z TI TO i1 i2 l1 l2)
    (hz : IsZipHeld s.heap z TI TO T f) (hT : s.heap.get? T = some oT) (hTI : IsPair s.heap TI (.ref i1) (.ref i2))
    (h1 : s.heap.IsTupleIter i1 l1 k1) (h2 : s.heap.IsTupleIter i2 l2 k2) (hl1 : s.heap.IsTuple l1 xs) (hl2 : s.heap.IsTuple l2 ys) (hend : xs[k1]? = none ∨ ys[k2]? = none)
    (hQ : ∀ h', (∀ c o, c ≠ z → c ≠ i1 → c ≠ i2 → s.heap.get? c = some o → h'.get? c = some o) → Q none { s with heap := h' }) :
    wpAny (model prog w) A (pyNext (.ref z)) Q E s := by
  have hTy : s.TypeIs (.ref z) "zip" := ⟨_, hz, rfl⟩
  have fin : ∀ h' e, (∀ c o, c ≠ z → c ≠ i1 → c ≠ i2 → s.heap.get? c = some o → h'.get? c = some o) → (∃ o, h'.get? e = some o ∧ o.cls = .type "StopIteration") →
      wpAny (model prog w) A (do
        if ← isInstance (.ref e) (.type "StopIteration") then pure none else throw (.ref e)) Q E { s with heap := h' } := fun h' e hk he => by
    obtain ⟨o, ho, hc⟩ := he
    refine wpAny_bind (wpAny_isInstance (T := "StopIteration") (b := true) ⟨o, ho, hc⟩ isSubtype_stop ?_)
    exact wpAny_pure (hQ _ hk)
  unfold pyNext
  refine wpAny_bind (wpAny_attempt (wpAny_callSpecial?_slot (name := Str.ofString "__next__") hTy F.slot_zip_next
    (wpAny_call_entry F.slot_zip_next hTy F.entry_zip_next ?_ (F.args_zip_next_1 _))))
  show wpAny _ _ (field (.ref z) 2 >>= _) _ _ _
  refine wpAny_bind (wpAny_field hz rfl (x := .bool false) rfl ?_)
  show wpAny _ _ (field (.ref z) 3 >>= _) _ _ _
  refine wpAny_bind (wpAny_field hz rfl (x := .ref TI) rfl ?_)
  refine wpAny_bind (wpAny_seqItems hTI rfl ?_)
  show wpAny _ _ (Builtin.SmallTypes.ownedTupleIsFree (.ref z) >>= _) _ _ _
  refine wpAny_bind (wpAny_tupleHeld_zip hz hT fun h₁ hz₁ hs₁ => ?_)
  simp only [Bool.false_eq_true, if_false]
  refine wpAny_bind ?_
  rw [← Array.forIn_toList]
  simp only [List.forIn_cons, List.forIn_nil]
  refine wpAny_bind (wpAny_bind (wpAny_holding ?_))
  show wpAny _ _ (Builtin.SmallTypes.nextOf (.ref i1) >>= _) _ _ _
  cases hx : xs[k1]? with
  | none =>
    refine wpAny_bind (nextOf_tuple_end (s := { s with heap := h₁ }) hh (h1.extBut hs₁.extBut D.i1z) (hl1.extBut hs₁.extBut D.l1z) hx fun h₂ e hs₂ he => ?_)
    exact fin h₂ e (fun c o c1 c2 _ x => hs₂ _ _ c2 (hs₁.extBut _ _ c1 x)) he
  | some x =>
    have hy : ys[k2]? = none := by rcases hend with h | h; rw [hx] at h; cases h; exact h
    refine wpAny_bind (nextOf_tuple_item (s := { s with heap := h₁ }) (h1.extBut hs₁.extBut D.i1z) (hl1.extBut hs₁.extBut D.l1z) hx fun h₂ h1₂ hs₂ => wpAny_pure ?_)
    refine wpAny_pure ?_
    refine wpAny_bind (wpAny_bind (wpAny_holding ?_))
    show wpAny _ _ (Builtin.SmallTypes.nextOf (.ref i2) >>= _) _ _ _
    refine wpAny_bind (nextOf_tuple_end (s := { s with heap := h₂ }) hh ((h2.extBut hs₁.extBut D.i2z).extBut hs₂.extBut D.i12.symm) ((hl2.extBut hs₁.extBut D.l2z).extBut hs₂.extBut D.l2i1) hy fun h₃ e hs₃ he => ?_)
    exact fin h₃ e (fun c o c1 c2 c3 x => hs₃ _ _ c3 (hs₂.extBut _ _ c2 (hs₁.extBut _ _ c1 x))) he
/-- the zip while its pairs are gathered -/
structure ZS (h : Heap) (z TI TO i1 i2 l1 l2 S : Addr) (xs ys : Array Value) (i : Nat) (as : List Addr) : Prop where
  pTI : IsPair h TI (.ref i1) (.ref i2)
  j1 : h.IsTupleIter i1 l1 i
  j2 : h.IsTupleIter i2 l2 i
  t1 : h.IsTuple l1 xs
  t2 : h.IsTuple l2 ys
  st : (as = [] ∧ IsZip h z TI TO .none ∧ ∃ a b, IsPair h TO a b) ∨ ∃ T f, T ∈ as ∧ IsZipHeld h z TI TO T f
  len : as.length = i
  nd : as.Nodup
  prs : ∀ (j : Nat) (a : Addr), as[j]? = some a → S < a ∧ ∃ x y, xs[j]? = some x ∧ ys[j]? = some y ∧ IsPair h a x y
theorem ZS.keep {h h' : Heap} {z TI TO i1 i2 l1 l2 S : Addr} {xs ys : Array Value} {i : Nat} {as : List Addr} (Z : ZS h z TI TO i1 i2 l1 l2 S xs ys i as) (k : ∀ b o, b ≠ S → h.get? b = some o → h'.get? b = some o)
    (n1 : z ≠ S) (n2 : TI ≠ S) (n3 : TO ≠ S) (n4 : i1 ≠ S) (n5 : i2 ≠ S) (n6 : l1 ≠ S) (n7 : l2 ≠ S) : ZS h' z TI TO i1 i2 l1 l2 S xs ys i as := by
  refine ⟨k _ _ n2 Z.pTI, Z.j1.at fun o e => k _ o n4 e, Z.j2.at fun o e => k _ o n5 e, ?_, ?_, ?_, Z.len, Z.nd, fun j a e => ?_⟩
  · obtain ⟨o, e, x⟩ := Z.t1; exact ⟨o, k _ _ n6 e, x⟩
  · obtain ⟨o, e, x⟩ := Z.t2; exact ⟨o, k _ _ n7 e, x⟩
  · rcases Z.st with ⟨e, q, a, b, p⟩ | ⟨T, f, m, q⟩
    · exact .inl ⟨e, k _ _ n1 q, a, b, k _ _ n3 p⟩
    · exact .inr ⟨T, f, m, k _ _ n1 q⟩
  · obtain ⟨lt, x, y, e1, e2, p⟩ := Z.prs j a e
    exact ⟨lt, x, y, e1, e2, k _ _ (Nat.ne_of_gt lt) p⟩
structure Far (z TI TO i1 i2 l1 l2 S : Addr) : Prop where
  z : z < S
  TI : TI < S
  TO : TO < S
  i1 : i1 < S
  i2 : i2 < S
  l1 : l1 < S
  l2 : l2 < S
theorem zs_item {z TI TO i1 i2 l1 l2 S : Addr} {xs ys : Array Value} {i : Nat} {as : List Addr} {x y : Value} {Q : Option Value → Shared → Prop} (D : ZipApart z TI TO i1 i2 l1 l2) (R : Far z TI TO i1 i2 l1 l2 S) (hS : S < s.heap.objs.size)
    (Z : ZS s.heap z TI TO i1 i2 l1 l2 S xs ys i as) (hx : xs[i]? = some x) (hy : ys[i]? = some y)
    (hQ : ∀ h', ZS h' z TI TO i1 i2 l1 l2 S xs ys (i + 1) (as ++ [s.heap.objs.size]) → (∀ c o, c ≠ z → c ≠ TO → c ≠ i1 → c ≠ i2 → s.heap.get? c = some o → h'.get? c = some o) → Q (some (.ref s.heap.objs.size)) { s with heap := h' }) :
    wpAny (model prog w) A (pyNext (.ref z)) Q E s := by
  have fin : ∀ h', h'.IsTupleIter i1 l1 (i + 1) → h'.IsTupleIter i2 l2 (i + 1) → IsPair h' s.heap.objs.size x y →
      (∀ c o, c ≠ z → c ≠ TO → c ≠ i1 → c ≠ i2 → s.heap.get? c = some o → h'.get? c = some o) → (∃ T f, T ∈ as ++ [s.heap.objs.size] ∧ IsZipHeld h' z TI TO T f) → Q (some (.ref s.heap.objs.size)) { s with heap := h' } := by
    intro h' a1 a2 a3 k a4
    refine hQ h' ⟨k _ _ D.TIz D.TITO D.TIi1 D.TIi2 Z.pTI, a1, a2, ?_, ?_, .inr a4, by rw [List.length_append, Z.len]; rfl, ?_, fun j a e => ?_⟩ k
    · obtain ⟨o, e, x⟩ := Z.t1; exact ⟨o, k _ _ D.l1z D.l1TO D.l1i1 D.l1i2 e, x⟩
    · obtain ⟨o, e, x⟩ := Z.t2; exact ⟨o, k _ _ D.l2z D.l2TO D.l2i1 D.l2i2 e, x⟩
    · refine List.nodup_append.mpr ⟨Z.nd, List.pairwise_singleton _ _, fun c hc d hd q => ?_⟩
      rw [List.mem_singleton.mp hd] at q
      obtain ⟨j, hj⟩ := List.mem_iff_getElem?.mp hc
      obtain ⟨_, _, _, _, _, pc⟩ := Z.prs j c hj
      rw [q] at pc
      exact Nat.lt_irrefl _ (Heap.lt_size pc)
    · rcases Nat.lt_trichotomy j as.length with h1 | h1 | h1
      · rw [List.getElem?_append_left h1] at e
        obtain ⟨lt, x', y', e1, e2, p⟩ := Z.prs j a e
        have q1 := R.z; have q2 := R.TO; have q3 := R.i1; have q4 := R.i2
        exact ⟨lt, x', y', e1, e2, k _ _ (Nat.ne_of_gt (Nat.lt_trans R.z lt)) (Nat.ne_of_gt (Nat.lt_trans R.TO lt)) (Nat.ne_of_gt (Nat.lt_trans R.i1 lt)) (Nat.ne_of_gt (Nat.lt_trans R.i2 lt)) p⟩
      · subst h1
        have ea : s.heap.objs.size = a := by simpa using e
        subst ea
        rw [Z.len]
        exact ⟨hS, x, y, hx, hy, a3⟩
      · rw [List.getElem?_eq_none (by rw [List.length_append, List.length_singleton]; omega)] at e; cases e
  rcases Z.st with ⟨ea, q, a, b, p⟩ | ⟨T, f, m, q⟩
  · refine pyNext_zipT_item D q Z.pTI p Z.j1 Z.j2 Z.t1 Z.t2 hx hy fun h' z' TO' h1' h2' hT hsz hk => fin h' h1' h2' hT hk ⟨s.heap.objs.size, false, by simp, z'⟩
  · obtain ⟨j, hj⟩ := List.mem_iff_getElem?.mp m
    obtain ⟨lt, x', y', e1, e2, pT⟩ := Z.prs j T hj
    exact zipT_item_held D q pT Z.pTI Z.j1 Z.j2 Z.t1 Z.t2 hx hy fun h' z' h1' h2' hT hsz hk => fin h' h1' h2' hT (fun c o c1 c2 c3 c4 e => hk c o c1 c3 c4 e) ⟨T, true, by simp [m], z'⟩
theorem zs_end {z TI TO i1 i2 l1 l2 S : Addr} {xs ys : Array Value} {i : Nat} {as : List Addr} {Q : Option Value → Shared → Prop} (hh : A.handled = none) (D : ZipApart z TI TO i1 i2 l1 l2)
    (Z : ZS s.heap z TI TO i1 i2 l1 l2 S xs ys i as) (hend : xs[i]? = none ∨ ys[i]? = none)
    (hQ : ∀ h', (∀ c o, c ≠ z → c ≠ TO → c ≠ i1 → c ≠ i2 → s.heap.get? c = some o → h'.get? c = some o) → Q none { s with heap := h' }) :
    wpAny (model prog w) A (pyNext (.ref z)) Q E s := by
  rcases Z.st with ⟨ea, q, a, b, p⟩ | ⟨T, f, m, q⟩
  · exact pyNext_zipT_end hh D q Z.pTI p Z.j1 Z.j2 Z.t1 Z.t2 hend hQ
  · obtain ⟨j, hj⟩ := List.mem_iff_getElem?.mp m
    obtain ⟨lt, x', y', e1, e2, pT⟩ := Z.prs j T hj
    exact zipT_end_held hh D q pT Z.pTI Z.j1 Z.j2 Z.t1 Z.t2 hend fun h' hk => hQ h' fun c o c1 c2 c3 c4 e => hk c o c1 c3 c4 e
/-- the pairs that were gathered -/
def Prs (h : Heap) (lo : Addr) (xs ys : Array Value) (as : List Addr) : Prop := as.Nodup ∧ ∀ (j : Nat) (a : Addr), as[j]? = some a → lo < a ∧ ∃ x y, xs[j]? = some x ∧ ys[j]? = some y ∧ IsPair h a x y
theorem zs_loop {R : Result → Shared → Prop} {z TI TO i1 i2 l1 l2 S : Addr} {xs ys : Array Value} {n : Nat} (hh : A.handled = none) (D : ZipApart z TI TO i1 i2 l1 l2) (Fa : Far z TI TO i1 i2 l1 l2 S) (hn : n ≤ sizeLine)
    (hlo : ∀ i, i < n → ∃ x y, xs[i]? = some x ∧ ys[i]? = some y) (hhi : xs[n]? = none ∨ ys[n]? = none) (res : Value) {h₁ : Heap}
    (hR : ∀ h' tk acc c as, (∀ b o, b ≠ S → b ≠ z → b ≠ TO → b ≠ i1 → b ≠ i2 → h₁.get? b = some o → h'.get? b = some o) → h'.get? S = some { cls := .type "list", dict := none, data := .seq acc c, slots := #[] } → as.length = n → Prs h' S xs ys as →
      acc.toList = as.map Value.ref → R (.ok (.ret res)) { s with heap := h', toks := tk }) :
    ∀ (k i : Nat) (h : Heap) (tk c : Nat) (acc : Array Value) (as : List Addr), n - i = k → i ≤ n → ZS h z TI TO i1 i2 l1 l2 S xs ys i as → (∀ b o, b ≠ S → b ≠ z → b ≠ TO → b ≠ i1 → b ≠ i2 → h₁.get? b = some o → h.get? b = some o) →
      h.get? S = some { cls := .type "list", dict := none, data := .seq acc c, slots := #[] } → acc.toList = as.map Value.ref →
      codeAny (model prog w) A (.builtin "list.extend.loop" ⟨[.ref S, .ref z, res], []⟩) R { s with heap := h, toks := tk } := by
  have f1 := Fa.z; have f2 := Fa.TI; have f3 := Fa.TO; have f4 := Fa.i1; have f5 := Fa.i2; have f6 := Fa.l1; have f7 := Fa.l2
  intro k
  induction k with
  | zero =>
    intro i h tk c acc as hk hi Z hkeep hS hacc
    have hin : i = n := by omega
    subst hin
    refine codeAny_builtin PySem.F.entry_extend_loop ?_
    rw [Around.under_plainId PySem.F.plain_extend_loop _]
    show wpAny _ A.in1 (pyNext (.ref z) >>= _) _ _ _
    refine wpAny_bind (zs_end (s := { s with heap := h, toks := tk }) (A := A.in1) hh D Z hhi fun h' he => ?_)
    refine wpAny_pure (hR h' tk acc c as (fun b o h1 h2 h3 h4 h5 e => he b o h2 h3 h4 h5 (hkeep b o h1 h2 h3 h4 h5 e)) (he S _ (Nat.ne_of_gt f1) (Nat.ne_of_gt f3) (Nat.ne_of_gt f4) (Nat.ne_of_gt f5) hS) Z.len ⟨Z.nd, fun j a e => ?_⟩ hacc)
    obtain ⟨lt, x, y, e1, e2, p⟩ := Z.prs j a e
    exact ⟨lt, x, y, e1, e2, he a _ (Nat.ne_of_gt (Nat.lt_trans f1 lt)) (Nat.ne_of_gt (Nat.lt_trans f3 lt)) (Nat.ne_of_gt (Nat.lt_trans f4 lt)) (Nat.ne_of_gt (Nat.lt_trans f5 lt)) p⟩
  | succ k ih =>
    intro i h tk c acc as hk hi Z hkeep hS hacc
    have hlt : i < n := by omega
    obtain ⟨x, y, hx, hy⟩ := hlo i hlt
    have hsz : acc.size = i := by rw [← Array.length_toList, hacc, List.length_map, Z.len]
    refine codeAny_builtin PySem.F.entry_extend_loop ?_
    rw [Around.under_plainId PySem.F.plain_extend_loop _]
    show wpAny _ A.in1 (pyNext (.ref z) >>= _) _ _ _
    refine wpAny_bind (zs_item (s := { s with heap := h, toks := tk }) (S := S) D Fa (Heap.lt_size hS) Z hx hy fun h' Z' hkp => ?_)
    dsimp only at Z' hkp ⊢
    have hS' := hkp S _ (Nat.ne_of_gt f1) (Nat.ne_of_gt f3) (Nat.ne_of_gt f4) (Nat.ne_of_gt f5) hS
    have up : ∀ b o, b ≠ S → h'.get? b = some o → (h'.update S (Obj.mapSeq (·.push (Value.ref h.objs.size)))).get? b = some o := fun b o hb e => (Heap.get?_update_other _ _ (Ne.symm hb)).trans e
    show wpAny _ A.in1 (updateSeq S (·.push (Value.ref h.objs.size)) >>= _) _ _ _
    refine wpAny_bind ?_
    refine wpAny_updateSeq hS' rfl (wpAny_pure ⟨plainId_quiet PySem.F.plain_extend_loop _, ih (i + 1) _ tk _ (acc.push (Value.ref h.objs.size)) (as ++ [h.objs.size]) (by omega) hlt (Z'.keep up (Nat.ne_of_lt f1) (Nat.ne_of_lt f2) (Nat.ne_of_lt f3) (Nat.ne_of_lt f4) (Nat.ne_of_lt f5) (Nat.ne_of_lt f6) (Nat.ne_of_lt f7))
      (fun b o h1 h2 h3 h4 h5 e => up b o h1 (hkp b o h2 h3 h4 h5 (hkeep b o h1 h2 h3 h4 h5 e))) (Heap.get?_update_self _ hS' rfl) (by rw [Array.toList_push, hacc, List.map_append]; rfl)⟩) (by rw [hsz]; omega) (by show (acc.push (Value.ref h.objs.size)).size ≤ sizeLine + 1; rw [Array.size_push]; omega)
theorem nolen_zip : typeLookup (.type "zip") "__len__" = pure none := by rw [typeLookup_type, builtinLookup_eq_fast]; kernel_rfl
theorem nohint_zip : typeLookup (.type "zip") "__length_hint__" = pure none := by rw [typeLookup_type, builtinLookup_eq_fast]; kernel_rfl
theorem zs_collect {Q : List Value → Shared → Prop} {z TI TO i1 i2 l1 l2 : Addr} {xs ys : Array Value} {n : Nat} (hh : A.handled = none) (D : ZipApart z TI TO i1 i2 l1 l2) (hz : z < s.heap.objs.size) (hzs : ∀ S, s.heap.objs.size ≤ S → Far z TI TO i1 i2 l1 l2 S) (hn : n ≤ sizeLine)
    (hlo : ∀ i, i < n → ∃ x y, xs[i]? = some x ∧ ys[i]? = some y) (hhi : xs[n]? = none ∨ ys[n]? = none) (Z : ∀ S, ZS s.heap z TI TO i1 i2 l1 l2 S xs ys 0 [])
    (h : ∀ (h' : Heap) (tk : Nat) (as : List Addr), (∀ b o, b ≠ z → b ≠ TO → b ≠ i1 → b ≠ i2 → s.heap.get? b = some o → h'.get? b = some o) → as.length = n → s.heap.objs.size < h'.objs.size → Prs h' s.heap.objs.size xs ys as → Q (as.map Value.ref) { s with heap := h', toks := tk }) :
    wpAny (model prog w) A (collect (.ref z)) Q E s := by
  have hFa := hzs _ (Nat.le_refl _)
  unfold collect
  refine wpAny_bind (wpAny_runValue (codeAny_builtin F.entry_proto_collect ?_))
  rw [Around.under_plainId F.plain_proto_collect _]
  show wpAny _ A.in1 (newList [] >>= fun l => again (.builtin "list.__iadd__" ⟨[l, .ref z], []⟩)) _ _ s
  refine wpAny_bind (wpAny_newObj_type ?_)
  refine wpAny_pure ⟨plainId_quiet F.plain_list_iadd _, codeAny_builtin F.entry_list_iadd ?_⟩
  rw [Around.under_plainId F.plain_list_iadd _]
  have hT : s.TypeIs (.ref z) "zip" := by
    rcases (Z s.heap.objs.size).st with ⟨_, q, _⟩ | ⟨T, f, m, q⟩
    · exact ⟨_, q, rfl⟩
    · exact ⟨_, q, rfl⟩
  have hT₁ : ({ s with heap := s.heap.push { cls := .type "list", data := .seq ([] : List Value).toArray } } : Shared).TypeIs (.ref z) "zip" := by
    obtain ⟨o, ho, hc⟩ := hT
    exact ⟨o, Heap.get?_push_of_some _ ho, hc⟩
  show wpAny _ A.in1 (Builtin.List.listExtendWith (.ref s.heap.objs.size) (.ref z) (.ref s.heap.objs.size)) _ _ _
  unfold Builtin.List.listExtendWith
  refine wpAny_bind (wpAny_typeOf hT₁ ?_)
  have h1 : Builtin.List.listSameRef (.ref s.heap.objs.size) (.ref z) = false := by simp [Builtin.List.listSameRef, Nat.ne_of_gt hz]
  have h2 : (Value.type "zip" == Value.type "list") = false := by decide
  have h3 : (Value.type "zip" == Value.type "tuple") = false := by decide
  simp only [h1, h2, h3, Bool.or_false, Bool.false_eq_true, if_false]
  have hzp : ∃ f0, IsZip (s.heap.push { cls := .type "list", data := .seq ([] : List Value).toArray }) z TI TO f0 := by
    rcases (Z s.heap.objs.size).st with ⟨_, q, _⟩ | ⟨T, f, m, q⟩
    · exact ⟨_, Heap.get?_push_of_some _ q⟩
    · cases m
  obtain ⟨f0, hzp⟩ := hzp
  refine wpAny_bind (wpAny_pyIter_zip (s := { s with heap := s.heap.push { cls := .type "list", data := .seq ([] : List Value).toArray } }) hzp ?_)
  refine wpAny_bind (wpAny_holding ?_)
  unfold Builtin.List.listLengthHint
  refine wpAny_bind (wpAny_specialOf hT₁ nolen_zip ?_)
  show wpAny _ A.in1 (specialOf (Value.ref z) (Str.ofString "__length_hint__") >>= _) _ _ _
  refine wpAny_bind (wpAny_specialOf hT₁ nohint_zip ?_)
  refine wpAny_pure ?_
  show wpAny _ A.in1 (rule "list.extend.makes-room" >>= fun _ => Builtin.List.listTouch (.ref s.heap.objs.size) >>= fun _ =>
    again (.builtin "list.extend.loop" ⟨[.ref s.heap.objs.size, .ref z, .ref s.heap.objs.size], []⟩)) _ _ _
  refine wpAny_bind (wpAny_rule ?_)
  have hS₁ : (s.heap.push { cls := .type "list", data := .seq ([] : List Value).toArray }).get? s.heap.objs.size = some { cls := .type "list", data := .seq ([] : List Value).toArray } := Heap.get?_push_size _ rfl
  refine wpAny_bind ?_
  show wpAny _ A.in1 (updateSeq s.heap.objs.size (·.push .none) >>= fun _ => updateSeq s.heap.objs.size (·.pop)) _ _ _
  refine wpAny_bind (wpAny_updateSeq hS₁ rfl ?_)
  have hS₂ := Heap.get?_update_self (Obj.mapSeq (·.push Value.none)) hS₁ rfl
  refine wpAny_updateSeq hS₂ rfl ?_
  have hS₃ := Heap.get?_update_self (Obj.mapSeq (·.pop)) hS₂ rfl
  have oth : ∀ b o, b ≠ s.heap.objs.size → (s.heap.push { cls := .type "list", data := .seq ([] : List Value).toArray }).get? b = some o →
      (((s.heap.push { cls := .type "list", data := .seq ([] : List Value).toArray }).update s.heap.objs.size (Obj.mapSeq (·.push Value.none))).update s.heap.objs.size (Obj.mapSeq (·.pop))).get? b = some o :=
    fun b o hb e => (Heap.get?_update_other _ _ (Ne.symm hb)).trans ((Heap.get?_update_other _ _ (Ne.symm hb)).trans e)
  have Z0 : ZS (s.heap.push { cls := .type "list", data := .seq ([] : List Value).toArray }) z TI TO i1 i2 l1 l2 s.heap.objs.size xs ys 0 [] :=
    (Z s.heap.objs.size).keep (fun b o _ e => Heap.get?_push_of_some _ e) (Nat.ne_of_lt hFa.z) (Nat.ne_of_lt hFa.TI) (Nat.ne_of_lt hFa.TO) (Nat.ne_of_lt hFa.i1) (Nat.ne_of_lt hFa.i2) (Nat.ne_of_lt hFa.l1) (Nat.ne_of_lt hFa.l2)
  have Z1 := Z0.keep oth (Nat.ne_of_lt hFa.z) (Nat.ne_of_lt hFa.TI) (Nat.ne_of_lt hFa.TO) (Nat.ne_of_lt hFa.i1) (Nat.ne_of_lt hFa.i2) (Nat.ne_of_lt hFa.l1) (Nat.ne_of_lt hFa.l2)
  refine wpAny_pure ⟨plainId_quiet F.plain_extend_loop _, zs_loop (s := s) (h₁ := s.heap) hh D hFa hn hlo hhi _ (fun h' tk acc c as hk hS' hl hp hacc => ?_) n 0 _ s.toks _ #[] [] rfl (Nat.zero_le _) Z1 (fun b o hb _ _ _ _ e => oth b o hb (Heap.get?_push_of_some _ e)) hS₃ rfl⟩
  show wpAny _ A (load s.heap.objs.size >>= _) _ _ _
  refine wpAny_bind (wpAny_load hS' ?_)
  refine wpAny_pure ?_
  show Q acc.toList _
  rw [hacc]
  exact h h' tk as (fun b o b1 b2 b3 b4 e => hk b o (Nat.ne_of_lt (Heap.lt_size e)) b1 b2 b3 b4 e) hl (Heap.lt_size hS') hp
theorem code_tuple_zip {Q₁ : Value → Shared → Prop} {z TI TO i1 i2 l1 l2 : Addr} {xs ys : Array Value} {n : Nat} (hh : A.handled = none) (D : ZipApart z TI TO i1 i2 l1 l2) (hz : z < s.heap.objs.size) (hzs : ∀ S, s.heap.objs.size ≤ S → Far z TI TO i1 i2 l1 l2 S) (hn : n ≤ sizeLine)
    (hlo : ∀ i, i < n → ∃ x y, xs[i]? = some x ∧ ys[i]? = some y) (hhi : xs[n]? = none ∨ ys[n]? = none) (Z : ∀ S, ZS s.heap z TI TO i1 i2 l1 l2 S xs ys 0 [])
    (h : ∀ (h' : Heap) (tk : Nat) (as : List Addr), (∀ b o, b ≠ z → b ≠ TO → b ≠ i1 → b ≠ i2 → s.heap.get? b = some o → h'.get? b = some o) → as.length = n → s.heap.objs.size < h'.objs.size → Prs h' s.heap.objs.size xs ys as →
      Q₁ (.ref h'.objs.size) { s with heap := h'.push { cls := .type "tuple", data := .seq (as.map Value.ref).toArray }, toks := tk }) :
    codeAny (model prog w) A (.call (.builtin "tuple.__new__") ⟨[.type "tuple", .ref z], []⟩) (wants Q₁ E) s := by
  refine codeAny_of_tree ?_
  show wpAny _ A.in1 (do checkBuiltinCall "tuple.__new__" ⟨[.type "tuple", .ref z], []⟩; again (.builtin "tuple.__new__" ⟨[.type "tuple", .ref z], []⟩)) _ _ s
  refine wpAny_bind (wpAny_of_eq (F.newCall_tuple_1 _) (wpAny_pure ⟨plainId_quiet F.plain_tuple_new _, codeAny_builtin F.entry_tuple_new ?_⟩))
  rw [Around.under_plainId F.plain_tuple_new _]
  have hsub := sub_tuple_self
  have hinit := init_tuple_lookup
  have hmh := madeHere_tuple
  have hTI : s.TypeIs (.ref z) "zip" := by
    rcases (Z s.heap.objs.size).st with ⟨_, q, _⟩ | ⟨T, f, m, q⟩
    · exact ⟨_, q, rfl⟩
    · exact ⟨_, q, rfl⟩
  have hh1 : A.in1.handled = none := hh
  wp_walk using wpAny_typeOf hTI, zs_collect (A := A.in1) hh1 D hz hzs hn hlo hhi Z
  intro h' tk as hk hl hlt hp
  show wpAny _ _ (Builtin.Tuple.tupleExact (as.map Value.ref).toArray >>= fun v => ret v) _ _ _
  unfold Builtin.Tuple.tupleExact
  refine wpAny_bind (wpAny_newObj_type ?_ (by show (as.map Value.ref).toArray.size ≤ sizeLine; rw [List.size_toArray, List.length_map, hl]; exact hn))
  refine wpAny_pure ?_
  exact h h' tk as hk hl hlt hp
theorem call_tuple_zip {Q : Value → Shared → Prop} {z TI TO i1 i2 l1 l2 : Addr} {xs ys : Array Value} {n : Nat} (hh : A.handled = none) (D : ZipApart z TI TO i1 i2 l1 l2) (hz : z < s.heap.objs.size) (hzs : ∀ S, s.heap.objs.size ≤ S → Far z TI TO i1 i2 l1 l2 S) (hn : n ≤ sizeLine)
    (hlo : ∀ i, i < n → ∃ x y, xs[i]? = some x ∧ ys[i]? = some y) (hhi : xs[n]? = none ∨ ys[n]? = none) (Z : ∀ S, ZS s.heap z TI TO i1 i2 l1 l2 S xs ys 0 [])
    (hQ : ∀ (h' : Heap) (tk : Nat) (as : List Addr), (∀ b o, b ≠ z → b ≠ TO → b ≠ i1 → b ≠ i2 → s.heap.get? b = some o → h'.get? b = some o) → as.length = n → s.heap.objs.size < h'.objs.size → Prs h' s.heap.objs.size xs ys as →
      Q (.ref h'.objs.size) { s with heap := h'.push { cls := .type "tuple", data := .seq (as.map Value.ref).toArray }, toks := tk }) :
    wpAny (model prog w) A (call (.type "tuple") [.ref z]) Q E s := by
  refine callType_codes (Q₁ := fun obj s₁ => s₁.TypeIs obj "tuple" ∧ Q obj s₁) F.called_tuple (F.typeCall_tuple_1 _) F.entry_object_init
    (code_tuple_zip (A := A.in1) hh D hz hzs hn hlo hhi Z fun h' tk acc hk hl hlt hp => ⟨⟨_, Heap.get?_push_size _ rfl, rfl⟩, hQ h' tk acc hk hl hlt hp⟩) fun obj s₁ h₁ => ?_
  exact ⟨h₁.1, F.args_object_init_2 obj _, object_init_meets F.called_tuple.init.lookup F.called_tuple.made (by decide) prog w A.in1 _ s₁ ⟨h₁.1, rfl, h₁.2⟩⟩
end
end QZ
set_option maxHeartbeats 2000000
/-! QV: what is made of an iterator: tuple(zip(..)), tuple(range(..)), list(d.values()); enumerate in a for. -/
namespace Q
open PySem L2 PyProof.Rows QZ
section
variable {X : Cx} {e e2 : Expr} {p q zp pos : Pos}
theorem vals_refs : ∀ as : List Addr, Vals (as.map V.ref) (as.map Value.ref)
  | [] => .nil
  | a :: as => .cons (show RelV (.ref a) (.ref a) from rfl) (vals_refs as)
theorem valsGet : ∀ {vs : List V} {us : List Value} {j : Nat} {u : Value}, Vals vs us → us[j]? = some u → ∃ v, vs[j]? = some v ∧ RelV v u
  | _, _, _, _, .nil, e => by simp at e
  | _, _, 0, _, .cons r t, e => by simp at e; subst e; exact ⟨_, rfl, r⟩
  | _, _, j + 1, _, .cons r t, e => by
    obtain ⟨v, a, b⟩ := valsGet (j := j) t (by simpa using e)
    exact ⟨v, by simpa using a, b⟩
def tTupZip (K : PySem.W.Frag) (ta tb : TE) : TE := fun σ H Q => ta σ H fun x H0 => tb σ H0 fun y H1 => ∃ a b xs ys, x = .ref a ∧ y = .ref b ∧ SqT K H1 a xs ∧ SqT K H1 b ys ∧
  ∀ (H2 : Hp) (l : Addr) (ps : List Addr), Same H1 H2 → SqP H2 l (ps.map V.ref) → ps.length = min xs.length ys.length → (∀ (j : Nat) (c : Addr), ps[j]? = some c → ∃ x y, xs[j]? = some x ∧ ys[j]? = some y ∧ SqP H2 c [x, y]) → Q (.ref l) H2
theorem pe_tupZip {ta tb : TE} (hc : X.calm = true) (hg : Gl X "tuple") (hm : X.mg "tuple" = none) (hgz : Gl X "zip") (hmz : X.mg "zip" = none) (ha : PE X e ta) (hb : PE X e2 tb)
    (na : starEach [e, e2] X.env = (false, eval e X.env) :: starEach [e2] X.env) (nb : starEach [e2] X.env = (false, eval e2 X.env) :: starEach [] X.env) (hp : (backTo zp (starEach [e2] X.env)).any (·.1) = false) :
    PE X (.Call (.Name "tuple" p) [.Call (.Name "zip" q) [e, e2] [] zp] [] pos) (tTupZip X.K ta tb) := by
  refine ⟨fun pins s σ H Q I h => ?_⟩
  refine Call_ (ld_blt I hg hm boot_tuple (PyProof.Rows.callWith_type1 (args_cons ?_ rfl) rfl))
  refine Call_ (ld_blt I hgz hmz PyProof.Rows.boot_zip (PyProof.Rows.callWith_type1 (args_cons (thn (ha.run pins s σ H _ I h) fun v s0 ⟨x, H0, I0, r0, q0⟩ => one_arg hb I0 q0 (fun u s1 y H1 I1 r1 q1 => ?_) nb) na) na hp))
  obtain ⟨a, b, xs, ys, rfl, rfl, hqx, hqy, k⟩ := q1
  cases r0
  cases r1
  obtain ⟨its, rv, p1, z1⟩ := I1.tuple hqx
  obtain ⟨its2, rv2, p2, z2⟩ := I1.tuple hqy
  obtain ⟨o1, ho1, _⟩ := id p1
  obtain ⟨o2, ho2, _⟩ := id p2
  have l1 := rv.length
  have l2 := rv2.length
  have la := Heap.lt_size ho1
  have lb := Heap.lt_size ho2
  refine RZ.call_zipT (show s1.heap.IsTuple a its.toArray from p1) (show s1.heap.IsTuple b its2.toArray from p2) fun h' hz hTI hTO h1 h2 hsz hk => ?_
  refine args_nil ?_
  have D := PySem.W.ktu_apart s1.heap.objs.size a b la lb
  have hzs : ∀ S, h'.objs.size ≤ S → Far (s1.heap.objs.size + 4) (s1.heap.objs.size + 2) (s1.heap.objs.size + 3) s1.heap.objs.size (s1.heap.objs.size + 1) a b S := fun S hS => by
    rw [hsz] at hS
    refine ⟨Nat.lt_of_lt_of_le (Nat.lt_succ_self _) hS, Nat.lt_of_lt_of_le (Nat.add_lt_add_left (by decide) _) hS, Nat.lt_of_lt_of_le (Nat.add_lt_add_left (by decide) _) hS, Nat.lt_of_lt_of_le (Nat.lt_add_of_pos_right (by decide)) hS, Nat.lt_of_lt_of_le (Nat.add_lt_add_left (by decide) _) hS, Nat.lt_of_lt_of_le (Nat.lt_of_lt_of_le la (Nat.le_add_right _ _)) hS, Nat.lt_of_lt_of_le (Nat.lt_of_lt_of_le lb (Nat.le_add_right _ _)) hS⟩
  have Z : ∀ S, ZS h' (s1.heap.objs.size + 4) (s1.heap.objs.size + 2) (s1.heap.objs.size + 3) s1.heap.objs.size (s1.heap.objs.size + 1) a b S its.toArray its2.toArray 0 [] := fun S =>
    ⟨hTI, h1, h2, by obtain ⟨o, x, y⟩ := p1; exact ⟨o, hk _ _ x, y⟩, by obtain ⟨o, x, y⟩ := p2; exact ⟨o, hk _ _ x, y⟩, .inl ⟨rfl, hz, _, _, hTO⟩, rfl, .nil, fun j a e => by simp at e⟩
  refine call_tuple_zip (s := { s1 with heap := h' }) (n := min xs.length ys.length) (I1.ok.hd hc) D (by show _ < h'.objs.size; rw [hsz]; exact Nat.lt_succ_self _) hzs (Nat.le_trans (Nat.min_le_left _ _) (by exact z1)) (fun i hi => ?_) ?_ Z fun h2 tk as hk2 hl2 hlt hp2 => ?_
  · have hi1 : i < its.length := by rw [← l1]; exact Nat.lt_of_lt_of_le hi (Nat.min_le_left _ _)
    have hi2 : i < its2.length := by rw [← l2]; exact Nat.lt_of_lt_of_le hi (Nat.min_le_right _ _)
    exact ⟨its[i], its2[i], by simp [hi1], by simp [hi2]⟩
  · rcases Nat.le_total xs.length ys.length with hle | hle
    · left
      rw [Nat.min_eq_left hle]
      simp [l1]
    · right
      rw [Nat.min_eq_right hle]
      simp [l2]
  · have hlt : s1.heap.objs.size ≤ h2.objs.size := by
      refine Nat.le_trans ?_ (Nat.le_of_lt hlt)
      show s1.heap.objs.size ≤ h'.objs.size
      rw [hsz]
      exact Nat.le_add_right _ _
    have kk : ∀ b o, s1.heap.get? b = some o → h2.get? b = some o := fun b o e => hk2 b o (fun q => by subst q; exact absurd (Heap.lt_size e) (Nat.not_lt.mpr (Nat.le_add_right _ _))) (fun q => by subst q; exact absurd (Heap.lt_size e) (Nat.not_lt.mpr (Nat.le_add_right _ _))) (fun q => by subst q; exact absurd (Heap.lt_size e) (Nat.lt_irrefl _)) (fun q => by subst q; exact absurd (Heap.lt_size e) (Nat.not_lt.mpr (Nat.le_add_right _ _))) (hk b o e)
    have I2 : Inv X pins σ H1 { s1 with heap := h2.push { cls := .type "tuple", data := .seq (as.map Value.ref).toArray }, toks := tk } := I1.kept fun b o e => Heap.get?_push_of_some _ (kk b o e)
    have aslt : ∀ c ∈ as, s1.heap.objs.size ≤ c ∧ c < h2.objs.size := fun c hc => by
      obtain ⟨j, hj⟩ := List.mem_iff_getElem?.mp hc
      obtain ⟨lt, x, y, e1, e2, pp⟩ := hp2.2 j c hj
      refine ⟨?_, Heap.lt_size pp⟩
      have : h'.objs.size < c := lt
      rw [hsz] at this
      exact Nat.le_trans (Nat.le_add_right _ 5) (Nat.le_of_lt this)
    have nd : (h2.objs.size :: as).Nodup := List.nodup_cons.mpr ⟨fun z => Nat.lt_irrefl _ (aslt _ z).2, hp2.1⟩
    have va : Vals (as.map V.ref) (as.map Value.ref) := vals_refs as
    obtain ⟨H2, I3, g, q⟩ := takeP (P := fun c vs => (c = h2.objs.size → vs = as.map V.ref) ∧ (c ≠ h2.objs.size → ∃ j x y, as[j]? = some c ∧ xs[j]? = some x ∧ ys[j]? = some y ∧ vs = [x, y])) I1 (h2.objs.size :: as) H1 I2 nd fun c hc => by
      rcases List.mem_cons.mp hc with rfl | hc
      · exact ⟨hlt, I1.hok.fresh hlt, as.map V.ref, { cls := .type "tuple", data := .seq (as.map Value.ref).toArray }, ⟨fun _ => rfl, fun z => absurd rfl z⟩, ⟨rfl, rfl⟩, fun H2 => ⟨Heap.get?_push_size _ rfl, by rw [List.length_map, hl2]; exact Nat.le_trans (Nat.min_le_left _ _) z1, _, va, ⟨_, Heap.get?_push_size _ rfl, rfl, _, rfl⟩⟩⟩
      · obtain ⟨j, hj⟩ := List.mem_iff_getElem?.mp hc
        obtain ⟨lt, u, v, e1, e2, pp⟩ := hp2.2 j c hj
        obtain ⟨c1, c2⟩ := aslt c hc
        obtain ⟨x, ex, rx⟩ := valsGet rv (show its[j]? = some u by simpa using e1)
        obtain ⟨y, ey, ry⟩ := valsGet rv2 (show its2[j]? = some v by simpa using e2)
        exact ⟨c1, I1.hok.fresh c1, [x, y], { cls := .type "tuple", data := .seq #[u, v] }, ⟨fun z => absurd z (Nat.ne_of_lt c2), fun _ => ⟨j, x, y, hj, ex, ey, rfl⟩⟩, ⟨rfl, rfl⟩, fun H2 => ⟨Heap.get?_push_of_some _ pp, by show 2 ≤ sizeLine; decide, [u, v], .cons rx (.cons ry .nil), ⟨_, Heap.get?_push_of_some _ pp, rfl, _, rfl⟩⟩⟩
    obtain ⟨vs, ⟨ev, _⟩, hl⟩ := q _ (List.mem_cons_self ..)
    rw [ev rfl] at hl
    refine ⟨.ref h2.objs.size, H2, I3, rfl, k H2 _ as (fun b o e => g b o e) hl hl2 fun j c hj => ?_⟩
    have hc := List.mem_of_getElem? hj
    obtain ⟨vs', ⟨_, ev'⟩, hc'⟩ := q c (List.mem_cons_of_mem _ hc)
    obtain ⟨j', x, y, ej, ex, ey, rfl⟩ := ev' (Nat.ne_of_lt (aslt c hc).2)
    have jj : j = j' := by
      obtain ⟨h1, e1⟩ := List.getElem?_eq_some_iff.mp hj
      obtain ⟨h2, e2⟩ := List.getElem?_eq_some_iff.mp ej
      exact (List.getElem_inj hp2.1).mp (e1.trans e2.symm)
    subst jj
    exact ⟨x, y, ex, ey, hc'⟩
end
end Q
/-! QJ: iterators' forms in the small language. -/
namespace Q
open PySem L2
section
variable {G : Gs} {pin : List Bool} {σ : L2.St} {H H1 H2 H3 : Hp} {As As1 As2 : AsT} {Z Z1 Z2 : Addr → Prop} {ρ ρ1 ρ2 : Rho} {X : Cx} {e a b c : Expr} {fa fb fc : Rho → Out Hd} {pos p q zp : Pos} {x : Str} {K : PySem.W.Frag}
theorem zipD_get : ∀ {xs ys : List D} {j : Nat} {x y : D}, xs[j]? = some x → ys[j]? = some y → (zipD xs ys)[j]? = some (.tuple [x, y]) := by
  intro xs ys j x y h1 h2
  unfold zipD
  rw [List.getElem?_map, (List.getElem?_zip_eq_some (z := (x, y))).mpr ⟨h1, h2⟩]
  rfl
theorem ImA.ofGet : ∀ {vs : List V} {ds : List D}, vs.length = ds.length → (∀ (j : Nat) v d, vs[j]? = some v → ds[j]? = some d → Im K H Z v d) → ImA K H Z vs ds
  | [], [], _, _ => .nil
  | _ :: _, [], h, _ => by simp at h
  | [], _ :: _, h, _ => by simp at h
  | v :: vs, d :: ds, h, f => .cons (f 0 v d rfl rfl) (ImA.ofGet (by simpa using h) fun j v' d' a b => f (j + 1) v' d' (by simpa using a) (by simpa using b))
theorem s_tupZip (hK : X.K = G.K) (h : PE X e (tTupZip X.K (tE G fa) (tE G fb))) : PE X e (tE G (cvF .tuple (zipF fa fb))) :=
  PE.imp h fun σ H Q ⟨ρ, As, Z, R, hO⟩ => by
    unfold cvF zipF at hO
    try dsimp only at hO
    have e0 : ∀ {α β γ : Type} (o : Out α) (f : α → Rho → Out β) (g : β → Rho → Out γ), (o.bind f).bind g = o.bind fun x r => (f x r).bind g := fun o f g => by cases o <;> rfl
    rw [e0] at hO
    refine bindE Stp.refl R hO fun h1 ρ1 v H1 As1 Z1 ax R1 S1 _ n1 _ hO1 => ?_
    try dsimp only at hO1
    rw [e0] at hO1
    refine bindE S1 R1 hO1 fun h2 ρ2 w H2 As2 Z2 ay R2 S12 S2 n2 _ hO2 => ?_
    try dsimp only at hO2
    cases d1 : dr ρ2 h1 with
    | none => rw [d1] at hO2; exact hO2.elim
    | some x =>
      cases d2 : dr ρ2 h2 with
      | none => rw [d1, d2] at hO2; cases x <;> try exact hO2.elim
                rename_i y; cases y <;> exact hO2.elim
      | some y =>
        rw [d1, d2] at hO2
        cases x with
        | d x0 =>
          cases x0 with
          | tuple xs =>
            cases y with
            | d y0 =>
              cases y0 with
              | tuple ys =>
                dsimp only [Out.bind] at hO2
                obtain ⟨ox, r1, _⟩ := (n1.keep R1 S12).dr R2 d1
                obtain ⟨oy, r2, _⟩ := n2.dr R2 d2
                obtain ⟨a, us, rfl, ha, ia⟩ := r1.2.tup_v
                obtain ⟨b, ws, rfl, hb, ib⟩ := r2.2.tup_v
                unfold cvV at hO2
                dsimp only at hO2
                by_cases hz : (zipD xs ys).length ≤ sizeLine
                · rw [if_pos hz] at hO2
                  rw [hK]
                  refine ⟨a, b, us, ws, rfl, rfl, ha, hb, fun H3 l ps sm hl hlen hp => ?_⟩
                  refine hO2 _ H3 ((Res.new R2 (New.im sm (.tup hl (ImA.ofGet ?_ fun j v d e1 e2 => ?_)))).trans S2)
                  · rw [List.length_map, hlen, ia.length, ib.length]
                    unfold zipD
                    rw [List.length_map, List.length_zip]
                  · rw [List.getElem?_map] at e1
                    cases ec : ps[j]? with
                    | none => rw [ec] at e1; cases e1
                    | some c =>
                      rw [ec] at e1
                      cases e1
                      obtain ⟨x, y, ex, ey, hc⟩ := hp j c ec
                      obtain ⟨dx, edx, imx⟩ := ia.get' ex
                      obtain ⟨dy, edy, imy⟩ := ib.get' ey
                      rw [zipD_get edx edy] at e2
                      cases e2
                      have kp : Keep H2 Z2 H3 Z2 := Same.kp sm
                      exact .tup hc (.cons (imx.keep kp) (.cons (imy.keep kp) .nil))
                · rw [if_neg hz] at hO2; exact hO2.elim
              | _ => exact hO2.elim
            | _ => exact hO2.elim
          | _ => exact hO2.elim
        | _ => exact hO2.elim
theorem rg_im {j : Int} : ImA K H Z (rgV 0 j) (rngD 0 j.toNat) := by
  refine ImA.ofGet (by rw [rgV_length, Int.sub_zero]; unfold rngD; rw [List.length_map, List.length_range]) fun i v d e1 e2 => ?_
  unfold rgV at e1
  unfold rngD at e2
  rw [List.getElem?_map] at e1 e2
  rw [Int.sub_zero] at e1
  cases er : (List.range j.toNat)[i]? with
  | none => rw [er] at e1; cases e1
  | some k =>
    rw [er] at e1 e2
    cases e1
    cases e2
    exact .int _
theorem bind_bind {α β γ : Type} (o : Out α) (f : α → Rho → Out β) (g : β → Rho → Out γ) : (o.bind f).bind g = o.bind fun x r => (f x r).bind g := by cases o <;> rfl
theorem rng1_ok {c : Cv} {Q : VK} (h : tE G (cvF c (rng1F fa)) σ H Q) {rest : VK}
    (k : ∀ j H1 ρ' As' Z' z, Rel G.K σ H1 ρ' As' Z' → -(2 ^ 62) ≤ j → j < 2 ^ 62 → cvV c (rngD 0 j.toNat) = some z → (∀ v H', New G.K Z' H1 H' v z → Q v H') → rest (.int j) H1) : tE G fa σ H rest := by
  obtain ⟨ρ, As, Z, R, hO⟩ := h
  unfold cvF rng1F at hO
  try dsimp only at hO
  rw [bind_bind] at hO
  refine bindE Stp.refl R hO fun h1 ρ1 v H1 As1 Z1 ax R1 S1 _ n1 _ hO1 => ?_
  try dsimp only at hO1
  cases d1 : dr ρ1 h1 with
  | none => rw [d1] at hO1; exact hO1.elim
  | some x =>
    rw [d1] at hO1
    cases x with
    | d y =>
      cases y with
      | int j =>
        dsimp only at hO1
        by_cases hb : -(2 ^ 62) ≤ j ∧ j < 2 ^ 62
        · rw [if_pos hb] at hO1
          dsimp only [Out.bind] at hO1
          cases ec : cvV c (rngD 0 j.toNat) with
          | none => rw [ec] at hO1; exact hO1.elim
          | some z =>
            rw [ec] at hO1
            rw [int_of R1 n1 d1]
            exact k j H1 ρ1 As1 Z1 z R1 hb.1 hb.2 ec fun v H' n => hO1 v H' ((Res.new R1 n).trans S1)
        · rw [if_neg hb] at hO1; exact hO1.elim
      | _ => exact hO1.elim
    | _ => exact hO1.elim
theorem rngD_len {n : Nat} {i : Int} : (rngD i n).length = n := by unfold rngD; rw [List.length_map, List.length_range]
theorem s_tupRg (h : PE X e (tTupRgP (tRg1 (tE G fa)))) : PE X e (tE G (cvF .tuple (rng1F fa))) :=
  PE.imp h fun σ H Q hh => rng1_ok hh fun j H1 ρ' As' Z' z R b1 b2 ec q => by
    unfold cvV at ec
    dsimp only at ec
    by_cases hz : (rngD 0 j.toNat).length ≤ sizeLine
    · rw [if_pos hz] at ec
      cases ec
      rw [rngD_len, sizeLine_eq] at hz
      exact ⟨j, rfl, ⟨by omega, by omega, b1, b2, by rw [Int.sub_zero]; exact hz⟩, fun p ob hp pl => q _ _ (New.tup hp pl rg_im)⟩
    · rw [if_neg hz] at ec; cases ec
theorem s_lstRg (h : PE X e (tLstRg (tRg1 (tE G fa)))) : PE X e (tE G (cvF .list (rng1F fa))) :=
  PE.imp h fun σ H Q hh => rng1_ok hh fun j H1 ρ' As' Z' z R b1 b2 ec q => by
    unfold cvV at ec
    dsimp only at ec
    by_cases hz : (rngD 0 j.toNat).length ≤ sizeLine
    · rw [if_pos hz] at ec
      cases ec
      rw [rngD_len, sizeLine_eq] at hz
      exact ⟨j, rfl, ⟨by omega, by omega, b1, b2, by rw [Int.sub_zero]; exact hz⟩, fun p hp => q _ _ (New.lst hp rg_im)⟩
    · rw [if_neg hz] at ec; cases ec
/-! ### list(d.values()) -/
theorem pairedAt {α β : Type} {R : α → β → Prop} : ∀ {as : List α} {bs : List β} {j : Nat} {a : α} {b : β}, Paired R as bs → as[j]? = some a → bs[j]? = some b → R a b
  | _, _, _, _, _, .nil, e, _ => by simp at e
  | _, _, 0, _, _, .cons r t, e1, e2 => by
    simp at e1 e2
    subst e1 e2
    exact r
  | _, _, j + 1, _, _, .cons r t, e1, e2 => pairedAt (j := j) t (by simpa using e1) (by simpa using e2)
def tLstVals (td : TE) : TE := fun σ H Q => td σ H fun x H1 => ∃ d kvs, x = .ref d ∧ H1 d = some (.dK kvs) ∧ ∀ l, H1 l = none → Q (.ref l) (upd H1 l (.lst (kvs.map (·.2))))
open PyProof.Rows in
theorem pe_lstVals {o : Expr} {ap : Pos} {td : TE} (hc : X.calm = true) (hg : Gl X "list") (hm : X.mg "list" = none) (ho : PE X o td) (hbase : attributeBase o "values" X.env (eval o X.env) = eval o X.env) (hline : (ap.endLine == zp.line) = true) :
    PE X (.Call (.Name "list" p) [.Call (.Attribute o "values" ap) [] [] zp] [] pos) (tLstVals td) := by
  refine ⟨fun pins s σ H Q I h => ?_⟩
  refine Call_ (ld_blt I hg hm boot_list (PyProof.Rows.callWith_type1 (args_cons ?_ rfl) rfl))
  refine wpAny_Call_method (T := "dict") (id := "dict.values") hbase rfl hline F.plainAttrs_dict F.slot_dict_values F.type_dict_values (thn (ho.run pins s σ H _ I h) fun u s1 ⟨x, H1, I1, rx, d, kvs, ex, hd, q⟩ => ?_)
  subst ex
  obtain rfl : u = Value.ref d := rx
  obtain ⟨z, lo, vs, rel, dd⟩ := dk_of I1.hok hd
  refine ⟨dd.typeIs, dd.mapOf.noDict, ?_⟩
  have I2 : Inv X pins σ H1 { s1 with heap := s1.heap.push { cls := .type "dict_values", data := .fields #[.ref d] } } := I1.kept (t' := s1.toks) fun b ob q => Heap.get?_push_of_some _ q
  have dd2 := dd.push { cls := .type "dict_values", data := .fields #[.ref d] }
  obtain ⟨ep, hat⟩ := dd2.dictAt
  have hl : kvs.length = vs.length := Paired.length rel
  show wpAny _ _ (callWith zp (.builtin "dict.values") [.ref d] [] []) _ X.xe s1
  refine method_meetsIn F.slot_dict_values F.entry_dict_values rfl (PySem.evalArgs_none ⟨rfl, dd.typeIs, F.args_dict_values_1 _, _, meets_dict_values (mixKind X.prog X.w) d lo, ⟨vs, dd⟩, ?_⟩)
  refine args_nil ?_
  refine PySem.W.kdl_call (s := { s1 with heap := s1.heap.push { cls := .type "dict_values", data := .fields #[.ref d] } }) (PySem.W.kdl_values (knd := mixKind X.prog X.w) (r := s1.heap.objs.size) (d := d) (kvs := vs) (ep := ep)) (I1.ok.hd hc) ⟨⟨_, Heap.get?_push_size _ rfl, rfl, rfl⟩, hat⟩ (by rw [← hl]; exact z) fun h' tk acc' c' hkeep hS hacc => ?_
  refine ⟨.ref _, upd H1 _ (.lst (kvs.map (·.2))), I2.laid hkeep (Nat.le_refl _) (show ObjOk X.prog X.w _ _ _ (.lst (kvs.map (·.2))) from ⟨?_, acc'.toList, c', ?_, ?_⟩), rfl, q _ (I2.hok.fresh (Nat.le_refl _))⟩
  · rw [List.length_map]; exact z
  · have el : acc'.toList.length = acc'.size := by simp
    refine vals_of_at (by rw [List.length_map, el, hacc.1, hl]) fun j x w h1 h2 => ?_
    obtain ⟨k, hky⟩ := hacc.2 j w (by rw [← Array.getElem?_toList]; exact h2)
    rw [List.getElem?_map] at h1
    cases ek : kvs[j]? with
    | none => rw [ek] at h1; cases h1
    | some kv =>
      rw [ek] at h1
      cases h1
      exact (pairedAt rel ek hky).2
  · rw [Array.toArray_toList]; exact hS
theorem KIm.vals : ∀ {ys : List (Key × V)} {kvs : List (Key × D)}, KIm K H Z ys kvs → ImA K H Z (ys.map (·.2)) (kvs.map (·.2))
  | _, _, .nil => .nil
  | _, _, .cons r t => .cons r.2 (KIm.vals t)
theorem s_lstVals (h : PE X e (tLstVals (tE G fa))) : PE X e (tE G (cvF .list (valsF fa))) :=
  PE.imp h fun σ H Q ⟨ρ, As, Z, R, hO⟩ => by
    unfold cvF valsF at hO
    try dsimp only at hO
    rw [bind_bind] at hO
    refine bindE Stp.refl R hO fun h1 ρ1 v H1 As1 Z1 ax R1 S1 _ n1 _ hO1 => ?_
    try dsimp only at hO1
    cases d1 : dr ρ1 h1 with
    | none => rw [d1] at hO1; exact hO1.elim
    | some x =>
      rw [d1] at hO1
      cases x with
      | dct kvs =>
        dsimp only [Out.bind] at hO1
        unfold cvV at hO1
        dsimp only at hO1
        by_cases hz : (kvs.map (·.2)).length ≤ sizeLine
        · rw [if_pos hz] at hO1
          obtain ⟨o, r, _⟩ := n1.dr R1 d1
          obtain ⟨a, ys, rfl, ha, kk⟩ := r.dct_of
          exact ⟨a, ys, rfl, ha, fun l hl => hO1 _ _ ((Res.new R1 (New.lst hl kk.vals)).trans S1)⟩
        · rw [if_neg hz] at hO1; exact hO1.elim
      | _ => exact hO1.elim
/-! ### enumerate in a for -/
theorem it_enum {a : Addr} {ys : List V} {xs : List D} {H0 : Hp} {Z0 : Addr → Prop} (hs : SqL K H0 a ys) (hz : Z0 a) (ia : ImA K H0 Z0 ys xs) : ItOk K (IteP K a) (enumD xs) H0 Z0 where
  go := fun H Z kp i h => by
    have h' : i < xs.length := by unfold enumD at h; simpa using h
    obtain ⟨v, e, _⟩ := ia.get (List.getElem?_eq_getElem h')
    exact ⟨ys, v, kp.sqL hs hz, e⟩
  yld := fun H Z kp i d v H' e y => by
    obtain ⟨T, x, ob, rfl, hT, pl, rfl, q⟩ := y
    have q := q ys (kp.sqL hs hz)
    obtain ⟨dx, edx, im⟩ := (ia.keep kp).get' q
    have ed : (enumD xs)[i]? = some (.tuple [.int (i : Int), dx]) := by
      unfold enumD
      rw [List.getElem?_map, List.getElem?_zipIdx, edx]
      simp
    rw [ed] at e
    cases e
    have s := Same.up (o := .frz ob (.tup [.int (i : Nat), x])) hT
    exact ⟨s, .tup ⟨ob, pl, upd_same⟩ (.cons (.int _) (.cons (im.keep (Same.kp s)) .nil))⟩
  stop := fun H Z kp i h => ⟨ys, kp.sqL hs hz, by unfold enumD at h; rw [ia.length]; simpa using h⟩
theorem s_enum {elts : List Expr} {kk : Nat} {tpos : Pos} (hK : X.K = G.K) (h : PI X (.Tuple elts kk tpos) e (iEnumP X.K (tCons (tE G fa) tNil))) : PI X (.Tuple elts kk tpos) e (tI G (enumF fa)) :=
  PI.imp h fun σ H Rk ⟨ρ, As, Z, R, hO⟩ => by
    unfold enumF at hO
    try dsimp only at hO
    refine ⟨ρ, As, Z, R, ?_⟩
    cases ea : fa ρ with
    | bad => rw [ea] at hO; exact hO.elim
    | exc x r => rw [ea] at hO; exact hO
    | ok h ρ1 =>
      rw [ea] at hO
      dsimp only [Out.bind] at hO
      intro v H1 ⟨As1, Z1, ax, R1, S1, n, fr⟩
      cases et : tr ρ1 h with
      | none => rw [et] at hO; exact hO.elim
      | some p =>
        obtain ⟨t, r⟩ := p
        rw [et] at hO
        cases t with
        | list xs =>
          obtain ⟨As2, Z2, R2, S2, im⟩ := n.tr R1 et fr S1
          obtain ⟨a, ys, ev, hs, hz, ia⟩ := im.lst_v
          rw [hK]
          exact ⟨a, ys, by rw [ev], SqL.of hs, hO _ H1 ⟨As2, Z2, R2, S2, it_enum (SqL.of hs) hz ia⟩⟩
        | none => exact hO.elim
        | bool b => exact hO.elim
        | int b => exact hO.elim
        | str b => exact hO.elim
        | tuple b => exact hO.elim
        | dict b => exact hO.elim
/-! ### t[::-1] of a tuple -/
def tRevT (K : PySem.W.Frag) (te : TE) : TE := fun σ H Q => te σ H fun x H1 => ∃ a xs, x = .ref a ∧ SqT K H1 a xs ∧ ∀ p ob, H1 p = none → Pl ob → Q (.ref p) (upd H1 p (.frz ob (.tup xs.reverse)))
end
end Q
/-! QO: t[::-1]; index; dict of pairs. -/
namespace Q
open PySem L2 PyProof.Rows HT
section
variable {prog : Program} {w : World} {A : Around} {E : Value → Shared → Prop} {s : Shared}
theorem filterMapCongr {α β : Type} {f g : α → Option β} : ∀ {l : List α}, (∀ x ∈ l, f x = g x) → l.filterMap f = l.filterMap g
  | [], _ => rfl
  | a :: l, h => by
    rw [List.filterMap_cons, List.filterMap_cons, h a (List.mem_cons_self ..), filterMapCongr fun x hx => h x (List.mem_cons_of_mem _ hx)]
theorem adjust_rev (n : Nat) : Builtin.Slice.sliceAdjust none none (-1) (n : Int) = ((n : Int) - 1, -1) := by
  simp [Builtin.Slice.sliceAdjust]
theorem places_rev (n : Nat) : Builtin.Slice.slicePlaces ((n : Int) - 1) (-1) (-1) = n := by
  unfold Builtin.Slice.slicePlaces
  have h1 : ¬ ((-1 : Int) > 0) := by omega
  simp only [h1, if_false, Int.neg_neg, Int.ediv_one]
  split <;> omega
theorem pick_rev (xs : List Value) : (List.range xs.length).filterMap (fun (k : Nat) => xs[((xs.length : Int) - 1 + (k : Int) * (-1)).toNat]?) = xs.reverse := by
  refine List.ext_getElem? fun i => ?_
  have e : (List.range xs.length).filterMap (fun (k : Nat) => xs[((xs.length : Int) - 1 + (k : Int) * (-1)).toNat]?) = (List.range xs.length).map (fun k => (xs[xs.length - 1 - k]?).getD .none) := by
    rw [← List.filterMap_eq_map]
    refine filterMapCongr fun k hk => ?_
    have hk' : k < xs.length := List.mem_range.mp hk
    have e1 : ((xs.length : Int) - 1 + (k : Int) * (-1)).toNat = xs.length - 1 - k := by omega
    rw [e1]
    show xs[xs.length - 1 - k]? = some ((xs[xs.length - 1 - k]?).getD .none)
    rw [List.getElem?_eq_getElem (by omega)]
    rfl
  rw [e, List.getElem?_map]
  by_cases hi : i < xs.length
  · rw [List.getElem?_range hi, List.getElem?_reverse hi]
    simp only [Option.map_some]
    rw [List.getElem?_eq_getElem (by omega)]
    rfl
  · rw [List.getElem?_eq_none (by rw [List.length_range]; omega), List.getElem?_eq_none (by rw [List.length_reverse]; omega)]
    rfl
theorem sliceApplied_rev {sl : Addr} {vl vu vs : Value} {n : Nat} {Q : Int × Int × Nat → Shared → Prop} (hs : s.heap.IsSliceOf sl vl vu vs) (pl : IsPart vl none) (pu : IsPart vu none) (ps : IsPart vs (some (-1)))
    (h : Q ((n : Int) - 1, -1, n) s) : wpAny (model prog w) A (Builtin.Slice.sliceApplied (.ref sl) (pure (n : Int))) Q E s := by
  obtain ⟨os, hos, hcs, hds⟩ := id hs
  unfold Builtin.Slice.sliceApplied Builtin.Slice.sliceFields
  refine wpAny_bind (wpAny_bind (wpAny_field hos hds (x := vl) rfl (wpAny_bind (wpAny_field hos hds (x := vu) rfl (wpAny_bind (wpAny_field hos hds (x := vs) rfl (wpAny_pure ?_)))))))
  refine wpAny_bind (slicePart_ ps ?_)
  show wpAny _ _ (if ((-1 : Int) == 0) = true then _ else _) _ _ s
  rw [if_neg (by decide)]
  refine wpAny_bind (slicePart_ pl (wpAny_bind (slicePart_ pu (wpAny_bind (wpAny_pure ?_)))))
  show wpAny _ _ (match Builtin.Slice.sliceAdjust none none (-1) (n : Int) with | (lo, hi) => pure (lo, (-1 : Int), Builtin.Slice.slicePlaces lo hi (-1))) _ _ s
  rw [adjust_rev n]
  show wpAny _ _ (pure ((n : Int) - 1, (-1 : Int), Builtin.Slice.slicePlaces ((n : Int) - 1) (-1) (-1))) _ _ s
  rw [places_rev]
  exact wpAny_pure h
theorem getItem_tuple_rev {t sl : Addr} {items : Array Value} {vl vu vs : Value} {Q : Value → Shared → Prop} (ht : IsTup s.heap t items) (hs : s.heap.IsSliceOf sl vl vu vs) (pl : IsPart vl none) (pu : IsPart vu none) (ps : IsPart vs (some (-1))) (hz : items.size ≤ sizeLine)
    (h : Q (.ref s.heap.objs.size) { s with heap := s.heap.push { cls := .type "tuple", data := .seq items.toList.reverse.toArray } }) : wpAny (model prog w) A (getItem (.ref t) (.ref sl)) Q E s := by
  obtain ⟨os, hos, hcs, hds⟩ := id hs
  have hTs : s.TypeIs (.ref sl) "slice" := ⟨os, hos, hcs⟩
  unfold getItem
  try with_reducible refine wpAny_holding ?_
  first | refine wpAny_bind (wpAny_pure ?_) | skip
  refine wpAny_bind (wpAny_sequenceKey ht.typeIs (by decide) ?_)
  refine wpAny_bind (wpAny_callSpecial?_slot (name := Str.ofString "__getitem__") ht.typeIs PyProof.Rows.slot_tuple_getitem
    (wpAny_call_entry PyProof.Rows.slot_tuple_getitem ht.typeIs entry_tuple_getitem ?_ (args_tuple_getitem _ _)))
  show wpAny _ _ (Builtin.Tuple.tupleItemsOf (.ref t) >>= _) _ _ s
  refine wpAny_bind (tupleItemsOf_ ht ?_)
  refine wpAny_bind (wpAny_typeOf hTs ?_)
  rw [if_pos (by decide)]
  refine wpAny_bind (sliceApplied_rev hs pl pu ps ?_)
  have hno : ¬ (((items.size : Int) - 1 == 0 && (-1 : Int) == 1 && items.size == items.size) = true) := by simp
  show wpAny _ _ (if ((items.size : Int) - 1 == 0 && (-1 : Int) == 1 && items.size == items.size) = true then _ else _) _ _ s
  rw [if_neg hno]
  refine wpAny_bind (m := Builtin.Tuple.tupleExact _) ?_
  unfold Builtin.Tuple.tupleExact
  have e : ((List.range items.size).filterMap fun (k : Nat) => items[((items.size : Int) - 1 + (k : Int) * (-1)).toNat]?) = items.toList.reverse := by
    have q := pick_rev items.toList
    rw [← q]
    rw [Array.length_toList]
    refine filterMapCongr fun k _ => ?_
    rw [Array.getElem?_toList]
  rw [e]
  refine wpAny_newObj_type ?_ (by show items.toList.reverse.toArray.size ≤ sizeLine; rw [List.size_toArray, List.length_reverse, Array.length_toList]; exact hz)
  exact wpAny_pure ⟨_, rfl, wpAny_pure h⟩
end
section
variable {X : Cx}
theorem pe_revT {e : Expr} {te : TE} {k : Nat} {p1 p2 p3 pos : Pos} (he : PE X e te) : PE X (.Subscript e (.Slice none none (some (.UnaryOp .USub (.Constant (.int 1) k p1) p2)) p3) pos) (tRevT X.K te) := by
  refine ⟨fun pins s σ H Q I h => ?_⟩
  refine Subscript_ (thn (he.run pins s σ H _ I h) fun v s1 ⟨x, H1, I1, r1, q1⟩ => ?_)
  obtain ⟨a, xs, ex, hx, q⟩ := q1
  subst ex
  cases r1
  have hst : PO X (some (.UnaryOp .USub (.Constant (.int 1) k p1) p2)) (tPart (tUn (rU fun i => .int (-i)) (tC (.int 1)))) := po_some (pe_un un_neg pe_int)
  refine wpAny_Slice (thn (po_none.run pins s1 σ H1 (fun o H2 => o = none ∧ H2 = H1) I1 ⟨rfl, rfl⟩) fun vl s2 ⟨l, H2, I2, pl, el, e2⟩ => ?_)
  subst el e2
  refine thn (po_none.run pins s2 σ H2 (fun o H3 => o = none ∧ H3 = H2) I2 ⟨rfl, rfl⟩) fun vu s3 ⟨u, H3, I3, pu, eu, e3⟩ => ?_
  subst eu e3
  refine thn (hst.run pins s3 σ H3 (fun o H4 => o = some (-1) ∧ H4 = H3) I3 ⟨1, rfl, -1, rfl, rfl, rfl⟩) fun vs s4 ⟨o, H4, I4, ps, eo, e4⟩ => ?_
  subst eo e4
  have I5 : Inv X pins σ H4 { s4 with heap := s4.heap.push { cls := .type "slice", data := .fields #[vl, vu, vs] } } := I4.kept (t' := s4.toks) fun b ob q => Heap.get?_push_of_some _ q
  obtain ⟨its, r, ht, hz⟩ := I5.tuple hx
  show wpAny (model X.prog X.w) X.A (subscriptTail e (.Slice none none (some (.UnaryOp .USub (.Constant (.int 1) k p1) p2)) p3) (.ref a) (.ref s4.heap.objs.size)) (EP X pins σ Q) X.xe { s4 with heap := s4.heap.push { cls := .type "slice", data := .fields #[vl, vu, vs] } }
  refine tail_any (ops := [.ref a, .ref s4.heap.objs.size]) ht.typeIs (PyProof.Rows.slot_tuple_getitem.lookup) ?_ (by with_unfolding_all rfl)
  refine getItem_tuple_rev ht (Heap.IsSliceOf.new _ vl vu vs) pl pu ps (by rw [List.size_toArray, ← r.length]; exact hz) ?_
  exact layT I5 r.reverse (by rw [List.length_reverse]; exact hz) q
end
end Q
/-! QW: index, t[::-1], dict(..). -/
namespace Q
open PySem L2
section
variable {G : Gs} {pin : List Bool} {σ : L2.St} {H H1 H2 H3 : Hp} {As As1 As2 : AsT} {Z Z1 Z2 : Addr → Prop} {ρ ρ1 ρ2 : Rho} {X : Cx} {e a b c : Expr} {fa fb fc : Rho → Out Hd} {pos p q zp : Pos} {x : Str} {K : PySem.W.Frag}
theorem s_rev (hK : X.K = G.K) (h : PE X e (tRevT X.K (tE G fa))) : PE X e (tE G fun ρ => (fa ρ).bind fun h ρ => lift1 ρ h revV fun xs => .d (.tuple xs.reverse)) :=
  PE.imp h fun σ H Q hh => un_tE (r := fun x H1 Q => ∃ a xs, x = .ref a ∧ SqT X.K H1 a xs ∧ ∀ p ob, H1 p = none → Pl ob → Q (.ref p) (upd H1 p (.frz ob (.tup xs.reverse)))) (fun H Z v x ox z Q h e k => by
    unfold revV at e
    split at e
    · cases e
      obtain ⟨a, us, rfl, ha, ia⟩ := h.2.tup_v
      rw [hK]
      exact ⟨a, us, rfl, ha, fun p ob hp pl => k _ _ (New.tup hp pl ia.reverse)⟩
    · cases e) hh
/-! index -/
theorem idxD_spec (y : D) : ∀ (xs : List D) (s i : Nat), idxD y xs s = some i → s ≤ i ∧ ∃ z, xs[i - s]? = some z ∧ PyData.eqv z y = true ∧ ∀ (m : Nat) z', m < i - s → xs[m]? = some z' → PyData.eqv z' y = false
  | [], s, i, e => by cases e
  | x :: xs, s, i, e => by
    unfold idxD at e
    split at e
    · rename_i h
      cases e
      exact ⟨Nat.le_refl _, x, by simp, h, fun m z' hm => absurd hm (by omega)⟩
    · rename_i h
      obtain ⟨h1, z, h2, h3, h4⟩ := idxD_spec y xs (s + 1) i e
      refine ⟨by omega, z, ?_, h3, fun m z' hm hz => ?_⟩
      · rw [show i - s = (i - (s + 1)) + 1 by omega]; simpa using h2
      · cases m with
        | zero => simp at hz; subst hz; simpa using h
        | succ m => exact h4 m z' (by omega) (by simpa using hz)
theorem idx_ints (k : Int) : ∀ (ns : List Int) (s i : Nat), idxD (.int k) (ns.map PyData.int) s = some i → k ∈ ns ∧ i = s + ns.idxOf k
  | [], s, i, e => by cases e
  | n :: ns, s, i, e => by
    rw [List.map_cons] at e
    unfold idxD at e
    have hh : PyData.eqv (.int n) (.int k) = decide (n = k) := by
      show (n == k) = decide (n = k)
      by_cases h : n = k <;> simp [h]
    rw [hh] at e
    by_cases h : n = k
    · subst h
      simp at e
      subst e
      simp
    · simp [h] at e
      obtain ⟨h1, h2⟩ := idx_ints k ns (s + 1) i e
      refine ⟨List.mem_cons_of_mem _ h1, ?_⟩
      rw [List.idxOf_cons, h2]
      have : (n == k) = false := by simpa using h
      rw [this]
      simp only [cond_false]
      omega
def rIndexT (K : PySem.W.Frag) : V → List V → Hp → VK → Prop := fun x xs H Q => ∃ (a : Addr) (ns : List Int) (k : Int), x = V.ref a ∧ xs = [.int k] ∧ SqT K H a (ns.map V.int) ∧ k ∈ ns ∧ Q (.int (ns.idxOf k : Nat)) H
theorem mt_indexT : MtR X "tuple.index" (rIndexT X.K) := by
  intro pins s σ H x xs v us Q I rx rxs h
  obtain ⟨a, ns, k, rfl, rfl, hs, hk, q⟩ := h
  cases rx
  obtain ⟨u, rfl, ru⟩ := rxs.one
  obtain ⟨t, rfl⟩ := ru
  obtain ⟨its, rv, ht, hz⟩ := I.tuple hs
  exact SeqAt.tuple_index_ints (show s.heap.IsTuple a its.toArray from ht) rv.ints hk ⟨.int _, H, I.tok _, ⟨_, rfl⟩, q⟩
theorem one_of {α : Type} {l : List α} (h : l.length = 1) : ∃ a, l = [a] := List.length_eq_one_iff.mp h
def tMthT (K : PySem.W.Frag) (r : V → List V → Hp → VK → Prop) (to : TE) (t : TA) : TE := fun σ H Q => to σ H fun x H1 => (∃ (c : Addr) (ob : Obj) (ys : List V), x = .ref c ∧ Pl ob ∧ H1 c = some (.frz ob (.tup ys))) ∧ t σ H1 fun xs H2 => r x xs H2 Q
theorem index_tE {fs : Rho → Out (List Hd)} {Q : VK} (h : tE G (mthF .index fa fs) σ H Q) : tBM G.K "list" (rIndex G.K) (tE G fa) (tL G fs) σ H Q ∨ tMthT G.K (rIndexT G.K) (tE G fa) (tL G fs) σ H Q := by
  obtain ⟨ρ, As, Z, R, hO⟩ := h
  unfold mthF at hO
  try dsimp only at hO
  cases ea : fa ρ with
  | bad => rw [ea] at hO; exact hO.elim
  | exc x r => rw [ea] at hO; exact .inl ⟨ρ, As, Z, R, by rw [ea]; exact hO⟩
  | ok h ρ1 =>
    rw [ea] at hO
    dsimp only [Out.bind] at hO
    cases d0 : dr ρ1 h with
    | none => rw [d0] at hO; exact hO.elim
    | some x0 =>
      rw [d0] at hO
      by_cases tu : ∃ xs, x0 = .d (.tuple xs)
      · right
        obtain ⟨xs, rfl⟩ := tu
        dsimp only at hO
        refine ⟨ρ, As, Z, R, ?_⟩
        rw [ea]
        intro v H1 ⟨As1, Z1, ax, R1, S1, n1, fr1⟩
        obtain ⟨ox0, r0, _⟩ := n1.dr R1 d0
        obtain ⟨a0, us0, rfl, ⟨ob, pl, ha0⟩, ia0⟩ := r0.2.tup_p
        refine ⟨⟨a0, ob, us0, rfl, pl, ha0⟩, ρ1, As1, Z1, R1, ?_⟩
        cases es : fs ρ1 with
        | bad => rw [es] at hO; exact hO.elim
        | exc y r => rw [es] at hO; exact OutX.trans S1 hO
        | ok gs ρ2 =>
          rw [es] at hO
          try dsimp only [Out.bind] at hO
          intro ws H2 ⟨As2, Z2, R2, S2, axs, nl, fl⟩
          cases d2 : drs ρ2 gs with
          | none => rw [d2] at hO; exact hO.elim
          | some ys =>
            rw [d2] at hO
            have l3 := drs_len d2
            obtain ⟨l1, l2⟩ := nl.len
            try dsimp only at hO
            split at hO
            · rename_i k heq
              cases heq
              obtain ⟨g, rfl⟩ := one_of (show gs.length = 1 by first | exact l3 | exact l3.symm | (simp at l3; omega))
              obtain ⟨w, rfl⟩ := one_of (show ws.length = 1 by first | (simp at l1 l2; omega) | (simp at l1; omega))
              obtain ⟨ax', rfl⟩ := one_of (show axs.length = 1 by first | (simp at l1 l2; omega) | (simp at l2; omega))
              cases ei : idxTV xs k with
              | none => rw [ei] at hO; exact hO.elim
              | some j =>
                rw [ei] at hO
                unfold idxTV at ei
                cases en : intsOf xs with
                | none => rw [en] at ei; cases ei
                | some ns =>
                  rw [en] at ei
                  dsimp only at ei
                  have dg : dr ρ2 g = some (.d (.int k)) := by
                    unfold drs at d2
                    cases dg : dr ρ2 g with
                    | none => rw [dg] at d2; cases d2
                    | some xg => rw [dg] at d2; cases d2; rfl
                  obtain ⟨rfl, exs⟩ := ia0.ints en
                  rw [exs] at ei
                  obtain ⟨hk, ej⟩ := idx_ints k ns 0 j ei
                  rw [Nat.zero_add] at ej
                  subst ej
                  obtain rfl := int_of R2 nl.1 dg
                  have kp := R1.keep S2
                  exact ⟨a0, ns, k, rfl, rfl, .inl (.inr ⟨ob, kp.k _ _ ha0 id⟩), hk, hO _ H2 ((Res.new R2 (New.d (.int _))).trans (S1.trans S2))⟩
            · exact hO.elim
      left
      have hO : OutQ G σ H As Z (if (lstOf x0).isSome then (fs ρ1).bind fun gs r => match dr r h, drs r gs with
        | some x, some ys => match mthV .index x ys with
            | some z => .ok (.v z) r
            | none => .bad
        | _, _ => .bad
      else .bad) Q := by
        cases x0 with
        | d y =>
          cases y with
          | tuple xs => exact absurd ⟨xs, rfl⟩ tu
          | _ => exact hO
        | _ => exact hO
      refine ⟨ρ, As, Z, R, ?_⟩
      rw [ea]
      by_cases hs : (lstOf x0).isSome = true
      case neg => rw [if_neg hs] at hO; exact hO.elim
      rw [if_pos hs] at hO
      obtain ⟨xs0, es0⟩ := Option.isSome_iff_exists.mp hs
      intro v H1 ⟨As1, Z1, ax, R1, S1, n1, fr1⟩
      obtain ⟨ox0, r0, _⟩ := n1.dr R1 d0
      obtain ⟨a0, us0, rfl, ha0, _⟩ := r0.lst_of es0
      refine ⟨Or.inl ⟨rfl, _, SqL.of ha0⟩, ρ1, As1, Z1, R1, ?_⟩
      cases es : fs ρ1 with
      | bad => rw [es] at hO; exact hO.elim
      | exc y r => rw [es] at hO; exact OutX.trans S1 hO
      | ok gs ρ2 =>
        rw [es] at hO
        try dsimp only [Out.bind] at hO
        intro ws H2 ⟨As2, Z2, R2, S2, axs, nl, fl⟩
        cases d1 : dr ρ2 h with
        | none => rw [d1] at hO; exact hO.elim
        | some x =>
          cases d2 : drs ρ2 gs with
          | none => rw [d1, d2] at hO; exact hO.elim
          | some ys =>
            rw [d1, d2] at hO
            dsimp only at hO
            cases em : mthV .index x ys with
            | none => rw [em] at hO; exact hO.elim
            | some z =>
              rw [em] at hO
              dsimp only at hO
              have em' := em
              unfold mthV at em
              split at em
              · rename_i yy _
                split at em
                · rename_i xs exs
                  split at em
                  · rename_i hc
                    split at em
                    · rename_i i hi
                      cases em
                      obtain ⟨ox, rx, _⟩ := (n1.keep R1 S2).dr R2 d1
                      have l3 := drs_len d2
                      obtain ⟨l1, l2⟩ := nl.len
                      match gs, ws, axs, nl, d2, l3, l1, l2 with
                      | [g], [w], [ax'], nl, d2, _, _, _ =>
                        obtain ⟨nw, nr, _⟩ := nl
                        have dg : dr ρ2 g = some (.d yy) := by
                          unfold drs at d2
                          cases dg : dr ρ2 g with
                          | none => rw [dg] at d2; cases d2
                          | some xg => rw [dg] at d2; cases d2; rfl
                        obtain ⟨oy, ry, _⟩ := nw.dr R2 dg
                        obtain ⟨a, us, ea', ha, ia⟩ := rx.lst_of exs
                        cases ea'
                        simp only [Bool.and_eq_true] at hc
                        obtain ⟨_, z, h2, h3, h4⟩ := idxD_spec yy xs 0 i hi
                        rw [Nat.sub_zero] at h2
                        obtain ⟨vz, hvz, imz⟩ := ia.get h2
                        refine ⟨a0, us, w, i, vz, rfl, rfl, SqL.of ha, flat_of ry.2 hc.1, flats_of ia hc.2, hvz, ?_, fun m z' hm hz' => ?_, hO _ H2 ((Res.new R2 (New.d (.int _))).trans (S1.trans S2))⟩
                        · rw [eqV_eqv imz ry.2 (List.all_eq_true.mp hc.2 _ (List.mem_of_getElem? h2)) hc.1]; exact h3
                        · obtain ⟨dz, edz, imz'⟩ := ia.get' hz'
                          rw [eqV_eqv imz' ry.2 (List.all_eq_true.mp hc.2 _ (List.mem_of_getElem? edz)) hc.1]
                          exact h4 m dz (by omega) edz
                      | [], _, _, _, _, l3, _, _ => simp at l3
                      | _ :: _ :: _, _, _, _, _, l3, _, _ => simp at l3
                      | [_], [], _, _, _, _, l1, l2 => simp at l1 l2
                      | [_], _ :: _ :: _, _, _, _, _, l1, l2 => simp at l1 l2
                      | [_], [_], [], _, _, _, l1, l2 => simp at l1 l2
                      | [_], [_], _ :: _ :: _, _, _, _, l1, l2 => simp at l1 l2
                    · cases em
                  · cases em
                · cases em
              · cases em
open PyProof.Rows in
theorem pe_mthT {ap : Pos} {a o : Expr} {to : TE} {t : TA} (ho : PE X o to) (ha : PA X [a] t) (hbase : attributeBase o "index" X.env (eval o X.env) = eval o X.env) (hline : (ap.endLine == pos.line) = true) (hs : starEach [a] X.env = (false, eval a X.env) :: starEach [] X.env) :
    PE X (.Call (.Attribute o "index" ap) [a] [] pos) (tMthT X.K (rIndexT X.K) to t) := by
  refine ⟨fun pins s σ H Q I h => ?_⟩
  refine wpAny_Call_method_late hbase (by rw [hs]; rfl) hline rfl (thn (ho.run pins s σ H _ I h) fun v s1 ⟨x, H1, I1, r1, ⟨c, ob, ys, ex, pl, hc⟩, q1⟩ => ?_)
  subst ex
  obtain rfl : v = Value.ref c := r1
  obtain ⟨g, _⟩ := (show ObjOk X.prog X.w H1 s1.heap c (.frz ob (.tup ys)) from I1.hok c _ hc)
  refine ⟨"tuple", "tuple.index", F.plainAttrs_tuple, F.slot_tuple_index, F.type_tuple_index, ⟨ob, g, pl.1⟩, fun b e => by cases e; exact ⟨ob, g, pl.2⟩, ?_⟩
  have hA := ha.run pos pins s1 σ H1 _ I1 q1
  rw [hs] at hA ⊢
  refine Calls.callWith_builtin rfl (Calls.evalArgs_plain ?_)
  exact thn hA fun us s2 ⟨vs, H2, I2, r2, q2⟩ => mt_indexT pins s2 σ H2 (.ref c) vs (.ref c) us Q I2 rfl r2 q2
end
end Q
/-! QU: dict(..). -/
namespace Q
open PySem L2 PyProof.Rows
section
variable {X : Cx} {K : PySem.W.Frag} {H : Hp} {Z : Addr → Prop}
theorem pairsOf2 {pins : List (Addr × Obj)} {σ : L2.St} {H : Hp} {s : Shared} (I : Inv X pins σ H s) : ∀ {ps : List Addr} {kvs : List (Key × V)}, Paired (fun p kv => SqT X.K H p [kV kv.1, kv.2]) ps kvs →
    ∃ (prs : List (Key × Value)) (vps : List (Value × Value)), KV kvs prs ∧ prs.length = ps.length ∧ vps.length = ps.length ∧ ∀ (j : Nat) (b : Addr), ps[j]? = some b → ∃ q uv, prs[j]? = some q ∧ vps[j]? = some uv ∧ IsTup s.heap b #[uv.1, uv.2] ∧ uv.2 = q.2 ∧ keyIs q.1 uv.1 = true
  | _, _, .nil => ⟨[], [], .nil, rfl, rfl, fun j q e => by simp at e⟩
  | _, _, .cons (a := p) (b := kv) h t => by
    obtain ⟨prs, vps, r, l1, l2, hp⟩ := pairsOf2 I t
    obtain ⟨its, rv, ht, _⟩ := I.tuple h
    obtain ⟨u, y, ei, ru, ry⟩ := vals2 rv
    subst ei
    refine ⟨(kv.1, y) :: prs, (u, y) :: vps, .cons ⟨rfl, ry⟩ r, by simp [l1], by simp [l2], fun j b e => ?_⟩
    cases j with
    | zero =>
      have e' : p = b := Option.some.inj e
      subst e'
      exact ⟨_, _, rfl, rfl, ht, rfl, kV_is (P := X.prog) (w := X.w) ru⟩
    | succ j =>
      obtain ⟨q, uv, e1, e2, e3⟩ := hp j b (by simpa using e)
      exact ⟨q, uv, by simpa using e1, by simpa using e2, e3⟩
theorem call_dictT (hcalm : X.calm = true) : CallR X (.type "dict") (fun xs H Q => ∃ (a : Addr) (ps : List Addr) (kvs : List (Key × V)), xs = [.ref a] ∧ SqP H a (ps.map V.ref) ∧ Paired (fun p kv => SqT X.K H p [kV kv.1, kv.2]) ps kvs ∧
    ∀ p, H p = none → Q (.ref p) (upd H p (.dK (mergeK [] kvs)))) := by
  intro pins s σ H xs us Q I r q
  obtain ⟨a, ps, kvs, rfl, ⟨ob, pl, hq⟩, hp, q⟩ := q
  rw [Vals.ref1 r]
  obtain ⟨g, hz, its, rv, ob', g', hc', n, hd'⟩ := (show ObjOk X.prog X.w H s.heap a (.frz ob (.tup (ps.map V.ref))) from I.hok a _ hq)
  have eo : ob = ob' := Option.some.inj (g.symm.trans g')
  subst eo
  have ei := refs_at rv
  subst ei
  rw [List.length_map] at hz
  obtain ⟨prs, vps, rel, l1, l2, hpr⟩ := pairsOf2 I hp
  have PA := PySem.PairArg.tuple (prog := X.prog) (w := X.w) a (ps.map Value.ref).toArray (fun j => ps.getD j 0) vps
  have ok : PySem.PlainSeq "tuple" s.heap a (ps.map Value.ref).toArray ∧ PySem.PairItems s.heap (ps.map Value.ref).toArray (fun j => ps.getD j 0) vps := by
    refine ⟨⟨ob, n, g, pl.1, pl.2, hd'⟩, by simp [l2], fun j k v hj => ?_⟩
    have hjl : j < ps.length := by rw [← l2]; exact (List.getElem?_eq_some_iff.mp hj).1
    have eb : ps[j]? = some ps[j] := List.getElem?_eq_getElem hjl
    obtain ⟨q', uv, e1, e2, e3, _, _⟩ := hpr j _ eb
    rw [e2] at hj
    cases hj
    have ed : ps.getD j 0 = ps[j] := by rw [List.getD_eq_getElem?_getD, eb]; rfl
    refine ⟨?_, .inl ?_⟩
    · show (ps.map Value.ref).toArray[j]? = some (.ref (ps.getD j 0))
      rw [ed]
      simp [hjl]
    · show s.heap.IsTuple (ps.getD j 0) #[k, v]
      rw [ed]
      exact e3
  have hv : PySem.PairsHave (mixKind X.prog X.w) vps.length (PySem.PairRel vps) prs := by
    refine ⟨by rw [l1, l2], fun i key v hr => ?_⟩
    have hr : vps[i]? = some (key, v) := hr
    have hil : i < ps.length := by rw [← l2]; exact (List.getElem?_eq_some_iff.mp hr).1
    obtain ⟨q', uv, e1, e2, e3, e4, e5⟩ := hpr i _ (List.getElem?_eq_getElem hil)
    rw [e2] at hr
    cases hr
    refine ⟨q'.1, ?_, e5⟩
    rw [e1]
    have e4 : v = q'.2 := e4
    rw [e4]
  have hm : (s.heap.objs.size == sysModules) = false := beq_eq_false_iff_ne.mpr (Nat.ne_of_gt I.big)
  refine PySem.call_dict_pairs PA (I.ok.hd hcalm) ok hv (by rw [l2]; exact hz) fun h' tk hd2 k => ?_
  have hlen : (mergeK [] kvs).length ≤ sizeLine := by
    refine Nat.le_trans (length_mergeK kvs []) ?_
    rw [List.length_nil, Nat.zero_add, rel.length, l1]
    exact hz
  exact ⟨.ref s.heap.objs.size, upd H s.heap.objs.size (.dK (mergeK [] kvs)), I.laid (t' := tk) (fun b o e => k b o (by simp) e) (Nat.le_refl _) (show ObjOk X.prog X.w _ _ _ (.dK (mergeK [] kvs)) from ⟨hlen, hm, merged [] prs, KV.merge rel .nil, hd2⟩), rfl, q _ (I.hok.fresh (Nat.le_refl _))⟩
theorem mergeD_cons {kvs ps : List (Key × D)} {p : Key × D} : _root_.Q.mergeD kvs (p :: ps) = _root_.Q.mergeD (putD kvs p.1 p.2) ps := by rw [_root_.Q.mergeD]
theorem mergeK_cons {kvs ps : List (Key × V)} {p : Key × V} : mergeK kvs (p :: ps) = mergeK (putK kvs p.1 p.2) ps := by unfold mergeK; rw [List.foldl_cons]
theorem KIm.mergeD {more : List (Key × V)} {ps : List (Key × D)} (r : Paired (fun p q => p.1 = q.1 ∧ Im K H Z p.2 q.2) more ps) : ∀ {ys : List (Key × V)} {kvs : List (Key × D)}, KIm K H Z ys kvs → KIm K H Z (mergeK ys more) (_root_.Q.mergeD kvs ps) := by
  induction r with
  | nil => intro ys kvs h; exact h
  | cons r t ih =>
    intro ys kvs h
    rw [mergeK_cons, mergeD_cons, r.1]
    exact ih (KIm.put h r.2)
theorem pair_im {a : Addr} {us : List V} {ds : List D} {k : Key} {d : D} {r qs : List (Key × D)} {xs : List D} (hp : SqP H a us) (ia : ImA K H Z us ds) (e : pairsOf (.tuple ds :: xs) = some r) :
    ∃ k va vb db qs, us = [va, vb] ∧ va = kV k ∧ Im K H Z vb db ∧ pairsOf xs = some qs ∧ r = (k, db) :: qs := by
  unfold pairsOf at e
  split at e
  · rename_i h; cases h
  · rename_i da db rest h
    cases h
    cases ia with
    | cons h1 ia =>
      cases ia with
      | cons h2 ia =>
        cases ia
        cases ek : keyOf da with
        | none => rw [ek] at e; cases e
        | some k =>
          cases er : pairsOf xs with
          | none => rw [ek, er] at e; cases e
          | some qs =>
            rw [ek, er] at e
            cases e
            exact ⟨k, _, _, db, qs, rfl, key_v h1 ek, h2, rfl, rfl⟩
  · cases e
theorem pairs_im {ys : List V} {xs : List D} (i : ImA K H Z ys xs) : ∀ {ps : List (Key × D)}, pairsOf xs = some ps → ∃ (as : List Addr) (kvs : List (Key × V)), ys = as.map V.ref ∧ Paired (fun p kv => SqT K H p [kV kv.1, kv.2]) as kvs ∧ KIm K H Z kvs ps := by
  induction ys generalizing xs with
  | nil => cases i; intro ps e; cases e; exact ⟨[], [], rfl, .nil, .nil⟩
  | cons y ys ih =>
    cases i with
    | cons h t =>
      intro ps e
      cases h with
      | tup hp ia =>
        obtain ⟨k, va, vb, db, qs, rfl, rfl, h2, er, rfl⟩ := pair_im (k := .inl 0) (d := .none) (r := ps) (qs := []) hp ia e
        obtain ⟨as, kvs, e1, e2, e3⟩ := ih t er
        exact ⟨_ :: as, (k, vb) :: kvs, by rw [e1]; rfl, .cons hp.t e2, .cons ⟨rfl, h2⟩ e3⟩
      | _ => cases e
theorem f1_dict (hc : X.calm = true) : ∃ r, CallR X (.type "dict") r ∧ C1Snd X.K r (f1V .dict) id := by
  refine ⟨_, call_dictD.or ((call_dictP hc).or (call_dictT hc)), fun H Z v x ox z Q h e k => ?_⟩
  dsimp only [f1V] at e
  split at e
  · cases e
    obtain ⟨a, ys, rfl, hd, kk⟩ := h.dct_of
    exact .inl ⟨a, ys, rfl, .of hd, fun p hp => k _ _ (New.dct hp kk)⟩
  · split at e
    · rename_i xs hs
      split at e
      · rename_i ps hps
        cases e
        obtain ⟨a, ys, rfl, hd, ia⟩ := h.seq_p hs
        obtain ⟨as, kvs, rfl, e2, e3⟩ := pairs_im ia hps
        have fin : ∀ p, H p = none → Q (.ref p) (upd H p (.dK (mergeK [] kvs))) := fun p hp => k _ _ (New.dct hp (KIm.mergeD e3 .nil))
        rcases hd with hd | hd
        · exact .inr (.inl ⟨a, as, kvs, rfl, SqL.of hd, e2, fin⟩)
        · exact .inr (.inr ⟨a, as, kvs, rfl, hd, e2, fin⟩)
      · cases e
    · cases e
end
end Q
/-! QD: sorted of tuples of tuples of ints. -/
namespace QS2
open PySem PyProof.Rows
open Q (ltR)
abbrev Row := List (List Int)
theorem lex_eq : ∀ xs ys : List Int, HT.lexLt xs ys = false → HT.lexLt ys xs = false → xs = ys
  | [], [], _, _ => rfl
  | [], y :: ys, h, _ => by rw [HT.lexLt_nil_cons] at h; cases h
  | x :: xs, [], _, h => by rw [HT.lexLt_nil_cons] at h; cases h
  | x :: xs, y :: ys, h1, h2 => by
    rw [HT.lexLt_cons] at h1 h2
    by_cases e : x = y
    · subst e
      rw [if_pos rfl] at h1 h2
      rw [lex_eq xs ys h1 h2]
    · rw [if_neg e] at h1
      rw [if_neg (Ne.symm e)] at h2
      have a := of_decide_eq_false h1
      have b := of_decide_eq_false h2
      omega
theorem lex_self : ∀ xs : List Int, HT.lexLt xs xs = false
  | [] => rfl
  | x :: xs => by rw [HT.lexLt_cons, if_pos rfl]; exact lex_self xs
theorem ltR_cons (x y : List Int) (xs ys : Row) : ltR (x :: xs) (y :: ys) = if x = y then ltR xs ys else HT.lexLt x y := rfl
theorem ltR_asym : ∀ xs ys : Row, ltR xs ys = true → ltR ys xs = false
  | [], [], h => by cases h
  | [], y :: ys, _ => rfl
  | x :: xs, [], h => by cases h
  | x :: xs, y :: ys, h => by
    rw [ltR_cons] at h ⊢
    by_cases e : x = y
    · rw [if_pos e] at h
      rw [if_pos e.symm]
      exact ltR_asym xs ys h
    · rw [if_neg e] at h
      rw [if_neg (Ne.symm e)]
      exact NtL.lex_asym _ _ h
theorem ltR_tr : ∀ xs ys zs : Row, ltR ys xs = false → ltR zs ys = false → ltR zs xs = false
  | [], ys, zs, _, _ => by
    cases zs with
    | nil => rfl
    | cons z zs => rfl
  | x :: xs, [], zs, h, _ => by cases h
  | x :: xs, y :: ys, [], _, h => by cases h
  | x :: xs, y :: ys, z :: zs, h1, h2 => by
    rw [ltR_cons] at h1 h2 ⊢
    by_cases e1 : y = x
    · rw [if_pos e1] at h1
      by_cases e2 : z = y
      · rw [if_pos e2] at h2
        rw [if_pos (e2.trans e1)]
        exact ltR_tr xs ys zs h1 h2
      · rw [if_neg e2] at h2
        rw [if_neg (fun q => e2 (q.trans e1.symm)), ← e1]
        exact h2
    · rw [if_neg e1] at h1
      by_cases e2 : z = y
      · rw [if_neg (fun q => e1 (e2.symm.trans q)), e2]
        exact h1
      · rw [if_neg e2] at h2
        have h3 := NtL.lex_tr _ _ _ h1 h2
        by_cases e3 : z = x
        · subst e3
          exact absurd (lex_eq _ _ h1 h2) e1
        · rw [if_neg e3]; exact h3
theorem ltR_eq : ∀ xs ys : Row, ltR xs ys = false → ltR ys xs = false → xs = ys
  | [], [], _, _ => rfl
  | [], y :: ys, h, _ => by cases h
  | x :: xs, [], _, h => by cases h
  | x :: xs, y :: ys, h1, h2 => by
    rw [ltR_cons] at h1 h2
    by_cases e : x = y
    · subst e
      rw [if_pos rfl] at h1 h2
      rw [ltR_eq xs ys h1 h2]
    · rw [if_neg e] at h1
      rw [if_neg (Ne.symm e)] at h2
      exact absurd (lex_eq _ _ h1 h2) e
/-- the value is a tuple of tuples of ints -/
def IsRow (h : Heap) (v : Value) (r : Row) : Prop := ∃ a xs, v = .ref a ∧ IsTup h a xs ∧ Paired (fun n u => TS.TupInts h u n) r xs.toList
open Classical in
noncomputable def rowOf (h : Heap) (v : Value) : Row := if p : ∃ r, IsRow h v r then choose p else []
theorem intsAre_inj : ∀ {vs : List Value} {a b : List Int}, IntsAre vs a → IntsAre vs b → a = b
  | _, _, _, .nil, .nil => rfl
  | _, _, _, .cons n t r, .cons _ _ r' => by rw [intsAre_inj r r']
theorem tup_inj {h : Heap} {a : Addr} {xs ys : Array Value} (p : IsTup h a xs) (q : IsTup h a ys) : xs = ys := by
  obtain ⟨o, e1, _, n, d1⟩ := p
  obtain ⟨o', e2, _, m, d2⟩ := q
  rw [e1] at e2
  cases e2
  rw [d1] at d2
  cases d2
  rfl
theorem tupInts_inj {h : Heap} {v : Value} {a b : List Int} (p : TS.TupInts h v a) (q : TS.TupInts h v b) : a = b := by
  obtain ⟨x, xs, e, t, i⟩ := p
  obtain ⟨y, ys, e', t', i'⟩ := q
  rw [e] at e'
  cases e'
  have := tup_inj t t'
  subst this
  exact intsAre_inj i i'
theorem rows_inj {h : Heap} : ∀ {l : List Value} {a b : Row}, Paired (fun n u => TS.TupInts h u n) a l → Paired (fun n u => TS.TupInts h u n) b l → a = b
  | _, _, _, .nil, .nil => rfl
  | _, _, _, .cons r t, .cons r' t' => by rw [tupInts_inj r r', rows_inj t t']
theorem IsRow.inj {h : Heap} {v : Value} {a b : Row} (p : IsRow h v a) (q : IsRow h v b) : a = b := by
  obtain ⟨x, xs, e, t, i⟩ := p
  obtain ⟨y, ys, e', t', i'⟩ := q
  rw [e] at e'
  cases e'
  have := tup_inj t t'
  subst this
  exact rows_inj i i'
theorem rowOf_is {h : Heap} {v : Value} {r : Row} (p : IsRow h v r) : rowOf h v = r := by
  have ex : ∃ r, IsRow h v r := ⟨r, p⟩
  unfold rowOf
  rw [dif_pos ex]
  exact (Classical.choose_spec ex).inj p
theorem IsTup.to {h h' : Heap} {a : Addr} {xs : Array Value} (k : ∀ b o, h.get? b = some o → h'.get? b = some o) (p : IsTup h a xs) : IsTup h' a xs := by
  obtain ⟨o, e, x⟩ := p
  exact ⟨o, k _ _ e, x⟩
theorem TupInts.to {h h' : Heap} {v : Value} {n : List Int} (k : ∀ b o, h.get? b = some o → h'.get? b = some o) (p : TS.TupInts h v n) : TS.TupInts h' v n := by
  obtain ⟨a, xs, e, t, i⟩ := p
  exact ⟨a, xs, e, IsTup.to k t, i⟩
theorem IsRow.to {h h' : Heap} {v : Value} {r : Row} (k : ∀ b o, h.get? b = some o → h'.get? b = some o) (p : IsRow h v r) : IsRow h' v r := by
  obtain ⟨a, xs, e, t, i⟩ := p
  exact ⟨a, xs, e, IsTup.to k t, L2.Paired.mapP i fun _ _ q => TupInts.to k q⟩
section
variable {prog : Program} {w : World} {A : Around} {E : Value → Shared → Prop} {s : Shared}
theorem items_of : ∀ {vs : List Value} {ns : List Int}, IntsAre vs ns → ItemsAre (intKind prog w) ns vs
  | _, _, .nil => .nil
  | _, _, .cons n t r => .cons (intKind_is prog w n t) (items_of r)
theorem key_of {h : Heap} {v : Value} {n : List Int} (p : TS.TupInts h v n) : ∃ a, v = .ref a ∧ IsTupleKey (intKind prog w) h n a := by
  obtain ⟨a, xs, e, ⟨o, g, c, k, d⟩, i⟩ := p
  exact ⟨a, e, o, xs, k, g, c, d, items_of i⟩
theorem lex_row {Q : Bool → Shared → Prop} (hu : A.units < cLine) : ∀ {l m : List Value} {x y : Row} (i : Nat) (fin : Bool), Paired (fun n u => TS.TupInts s.heap u n) x l → Paired (fun n u => TS.TupInts s.heap u n) y m →
    fin = ltR (x.drop (min x.length y.length)) (y.drop (min x.length y.length)) → Q (ltR x y) s → PySem.W.KatLex prog w A false fin Q (l.zip m) i s
  | _, _, _, _, i, fin, .nil, .nil, e, h => by
    refine PySem.W.kat_nil ?_
    rw [e]; exact h
  | _, _, _, _, i, fin, .nil, .cons r t, e, h => by
    refine PySem.W.kat_nil ?_
    rw [e]; exact h
  | _, _, _, _, i, fin, .cons r t, .nil, e, h => by
    refine PySem.W.kat_nil ?_
    rw [e]; exact h
  | _, _, _, _, i, fin, .cons (a := n) (l₁ := x) (b := u) r t, .cons (a := k) (l₁ := y) (b := u') r' t', e, h => by
    refine PySem.W.kat_cons ?_
    obtain ⟨a, rfl, ka⟩ := key_of (prog := prog) (w := w) r
    obtain ⟨b, rfl, kb⟩ := key_of (prog := prog) (w := w) r'
    refine wpAny_eqBool_tuple hu ka kb (PySem.W.kat_go (fun q => PySem.W.kat_yes ?_) fun q => ?_)
    · have q := of_decide_eq_true q
      rw [ltR_cons, if_pos q] at h
      refine lex_row hu (i + 1) fin t t' ?_ h
      rw [e]
      simp [Nat.succ_min_succ]
    · have q' := of_decide_eq_false q
      rw [ltR_cons, if_neg q'] at h
      refine PySem.W.kat_no ?_
      rw [Bool.false_and]
      refine PySem.W.kat_one _ _ ?_
      obtain ⟨a', xa, ea, ta, ia⟩ := r
      obtain ⟨b', xb, eb, tb, ib⟩ := r'
      cases ea
      cases eb
      exact HT.lt_tupInts ta tb ia ib hu h
theorem ltR_drop : ∀ (x y : Row), ltR (x.drop (min x.length y.length)) (y.drop (min x.length y.length)) = decide (x.length < y.length)
  | [], [] => rfl
  | [], _ :: _ => by simp [ltR]
  | _ :: _, [] => by simp [ltR]
  | a :: x, b :: y => by
    simp [Nat.succ_min_succ, ltR_drop x y]
theorem row_cmp {vs : List Value} {rs : List Row} (hu : A.units < cLine) (hr : Paired (fun r v => IsRow s.heap v r) rs vs) (rw0 : Value → Row) (h0 : ∀ v r, v ∈ vs → IsRow s.heap v r → rw0 v = r) : SrtO.Cmp prog w A s (tuples' false) (fun p => p.1 ∈ vs) (SrtO.lt2 fun v u => ltR (rw0 v) (rw0 u)) := by
  have at_ : ∀ v ∈ vs, ∃ r, IsRow s.heap v r := fun v hv => by
    obtain ⟨j, hj⟩ := List.mem_iff_getElem?.mp hv
    clear h0 hv
    induction hr generalizing j with
    | nil => simp at hj
    | cons r t ih =>
      cases j with
      | zero => simp at hj; subst hj; exact ⟨_, r⟩
      | succ j => exact ih j (by simpa using hj)
  intro p q hp hq
  obtain ⟨x, hx⟩ := at_ p.1 hp
  obtain ⟨y, hy⟩ := at_ q.1 hq
  show wpAny (model prog w) A (keyLt' (tuples' false) p.1 q.1) (fun r s' => s' = s ∧ r = ltR (rw0 p.1) (rw0 q.1)) (fun _ _ => False) s
  rw [h0 _ _ hp hx, h0 _ _ hq hy]
  obtain ⟨a, xs, ea, ⟨o, g, c, n, d⟩, i⟩ := hx
  obtain ⟨b, ys, eb, ⟨o', g', c', n', d'⟩, i'⟩ := hy
  rw [ea, eb]
  refine PySem.W.kat_lt g d g' d' (lex_row hu 0 _ i i' ?_ ⟨rfl, rfl⟩)
  rw [ltR_drop, Paired.length i, Paired.length i', Array.length_toList, Array.length_toList]
theorem paired0 {α β : Type} {F : α → β → Prop} : ∀ {l : List α} {m : List β}, Paired F l m → l ≠ [] → ∃ a b, m[0]? = some b ∧ F a b
  | _, _, .nil, h => absurd rfl h
  | _, _, .cons r _, _ => ⟨_, _, rfl, r⟩
theorem kat_tups {h : Heap} : ∀ {vs : List Value} {rs : List Row}, Paired (fun r v => IsRow h v r) rs vs → (∀ r ∈ rs, r ≠ []) → ∃ fs, PySem.W.KatTups h vs fs ∧ fs.length = vs.length ∧ ∀ f ∈ fs, ∃ a o, f = .ref a ∧ h.get? a = some o ∧ o.cls = .type "tuple"
  | _, _, .nil, _ => ⟨[], .nil, rfl, fun f h => nomatch h⟩
  | _, _, .cons p t, hne => by
    obtain ⟨fs, k, l, hf⟩ := kat_tups t fun r hr => hne r (List.mem_cons_of_mem _ hr)
    obtain ⟨a, xs, rfl, ⟨o, g, c, n, d⟩, i⟩ := p
    obtain ⟨n0, f, hx, a', xs', rfl, ⟨o', g', c', _⟩, _⟩ := paired0 i (hne _ (List.mem_cons_self ..))
    refine ⟨.ref a' :: fs, .cons g c d (by rw [← Array.getElem?_toList]; exact hx) k, by simp [l], fun f hm => ?_⟩
    rcases List.mem_cons.mp hm with rfl | hm
    · exact ⟨a', o', rfl, g', c'⟩
    · exact hf f hm
theorem rows_sortable {a : Addr} {vs : List Value} {rs : List Row} (hu : A.units < cLine) (hr : Paired (fun r v => IsRow s.heap v r) rs vs) (rw0 : Value → Row) (h0 : ∀ v r, v ∈ vs → IsRow s.heap v r → rw0 v = r) (h2 : 2 ≤ vs.length) (hne : ∀ r ∈ rs, r ≠ [])
    (hk : ∀ (h' : Heap), (∀ b o, b ≠ a → s.heap.get? b = some o → h'.get? b = some o) → Paired (fun r v => IsRow h' v r) rs vs ∧ ∀ v r, v ∈ vs → IsRow h' v r → rw0 v = r) : SrtO.SortableO prog w A s a vs (fun v u => ltR (rw0 v) (rw0 u)) := by
  intro h' hk'
  obtain ⟨hr', h0'⟩ := hk h' hk'
  obtain ⟨fs, kt, lf, hf⟩ := kat_tups hr' hne
  refine ⟨tuples' false, fun Q E hq => ?_, row_cmp (s := { s with heap := h' }) hu hr' rw0 h0'⟩
  refine PySem.W.kat_kind (T := .type "tuple") (s := { s with heap := h' }) kt (by rw [lf]; omega) (fun f hm => ?_) (by decide) hq
  obtain ⟨b, o, rfl, g, c⟩ := hf f hm
  rw [← c]
  exact (PySem.W.Looks.ld g).andThen .now
end
end QS2

namespace Q
open PySem L2 PyProof.Rows QS2
section
variable {X : Cx} {K : PySem.W.Frag} {H : Hp} {Z : Addr → Prop}
def RowV (K : PySem.W.Frag) (H : Hp) (r : Row) (b : Addr) : Prop := ∃ us, SqT K H b us ∧ Paired (fun n u => ∃ c, u = V.ref c ∧ SqT K H c (n.map V.int)) r us
theorem rowV_is {pins : List (Addr × Obj)} {σ : L2.St} {s : Shared} (I : Inv X pins σ H s) {r : Row} {b : Addr} (h : RowV X.K H r b) : IsRow s.heap (.ref b) r := by
  obtain ⟨us, hb, hp⟩ := h
  obtain ⟨its, rv, ht, hz⟩ := I.tuple hb
  refine ⟨b, its.toArray, rfl, ht, ?_⟩
  show Paired _ r its
  clear ht hb hz
  induction hp generalizing its with
  | nil => cases rv; exact .nil
  | cons h t ih =>
    obtain ⟨c, rfl, hc⟩ := h
    cases rv with
    | cons r1 r2 =>
      cases r1
      obtain ⟨its', rv', ht', _⟩ := I.tuple hc
      exact .cons ⟨c, its'.toArray, rfl, ht', rv'.ints⟩ (ih _ r2)
def rSortR (K : PySem.W.Frag) : List V → Hp → VK → Prop := fun vs H Q => ∃ (a : Addr) (L : List (Row × Addr)), vs = [V.ref a] ∧ (SqL K H a (L.map fun e => V.ref e.2) ∨ SqT K H a (L.map fun e => V.ref e.2)) ∧ (∀ e ∈ L, RowV K H e.1 e.2) ∧ (L.length < 2 ∨ ∀ e ∈ L, e.1 ≠ []) ∧
  ∀ (L' : List (Row × Addr)) (p : Addr), L'.Perm L → (L'.map (·.1)).Pairwise (fun x y => ltR y x = false) → H p = none → Q (.ref p) (upd H p (.lst (L'.map fun e => V.ref e.2)))
theorem pairedMem {α β : Type} {F : α → β → Prop} : ∀ {l : List α} {m : List β}, l.length = m.length → (∀ (j : Nat) a b, l[j]? = some a → m[j]? = some b → F a b) → Paired F l m
  | [], [], _, _ => .nil
  | [], _ :: _, h, _ => by simp at h
  | _ :: _, [], h, _ => by simp at h
  | a :: l, b :: m, h, f => .cons (f 0 a b rfl rfl) (pairedMem (by simpa using h) fun j x y e1 e2 => f (j + 1) x y (by simpa using e1) (by simpa using e2))
def bk : Value → Addr
  | .ref a => a
  | _ => 0
theorem cr_sortR (hu : X.A.units + 64 < cLine) : CallR X (.builtin "sorted") (rSortR X.K) := by
  intro pins s σ H vs us Q I r h
  obtain ⟨a, L, rfl, hs, hrow, hne, q⟩ := h
  rw [Vals.ref1 r]
  have rows : ∀ e ∈ L, IsRow s.heap (.ref e.2) e.1 := fun e he => rowV_is I (hrow e he)
  have main : ∀ its : List Value, Vals (L.map fun e => V.ref e.2) its → (L.map fun e => V.ref e.2).length ≤ sizeLine → (∀ (A : Around) (E : Value → Shared → Prop) (Q : List Value → Shared → Prop), Q its { s with heap := (s.heap.push (seqObj "list" #[] 0)).update s.heap.objs.size (Obj.mapSeq (· ++ its.toArray)) } → wpAny (model X.prog X.w) A (collect (.ref a)) Q E s) →
      wpAny (model X.prog X.w) X.A (call (.builtin "sorted") [.ref a]) (EP X pins σ Q) X.xe s := by
    intro its rv hz hcol
    have eits : its = L.map fun e => Value.ref e.2 := by
      have := refs_at (ps := L.map (·.2)) (us := its) (by rw [List.map_map]; exact rv)
      rw [this, List.map_map]; rfl
    subst eits
    have pr : ∀ (h' : Heap), (∀ b o, s.heap.get? b = some o → h'.get? b = some o) → Paired (fun r v => IsRow h' v r) (L.map (·.1)) (L.map fun e => Value.ref e.2) := fun h' hk => by
      refine pairedMem (by simp) fun j x v e1 e2 => ?_
      rw [List.getElem?_map] at e1 e2
      cases ej : L[j]? with
      | none => rw [ej] at e1; cases e1
      | some e =>
        rw [ej] at e1 e2
        cases e1
        cases e2
        exact IsRow.to hk (rows e (List.mem_of_getElem? ej))
    have O : SrtO.Swo (fun v u : Value => ltR (rowOf s.heap v) (rowOf s.heap u)) := ⟨fun x y h => ltR_asym _ _ h, fun x y z h1 h2 => ltR_tr _ _ _ h1 h2⟩
    refine SrtO.sorted_ordQ O hcol (by rw [← rv.length]; exact hz) (fun h2 h₁ a' _ keep => ?_) fun out h1 h2 => ?_
    · have hne' : ∀ r ∈ L.map (·.1), r ≠ [] := by
        rcases hne with hl | hne
        · rw [List.length_map] at h2; omega
        · intro r hr
          obtain ⟨e, he, rfl⟩ := List.mem_map.mp hr
          exact hne e he
      have k1 : ∀ b o, s.heap.get? b = some o → h₁.get? b = some o := fun b o e => (keep b o e).2
      refine rows_sortable (s := { s with heap := h₁ }) (by show X.A.in1.in1.units < cLine; have : X.A.in1.in1.units = X.A.units + 1 + 1 := rfl; omega) (pr h₁ k1) (rowOf s.heap) (fun v r hv hr => ?_) h2 hne' fun h' hk' => ?_
      · obtain ⟨e, he, rfl⟩ := List.mem_map.mp hv
        rw [rowOf_is (rows e he)]
        exact (IsRow.to k1 (rows e he)).inj hr
      · have k2 : ∀ b o, s.heap.get? b = some o → h'.get? b = some o := fun b o e => hk' b o (keep b o e).1 (keep b o e).2
        refine ⟨pr h' k2, fun v r hv hr => ?_⟩
        obtain ⟨e, he, rfl⟩ := List.mem_map.mp hv
        rw [rowOf_is (rows e he)]
        exact (IsRow.to k2 (rows e he)).inj hr
    · have hp : out.Perm (L.map fun e => Value.ref e.2) := h2.perm
      have href : ∀ v ∈ out, v = .ref (bk v) := fun v hv => by
        obtain ⟨e, he, rfl⟩ := List.mem_map.mp (hp.mem_iff.mp hv)
        rfl
      let g : Value → Row × Addr := fun v => (rowOf s.heap v, bk v)
      have hL : (L.map fun e => Value.ref e.2).map g = L := by
        rw [List.map_map]
        conv => rhs; rw [← List.map_id L]
        refine List.map_congr_left fun e he => ?_
        show (rowOf s.heap (.ref e.2), e.2) = e
        rw [rowOf_is (rows e he)]
      have hp' : (out.map g).Perm L := by rw [← hL]; exact hp.map g
      have ho : (out.map g).map (fun e => Value.ref e.2) = out := by
        rw [List.map_map]
        conv => rhs; rw [← List.map_id out]
        exact List.map_congr_left fun v hv => (href v hv).symm
      obtain ⟨ep, he'⟩ := PyProof.Rows.sortedAll_at s.heap (L.map fun e => Value.ref e.2) out.toArray
      have hlen : ((out.map g).map fun e => V.ref e.2).length ≤ sizeLine := by
        rw [List.length_map, hp'.length_eq]
        rw [List.length_map] at hz
        exact hz
      have hv : Vals ((out.map g).map fun e => V.ref e.2) out := by
        have := vals_refs ((out.map g).map (·.2))
        rw [List.map_map, List.map_map] at this
        conv => rhs; rw [← ho]
        rw [List.map_map] at this ⊢
        exact this
      exact ⟨.ref _, upd H (s.heap.objs.size + 1) (.lst ((out.map g).map fun e => V.ref e.2)), I.laid (t' := s.toks) (fun _ _ => PyProof.Rows.sortedAll_old) (Nat.le_succ _) ⟨hlen, out, ep, hv, he'⟩, rfl, q _ _ hp' (by
        rw [List.map_map]
        exact List.pairwise_map.mpr h1) (I.hok.fresh (Nat.le_succ _))⟩
  rcases hs with hs | hs
  · obtain ⟨its, rv, hl, hz⟩ := I.list hs
    exact main its rv hz fun A E Q hq => collect_list hl.isList hq (by rw [← rv.length]; exact hz)
  · obtain ⟨its, rv, hl, hz⟩ := I.tuple hs
    exact main its rv hz fun A E Q hq => SrtO.collect_tupQ hl hq (by rw [← rv.length]; exact hz)
theorem insR_perm (x : Row) : ∀ l : List Row, (insR x l).Perm (x :: l)
  | [] => .refl _
  | y :: r => by
    unfold insR
    split
    · exact ((insR_perm x r).cons y).trans (.swap x y r)
    · exact .refl _
theorem sortR_perm : ∀ l : List Row, (sortR l).Perm l
  | [] => .refl _
  | x :: r => (insR_perm x (sortR r)).trans ((sortR_perm r).cons x)
theorem insR_sorted (x : Row) : ∀ l : List Row, l.Pairwise (fun x y => ltR y x = false) → (insR x l).Pairwise (fun x y => ltR y x = false)
  | [], _ => by simp [insR]
  | y :: r, h => by
    unfold insR
    obtain ⟨h1, h2⟩ := List.pairwise_cons.mp h
    split
    · rename_i hyx
      refine List.pairwise_cons.mpr ⟨fun z hz => ?_, insR_sorted x r h2⟩
      rcases List.mem_cons.mp ((insR_perm x r).mem_iff.mp hz) with rfl | hz
      · exact ltR_asym _ _ hyx
      · exact h1 z hz
    · rename_i hyx
      have hyx : ltR y x = false := by simpa using hyx
      refine List.pairwise_cons.mpr ⟨fun z hz => ?_, h⟩
      rcases List.mem_cons.mp hz with rfl | hz
      · exact hyx
      · exact ltR_tr _ _ _ hyx (h1 z hz)
theorem sortR_sorted : ∀ l : List Row, (sortR l).Pairwise (fun x y => ltR y x = false)
  | [] => .nil
  | x :: r => insR_sorted x _ (sortR_sorted r)
theorem rsorted_unique {a b : List Row} (p : a.Perm b) (ha : a.Pairwise (fun x y => ltR y x = false)) (hb : b.Pairwise (fun x y => ltR y x = false)) : a = b :=
  List.Perm.eq_of_pairwise (fun x y _ _ h1 h2 => ltR_eq _ _ h2 h1) ha hb p
theorem rowsIn_im : ∀ {us : List V} {ds : List D} {r : Row}, ImA K H Z us ds → rowsIn ds = some r → Paired (fun n u => ∃ c, u = V.ref c ∧ SqT K H c (n.map V.int)) r us ∧ ds = r.map fun n => PyData.tuple (n.map .int) := by
  intro us
  induction us with
  | nil => intro ds r h e; cases h; cases e; exact ⟨.nil, rfl⟩
  | cons u us ih =>
    intro ds r h e
    cases h with
    | @cons _ _ _ xs h t =>
      cases h with
      | @tup a ys es hp ia =>
        unfold rowsIn at e
        cases e1 : intsOf es with
        | none => rw [e1] at e; cases e
        | some n =>
          cases e2 : rowsIn xs with
          | none => rw [e1, e2] at e; cases e
          | some ns =>
            rw [e1, e2] at e
            cases e
            obtain ⟨rfl, ee⟩ := ia.ints e1
            obtain ⟨p, q⟩ := ih t e2
            exact ⟨.cons ⟨a, rfl, hp.t⟩ p, by rw [List.map_cons, ← q, ee]⟩
      | _ => cases e
theorem rowsAll_im : ∀ {ys : List V} {xs : List D} {rs : List Row}, ImA K H Z ys xs → rowsAll xs = some rs → ∃ L : List (Row × Addr), ys = L.map (fun e => V.ref e.2) ∧ rs = L.map (·.1) ∧ ∀ e ∈ L, RowV K H e.1 e.2 ∧ Im K H Z (.ref e.2) (toD e.1) := by
  intro ys
  induction ys with
  | nil => intro xs rs h e; cases h; cases e; exact ⟨[], rfl, rfl, fun e h => nomatch h⟩
  | cons y ys ih =>
    intro xs rs h e
    cases h with
    | @cons _ _ _ xs' h t =>
      have h0 := h
      cases h with
      | @tup a us ds hp ia =>
        unfold rowsAll at e
        cases e1 : rowsIn ds with
        | none => rw [e1] at e; cases e
        | some n =>
          cases e2 : rowsAll xs' with
          | none => rw [e1, e2] at e; cases e
          | some ns =>
            rw [e1, e2] at e
            cases e
            obtain ⟨p, q⟩ := rowsIn_im ia e1
            obtain ⟨L, l1, l2, l3⟩ := ih t e2
            refine ⟨(n, a) :: L, by rw [l1]; rfl, by rw [l2]; rfl, fun e he => ?_⟩
            rcases List.mem_cons.mp he with rfl | he
            · refine ⟨⟨us, hp.t, p⟩, ?_⟩
              unfold toD
              rw [← q]
              exact h0
            · exact l3 e he
      | _ => cases e
theorem f1_sorted (hu : X.A.units + 64 < cLine) : ∃ r, CallR X (.builtin "sorted") r ∧ C1Snd X.K r (f1V .sorted) id := by
  refine ⟨_, cr_sortQ.or (cr_sortR hu), fun H Z v x ox z Q h e k => ?_⟩
  dsimp only [f1V] at e
  split at e
  · rename_i xs hs
    obtain ⟨a, ys, rfl, hd, ia⟩ := h.seq_of hs
    split at e
    · rename_i ns hn
      cases e
      obtain ⟨rfl, _⟩ := ia.ints hn
      refine .inl ⟨a, ns, rfl, VR.sq hd, fun ns' p hp hso hpn => ?_⟩
      rw [sorted_unique (hp.trans (sortI_perm ns).symm) hso (sortI_sorted ns)]
      exact k _ _ (New.lst hpn (ImA.ofInts _))
    · split at e
      · rename_i rs hr
        split at e
        · rename_i hc
          cases e
          obtain ⟨L, rfl, rfl, l3⟩ := rowsAll_im ia hr
          refine .inr ⟨a, L, rfl, VR.sq hd, fun e he => (l3 e he).1, ?_, fun L' p hp hso hpn => ?_⟩
          · rw [Bool.or_eq_true] at hc
            rcases hc with hc | hc
            · exact .inl (by simpa using hc)
            · refine .inr fun e he z => ?_
              have := List.all_eq_true.mp hc e.1 (List.mem_map.mpr ⟨e, he, rfl⟩)
              rw [z] at this
              simp at this
          · have es : L'.map (·.1) = sortR (L.map (·.1)) := rsorted_unique ((hp.map (·.1)).trans (sortR_perm _).symm) hso (sortR_sorted _)
            refine k _ _ (New.lst hpn ?_)
            rw [← es, List.map_map]
            refine ImA.ofGet (by simp) fun j v d e1 e2 => ?_
            rw [List.getElem?_map] at e1 e2
            cases ej : L'[j]? with
            | none => rw [ej] at e1; cases e1
            | some e =>
              rw [ej] at e1 e2
              cases e1
              cases e2
              exact (l3 e (hp.mem_iff.mp (List.mem_of_getElem? ej))).2
        · cases e
      · cases e
  · cases e
end
end Q
/-! QI: expressions: the compiled text does what the text does. -/
namespace Q
open PySem L2
section
variable {C : CC} {F : FT} {G : Gs} {X : Cx} {e a b c : Expr} {pos p : Pos} {fa fb fc : Rho → Out Hd} {ft fu fv : Rho → Out Bool} {σ : L2.St} {H : Hp}
/-! the units and the room -/
theorem XOk.u (O : XOk C F G X) : X.A.units + 200 < cLine := by
  obtain ⟨k, r, _⟩ := O.gl
  have := r.un
  omega
theorem XOk.u1 (O : XOk C F G X) : X.A.units + 1 < cLine := by have := O.u; omega
theorem XOk.u64 (O : XOk C F G X) : X.A.units + 64 < cLine := by have := O.u; omega
/-! an if-expression as a test -/
def tIfT (tc ta tb : TT) : TT := fun σ H Q => tc σ H fun t H1 => if t then ta σ H1 Q else tb σ H1 Q
theorem pt_ife {tc ta tb : TT} (hc : PT X c tc) (ha : PT X a ta) (hb : PT X b tb) : PT X (.IfExp c a b pos) (tIfT tc ta tb) := ⟨fun pins s σ H Q I h => by
  show wpAny _ _ (do if ← isTrue c X.env (eval c X.env) then isTrue a X.env (eval a X.env) else isTrue b X.env (eval b X.env)) _ _ s
  refine wpAny_bind (thn (hc.run pins s σ H _ I h) fun t s1 q => ?_)
  obtain ⟨H1, I1, q⟩ := q
  cases t with
  | true => exact ha.run pins s1 σ H1 Q I1 q
  | false => exact hb.run pins s1 σ H1 Q I1 q⟩
theorem s_tife (hc : PT X c (tT G ft)) (ha : PT X a (tT G fu)) (hb : PT X b (tT G fv)) :
    PT X (.IfExp c a b pos) (tT G fun ρ => (ft ρ).bind fun t ρ => if t then fu ρ else fv ρ) :=
  PT.imp (pt_ife hc ha hb) fun σ H Q ⟨ρ, As, Z, R, hO⟩ => bindTB Stp.refl R hO fun t ρ2 H2 As2 Z2 R2 S2 hO2 => by
    cases t with
    | true => exact ⟨ρ2, As2, Z2, R2, OutB.at S2 hO2⟩
    | false => exact ⟨ρ2, As2, Z2, R2, OutB.at S2 hO2⟩
theorem pe_and1 {t : TE} (h : PE X a t) : PE X (.BoolOp .And [a] pos) t := ⟨fun pins s σ H Q I q => h.run pins s σ H Q I q⟩
theorem pe_or1 {t : TE} (h : PE X a t) : PE X (.BoolOp .Or [a] pos) t := ⟨fun pins s σ H Q I q => h.run pins s σ H Q I q⟩
/-! repr -/
def rRepr (K : PySem.W.Frag) : List V → Hp → VK → Prop := fun vs H Q => ∃ a d, vs = [V.ref a] ∧ Dp K H (.ref a) d ∧ showOk d = true ∧ Q (.str d.shown) H
theorem cr_repr (hg : X.A.guards = some []) (hu : X.A.units + 200 < cLine) : CallR X (.builtin "repr") (rRepr X.K) := by
  intro pins s σ H vs us Q I r h
  obtain ⟨a, d, rfl, hd, ok, q⟩ := h
  rw [Vals.ref1 r]
  obtain ⟨as, r1⟩ := Dp.reads I d (.ref a) (.ref a) hd rfl
  unfold showOk at ok
  simp only [Bool.and_eq_true, Bool.not_eq_true', decide_eq_true_eq] at ok
  obtain ⟨⟨⟨o1, o2⟩, o3⟩, o4⟩ := ok
  exact PySem.repr_of_reads' r1 o1 (fun z => by rw [o2] at z; cases z) hg (by omega) (fun _ _ e => e) (fun h' u tk hk => ⟨.str d.shown, H, I.kept hk, ⟨_, rfl⟩, q⟩) o4
theorem f1_repr (hg : X.A.guards = some []) (hu : X.A.units + 200 < cLine) : ∃ r, CallR X (.builtin "repr") r ∧ C1Snd X.K r (f1V .repr) id := by
  refine ⟨_, cr_repr hg hu, fun H Z v x ox z Q h e k => ?_⟩
  dsimp only [f1V] at e
  split at e
  · rename_i xs d hx hd
    split at e
    · rename_i hs
      cases e
      have dp := h.dp hd
      obtain ⟨a, ys, rfl, _, _⟩ := h.seq_of hx
      exact ⟨a, d, rfl, dp, hs, k _ _ (New.d (.str _))⟩
    · cases e
  · cases e
/-! ### built-ins of one thing -/
theorem XOk.f1 (O : XOk C F G X) {f : Str} {g : F1} (hf : f1Of C.rp f = some g) (hb : isBi C f = true) (ha : PE X a (tE G fa)) (ns : ∀ v q, a ≠ .Starred v q) : PE X (.Call (.Name f p) [a] [] pos) (tE G fun ρ => (fa ρ).bind fun h ρ => lift1 ρ h (f1V g) id) := by
  obtain ⟨hg, hm, _⟩ := O.biOk hb
  have hc := O.calm
  have pa := pa_cons ha pa_nil (star1 (es := []) ns)
  have st := star1 (env := X.env) (es := []) ns
  have K : ∀ {r : List V → Hp → VK → Prop} {g : F1}, C1Snd X.K r (f1V g) id → C1Snd G.K r (f1V g) id := fun h => by rw [← O.K]; exact h
  unfold f1Of at hf
  by_cases h : f = "tuple"
  · rw [if_pos h] at hf; subst h; cases hf
    obtain ⟨r, h1, h2⟩ := f1_tuple (X := X)
    exact s_f1 (pe_callTy h1 hg hm PyProof.Rows.boot_tuple pa (he := st) (hpl := rfl)) (K h2)
  rw [if_neg h] at hf
  by_cases h : f = "list"
  · rw [if_pos h] at hf; subst h; cases hf
    obtain ⟨r, h1, h2⟩ := f1_list (X := X)
    exact s_f1 (pe_callTy h1 hg hm PyProof.Rows.boot_list pa (he := st) (hpl := rfl)) (K h2)
  rw [if_neg h] at hf
  by_cases h : f = "sorted"
  · rw [if_pos h] at hf; subst h; cases hf
    obtain ⟨r, h1, h2⟩ := f1_sorted (X := X) O.u64
    exact s_f1 (pe_callB h1 hg hm PyProof.Rows.boot_sorted pa (he := st) (hpl := rfl)) (K h2)
  rw [if_neg h] at hf
  by_cases h : f = "min"
  · rw [if_pos h] at hf; subst h; cases hf
    obtain ⟨r, h1, h2⟩ := f1_min hc
    exact s_f1 (pe_callB h1 hg hm PyProof.Rows.boot_min pa (he := st) (hpl := rfl)) (K h2)
  rw [if_neg h] at hf
  by_cases h : f = "max"
  · rw [if_pos h] at hf; subst h; cases hf
    obtain ⟨r, h1, h2⟩ := f1_max hc
    exact s_f1 (pe_callB h1 hg hm PyProof.Rows.boot_max pa (he := st) (hpl := rfl)) (K h2)
  rw [if_neg h] at hf
  by_cases h : f = "sum"
  · rw [if_pos h] at hf; subst h; cases hf
    obtain ⟨r, h1, h2⟩ := f1_sum hc
    exact s_f1 (pe_callB h1 hg hm PyProof.Rows.boot_sum pa (he := st) (hpl := rfl)) (K h2)
  rw [if_neg h] at hf
  by_cases h : f = "len"
  · rw [if_pos h] at hf; subst h; cases hf
    obtain ⟨r, h1, h2⟩ := f1_len (X := X)
    exact s_f1 (pe_callB h1 hg hm (by decide +kernel) pa (he := st) (hpl := rfl)) (K h2)
  rw [if_neg h] at hf
  by_cases h : f = "int"
  · rw [if_pos h] at hf; subst h; cases hf
    obtain ⟨h1, h2⟩ := f1_int (X := X)
    exact s_f1 (pe_callTy h1 hg hm PyProof.Rows.boot_int pa (he := st) (hpl := rfl)) (K h2)
  rw [if_neg h] at hf
  by_cases h : f = "str"
  · rw [if_pos h] at hf; subst h; cases hf
    obtain ⟨r, h1, h2⟩ := f1_str (X := X)
    exact s_f1 (pe_callTy h1 hg hm PyProof.Rows.boot_str pa (he := st) (hpl := rfl)) (K h2)
  rw [if_neg h] at hf
  by_cases h : f = "repr" ∧ C.rp = true
  · rw [if_pos h] at hf; obtain ⟨h, hr⟩ := h; subst h; cases hf
    obtain ⟨r, h1, h2⟩ := f1_repr (O.gd hr) O.u
    exact s_f1 (pe_callB h1 hg hm PyProof.Rows.boot_repr pa (he := st) (hpl := rfl)) (K h2)
  rw [if_neg h] at hf
  by_cases h : f = "dict"
  · rw [if_pos h] at hf; subst h; cases hf
    obtain ⟨r, h1, h2⟩ := f1_dict hc
    exact s_f1 (pe_callTy h1 hg hm PyProof.Rows.boot_dict pa (he := st) (hpl := rfl)) (K h2)
  rw [if_neg h] at hf
  by_cases h : f = "all"
  · rw [if_pos h] at hf; subst h; cases hf
    obtain ⟨r, h1, h2⟩ := f1_all hc
    exact s_f1 (pe_callB h1 hg hm PyProof.Rows.boot_all pa (he := st) (hpl := rfl)) (K h2)
  rw [if_neg h] at hf
  by_cases h : f = "any"
  · rw [if_pos h] at hf; subst h; cases hf
    obtain ⟨r, h1, h2⟩ := f1_any hc
    exact s_f1 (pe_callB h1 hg hm PyProof.Rows.boot_any pa (he := st) (hpl := rfl)) (K h2)
  rw [if_neg h] at hf
  cases hf
theorem XOk.f2 (O : XOk C F G X) {f : Str} {g : F2} (hf : f2Of f = some g) (hb : isBi C f = true) (ha : PE X a (tE G fa)) (hb' : PE X b (tE G fb)) (ns : ∀ v q, a ≠ .Starred v q) (nt : ∀ v q, b ≠ .Starred v q) :
    PE X (.Call (.Name f p) [a, b] [] pos) (tE G fun ρ => (fa ρ).bind fun h ρ => (fb ρ).bind fun k ρ => lift2 ρ h k (f2V g) .d) := by
  obtain ⟨hg, hm, _⟩ := O.biOk hb
  have hc := O.calm
  have s1 := star1 (env := X.env) (es := [b]) ns
  have s2 := star1 (env := X.env) (es := []) nt
  have pa := pa_cons ha (pa_cons hb' pa_nil s2) s1
  have hpl : (backTo pos (starEach [b] X.env)).any (·.1) = false := backTo_any fun x hx => by
    rw [List.mem_singleton.mp hx]; exact nt
  have K : ∀ {r : List V → Hp → VK → Prop} {g : F2}, C2Snd X.K r (f2V g) Val.d → C2Snd G.K r (f2V g) Val.d := fun h => by rw [← O.K]; exact h
  unfold f2Of at hf
  by_cases h : f = "min"
  · rw [if_pos h] at hf; subst h; cases hf
    obtain ⟨r, h1, h2⟩ := f2_min hc
    exact s_f2 (pe_callB h1 hg hm PyProof.Rows.boot_min pa (he := s1) (hpl := hpl)) (K h2)
  rw [if_neg h] at hf
  by_cases h : f = "max"
  · rw [if_pos h] at hf; subst h; cases hf
    obtain ⟨r, h1, h2⟩ := f2_max hc
    exact s_f2 (pe_callB h1 hg hm PyProof.Rows.boot_max pa (he := s1) (hpl := hpl)) (K h2)
  rw [if_neg h] at hf
  cases hf
end
end Q
/-! QIa: the forms, each with its compiled text. -/
namespace Q
open PySem L2
section
variable {C : CC} {F : FT} {G : Gs} {X : Cx} {e a b c : Expr} {pos p : Pos} {fa fb fc : Rho → Out Hd} {ft fu fv : Rho → Out Bool} {σ : L2.St} {H : Hp}
theorem XOk.bin (O : XOk C F G X) {op : Operator} {o : BOp} (h : bopOf op = some o) (ha : PE X a (tE G fa)) (hb : PE X b (tE G fb)) :
    PE X (.BinOp a op b pos) (tE G fun ρ => (fa ρ).bind fun h ρ => (fb ρ).bind fun k ρ => lift2 ρ h k (binV o) id) := by
  cases op <;> cases h
  · exact s_bin ha hb op_addQ (by rw [O.K]; exact snd_add)
  · exact s_bin ha hb op_sub snd_sub
  · exact s_bin ha hb op_mulQ snd_mul
  · exact s_bin ha hb op_mod snd_mod
  · exact s_bin ha hb op_pow snd_pow
  · exact s_bin ha hb op_fdivW snd_fdiv
/-- the plain comparisons -/
theorem XOk.cmpP (O : XOk C F G X) {op : CmpOp} {o : COp} (h : copOf op = some o) (hp : plainC o = true) : ∃ r, OpR X (compareOp op) r ∧ OpSnd G.K r (cmpV o) ofB := by
  cases op <;> cases h <;> first | cases hp | skip
  · exact ⟨_, op_eqQ O.u64, by rw [O.K]; exact snd_eq⟩
  · exact ⟨_, op_neQ O.u64, by rw [O.K]; exact snd_ne⟩
  · exact ⟨_, op_lt, snd_cmpI rfl⟩
  · exact ⟨_, op_le, snd_cmpI rfl⟩
  · exact ⟨_, op_gt, snd_cmpI rfl⟩
  · exact ⟨_, op_ge, snd_cmpI rfl⟩
def noSet : Expr → Bool
  | .Set _ _ _ => false
  | _ => true
theorem nb_of {op : CmpOp} (h : noSet b = true) : behindInMarks op b = false := by
  cases b <;> first | rfl | cases h
theorem XOk.cmp (O : XOk C F G X) {op : CmpOp} {o : COp} (h : copOf op = some o) (ha : PE X a (tE G fa)) (hb : PE X b (tE G fb)) (hn : noSet b = true) :
    PE X (.Compare a [op] [b] pos) (tE G fun ρ => (fa ρ).bind fun h ρ => (fb ρ).bind fun k ρ => lift2 ρ h k (cmpV o) ofB) ∧
    PT X (.Compare a [op] [b] pos) (tT G fun ρ => tstO ((fa ρ).bind fun h ρ => (fb ρ).bind fun k ρ => lift2 ρ h k (cmpV o) ofB)) := by
  by_cases hp : plainC o = true
  · obtain ⟨r, h1, h2⟩ := O.cmpP h hp
    exact ⟨s_cmp ha hb h1 h2 (nb_of hn), s_tcmp ha hb h1 h2 (nb_of hn)⟩
  · cases op <;> cases h <;> first | exact absurd rfl hp | skip
    · exact ⟨s_in O.K O.u1 ha hb (nb_of hn), s_tin O.K O.u1 ha hb (nb_of hn)⟩
    · exact ⟨s_nin O.K O.u1 ha hb (nb_of hn), s_tnin O.K O.u1 ha hb (nb_of hn)⟩
/-! the context within a comprehension -/
theorem XOk.sub (O : XOk C F G X) (scope : Scope) (s : Shared) (H : Hp) (c : Addr) (cl : List (Str × Addr)) (fp : List Addr) : XOk (C.sub scope) F G.nox (X.blk s H scope (compEnvC scope cl c X.env) fp) := by
  obtain ⟨k, r, gl⟩ := O.gl
  refine ⟨O.N, O.nd, ?_, O.calm, O.K, ?_, fun x hx => ?_, O.gd, k, r, fun x g h => ?_⟩
  · show relS scope X.env.scope = relS scope C.sc
    rw [O.sc]
  · rintro u s' ⟨_, _, _, _, _, _, _, _, _, _, _, _, _, _, _, _, w⟩
    exact w
  · show (scope.names.lookup x == some .cell) = true ∨ (relS scope X.env.scope).names.lookup x ≠ some .cell
    by_cases q : (relS scope X.env.scope).names.lookup x = some .cell
    · left
      obtain ⟨k', e1, e2⟩ := lookup_relS q
      have hx : ownSt scope x = true := hx
      unfold ownSt at hx
      rw [e1] at hx
      rcases e2 with e2 | ⟨e2, _⟩
      · rw [e1, ← e2]; rfl
      · rw [e2] at hx; cases hx
    · exact .inr q
  · obtain ⟨q1, q2, q3⟩ := gl x g h
    exact ⟨q1, q2, q3⟩
/-! methods of a slot -/
theorem XOk.ext (O : XOk C F G X) {x : Str} {i : Nat} {np ap : Pos} (h : slotOf C x = some i) (ha : PE X a (tE G fa)) (ns : ∀ v q, a ≠ .Starred v q) (hl : (ap.endLine == pos.line) = true) :
    PE X (.Call (.Attribute (.Name x np) "extend" ap) [a] [] pos) (tE G (extF i fa)) := by
  have st := star1 (env := X.env) (es := []) ns
  refine s_ext (pe_bm PySem.F.plainAttrs_list PySem.F.slot_list_extend PySem.F.type_list_extend mt_extQ (O.pv h) (pa_cons ha pa_nil st) rfl (by rw [st]; rfl) hl st rfl) O.K (by rw [O.K]; exact ex_ext)
theorem XOk.app (O : XOk C F G X) {x : Str} {i : Nat} {np ap : Pos} {fs : Rho → Out (List D)} (h : slotOf C x = some i) (ha : PA X [a] (tA G fs)) (ns : ∀ v q, a ≠ .Starred v q) (hl : (ap.endLine == pos.line) = true) :
    PE X (.Call (.Attribute (.Name x np) "append" ap) [a] [] pos) (tE G (mutF i fs (mutL .append))) := by
  have st := star1 (env := X.env) (es := []) ns
  exact s_mut (pe_bm PySem.F.plainAttrs_list PySem.F.slot_list_append PySem.F.type_list_append (mt_of mt_append) (O.pv h) ha rfl (by rw [st]; rfl) hl st rfl) O.K mu_append
theorem XOk.pop1 (O : XOk C F G X) {x : Str} {i : Nat} {np ap : Pos} {fs : Rho → Out (List D)} (h : slotOf C x = some i) (ha : PA X [a] (tA G fs)) (ns : ∀ v q, a ≠ .Starred v q) (hl : (ap.endLine == pos.line) = true) :
    PE X (.Call (.Attribute (.Name x np) "pop" ap) [a] [] pos) (tE G (mutF i fs (mutL .pop1))) := by
  have st := star1 (env := X.env) (es := []) ns
  exact s_mut (pe_bm PySem.F.plainAttrs_list PySem.F.slot_list_pop PySem.F.type_list_pop (mt_of mt_popAt) (O.pv h) ha rfl (by rw [st]; rfl) hl st rfl) O.K mu_pop1
theorem XOk.reverse (O : XOk C F G X) {x : Str} {i : Nat} {np ap : Pos} (h : slotOf C x = some i) (hl : (ap.endLine == pos.line) = true) :
    PE X (.Call (.Attribute (.Name x np) "reverse" ap) [] [] pos) (tE G (mutF i (fun r => .ok [] r) (mutL .reverse))) :=
  s_mut0 (x := x) (m := x) (p := pos) (ap := ap) (id := "list.reverse") (pe_bm0 PySem.F.plainAttrs_list PySem.F.slot_list_reverse PySem.F.type_list_reverse (mt_of mt_reverse) (O.pv h) rfl hl) O.K mu_reverse
theorem base_of {o : Expr} {m : Str} {env : Env} (h : isCall o = false) : attributeBase o m env (eval o env) = eval o env := by
  cases o <;> first | rfl | cases h
theorem XOk.index (O : XOk C F G X) {o : Expr} {ap : Pos} {fs : Rho → Out (List Hd)} (ho : PE X o (tE G fa)) (ha : PA X [a] (tL G fs)) (ns : ∀ v q, a ≠ .Starred v q) (hl : (ap.endLine == pos.line) = true) (hc : isCall o = false) :
    PE X (.Call (.Attribute o "index" ap) [a] [] pos) (tE G (mthF .index fa fs)) := by
  have st := star1 (env := X.env) (es := []) ns
  have bo : attributeBase o "index" X.env (eval o X.env) = eval o X.env := base_of hc
  refine PE.imp (PE.or (pe_bm PySem.F.plainAttrs_list PySem.F.slot_list_index PySem.F.type_list_index mt_index ho ha bo (by rw [st]; rfl) hl st rfl) (pe_mthT ho ha bo hl st)) fun σ H Q h => ?_
  rw [O.K]
  exact index_tE h
end
end Q
/-! QIb: the induction over expressions. -/
namespace Q
open PySem L2
structure EOk (F : FT) (G : Gs) (X : Cx) (e : Expr) (ie : IE) : Prop where
  pe : PE X e (tE G (evE F ie))
  pt : PT X e (tT G fun r => tstO (evE F ie r))
  pw : ∀ op es p, e = .BoolOp op es p → PW X e (tT G fun r => tstO (evE F ie r))
  ns : ∀ v q, e ≠ .Starred v q
  st : noSet e = true
structure LOk (F : FT) (G : Gs) (X : Cx) (es : List Expr) (ie : IE) : Prop where
  pa : PA X es (tA G (evT F ie))
  pl : PA X es (tL G (evL F ie))
  la : ∀ r ds r', evT F ie r = .ok ds r' → ds.length = es.length
  ll : ∀ r ds r', evL F ie r = .ok ds r' → ds.length = es.length
  ns : ∀ x ∈ es, ∀ v q, x ≠ .Starred v q
section
variable {C : CC} {F : FT} {G : Gs} {X : Cx} {e a b c : Expr} {pos p : Pos} {ie x y : IE}
theorem EOk.of (h : PE X e (tE G (evE F ie))) (he : ∀ whole, isTrue e X.env whole = (do let v ← whole; standAt e.pos; holding [v] (truthy v))) (ns : ∀ v q, e ≠ .Starred v q) (st : noSet e = true) (nb : ∀ op es p, e ≠ .BoolOp op es p) : EOk F G X e ie :=
  ⟨h, s_tst h he, fun op es p q => absurd q (nb op es p), ns, st⟩
theorem eok_const {cn : Const} {k : Nat} (h : cK cn = some ie) : EOk F G X (.Constant cn k pos) ie := by
  refine EOk.of ?_ (fun _ => rfl) (fun _ _ q => nomatch q) rfl (fun _ _ _ q => nomatch q)
  cases cn <;> cases h
  · rw [ev_k]; exact s_const pe_non fun _ _ => .non
  · rw [ev_k]; exact s_const pe_bl fun _ _ => .bl _
  · rw [ev_k]; exact s_const pe_int fun _ _ => .int _
  · rw [ev_k]; exact s_const pe_str fun _ _ => .str _
theorem eok_name (O : XOk C F G X) {n : Str} (h : cNm C n = some ie) : EOk F G X (.Name n pos) ie := by
  refine EOk.of ?_ (fun _ => rfl) (fun _ _ q => nomatch q) rfl (fun _ _ _ q => nomatch q)
  unfold cNm at h
  split at h
  · rename_i i hi
    cases h
    rw [ev_var]
    exact s_var (O.pv hi)
  · split at h
    · rename_i d hd
      cases h
      obtain ⟨h1, h2, h3⟩ := O.glob hd
      obtain ⟨k, r, gl⟩ := O.gl
      obtain ⟨u, v, q1, q2, q3⟩ := (gl n _ h3).cst d rfl
      rw [ev_k]
      exact s_const (pe_glob h1 q1 q2 (plainN_of h2).1) (by rw [← O.K]; exact q3)
    · cases h
theorem lok_nil : LOk F G X [] .nil := by
  refine ⟨?_, ?_, fun r ds r' h => ?_, fun r ds r' h => ?_, fun x hx => nomatch hx⟩
  · rw [ev_nilT]; exact s_anil
  · rw [ev_nilL]; exact s_lnil
  · rw [ev_nilT] at h; cases h; rfl
  · rw [ev_nilL] at h; cases h; rfl
theorem lok_cons {es : List Expr} {ys : IE} (h1 : EOk F G X e x) (h2 : LOk F G X es ys) : LOk F G X (e :: es) (.cons x ys) := by
  have st := star1 (env := X.env) (es := es) h1.ns
  refine ⟨?_, ?_, fun r ds r' h => ?_, fun r ds r' h => ?_, fun z hz => ?_⟩
  · rw [ev_consT]; exact s_acons h1.pe h2.pa st
  · rw [ev_consL]; exact s_lcons h1.pe h2.pl st
  · rw [ev_consT] at h
    dsimp only at h
    cases e1 : treeO (evE F x r) with
    | bad => rw [e1] at h; cases h
    | exc z r2 => rw [e1] at h; cases h
    | ok t r2 =>
      rw [e1] at h
      dsimp only [Out.bind] at h
      cases e2 : evT F ys r2 with
      | bad => rw [e2] at h; cases h
      | exc z r3 => rw [e2] at h; cases h
      | ok ts r3 => rw [e2] at h; cases h; simp [h2.la _ _ _ e2]
  · rw [ev_consL] at h
    dsimp only at h
    cases e1 : evE F x r with
    | bad => rw [e1] at h; cases h
    | exc z r2 => rw [e1] at h; cases h
    | ok t r2 =>
      rw [e1] at h
      dsimp only [Out.bind] at h
      cases e2 : evL F ys r2 with
      | bad => rw [e2] at h; cases h
      | exc z r3 => rw [e2] at h; cases h
      | ok ts r3 => rw [e2] at h; cases h; simp [h2.ll _ _ _ e2]
  · rcases List.mem_cons.mp hz with rfl | hz
    · exact h1.ns
    · exact h2.ns z hz
theorem eok_tup {es : List Expr} {k : Nat} (h : LOk F G X es x) (hz : es.length ≤ 1000) : EOk F G X (.Tuple es k pos) (.tup x) := by
  refine EOk.of ?_ (fun _ => rfl) (fun _ _ q => nomatch q) rfl (fun _ _ _ q => nomatch q)
  rw [ev_tup]
  exact s_tup h.pa fun r ds r' e => by rw [h.la _ _ _ e, sizeLine_eq]; omega
theorem eok_lst {es : List Expr} (h : LOk F G X es x) (hz : es.length ≤ 1000) : EOk F G X (.List es pos) (.lst x) := by
  refine EOk.of ?_ (fun _ => rfl) (fun _ _ q => nomatch q) rfl (fun _ _ _ q => nomatch q)
  rw [ev_lst]
  exact s_lst h.pa fun r ds r' e => by rw [h.la _ _ _ e, sizeLine_eq]; omega
theorem ev_dnew : evE F .dnew = fun r => .ok (.v (.dct [])) r := by funext r; simp only [evE]
theorem ev_neg : evE F (.neg x) = fun r => (evE F x r).bind fun h r => lift1 r h negV fun i => .d (.int (-i)) := by funext r; simp only [evE]
theorem ev_chain {o o' : COp} {z : IE} : evE F (.chain o o' x y z) = chainF (cmpV o) (cmpV o') (evE F x) (evE F y) (evE F z) := by funext r; simp only [evE]
theorem ev_bnd : evE F (.bnd x) = fun r => (evE F x r).bind fun h r => lift1 r h negV fun i => .d (.int i) := by funext r; simp only [evE]
theorem ev_sl {z : IE} : evE F (.sl x y z) = slF (evE F x) (evE F y) (evE F z) := by funext r; simp only [evE]
theorem ev_rev : evE F (.rev x) = fun r => (evE F x r).bind fun h r => lift1 r h revV fun xs => .d (.tuple xs.reverse) := by funext r; simp only [evE]
theorem ev_f1 {f : F1} : evE F (.f1 f x) = fun r => (evE F x r).bind fun h r => lift1 r h (f1V f) id := by funext r; simp only [evE]
theorem ev_f2 {f : F2} : evE F (.f2 f x y) = fun r => (evE F x r).bind fun h r => (evE F y r).bind fun g r => lift2 r h g (f2V f) .d := by funext r; simp only [evE]
theorem ev_mth {m : Mt} : evE F (.mth m x y) = mthF m (evE F x) (evL F y) := by funext r; simp only [evE]
theorem ev_cv {cv : Cv} : evE F (.cv cv x) = cvF cv (evI F x) := by funext r; simp only [evE]
theorem ev_zip : evI F (.zip x y) = zipF (evE F x) (evE F y) := by funext r; simp only [evI]
theorem ev_enum : evI F (.enum x) = enumF (evE F x) := by funext r; simp only [evI]
theorem ev_vals : evI F (.vals x) = valsF (evE F x) := by funext r; simp only [evI]
/-- what the n-th compiler says -/
structure IH (n : Nat) : Prop where
  e : ∀ {C : CC} {F : FT} {G : Gs} {X : Cx}, XOk C F G X → ∀ {e ie}, cE n C e = some ie → EOk F G X e ie
  cmp : ∀ {C : CC} {F : FT} {G : Gs} {X : Cx}, XOk C F G X → ∀ {a ops bs pos ie}, cCmp n C a ops bs = some ie → EOk F G X (.Compare a ops bs pos) ie
  bo : ∀ {C : CC} {F : FT} {G : Gs} {X : Cx}, XOk C F G X → ∀ {op es pos ie}, cBo n C op es = some ie → EOk F G X (.BoolOp op es pos) ie
  sub : ∀ {C : CC} {F : FT} {G : Gs} {X : Cx}, XOk C F G X → ∀ {a b pos ie}, cSub n C a b = some ie → EOk F G X (.Subscript a b pos) ie
  lc : ∀ {C : CC} {F : FT} {G : Gs} {X : Cx}, XOk C F G X → ∀ {elt gens scope pos ie}, cLC n C elt gens scope = some ie → EOk F G X (.ListComp elt gens scope pos) ie
  ca : ∀ {C : CC} {F : FT} {G : Gs} {X : Cx}, XOk C F G X → ∀ {f args pos ie}, cCa n C f args pos = some ie → EOk F G X (.Call f args [] pos) ie
  m : ∀ {C : CC} {F : FT} {G : Gs} {X : Cx}, XOk C F G X → ∀ {o m args ap pos ie}, cM n C o m args = some ie → (ap.endLine == pos.line) = true → EOk F G X (.Call (.Attribute o m ap) args [] pos) ie
  t : ∀ {C : CC} {F : FT} {G : Gs} {X : Cx}, XOk C F G X → isBi C "tuple" = true → ∀ {a p pos ie}, cT n C a = some ie → EOk F G X (.Call (.Name "tuple" p) [a] [] pos) ie
  v : ∀ {C : CC} {F : FT} {G : Gs} {X : Cx}, XOk C F G X → isBi C "list" = true → ∀ {a p pos ie}, cV n C a = some ie → EOk F G X (.Call (.Name "list" p) [a] [] pos) ie
  o : ∀ {C : CC} {F : FT} {G : Gs} {X : Cx}, XOk C F G X → ∀ {eo ie}, cO n C eo = some ie → PO X eo (tO G (evE F ie))
  c : ∀ {C : CC} {F : FT} {G : Gs} {X : Cx}, XOk C F G X → ∀ {es ie}, cC n C es = some ie → PTs X es (tT G fun r => tstO (evE F ie r))
  l : ∀ {C : CC} {F : FT} {G : Gs} {X : Cx}, XOk C F G X → ∀ {es ie}, cL n C es = some ie → LOk F G X es ie
  i : ∀ {C : CC} {F : FT} {G : Gs} {X : Cx}, XOk C F G X → ∀ {tg e ie}, cI n C (isTup tg) e = some ie → PI X tg e (tI G (evI F ie)) ∧ ∀ x, foldedSetIterable e X.env x = pure x
theorem ih0 : IH 0 := by
  constructor <;> intros <;> rename_i h <;> first | (simp [cE] at h; done) | (simp [cCmp] at h; done) | (simp [cBo] at h; done) | (simp [cSub] at h; done) | (simp [cLC] at h; done) | (simp [cCa] at h; done) | (simp [cT] at h; done) | (simp [cV] at h; done) | (simp [cO] at h; done) | (simp [cC] at h; done) | (simp [cL] at h; done) | (simp [cI] at h; done) | (rename_i h2; simp [cM] at h2; done)
variable {n : Nat}
theorem ih_e (I : IH n) (O : XOk C F G X) (h : cE (n + 1) C e = some ie) : EOk F G X e ie := by
  cases e with
  | Constant cn k pos => rw [cE] at h; exact eok_const h
  | Name x pos => rw [cE] at h; exact eok_name O h
  | Tuple es k pos =>
    rw [cE] at h
    split at h
    · rename_i hz
      cases q : cL n C es with
      | none => rw [q] at h; cases h
      | some y => rw [q] at h; cases h; exact eok_tup (I.l O q) hz
    · cases h
  | List es pos =>
    rw [cE] at h
    split at h
    · rename_i hz
      cases q : cL n C es with
      | none => rw [q] at h; cases h
      | some y => rw [q] at h; cases h; exact eok_lst (I.l O q) hz
    · cases h
  | Dict ks vs pos =>
    cases ks with
    | cons _ _ => simp [cE] at h
    | nil =>
      cases vs with
      | cons _ _ => simp [cE] at h
      | nil =>
        rw [cE] at h
        cases h
        refine EOk.of ?_ (fun _ => rfl) (fun _ _ q => nomatch q) rfl (fun _ _ _ q => nomatch q)
        rw [ev_dnew]; exact s_dnew
  | BinOp a op b pos =>
    rw [cE] at h
    cases q1 : bopOf op with
    | none => rw [q1] at h; cases h
    | some o =>
      cases q2 : cE n C a with
      | none => rw [q1, q2] at h; cases h
      | some x =>
        cases q3 : cE n C b with
        | none => rw [q1, q2, q3] at h; cases h
        | some y =>
          rw [q1, q2, q3] at h
          cases h
          refine EOk.of ?_ (fun _ => rfl) (fun _ _ q => nomatch q) rfl (fun _ _ _ q => nomatch q)
          rw [ev_bin]
          exact O.bin q1 (I.e O q2).pe (I.e O q3).pe
  | UnaryOp op a pos =>
    cases op with
    | USub =>
      rw [cE] at h
      cases q2 : cE n C a with
      | none => rw [q2] at h; cases h
      | some x =>
        rw [q2] at h
        cases h
        refine EOk.of ?_ (fun _ => rfl) (fun _ _ q => nomatch q) rfl (fun _ _ _ q => nomatch q)
        rw [ev_neg]; exact s_neg (I.e O q2).pe
    | Not =>
      rw [cE] at h
      cases q2 : cE n C a with
      | none => rw [q2] at h; cases h
      | some x =>
        rw [q2] at h
        cases h
        refine ⟨?_, ?_, (fun _ _ _ q => nomatch q), (fun _ _ q => nomatch q), rfl⟩
        · rw [ev_not]; exact s_not (I.e O q2).pe
        · rw [ev_not]; exact s_tnot (I.e O q2).pt
    | _ => simp [cE] at h
  | Compare a ops bs pos => rw [cE] at h; exact I.cmp O h
  | BoolOp op es pos => rw [cE] at h; exact I.bo O h
  | IfExp c a b pos =>
    rw [cE] at h
    cases q1 : cE n C c with
    | none => rw [q1] at h; cases h
    | some t =>
      cases q2 : cE n C a with
      | none => rw [q1, q2] at h; cases h
      | some x =>
        cases q3 : cE n C b with
        | none => rw [q1, q2, q3] at h; cases h
        | some y =>
          rw [q1, q2, q3] at h
          cases h
          refine ⟨?_, ?_, (fun _ _ _ q => nomatch q), (fun _ _ q => nomatch q), rfl⟩
          · rw [ev_ife]; exact s_ife (I.e O q1).pt (I.e O q2).pe (I.e O q3).pe
          · rw [ev_ife]
            have := s_tife (pos := pos) (I.e O q1).pt (I.e O q2).pt (I.e O q3).pt
            refine PT.imp this fun σ H Q ⟨ρ, As, Z, R, hO⟩ => ⟨ρ, As, Z, R, ?_⟩
            dsimp only at hO ⊢
            rw [tst_bindB] at hO
            cases q : tstO (evE F t ρ) with
            | bad => rw [q] at hO; exact hO
            | exc z r => rw [q] at hO; exact hO
            | ok b r => rw [q] at hO; cases b <;> exact hO
  | Subscript a b pos => rw [cE] at h; exact I.sub O h
  | ListComp elt gens scope pos => rw [cE] at h; exact I.lc O h
  | Call f args kw pos =>
    cases kw with
    | nil => rw [cE] at h; exact I.ca O h
    | cons _ _ => simp [cE] at h
  | _ => simp [cE] at h
end
end Q
/-! QIc: the induction over expressions, the rest. -/
namespace Q
open PySem L2
section
variable {C : CC} {F : FT} {G : Gs} {X : Cx} {e a b c : Expr} {pos p : Pos} {ie x y : IE} {n : Nat}
theorem ih_cmp (I : IH n) (O : XOk C F G X) {ops : List CmpOp} {bs : List Expr} (h : cCmp (n + 1) C a ops bs = some ie) : EOk F G X (.Compare a ops bs pos) ie := by
  match ops, bs, h with
  | [op], [b], h =>
    rw [cCmp] at h
    cases q1 : copOf op with
    | none => rw [q1] at h; cases h
    | some o =>
      cases q2 : cE n C a with
      | none => rw [q1, q2] at h; cases h
      | some x =>
        cases q3 : cE n C b with
        | none => rw [q1, q2, q3] at h; cases h
        | some y =>
          rw [q1, q2, q3] at h
          cases h
          obtain ⟨h1, h2⟩ := O.cmp (pos := pos) q1 (I.e O q2).pe (I.e O q3).pe (I.e O q3).st
          exact ⟨by rw [ev_cmp]; exact h1, by rw [ev_cmp]; exact h2, (fun _ _ _ q => nomatch q), (fun _ _ q => nomatch q), rfl⟩
  | [op, op'], [b, c], h =>
    rw [cCmp] at h
    cases q1 : copOf op with
    | none => rw [q1] at h; cases h
    | some o =>
      cases q1' : copOf op' with
      | none => rw [q1, q1'] at h; cases h
      | some o' =>
        cases q2 : cE n C a with
        | none => rw [q1, q1', q2] at h; cases h
        | some x =>
          cases q3 : cE n C b with
          | none => rw [q1, q1', q2, q3] at h; cases h
          | some y =>
            cases q4 : cE n C c with
            | none => rw [q1, q1', q2, q3, q4] at h; cases h
            | some z =>
              rw [q1, q1', q2, q3, q4] at h
              dsimp only at h
              by_cases hp : (plainC o && plainC o') = true
              · rw [if_pos hp] at h
                cases h
                rw [Bool.and_eq_true] at hp
                obtain ⟨r, r1, r2⟩ := O.cmpP q1 hp.1
                obtain ⟨r', r1', r2'⟩ := O.cmpP q1' hp.2
                have hm := nb_of (op := op') (I.e O q4).st
                refine ⟨?_, ?_, (fun _ _ _ q => nomatch q), (fun _ _ q => nomatch q), rfl⟩
                · rw [ev_chain]; exact s_chain r1 r1' r2 r2' (I.e O q2).pe (I.e O q3).pe (I.e O q4).pe hm
                · rw [ev_chain]; exact s_tchain r1 r1' r2 r2' (I.e O q2).pe (I.e O q3).pe (I.e O q4).pe hm
              · rw [if_neg hp] at h; cases h
  | [], _, h => simp [cCmp] at h
  | _ :: _ :: _ :: _, _, h => simp [cCmp] at h
  | [_], [], h => simp [cCmp] at h
  | [_], _ :: _ :: _, h => simp [cCmp] at h
  | [_, _], [], h => simp [cCmp] at h
  | [_, _], [_], h => simp [cCmp] at h
  | [_, _], _ :: _ :: _ :: _, h => simp [cCmp] at h
theorem eok_bo2 {op : BoolOp} (h1 : EOk F G X a x) (h2 : PE X (.BoolOp op [b] pos) (tE G (evE F y))) (h3 : PW X (.BoolOp op [b] pos) (tT G fun r => tstO (evE F y r))) : (op = .And → EOk F G X (.BoolOp op [a, b] pos) (.and x y)) ∧ (op = .Or → EOk F G X (.BoolOp op [a, b] pos) (.or x y)) := by
  constructor
  · rintro rfl
    have w : PW X (.BoolOp .And [a, b] pos) (tT G fun r => tstO (evE F (.and x y) r)) := by rw [ev_and]; exact s_tand h1.pt h3
    exact ⟨by rw [ev_and]; exact s_and h1.pe h2, w.pt, (fun op es p q => by cases q; exact w), (fun _ _ q => nomatch q), rfl⟩
  · rintro rfl
    have w : PW X (.BoolOp .Or [a, b] pos) (tT G fun r => tstO (evE F (.or x y) r)) := by rw [ev_or]; exact s_tor h1.pt h3
    exact ⟨by rw [ev_or]; exact s_or h1.pe h2, w.pt, (fun op es p q => by cases q; exact w), (fun _ _ q => nomatch q), rfl⟩
theorem ih_bo (I : IH n) (O : XOk C F G X) {op : BoolOp} {es : List Expr} (h : cBo (n + 1) C op es = some ie) : EOk F G X (.BoolOp op es pos) ie := by
  match es, h with
  | [], h => simp [cBo] at h
  | [_], h => simp [cBo] at h
  | [a, b], h =>
    rw [cBo] at h
    cases q2 : cE n C a with
    | none => rw [q2] at h; cases h
    | some x =>
      cases q3 : cE n C b with
      | none => rw [q2, q3] at h; cases h
      | some y =>
        rw [q2, q3] at h
        have e1 := I.e O q2
        have e2 := I.e O q3
        cases op with
        | And => cases h; exact (eok_bo2 e1 (pe_and1 e2.pe) (pw_and1 e2.pt)).1 rfl
        | Or => cases h; exact (eok_bo2 e1 (pe_or1 e2.pe) (pw_or1 e2.pt)).2 rfl
  | a :: b :: c :: r, h =>
    rw [cBo] at h
    cases q2 : cE n C a with
    | none => rw [q2] at h; cases h
    | some x =>
      cases q3 : cBo n C op (b :: c :: r) with
      | none => rw [q2, q3] at h; cases h
      | some y =>
        rw [q2, q3] at h
        have h1 := I.e O q2
        have h2 := I.bo (pos := pos) O q3
        cases op with
        | And =>
          cases h
          have w : PW X (.BoolOp .And (a :: b :: c :: r) pos) (tT G fun r => tstO (evE F (.and x y) r)) := by rw [ev_and]; exact s_tand h1.pt (h2.pw _ _ _ rfl)
          exact ⟨by rw [ev_and]; exact s_and h1.pe h2.pe, w.pt, (fun op es p q => by cases q; exact w), (fun _ _ q => nomatch q), rfl⟩
        | Or =>
          cases h
          have w : PW X (.BoolOp .Or (a :: b :: c :: r) pos) (tT G fun r => tstO (evE F (.or x y) r)) := by rw [ev_or]; exact s_tor h1.pt (h2.pw _ _ _ rfl)
          exact ⟨by rw [ev_or]; exact s_or h1.pe h2.pe, w.pt, (fun op es p q => by cases q; exact w), (fun _ _ q => nomatch q), rfl⟩
theorem plain_of (h : isSl b = false) : PlainIx b ∧ NoSl b := by
  cases b <;> first | exact ⟨fun _ _ => rfl, fun _ _ => rfl⟩ | cases h
theorem ih_sub (I : IH n) (O : XOk C F G X) (h : cSub (n + 1) C a b = some ie) : EOk F G X (.Subscript a b pos) ie := by
  refine EOk.of ?_ (fun _ => rfl) (fun _ _ q => nomatch q) rfl (fun _ _ _ q => nomatch q)
  by_cases hs : isSl b = true
  · cases b with
    | Slice lo hi st sp =>
      cases st with
      | none =>
        rw [cSub] at h
        cases q2 : cE n C a with
        | none => rw [q2] at h; cases h
        | some x =>
          cases q3 : cO n C lo with
          | none => rw [q2, q3] at h; cases h
          | some y =>
            cases q4 : cO n C hi with
            | none => rw [q2, q3, q4] at h; cases h
            | some z =>
              rw [q2, q3, q4] at h
              cases h
              rw [ev_sl]
              exact s_sl O.K (I.e O q2).pe (I.o O q3) (I.o O q4)
      | some st =>
        cases lo with
        | some _ => simp [cSub] at h
        | none =>
          cases hi with
          | some _ => simp [cSub] at h
          | none =>
            simp only [cSub] at h
            split at h
            · rename_i ho
              unfold isOne at ho
              split at ho
              · rename_i i k p1 p2 heq
                cases heq
                have hi : i = 1 := of_decide_eq_true ho
                subst hi
                cases q2 : cE n C a with
                | none => rw [q2] at h; cases h
                | some x =>
                  rw [q2] at h
                  cases h
                  rw [ev_rev]
                  exact s_rev O.K (pe_revT (I.e O q2).pe)
              · cases ho
            · cases h
    | _ => cases hs
  · have hs' : isSl b = false := by simpa using hs
    have hh : ∃ x y, cE n C a = some x ∧ cE n C b = some y ∧ ie = IE.ix x y := by
      cases b with
      | Slice lo hi st sp => cases hs'
      | _ =>
        simp only [cSub] at h
        split at h
        · cases h
          exact ⟨_, _, by assumption, by assumption, rfl⟩
        · cases h
    obtain ⟨x, y, q2, q3, rfl⟩ := hh
    rw [ev_ix]
    exact s_ixQ O.K O.u1 (I.e O q2).pe (I.e O q3).pe (plain_of hs').1 (plain_of hs').2
theorem ih_o (I : IH n) (O : XOk C F G X) {eo : Option Expr} (h : cO (n + 1) C eo = some ie) : PO X eo (tO G (evE F ie)) := by
  cases eo with
  | none => rw [cO] at h; cases h; rw [ev_k]; exact po_nil
  | some e =>
    rw [cO] at h
    cases q : cE n C e with
    | none => rw [q] at h; cases h
    | some x => rw [q] at h; cases h; rw [ev_bnd]; exact po_int (I.e O q).pe
theorem pts_yes : PTs X [] (tT G fun r => tstO (evE F (.k (.bool true)) r)) := ⟨fun pins s σ H Q I ⟨ρ, As, Z, R, hO⟩ => by
  rw [ev_k] at hO
  exact pts_nil.run pins s σ H Q I (hO H ⟨As, Z, R, Stp.refl, trivial⟩)⟩
theorem ih_c (I : IH n) (O : XOk C F G X) {es : List Expr} (h : cC (n + 1) C es = some ie) : PTs X es (tT G fun r => tstO (evE F ie r)) := by
  match es, h with
  | [], h => rw [cC] at h; cases h; exact pts_yes
  | [c], h => rw [cC] at h; exact pts_one (I.e O h).pt
  | _ :: _ :: _, h => simp [cC] at h
theorem ih_l (I : IH n) (O : XOk C F G X) {es : List Expr} (h : cL (n + 1) C es = some ie) : LOk F G X es ie := by
  cases es with
  | nil => rw [cL] at h; cases h; exact lok_nil
  | cons e r =>
    rw [cL] at h
    cases q2 : cE n C e with
    | none => rw [q2] at h; cases h
    | some x =>
      cases q3 : cL n C r with
      | none => rw [q2, q3] at h; cases h
      | some y => rw [q2, q3] at h; cases h; exact lok_cons (I.e O q2) (I.l O q3)
theorem bCall_of {f : Str} {k : Nat} {args : List Expr} (h : bCall C f k e = some args) : ∃ q r, e = .Call (.Name f q) args [] r ∧ isBi C f = true ∧ args.length = k := by
  unfold bCall at h
  split at h
  · split at h
    · rename_i hc
      cases h
      obtain ⟨rfl, h2, h3⟩ := hc
      exact ⟨_, _, rfl, h2, h3⟩
    · cases h
  · cases h
theorem ih_i (I : IH n) (O : XOk C F G X) {tg : Expr} (h : cI (n + 1) C (isTup tg) e = some ie) : PI X tg e (tI G (evI F ie)) ∧ ∀ x, foldedSetIterable e X.env x = pure x := by
  have seq : ∀ {x : IE}, cE n C e = some x → PI X tg e (tI G (evI F (.seq x))) ∧ ∀ x, foldedSetIterable e X.env x = pure x := fun {x} q => by
    have k := I.e O q
    refine ⟨by rw [ev_seq]; exact s_iseq O.K k.pe, ?_⟩
    have := k.st
    cases e <;> first | (intro _; rfl) | cases this
  have hseq : ∀ {o : Option IE}, o = some ie → o = (cE n C e).map .seq → PI X tg e (tI G (evI F ie)) ∧ ∀ x, foldedSetIterable e X.env x = pure x := fun h1 h2 => by
    rw [h2] at h1
    cases q : cE n C e with
    | none => rw [q] at h1; cases h1
    | some x => rw [q] at h1; cases h1; exact seq q
  rw [cI] at h
  cases qr : bCall C "range" 1 e with
  | some args =>
    obtain ⟨q, r, rfl, hb, hl⟩ := bCall_of qr
    match args, hl with
    | [a], _ =>
      rw [qr] at h
      dsimp only at h
      cases q2 : cE n C a with
      | none => rw [q2] at h; cases h
      | some x =>
        rw [q2] at h
        cases h
        obtain ⟨hg, hm, _⟩ := O.biOk hb
        have k := I.e O q2
        refine ⟨?_, fun _ => rfl⟩
        rw [ev_rng1]
        exact s_rng1 hg hm k.pe (star1 (es := []) k.ns)
  | none =>
    rw [qr] at h
    dsimp only at h
    cases qe : bCall C "enumerate" 1 e with
    | none => rw [qe] at h; exact hseq h rfl
    | some args =>
      obtain ⟨q, r, rfl, hb, hl⟩ := bCall_of qe
      match args, hl with
      | [a], _ =>
        rw [qe] at h
        dsimp only at h
        cases ht : isTup tg with
        | false => rw [ht] at h; cases h
        | true =>
          rw [ht] at h
          cases tg with
          | Tuple elts kk tp =>
            cases q2 : cE n C a with
            | none => rw [q2] at h; cases h
            | some x =>
              rw [q2] at h
              cases h
              obtain ⟨hg, hm, _⟩ := O.biOk hb
              have k := I.e O q2
              have st := star1 (env := X.env) (es := []) k.ns
              refine ⟨?_, fun _ => rfl⟩
              rw [ev_enum]
              exact s_enum O.K (pi_enumP hg hm (pa_cons k.pe pa_nil st) st)
          | _ => cases ht
end
end Q
/-! QId: the induction over expressions: calls, comprehensions; all together. -/
namespace Q
open PySem L2
section
variable {C : CC} {F : FT} {G : Gs} {X : Cx} {e a b c : Expr} {pos p : Pos} {ie x y : IE} {n : Nat}
theorem eok_call {f : Expr} {args : List Expr} (h : PE X (.Call f args [] pos) (tE G (evE F ie))) : EOk F G X (.Call f args [] pos) ie :=
  EOk.of h (fun _ => rfl) (fun _ _ q => nomatch q) rfl (fun _ _ _ q => nomatch q)
theorem ih_t (I : IH n) (O : XOk C F G X) (ht : isBi C "tuple" = true) (h : cT (n + 1) C a = some ie) : EOk F G X (.Call (.Name "tuple" p) [a] [] pos) ie := by
  refine eok_call ?_
  obtain ⟨hg, hm, _⟩ := O.biOk ht
  have plain : ∀ {o : Option IE}, o = some ie → o = (cE n C a).map (.f1 .tuple) → PE X (.Call (.Name "tuple" p) [a] [] pos) (tE G (evE F ie)) := fun h1 h2 => by
    rw [h2] at h1
    cases q : cE n C a with
    | none => rw [q] at h1; cases h1
    | some x =>
      rw [q] at h1; cases h1
      rw [ev_f1]
      have k := I.e O q
      exact O.f1 (f := "tuple") (g := .tuple) (by unfold f1Of; rw [if_pos rfl]) ht k.pe k.ns
  rw [cT] at h
  cases qr : bCall C "range" 1 a with
  | some args =>
    obtain ⟨q, r, rfl, hb, hl⟩ := bCall_of qr
    match args, hl with
    | [b], _ =>
      rw [qr] at h
      dsimp only at h
      cases q2 : cE n C b with
      | none => rw [q2] at h; cases h
      | some x =>
        rw [q2] at h
        cases h
        obtain ⟨hgr, hmr, _⟩ := O.biOk hb
        have k := I.e O q2
        rw [ev_cv, ev_rng1]
        exact s_tupRg (pe_tupRgP O.calm hg hm (prg_1 hgr hmr k.pe (star1 (es := []) k.ns)) rfl)
  | none =>
    rw [qr] at h
    dsimp only at h
    cases qz : bCall C "zip" 2 a with
    | none => rw [qz] at h; exact plain h rfl
    | some args =>
      obtain ⟨q, r, rfl, hb, hl⟩ := bCall_of qz
      match args, hl with
      | [b, c], _ =>
        rw [qz] at h
        dsimp only at h
        cases q2 : cE n C b with
        | none => rw [q2] at h; cases h
        | some x =>
          cases q3 : cE n C c with
          | none => rw [q2, q3] at h; cases h
          | some y =>
            rw [q2, q3] at h
            cases h
            obtain ⟨hgz, hmz, _⟩ := O.biOk hb
            have k1 := I.e O q2
            have k2 := I.e O q3
            rw [ev_cv, ev_zip]
            exact s_tupZip O.K (pe_tupZip O.calm hg hm hgz hmz k1.pe k2.pe (star1 (es := [c]) k1.ns) (star1 (es := []) k2.ns) (backTo_any fun x hx => by rw [List.mem_singleton.mp hx]; exact k2.ns))
theorem valsCall_of {o : Expr} (h : valsCall e = some o) : ∃ ap r, e = .Call (.Attribute o "values" ap) [] [] r ∧ (ap.endLine == r.line) = true ∧ isCall o = false := by
  unfold valsCall at h
  split at h
  · split at h
    · rename_i hc
      cases h
      obtain ⟨rfl, h2, h3⟩ := hc
      exact ⟨_, _, rfl, h2, h3⟩
    · cases h
  · cases h
theorem ih_v (I : IH n) (O : XOk C F G X) (ht : isBi C "list" = true) (h : cV (n + 1) C a = some ie) : EOk F G X (.Call (.Name "list" p) [a] [] pos) ie := by
  refine eok_call ?_
  obtain ⟨hg, hm, _⟩ := O.biOk ht
  have plain : ∀ {o : Option IE}, o = some ie → o = (cE n C a).map (.f1 .list) → PE X (.Call (.Name "list" p) [a] [] pos) (tE G (evE F ie)) := fun h1 h2 => by
    rw [h2] at h1
    cases q : cE n C a with
    | none => rw [q] at h1; cases h1
    | some x =>
      rw [q] at h1; cases h1
      rw [ev_f1]
      have k := I.e O q
      exact O.f1 (f := "list") (g := .list) (by unfold f1Of; rw [if_neg (by decide), if_pos rfl]) ht k.pe k.ns
  rw [cV] at h
  cases qr : bCall C "range" 1 a with
  | some args =>
    obtain ⟨q, r, rfl, hb, hl⟩ := bCall_of qr
    match args, hl with
    | [b], _ =>
      rw [qr] at h
      dsimp only at h
      cases q2 : cE n C b with
      | none => rw [q2] at h; cases h
      | some x =>
        rw [q2] at h
        cases h
        obtain ⟨hgr, hmr, _⟩ := O.biOk hb
        have k := I.e O q2
        rw [ev_cv, ev_rng1]
        exact s_lstRg (pe_listRg O.calm hg hm (prg_1 hgr hmr k.pe (star1 (es := []) k.ns)) rfl)
  | none =>
    rw [qr] at h
    dsimp only at h
    cases qv : valsCall a with
    | none => rw [qv] at h; exact plain h rfl
    | some o =>
      obtain ⟨ap, r, rfl, hl, hc⟩ := valsCall_of qv
      rw [qv] at h
      dsimp only at h
      cases q2 : cE n C o with
      | none => rw [q2] at h; cases h
      | some x =>
        rw [q2] at h
        cases h
        rw [ev_cv, ev_vals]
        exact s_lstVals (pe_lstVals O.calm hg hm (I.e O q2).pe (base_of hc) hl)
theorem ev_muts {F : FT} {u : Mu} {i : Nat} {y : IE} : evE F (.mut u i (.cons y .nil)) = mutF i (evT F (.cons y .nil)) (mutL u) := ev_mut
theorem ih_m (I : IH n) (O : XOk C F G X) {o : Expr} {m : Str} {args : List Expr} {ap : Pos} (h : cM (n + 1) C o m args = some ie) (hl : (ap.endLine == pos.line) = true) : EOk F G X (.Call (.Attribute o m ap) args [] pos) ie := by
  refine eok_call ?_
  cases args with
  | nil =>
    cases o with
    | Name x np =>
      simp only [cM] at h
      cases qs : slotOf C x with
      | none => rw [qs] at h; cases h
      | some i =>
        rw [qs] at h
        dsimp only at h
        by_cases hm : m = "reverse"
        · rw [if_pos hm] at h
          cases h
          subst hm
          rw [ev_mut, ev_nilT]
          exact O.reverse qs hl
        · rw [if_neg hm] at h; cases h
    | _ => simp [cM] at h
  | cons a r =>
    cases r with
    | cons _ _ => simp [cM] at h
    | nil =>
      by_cases hm : m = "index"
      · simp only [cM] at h
        rw [if_pos hm] at h
        by_cases hc : isCall o = true
        · rw [if_pos hc] at h; cases h
        · rw [if_neg hc] at h
          cases q2 : cE n C o with
          | none => rw [q2] at h; cases h
          | some x =>
            cases q3 : cE n C a with
            | none => rw [q2, q3] at h; cases h
            | some y =>
              rw [q2, q3] at h
              cases h
              have k := I.e O q3
              subst hm
              rw [ev_mth]
              exact O.index (I.e O q2).pe (lok_cons k lok_nil).pl k.ns hl (by simpa using hc)
      · cases o with
        | Name x np =>
          simp only [cM] at h
          rw [if_neg hm] at h
          cases qs : slotOf C x with
          | none => rw [qs] at h; cases h
          | some i =>
            cases q3 : cE n C a with
            | none => rw [qs, q3] at h; cases h
            | some y =>
              rw [qs, q3] at h
              dsimp only at h
              have k := I.e O q3
              by_cases h1 : m = "extend"
              · rw [if_pos h1] at h
                cases h
                subst h1
                rw [ev_ext]
                exact O.ext qs k.pe k.ns hl
              rw [if_neg h1] at h
              by_cases h2 : m = "append"
              · rw [if_pos h2] at h
                cases h
                subst h2
                rw [ev_mut]
                exact O.app qs (lok_cons k lok_nil).pa k.ns hl
              rw [if_neg h2] at h
              by_cases h3 : m = "pop"
              · rw [if_pos h3] at h
                cases h
                subst h3
                rw [ev_mut]
                exact O.pop1 qs (lok_cons k lok_nil).pa k.ns hl
              rw [if_neg h3] at h
              cases h
        | _ => simp [cM, hm] at h
theorem ih_ca (I : IH n) (O : XOk C F G X) {f : Expr} {args : List Expr} (h : cCa (n + 1) C f args pos = some ie) : EOk F G X (.Call f args [] pos) ie := by
  cases f with
  | Attribute o m ap =>
    simp only [cCa] at h
    split at h
    · exact I.m O h (by assumption)
    · cases h
  | Name f fp =>
    simp only [cCa] at h
    cases qg : globOf C f with
    | none => rw [qg] at h; cases h
    | some g =>
      rw [qg] at h
      cases g with
      | cst d => cases h
      | fn id np =>
        dsimp only at h
        split at h
        · rename_i hn
          cases ql : cL n C args with
          | none => rw [ql] at h; cases h
          | some ys =>
            rw [ql] at h
            cases h
            obtain ⟨h1, h2, h3⟩ := O.glob qg
            obtain ⟨k, r, gl⟩ := O.gl
            obtain ⟨fa, fd, ps, g1, g2, g3, g4⟩ := (gl f _ h3).fn id np rfl
            have L := I.l O ql
            refine eok_call ?_
            match args, hn, L with
            | a :: r', hn, L =>
              have st := star1 (env := X.env) (es := r') (L.ns a (List.mem_cons_self ..))
              have hpl : (backTo pos (starEach r' X.env)).any (·.1) = false := backTo_any fun x hx => L.ns x (List.mem_cons_of_mem _ hx)
              rw [ev_call]
              refine PE.imp (pe_callSD (E := fun σ c d H => G.W c d σ H) (dvs := []) (ds := []) g4 r h1 g1 g2 g3 .nil (fun σ => passAt O.tk σ) L.pl (plainN_of h2).1 st hpl) fun σ H Q hh => ?_
              exact call_tE hh fun r hs r' e => by rw [L.ll _ _ _ e]; exact hn.1
            | [], hn, _ => simp at hn; omega
        · cases h
      | bi =>
        have hb : isBi C f = true := by unfold isBi; rw [qg]
        dsimp only at h
        cases args with
        | nil => cases h
        | cons a r' =>
          cases r' with
          | nil =>
            dsimp only at h
            by_cases h1 : f = "tuple"
            · rw [if_pos h1] at h
              cases h1
              exact I.t O hb h
            rw [if_neg h1] at h
            by_cases h2 : f = "list"
            · rw [if_pos h2] at h
              cases h2
              exact I.v O hb h
            rw [if_neg h2] at h
            cases qf : f1Of C.rp f with
            | none => rw [qf] at h; cases h
            | some g =>
              rw [qf] at h
              dsimp only at h
              cases q2 : cE n C a with
              | none => rw [q2] at h; cases h
              | some x =>
                rw [q2] at h
                cases h
                have k := I.e O q2
                refine eok_call ?_
                rw [ev_f1]
                exact O.f1 qf hb k.pe k.ns
          | cons b r' =>
            cases r' with
            | cons _ _ => cases h
            | nil =>
              dsimp only at h
              cases qf : f2Of f with
              | none => rw [qf] at h; cases h
              | some g =>
                rw [qf] at h
                dsimp only at h
                cases q2 : cE n C a with
                | none => rw [q2] at h; cases h
                | some x =>
                  cases q3 : cE n C b with
                  | none => rw [q2, q3] at h; cases h
                  | some y =>
                    rw [q2, q3] at h
                    cases h
                    have k1 := I.e O q2
                    have k2 := I.e O q3
                    refine eok_call ?_
                    rw [ev_f2]
                    exact O.f2 qf hb k1.pe k2.pe k1.ns k2.ns
  | _ => simp [cCa] at h
theorem tg_all {C' : CC} {scope : Scope} {tg : Expr} {is : List Nat} {one : Bool} (O : ∀ (s : Shared) (H : Hp) (c : Addr) (cl : List (Str × Addr)) (fp : List Addr), XOk C' F G.nox (X.blk s H scope (compEnvC scope cl c X.env) fp)) (hK : X.K = G.K) (h : tgOf C' tg = some (is, one)) :
    ∃ g, (∀ (s : Shared) (H : Hp) (c : Addr) (cl : List (Str × Addr)) (fp : List Addr), PG (X.blk s H scope (compEnvC scope cl c X.env) fp) tg g) ∧ TgSnd G.K [] is one g := by
  unfold tgOf at h
  split at h
  · rename_i x p
    cases q : locOf C' x with
    | none => rw [q] at h; cases h
    | some i => rw [q] at h; cases h; exact ⟨gName i, fun s H c cl fp => (O s H c cl fp).pg q, tg_one⟩
  · rename_i es k p
    cases q : namesOf es with
    | none => rw [q] at h; cases h
    | some xs =>
      rw [q] at h
      dsimp only at h
      cases q2 : slotsAll (locOf C') xs with
      | none => rw [q2] at h; cases h
      | some js =>
        rw [q2] at h
        cases h
        refine ⟨gTup G.K is.length (gSlots is), fun s H c cl fp => ?_, tg_many⟩
        obtain ⟨a, b, _⟩ := assignEach_names (env := (X.blk s H scope (compEnvC scope cl c X.env) fp).env) q
        rw [← hK]
        exact pg_tup (X := X.blk s H scope (compEnvC scope cl c X.env) fp) (O s H c cl fp).calm ((O s H c cl fp).pgs q q2) (by rw [a, slotsAll_len q2]) b
  · cases h
theorem ih_lc (I : IH n) (O : XOk C F G X) {elt : Expr} {gens : List Comprehension} {scope : Scope} (h : cLC (n + 1) C elt gens scope = some ie) : EOk F G X (.ListComp elt gens scope pos) ie := by
  refine EOk.of ?_ (fun _ => rfl) (fun _ _ q => nomatch q) rfl (fun _ _ _ q => nomatch q)
  match gens, h with
  | [], h => simp [cLC] at h
  | _ :: _ :: _, h => simp [cLC] at h
  | [⟨tg, iter, ifs, asy⟩], h =>
    simp only [cLC] at h
    split at h
    · rename_i hc
      obtain ⟨rfl, hc⟩ := hc
      cases q1 : cI n C (isTup tg) iter with
      | none => rw [q1] at h; cases h
      | some it =>
        cases q2 : tgOf (C.sub scope) tg with
        | none => rw [q1, q2] at h; cases h
        | some t =>
          obtain ⟨is, one⟩ := t
          cases q3 : cE n (C.sub scope) elt with
          | none => rw [q1, q2, q3] at h; cases h
          | some el =>
            cases q4 : cC n (C.sub scope) ifs with
            | none => rw [q1, q2, q3, q4] at h; cases h
            | some cc =>
              rw [q1, q2, q3, q4] at h
              dsimp only at h
              split at h
              · rename_i hs
                cases h
                obtain ⟨i1, i2⟩ := I.i O q1
                have bk : BlkOk X.N X.env.scope scope (ownOf C scope) := by rw [O.N, O.sc]; exact blkOk_by hc
                have sub : ∀ i ∈ is, i ∈ (ownOf C scope).map (·.2) := fun i hi => by
                  have := List.all_eq_true.mp hs i hi
                  simpa using this
                have O' := fun s H c cl fp => O.sub scope s H c cl fp
                -- the target, one for all blocks
                have tgx : ∃ g, (∀ (s : Shared) (H : Hp) (c : Addr) (cl : List (Str × Addr)) (fp : List Addr), PG (X.blk s H scope (compEnvC scope cl c X.env) fp) tg g) ∧ TgSnd G.K [] is one g := by
                  obtain ⟨g, h1, h2⟩ := tg_all O' O.K q2
                  exact ⟨g, h1, h2⟩
                obtain ⟨g, hg, sd⟩ := tgx
                rw [ev_lc]
                exact s_lc O.K O.calm O.nd i1 bk sub sd hg (fun s H c cl fp => I.c (O' s H c cl fp) q4) (fun s H c cl fp => (I.e (O' s H c cl fp) q3).pe) i2
              · cases h
    · cases h
end
end Q
/-! QIe: expressions whole; statements. -/
namespace Q
open PySem L2
theorem ih_all : ∀ n, IH n
  | 0 => ih0
  | n + 1 => by
    have I := ih_all n
    exact ⟨fun O _ _ h => ih_e I O h, fun O _ _ _ _ _ h => ih_cmp I O h, fun O _ _ _ _ h => ih_bo I O h, fun O _ _ _ _ h => ih_sub I O h, fun O _ _ _ _ _ h => ih_lc I O h, fun O _ _ _ _ h => ih_ca I O h,
      fun O _ _ _ _ _ _ h hl => ih_m I O h hl, fun O ht _ _ _ _ h => ih_t I O ht h, fun O ht _ _ _ _ h => ih_v I O ht h, fun O _ _ h => ih_o I O h, fun O _ _ h => ih_c I O h, fun O _ _ h => ih_l I O h, fun O _ _ _ h => ih_i I O h⟩
section
variable {C : CC} {F : FT} {G : Gs} {X : Cx} {e a b c : Expr} {pos p : Pos} {ie x y : IE} {n : Nat} {pin : List Bool}
theorem sw_no {t : Option Expr} {l : Nat} {env : Env} (h : isLC e = false) : swapsWith e t l env = pure false := by
  cases e <;> first | rfl | cases h
theorem cE_lc (h : cE n C e = some ie) (hl : isLC e = true) : ∃ elt gens scope q, e = .ListComp elt gens scope q := by
  cases n with
  | zero => simp [cE] at h
  | succ n =>
    cases e with
    | ListComp elt gens scope q => exact ⟨_, _, _, _, rfl⟩
    | SetComp _ _ _ _ => simp [cE] at h
    | DictComp _ _ _ _ _ => simp [cE] at h
    | _ => cases hl
theorem swap_lc {elt : Expr} {gens : List Comprehension} {scope : Scope} {q : Pos} {x : Str} {l : Nat} {env : Env} : ∃ b, swapsWith (.ListComp elt gens scope q) (some (.Name x p)) l env = pure b ∧ (b = true → env.kindOf x = some .local) := by
  refine ⟨(env.blockKind == .function && env.kindOf x == some .local && p.line == (Expr.ListComp elt gens scope q).pos.line && !(scope.names.any fun (n, k) => n == x && (k == .local || k == .cell))), rfl, fun h => ?_⟩
  simp only [Bool.and_eq_true] at h
  have := h.1.1.2
  simpa using this
/-- a name is set -/
theorem st_asg (O : XOk C F G X) {x : Str} {i : Nat} (hx : locOf C x = some i) (h : cE n C e = some ie) : PS X (.Assign [.Name x p] e pos) (tS G pin fun r => ofOut (evE F ie r) (asgF pin i)) := by
  obtain ⟨h1, h2, h3⟩ := O.loc hx
  have hf := O.store h2 h3
  have k := (ih_all n).e O h
  by_cases hl : isLC e = true
  · obtain ⟨elt, gens, scope, q, rfl⟩ := cE_lc h hl
    obtain ⟨b, hb, hk⟩ := swap_lc (elt := elt) (gens := gens) (scope := scope) (q := q) (p := p) (x := x) (l := pos.line) (env := X.env)
    cases b with
    | false => exact s_asg (ps_set O.nd h1 h2 k.pe hb hf)
    | true =>
      have hloc : X.env.scope.names.lookup x = some .local := hk rfl
      cases n with
      | zero => simp [cE] at h
      | succ n =>
        rw [cE] at h
        cases n with
        | zero => simp [cLC] at h
        | succ n =>
          match gens, h with
          | [], h => simp [cLC] at h
          | _ :: _ :: _, h => simp [cLC] at h
          | [⟨tg, iter, ifs, asy⟩], h =>
            have I := ih_all n
            simp only [cLC] at h
            split at h
            · rename_i hc
              obtain ⟨rfl, hc⟩ := hc
              cases q1 : cI n C (isTup tg) iter with
              | none => rw [q1] at h; cases h
              | some it =>
                cases q2 : tgOf (C.sub scope) tg with
                | none => rw [q1, q2] at h; cases h
                | some t =>
                  obtain ⟨is, one⟩ := t
                  cases q3 : cE n (C.sub scope) elt with
                  | none => rw [q1, q2, q3] at h; cases h
                  | some el =>
                    cases q4 : cC n (C.sub scope) ifs with
                    | none => rw [q1, q2, q3, q4] at h; cases h
                    | some cc =>
                      rw [q1, q2, q3, q4] at h
                      dsimp only at h
                      split at h
                      · rename_i hs
                        cases h
                        obtain ⟨i1, i2⟩ := I.i O q1
                        have bk : BlkOk X.N X.env.scope scope (ownOf C scope) := by rw [O.N, O.sc]; exact blkOk_by hc
                        have sub : ∀ i ∈ is, i ∈ (ownOf C scope).map (·.2) := fun i hi => by
                          have := List.all_eq_true.mp hs i hi
                          simpa using this
                        have O' := fun s H c cl fp => O.sub scope s H c cl fp
                        obtain ⟨g, hg, sd⟩ := tg_all O' O.K q2
                        rw [ev_lc]
                        refine s_asg (PS.imp (ps_setLc O.calm O.nd h1 hloc hb i1 bk hg (fun s H c cl fp => I.c (O' s H c cl fp) q4) (fun s H c cl fp => (I.e (O' s H c cl fp) q3).pe) i2) fun D σ H hh => ?_)
                        exact lc_tE sub sd hh
                      · cases h
            · cases h
  · exact s_asg (ps_set O.nd h1 h2 k.pe (sw_no (by simpa using hl)) hf)
theorem sst_none {ts : List Expr} {k : Nat} {tp : Pos} {env : Env} (h : parNo e = true) : swappedStores [.Tuple ts k tp] e env = pure none := by
  cases e with
  | Tuple vs kk vp =>
    have hv : vs.all (foldedForSure 8) = true := h
    unfold swappedStores
    simp only
    split
    · rfl
    · split
      · rfl
      · split
        · rfl
        · rfl
  | _ => rfl
theorem parNo_lc (h : parNo e = true) : isLC e = false := by
  cases e <;> first | rfl | (cases h; done) | (simp [parNo, isLC] at h; done)
theorem st_unp (O : XOk C F G X) {ts : List Expr} {k : Nat} {tp : Pos} {xs : List Str} {is : List Nat} (hn : namesOf ts = some xs) (hs : slotsAll (locOf C) xs = some is) (h : cE n C e = some ie) (hp : parNo e = true) :
    PS X (.Assign [.Tuple ts k tp] e pos) (tS G pin fun r => ofOut (treeO (evE F ie r)) (unpF pin is)) := by
  obtain ⟨a, b, _⟩ := assignEach_names (env := X.env) hn
  have g : PG X (.Tuple ts k tp) (gTup X.K is.length (gSlots is)) := pg_tup O.calm (O.pgs hn hs) (by rw [a, slotsAll_len hs]) b
  refine s_unp (g := gTup G.K is.length (gSlots is)) ?_ tg_many
  rw [← O.K]
  exact ps_asg ((ih_all n).e O h).pe g (by unfold swapsWithSole; exact sw_no (parNo_lc hp)) (sst_none hp) rfl
theorem asg_sub {o ki : Expr} {sp : Pos} {ik : IE} {env : Env} (hk : cE n C ki = some ik) : ∀ v, assign (.Subscript o ki sp) env v = (do
      let ov ← holding [v] (eval o env)
      let iv ← holding [v, ov] (eval ki env)
      standAt sp
      holding [v, ov, iv] (setItem ov iv v)
      release [v, ov, iv] []) := by
  intro v
  cases ki with
  | Slice lo hi st q =>
    cases n with
    | zero => simp [cE] at hk
    | succ n => simp [cE] at hk
  | _ => rfl
theorem st_six (O : XOk C F G X) {x : Str} {i : Nat} {ki : Expr} {np sp : Pos} {ik : IE} (hx : slotOf C x = some i) (hk : cE n C ki = some ik) (h : cE n C e = some ie) (hl : isLC e = false) :
    PS X (.Assign [.Subscript (.Name x np) ki sp] e pos) (tS G pin fun r => ofOut (treeO (evE F ie r)) (stixG i (evE F ik))) := by
  have I := ih_all n
  have v := O.pv (p := np) hx
  refine PS.imp (PS.or (ps_dput O.u1 v (I.e O hk).pe (I.e O h).pe (sw_no hl)) (ps_asg (I.e O h).pe (pg_sub v (I.e O hk).pe set_list (asg_sub hk)) (by unfold swapsWithSole; exact sw_no hl))) fun D σ H hh => ?_
  exact stix_tS O.K hh
end
end Q
/-! QIf: statements: the compiled text does what the text does. -/
namespace Q
open PySem L2
section
variable {C : CC} {F : FT} {G : Gs} {X : Cx} {e a b c : Expr} {pos p : Pos} {ie x y : IE} {n : Nat} {pin : List Bool}
theorem evs_skip : evS F pin .skip = fun r => .next r := by funext r; simp only [evS]
theorem evs_sq {s t : IS} : evS F pin (.sq s t) = sqF (evS F pin s) (evS F pin t) := by funext r; simp only [evS]
theorem evs_asg {i : Nat} : evS F pin (.asg i x) = fun r => ofOut (evE F x r) (asgF pin i) := by funext r; simp only [evS]
theorem evs_unp {is : List Nat} : evS F pin (.unp is x) = fun r => ofOut (treeO (evE F x r)) (unpF pin is) := by funext r; simp only [evS]
theorem evs_six {i : Nat} : evS F pin (.setix i y x) = fun r => ofOut (treeO (evE F x r)) (stixG i (evE F y)) := by funext r; simp only [evS]; rfl
theorem evs_ex : evS F pin (.ex x) = fun r => ofOut (evE F x r) fun _ r => .next r := by funext r; simp only [evS]
theorem evs_ret : evS F pin (.ret x) = fun r => ofOut (evE F x r) (retF pin) := by funext r; simp only [evS]
theorem evs_iff {s t : IS} : evS F pin (.iff x s t) = fun r => ofOut (tstO (evE F x r)) fun b r => if b then evS F pin s r else evS F pin t r := by funext r; simp only [evS]
theorem evs_for {is : List Nat} {one : Bool} {s : IS} : evS F pin (.for_ is one x s) = fun r => ofOut (evI F x r) fun xs r => forL is one pin (evS F pin s) xs r := by funext r; simp only [evS]
theorem evs_whl {s : IS} : evS F pin (.whl x s) = fun r => whlL (fun r => tstO (evE F x r)) (evS F pin s) whlMost r := by funext r; simp only [evS]
theorem evs_brk : evS F pin .brk = fun r => .brk r := by funext r; simp only [evS]
theorem evs_cnt : evS F pin .cnt = fun r => .cnt r := by funext r; simp only [evS]
theorem evs_no : evS F pin .no = fun r => .bad := by funext r; simp only [evS]
structure SH (n : Nat) : Prop where
  s : ∀ {C : CC} {F : FT} {G : Gs} {X : Cx} {pin : List Bool}, XOk C F G X → PassesOwn (model X.prog X.w) X.A X.env X.xe → ∀ {st is}, cS n C st = some is → PS X st (tS G pin (evS F pin is))
  b : ∀ {C : CC} {F : FT} {G : Gs} {X : Cx} {pin : List Bool}, XOk C F G X → PassesOwn (model X.prog X.w) X.A X.env X.xe → ∀ {st is}, cB n C st = some is → PSs X st (tS G pin (evS F pin is))
theorem sh0 : SH 0 := by
  constructor <;> intros <;> rename_i h <;> first | (simp [cS] at h; done) | (simp [cB] at h; done)
theorem sh_s (S : SH n) (O : XOk C F G X) (P : PassesOwn (model X.prog X.w) X.A X.env X.xe) {st : Stmt} {is : IS} (h : cS (n + 1) C st = some is) : PS X st (tS G pin (evS F pin is)) := by
  have I := ih_all n
  cases st with
  | Pass p => simp only [cS] at h; cases h; rw [evs_skip]; exact s_skip1 ps_pass
  | Break p => simp only [cS] at h; cases h; rw [evs_brk]; exact s_brk
  | Continue p => simp only [cS] at h; cases h; rw [evs_cnt]; exact s_cnt
  | Return eo p =>
    cases eo with
    | none => simp only [cS] at h; cases h; rw [evs_ret, ev_k]; exact s_retN
    | some e =>
      simp only [cS] at h
      cases q : cE n C e with
      | none => rw [q] at h; cases h
      | some x => rw [q] at h; cases h; rw [evs_ret]; exact s_ret (I.e O q).pe
  | Expr e p =>
    simp only [cS] at h
    split at h
    · cases h
    · rename_i hl
      cases q : cE n C e with
      | none => rw [q] at h; cases h
      | some x => rw [q] at h; cases h; rw [evs_ex]; exact s_ex (I.e O q).pe (sw_no (by simpa using hl))
  | Assign ts e p =>
    cases ts with
    | nil => simp [cS] at h
    | cons t r =>
      cases r with
      | cons _ _ => simp [cS] at h
      | nil =>
        cases t with
        | Name x np =>
          simp only [cS] at h
          cases q1 : locOf C x with
          | none => rw [q1] at h; cases h
          | some i =>
            cases q2 : cE n C e with
            | none => rw [q1, q2] at h; cases h
            | some y => rw [q1, q2] at h; cases h; rw [evs_asg]; exact st_asg O q1 q2
        | Tuple ts' k tp =>
          simp only [cS] at h
          split at h
          · rename_i hp
            cases q0 : namesOf ts' with
            | none => rw [q0] at h; cases h
            | some xs =>
              rw [q0] at h
              dsimp only at h
              cases q1 : slotsAll (locOf C) xs with
              | none => rw [q1] at h; cases h
              | some js =>
                cases q2 : cE n C e with
                | none => rw [q1, q2] at h; cases h
                | some y => rw [q1, q2] at h; cases h; rw [evs_unp]; exact st_unp O q0 q1 q2 hp
          · cases h
        | Subscript o ki sp =>
          cases o with
          | Name x np =>
            simp only [cS] at h
            split at h
            · cases h
            · rename_i hl
              cases q1 : slotOf C x with
              | none => rw [q1] at h; cases h
              | some i =>
                cases q2 : cE n C ki with
                | none => rw [q1, q2] at h; cases h
                | some ik =>
                  cases q3 : cE n C e with
                  | none => rw [q1, q2, q3] at h; cases h
                  | some y => rw [q1, q2, q3] at h; cases h; rw [evs_six]; exact st_six O q1 q2 q3 (by simpa using hl)
          | _ => simp [cS] at h
        | _ => simp [cS] at h
  | If c a b p =>
    simp only [cS] at h
    cases q1 : cE n C c with
    | none => rw [q1] at h; cases h
    | some t =>
      cases q2 : cB n C a with
      | none => rw [q1, q2] at h; cases h
      | some x =>
        cases q3 : cB n C b with
        | none => rw [q1, q2, q3] at h; cases h
        | some y => rw [q1, q2, q3] at h; cases h; rw [evs_iff]; exact s_iff (I.e O q1).pt (S.b O P q2) (S.b O P q3)
  | For tg it b el p =>
    cases el with
    | cons _ _ => simp [cS] at h
    | nil =>
      simp only [cS] at h
      cases q1 : tgOf C tg with
      | none => rw [q1] at h; cases h
      | some t =>
        obtain ⟨is', one⟩ := t
        cases q2 : cI n C (isTup tg) it with
        | none => rw [q1, q2] at h; cases h
        | some x =>
          cases q3 : cB n C b with
          | none => rw [q1, q2, q3] at h; cases h
          | some y =>
            rw [q1, q2, q3] at h
            cases h
            obtain ⟨g, g1, g2⟩ := O.tg (pin := pin) q1
            obtain ⟨i1, i2⟩ := I.i O q2
            rw [evs_for]
            exact s_for P O.calm i1 g1 g2 (S.b O P q3) i2
  | While c b el p =>
    cases el with
    | cons _ _ => simp [cS] at h
    | nil =>
      simp only [cS] at h
      cases q1 : cE n C c with
      | none => rw [q1] at h; cases h
      | some t =>
        cases q2 : cB n C b with
        | none => rw [q1, q2] at h; cases h
        | some x => rw [q1, q2] at h; cases h; rw [evs_whl]; exact s_whl P (I.e O q1).pt (S.b O P q2)
  | Raise a b p =>
    simp only [cS] at h
    cases h
    rw [evs_no]
    exact ⟨fun pins s σ H D I ⟨ρ, As, Z, R, hO⟩ => hO.elim⟩
  | _ => simp [cS] at h
theorem sh_b (S : SH n) (O : XOk C F G X) (P : PassesOwn (model X.prog X.w) X.A X.env X.xe) {st : List Stmt} {is : IS} (h : cB (n + 1) C st = some is) : PSs X st (tS G pin (evS F pin is)) := by
  match st, h with
  | [], h => simp only [cB] at h; cases h; rw [evs_skip]; exact s_skip pss_nil
  | [s], h => simp only [cB] at h; exact pss_one (S.s O P h)
  | s :: s2 :: r, h =>
    simp only [cB] at h
    cases q1 : cS n C s with
    | none => rw [q1] at h; cases h
    | some x =>
      cases q2 : cB n C (s2 :: r) with
      | none => rw [q1, q2] at h; cases h
      | some y => rw [q1, q2] at h; cases h; rw [evs_sq]; exact s_seq (S.s O P q1) (S.b O P q2)
theorem sh_all : ∀ n, SH n
  | 0 => sh0
  | n + 1 => ⟨fun O P _ _ h => sh_s (sh_all n) O P h, fun O P _ _ h => sh_b (sh_all n) O P h⟩
end
end Q
/-! QIg: the defs of a text: each keeps the promise that the evaluator makes. -/
namespace Q
open PySem L2
/-- a def of the text: its name, its statement, its slots, its parameters -/
structure Df where
  x : Str
  st : Stmt
  N : List Str
  ps : List Str
def Df.cc (d : Df) (rp : Bool) (gl : Str → Option GV) : CC := ⟨d.N, defScope d.st, fun _ => true, rp, gl⟩
def Df.fd (d : Df) (rp : Bool) (gl : Str → Option GV) : Option FD := (cB 200 (d.cc rp gl) (defBody d.st)).map fun b => ⟨d.ps.length, d.N.length, b⟩
/-- what the top has bound, as the compiler took it -/
structure TOk (K : PySem.W.Frag) (mg : Str → Option Value) (gl : Str → Option GV) (dfs : List Df) (ds : List FD) : Prop where
  fns : ∀ (i : Nat) (d : Df), dfs[i]? = some d → ∃ (f : Addr) (fd : FuncData), Fun K d.x d.x d.st f fd ∧ Binds K fd d.ps [] ∧ mg d.x = some (.ref f) ∧ FnScope d.N d.ps (defScope d.st) ∧ d.fd false gl = ds[i]?
  fn : ∀ (x : Str) (id np : Nat), gl x = some (.fn id np) → ∃ d : Df, dfs[id]? = some d ∧ d.x = x ∧ np = d.ps.length
  cst : ∀ (x : Str) (c : D), gl x = some (.cst c) → ∃ (u : Value) (v : V), mg x = some u ∧ RelV v u ∧ ∀ H Z, Im K H Z v c
  bi : ∀ x : Str, gl x = some .bi → mg x = none
section
variable {P : Program} {w : World} {K : PySem.W.Frag} {mg : Str → Option Value} {base : Heap} {gl : Str → Option GV} {dfs : List Df} {ds : List FD} {EX : EXT} {n : Nat}
theorem df_fd {d : Df} {rp : Bool} {fd : FD} (h : d.fd rp gl = some fd) : ∃ b, cB 200 (d.cc rp gl) (defBody d.st) = some b ∧ fd = ⟨d.ps.length, d.N.length, b⟩ := by
  unfold Df.fd at h
  cases q : cB 200 (d.cc rp gl) (defBody d.st) with
  | none => rw [q] at h; cases h
  | some b => rw [q] at h; exact ⟨b, rfl, (Option.some.inj h).symm⟩
/-- the keeps of one level -/
def Lvl (P : Program) (w : World) (K : PySem.W.Frag) (mg : Str → Option Value) (base : Heap) (EX : EXT) (dfs : List Df) (F : FT) (n : Nat) : Prop :=
  ∀ (i : Nat) (d : Df) (f : Addr) (fd : FuncData), dfs[i]? = some d → mg d.x = some (.ref f) → Fun K d.x d.x d.st f fd → FnOk P w K mg base (L2.CX P w) n f fd d.ps (spF K EX d.ps.length (F i))
theorem gok_of (T : TOk K mg gl dfs ds) {F : FT} {G : Gs} {X : Cx} (hK : G.K = K) (hX : X.K = K) (hm : X.mg = mg) (h : ∀ (i : Nat) (d : Df) (f : Addr) (fd : FuncData), dfs[i]? = some d → mg d.x = some (.ref f) → Fun K d.x d.x d.st f fd → FnOk X.prog X.w X.K X.mg X.base (L2.CX X.prog X.w) n f fd d.ps (spF G.K G.EX d.ps.length (F i)))
    {x : Str} {g : GV} (hg : gl x = some g) : GOk G F X n x g := by
  refine ⟨fun id np e => ?_, fun c e => ?_, fun e => ?_⟩
  · subst e
    obtain ⟨d, h1, h2, h3⟩ := T.fn _ _ _ hg
    obtain ⟨f, fd, f1, f2, f3, _⟩ := T.fns _ _ h1
    subst h2
    subst h3
    exact ⟨f, fd, d.ps, by rw [hm]; exact f3, by rw [hX]; exact f1.kp, by rw [hX]; exact f2, h _ _ _ _ h1 f3 f1⟩
  · subst e
    obtain ⟨u, v, h1, h2, h3⟩ := T.cst _ _ hg
    exact ⟨u, v, by rw [hm]; exact h1, h2, by rw [hX]; exact h3⟩
  · subst e
    rw [hm]; exact T.bi _ hg
theorem xok_of (T : TOk K mg gl dfs ds) {F : FT} (L : Lvl P w K mg base EX dfs F n) {d : Df} {rp : Bool} (S : FnScope d.N d.ps (defScope d.st)) {qual : Str} {f : Addr} {cdv : Value} {A : Around} {outer : List Env} {s : Shared} {H : Hp} {E : XK}
    (hr : Room n (A.deeper (PyProof.Rows.envOfC qual (defScope d.st) s.heap.objs.size f cdv))) (hgd : rp = true → A.guards = some []) :
    XOk (d.cc rp gl) F ⟨K, EX, fun c e _ H' => E c e H'⟩ (cxOf (L2.CX P w) P w K mg base d.N qual (defScope d.st) f cdv A outer s H E) where
  N := rfl
  nd := S.nd
  sc := rfl
  calm := rfl
  K := rfl
  tk := takes_of rfl rfl rfl rfl
  fnn := fun x _ => Or.inl rfl
  gd := fun h => hgd h
  gl := ⟨n, hr, fun x g hg => gok_of (X := cxOf (L2.CX P w) P w K mg base d.N qual (defScope d.st) f cdv A outer s H E) (G := ⟨K, EX, fun c e _ H' => E c e H'⟩) (n := n) T rfl rfl rfl L hg⟩
theorem lvl_all (T : TOk K mg gl dfs ds) : ∀ n, Lvl P w K mg base EX dfs (sem ds n) n
  | 0 => fun i d f fd h1 h2 h3 => ⟨fun vs H Q E h => h.1, fun A outer s H args us vs Q E hr e0 hb r hsp => by
      obtain ⟨_, args, As, Z, _, _, q⟩ := hsp
      exact q.elim⟩
  | n + 1 => fun i d f fd h1 h2 h3 => by
    obtain ⟨f', fd', f1, f2, f3, S, hc⟩ := T.fns _ _ h1
    refine h3.okX S (fun vs H Q E h => h.1) fun cdv A outer s H vs Q E hr h => ?_
    cases q : d.fd false gl with
    | none =>
      obtain ⟨_, args, As, Z, _, _, q'⟩ := h
      have : sem ds (n + 1) i args = .bad := by
        show (match ds[i]? with | some fd => runF (sem ds n) fd args | none => CR.bad) = _
        rw [← hc, q]
      rw [this] at q'
      exact q'.elim
    | some gd =>
      obtain ⟨b, hb, e⟩ := df_fd q
      subst e
      have hF : sem ds (n + 1) i = runF (sem ds n) ⟨d.ps.length, d.N.length, b⟩ := by
        funext args
        show (match ds[i]? with | some fd => runF (sem ds n) fd args | none => CR.bad) = _
        rw [← hc, q]
      rw [hF] at h
      have hle : d.ps.length ≤ d.N.length := by
        have := congrArg List.length S.pre
        rw [List.length_take] at this
        omega
      obtain ⟨pin, ht⟩ := body_ok (N := d.N) (fd := ⟨d.ps.length, d.N.length, b⟩) hle rfl h
      have O := xok_of (rp := false) (qual := d.x) (f := f) (cdv := cdv) (outer := outer) (H := H) (E := E) T (lvl_all T n) S hr (fun z => Bool.noConfusion z)
      exact ⟨_, (sh_all 200).b O (passes_of rfl) hb, ht⟩
end
end Q
/-! QIh: the law's def, entered by the one who asks (there no repr is under way). -/
namespace Q
open PySem L2 PySem.Spec PyProof.Rows
/-- a promise kept where the call stands at A -/
def AtOk (P : Program) (w : World) (K : PySem.W.Frag) (mg : Str → Option Value) (base : Heap) (A : Around) (f : Addr) (fd : FuncData) (ps : List Str) (sp : Sp) : Prop :=
  ∀ (s : Shared) (H : Hp) (args : Args) (us : List Value) (vs : List V) (Q : VK) (E : XK), Env0 P w K mg base A [] s H → BindsTo s fd args (ps.zip us) → Vals vs us → sp vs H Q E →
    codeAny (model P w) A (.call (.ref f) args) (L2.CR (L2.CX P w) [] P w H s Q E) s
section
variable {P : Program} {w : World} {K : PySem.W.Frag} {mg : Str → Option Value} {base : Heap} {gl : Str → Option GV} {dfs : List Df} {ds : List FD} {EX : EXT} {n : Nat}
theorem at_ok {A : Around} {x : Str} {st : Stmt} {f : Addr} {fd : FuncData} {N ps : List Str} {sp : Sp} (FF : Fun K x x st f fd) (S : FnScope N ps (defScope st)) (hr : Room (n + 1) A) (len : ∀ vs H Q E, sp vs H Q E → vs.length = ps.length)
    (body : ∀ (cdv : Value) (s : Shared) (H : Hp) (vs : List V) (Q : VK) (E : XK), Room n (A.deeper (envOfC x (defScope st) s.heap.objs.size f cdv)) → sp vs H Q E →
      ∃ t, PSs (cxOf (L2.CX P w) P w K mg base N x (defScope st) f cdv A [] s H E) (defBody st) t ∧ t { nx := fun _ H' => Q .non H', rt := Q } (L2.start N vs) H) : AtOk P w K mg base A f fd ps sp := by
  obtain ⟨oc, od, kV, doc, pm, an, cdv, ct, osl, rfl, lk, hcd⟩ := FF.ex
  intro s H args us vs Q E e0 hb r hsp
  have hl := len _ _ _ _ hsp
  have up : ∀ b o, base.get? b = some o → s.heap.get? b = some o := fun b o e => (e0.bs b o e).1
  have KX : K.In s.heap := e0.mod.kin.keeps up
  have lim : s.heap.NoLimit := e0.mod.nolimit.keeps up
  have kinds : ∀ y ∈ ps.zip us, (defScope st).names.lookup y.1 = some .local ∨ ((defScope st).names.lookup y.1 = some .cell ∧ ((cellsFrom (s.heap.objs.size + 1) (defScope st).names []).lookup y.1).isSome = true) := by
    rintro ⟨m, v⟩ hy
    exact (S.par m (List.of_mem_zip hy).1).imp id fun q => ⟨q, PySem.W.cellsFrom_some _ _ _ (.inl q)⟩
  refine codeAny_call_function hr.depth (KX _ _ lk) rfl S.co S.gen rfl (PySem.W.codeRec_of KX hcd) (hb _ _ _ _ (wpAny_newFunctionEnv_cells S.kind kinds fun env he s1 x => ?_))
  subst he
  obtain ⟨t, ht, hq⟩ := body cdv s H vs Q E (hr.deeper _) hsp
  refine ⟨lim.keeps x.toInCall.keep, codeAny_func (wpAny_mono (ht.run [] s1 (L2.start N vs) H _ (inv_start S hr.hd e0 hl r x) hq) (fun fl s' hs => ?_) fun e s' hs => hs)⟩
  cases fl with
  | ret u => obtain ⟨v, σ', H', J, rv, q⟩ := hs; exact ⟨v, H', J.os, J.bare, J.base, J.hok, rv, q⟩
  | next => obtain ⟨σ', H', J, q⟩ := hs; exact ⟨V.non, H', J.os, J.bare, J.base, J.hok, rfl, q⟩
  | brk => obtain ⟨_, _, _, q⟩ := hs; exact q.elim
  | cont => obtain ⟨_, _, _, q⟩ := hs; exact q.elim
/-- the law's def by the evaluator -/
theorem law_at (T : TOk K mg gl dfs ds) {A : Around} {d : Df} {f : Addr} {fd : FuncData} {fd' : FD} (FF : Fun K d.x d.x d.st f fd) (S : FnScope d.N d.ps (defScope d.st)) (hr : Room (n + 1) A) (hg : A.guards = some []) (hc : d.fd true gl = some fd') :
    AtOk P w K mg base A f fd d.ps (spF K EX d.ps.length (runF (sem ds n) fd')) := by
  obtain ⟨b, hb, rfl⟩ := df_fd hc
  refine at_ok FF S hr (fun vs H Q E h => h.1) fun cdv s H vs Q E hr' h => ?_
  have hle : d.ps.length ≤ d.N.length := by
    have := congrArg List.length S.pre
    rw [List.length_take] at this
    omega
  obtain ⟨pin, ht⟩ := body_ok (N := d.N) (fd := ⟨d.ps.length, d.N.length, b⟩) hle rfl h
  have O := xok_of (P := P) (w := w) (base := base) (EX := EX) (rp := true) (qual := d.x) (f := f) (cdv := cdv) (outer := []) (H := H) (E := E) T (lvl_all T n) S hr' (fun _ => hg)
  exact ⟨_, (sh_all 200).b O (passes_of rfl) hb, ht⟩
theorem no_cx {H : Hp} {s : Shared} {e : Value} {s' : Shared} (h : L2.CX P w [] H s (fun _ _ _ => False) e s') : False := by
  obtain ⟨_, _, _, _, _, _, _, _, _, _, _, _, z⟩ := h
  exact z.elim
/-- the law is asked -/
theorem ask {mb : Str → Option Value} {fa a : Addr} {fd : FuncData} {x : Str} {sp : Sp} {s₁ : Shared} {vs : List Value} {ns : List Int} (KX : K.In s₁.heap) (hns : s₁.heap.Ns mainGlobals mg) (hb : s₁.heap.Ns builtinsNs mb) (hbb : ∀ x : Str, x ≠ "__name__" → mb x = bootBuiltins x)
    (hlim : s₁.heap.NoLimit) (hg : s₁.gens = #[]) (ha : s₁.heap.get? a = some { cls := .type "list", data := .seq vs.toArray }) (hi : IntsAre vs ns) (hl : ns.length ≤ sizeLine)
    (FF : ∀ base : Heap, K.In base → base.Ns mainGlobals mg → AtOk P w K mg base callerA fa fd [x] sp) (hbind : ∀ (s : Shared) (u : Value), BindsTo s fd ⟨[u], []⟩ [(x, u)])
    (hsp : ∀ H : Hp, Only H → SqL K H a (ns.map V.int) → sp [.ref a] H (fun v _ => v = .bl true) fun _ _ _ => False) :
    codeAny (model P w) callerA (.call (.ref fa) ⟨[.ref a], []⟩) (fun r s' => r = .ok (.ret (.bool true)) ∧ OldK s₁.heap s'.heap ∧ s'.os = s₁.os ∧ AllBare s'.gens) s₁ := by
  have rv := vals_ints hi
  have core : ∀ H : Hp, Only H → SqL K H a (ns.map V.int) → HOk P w H s₁.heap → (∀ b, H b ≠ none → b = a ∧ K.lookup a = none) →
      codeAny (model P w) callerA (.call (.ref fa) ⟨[.ref a], []⟩) (fun r s' => r = .ok (.ret (.bool true)) ∧ OldK s₁.heap s'.heap ∧ s'.os = s₁.os ∧ AllBare s'.gens) s₁ := by
    intro H hO hS hok hA
    have free : ∀ {b : Addr}, (H b ≠ none → False) → H b = none := fun {b} h => Classical.byContradiction fun q => h q
    have noA : ∀ {b : Addr} {o : Obj} {es : Array DictEntry} {ep : Nat}, s₁.heap.get? b = some o → o.data = .dict es ep → H b = none := fun {b o es ep} e d => free fun q => by
      obtain ⟨rfl, _⟩ := hA b q
      rw [ha] at e
      cases e
      have d' : Data.seq vs.toArray _ = Data.dict es ep := d
      cases d'
    have nsK : ∀ {b : Addr} {m : Str → Option Value}, s₁.heap.Ns b m → (hidT s₁.heap H).Ns b m := fun {b m} ⟨o, es, ep, e, d, r⟩ => ⟨o, es, ep, hidT_get e (noA e d), d, r⟩
    have inB : K.In (hidT s₁.heap H) := fun b o e => hidT_get (KX b o e) (free fun q => by
      obtain ⟨rfl, z⟩ := hA b q
      rw [z] at e
      cases e)
    have limB : (hidT s₁.heap H).NoLimit := let ⟨mc, h1, h2⟩ := hlim; ⟨mc, nsK h1, h2⟩
    have e0 : Env0 P w K mg (hidT s₁.heap H) callerA [] s₁ H := ⟨rfl, ⟨inB, nsK hns, ⟨mb, nsK hb, hbb⟩, limB⟩, fun b o e => of_hidT e, Nat.le_of_eq (hidT_size _ _), trivial, fun b z => absurd (show b ∈ ([] : List Addr) from z) (by simp), hok, .of_eq hg⟩
    refine codeAny_mono (FF _ inB (nsK hns) s₁ H ⟨[.ref a], []⟩ [.ref a] [.ref a] _ _ e0 (hbind s₁ (.ref a)) (.cons rfl .nil) (hsp H hO hS)) fun r s' h => ?_
    match r, h with
    | .error e, h => exact (no_cx h).elim
    | .ok .next, h => exact False.elim h
    | .ok .brk, h => exact False.elim h
    | .ok .cont, h => exact False.elim h
    | .ok (.ret u), ⟨v, H', os, bare, un, hok', r', q⟩ =>
      obtain rfl : v = .bl true := q
      obtain rfl : u = Value.bool true := r'
      refine ⟨rfl, OldK.of_keep fun b o e => ?_, os, bare⟩
      rcases hO b with z | ⟨ob, xs, z⟩
      · exact un.keep b o e z (fun z => absurd (show b ∈ ([] : List Addr) from z) (by simp)) (by simp)
      · obtain ⟨e1, _⟩ := hok b _ z
        rw [e] at e1
        cases e1
        exact (hok' b _ (un.frzs b _ _ z)).1
  cases hk : K.lookup a with
  | some o =>
    have e := KX a o hk
    rw [ha] at e
    cases e
    exact core (fun _ => none) (fun _ => .inl rfl) (.inr ⟨_, vs.toArray, _, hk, rfl, rfl, rfl, by rw [List.size_toArray, hi.length]; exact hl, by simpa using rv⟩) (fun b u z => nomatch (show (none : Option HO) = some u from z)) fun b z => absurd rfl z
  | none =>
    refine core (fun b => if b = a then some (.frz { cls := .type "list", data := .seq vs.toArray } (.lst (ns.map V.int))) else none) (fun b => ?_) (.inl (.inr ⟨{ cls := .type "list", data := .seq vs.toArray }, if_pos rfl⟩)) (fun b u z => ?_) fun b z => ?_
    · by_cases c : b = a
      · exact .inr ⟨_, _, if_pos c⟩
      · exact .inl (if_neg c)
    · by_cases c : b = a
      · cases (if_pos c).symm.trans z
        subst c
        exact ⟨ha, by rw [List.length_map]; exact hl, vs, _, rv, ha⟩
      · cases (if_neg c).symm.trans z
    · by_cases c : b = a
      · exact ⟨c, hk⟩
      · exact absurd (if_neg c) z
end
/-- what k_head leaves, from the evaluator's answer -/
theorem walkQ {l : PySem.W.OpenLaw} {n : Nat} {q : Program} {loose : List Str} {XP : (Str → Option Value) → Heap → Prop} {YP : World → Heap → Prop} {d : DefRec} {K : Params → PySem.W.Frag} {sp : PySem.W.Frag → Sp} {x : Str} (hn : l.most = some n) (hn2 : n ≤ sizeLine) (hdf : d.params.defaults = [])
    (hY : ∀ (w : World) (h : Heap), YP w h → (K w.params).In h)
    (FF : ∀ (w : World) (mg : Str → Option Value) (fa : Addr) (h : Heap), (K w.params).In h → h.Ns mainGlobals mg → mg d.name = some (.ref fa) →
      ∃ fd : FuncData, (∀ (s : Shared) (u : Value), BindsTo s fd ⟨[u], []⟩ [(x, u)]) ∧ ∀ base : Heap, (K w.params).In base → base.Ns mainGlobals mg → AtOk l.prog w (K w.params) mg base callerA fa fd [x] (sp (K w.params)))
    (hsp : ∀ (K : PySem.W.Frag) (H : Hp) (a : Addr) (ns : List Int), ns.length ≤ n → Only H → SqL K H a (ns.map V.int) → sp K [.ref a] H (fun v _ => v = .bl true) fun _ _ _ => False) :
    PySem.W.WalkO q loose XP YP l.row.toRowW d [] (fun f vs => PySem.call f vs) := by
  refine Att.attach_call hn hdf fun w s₀ s₁ mg mb fa o pm cd doc a vs ns G Y ho hd hcd hmg hobj hints hlen hg => ?_
  obtain ⟨fd, hb, hF⟩ := FF w mg fa _ (hY w _ Y) G.T.g hmg
  exact ask (hY w _ Y) G.T.g G.T.b G.T.builtins G.T.nolimit hg hobj hints (Nat.le_trans hlen hn2) hF hb fun H hO hS => hsp _ H a ns hlen hO hS
end Q
/-! QIi: what the top has left, gathered. -/
namespace Q
open PySem L2 PySem.Spec PyProof.Rows
/-- the def stands at the top, under its name -/
def Tie (K : PySem.W.Frag) (x : Str) (st : Stmt) : Prop := ∃ (f : Addr) (oc : Value) (od an : Option Addr) (osl : Array (Option Value)) (kV doc pm cdv ct : Value), PySem.W.nsIn K mainGlobals x = some (some (.ref f)) ∧
  K.lookup f = some ⟨oc, od, .func (PySem.W.fnOf x x (defArgs st) (defBody st) (defScope st) .none kV doc pm an cdv ct), osl⟩ ∧ PySem.W.codeIn K cdv x = true ∧ PySem.W.keepIn K (.ref f) = true
theorem tie_mk {K : PySem.W.Frag} {x : Str} {st : Stmt} {f : Addr} {oc : Value} {od an : Option Addr} {osl : Array (Option Value)} {kV doc pm cdv ct : Value} (a : PySem.W.nsIn K mainGlobals x = some (some (.ref f)))
    (l : K.lookup f = some ⟨oc, od, .func (PySem.W.fnOf x x (defArgs st) (defBody st) (defScope st) .none kV doc pm an cdv ct), osl⟩) (c : PySem.W.codeIn K cdv x = true) (k : PySem.W.keepIn K (.ref f) = true) : Tie K x st :=
  ⟨f, oc, od, an, osl, kV, doc, pm, cdv, ct, a, l, c, k⟩
/-- the parameters are bound, none has a default -/
def BindsAll (st : Stmt) (x : Str) (ps : List Str) : Prop := ∀ (kV doc pm : Value) (an : Option Addr) (cdv ct : Value) (us : List Value), us.length = ps.length → bindArgs (PySem.W.fnOf x x (defArgs st) (defBody st) (defScope st) .none kV doc pm an cdv ct) ⟨us, []⟩ = pure (ps.zip us)
/-- the text's side of a def -/
structure DfT (gl : Str → Option GV) (rp : Bool) (d : Df) : Prop where
  sc : FnScope d.N d.ps (defScope d.st)
  bd : BindsAll d.st d.x d.ps
  ok : (d.fd rp gl).isSome = true
def Df.get (gl : Str → Option GV) (rp : Bool) (d : Df) : FD := (d.fd rp gl).getD ⟨0, 0, .skip⟩
theorem DfT.eq {gl : Str → Option GV} {rp : Bool} {d : Df} (h : DfT gl rp d) : d.fd rp gl = some (d.get gl rp) := by
  have q := h.ok
  unfold Df.get
  cases e : d.fd rp gl with
  | none => rw [e] at q; cases q
  | some b => rfl
def AllT (gl : Str → Option GV) : List Df → Prop
  | [] => True
  | d :: r => DfT gl false d ∧ AllT gl r
def AllK (K : PySem.W.Frag) : List Df → Prop
  | [] => True
  | d :: r => Tie K d.x d.st ∧ AllK K r
theorem AllT.get {gl : Str → Option GV} : ∀ {l : List Df}, AllT gl l → ∀ (i : Nat) (d : Df), l[i]? = some d → DfT gl false d
  | [], _, _, _, h => by simp at h
  | _ :: _, h, 0, d, e => by cases e; exact h.1
  | _ :: _, h, i + 1, d, e => AllT.get h.2 i d (by simpa using e)
theorem AllK.get {K : PySem.W.Frag} : ∀ {l : List Df}, AllK K l → ∀ (i : Nat) (d : Df), l[i]? = some d → Tie K d.x d.st
  | [], _, _, _, h => by simp at h
  | _ :: _, h, 0, d, e => by cases e; exact h.1
  | _ :: _, h, i + 1, d, e => AllK.get h.2 i d (by simpa using e)
theorem Tie.fn {K : PySem.W.Frag} {h : Heap} {mg : Str → Option Value} {x : Str} {st : Stmt} (t : Tie K x st) (X : K.In h) (G : h.Ns mainGlobals mg) {ps : List Str} (b : BindsAll st x ps) :
    ∃ (f : Addr) (fd : FuncData), Fun K x x st f fd ∧ (∀ (s : Shared) (us : List Value), us.length = ps.length → BindsTo s fd ⟨us, []⟩ (ps.zip us)) ∧ mg x = some (.ref f) := by
  obtain ⟨f, oc, od, an, osl, kV, doc, pm, cdv, ct, a, l, c, k⟩ := t
  exact ⟨f, _, fun_mk l c k, fun s us hu => .of_eq (b _ _ _ _ _ _ us hu), PySem.W.mg_of X G a⟩
/-- the top, as the compiler took it -/
theorem tok_mk {K : PySem.W.Frag} {h : Heap} {mg : Str → Option Value} {gl : Str → Option GV} {dfs : List Df} (X : K.In h) (G : h.Ns mainGlobals mg) (t : AllT gl dfs) (k : AllK K dfs)
    (fn : ∀ (x : Str) (id np : Nat), gl x = some (.fn id np) → ∃ d : Df, dfs[id]? = some d ∧ d.x = x ∧ np = d.ps.length)
    (cst : ∀ (x : Str) (c : D), gl x = some (.cst c) → ∃ (u : Value) (v : V), mg x = some u ∧ RelV v u ∧ ∀ H Z, Im K H Z v c)
    (bi : ∀ x : Str, gl x = some .bi → PySem.W.nsIn K mainGlobals x = some none) : TOk K mg gl dfs (dfs.map fun d => d.get gl false) where
  fns := fun i d hd => by
    have a := t.get i d hd
    obtain ⟨f, fd, F, b, m⟩ := (k.get i d hd).fn X G a.bd
    refine ⟨f, fd, F, fun s us _ hl => ?_, m, a.sc, ?_⟩
    · rw [List.append_nil] at hl ⊢
      exact b s us hl
    · rw [List.getElem?_map, hd]
      exact a.eq
  fn := fn
  cst := cst
  bi := fun x hx => PySem.W.mg_none_of X G (bi x hx)
end Q
namespace Q
open PySem L2 PySem.Spec PyProof.Rows
/-- the names that the top binds, as three lists -/
def lookF : List (Str × Nat) → Nat → Str → Option (Nat × Nat)
  | [], _, _ => none
  | p :: r, k, x => if x = p.1 then some (k, p.2) else lookF r (k + 1) x
def lookC : List (Str × D) → Str → Option D
  | [], _ => none
  | p :: r, x => if x = p.1 then some p.2 else lookC r x
def glOf (fns : List (Str × Nat)) (cs : List (Str × D)) (bis : List Str) (x : Str) : Option GV := match lookF fns 0 x with
  | some p => some (.fn p.1 p.2)
  | none => match lookC cs x with
    | some c => some (.cst c)
    | none => if x ∈ bis then some .bi else none
theorem lookF_some : ∀ {l : List (Str × Nat)} {k i np : Nat} {x : Str}, lookF l k x = some (i, np) → ∃ j, i = k + j ∧ l[j]? = some (x, np)
  | [], _, _, _, _, h => by cases h
  | p :: r, k, i, np, x, h => by
    unfold lookF at h
    by_cases c : x = p.1
    · rw [if_pos c] at h; cases h; exact ⟨0, rfl, by rw [c]; rfl⟩
    · rw [if_neg c] at h
      obtain ⟨j, e, q⟩ := lookF_some h
      exact ⟨j + 1, by omega, q⟩
theorem lookC_some : ∀ {l : List (Str × D)} {x : Str} {c : D}, lookC l x = some c → (x, c) ∈ l
  | [], _, _, h => by cases h
  | p :: r, x, c, h => by
    unfold lookC at h
    by_cases q : x = p.1
    · rw [if_pos q] at h; cases h; rw [q]; exact List.mem_cons_self
    · rw [if_neg q] at h; exact List.mem_cons_of_mem _ (lookC_some h)
def AllC (K : PySem.W.Frag) (mg : Str → Option Value) : List (Str × D) → Prop
  | [] => True
  | p :: r => (∃ (u : Value) (v : V), mg p.1 = some u ∧ RelV v u ∧ ∀ H Z, Im K H Z v p.2) ∧ AllC K mg r
def AllB (K : PySem.W.Frag) : List Str → Prop
  | [] => True
  | x :: r => PySem.W.nsIn K mainGlobals x = some none ∧ AllB K r
theorem AllC.get {K : PySem.W.Frag} {mg : Str → Option Value} : ∀ {l : List (Str × D)}, AllC K mg l → ∀ x c, (x, c) ∈ l → ∃ (u : Value) (v : V), mg x = some u ∧ RelV v u ∧ ∀ H Z, Im K H Z v c
  | [], _, _, _, h => by cases h
  | p :: r, h, x, c, m => by
    cases m with
    | head => exact h.1
    | tail _ m => exact AllC.get h.2 x c m
theorem AllB.get {K : PySem.W.Frag} : ∀ {l : List Str}, AllB K l → ∀ x, x ∈ l → PySem.W.nsIn K mainGlobals x = some none
  | [], _, _, h => by cases h
  | p :: r, h, x, m => by
    cases m with
    | head => exact h.1
    | tail _ m => exact AllB.get h.2 x m
theorem tok_of {K : PySem.W.Frag} {h : Heap} {mg : Str → Option Value} {fns : List (Str × Nat)} {cs : List (Str × D)} {bis : List Str} {dfs : List Df} (X : K.In h) (G : h.Ns mainGlobals mg) (t : AllT (glOf fns cs bis) dfs) (k : AllK K dfs)
    (hf : fns = dfs.map fun d => (d.x, d.ps.length)) (c : AllC K mg cs) (b : AllB K bis) : TOk K mg (glOf fns cs bis) dfs (dfs.map fun d => d.get (glOf fns cs bis) false) := by
  refine tok_mk X G t k (fun x id np e => ?_) (fun x d e => ?_) fun x e => ?_
  · unfold glOf at e
    cases q : lookF fns 0 x with
    | some p =>
      rw [q] at e
      cases e
      obtain ⟨j, e1, e2⟩ := lookF_some (i := p.1) (np := p.2) q
      rw [hf, List.getElem?_map] at e2
      rw [Nat.zero_add] at e1
      rw [e1]
      cases z : dfs[j]? with
      | none => rw [z] at e2; cases e2
      | some d =>
        rw [z] at e2
        have e3 := Option.some.inj e2
        exact ⟨d, rfl, congrArg Prod.fst e3, (congrArg Prod.snd e3).symm⟩
    | none =>
      rw [q] at e
      cases z : lookC cs x with
      | some c => rw [z] at e; cases e
      | none =>
        rw [z] at e
        dsimp only at e
        split at e <;> cases e
  · unfold glOf at e
    cases q : lookF fns 0 x with
    | some p => rw [q] at e; cases e
    | none =>
      rw [q] at e
      cases z : lookC cs x with
      | some c' => rw [z] at e; cases e; exact c.get x _ (lookC_some z)
      | none =>
        rw [z] at e
        dsimp only at e
        split at e <;> cases e
  · unfold glOf at e
    cases q : lookF fns 0 x with
    | some p => rw [q] at e; cases e
    | none =>
      rw [q] at e
      cases z : lookC cs x with
      | some c' => rw [z] at e; cases e
      | none =>
        rw [z] at e
        dsimp only at e
        split at e
        · rename_i hm; exact b.get x hm
        · cases e
end Q
/-! QIj: the law's promise from the evaluator's answer. -/
namespace Q
open PySem L2 PySem.Spec PyProof.Rows
theorem imA_ints {K : PySem.W.Frag} {H : Hp} {Z : Addr → Prop} : ∀ ns : List Int, ImA K H Z (ns.map V.int) (ns.map PyData.int)
  | [] => .nil
  | _ :: r => .cons (.int _) (imA_ints r)
/-- no exception is told of -/
def EX0 : EXT := fun _ _ _ _ _ => False
def spLaw (F : List Val → CR) (K : PySem.W.Frag) : Sp := spF K EX0 1 F
theorem law_spec {F : List Val → CR} {m : Nat} (ok : ∀ ns : List Int, ns.length ≤ m → ∃ outs, F [.scr (ns.map PyData.int) false] = .ok (.d (.bool true)) outs) (K : PySem.W.Frag) (H : Hp) (a : Addr) (ns : List Int) (hl : ns.length ≤ m) (hO : Only H) (hS : SqL K H a (ns.map V.int)) :
    spLaw F K [.ref a] H (fun v _ => v = .bl true) fun _ _ _ => False := by
  obtain ⟨outs, e⟩ := ok ns hl
  have s : SqS K H a (ns.map V.int) := by
    rcases hS with (h | h) | h
    · rcases hO a with z | ⟨o, xs, z⟩
      · rw [h] at z; cases z
      · rw [h] at z; cases z
    · exact .inl h
    · exact .inr (.inr h)
  refine ⟨rfl, [.scr (ns.map PyData.int) false], fun _ => none, fun _ => False, rfl, ⟨rfl, fun i x h => ?_, fun _ _ => rfl, fun _ _ z => (nomatch z), fun _ _ _ z => (nomatch z), fun _ z => z.elim⟩, ?_⟩
  · cases i with
    | zero => cases h; exact ⟨_, rfl, rfl, a, _, rfl, s, imA_ints ns⟩
    | succ i => simp [gt] at h
  · rw [e]
    intro v H' As' Z' ax _ _ _ rv _
    obtain ⟨_, im⟩ := rv
    cases im
    rfl
end Q
namespace KK
open PySem L2 Q
def top (i : Nat) : Stmt := PySem.Challenge.pw_kindmakes_k73_who_leaves_a_structure.main.body.getD i (.Pass ⟨0, 0, 0, 0⟩)
def d_hole_of : Df := ⟨"hole_of", top 5, ["names"], ["names"]⟩
def d_names_of : Df := ⟨"names_of", top 6, ["s", "found", "g"], ["s"]⟩
def d_from_least : Df := ⟨"from_least", top 8, ["row", "at"], ["row"]⟩
def d_hole_put : Df := ⟨"hole_put", top 9, ["s", "to", "names", "more", "name"], ["s", "to"]⟩
def d_in_put : Df := ⟨"in_put", top 10, ["s", "to", "leasts", "name", "g", "order", "numbers", "k", "stands"], ["s", "to"]⟩
def d_put_by : Df := ⟨"put_by", top 11, ["s", "to", "name"], ["s", "to"]⟩
def d_carried_by : Df := ⟨"carried_by", top 12, ["s", "e", "pair"], ["s", "e"]⟩
def d_all_exchanges : Df := ⟨"all_exchanges", top 14, ["names", "rows", "k", "longer", "row", "v"], ["names"]⟩
def d_leavers_of : Df := ⟨"leavers_of", top 16, ["s", "e"], ["s"]⟩
def d__law_tape : Df := ⟨"_law_tape", top 18, ["_law_script"], ["_law_script"]⟩
def d__law_draw : Df := ⟨"_law_draw", top 19, ["_law_tape_here", "_law_many", "_law_found", "_law_spot", "_law_cell", "_law_mixed"], ["_law_tape_here", "_law_many"]⟩
def d__law_rules : Df := ⟨"_law_rules", top 20, ["_law_tape_here", "_law_one", "_law_first", "_law_other", "_law_woods", "_law_forks", "_law_turns"], ["_law_tape_here"]⟩
def d__law_kind : Df := ⟨"_law_kind", top 21, ["_law_tape_here", "_law_deep", "_law_many", "_law_holes", "_law_way", "_law_some", "_law_k", "_law_first", "_law_low", "_law_other"], ["_law_tape_here", "_law_deep", "_law_many", "_law_holes"]⟩
def d__law_rows : Df := ⟨"_law_rows", top 22, ["_law_names_here", "_law_found", "_law_name", "_law_longer", "_law_row", "_law_k"], ["_law_names_here"]⟩
def d__law_beside : Df := ⟨"_law_beside", top 23, ["_law_rules_here", "_law_kind_here", "_law_names_here", "_law_cuts", "_law_name", "_law_v", "_law_w", "_law_found", "_law_firsts", "_law_others", "_law_s", "_law_t"], ["_law_rules_here", "_law_kind_here", "_law_names_here"]⟩
def d__law_within : Df := ⟨"_law_within", top 24, ["_law_rules_here", "_law_kind_here", "_law_names_here", "_law_partings", "_law_name", "_law_more", "_law_blocks", "_law_k", "_law_found", "_law_rows_here", "_law_block", "_law_wider", "_law_g", "_law_row", "_law_f"], ["_law_rules_here", "_law_kind_here", "_law_names_here"]⟩
def d__law_listed : Df := ⟨"_law_listed", top 25, ["_law_rules_here", "_law_kind_here", "_law_names_here", "_law_word", "_law_lead", "_law_row", "_law_hole", "_law_name", "_law_s", "_law_first", "_law_t", "_law_found"], ["_law_rules_here", "_law_kind_here", "_law_names_here"]⟩
def d__law_names : Df := ⟨"_law_names", top 26, ["_law_s", "_law_found", "_law_part"], ["_law_s"]⟩
def d__law_carried : Df := ⟨"_law_carried", top 27, ["_law_s", "_law_lead", "_law_word", "_law_row", "_law_name", "_law_at", "_law_inner", "_law_here", "_law_leasts", "_law_g", "_law_order", "_law_numbers", "_law_k", "_law_least", "_law_stands"], ["_law_s", "_law_lead"]⟩
def d__law_told_carried : Df := ⟨"_law_told_carried", top 28, ["_law_s", "_law_lead", "_law_mark"], ["_law_s", "_law_lead"]⟩
def d__law_some_names : Df := ⟨"_law_some_names", top 29, ["_law_tape_here", "_law_many", "_law_found", "_law_k", "_law_low", "_law_room"], ["_law_tape_here", "_law_many"]⟩
def d__law_struct : Df := ⟨"_law_struct", top 30, ["_law_tape_here", "_law_rules_here", "_law_many", "_law_names_here", "_law_kind_here", "_law_some"], ["_law_tape_here"]⟩
def d_law : Df := ⟨"law", top 31, ["_law_script", "_law_tape_here", "_law_k", "_law_s", "_law_names_here", "_law_leads", "_law_row", "_law_due", "_law_lead", "_law_again", "_law_told"], ["_law_script"]⟩
def dfs : List Df := [d_hole_of, d_names_of, d_from_least, d_hole_put, d_in_put, d_put_by, d_carried_by, d_all_exchanges, d_leavers_of, d__law_tape, d__law_draw, d__law_rules, d__law_kind, d__law_rows, d__law_beside, d__law_within, d__law_listed, d__law_names, d__law_carried, d__law_told_carried, d__law_some_names, d__law_struct]
def fns : List (Str × Nat) := [("hole_of", 1), ("names_of", 1), ("from_least", 1), ("hole_put", 2), ("in_put", 2), ("put_by", 2), ("carried_by", 2), ("all_exchanges", 1), ("leavers_of", 1), ("_law_tape", 1), ("_law_draw", 2), ("_law_rules", 1), ("_law_kind", 4), ("_law_rows", 1), ("_law_beside", 3), ("_law_within", 3), ("_law_listed", 3), ("_law_names", 1), ("_law_carried", 2), ("_law_told_carried", 2), ("_law_some_names", 2), ("_law_struct", 1)]
def csts : List (Str × D) := [("HOLE", (.int 100))]
def bis : List Str := ["dict", "enumerate", "int", "len", "list", "max", "min", "range", "repr", "sorted", "tuple", "zip"]
def gl := glOf fns csts bis
def fds : List FD := dfs.map fun d => d.get gl false
def lawF : FD := d_law.get gl true
theorem t_hole_of : DfT gl false d_hole_of := ⟨⟨rfl, rfl, rfl, by decide +kernel, rfl, by decide +kernel, by decide +kernel⟩, fun _ _ _ _ _ _ us hl => match us, hl with | [_], _ => rfl, by decide +kernel⟩
theorem t_names_of : DfT gl false d_names_of := ⟨⟨rfl, rfl, rfl, by decide +kernel, rfl, by decide +kernel, by decide +kernel⟩, fun _ _ _ _ _ _ us hl => match us, hl with | [_], _ => rfl, by decide +kernel⟩
theorem t_from_least : DfT gl false d_from_least := ⟨⟨rfl, rfl, rfl, by decide +kernel, rfl, by decide +kernel, by decide +kernel⟩, fun _ _ _ _ _ _ us hl => match us, hl with | [_], _ => rfl, by decide +kernel⟩
theorem t_hole_put : DfT gl false d_hole_put := ⟨⟨rfl, rfl, rfl, by decide +kernel, rfl, by decide +kernel, by decide +kernel⟩, fun _ _ _ _ _ _ us hl => match us, hl with | [_, _], _ => rfl, by decide +kernel⟩
theorem t_in_put : DfT gl false d_in_put := ⟨⟨rfl, rfl, rfl, by decide +kernel, rfl, by decide +kernel, by decide +kernel⟩, fun _ _ _ _ _ _ us hl => match us, hl with | [_, _], _ => rfl, by decide +kernel⟩
theorem t_put_by : DfT gl false d_put_by := ⟨⟨rfl, rfl, rfl, by decide +kernel, rfl, by decide +kernel, by decide +kernel⟩, fun _ _ _ _ _ _ us hl => match us, hl with | [_, _], _ => rfl, by decide +kernel⟩
theorem t_carried_by : DfT gl false d_carried_by := ⟨⟨rfl, rfl, rfl, by decide +kernel, rfl, by decide +kernel, by decide +kernel⟩, fun _ _ _ _ _ _ us hl => match us, hl with | [_, _], _ => rfl, by decide +kernel⟩
theorem t_all_exchanges : DfT gl false d_all_exchanges := ⟨⟨rfl, rfl, rfl, by decide +kernel, rfl, by decide +kernel, by decide +kernel⟩, fun _ _ _ _ _ _ us hl => match us, hl with | [_], _ => rfl, by decide +kernel⟩
theorem t_leavers_of : DfT gl false d_leavers_of := ⟨⟨rfl, rfl, rfl, by decide +kernel, rfl, by decide +kernel, by decide +kernel⟩, fun _ _ _ _ _ _ us hl => match us, hl with | [_], _ => rfl, by decide +kernel⟩
theorem t__law_tape : DfT gl false d__law_tape := ⟨⟨rfl, rfl, rfl, by decide +kernel, rfl, by decide +kernel, by decide +kernel⟩, fun _ _ _ _ _ _ us hl => match us, hl with | [_], _ => rfl, by decide +kernel⟩
theorem t__law_draw : DfT gl false d__law_draw := ⟨⟨rfl, rfl, rfl, by decide +kernel, rfl, by decide +kernel, by decide +kernel⟩, fun _ _ _ _ _ _ us hl => match us, hl with | [_, _], _ => rfl, by decide +kernel⟩
theorem t__law_rules : DfT gl false d__law_rules := ⟨⟨rfl, rfl, rfl, by decide +kernel, rfl, by decide +kernel, by decide +kernel⟩, fun _ _ _ _ _ _ us hl => match us, hl with | [_], _ => rfl, by decide +kernel⟩
theorem t__law_kind : DfT gl false d__law_kind := ⟨⟨rfl, rfl, rfl, by decide +kernel, rfl, by decide +kernel, by decide +kernel⟩, fun _ _ _ _ _ _ us hl => match us, hl with | [_, _, _, _], _ => rfl, by decide +kernel⟩
theorem t__law_rows : DfT gl false d__law_rows := ⟨⟨rfl, rfl, rfl, by decide +kernel, rfl, by decide +kernel, by decide +kernel⟩, fun _ _ _ _ _ _ us hl => match us, hl with | [_], _ => rfl, by decide +kernel⟩
theorem t__law_beside : DfT gl false d__law_beside := ⟨⟨rfl, rfl, rfl, by decide +kernel, rfl, by decide +kernel, by decide +kernel⟩, fun _ _ _ _ _ _ us hl => match us, hl with | [_, _, _], _ => rfl, by decide +kernel⟩
theorem t__law_within : DfT gl false d__law_within := ⟨⟨rfl, rfl, rfl, by decide +kernel, rfl, by decide +kernel, by decide +kernel⟩, fun _ _ _ _ _ _ us hl => match us, hl with | [_, _, _], _ => rfl, by decide +kernel⟩
theorem t__law_listed : DfT gl false d__law_listed := ⟨⟨rfl, rfl, rfl, by decide +kernel, rfl, by decide +kernel, by decide +kernel⟩, fun _ _ _ _ _ _ us hl => match us, hl with | [_, _, _], _ => rfl, by decide +kernel⟩
theorem t__law_names : DfT gl false d__law_names := ⟨⟨rfl, rfl, rfl, by decide +kernel, rfl, by decide +kernel, by decide +kernel⟩, fun _ _ _ _ _ _ us hl => match us, hl with | [_], _ => rfl, by decide +kernel⟩
theorem t__law_carried : DfT gl false d__law_carried := ⟨⟨rfl, rfl, rfl, by decide +kernel, rfl, by decide +kernel, by decide +kernel⟩, fun _ _ _ _ _ _ us hl => match us, hl with | [_, _], _ => rfl, by decide +kernel⟩
theorem t__law_told_carried : DfT gl false d__law_told_carried := ⟨⟨rfl, rfl, rfl, by decide +kernel, rfl, by decide +kernel, by decide +kernel⟩, fun _ _ _ _ _ _ us hl => match us, hl with | [_, _], _ => rfl, by decide +kernel⟩
theorem t__law_some_names : DfT gl false d__law_some_names := ⟨⟨rfl, rfl, rfl, by decide +kernel, rfl, by decide +kernel, by decide +kernel⟩, fun _ _ _ _ _ _ us hl => match us, hl with | [_, _], _ => rfl, by decide +kernel⟩
theorem t__law_struct : DfT gl false d__law_struct := ⟨⟨rfl, rfl, rfl, by decide +kernel, rfl, by decide +kernel, by decide +kernel⟩, fun _ _ _ _ _ _ us hl => match us, hl with | [_], _ => rfl, by decide +kernel⟩
theorem t_law : DfT gl true d_law := ⟨⟨rfl, rfl, rfl, by decide +kernel, rfl, by decide +kernel, by decide +kernel⟩, fun _ _ _ _ _ _ us hl => match us, hl with | [_], _ => rfl, by decide +kernel⟩
theorem allT : AllT gl dfs := ⟨t_hole_of, t_names_of, t_from_least, t_hole_put, t_in_put, t_put_by, t_carried_by, t_all_exchanges, t_leavers_of, t__law_tape, t__law_draw, t__law_rules, t__law_kind, t__law_rows, t__law_beside, t__law_within, t__law_listed, t__law_names, t__law_carried, t__law_told_carried, t__law_some_names, t__law_struct, trivial⟩
end KK
/-! QZ: the evaluator's rules, for simp: what comes next is a name, never a function written out. -/
namespace Q
open PySem L2
def SO.thn (o : SO) (g : Rho → SO) : SO := match o with
  | .next r => g r
  | o => o
@[simp] theorem thn_next {r : Rho} {g : Rho → SO} : (SO.next r).thn g = g r := (rfl)
@[simp] theorem thn_ret {x : Val} {r : Rho} {g : Rho → SO} : (SO.ret x r).thn g = .ret x r := (rfl)
@[simp] theorem thn_exc {x : Exn} {r : Rho} {g : Rho → SO} : (SO.exc x r).thn g = .exc x r := (rfl)
@[simp] theorem thn_brk {r : Rho} {g : Rho → SO} : (SO.brk r).thn g = .brk r := (rfl)
@[simp] theorem thn_cnt {r : Rho} {g : Rho → SO} : (SO.cnt r).thn g = .cnt r := (rfl)
def varH : Option Val → Nat → Rho → Out Hd
  | some (.d x), _, r => .ok (.v (.d x)) r
  | some (.scr xs true), _, r => .ok (.v (.d (.tuple xs))) r
  | some (.scr _ false), i, r => .ok (.s i) r
  | some (.lst _), i, r => .ok (.s i) r
  | some (.dct _), i, r => .ok (.s i) r
  | some (.ins _ _), i, r => .ok (.s i) r
  | none, _, _ => .bad
theorem varF_eq {i : Nat} {r : Rho} : varF i r = varH (gt r i) i r := by
  unfold varF
  generalize gt r i = o
  rcases o with _ | x
  · rfl
  · cases x with
    | scr xs t => cases t <;> rfl
    | _ => rfl
section
variable {F : FT} {pin : List Bool} {r : Rho}
@[simp] theorem varH_d {x : D} {i : Nat} : varH (some (.d x)) i r = .ok (.v (.d x)) r := (rfl)
@[simp] theorem varH_t {x : List D} {i : Nat} : varH (some (.scr x true)) i r = .ok (.v (.d (.tuple x))) r := (rfl)
@[simp] theorem varH_s {x : List D} {i : Nat} : varH (some (.scr x false)) i r = .ok (.s i) r := (rfl)
@[simp] theorem varH_l {x : List D} {i : Nat} : varH (some (.lst x)) i r = .ok (.s i) r := (rfl)
@[simp] theorem varH_k {x : List (Key × D)} {i : Nat} : varH (some (.dct x)) i r = .ok (.s i) r := (rfl)
@[simp] theorem varH_i {c : Str} {x : List (Str × D)} {i : Nat} : varH (some (.ins c x)) i r = .ok (.s i) r := (rfl)
-- runs
@[simp] theorem z_run0 {n : Nat} {b : IS} : runF F ⟨0, n, b⟩ [] = crOf 0 (evS F [] b (List.replicate n none)) := (rfl)
@[simp] theorem z_run1 {n : Nat} {b : IS} {x : Val} : runF F ⟨1, n, b⟩ [x] = crOf 1 (evS F [isMut x] b (some x :: List.replicate (n - 1) none)) := (rfl)
@[simp] theorem z_run2 {n : Nat} {b : IS} {x y : Val} : runF F ⟨2, n, b⟩ [x, y] = crOf 2 (evS F [isMut x, isMut y] b (some x :: some y :: List.replicate (n - 2) none)) := (rfl)
@[simp] theorem z_run3 {n : Nat} {b : IS} {x y z : Val} : runF F ⟨3, n, b⟩ [x, y, z] = crOf 3 (evS F [isMut x, isMut y, isMut z] b (some x :: some y :: some z :: List.replicate (n - 3) none)) := (rfl)
@[simp] theorem z_run4 {n : Nat} {b : IS} {x y z u : Val} : runF F ⟨4, n, b⟩ [x, y, z, u] = crOf 4 (evS F [isMut x, isMut y, isMut z, isMut u] b (some x :: some y :: some z :: some u :: List.replicate (n - 4) none)) := (rfl)
@[simp] theorem z_run5 {n : Nat} {b : IS} {x y z u v : Val} : runF F ⟨5, n, b⟩ [x, y, z, u, v] = crOf 5 (evS F [isMut x, isMut y, isMut z, isMut u, isMut v] b (some x :: some y :: some z :: some u :: some v :: List.replicate (n - 5) none)) := (rfl)
@[simp] theorem z_cr_next {np : Nat} : crOf np (.next r) = .ok (.d .none) (r.take np) := (rfl)
@[simp] theorem z_cr_ret {np : Nat} {x : Val} : crOf np (.ret x r) = .ok x (r.take np) := (rfl)
@[simp] theorem z_cr_exc {np : Nat} {e : Exn} : crOf np (.exc e r) = .exc e (r.take np) := (rfl)
@[simp] theorem z_mut_d {x : D} : isMut (.d x) = false := (rfl)
@[simp] theorem z_mut_l {x : List D} : isMut (.lst x) = true := (rfl)
@[simp] theorem z_mut_k {x : List (Key × D)} : isMut (.dct x) = true := (rfl)
@[simp] theorem z_mut_i {c : Str} {fs : List (Str × D)} : isMut (.ins c fs) = true := (rfl)
@[simp] theorem z_mut_s {x : List D} {t : Bool} : isMut (.scr x t) = false := (rfl)
-- glue
@[simp] theorem z_of_ok {α : Type} {a : α} {f : α → Rho → SO} : ofOut (.ok a r) f = f a r := (rfl)
@[simp] theorem z_of_exc {α : Type} {e : Exn} {f : α → Rho → SO} : ofOut (.exc e r) f = .exc e r := (rfl)
@[simp] theorem z_bd_ok {α β : Type} {a : α} {f : α → Rho → Out β} : Out.bind (.ok a r) f = f a r := (rfl)
@[simp] theorem z_bd_exc {α β : Type} {e : Exn} {f : α → Rho → Out β} : Out.bind (.exc e r) f = .exc e r := (rfl)
@[simp] theorem z_tst {b : Bool} : tstO (.ok (.v (.d (.bool b))) r) = .ok b r := (rfl)
@[simp] theorem z_tst_exc {e : Exn} : tstO (.exc e r) = .exc e r := (rfl)
@[simp] theorem z_tree_v {x : D} : treeO (.ok (.v (.d x)) r) = .ok x r := (rfl)
@[simp] theorem z_tree_l {x : List D} : treeO (.ok (.v (.lst x)) r) = .ok (.list x) r := (rfl)
@[simp] theorem z_tree_exc {e : Exn} : treeO (.exc e r) = .exc e r := (rfl)
def trK : Option (D × Rho) → Out D
  | some p => .ok p.1 p.2
  | none => .bad
@[simp] theorem trK_s {t : D} : trK (some (t, r)) = .ok t r := (rfl)
@[simp] theorem z_tree_s {i : Nat} : treeO (.ok (.s i) r) = trK (tr r (.s i)) := by
  simp only [treeO, trK]
  cases tr r (.s i) <;> rfl
def trF : Option D → Nat → Rho → Option (D × Rho)
  | some t, i, r => some (t, r.set i (some (.d t)))
  | none, _, _ => none
@[simp] theorem trF_s {t : D} {i : Nat} : trF (some t) i r = some (t, r.set i (some (.d t))) := (rfl)
def trG : Option Val → Nat → Rho → Option (D × Rho)
  | some x, i, r => trF (fz x) i r
  | none, _, _ => none
@[simp] theorem trG_s {x : Val} {i : Nat} : trG (some x) i r = trF (fz x) i r := (rfl)
@[simp] theorem z_tr_d {x : D} : tr r (.v (.d x)) = some (x, r) := (rfl)
@[simp] theorem z_tr_l {x : List D} : tr r (.v (.lst x)) = some (.list x, r) := (rfl)
@[simp] theorem z_tr_s {i : Nat} : tr r (.s i) = trG (gt r i) i r := by
  simp only [tr]
  cases gt r i with
  | none => rfl
  | some x => simp only [trG]; cases h : fz x <;> rfl
@[simp] theorem z_fz_d {x : D} : fz (.d x) = some x := (rfl)
@[simp] theorem z_fz_l {x : List D} : fz (.lst x) = some (.list x) := (rfl)
@[simp] theorem z_dr_v {x : Val} : dr r (.v x) = some x := (rfl)
@[simp] theorem z_dr_s {i : Nat} : dr r (.s i) = gt r i := (rfl)
@[simp] theorem z_gt0 {o : Option Val} : gt (o :: r) 0 = o := (rfl)
@[simp] theorem z_gtS {o : Option Val} {i : Nat} : gt (o :: r) (i + 1) = gt r i := by simp [gt]
@[simp] theorem z_gtN {i : Nat} : gt [] i = none := by simp [gt]
/-- one thing made of a value's part -/
def l1 {α : Type} : Option α → (α → Val) → Rho → Out Hd
  | some z, g, r => .ok (.v (g z)) r
  | none, _, _ => .bad
@[simp] theorem l1_s {α : Type} {z : α} {g : α → Val} : l1 (some z) g r = .ok (.v (g z)) r := (rfl)
def l0 {α : Type} : Option Val → (Val → Option α) → (α → Val) → Rho → Out Hd
  | some x, f, g, r => l1 (f x) g r
  | none, _, _, _ => .bad
@[simp] theorem l0_s {α : Type} {x : Val} {f : Val → Option α} {g : α → Val} : l0 (some x) f g r = l1 (f x) g r := (rfl)
def l2 {α : Type} : Option Val → Option Val → (Val → Val → Option α) → (α → Val) → Rho → Out Hd
  | some x, some y, f, g, r => l1 (f x y) g r
  | _, _, _, _, _ => .bad
@[simp] theorem l2_s {α : Type} {x y : Val} {f : Val → Val → Option α} {g : α → Val} : l2 (some x) (some y) f g r = l1 (f x y) g r := (rfl)
theorem lift1_eq {α : Type} {h : Hd} {f : Val → Option α} {g : α → Val} : lift1 r h f g = l0 (dr r h) f g r := by
  unfold lift1 l0
  cases dr r h with
  | none => rfl
  | some x => cases q : f x <;> simp [q, l1]
theorem lift2_eq {α : Type} {h h' : Hd} {f : Val → Val → Option α} {g : α → Val} : lift2 r h h' f g = l2 (dr r h) (dr r h') f g r := by
  unfold lift2 l2
  cases dr r h with
  | none => cases dr r h' <;> rfl
  | some x => cases dr r h' with
    | none => rfl
    | some y => cases q : f x y <;> simp [q, l1]
def mkNeg (i : Int) : Val := .d (.int (-i))
def mkInt (i : Int) : Val := .d (.int i)
def mkNat (i : Nat) : Val := .d (.int (i : Int))
def mkRev (xs : List D) : Val := .d (.tuple xs.reverse)
def isiT (ts : List Ty) (x : Val) : Option Bool := isiV x ts
@[simp] theorem mkNeg_eq {i : Int} : mkNeg i = .d (.int (-i)) := (rfl)
@[simp] theorem mkInt_eq {i : Int} : mkInt i = .d (.int i) := (rfl)
@[simp] theorem mkNat_eq {i : Nat} : mkNat i = .d (.int (i : Int)) := (rfl)
@[simp] theorem mkRev_eq {xs : List D} : mkRev xs = .d (.tuple xs.reverse) := (rfl)
@[simp] theorem isiT_eq {ts : List Ty} {x : Val} : isiT ts x = isiV x ts := (rfl)
@[simp] theorem y_ofB {b : Bool} : ofB b = .d (.bool b) := (rfl)
def kU {α : Type} (f : Val → Option α) (g : α → Val) (h : Hd) (r : Rho) : Out Hd := l0 (dr r h) f g r
@[simp] theorem kU_eq {α : Type} {f : Val → Option α} {g : α → Val} {h : Hd} : kU f g h r = l0 (dr r h) f g r := (rfl)
def kW {α : Type} (f : Val → Val → Option α) (g : α → Val) (h h' : Hd) (r : Rho) : Out Hd := l2 (dr r h) (dr r h') f g r
@[simp] theorem kW_eq {α : Type} {f : Val → Val → Option α} {g : α → Val} {h h' : Hd} : kW f g h h' r = l2 (dr r h) (dr r h') f g r := (rfl)
def kV {α : Type} (F : FT) (b : IE) (f : Val → Val → Option α) (g : α → Val) (h : Hd) (r : Rho) : Out Hd := (evE F b r).bind (kW f g h)
@[simp] theorem kV_eq {α : Type} {b : IE} {f : Val → Val → Option α} {g : α → Val} {h : Hd} : kV F b f g h r = (evE F b r).bind (kW f g h) := (rfl)
theorem kV_of {α : Type} {a b : IE} {f : Val → Val → Option α} {g : α → Val} : ((evE F a r).bind fun h r => (evE F b r).bind fun h' r => lift2 r h h' f g) = (evE F a r).bind (kV F b f g) := by
  congr 1
  funext h r
  unfold kV
  congr 1
  funext h' r
  exact lift2_eq
theorem kU_of {α : Type} {a : IE} {f : Val → Option α} {g : α → Val} : ((evE F a r).bind fun h r => lift1 r h f g) = (evE F a r).bind (kU f g) := by
  congr 1
  funext h r
  exact lift1_eq
-- expressions
@[simp] theorem z_k {x : D} : evE F (.k x) r = .ok (.v (.d x)) r := by simp only [evE]
@[simp] theorem z_var {i : Nat} : evE F (.var i) r = varH (gt r i) i r := by simp only [evE]; exact varF_eq
def kTup (ds : List D) (r : Rho) : Out Hd := .ok (.v (.d (.tuple ds))) r
def kLst (ds : List D) (r : Rho) : Out Hd := .ok (.v (.lst ds)) r
@[simp] theorem kTup_eq {ds : List D} : kTup ds r = .ok (.v (.d (.tuple ds))) r := (rfl)
@[simp] theorem kLst_eq {ds : List D} : kLst ds r = .ok (.v (.lst ds)) r := (rfl)
@[simp] theorem z_tup {es : IE} : evE F (.tup es) r = (evT F es r).bind kTup := by simp only [evE]; rfl
@[simp] theorem z_lst {es : IE} : evE F (.lst es) r = (evT F es r).bind kLst := by simp only [evE]; rfl
@[simp] theorem z_bin {o : BOp} {a b : IE} : evE F (.bin o a b) r = (evE F a r).bind (kV F b (binV o) id) := by simp only [evE]; exact kV_of
@[simp] theorem z_neg {a : IE} : evE F (.neg a) r = (evE F a r).bind (kU negV mkNeg) := by simp only [evE]; exact kU_of
@[simp] theorem z_cmp {o : COp} {a b : IE} : evE F (.cmp o a b) r = (evE F a r).bind (kV F b (cmpV o) ofB) := by simp only [evE]; exact kV_of
@[simp] theorem z_ix {a b : IE} : evE F (.ix a b) r = (evE F a r).bind (kV F b ixV .d) := by simp only [evE]; exact kV_of
@[simp] theorem z_bnd {a : IE} : evE F (.bnd a) r = (evE F a r).bind (kU negV mkInt) := by simp only [evE]; exact kU_of
@[simp] theorem z_rev {a : IE} : evE F (.rev a) r = (evE F a r).bind (kU revV mkRev) := by simp only [evE]; exact kU_of
@[simp] theorem z_f1 {f : F1} {a : IE} : evE F (.f1 f a) r = (evE F a r).bind (kU (f1V f) id) := by simp only [evE]; exact kU_of
@[simp] theorem z_f2 {f : F2} {a b : IE} : evE F (.f2 f a b) r = (evE F a r).bind (kV F b (f2V f) .d) := by simp only [evE]; exact kV_of
@[simp] theorem z_isi {a : IE} {ts : List Ty} : evE F (.isi a ts) r = (evE F a r).bind (kU (isiT ts) ofB) := by simp only [evE]; exact kU_of (f := isiT ts)
def kCh4 : Option Bool → FT → COp → IE → Hd → Rho → Out Hd
  | some true, F, o, c, g, r => (evE F c r).bind (kW (cmpV o) ofB g)
  | some false, _, _, _, _, r => .ok (.v (.d (.bool false))) r
  | none, _, _, _, _, _ => .bad
@[simp] theorem kCh4_t {o : COp} {c : IE} {g : Hd} : kCh4 (some true) F o c g r = (evE F c r).bind (kW (cmpV o) ofB g) := (rfl)
@[simp] theorem kCh4_f {o : COp} {c : IE} {g : Hd} : kCh4 (some false) F o c g r = .ok (.v (.d (.bool false))) r := (rfl)
def kCh3 : Option Val → Option Val → FT → COp → COp → IE → Hd → Rho → Out Hd
  | some x, some y, F, o, o2, c, g, r => kCh4 (cmpV o x y) F o2 c g r
  | _, _, _, _, _, _, _, _ => .bad
@[simp] theorem kCh3_s {x y : Val} {o o2 : COp} {c : IE} {g : Hd} : kCh3 (some x) (some y) F o o2 c g r = kCh4 (cmpV o x y) F o2 c g r := (rfl)
def kCh2 (F : FT) (o o2 : COp) (c : IE) (h g : Hd) (r : Rho) : Out Hd := kCh3 (dr r h) (dr r g) F o o2 c g r
@[simp] theorem kCh2_eq {o o2 : COp} {c : IE} {h g : Hd} : kCh2 F o o2 c h g r = kCh3 (dr r h) (dr r g) F o o2 c g r := (rfl)
def kCh (F : FT) (o o2 : COp) (b c : IE) (h : Hd) (r : Rho) : Out Hd := (evE F b r).bind (kCh2 F o o2 c h)
@[simp] theorem kCh_eq {o o2 : COp} {b c : IE} {h : Hd} : kCh F o o2 b c h r = (evE F b r).bind (kCh2 F o o2 c h) := (rfl)
@[simp] theorem z_chain {o1 o2 : COp} {a b c : IE} : evE F (.chain o1 o2 a b c) r = (evE F a r).bind (kCh F o1 o2 b c) := by
  simp only [evE]
  unfold chainF
  congr 1
  funext h r
  unfold kCh
  congr 1
  funext g r
  unfold kCh2 kCh3
  cases dr r h with
  | none => cases dr r g <;> rfl
  | some x => cases dr r g with
    | none => rfl
    | some y =>
      dsimp only
      unfold kCh4
      rcases cmpV o1 x y with _ | b
      · rfl
      · cases b
        · rfl
        · show Out.bind _ _ = Out.bind _ _
          congr 1
          funext k r
          exact lift2_eq
def kB (t : Bool) (r : Rho) : Out Hd := .ok (.v (.d (.bool t))) r
@[simp] theorem kB_eq {t : Bool} : kB t r = .ok (.v (.d (.bool t))) r := (rfl)
def kNot (t : Bool) (r : Rho) : Out Hd := .ok (.v (.d (.bool (!t)))) r
@[simp] theorem kNot_eq {t : Bool} : kNot t r = .ok (.v (.d (.bool (!t)))) r := (rfl)
def kAnd (F : FT) (b : IE) : Bool → Rho → Out Hd
  | true, r => (tstO (evE F b r)).bind kB
  | false, r => .ok (.v (.d (.bool false))) r
@[simp] theorem kAnd_t {b : IE} : kAnd F b true r = (tstO (evE F b r)).bind kB := (rfl)
@[simp] theorem kAnd_f {b : IE} : kAnd F b false r = .ok (.v (.d (.bool false))) r := (rfl)
def kOr (F : FT) (b : IE) : Bool → Rho → Out Hd
  | true, r => .ok (.v (.d (.bool true))) r
  | false, r => (tstO (evE F b r)).bind kB
@[simp] theorem kOr_t {b : IE} : kOr F b true r = .ok (.v (.d (.bool true))) r := (rfl)
@[simp] theorem kOr_f {b : IE} : kOr F b false r = (tstO (evE F b r)).bind kB := (rfl)
@[simp] theorem z_and {a b : IE} : evE F (.and a b) r = (tstO (evE F a r)).bind (kAnd F b) := by
  simp only [evE]
  unfold andF
  congr 1
  funext t r
  cases t <;> rfl
@[simp] theorem z_or {a b : IE} : evE F (.or a b) r = (tstO (evE F a r)).bind (kOr F b) := by
  simp only [evE]
  unfold orF
  congr 1
  funext t r
  cases t <;> rfl
@[simp] theorem z_not {a : IE} : evE F (.not a) r = (tstO (evE F a r)).bind kNot := by
  simp only [evE]
  rfl
def kIfe (F : FT) (a b : IE) : Bool → Rho → Out Hd
  | true, r => evE F a r
  | false, r => evE F b r
@[simp] theorem kIfe_t {a b : IE} : kIfe F a b true r = evE F a r := (rfl)
@[simp] theorem kIfe_f {a b : IE} : kIfe F a b false r = evE F b r := (rfl)
@[simp] theorem z_ife {c a b : IE} : evE F (.ife c a b) r = (tstO (evE F c r)).bind (kIfe F a b) := by
  simp only [evE]
  congr 1
  funext t r
  cases t <;> rfl
@[simp] theorem z_bndn : bndO (.ok (.v (.d .none)) r) = .ok none r := (rfl)
@[simp] theorem z_bndi {i : Int} : bndO (.ok (.v (.d (.int i))) r) = .ok (some i) r := (rfl)
def kSl3 (h : Hd) (l u : Option Int) (r : Rho) : Out Hd := l0 (dr r h) (slV l u) id r
@[simp] theorem kSl3_eq {h : Hd} {l u : Option Int} : kSl3 h l u r = l0 (dr r h) (slV l u) id r := (rfl)
def kSl2 (F : FT) (hi : IE) (h : Hd) (l : Option Int) (r : Rho) : Out Hd := (bndO (evE F hi r)).bind (kSl3 h l)
@[simp] theorem kSl2_eq {hi : IE} {h : Hd} {l : Option Int} : kSl2 F hi h l r = (bndO (evE F hi r)).bind (kSl3 h l) := (rfl)
def kSl (F : FT) (lo hi : IE) (h : Hd) (r : Rho) : Out Hd := (bndO (evE F lo r)).bind (kSl2 F hi h)
@[simp] theorem kSl_eq {lo hi : IE} {h : Hd} : kSl F lo hi h r = (bndO (evE F lo r)).bind (kSl2 F hi h) := (rfl)
@[simp] theorem z_sl {a lo hi : IE} : evE F (.sl a lo hi) r = (evE F a r).bind (kSl F lo hi) := by
  simp only [evE]
  unfold slF
  congr 1
  funext h r
  unfold kSl
  congr 1
  funext l r
  unfold kSl2
  congr 1
  funext u r
  exact lift1_eq
def callK : CR → List Hd → List Val → Rho → Out Hd
  | .ok x outs, hs, xs, r => .ok (.v x) (putOuts r hs xs outs)
  | .exc e outs, hs, xs, r => .exc e (putOuts r hs xs outs)
  | .bad, _, _, _ => .bad
@[simp] theorem callK_ok {x : Val} {outs : Rho} {hs : List Hd} {xs : List Val} : callK (.ok x outs) hs xs r = .ok (.v x) (putOuts r hs xs outs) := (rfl)
@[simp] theorem callK_exc {x : Exn} {outs : Rho} {hs : List Hd} {xs : List Val} : callK (.exc x outs) hs xs r = .exc x (putOuts r hs xs outs) := (rfl)
def callG : Option (List Val) → FT → Nat → List Hd → Rho → Out Hd
  | some xs, F, f, hs, r => if (slotsOf hs).Nodup then callK (F f xs) hs xs r else .bad
  | none, _, _, _, _ => .bad
@[simp] theorem callG_s {xs : List Val} {f : Nat} {hs : List Hd} : callG (some xs) F f hs r = if (slotsOf hs).Nodup then callK (F f xs) hs xs r else .bad := (rfl)
def kCall (F : FT) (f : Nat) (hs : List Hd) (r : Rho) : Out Hd := callG (drs r hs) F f hs r
@[simp] theorem kCall_eq {f : Nat} {hs : List Hd} : kCall F f hs r = callG (drs r hs) F f hs r := (rfl)
@[simp] theorem z_call {f : Nat} {es : IE} : evE F (.call f es) r = (evL F es r).bind (kCall F f) := by
  simp only [evE]
  congr 1
  funext hs r
  unfold callO kCall callG
  cases drs r hs with
  | none => rfl
  | some xs =>
    dsimp only
    split
    · unfold callK
      cases F f xs <;> rfl
    · rfl
def mlG : Option Val → Option (List Val) → Mt → Rho → Out Hd
  | some x, some ys, m, r => l1 (mthV m x ys) id r
  | _, _, _, _ => .bad
@[simp] theorem mlG_s {x : Val} {ys : List Val} {m : Mt} : mlG (some x) (some ys) m r = l1 (mthV m x ys) id r := (rfl)
def kMl (m : Mt) (h : Hd) (gs : List Hd) (r : Rho) : Out Hd := mlG (dr r h) (drs r gs) m r
@[simp] theorem kMl_eq {m : Mt} {h : Hd} {gs : List Hd} : kMl m h gs r = mlG (dr r h) (drs r gs) m r := (rfl)
def idxK : Option (List Val) → List D → Rho → Out Hd
  | some [.d (.int k)], xs, r => l1 (idxTV xs k) mkNat r
  | _, _, _ => .bad
@[simp] theorem idxK_i {xs : List D} {k : Int} : idxK (some [.d (.int k)]) xs r = l1 (idxTV xs k) mkNat r := (rfl)
def kIdx (xs : List D) (gs : List Hd) (r : Rho) : Out Hd := idxK (drs r gs) xs r
@[simp] theorem kIdx_eq {xs : List D} {gs : List Hd} : kIdx xs gs r = idxK (drs r gs) xs r := (rfl)
theorem mthL_eq {m : Mt} {h : Hd} {fs : Rho → Out (List Hd)} : ((fs r).bind fun gs r => match dr r h, drs r gs with
        | some x, some ys => match mthV m x ys with
            | some z => Out.ok (Hd.v z) r
            | none => .bad
        | _, _ => .bad) = (fs r).bind (kMl m h) := by
  congr 1
  funext gs r
  unfold kMl mlG
  cases dr r h with
  | none => cases drs r gs <;> rfl
  | some x => cases drs r gs with
    | none => rfl
    | some ys => cases q : mthV m x ys <;> simp [q, l1]
theorem idxK_of {xs : List D} {o : Option (List Val)} : (match o with
        | some [.d (.int k)] => match idxTV xs k with
          | some j => Out.ok (Hd.v (.d (.int (j : Int)))) r
          | none => .bad
        | _ => .bad) = idxK o xs r := by
  unfold idxK
  split
  · rename_i k
    cases q : idxTV xs k <;> simp [q, l1]
  · rename_i hh
    split
    · exact (hh _ rfl).elim
    · rfl
def mthG : Option Val → FT → Mt → IE → Hd → Rho → Out Hd
  | some (.d (.tuple xs)), F, _, es, _, r => (evL F es r).bind (kIdx xs)
  | some x0, F, m, es, h, r => if (lstOf x0).isSome then (evL F es r).bind (kMl m h) else .bad
  | none, _, _, _, _, _ => .bad
@[simp] theorem mthG_t {xs : List D} {m : Mt} {es : IE} {h : Hd} : mthG (some (.d (.tuple xs))) F m es h r = (evL F es r).bind (kIdx xs) := (rfl)
@[simp] theorem mthG_l {xs : List D} {m : Mt} {es : IE} {h : Hd} : mthG (some (.lst xs)) F m es h r = (evL F es r).bind (kMl m h) := (rfl)
@[simp] theorem mthG_dl {xs : List D} {m : Mt} {es : IE} {h : Hd} : mthG (some (.d (.list xs))) F m es h r = (evL F es r).bind (kMl m h) := (rfl)
def kMth (F : FT) (m : Mt) (es : IE) (h : Hd) (r : Rho) : Out Hd := mthG (dr r h) F m es h r
@[simp] theorem kMth_eq {m : Mt} {es : IE} {h : Hd} : kMth F m es h r = mthG (dr r h) F m es h r := (rfl)
theorem mth_body {m : Mt} {h : Hd} {es : IE} {o : Option Val} : (match o with
    | some (.d (.tuple xs)) => (evL F es r).bind fun gs r => match drs r gs with
        | some [.d (.int k)] => match idxTV xs k with
          | some j => Out.ok (Hd.v (.d (.int (j : Int)))) r
          | none => .bad
        | _ => .bad
    | some x0 => if (lstOf x0).isSome then (evL F es r).bind fun gs r => match dr r h, drs r gs with
        | some x, some ys => match mthV m x ys with
            | some z => Out.ok (Hd.v z) r
            | none => .bad
        | _, _ => .bad
      else .bad
    | none => .bad) = mthG o F m es h r := by
  rcases o with _ | x
  · rfl
  · cases x with
    | d t => cases t with
      | tuple xs =>
        show Out.bind _ _ = Out.bind _ _
        congr 1
        funext gs r
        exact idxK_of
      | _ =>
        simp only [mthG]
        split
        · exact mthL_eq (fs := evL F es)
        · rfl
    | _ =>
      simp only [mthG]
      split
      · exact mthL_eq (fs := evL F es)
      · rfl
@[simp] theorem z_mth {m : Mt} {a es : IE} : evE F (.mth m a es) r = (evE F a r).bind (kMth F m es) := by
  simp only [evE]
  unfold mthF
  congr 1
  funext h r
  exact mth_body
def mutO : Option (D × List D) → Nat → Rho → Out Hd
  | some p, i, r => .ok (.v (.d p.1)) (r.set i (some (.lst p.2)))
  | none, _, _ => .bad
@[simp] theorem mutO_s {z : D} {xs : List D} {i : Nat} : mutO (some (z, xs)) i r = .ok (.v (.d z)) (r.set i (some (.lst xs))) := (rfl)
def mutK : Option Val → Mu → Nat → List D → Rho → Out Hd
  | some (.lst xs), m, i, ys, r => mutO (mutL m xs ys) i r
  | _, _, _, _, _ => .bad
@[simp] theorem mutK_l {xs : List D} {m : Mu} {i : Nat} {ys : List D} : mutK (some (.lst xs)) m i ys r = mutO (mutL m xs ys) i r := (rfl)
def kMut (m : Mu) (i : Nat) (ys : List D) (r : Rho) : Out Hd := mutK (gt r i) m i ys r
@[simp] theorem kMut_eq {m : Mu} {i : Nat} {ys : List D} : kMut m i ys r = mutK (gt r i) m i ys r := (rfl)
def mutG : Option Val → FT → Mu → Nat → IE → Rho → Out Hd
  | some (.lst _), F, m, i, es, r => (evT F es r).bind (kMut m i)
  | _, _, _, _, _, _ => .bad
@[simp] theorem mutG_l {xs : List D} {m : Mu} {i : Nat} {es : IE} : mutG (some (.lst xs)) F m i es r = (evT F es r).bind (kMut m i) := (rfl)
@[simp] theorem z_mut {m : Mu} {i : Nat} {es : IE} : evE F (.mut m i es) r = mutG (gt r i) F m i es r := by
  simp only [evE]
  unfold mutF
  rcases gt r i with _ | x
  · rfl
  · cases x with
    | lst xs =>
      show Out.bind _ _ = Out.bind _ _
      congr 1
      funext ys r
      unfold kMut mutK
      rcases gt r i with _ | x
      · rfl
      · cases x with
        | lst xs =>
          dsimp only
          unfold mutO
          cases q : mutL m xs ys <;> simp [q]
        | _ => rfl
    | _ => rfl
def dSeq : Option Val → Option (List D)
  | some y => seqOf y
  | none => none
@[simp] theorem dSeq_s {y : Val} : dSeq (some y) = seqOf y := (rfl)
def extK : Option Val → Option (List D) → Nat → Rho → Out Hd
  | some (.lst xs), some ys, i, r => if xs.length + ys.length ≤ sizeLine then .ok (.v (.d .none)) (r.set i (some (.lst (xs ++ ys)))) else .bad
  | _, _, _, _ => .bad
@[simp] theorem extK_l {xs ys : List D} {i : Nat} : extK (some (.lst xs)) (some ys) i r = if xs.length + ys.length ≤ sizeLine then .ok (.v (.d .none)) (r.set i (some (.lst (xs ++ ys)))) else .bad := (rfl)
def kExt (i : Nat) (h : Hd) (r : Rho) : Out Hd := extK (gt r i) (dSeq (dr r h)) i r
@[simp] theorem kExt_eq {i : Nat} {h : Hd} : kExt i h r = extK (gt r i) (dSeq (dr r h)) i r := (rfl)
def extG : Option Val → FT → Nat → IE → Rho → Out Hd
  | some (.lst _), F, i, e, r => (evE F e r).bind (kExt i)
  | _, _, _, _, _ => .bad
@[simp] theorem extG_l {xs : List D} {i : Nat} {e : IE} : extG (some (.lst xs)) F i e r = (evE F e r).bind (kExt i) := (rfl)
@[simp] theorem z_ext {i : Nat} {e : IE} : evE F (.ext i e) r = extG (gt r i) F i e r := by
  simp only [evE]
  unfold extF
  rcases gt r i with _ | x
  · rfl
  · cases x with
    | lst xs =>
      show Out.bind _ _ = Out.bind _ _
      congr 1
      funext h r
      unfold kExt extK
      rcases gt r i with _ | x
      · rfl
      · cases x with
        | lst xs => cases dr r h with
          | none => rfl
          | some y => unfold dSeq; cases q : seqOf y <;> simp [q]
        | _ => rfl
    | _ => rfl
def kCv (c : Cv) (xs : List D) (r : Rho) : Out Hd := l1 (cvV c xs) id r
@[simp] theorem kCv_eq {c : Cv} {xs : List D} : kCv c xs r = l1 (cvV c xs) id r := (rfl)
@[simp] theorem z_cv {c : Cv} {it : IE} : evE F (.cv c it) r = (evI F it r).bind (kCv c) := by
  simp only [evE]
  unfold cvF
  congr 1
  funext xs r
  unfold kCv l1
  cases cvV c xs <;> rfl
theorem z_lc {own tg : List Nat} {one : Bool} {it cs elt : IE} : evE F (.lc own tg one it cs elt) r = lcF own tg one (evI F it) (fun r => tstO (evE F cs r)) (fun r => treeO (evE F elt r)) r := by simp only [evE]
@[simp] theorem z_dnew : evE F .dnew r = .ok (.v (.dct [])) r := by simp only [evE]
def kL2 (h : Hd) (hs : List Hd) (r : Rho) : Out (List Hd) := .ok (h :: hs) r
@[simp] theorem kL2_eq {h : Hd} {hs : List Hd} : kL2 h hs r = .ok (h :: hs) r := (rfl)
def kL (F : FT) (es : IE) (h : Hd) (r : Rho) : Out (List Hd) := (evL F es r).bind (kL2 h)
@[simp] theorem kL_eq {es : IE} {h : Hd} : kL F es h r = (evL F es r).bind (kL2 h) := (rfl)
def kT2 (h : D) (hs : List D) (r : Rho) : Out (List D) := .ok (h :: hs) r
@[simp] theorem kT2_eq {h : D} {hs : List D} : kT2 h hs r = .ok (h :: hs) r := (rfl)
def kT (F : FT) (es : IE) (h : D) (r : Rho) : Out (List D) := (evT F es r).bind (kT2 h)
@[simp] theorem kT_eq {es : IE} {h : D} : kT F es h r = (evT F es r).bind (kT2 h) := (rfl)
@[simp] theorem z_L0 : evL F .nil r = .ok [] r := by simp only [evL]
@[simp] theorem z_L1 {e es : IE} : evL F (.cons e es) r = (evE F e r).bind (kL F es) := by simp only [evL]; rfl
@[simp] theorem z_T0 : evT F .nil r = .ok [] r := by simp only [evT]
@[simp] theorem z_T1 {e es : IE} : evT F (.cons e es) r = (treeO (evE F e r)).bind (kT F es) := by simp only [evT]; rfl
-- iterators
def seqK : Option (D × Rho) → Out (List D)
  | some (.list xs, r) => .ok xs r
  | some (.tuple xs, r) => .ok xs r
  | _ => .bad
@[simp] theorem seqK_l {xs : List D} : seqK (some (.list xs, r)) = .ok xs r := (rfl)
@[simp] theorem seqK_t {xs : List D} : seqK (some (.tuple xs, r)) = .ok xs r := (rfl)
def kSeq (h : Hd) (r : Rho) : Out (List D) := seqK (tr r h)
@[simp] theorem kSeq_eq {h : Hd} : kSeq h r = seqK (tr r h) := (rfl)
@[simp] theorem z_Iseq {e : IE} : evI F (.seq e) r = (evE F e r).bind kSeq := by
  simp only [evI]
  unfold seqF
  congr 1
def rngK : Option Val → Rho → Out (List D)
  | some (.d (.int j)), r => if -(2 ^ 62) ≤ j ∧ j < 2 ^ 62 then .ok (rngD 0 j.toNat) r else .bad
  | _, _ => .bad
@[simp] theorem rngK_i {j : Int} : rngK (some (.d (.int j))) r = if -(2 ^ 62) ≤ j ∧ j < 2 ^ 62 then .ok (rngD 0 j.toNat) r else .bad := (rfl)
def kRng (h : Hd) (r : Rho) : Out (List D) := rngK (dr r h) r
@[simp] theorem kRng_eq {h : Hd} : kRng h r = rngK (dr r h) r := (rfl)
@[simp] theorem z_Ir1 {e : IE} : evI F (.rng1 e) r = (evE F e r).bind kRng := by
  simp only [evI]
  unfold rng1F
  congr 1
  funext h r
  unfold kRng rngK
  rcases dr r h with _ | x
  · rfl
  · cases x with
    | d t => cases t <;> rfl
    | _ => rfl
def zipK : Option Val → Option Val → Rho → Out (List D)
  | some (.d (.tuple xs)), some (.d (.tuple ys)), r => .ok (zipD xs ys) r
  | _, _, _ => .bad
@[simp] theorem zipK_t {xs ys : List D} : zipK (some (.d (.tuple xs))) (some (.d (.tuple ys))) r = .ok (zipD xs ys) r := (rfl)
def kZip2 (h g : Hd) (r : Rho) : Out (List D) := zipK (dr r h) (dr r g) r
@[simp] theorem kZip2_eq {h g : Hd} : kZip2 h g r = zipK (dr r h) (dr r g) r := (rfl)
def kZip (F : FT) (b : IE) (h : Hd) (r : Rho) : Out (List D) := (evE F b r).bind (kZip2 h)
@[simp] theorem kZip_eq {b : IE} {h : Hd} : kZip F b h r = (evE F b r).bind (kZip2 h) := (rfl)
@[simp] theorem z_Izip {e f : IE} : evI F (.zip e f) r = (evE F e r).bind (kZip F f) := by
  simp only [evI]
  unfold zipF
  congr 1
  funext h r
  unfold kZip
  congr 1
  funext g r
  unfold kZip2 zipK
  rcases dr r h with _ | x
  · rfl
  · rcases x with t | _ | _ | _ | _
    · rcases dr r g with _ | y
      · cases t <;> rfl
      · rcases y with u | _ | _ | _ | _
        · cases t <;> cases u <;> rfl
        all_goals cases t <;> rfl
    all_goals rfl
def enumK : Option (D × Rho) → Out (List D)
  | some (.list xs, r) => .ok (enumD xs) r
  | _ => .bad
@[simp] theorem enumK_l {xs : List D} : enumK (some (.list xs, r)) = .ok (enumD xs) r := (rfl)
def kEnum (h : Hd) (r : Rho) : Out (List D) := enumK (tr r h)
@[simp] theorem kEnum_eq {h : Hd} : kEnum h r = enumK (tr r h) := (rfl)
@[simp] theorem z_Ienum {e : IE} : evI F (.enum e) r = (evE F e r).bind kEnum := by
  simp only [evI]
  unfold enumF
  congr 1
def valsK : Option Val → Rho → Out (List D)
  | some (.dct kvs), r => .ok (kvs.map (·.2)) r
  | _, _ => .bad
@[simp] theorem valsK_d {kvs : List (Key × D)} : valsK (some (.dct kvs)) r = .ok (kvs.map (·.2)) r := (rfl)
def kVals (h : Hd) (r : Rho) : Out (List D) := valsK (dr r h) r
@[simp] theorem kVals_eq {h : Hd} : kVals h r = valsK (dr r h) r := (rfl)
@[simp] theorem z_Ivals {e : IE} : evI F (.vals e) r = (evE F e r).bind kVals := by
  simp only [evI]
  unfold valsF
  congr 1
  funext h r
  unfold kVals valsK
  rcases dr r h with _ | x
  · rfl
  · cases x <;> rfl
-- statements
@[simp] theorem z_skip : evS F pin .skip r = .next r := by simp only [evS]
@[simp] theorem z_sq {s t : IS} : evS F pin (.sq s t) r = (evS F pin s r).thn (evS F pin t) := by simp only [evS]; unfold sqF SO.thn; rfl
@[simp] theorem z_asg {i : Nat} {e : IE} : evS F pin (.asg i e) r = ofOut (evE F e r) (asgF pin i) := by simp only [evS]
@[simp] theorem z_unp {i : List Nat} {e : IE} : evS F pin (.unp i e) r = ofOut (treeO (evE F e r)) (unpF pin i) := by simp only [evS]
def kSetG : Option Val → FT → Nat → IE → D → Rho → SO
  | some _, F, i, k, t, r => ofOut (evE F k r) (stixF i t)
  | none, _, _, _, _, _ => .bad
@[simp] theorem kSetG_s {x : Val} {i : Nat} {k : IE} {t : D} : kSetG (some x) F i k t r = ofOut (evE F k r) (stixF i t) := (rfl)
def kSet (F : FT) (i : Nat) (k : IE) (t : D) (r : Rho) : SO := kSetG (gt r i) F i k t r
@[simp] theorem kSet_eq {i : Nat} {k : IE} {t : D} : kSet F i k t r = kSetG (gt r i) F i k t r := (rfl)
@[simp] theorem z_setix {i : Nat} {k e : IE} : evS F pin (.setix i k e) r = ofOut (treeO (evE F e r)) (kSet F i k) := by
  simp only [evS]
  congr 1
  funext t r
  unfold kSet kSetG
  cases gt r i <;> rfl
def kEx (_ : Hd) (r : Rho) : SO := .next r
@[simp] theorem kEx_eq {h : Hd} : kEx h r = .next r := (rfl)
@[simp] theorem z_ex {e : IE} : evS F pin (.ex e) r = ofOut (evE F e r) kEx := by simp only [evS]; rfl
@[simp] theorem z_ret {e : IE} : evS F pin (.ret e) r = ofOut (evE F e r) (retF pin) := by simp only [evS]
def kIf (F : FT) (pin : List Bool) (a b : IS) : Bool → Rho → SO
  | true, r => evS F pin a r
  | false, r => evS F pin b r
@[simp] theorem kIf_t {a b : IS} : kIf F pin a b true r = evS F pin a r := (rfl)
@[simp] theorem kIf_f {a b : IS} : kIf F pin a b false r = evS F pin b r := (rfl)
@[simp] theorem z_iff {c : IE} {a b : IS} : evS F pin (.iff c a b) r = ofOut (tstO (evE F c r)) (kIf F pin a b) := by
  simp only [evS]
  congr 1
  funext t r
  cases t <;> rfl
def kFor (F : FT) (pin : List Bool) (tg : List Nat) (one : Bool) (b : IS) (xs : List D) (r : Rho) : SO := forL tg one pin (evS F pin b) xs r
@[simp] theorem kFor_eq {tg : List Nat} {one : Bool} {b : IS} {xs : List D} : kFor F pin tg one b xs r = forL tg one pin (evS F pin b) xs r := (rfl)
@[simp] theorem z_for {tg : List Nat} {one : Bool} {it : IE} {b : IS} : evS F pin (.for_ tg one it b) r = ofOut (evI F it r) (kFor F pin tg one b) := by simp only [evS]; rfl
theorem z_whl {c : IE} {b : IS} : evS F pin (.whl c b) r = whlL (fun r => tstO (evE F c r)) (evS F pin b) whlMost r := by simp only [evS]
def kRais (c : Str) (fs : List Str) (ts : List D) (r : Rho) : SO := .exc ⟨c, fs.zip ts⟩ r
@[simp] theorem kRais_eq {c : Str} {fs : List Str} {ts : List D} : kRais c fs ts r = .exc ⟨c, fs.zip ts⟩ r := (rfl)
@[simp] theorem z_rais {c : Str} {fs : List Str} {es : IE} : evS F pin (.rais c fs es) r = ofOut (evT F es r) (kRais c fs) := by simp only [evS]; rfl
@[simp] theorem z_brk : evS F pin .brk r = .brk r := by simp only [evS]
@[simp] theorem z_cnt : evS F pin .cnt r = .cnt r := by simp only [evS]
@[simp] theorem z_no : evS F pin .no r = .bad := by simp only [evS]
-- slots
@[simp] theorem y_asg_v {i : Nat} {x : Val} : asgF pin i (.v x) r = if pin.getD i false || !decide (i < r.length) then .bad else .next (r.set i (some x)) := (rfl)
def asgK : Option (D × Rho) → Nat → SO
  | some p, i => .next (p.2.set i (some (.d p.1)))
  | none, _ => .bad
@[simp] theorem asgK_s {t : D} {i : Nat} : asgK (some (t, r)) i = .next (r.set i (some (.d t))) := (rfl)
@[simp] theorem y_asg_s {i j : Nat} : asgF pin i (.s j) r = if pin.getD i false || !decide (i < r.length) then .bad else asgK (tr r (.s j)) i := by
  unfold asgF asgK
  split
  · rfl
  · dsimp only
    cases tr r (.s j) <;> rfl
@[simp] theorem y_ret_v {x : Val} : retF pin (.v x) r = .ret x r := (rfl)
def retK : Option (D × Rho) → SO
  | some p => .ret (.d p.1) p.2
  | none => .bad
@[simp] theorem retK_s {t : D} : retK (some (t, r)) = .ret (.d t) r := (rfl)
def retG : Option Val → Nat → Rho → SO
  | some x, i, r => .ret x (r.set i none)
  | none, _, _ => .bad
@[simp] theorem retG_s {x : Val} {i : Nat} : retG (some x) i r = .ret x (r.set i none) := (rfl)
@[simp] theorem y_ret_s {i : Nat} : retF pin (.s i) r = if pin.getD i false then retK (tr r (.s i)) else retG (gt r i) i r := by
  unfold retF retK retG
  dsimp only
  split
  · cases tr r (.s i) <;> rfl
  · cases gt r i <;> rfl
def nxt : Option Rho → SO
  | some r => .next r
  | none => .bad
@[simp] theorem nxt_s : nxt (some r) = .next r := (rfl)
@[simp] theorem y_unp {is : List Nat} {xs : List D} : unpF pin is (.tuple xs) r = if is.any fun i => pin.getD i false then .bad else nxt (setAll r is xs) := by
  unfold unpF nxt
  split
  · rfl
  · cases q : setAll r is xs <;> simp [q]
@[simp] theorem y_set0 : setAll r [] [] = some r := (rfl)
@[simp] theorem y_set1 {i : Nat} {is : List Nat} {x : D} {xs : List D} : setAll r (i :: is) (x :: xs) = setAll (r.set i (some (.d x))) is xs := (rfl)
@[simp] theorem y_tgt1 {tg : List Nat} {x : D} : tgt tg true x r = setAll r tg [x] := (rfl)
@[simp] theorem y_tgt2 {tg : List Nat} {xs : List D} : tgt tg false (.tuple xs) r = setAll r tg xs := (rfl)
def stixL : Option Val → Nat → Rho → SO
  | some x, i, r => .next (r.set i (some x))
  | none, _, _ => .bad
@[simp] theorem stixL_s {x : Val} {i : Nat} : stixL (some x) i r = .next (r.set i (some x)) := (rfl)
def stixK : Option Val → Option Val → D → Nat → Rho → SO
  | some x, some y, t, i, r => stixL (setV x y t) i r
  | _, _, _, _, _ => .bad
@[simp] theorem stixK_s {x y : Val} {t : D} {i : Nat} : stixK (some x) (some y) t i r = stixL (setV x y t) i r := (rfl)
@[simp] theorem y_stix {i : Nat} {t : D} {h : Hd} : stixF i t h r = stixK (gt r i) (dr r h) t i r := by
  unfold stixF stixK
  cases gt r i with
  | none => cases dr r h <;> rfl
  | some x => cases dr r h with
    | none => rfl
    | some y => cases q : setV x y t <;> simp [q, stixL]
def drC : Option Val → Option (List Val) → Option (List Val)
  | some x, some xs => some (x :: xs)
  | _, _ => none
@[simp] theorem drC_s {x : Val} {xs : List Val} : drC (some x) (some xs) = some (x :: xs) := (rfl)
@[simp] theorem y_drs0 : drs r [] = some [] := (rfl)
@[simp] theorem y_drs1 {h : Hd} {hs : List Hd} : drs r (h :: hs) = drC (dr r h) (drs r hs) := by
  simp only [drs]
  cases dr r h <;> cases drs r hs <;> rfl
@[simp] theorem y_sl0 : slotsOf [] = [] := (rfl)
@[simp] theorem y_sl1 {v : Val} {hs : List Hd} : slotsOf (.v v :: hs) = slotsOf hs := (rfl)
@[simp] theorem y_sl2 {i : Nat} {hs : List Hd} : slotsOf (.s i :: hs) = i :: slotsOf hs := (rfl)
@[simp] theorem y_po0 {os : Rho} : putOuts r [] [] os = r := by simp [putOuts]
@[simp] theorem y_poV {v x : Val} {o : Option Val} {hs : List Hd} {xs : List Val} {os : Rho} : putOuts r (.v v :: hs) (x :: xs) (o :: os) = putOuts r hs xs os := (rfl)
@[simp] theorem y_poS {i : Nat} {x : Val} {o : Option Val} {hs : List Hd} {xs : List Val} {os : Rho} : putOuts r (.s i :: hs) (x :: xs) (o :: os) = putOuts (if isMut x then r.set i o else r) hs xs os := (rfl)
-- loops
def SO.lp (o : SO) (k : Rho → SO) : SO := match o with
  | .next r => k r
  | .cnt r => k r
  | .brk r => .next r
  | o => o
@[simp] theorem lp_next {k : Rho → SO} : (SO.next r).lp k = k r := (rfl)
@[simp] theorem lp_cnt {k : Rho → SO} : (SO.cnt r).lp k = k r := (rfl)
@[simp] theorem lp_brk {k : Rho → SO} : (SO.brk r).lp k = .next r := (rfl)
@[simp] theorem lp_ret {k : Rho → SO} {x : Val} : (SO.ret x r).lp k = .ret x r := (rfl)
@[simp] theorem lp_exc {k : Rho → SO} {x : Exn} : (SO.exc x r).lp k = .exc x r := (rfl)
def flK : Option Rho → List Nat → Bool → List Bool → (Rho → SO) → List D → SO
  | some r, tg, one, pin, b, xs => (b r).lp (forL tg one pin b xs)
  | none, _, _, _, _, _ => .bad
@[simp] theorem flK_s {tg : List Nat} {one : Bool} {b : Rho → SO} {xs : List D} : flK (some r) tg one pin b xs = (b r).lp (forL tg one pin b xs) := (rfl)
@[simp] theorem y_fl0 {tg : List Nat} {one : Bool} {b : Rho → SO} : forL tg one pin b [] r = .next r := (rfl)
@[simp] theorem fl_cons {tg : List Nat} {one : Bool} {b : Rho → SO} {x : D} {xs : List D} : forL tg one pin b (x :: xs) r = if tg.any (fun i => pin.getD i false) then .bad else flK (tgt tg one x r) tg one pin b xs := by
  simp only [forL]
  split
  · rfl
  · unfold flK
    cases tgt tg one x r with
    | none => rfl
    | some r1 =>
      dsimp only
      unfold SO.lp
      cases b r1 <;> rfl
end
end Q
namespace KK
open PySem L2 Q Q.IE Q.IS
theorem sem_s {ds : List FD} {n i : Nat} {fd : FD} {args : List Val} (h : ds[i]? = some fd) : sem ds (n + 1) i args = runF (sem ds n) fd args := by
  show (match ds[i]? with | some fd => runF (sem ds n) fd args | none => CR.bad) = _
  rw [h]
abbrev i_hole_of : Nat := 0
abbrev i_names_of : Nat := 1
abbrev i_from_least : Nat := 2
abbrev i_hole_put : Nat := 3
abbrev i_in_put : Nat := 4
abbrev i_put_by : Nat := 5
abbrev i_carried_by : Nat := 6
abbrev i_all_exchanges : Nat := 7
abbrev i_leavers_of : Nat := 8
abbrev i__law_tape : Nat := 9
abbrev i__law_draw : Nat := 10
abbrev i__law_rules : Nat := 11
abbrev i__law_kind : Nat := 12
abbrev i__law_rows : Nat := 13
abbrev i__law_beside : Nat := 14
abbrev i__law_within : Nat := 15
abbrev i__law_listed : Nat := 16
abbrev i__law_names : Nat := 17
abbrev i__law_carried : Nat := 18
abbrev i__law_told_carried : Nat := 19
abbrev i__law_some_names : Nat := 20
abbrev i__law_struct : Nat := 21
def b_hole_of : IS := .sq (.iff (.and (.cmp .gt (.f1 .len (.var 0)) (.k (.int 0))) (.cmp .ge (.ix (.var 0) (.neg (.k (.int 1)))) (.k (.int 100)))) (.ret (.bin .add (.ix (.var 0) (.neg (.k (.int 1)))) (.k (.int 1)))) .skip) (.ret (.k (.int 100)))
theorem e_hole_of : d_hole_of.get gl false = ⟨d_hole_of.ps.length, d_hole_of.N.length, b_hole_of⟩ := by kernel_rfl
theorem f_hole_of {n : Nat} {args : List Val} : sem fds (n + 1) i_hole_of args = runF (sem fds n) ⟨1, 1, b_hole_of⟩ args := sem_s (show some (d_hole_of.get gl false) = _ from by rw [e_hole_of]; rfl)
def b_names_of : IS := .sq (.iff (.cmp .eq (.ix (.var 0) (.k (.int 0))) (.k (.str "unit"))) (.ret (.tup .nil)) .skip) (.sq (.iff (.cmp .eq (.ix (.var 0) (.k (.int 0))) (.k (.str "one"))) (.ret (.tup (.cons (.ix (.var 0) (.k (.int 1))) .nil))) .skip) (.sq (.iff (.cmp .inn (.ix (.var 0) (.k (.int 0))) (.tup (.cons (.k (.str "set")) (.cons (.k (.str "row")) (.cons (.k (.str "round")) .nil))))) (.ret (.f1 .tuple (.f1 .sorted (.ix (.var 0) (.k (.int 1)))))) .skip) (.sq (.iff (.cmp .inn (.ix (.var 0) (.k (.int 0))) (.tup (.cons (.k (.str "this")) (.cons (.k (.str "point")) (.cons (.k (.str "rule")) .nil))))) (.ret (.call 1 (.cons (.ix (.var 0) (.k (.int 2))) .nil))) .skip) (.sq (.iff (.cmp .eq (.ix (.var 0) (.k (.int 0))) (.k (.str "hole"))) (.ret (.sl (.call 1 (.cons (.ix (.var 0) (.k (.int 1))) .nil)) (.k (.none)) (.bnd (.neg (.k (.int 1)))))) .skip) (.sq (.iff (.cmp .eq (.ix (.var 0) (.k (.int 0))) (.k (.str "both"))) (.ret (.f1 .tuple (.f1 .sorted (.bin .add (.call 1 (.cons (.ix (.var 0) (.k (.int 1))) .nil)) (.call 1 (.cons (.ix (.var 0) (.k (.int 2))) .nil)))))) .skip) (.sq (.asg 1 (.lst .nil)) (.sq (.for_ [2] true (.seq (.ix (.var 0) (.k (.int 2)))) (.ex (.ext 1 (.call 1 (.cons (.var 2) .nil))))) (.ret (.f1 .tuple (.f1 .sorted (.var 1)))))))))))
theorem e_names_of : d_names_of.get gl false = ⟨d_names_of.ps.length, d_names_of.N.length, b_names_of⟩ := by kernel_rfl
theorem f_names_of {n : Nat} {args : List Val} : sem fds (n + 1) i_names_of args = runF (sem fds n) ⟨1, 3, b_names_of⟩ args := sem_s (show some (d_names_of.get gl false) = _ from by rw [e_names_of]; rfl)
def b_from_least : IS := .sq (.asg 1 (.mth .index (.var 0) (.cons (.f1 .min (.var 0)) .nil))) (.ret (.bin .add (.sl (.var 0) (.bnd (.var 1)) (.k (.none))) (.sl (.var 0) (.k (.none)) (.bnd (.var 1)))))
theorem e_from_least : d_from_least.get gl false = ⟨d_from_least.ps.length, d_from_least.N.length, b_from_least⟩ := by kernel_rfl
theorem f_from_least {n : Nat} {args : List Val} : sem fds (n + 1) i_from_least args = runF (sem fds n) ⟨1, 2, b_from_least⟩ args := sem_s (show some (d_from_least.get gl false) = _ from by rw [e_from_least]; rfl)
def b_hole_put : IS := .sq (.asg 2 (.call 1 (.cons (.ix (.var 0) (.k (.int 1))) .nil))) (.sq (.asg 3 (.f1 .dict (.lc [4] [4] true (.seq (.sl (.var 2) (.k (.none)) (.bnd (.neg (.k (.int 1)))))) (.k (.bool true)) (.tup (.cons (.var 4) (.cons (.ix (.var 1) (.var 4)) .nil)))))) (.sq (.setix 3 (.ix (.var 2) (.neg (.k (.int 1)))) (.call 0 (.cons (.f1 .sorted (.cv .list (.vals (.var 3)))) .nil))) (.ret (.tup (.cons (.k (.str "hole")) (.cons (.call 5 (.cons (.ix (.var 0) (.k (.int 1))) (.cons (.var 3) .nil))) .nil))))))
theorem e_hole_put : d_hole_put.get gl false = ⟨d_hole_put.ps.length, d_hole_put.N.length, b_hole_put⟩ := by kernel_rfl
theorem f_hole_put {n : Nat} {args : List Val} : sem fds (n + 1) i_hole_put args = runF (sem fds n) ⟨2, 5, b_hole_put⟩ args := sem_s (show some (d_hole_put.get gl false) = _ from by rw [e_hole_put]; rfl)
def b_in_put : IS := .sq (.asg 2 (.lc [4] [4] true (.seq (.ix (.var 0) (.k (.int 2)))) (.k (.bool true)) (.f1 .min (.lc [3] [3] true (.seq (.call 1 (.cons (.var 4) .nil))) (.k (.bool true)) (.ix (.var 1) (.var 3)))))) (.sq (.asg 5 (.f1 .sorted (.var 2))) (.sq (.asg 6 (.f1 .dict (.lc [7] [7] true (.rng1 (.f1 .len (.var 2))) (.k (.bool true)) (.tup (.cons (.var 7) (.cons (.mth .index (.var 5) (.cons (.ix (.var 2) (.var 7)) .nil)) .nil)))))) (.sq (.asg 8 (.bin .mul (.lst (.cons (.k (.none)) .nil)) (.f1 .len (.var 2)))) (.sq (.for_ [7] true (.rng1 (.f1 .len (.var 2))) (.setix 8 (.ix (.var 6) (.var 7)) (.call 5 (.cons (.ix (.ix (.var 0) (.k (.int 2))) (.var 7)) (.cons (.var 1) .nil))))) (.ret (.tup (.cons (.k (.str "in")) (.cons (.call 5 (.cons (.ix (.var 0) (.k (.int 1))) (.cons (.var 6) .nil))) (.cons (.f1 .tuple (.var 8)) .nil)))))))))
theorem e_in_put : d_in_put.get gl false = ⟨d_in_put.ps.length, d_in_put.N.length, b_in_put⟩ := by kernel_rfl
theorem f_in_put {n : Nat} {args : List Val} : sem fds (n + 1) i_in_put args = runF (sem fds n) ⟨2, 9, b_in_put⟩ args := sem_s (show some (d_in_put.get gl false) = _ from by rw [e_in_put]; rfl)
def b_put_by : IS := .sq (.iff (.cmp .eq (.ix (.var 0) (.k (.int 0))) (.k (.str "unit"))) (.ret (.var 0)) .skip) (.sq (.iff (.cmp .eq (.ix (.var 0) (.k (.int 0))) (.k (.str "one"))) (.ret (.tup (.cons (.k (.str "one")) (.cons (.ix (.var 1) (.ix (.var 0) (.k (.int 1)))) .nil)))) .skip) (.sq (.iff (.cmp .eq (.ix (.var 0) (.k (.int 0))) (.k (.str "set"))) (.ret (.tup (.cons (.k (.str "set")) (.cons (.f1 .tuple (.f1 .sorted (.lc [2] [2] true (.seq (.ix (.var 0) (.k (.int 1)))) (.k (.bool true)) (.ix (.var 1) (.var 2))))) .nil)))) .skip) (.sq (.iff (.cmp .eq (.ix (.var 0) (.k (.int 0))) (.k (.str "row"))) (.ret (.tup (.cons (.k (.str "row")) (.cons (.f1 .tuple (.lc [2] [2] true (.seq (.ix (.var 0) (.k (.int 1)))) (.k (.bool true)) (.ix (.var 1) (.var 2)))) .nil)))) .skip) (.sq (.iff (.cmp .eq (.ix (.var 0) (.k (.int 0))) (.k (.str "round"))) (.ret (.tup (.cons (.k (.str "round")) (.cons (.f1 .tuple (.call 2 (.cons (.lc [2] [2] true (.seq (.ix (.var 0) (.k (.int 1)))) (.k (.bool true)) (.ix (.var 1) (.var 2))) .nil))) .nil)))) .skip) (.sq (.iff (.cmp .eq (.ix (.var 0) (.k (.int 0))) (.k (.str "both"))) (.ret (.tup (.cons (.k (.str "both")) (.cons (.call 5 (.cons (.ix (.var 0) (.k (.int 1))) (.cons (.var 1) .nil))) (.cons (.call 5 (.cons (.ix (.var 0) (.k (.int 2))) (.cons (.var 1) .nil))) .nil))))) .skip) (.sq (.iff (.cmp .eq (.ix (.var 0) (.k (.int 0))) (.k (.str "hole"))) (.ret (.call 3 (.cons (.var 0) (.cons (.var 1) .nil)))) .skip) (.sq (.iff (.cmp .eq (.ix (.var 0) (.k (.int 0))) (.k (.str "in"))) (.ret (.call 4 (.cons (.var 0) (.cons (.var 1) .nil)))) .skip) (.sq (.iff (.cmp .eq (.ix (.var 0) (.k (.int 0))) (.k (.str "point"))) (.ret (.tup (.cons (.k (.str "point")) (.cons (.ix (.var 1) (.ix (.var 0) (.k (.int 1)))) (.cons (.call 5 (.cons (.ix (.var 0) (.k (.int 2))) (.cons (.var 1) .nil))) .nil))))) .skip) (.ret (.tup (.cons (.ix (.var 0) (.k (.int 0))) (.cons (.ix (.var 0) (.k (.int 1))) (.cons (.call 5 (.cons (.ix (.var 0) (.k (.int 2))) (.cons (.var 1) .nil))) .nil)))))))))))))
theorem e_put_by : d_put_by.get gl false = ⟨d_put_by.ps.length, d_put_by.N.length, b_put_by⟩ := by kernel_rfl
theorem f_put_by {n : Nat} {args : List Val} : sem fds (n + 1) i_put_by args = runF (sem fds n) ⟨2, 3, b_put_by⟩ args := sem_s (show some (d_put_by.get gl false) = _ from by rw [e_put_by]; rfl)
def b_carried_by : IS := .sq (.iff (.cmp .ne (.call 1 (.cons (.var 0) .nil)) (.f1 .tuple (.lc [2] [2] true (.seq (.var 1)) (.k (.bool true)) (.ix (.var 2) (.k (.int 0)))))) .no .skip) (.ret (.call 5 (.cons (.var 0) (.cons (.f1 .dict (.var 1)) .nil))))
theorem e_carried_by : d_carried_by.get gl false = ⟨d_carried_by.ps.length, d_carried_by.N.length, b_carried_by⟩ := by kernel_rfl
theorem f_carried_by {n : Nat} {args : List Val} : sem fds (n + 1) i_carried_by args = runF (sem fds n) ⟨2, 3, b_carried_by⟩ args := sem_s (show some (d_carried_by.get gl false) = _ from by rw [e_carried_by]; rfl)
def b_all_exchanges : IS := .sq (.asg 1 (.lst (.cons (.tup .nil) .nil))) (.sq (.for_ [2] true (.rng1 (.f1 .len (.var 0))) (.sq (.asg 3 (.lst .nil)) (.sq (.for_ [4] true (.seq (.var 1)) (.ex (.ext 3 (.lc [5] [5] true (.seq (.var 0)) (.cmp .nin (.var 5) (.var 4)) (.bin .add (.var 4) (.tup (.cons (.var 5) .nil))))))) (.asg 1 (.var 3))))) (.ret (.lc [4] [4] true (.seq (.var 1)) (.k (.bool true)) (.cv .tuple (.zip (.var 0) (.var 4))))))
theorem e_all_exchanges : d_all_exchanges.get gl false = ⟨d_all_exchanges.ps.length, d_all_exchanges.N.length, b_all_exchanges⟩ := by kernel_rfl
theorem f_all_exchanges {n : Nat} {args : List Val} : sem fds (n + 1) i_all_exchanges args = runF (sem fds n) ⟨1, 6, b_all_exchanges⟩ args := sem_s (show some (d_all_exchanges.get gl false) = _ from by rw [e_all_exchanges]; rfl)
def b_leavers_of : IS := .ret (.lc [1] [1] true (.seq (.call 7 (.cons (.call 1 (.cons (.var 0) .nil)) .nil))) (.cmp .eq (.call 6 (.cons (.var 0) (.cons (.var 1) .nil))) (.var 0)) (.var 1))
theorem e_leavers_of : d_leavers_of.get gl false = ⟨d_leavers_of.ps.length, d_leavers_of.N.length, b_leavers_of⟩ := by kernel_rfl
theorem f_leavers_of {n : Nat} {args : List Val} : sem fds (n + 1) i_leavers_of args = runF (sem fds n) ⟨1, 2, b_leavers_of⟩ args := sem_s (show some (d_leavers_of.get gl false) = _ from by rw [e_leavers_of]; rfl)
def b__law_tape : IS := .ret (.lst (.cons (.f1 .list (.sl (.var 0) (.k (.none)) (.bnd (.k (.int 63))))) (.cons (.k (.int 0)) (.cons (.k (.int 0)) .nil))))
theorem e__law_tape : d__law_tape.get gl false = ⟨d__law_tape.ps.length, d__law_tape.N.length, b__law_tape⟩ := by kernel_rfl
theorem f__law_tape {n : Nat} {args : List Val} : sem fds (n + 1) i__law_tape args = runF (sem fds n) ⟨1, 1, b__law_tape⟩ args := sem_s (show some (d__law_tape.get gl false) = _ from by rw [e__law_tape]; rfl)
def b__law_draw : IS := .sq (.iff (.cmp .gt (.ix (.var 0) (.k (.int 2))) (.k (.int 0))) (.sq (.asg 2 (.bin .mod (.ix (.var 0) (.k (.int 2))) (.var 1))) (.sq (.setix 0 (.k (.int 2)) (.bin .fdiv (.ix (.var 0) (.k (.int 2))) (.var 1))) (.ret (.var 2)))) .skip) (.sq (.asg 3 (.ix (.var 0) (.k (.int 1)))) (.sq (.setix 0 (.k (.int 1)) (.bin .add (.var 3) (.k (.int 1)))) (.sq (.asg 4 (.ife (.cmp .ne (.ix (.var 0) (.k (.int 0))) (.lst .nil)) (.ix (.ix (.var 0) (.k (.int 0))) (.bin .mod (.var 3) (.f1 .len (.ix (.var 0) (.k (.int 0)))))) (.k (.int 7)))) (.sq (.iff (.and (.cmp .ge (.var 4) (.bin .pow (.k (.int 10)) (.k (.int 18)))) (.cmp .lt (.var 3) (.f1 .len (.ix (.var 0) (.k (.int 0)))))) (.sq (.setix 0 (.k (.int 2)) (.bin .fdiv (.var 4) (.var 1))) (.ret (.bin .mod (.var 4) (.var 1)))) .skip) (.sq (.asg 5 (.bin .mod (.bin .pow (.bin .add (.bin .add (.bin .mod (.var 4) (.k (.int 2147483629))) (.bin .mul (.k (.int 7919)) (.var 3))) (.k (.int 1))) (.k (.int 5))) (.k (.int 2147483647)))) (.ret (.bin .mod (.bin .fdiv (.bin .mod (.bin .mul (.var 5) (.bin .add (.bin .mul (.k (.int 2)) (.var 3)) (.k (.int 3)))) (.k (.int 2147483587))) (.k (.int 64))) (.var 1))))))))
theorem e__law_draw : d__law_draw.get gl false = ⟨d__law_draw.ps.length, d__law_draw.N.length, b__law_draw⟩ := by kernel_rfl
theorem f__law_draw {n : Nat} {args : List Val} : sem fds (n + 1) i__law_draw args = runF (sem fds n) ⟨2, 6, b__law_draw⟩ args := sem_s (show some (d__law_draw.get gl false) = _ from by rw [e__law_draw]; rfl)
def b__law_rules : IS := .sq (.unp [1, 2, 3] (.tup (.cons (.tup (.cons (.k (.str "one")) .nil)) (.cons (.tup (.cons (.k (.str "rule")) (.cons (.k (.int 0)) .nil))) (.cons (.tup (.cons (.k (.str "rule")) (.cons (.k (.int 1)) .nil))) .nil))))) (.sq (.asg 4 (.tup (.cons (.k (.str "in")) (.cons (.ix (.lst (.cons (.tup (.cons (.k (.str "set")) .nil)) (.cons (.tup (.cons (.k (.str "row")) .nil)) .nil))) (.call 10 (.cons (.var 0) (.cons (.k (.int 2)) .nil)))) (.cons (.var 2) .nil))))) (.sq (.asg 5 (.tup (.cons (.k (.str "this")) (.cons (.tup (.cons (.k (.str "unit")) .nil)) (.cons (.tup (.cons (.k (.str "both")) (.cons (.var 1) (.cons (.tup (.cons (.k (.str "both")) (.cons (.var 2) (.cons (.var 2) .nil)))) .nil)))) .nil))))) (.sq (.asg 6 (.tup (.cons (.tup (.cons (.k (.str "this")) (.cons (.tup (.cons (.k (.str "unit")) .nil)) (.cons (.tup (.cons (.k (.str "both")) (.cons (.var 1) (.cons (.var 3) .nil)))) .nil)))) (.cons (.tup (.cons (.k (.str "both")) (.cons (.var 1) (.cons (.var 2) .nil)))) .nil)))) (.ret (.ix (.lst (.cons (.tup .nil) (.cons (.tup .nil) (.cons (.tup (.cons (.tup (.cons (.k (.str "both")) (.cons (.var 1) (.cons (.var 4) .nil)))) .nil)) (.cons (.tup (.cons (.var 5) .nil)) (.cons (.var 6) .nil)))))) (.call 10 (.cons (.var 0) (.cons (.k (.int 5)) .nil))))))))
theorem e__law_rules : d__law_rules.get gl false = ⟨d__law_rules.ps.length, d__law_rules.N.length, b__law_rules⟩ := by kernel_rfl
theorem f__law_rules {n : Nat} {args : List Val} : sem fds (n + 1) i__law_rules args = runF (sem fds n) ⟨1, 7, b__law_rules⟩ args := sem_s (show some (d__law_rules.get gl false) = _ from by rw [e__law_rules]; rfl)
def b__law_kind : IS := .sq (.asg 4 (.call 10 (.cons (.var 0) (.cons (.k (.int 13)) .nil)))) (.sq (.asg 5 (.lst (.cons (.tup (.cons (.k (.str "set")) .nil)) (.cons (.tup (.cons (.k (.str "one")) .nil)) (.cons (.tup (.cons (.k (.str "row")) .nil)) (.cons (.tup (.cons (.k (.str "round")) .nil)) (.cons (.tup (.cons (.k (.str "unit")) .nil)) (.cons (.tup (.cons (.k (.str "void")) .nil)) (.cons (.tup (.cons (.k (.str "set")) .nil)) (.cons (.tup (.cons (.k (.str "one")) .nil)) .nil)))))))))) (.sq (.asg 5 (.bin .add (.var 5) (.bin .mul (.lc [6] [6] true (.rng1 (.var 2)) (.k (.bool true)) (.tup (.cons (.k (.str "rule")) (.cons (.var 6) .nil)))) (.k (.int 2))))) (.sq (.iff (.or (.cmp .eq (.var 1) (.k (.int 0))) (.cmp .lt (.var 4) (.k (.int 4)))) (.ret (.ix (.var 5) (.call 10 (.cons (.var 0) (.cons (.f1 .len (.var 5)) .nil))))) .skip) (.sq (.iff (.and (.cmp .eq (.var 4) (.k (.int 11))) (.cmp .gt (.var 3) (.k (.int 0)))) (.ret (.tup (.cons (.k (.str "hole")) (.cons (.call 12 (.cons (.var 0) (.cons (.bin .sub (.var 1) (.k (.int 1))) (.cons (.k (.int 0)) (.cons (.bin .sub (.var 3) (.k (.int 1))) .nil))))) .nil)))) .skip) (.sq (.asg 7 (.call 12 (.cons (.var 0) (.cons (.bin .sub (.var 1) (.k (.int 1))) (.cons (.var 2) (.cons (.var 3) .nil)))))) (.sq (.iff (.cmp .eq (.var 4) (.k (.int 12))) (.sq (.asg 8 (.call 10 (.cons (.var 0) (.cons (.k (.int 3)) .nil)))) (.ret (.tup (.cons (.k (.str "sized")) (.cons (.var 7) (.cons (.var 8) (.cons (.bin .add (.var 8) (.call 10 (.cons (.var 0) (.cons (.k (.int 3)) .nil)))) .nil))))))) .skip) (.sq (.iff (.cmp .gt (.var 4) (.k (.int 9))) (.ret (.tup (.cons (.k (.str "point")) (.cons (.var 7) .nil)))) .skip) (.sq (.asg 9 (.call 12 (.cons (.var 0) (.cons (.bin .sub (.var 1) (.k (.int 1))) (.cons (.var 2) (.cons (.var 3) .nil)))))) (.sq (.iff (.cmp .gt (.var 4) (.k (.int 7))) (.ret (.tup (.cons (.k (.str "in")) (.cons (.var 7) (.cons (.tup (.cons (.k (.str "sized")) (.cons (.var 9) (.cons (.k (.int 1)) (.cons (.k (.int 3)) .nil))))) .nil))))) .skip) (.ret (.tup (.cons (.ix (.lst (.cons (.k (.str "this")) (.cons (.k (.str "both")) .nil))) (.bin .fdiv (.var 4) (.k (.int 6)))) (.cons (.var 7) (.cons (.var 9) .nil))))))))))))))
theorem e__law_kind : d__law_kind.get gl false = ⟨d__law_kind.ps.length, d__law_kind.N.length, b__law_kind⟩ := by kernel_rfl
theorem f__law_kind {n : Nat} {args : List Val} : sem fds (n + 1) i__law_kind args = runF (sem fds n) ⟨4, 10, b__law_kind⟩ args := sem_s (show some (d__law_kind.get gl false) = _ from by rw [e__law_kind]; rfl)
def b__law_rows : IS := .sq (.asg 1 (.lst (.cons (.tup .nil) .nil))) (.sq (.for_ [2] true (.seq (.var 0)) (.sq (.asg 3 (.lst .nil)) (.sq (.for_ [4] true (.seq (.var 1)) (.ex (.ext 3 (.lc [5] [5] true (.rng1 (.bin .add (.f1 .len (.var 4)) (.k (.int 1)))) (.k (.bool true)) (.bin .add (.bin .add (.sl (.var 4) (.k (.none)) (.bnd (.var 5))) (.tup (.cons (.var 2) .nil))) (.sl (.var 4) (.bnd (.var 5)) (.k (.none)))))))) (.asg 1 (.var 3))))) (.ret (.var 1)))
theorem e__law_rows : d__law_rows.get gl false = ⟨d__law_rows.ps.length, d__law_rows.N.length, b__law_rows⟩ := by kernel_rfl
theorem f__law_rows {n : Nat} {args : List Val} : sem fds (n + 1) i__law_rows args = runF (sem fds n) ⟨1, 6, b__law_rows⟩ args := sem_s (show some (d__law_rows.get gl false) = _ from by rw [e__law_rows]; rfl)
def b__law_beside : IS := .sq (.asg 3 (.lst (.cons (.tup (.cons (.tup .nil) (.cons (.tup .nil) .nil))) .nil))) (.sq (.for_ [4] true (.seq (.var 2)) (.asg 3 (.bin .add (.lc [5, 6] [5, 6] false (.seq (.var 3)) (.k (.bool true)) (.tup (.cons (.bin .add (.var 5) (.tup (.cons (.var 4) .nil))) (.cons (.var 6) .nil)))) (.lc [5, 6] [5, 6] false (.seq (.var 3)) (.k (.bool true)) (.tup (.cons (.var 5) (.cons (.bin .add (.var 6) (.tup (.cons (.var 4) .nil))) .nil))))))) (.sq (.asg 7 (.lst .nil)) (.sq (.for_ [5, 6] false (.seq (.var 3)) (.sq (.asg 8 (.call 16 (.cons (.var 0) (.cons (.ix (.var 1) (.k (.int 1))) (.cons (.var 5) .nil))))) (.sq (.asg 9 (.ife (.cmp .ne (.var 8) (.lst .nil)) (.call 16 (.cons (.var 0) (.cons (.ix (.var 1) (.k (.int 2))) (.cons (.var 6) .nil)))) (.lst .nil))) (.for_ [10] true (.seq (.var 8)) (.ex (.ext 7 (.lc [11] [11] true (.seq (.var 9)) (.k (.bool true)) (.tup (.cons (.k (.str "both")) (.cons (.var 10) (.cons (.var 11) .nil))))))))))) (.ret (.var 7)))))
theorem e__law_beside : d__law_beside.get gl false = ⟨d__law_beside.ps.length, d__law_beside.N.length, b__law_beside⟩ := by kernel_rfl
theorem f__law_beside {n : Nat} {args : List Val} : sem fds (n + 1) i__law_beside args = runF (sem fds n) ⟨3, 12, b__law_beside⟩ args := sem_s (show some (d__law_beside.get gl false) = _ from by rw [e__law_beside]; rfl)
def b__law_within : IS := .sq (.asg 3 (.lst (.cons (.tup .nil) .nil))) (.sq (.for_ [4] true (.seq (.var 2)) (.sq (.asg 5 (.lc [6] [6] true (.seq (.var 3)) (.k (.bool true)) (.bin .add (.var 6) (.tup (.cons (.tup (.cons (.var 4) .nil)) .nil))))) (.sq (.for_ [6] true (.seq (.var 3)) (.ex (.ext 5 (.lc [7] [7] true (.rng1 (.f1 .len (.var 6))) (.k (.bool true)) (.bin .add (.bin .add (.sl (.var 6) (.k (.none)) (.bnd (.var 7))) (.tup (.cons (.bin .add (.ix (.var 6) (.var 7)) (.tup (.cons (.var 4) .nil))) .nil))) (.sl (.var 6) (.bnd (.bin .add (.var 7) (.k (.int 1)))) (.k (.none)))))))) (.asg 3 (.var 5))))) (.sq (.asg 8 (.lst .nil)) (.sq (.for_ [6] true (.seq (.var 3)) (.sq (.asg 9 (.lst (.cons (.tup .nil) .nil))) (.sq (.for_ [10] true (.seq (.var 6)) (.sq (.asg 11 (.lst .nil)) (.sq (.for_ [12] true (.seq (.call 16 (.cons (.var 0) (.cons (.ix (.var 1) (.k (.int 2))) (.cons (.var 10) .nil))))) (.ex (.ext 11 (.lc [13] [13] true (.seq (.var 9)) (.k (.bool true)) (.bin .add (.var 13) (.tup (.cons (.var 12) .nil))))))) (.asg 9 (.var 11))))) (.for_ [14] true (.seq (.ife (.cmp .ne (.var 9) (.lst .nil)) (.call 16 (.cons (.var 0) (.cons (.ix (.var 1) (.k (.int 1))) (.cons (.cv .tuple (.rng1 (.f1 .len (.var 6)))) .nil)))) (.lst .nil))) (.ex (.ext 8 (.lc [13] [13] true (.seq (.var 9)) (.k (.bool true)) (.tup (.cons (.k (.str "in")) (.cons (.var 14) (.cons (.var 13) .nil))))))))))) (.ret (.var 8)))))
theorem e__law_within : d__law_within.get gl false = ⟨d__law_within.ps.length, d__law_within.N.length, b__law_within⟩ := by kernel_rfl
theorem f__law_within {n : Nat} {args : List Val} : sem fds (n + 1) i__law_within args = runF (sem fds n) ⟨3, 15, b__law_within⟩ args := sem_s (show some (d__law_within.get gl false) = _ from by rw [e__law_within]; rfl)
def b__law_listed : IS := .sq (.asg 3 (.ix (.var 1) (.k (.int 0)))) (.sq (.iff (.cmp .inn (.var 3) (.tup (.cons (.k (.str "void")) (.cons (.k (.str "unit")) (.cons (.k (.str "one")) .nil))))) (.ret (.ife (.and (.cmp .eq (.f1 .len (.var 2)) (.mth .index (.lst (.cons (.k (.str "unit")) (.cons (.k (.str "one")) (.cons (.k (.str "void")) .nil)))) (.cons (.var 3) .nil))) (.cmp .ne (.var 3) (.k (.str "void")))) (.lst (.cons (.bin .add (.tup (.cons (.var 3) .nil)) (.var 2)) .nil)) (.lst .nil))) .skip) (.sq (.iff (.cmp .eq (.var 3) (.k (.str "set"))) (.ret (.lst (.cons (.tup (.cons (.k (.str "set")) (.cons (.var 2) .nil))) .nil))) .skip) (.sq (.iff (.cmp .inn (.var 3) (.tup (.cons (.k (.str "row")) (.cons (.k (.str "round")) .nil)))) (.sq (.asg 4 (.sl (.var 2) (.k (.none)) (.bnd (.f1 .int (.cmp .eq (.var 3) (.k (.str "round"))))))) (.ret (.ife (.or (.cmp .ne (.var 4) (.tup .nil)) (.cmp .eq (.var 3) (.k (.str "row")))) (.lc [5] [5] true (.seq (.call 13 (.cons (.sl (.var 2) (.bnd (.f1 .len (.var 4))) (.k (.none))) .nil))) (.k (.bool true)) (.tup (.cons (.var 3) (.cons (.bin .add (.var 4) (.var 5)) .nil)))) (.lst .nil)))) .skip) (.sq (.iff (.cmp .eq (.var 3) (.k (.str "both"))) (.ret (.call 14 (.cons (.var 0) (.cons (.var 1) (.cons (.var 2) .nil))))) .skip) (.sq (.iff (.cmp .eq (.var 3) (.k (.str "in"))) (.ret (.call 15 (.cons (.var 0) (.cons (.var 1) (.cons (.var 2) .nil))))) .skip) (.sq (.iff (.cmp .eq (.var 3) (.k (.str "hole"))) (.sq (.asg 6 (.f1 .max (.bin .add (.lst (.cons (.k (.int 100)) .nil)) (.lc [7] [7] true (.seq (.sl (.var 2) (.bnd (.neg (.k (.int 1)))) (.k (.none)))) (.k (.bool true)) (.bin .add (.var 7) (.k (.int 1))))))) (.ret (.lc [8] [8] true (.seq (.call 16 (.cons (.var 0) (.cons (.ix (.var 1) (.k (.int 1))) (.cons (.bin .add (.var 2) (.tup (.cons (.var 6) .nil))) .nil))))) (.k (.bool true)) (.tup (.cons (.k (.str "hole")) (.cons (.var 8) .nil)))))) .skip) (.sq (.iff (.cmp .eq (.var 3) (.k (.str "rule"))) (.ret (.lc [8] [8] true (.seq (.call 16 (.cons (.var 0) (.cons (.ix (.var 0) (.ix (.var 1) (.k (.int 1)))) (.cons (.var 2) .nil))))) (.k (.bool true)) (.tup (.cons (.k (.str "rule")) (.cons (.ix (.var 1) (.k (.int 1))) (.cons (.var 8) .nil)))))) .skip) (.sq (.asg 9 (.call 16 (.cons (.var 0) (.cons (.ix (.var 1) (.k (.int 1))) (.cons (.var 2) .nil))))) (.sq (.iff (.cmp .eq (.var 3) (.k (.str "sized"))) (.ret (.ife (.chain .le .le (.ix (.var 1) (.k (.int 2))) (.f1 .len (.var 2)) (.ix (.var 1) (.k (.int 3)))) (.var 9) (.lst .nil))) .skip) (.sq (.iff (.cmp .eq (.var 3) (.k (.str "this"))) (.ret (.bin .add (.lc [8] [8] true (.seq (.var 9)) (.k (.bool true)) (.tup (.cons (.k (.str "this")) (.cons (.k (.int 0)) (.cons (.var 8) .nil))))) (.lc [10] [10] true (.seq (.call 16 (.cons (.var 0) (.cons (.ix (.var 1) (.k (.int 2))) (.cons (.var 2) .nil))))) (.k (.bool true)) (.tup (.cons (.k (.str "this")) (.cons (.k (.int 1)) (.cons (.var 10) .nil))))))) .skip) (.sq (.asg 11 (.lst .nil)) (.sq (.for_ [7] true (.seq (.var 2)) (.ex (.ext 11 (.lc [8] [8] true (.seq (.var 9)) (.k (.bool true)) (.tup (.cons (.k (.str "point")) (.cons (.var 7) (.cons (.var 8) .nil)))))))) (.ret (.var 11))))))))))))))
theorem e__law_listed : d__law_listed.get gl false = ⟨d__law_listed.ps.length, d__law_listed.N.length, b__law_listed⟩ := by kernel_rfl
theorem f__law_listed {n : Nat} {args : List Val} : sem fds (n + 1) i__law_listed args = runF (sem fds n) ⟨3, 12, b__law_listed⟩ args := sem_s (show some (d__law_listed.get gl false) = _ from by rw [e__law_listed]; rfl)
def b__law_names : IS := .sq (.iff (.cmp .inn (.ix (.var 0) (.k (.int 0))) (.tup (.cons (.k (.str "set")) (.cons (.k (.str "row")) (.cons (.k (.str "round")) .nil))))) (.ret (.f1 .tuple (.f1 .sorted (.ix (.var 0) (.k (.int 1)))))) .skip) (.sq (.iff (.cmp .inn (.ix (.var 0) (.k (.int 0))) (.tup (.cons (.k (.str "unit")) (.cons (.k (.str "one")) .nil)))) (.ret (.sl (.var 0) (.bnd (.k (.int 1))) (.k (.none)))) .skip) (.sq (.iff (.cmp .eq (.ix (.var 0) (.k (.int 0))) (.k (.str "hole"))) (.ret (.sl (.call 17 (.cons (.ix (.var 0) (.k (.int 1))) .nil)) (.k (.none)) (.bnd (.neg (.k (.int 1)))))) .skip) (.sq (.iff (.cmp .inn (.ix (.var 0) (.k (.int 0))) (.tup (.cons (.k (.str "this")) (.cons (.k (.str "point")) (.cons (.k (.str "rule")) .nil))))) (.ret (.call 17 (.cons (.ix (.var 0) (.k (.int 2))) .nil))) .skip) (.sq (.asg 1 (.lst .nil)) (.sq (.for_ [2] true (.seq (.ife (.cmp .eq (.ix (.var 0) (.k (.int 0))) (.k (.str "both"))) (.sl (.var 0) (.bnd (.k (.int 1))) (.k (.none))) (.ix (.var 0) (.k (.int 2))))) (.ex (.ext 1 (.call 17 (.cons (.var 2) .nil))))) (.ret (.f1 .tuple (.f1 .sorted (.var 1)))))))))
theorem e__law_names : d__law_names.get gl false = ⟨d__law_names.ps.length, d__law_names.N.length, b__law_names⟩ := by kernel_rfl
theorem f__law_names {n : Nat} {args : List Val} : sem fds (n + 1) i__law_names args = runF (sem fds n) ⟨1, 3, b__law_names⟩ args := sem_s (show some (d__law_names.get gl false) = _ from by rw [e__law_names]; rfl)
def b__law_carried : IS := .sq (.asg 2 (.ix (.var 0) (.k (.int 0)))) (.sq (.iff (.cmp .eq (.var 2) (.k (.str "unit"))) (.ret (.var 0)) .skip) (.sq (.iff (.cmp .inn (.var 2) (.tup (.cons (.k (.str "set")) (.cons (.k (.str "row")) (.cons (.k (.str "round")) .nil))))) (.sq (.asg 3 (.f1 .tuple (.lc [4] [4] true (.seq (.ix (.var 0) (.k (.int 1)))) (.k (.bool true)) (.ix (.var 1) (.var 4))))) (.sq (.iff (.cmp .eq (.var 2) (.k (.str "round"))) (.sq (.asg 5 (.mth .index (.var 3) (.cons (.f1 .min (.var 3)) .nil))) (.asg 3 (.bin .add (.sl (.var 3) (.bnd (.var 5)) (.k (.none))) (.sl (.var 3) (.k (.none)) (.bnd (.var 5)))))) .skip) (.ret (.tup (.cons (.var 2) (.cons (.ife (.cmp .eq (.var 2) (.k (.str "set"))) (.f1 .tuple (.f1 .sorted (.var 3))) (.var 3)) .nil)))))) .skip) (.sq (.iff (.cmp .eq (.var 2) (.k (.str "both"))) (.ret (.tup (.cons (.k (.str "both")) (.cons (.call 18 (.cons (.ix (.var 0) (.k (.int 1))) (.cons (.var 1) .nil))) (.cons (.call 18 (.cons (.ix (.var 0) (.k (.int 2))) (.cons (.var 1) .nil))) .nil))))) .skip) (.sq (.iff (.cmp .eq (.var 2) (.k (.str "hole"))) (.sq (.asg 6 (.call 17 (.cons (.ix (.var 0) (.k (.int 1))) .nil))) (.sq (.asg 7 (.f1 .dict (.lc [4] [4] true (.seq (.sl (.var 6) (.k (.none)) (.bnd (.neg (.k (.int 1)))))) (.k (.bool true)) (.tup (.cons (.var 4) (.cons (.ix (.var 1) (.var 4)) .nil)))))) (.sq (.setix 7 (.ix (.var 6) (.neg (.k (.int 1)))) (.f1 .max (.bin .add (.lst (.cons (.k (.int 100)) .nil)) (.lc [4] [4] true (.seq (.cv .list (.vals (.var 7)))) (.k (.bool true)) (.bin .add (.var 4) (.k (.int 1))))))) (.ret (.tup (.cons (.k (.str "hole")) (.cons (.call 18 (.cons (.ix (.var 0) (.k (.int 1))) (.cons (.var 7) .nil))) .nil))))))) .skip) (.sq (.iff (.cmp .eq (.var 2) (.k (.str "in"))) (.sq (.asg 8 (.lc [9] [9] true (.seq (.ix (.var 0) (.k (.int 2)))) (.k (.bool true)) (.f1 .min (.lc [4] [4] true (.seq (.call 17 (.cons (.var 9) .nil))) (.k (.bool true)) (.ix (.var 1) (.var 4)))))) (.sq (.asg 10 (.f1 .sorted (.var 8))) (.sq (.asg 11 (.f1 .dict (.lc [12, 13] [12, 13] false (.enum (.var 8)) (.k (.bool true)) (.tup (.cons (.var 12) (.cons (.mth .index (.var 10) (.cons (.var 13) .nil)) .nil)))))) (.sq (.asg 14 (.lc [13] [13] true (.seq (.var 10)) (.k (.bool true)) (.call 18 (.cons (.ix (.ix (.var 0) (.k (.int 2))) (.mth .index (.var 8) (.cons (.var 13) .nil))) (.cons (.var 1) .nil))))) (.ret (.tup (.cons (.k (.str "in")) (.cons (.call 18 (.cons (.ix (.var 0) (.k (.int 1))) (.cons (.var 11) .nil))) (.cons (.f1 .tuple (.var 14)) .nil))))))))) .skip) (.ret (.ife (.cmp .eq (.var 2) (.k (.str "one"))) (.tup (.cons (.var 2) (.cons (.ix (.var 1) (.ix (.var 0) (.k (.int 1)))) .nil))) (.call 19 (.cons (.var 0) (.cons (.var 1) .nil))))))))))
theorem e__law_carried : d__law_carried.get gl false = ⟨d__law_carried.ps.length, d__law_carried.N.length, b__law_carried⟩ := by kernel_rfl
theorem f__law_carried {n : Nat} {args : List Val} : sem fds (n + 1) i__law_carried args = runF (sem fds n) ⟨2, 15, b__law_carried⟩ args := sem_s (show some (d__law_carried.get gl false) = _ from by rw [e__law_carried]; rfl)
def b__law_told_carried : IS := .sq (.asg 2 (.ife (.cmp .eq (.ix (.var 0) (.k (.int 0))) (.k (.str "point"))) (.ix (.var 1) (.ix (.var 0) (.k (.int 1)))) (.ix (.var 0) (.k (.int 1))))) (.ret (.tup (.cons (.ix (.var 0) (.k (.int 0))) (.cons (.var 2) (.cons (.call 18 (.cons (.ix (.var 0) (.k (.int 2))) (.cons (.var 1) .nil))) .nil)))))
theorem e__law_told_carried : d__law_told_carried.get gl false = ⟨d__law_told_carried.ps.length, d__law_told_carried.N.length, b__law_told_carried⟩ := by kernel_rfl
theorem f__law_told_carried {n : Nat} {args : List Val} : sem fds (n + 1) i__law_told_carried args = runF (sem fds n) ⟨2, 3, b__law_told_carried⟩ args := sem_s (show some (d__law_told_carried.get gl false) = _ from by rw [e__law_told_carried]; rfl)
def b__law_some_names : IS := .sq (.asg 2 (.lst .nil)) (.sq (.for_ [3] true (.rng1 (.var 1)) (.sq (.unp [4, 5] (.ife (.cmp .eq (.var 3) (.k (.int 0))) (.tup (.cons (.k (.int 0)) (.cons (.bin .sub (.k (.int 128)) (.bin .mul (.k (.int 28)) (.var 1))) .nil))) (.tup (.cons (.bin .add (.ix (.var 2) (.neg (.k (.int 1)))) (.k (.int 1))) (.cons (.k (.int 28)) .nil))))) (.ex (.mut .append 2 (.cons (.bin .add (.var 4) (.call 10 (.cons (.var 0) (.cons (.var 5) .nil)))) .nil))))) (.ret (.f1 .tuple (.var 2))))
theorem e__law_some_names : d__law_some_names.get gl false = ⟨d__law_some_names.ps.length, d__law_some_names.N.length, b__law_some_names⟩ := by kernel_rfl
theorem f__law_some_names {n : Nat} {args : List Val} : sem fds (n + 1) i__law_some_names args = runF (sem fds n) ⟨2, 6, b__law_some_names⟩ args := sem_s (show some (d__law_some_names.get gl false) = _ from by rw [e__law_some_names]; rfl)
def b__law_struct : IS := .sq (.asg 1 (.call 11 (.cons (.var 0) .nil))) (.sq (.asg 2 (.ife (.cmp .eq (.call 10 (.cons (.var 0) (.cons (.k (.int 8)) .nil))) (.k (.int 0))) (.k (.int 4)) (.call 10 (.cons (.var 0) (.cons (.k (.int 4)) .nil))))) (.sq (.asg 3 (.call 20 (.cons (.var 0) (.cons (.var 2) .nil)))) (.sq (.asg 4 (.call 12 (.cons (.var 0) (.cons (.ife (.cmp .lt (.var 2) (.k (.int 4))) (.k (.int 2)) (.k (.int 1))) (.cons (.bin .mul (.f1 .len (.var 1)) (.f1 .int (.cmp .lt (.var 2) (.k (.int 4))))) (.cons (.f1 .int (.cmp .lt (.var 2) (.k (.int 4)))) .nil)))))) (.sq (.asg 5 (.call 16 (.cons (.var 1) (.cons (.var 4) (.cons (.var 3) .nil))))) (.sq (.iff (.cmp .eq (.var 5) (.lst .nil)) (.asg 5 (.bin .add (.lst (.cons (.tup (.cons (.k (.str "set")) (.cons (.var 3) .nil))) (.cons (.tup (.cons (.k (.str "row")) (.cons (.rev (.var 3)) .nil))) .nil))) (.bin .mul (.lst (.cons (.tup (.cons (.k (.str "round")) (.cons (.var 3) .nil))) .nil)) (.f1 .int (.cmp .ne (.var 3) (.tup .nil)))))) .skip) (.ret (.ix (.var 5) (.call 10 (.cons (.var 0) (.cons (.f1 .len (.var 5)) .nil))))))))))
theorem e__law_struct : d__law_struct.get gl false = ⟨d__law_struct.ps.length, d__law_struct.N.length, b__law_struct⟩ := by kernel_rfl
theorem f__law_struct {n : Nat} {args : List Val} : sem fds (n + 1) i__law_struct args = runF (sem fds n) ⟨1, 6, b__law_struct⟩ args := sem_s (show some (d__law_struct.get gl false) = _ from by rw [e__law_struct]; rfl)
def b_law : IS := .sq (.asg 1 (.call 9 (.cons (.var 0) .nil))) (.sq (.for_ [2] true (.rng1 (.k (.int 3))) (.sq (.asg 3 (.call 21 (.cons (.var 1) .nil))) (.sq (.asg 4 (.call 17 (.cons (.var 3) .nil))) (.sq (.asg 5 (.f1 .sorted (.lc [6] [6] true (.seq (.call 13 (.cons (.var 4) .nil))) (.k (.bool true)) (.cv .tuple (.zip (.var 4) (.var 6)))))) (.sq (.asg 7 (.lc [8] [8] true (.seq (.var 5)) (.cmp .eq (.call 18 (.cons (.var 3) (.cons (.f1 .dict (.var 8)) .nil))) (.var 3)) (.var 8))) (.for_ [9] true (.rng1 (.k (.int 2))) (.sq (.asg 10 (.call 8 (.cons (.var 3) .nil))) (.sq (.iff (.cmp .ne (.f1 .repr (.var 10)) (.f1 .repr (.var 7))) (.ret (.k (.bool false))) .skip) (.sq (.ex (.mut .reverse 10 .nil)) (.ex (.mut .append 10 (.cons (.tup (.cons (.tup (.cons (.k (.int 0)) (.cons (.k (.int 0)) .nil))) .nil)) .nil)))))))))))) (.ret (.k (.bool true))))
theorem e_law : d_law.get gl true = ⟨d_law.ps.length, d_law.N.length, b_law⟩ := by kernel_rfl
theorem f_law {n : Nat} {args : List Val} : runF (sem fds n) lawF args = runF (sem fds n) ⟨1, 11, b_law⟩ args := by rw [show lawF = ⟨1, 11, b_law⟩ from e_law]
end KK
/-! QZ2: the values' rules, for simp. -/
namespace Q
open PySem L2
section
variable {F : FT} {pin : List Bool} {r : Rho}
-- truth
-- comparisons
@[simp] theorem y_eq {x y : Val} : cmpV .eq x y = eqV x y := (rfl)
@[simp] theorem y_ne {x y : Val} : cmpV .ne x y = (eqV x y).map (!·) := (rfl)
@[simp] theorem y_lt {i j : Int} : cmpV .lt (.d (.int i)) (.d (.int j)) = some (decide (i < j)) := (rfl)
@[simp] theorem y_le {i j : Int} : cmpV .le (.d (.int i)) (.d (.int j)) = some (decide (i ≤ j)) := (rfl)
@[simp] theorem y_gt {i j : Int} : cmpV .gt (.d (.int i)) (.d (.int j)) = some (decide (j < i)) := (rfl)
@[simp] theorem y_ge {i j : Int} : cmpV .ge (.d (.int i)) (.d (.int j)) = some (decide (j ≤ i)) := (rfl)
@[simp] theorem y_in {x y : Val} : cmpV .inn x y = inV x y := (rfl)
@[simp] theorem y_nin {x y : Val} : cmpV .nin x y = (inV x y).map (!·) := (rfl)
@[simp] theorem y_is0 : cmpV .isn (.d .none) (.d .none) = some true := (rfl)
@[simp] theorem y_is1 {i : Int} : cmpV .isn (.d (.int i)) (.d .none) = some false := (rfl)
@[simp] theorem y_is2 {i : Str} : cmpV .isn (.d (.str i)) (.d .none) = some false := (rfl)
@[simp] theorem y_is3 {i : List D} : cmpV .isn (.d (.tuple i)) (.d .none) = some false := (rfl)
@[simp] theorem y_isnn0 : cmpV .isnn (.d .none) (.d .none) = some false := (rfl)
@[simp] theorem y_isnn1 {i : Int} : cmpV .isnn (.d (.int i)) (.d .none) = some true := (rfl)
@[simp] theorem y_isnn2 {i : Str} : cmpV .isnn (.d (.str i)) (.d .none) = some true := (rfl)
@[simp] theorem y_isnn3 {i : List D} : cmpV .isnn (.d (.tuple i)) (.d .none) = some true := (rfl)
@[simp] theorem y_eqV_dd {a b : D} : _root_.Q.eqV (.d a) (.d b) = eqD a b := (rfl)
@[simp] theorem y_eqV_ld {a : List D} {b : D} : _root_.Q.eqV (.lst a) (.d b) = eqD (.list a) b := (rfl)
@[simp] theorem y_eqV_dl {a : D} {b : List D} : _root_.Q.eqV (.d a) (.lst b) = eqD a (.list b) := (rfl)
@[simp] theorem y_eqV_ll {a b : List D} : _root_.Q.eqV (.lst a) (.lst b) = eqD (.list a) (.list b) := (rfl)
@[simp] theorem y_eqD_i {i j : Int} : eqD (.int i) (.int j) = some (decide (i = j)) := (rfl)
@[simp] theorem y_eqD_s {i j : Str} : eqD (.str i) (.str j) = some (decide (i = j)) := (rfl)
@[simp] theorem y_eqD_b {i j : Bool} : eqD (.bool i) (.bool j) = some (decide (i = j)) := (rfl)
@[simp] theorem y_inS {a : Str} {ys : List D} : inV (.d (.str a)) (.d (.tuple ys)) = if flatD (.str a) && ys.all flatD then some (inD (.str a) ys) else none := (rfl)
@[simp] theorem y_inI {a : Int} {ys : List D} : inV (.d (.int a)) (.d (.tuple ys)) = if flatD (.int a) && ys.all flatD then some (inD (.int a) ys) else none := (rfl)
@[simp] theorem y_inSl {a : Str} {ys : List D} : inV (.d (.str a)) (.lst ys) = if flatD (.str a) && ys.all flatD then some (inD (.str a) ys) else none := (rfl)
@[simp] theorem y_inIl {a : Int} {ys : List D} : inV (.d (.int a)) (.lst ys) = if flatD (.int a) && ys.all flatD then some (inD (.int a) ys) else none := (rfl)
@[simp] theorem y_inDS {a : Str} {k : List (Key × D)} : inV (.d (.str a)) (.dct k) = some (lookD k (.inr a)).isSome := (rfl)
@[simp] theorem y_inDI {a : Int} {k : List (Key × D)} : inV (.d (.int a)) (.dct k) = some (lookD k (.inl a)).isSome := (rfl)
@[simp] theorem y_inD0 {x : D} : inD x [] = false := (rfl)
@[simp] theorem y_inD1 {x y : D} {ys : List D} : inD x (y :: ys) = (PyData.eqv y x || inD x ys) := (rfl)
@[simp] theorem y_eqv_i {i j : Int} : PyData.eqv (.int i) (.int j) = decide (i = j) := by simp only [PyData.eqv]; by_cases h : i = j <;> simp [h]
@[simp] theorem y_eqv_s {i j : Str} : PyData.eqv (.str i) (.str j) = decide (i = j) := by simp only [PyData.eqv]; by_cases h : i = j <;> simp [h]
@[simp] theorem y_flat_i {i : Int} : flatD (.int i) = true := (rfl)
@[simp] theorem y_flat_s {i : Str} : flatD (.str i) = true := (rfl)
@[simp] theorem y_flat_n : flatD .none = true := (rfl)
@[simp] theorem y_flat_b {b : Bool} : flatD (.bool b) = true := (rfl)
-- arithmetic
@[simp] theorem y_add {x y : Val} : binV .add x y = addV x y := (rfl)
@[simp] theorem y_sub {x y : Val} : binV .sub x y = subV x y := (rfl)
@[simp] theorem y_mul {x y : Val} : binV .mul x y = mulV x y := (rfl)
@[simp] theorem y_mod {x y : Val} : binV .mod x y = modV x y := (rfl)
@[simp] theorem y_fdiv {x y : Val} : binV .fdiv x y = fdivV x y := (rfl)
@[simp] theorem y_pow {x y : Val} : binV .pow x y = powV x y := (rfl)
@[simp] theorem y_addI {i j : Int} : addV (.d (.int i)) (.d (.int j)) = some (.d (.int (i + j))) := (rfl)
@[simp] theorem y_subI {i j : Int} : subV (.d (.int i)) (.d (.int j)) = some (.d (.int (i - j))) := (rfl)
@[simp] theorem y_addT {i j : List D} : addV (.d (.tuple i)) (.d (.tuple j)) = if i.length + j.length ≤ sizeLine then some (.d (.tuple (i ++ j))) else none := (rfl)
@[simp] theorem y_addS {i j : Str} : addV (.d (.str i)) (.d (.str j)) = if i.length + j.length ≤ sizeLine then some (.d (.str (i ++ j))) else none := (rfl)
@[simp] theorem y_addL {i j : List D} : addV (.lst i) (.lst j) = if i.length + j.length ≤ sizeLine then some (.lst (i ++ j)) else none := (rfl)
@[simp] theorem y_addLd {i j : List D} : addV (.lst i) (.d (.list j)) = if i.length + j.length ≤ sizeLine then some (.lst (i ++ j)) else none := (rfl)
@[simp] theorem y_adddL {i j : List D} : addV (.d (.list i)) (.lst j) = if i.length + j.length ≤ sizeLine then some (.lst (i ++ j)) else none := (rfl)
@[simp] theorem y_adddd {i j : List D} : addV (.d (.list i)) (.d (.list j)) = if i.length + j.length ≤ sizeLine then some (.lst (i ++ j)) else none := (rfl)
@[simp] theorem y_modI {i j : Int} : modV (.d (.int i)) (.d (.int j)) = if 0 < j then some (.d (.int (i % j))) else none := (rfl)
@[simp] theorem y_fdivI {i j : Int} : fdivV (.d (.int i)) (.d (.int j)) = if 0 < j ∧ j.natAbs.log2 < 9000 then some (.d (.int (i / j))) else none := (rfl)
theorem y_mulI {i j : Int} : mulV (.d (.int i)) (.d (.int j)) = if i.natAbs.log2 + j.natAbs.log2 < 1000000 then some (.d (.int (i * j))) else none := rfl
theorem y_mulL {xs : List D} {k : Int} : mulV (.lst xs) (.d (.int k)) = if -(2 ^ 63) ≤ k ∧ k < 2 ^ 63 ∧ xs.length * k.toNat ≤ sizeLine then some (.lst (List.replicate k.toNat xs).flatten) else none := rfl
@[simp] theorem y_neg {i : Int} : negV (.d (.int i)) = some i := (rfl)
@[simp] theorem y_rev {xs : List D} : revV (.d (.tuple xs)) = some xs := (rfl)
-- reads
@[simp] theorem y_ixT {xs : List D} {i : Int} : ixV (.d (.tuple xs)) (.d (.int i)) = atI xs i := (rfl)
@[simp] theorem y_ixL {xs : List D} {i : Int} : ixV (.lst xs) (.d (.int i)) = atI xs i := (rfl)
@[simp] theorem y_ixl {xs : List D} {i : Int} : ixV (.d (.list xs)) (.d (.int i)) = atI xs i := (rfl)
@[simp] theorem y_ixDi {k : List (Key × D)} {i : Int} : ixV (.dct k) (.d (.int i)) = lookD k (.inl i) := (rfl)
@[simp] theorem y_ixDs {k : List (Key × D)} {i : Str} : ixV (.dct k) (.d (.str i)) = lookD k (.inr i) := (rfl)
@[simp] theorem y_slT {xs : List D} {l h : Option Int} : slV l h (.d (.tuple xs)) = some (.d (.tuple (cutD xs l h))) := (rfl)
@[simp] theorem y_slL {xs : List D} {l h : Option Int} : slV l h (.lst xs) = some (.lst (cutD xs l h)) := (rfl)
@[simp] theorem y_sll {xs : List D} {l h : Option Int} : slV l h (.d (.list xs)) = some (.lst (cutD xs l h)) := (rfl)
@[simp] theorem y_sls {xs : List D} {l h : Option Int} : slV l h (.scr xs false) = some (.lst (cutD xs l h)) := (rfl)
@[simp] theorem y_lenT {xs : List D} : f1V .len (.d (.tuple xs)) = some (.d (.int xs.length)) := (rfl)
@[simp] theorem y_lenL {xs : List D} : f1V .len (.lst xs) = some (.d (.int xs.length)) := (rfl)
@[simp] theorem y_lenl {xs : List D} : f1V .len (.d (.list xs)) = some (.d (.int xs.length)) := (rfl)
@[simp] theorem y_lenD {k : List (Key × D)} : f1V .len (.dct k) = some (.d (.int k.length)) := (rfl)
@[simp] theorem y_tupT {xs : List D} : f1V .tuple (.d (.tuple xs)) = some (.d (.tuple xs)) := (rfl)
@[simp] theorem y_tupL {xs : List D} : f1V .tuple (.lst xs) = some (.d (.tuple xs)) := (rfl)
@[simp] theorem y_tupl {xs : List D} : f1V .tuple (.d (.list xs)) = some (.d (.tuple xs)) := (rfl)
@[simp] theorem y_lstT {xs : List D} : f1V .list (.d (.tuple xs)) = some (.lst xs) := (rfl)
@[simp] theorem y_lstL {xs : List D} : f1V .list (.lst xs) = some (.lst xs) := (rfl)
@[simp] theorem y_lstl {xs : List D} : f1V .list (.d (.list xs)) = some (.lst xs) := (rfl)
@[simp] theorem y_intI {i : Int} : f1V .int (.d (.int i)) = some (.d (.int i)) := (rfl)
@[simp] theorem y_intB {b : Bool} : f1V .int (.d (.bool b)) = some (.d (.int (if b then 1 else 0))) := (rfl)
@[simp] theorem y_f2min {i j : Int} : f2V .min (.d (.int i)) (.d (.int j)) = some (.int (if j < i then j else i)) := (rfl)
@[simp] theorem y_f2max {i j : Int} : f2V .max (.d (.int i)) (.d (.int j)) = some (.int (if j > i then j else i)) := (rfl)
@[simp] theorem y_intsOf : ∀ {xs : List Int}, intsOf (xs.map .int) = some xs
  | [] => rfl
  | x :: xs => by simp [intsOf, y_intsOf]
theorem y_ints_L {f : F1} {xs : List Int} : f1V f (.lst (xs.map .int)) = f1V f (.lst (xs.map .int)) := rfl
@[simp] theorem y_sortL {xs : List Int} : f1V .sorted (.lst (xs.map .int)) = some (.lst ((sortI xs).map .int)) := by simp [f1V, seqOf]
@[simp] theorem y_sortl {xs : List Int} : f1V .sorted (.d (.list (xs.map .int))) = some (.lst ((sortI xs).map .int)) := by simp [f1V, seqOf]
@[simp] theorem y_sortT {xs : List Int} : f1V .sorted (.d (.tuple (xs.map .int))) = some (.lst ((sortI xs).map .int)) := by simp [f1V, seqOf]
@[simp] theorem y_minL {x : Int} {xs : List Int} : f1V .min (.lst ((x :: xs).map .int)) = some (.d (.int (minL x xs))) := by simp [f1V, seqOf, intsOf]
@[simp] theorem y_minT {x : Int} {xs : List Int} : f1V .min (.d (.tuple ((x :: xs).map .int))) = some (.d (.int (minL x xs))) := by simp [f1V, seqOf, intsOf]
@[simp] theorem y_maxL {x : Int} {xs : List Int} : f1V .max (.lst ((x :: xs).map .int)) = some (.d (.int (maxL x xs))) := by simp [f1V, seqOf, intsOf]
-- slots
@[simp] theorem y_setVd {k : List (Key × D)} {i : Int} {v : D} : setV (.dct k) (.d (.int i)) v = if k.length < sizeLine then some (.dct (putD k (.inl i) v)) else none := (rfl)
@[simp] theorem y_setVs {k : List (Key × D)} {i : Str} {v : D} : setV (.dct k) (.d (.str i)) v = if k.length < sizeLine then some (.dct (putD k (.inr i) v)) else none := (rfl)
@[simp] theorem y_app {xs : List D} {y : D} : mutL .append xs [y] = if xs.length < sizeLine then some (.none, xs ++ [y]) else none := (rfl)
@[simp] theorem y_mrev {xs : List D} : mutL .reverse xs [] = some (.none, xs.reverse) := (rfl)
def setK : Option Nat → List D → D → Option Val
  | some j, xs, v => some (.lst (xs.set j v))
  | none, _, _ => none
@[simp] theorem setK_s {j : Nat} {xs : List D} {v : D} : setK (some j) xs v = some (.lst (xs.set j v)) := (rfl)
@[simp] theorem y_setVl {xs : List D} {i : Int} {v : D} : setV (.lst xs) (.d (.int i)) v = setK (ixN xs.length i) xs v := by
  simp only [setV]
  unfold setK
  cases ixN xs.length i <;> rfl
@[simp] theorem y_seqL {xs : List D} : seqOf (.lst xs) = some xs := (rfl)
@[simp] theorem y_seql {xs : List D} : seqOf (.d (.list xs)) = some xs := (rfl)
@[simp] theorem y_seqT {xs : List D} : seqOf (.d (.tuple xs)) = some xs := (rfl)
@[simp] theorem y_cvT {xs : List D} : cvV .tuple xs = if xs.length ≤ sizeLine then some (.d (.tuple xs)) else none := (rfl)
@[simp] theorem y_cvL {xs : List D} : cvV .list xs = if xs.length ≤ sizeLine then some (.lst xs) else none := (rfl)
-- calls
@[simp] theorem y_lstOfL {xs : List D} : lstOf (.lst xs) = some xs := (rfl)
@[simp] theorem y_lstOfl {xs : List D} : lstOf (.d (.list xs)) = some xs := (rfl)
@[simp] theorem y_idxT {xs : List Int} {k : Int} : idxTV (xs.map .int) k = idxD (.int k) (xs.map .int) 0 := by simp [idxTV]
end
end Q
/-! QZ3: loops, sorting, slices, dicts: plain rules for the proofs of laws. -/
namespace Q
open PySem L2
/-! ### texts -/
theorem char_inj {a b : Char} (h : a.toNat = b.toNat) : a = b := Char.ext (UInt32.toNat_inj.mp h)
theorem map_inj_list {α β : Type} {f : α → β} (hf : ∀ a b, f a = f b → a = b) : ∀ {l m : List α}, l.map f = m.map f → l = m
  | [], [], _ => rfl
  | [], _ :: _, h => by simp at h
  | _ :: _, [], h => by simp at h
  | a :: l, b :: m, h => by
    simp only [List.map_cons, List.cons.injEq] at h
    rw [hf _ _ h.1, map_inj_list hf h.2]
@[simp] theorem str_inj {a b : String} : Str.ofString a = Str.ofString b ↔ a = b := by
  constructor
  · intro h
    rw [Str.ofString_eq_toList, Str.ofString_eq_toList] at h
    have h1 : (a.toList.map Char.toNat).toArray = (b.toList.map Char.toNat).toArray := congrArg Str.cps h
    have h2 : a.toList.map Char.toNat = b.toList.map Char.toNat := by simpa using h1
    exact String.toList_inj.mp (map_inj_list (fun _ _ => char_inj) h2)
  · intro h; rw [h]
/-! ### comprehensions -/
theorem z_wipe_len : ∀ (is : List Nat) (r : Rho), (wipeR r is).length = r.length
  | [], _ => rfl
  | i :: is, r => by simp [wipeR, z_wipe_len is r]
theorem z_wipe_get : ∀ (is : List Nat) (r : Rho) (j : Nat), (wipeR r is)[j]? = if j ∈ is ∧ j < r.length then some none else r[j]?
  | [], r, j => by simp [wipeR]
  | i :: is, r, j => by
    have h := z_wipe_get is r j
    have hl := z_wipe_len is r
    by_cases q : i = j
    · subst q
      by_cases c : i < r.length
      · simp [wipeR, List.getElem?_set, hl, c]
      · have : r[i]? = none := by simp; omega
        simp [wipeR, List.getElem?_set, hl, c]
    · simp only [wipeR, List.getElem?_set, q, if_false, h, List.mem_cons]
      have q' : ¬ j = i := fun z => q z.symm
      simp [q']
theorem wipe_wipe (r : Rho) (is : List Nat) : wipeR (wipeR r is) is = wipeR r is := by
  apply List.ext_getElem?
  intro j
  rw [z_wipe_get, z_wipe_len]
  split
  · rename_i h; rw [z_wipe_get, if_pos h]
  · rfl
theorem back_len : ∀ (is : List Nat) (a r : Rho), (backR a r is).length = r.length
  | [], _, _ => rfl
  | i :: is, a, r => by simp [backR, back_len is a r]
theorem back_get : ∀ (is : List Nat) (a r : Rho) (j : Nat), (backR a r is)[j]? = if j ∈ is ∧ j < r.length then some (gt a j) else r[j]?
  | [], a, r, j => by simp [backR]
  | i :: is, a, r, j => by
    have h := back_get is a r j
    have hl := back_len is a r
    by_cases q : i = j
    · subst q
      by_cases c : i < r.length
      · simp [backR, List.getElem?_set, hl, c]
      · have : r[i]? = none := by simp; omega
        simp [backR, List.getElem?_set, hl, c]
    · simp only [backR, List.getElem?_set, q, if_false, h, List.mem_cons]
      have q' : ¬ j = i := fun z => q z.symm
      simp [q']
theorem back_of {a b : Rho} {is : List Nat} (h : wipeR a is = wipeR b is) : backR b a is = b := by
  have hl : a.length = b.length := by rw [← z_wipe_len is a, h, z_wipe_len]
  apply List.ext_getElem?
  intro j
  rw [back_get]
  by_cases c : j ∈ is
  · by_cases q : j < a.length
    · rw [if_pos ⟨c, q⟩]
      have q' : j < b.length := by omega
      simp [gt, q']
    · rw [if_neg (fun z => q z.2)]
      have e1 : a[j]? = none := by simp; omega
      have e2 : b[j]? = none := by simp; omega
      rw [e1, e2]
  · rw [if_neg (fun z => c z.1)]
    have e := congrArg (fun z : Rho => z[j]?) h
    simp only [z_wipe_get] at e
    rw [if_neg (fun z => c z.1), if_neg (fun z => c z.1)] at e
    exact e
theorem ownOk_wipe (r : Rho) (is : List Nat) : ownOk (wipeR r is) is = true := by
  unfold ownOk
  rw [List.all_eq_true]
  intro i hi
  have h := z_wipe_get is r i
  have : gt (wipeR r is) i = none := by
    unfold gt
    rw [List.getD_eq_getElem?_getD, h]
    by_cases c : i < r.length
    · rw [if_pos ⟨hi, c⟩]; rfl
    · rw [if_neg (fun z => c z.2)]
      have : r[i]? = none := by simp; omega
      rw [this]; rfl
  rw [this]
theorem lcL_pure {tg : List Nat} {one : Bool} {own : List Nat} {c : Rho → Out Bool} {e : Rho → Out D} {p : D → Bool} {g : D → D} {R : Rho} : ∀ (xs acc : List D) (r : Rho), wipeR r own = R → ownOk r own = true →
    (∀ x ∈ xs, ∃ ra, tgt tg one x R = some ra ∧ c ra = .ok (p x) ra ∧ (p x = true → e ra = .ok (g x) ra) ∧ wipeR ra own = R ∧ ownOk ra own = true) → acc.length + xs.length ≤ sizeLine →
    ∃ r', lcL tg one own c e xs acc r = .ok (acc ++ (xs.filter p).map g) r' ∧ wipeR r' own = R ∧ ownOk r' own = true
  | [], acc, r, hr, ho, h, hl => ⟨r, by simp [lcL], hr, ho⟩
  | x :: xs, acc, r, hr, ho, h, hl => by
    obtain ⟨ra, e1, e2, e3, e4, e5⟩ := h x List.mem_cons_self
    simp only [List.length_cons] at hl
    unfold lcL
    rw [hr, e1]
    dsimp only
    rw [e2]
    cases q : p x with
    | true =>
      dsimp only
      rw [e3 q]
      dsimp only
      rw [if_pos (by omega)]
      obtain ⟨r', h1, h2, h3⟩ := lcL_pure xs (acc ++ [g x]) ra e4 e5 (fun y hy => h y (List.mem_cons_of_mem _ hy)) (by simp; omega)
      exact ⟨r', by rw [h1]; simp [q], h2, h3⟩
    | false =>
      dsimp only
      obtain ⟨r', h1, h2, h3⟩ := lcL_pure xs acc ra e4 e5 (fun y hy => h y (List.mem_cons_of_mem _ hy)) (by omega)
      exact ⟨r', by rw [h1]; simp [q], h2, h3⟩
/-- a comprehension that changes nothing -/
theorem lc_pure {F : FT} {own tg : List Nat} {one : Bool} {it cs elt : IE} {r r1 : Rho} {xs : List D} (p : D → Bool) (g : D → D) (hi : evI F it r = .ok xs r1) (ho : ownOk r1 own = true) (hl : xs.length ≤ sizeLine)
    (hb : ∀ x ∈ xs, ∃ ra, tgt tg one x (wipeR r1 own) = some ra ∧ tstO (evE F cs ra) = .ok (p x) ra ∧ (p x = true → treeO (evE F elt ra) = .ok (g x) ra) ∧ wipeR ra own = wipeR r1 own ∧ ownOk ra own = true) :
    evE F (.lc own tg one it cs elt) r = .ok (.v (.lst ((xs.filter p).map g))) r1 := by
  obtain ⟨r', e1, e2, e3⟩ := lcL_pure (c := fun r => tstO (evE F cs r)) (e := fun r => treeO (evE F elt r)) xs [] (wipeR r1 own) (wipe_wipe _ _) (ownOk_wipe _ _) hb (by simpa using hl)
  rw [z_lc]
  unfold lcF
  rw [hi, z_bd_ok, if_pos ho, e1]
  simp only [lcO, e3, if_true, List.nil_append]
  rw [back_of e2]
/-- one without a condition -/
theorem lc_map {F : FT} {own tg : List Nat} {one : Bool} {it elt : IE} {r r1 : Rho} {xs : List D} (g : D → D) (hi : evI F it r = .ok xs r1) (ho : ownOk r1 own = true) (hl : xs.length ≤ sizeLine)
    (hb : ∀ x ∈ xs, ∃ ra, tgt tg one x (wipeR r1 own) = some ra ∧ treeO (evE F elt ra) = .ok (g x) ra ∧ wipeR ra own = wipeR r1 own ∧ ownOk ra own = true) :
    evE F (.lc own tg one it (.k (.bool true)) elt) r = .ok (.v (.lst (xs.map g))) r1 := by
  have h := lc_pure (F := F) (cs := .k (.bool true)) (elt := elt) (r := r) (fun _ => true) g hi ho hl fun x hx => by
    obtain ⟨ra, a, b, c, d⟩ := hb x hx
    exact ⟨ra, a, by simp, fun _ => b, c, d⟩
  rw [h, List.filter_eq_self.mpr (fun _ _ => rfl)]
/-! ### loops -/
theorem forL_inv {tg : List Nat} {one : Bool} {pin : List Bool} {b : Rho → SO} (P : List D → Rho → Prop) (hp : (tg.any fun i => pin.getD i false) = false)
    (step : ∀ x xs r, P (x :: xs) r → ∃ r1, tgt tg one x r = some r1 ∧ ∃ r2, (b r1 = .next r2 ∨ b r1 = .cnt r2) ∧ P xs r2) : ∀ xs r, P xs r → ∃ r', forL tg one pin b xs r = .next r' ∧ P [] r'
  | [], r, h => ⟨r, rfl, h⟩
  | x :: xs, r, h => by
    obtain ⟨r1, e1, r2, e2, h2⟩ := step x xs r h
    obtain ⟨r', e3, h3⟩ := forL_inv P hp step xs r2 h2
    refine ⟨r', ?_, h3⟩
    unfold forL
    rw [hp]
    simp only [Bool.false_eq_true, if_false, e1]
    rcases e2 with e2 | e2 <;> rw [e2] <;> exact e3
/-! ### sorting -/
theorem z_insI_perm (x : Int) : ∀ l, (insI x l).Perm (x :: l)
  | [] => .refl _
  | y :: r => by
    unfold insI
    split
    · exact .refl _
    · exact ((z_insI_perm x r).cons y).trans (.swap x y r)
theorem z_sortI_perm : ∀ l, (sortI l).Perm l
  | [] => .refl _
  | x :: r => (z_insI_perm x _).trans ((z_sortI_perm r).cons x)
theorem z_insI_sorted (x : Int) : ∀ l : List Int, l.Pairwise (· ≤ ·) → (insI x l).Pairwise (· ≤ ·)
  | [], _ => by simp [insI]
  | y :: r, h => by
    unfold insI
    split
    · rename_i q
      rw [List.pairwise_cons] at h ⊢
      refine ⟨fun z hz => ?_, by rw [List.pairwise_cons]; exact h⟩
      rcases List.mem_cons.mp hz with rfl | hz
      · exact q
      · exact Int.le_trans q (h.1 z hz)
    · rename_i q
      rw [List.pairwise_cons] at h ⊢
      refine ⟨fun z hz => ?_, z_insI_sorted x r h.2⟩
      rcases List.mem_cons.mp ((z_insI_perm x r).mem_iff.mp hz) with rfl | hz
      · omega
      · exact h.1 z hz
theorem z_sortI_sorted : ∀ l : List Int, (sortI l).Pairwise (· ≤ ·)
  | [] => .nil
  | x :: r => z_insI_sorted x _ (z_sortI_sorted r)
theorem sorted_uniq : ∀ {a b : List Int}, a.Pairwise (· ≤ ·) → b.Pairwise (· ≤ ·) → a.Perm b → a = b
  | [], b, _, _, h => (List.nil_perm.mp h).symm
  | x :: a, [], _, _, h => by simp at h
  | x :: a, y :: b, ha, hb, h => by
    rw [List.pairwise_cons] at ha hb
    have h1 : x ≤ y := by
      rcases List.mem_cons.mp (h.mem_iff.mpr List.mem_cons_self) with q | q
      · omega
      · exact ha.1 y q
    have h2 : y ≤ x := by
      rcases List.mem_cons.mp (h.mem_iff.mp List.mem_cons_self) with q | q
      · omega
      · exact hb.1 x q
    have e : x = y := by omega
    subst e
    rw [sorted_uniq ha.2 hb.2 (List.perm_cons _ |>.mp h)]
/-- rising names -/
def Rise (U : List Int) : Prop := U.Pairwise (· < ·)
theorem Rise.le {U : List Int} (h : Rise U) : U.Pairwise (· ≤ ·) := List.Pairwise.imp (fun h => Int.le_of_lt h) h
theorem Rise.nodup {U : List Int} (h : Rise U) : U.Nodup := List.Pairwise.imp (fun h => Int.ne_of_lt h) h
theorem sortI_of {l U : List Int} (h : Rise U) (p : l.Perm U) : sortI l = U := sorted_uniq (z_sortI_sorted l) h.le ((z_sortI_perm l).trans p)
theorem sortI_rise {l : List Int} (h : l.Nodup) : Rise (sortI l) := by
  have a := z_sortI_sorted l
  have b : (sortI l).Nodup := (z_sortI_perm l).nodup_iff.mpr h
  exact List.Pairwise.imp₂ (fun x y h1 h2 => by omega) a b
@[simp] theorem sortI_len (l : List Int) : (sortI l).length = l.length := (z_sortI_perm l).length_eq
theorem minL_mem : ∀ (m : Int) (l : List Int), minL m l ∈ m :: l
  | m, [] => by simp [minL]
  | m, x :: r => by
    have h := minL_mem (if x < m then x else m) r
    unfold minL
    rcases List.mem_cons.mp h with q | q
    · rw [q]; split <;> simp
    · exact List.mem_cons_of_mem _ (List.mem_cons_of_mem _ q)
theorem z_minL_le : ∀ (m : Int) (l : List Int), ∀ y ∈ m :: l, minL m l ≤ y
  | m, [], y, h => by simp at h; subst h; simp [minL]
  | m, x :: r, y, h => by
    have a := z_minL_le (if x < m then x else m) r
    unfold minL
    have b := a _ List.mem_cons_self
    rcases List.mem_cons.mp h with rfl | h
    · split at b <;> rename_i c <;> simp only [c, if_true, if_false] <;> omega
    · rcases List.mem_cons.mp h with rfl | h
      · split at b <;> rename_i c <;> simp only [c, if_true, if_false] <;> omega
      · exact a y (List.mem_cons_of_mem _ h)
theorem maxL_mem : ∀ (m : Int) (l : List Int), maxL m l ∈ m :: l
  | m, [] => by simp [maxL]
  | m, x :: r => by
    have h := maxL_mem (if m < x then x else m) r
    unfold maxL
    rcases List.mem_cons.mp h with q | q
    · rw [q]; split <;> simp
    · exact List.mem_cons_of_mem _ (List.mem_cons_of_mem _ q)
theorem z_maxL_le : ∀ (m : Int) (l : List Int), ∀ y ∈ m :: l, y ≤ maxL m l
  | m, [], y, h => by simp at h; subst h; simp [maxL]
  | m, x :: r, y, h => by
    have a := z_maxL_le (if m < x then x else m) r
    unfold maxL
    have b := a _ List.mem_cons_self
    rcases List.mem_cons.mp h with rfl | h
    · split at b <;> rename_i c <;> simp only [c, if_true, if_false] <;> omega
    · rcases List.mem_cons.mp h with rfl | h
      · split at b <;> rename_i c <;> simp only [c, if_true, if_false] <;> omega
      · exact a y (List.mem_cons_of_mem _ h)
/-! ### places and slices -/
@[simp] theorem ixN_eq {n : Nat} {i : Int} : ixN n i = if 0 ≤ i then (if i < n then some i.toNat else none) else if -(n : Int) ≤ i then some (i + n).toNat else none := (rfl)
@[simp] theorem at0 {α : Type} {x : α} {r : List α} : atI (x :: r) 0 = some x := by
  unfold atI ixN
  rw [if_pos (by decide), if_pos (by simp <;> omega)]
  rfl
@[simp] theorem at1 {α : Type} {x y : α} {r : List α} : atI (x :: y :: r) 1 = some y := by
  unfold atI ixN
  rw [if_pos (by decide), if_pos (by simp <;> omega)]
  rfl
@[simp] theorem at2 {α : Type} {x y z : α} {r : List α} : atI (x :: y :: z :: r) 2 = some z := by
  unfold atI ixN
  rw [if_pos (by decide), if_pos (by simp <;> omega)]
  rfl
@[simp] theorem at3 {α : Type} {x y z u : α} {r : List α} : atI (x :: y :: z :: u :: r) 3 = some u := by
  unfold atI ixN
  rw [if_pos (by decide), if_pos (by simp <;> omega)]
  rfl
@[simp] theorem at4 {α : Type} {x y z u v : α} {r : List α} : atI (x :: y :: z :: u :: v :: r) 4 = some v := by
  unfold atI ixN
  rw [if_pos (by decide), if_pos (by simp <;> omega)]
  rfl
theorem atN {α : Type} {xs : List α} {i : Nat} (h : i < xs.length) : atI xs (i : Int) = some xs[i] := by
  unfold atI ixN
  rw [if_pos (by omega), if_pos (by omega)]
  simp [h]
theorem at_last {α : Type} {xs : List α} {x : α} : atI (xs ++ [x]) (-1) = some x := by
  unfold atI ixN
  rw [if_neg (by decide), if_pos (by simp <;> omega)]
  have : ((-1 : Int) + ((xs ++ [x]).length : Int)).toNat = xs.length := by simp; omega
  show (some _).bind _ = _
  rw [this]
  simp
theorem cut_nn {xs : List D} : cutD xs none none = xs := by simp [cutD, HT.sIx]
theorem cut_from {xs : List D} {n : Nat} : cutD xs (some (n : Int)) none = xs.drop n := by
  unfold cutD
  rw [HT.sIx_nat]
  have : HT.sIx xs.length xs.length none = xs.length := rfl
  rw [this]
  by_cases h : n ≤ xs.length
  · rw [Nat.min_eq_left h]
    exact List.take_of_length_le (by simp)
  · rw [Nat.min_eq_right (by omega)]
    simp
    omega
theorem cut_to {xs : List D} {n : Nat} : cutD xs none (some (n : Int)) = xs.take n := by
  unfold cutD
  rw [HT.sIx_nat]
  have : HT.sIx xs.length 0 none = 0 := rfl
  rw [this]
  simp
@[simp] theorem cut_1 {x : D} {xs : List D} : cutD (x :: xs) (some 1) none = xs := cut_from (n := 1)
theorem cut_m1 {xs : List D} {x : D} : cutD (xs ++ [x]) none (some (-1)) = xs := by
  unfold cutD HT.sIx
  simp
  rw [show (-1 + ((xs.length : Int) + 1)).toNat = xs.length by omega]
  simp
@[simp] theorem rng0 {n : Nat} : rngD 0 n = (List.range n).map fun (i : Nat) => .int (i : Int) := by simp [rngD]
/-! ### dicts -/
theorem lookD_cons {k k' : Key} {v : D} {r : List (Key × D)} : lookD ((k', v) :: r) k = if k' = k then some v else lookD r k := by
  unfold lookD
  rw [List.find?_cons]
  by_cases h : k' = k
  · simp [h]
  · simp [h]
@[simp] theorem lookD_nil {k : Key} : lookD [] k = none := (rfl)
theorem lookD_put {kvs : List (Key × D)} {k k' : Key} {v : D} : lookD (putD kvs k v) k' = if k = k' then some v else lookD kvs k' := by
  unfold putD
  split
  · rename_i h
    induction kvs with
    | nil => simp at h
    | cons p r ih =>
      obtain ⟨a, b⟩ := p
      simp only [List.map_cons]
      by_cases c : a = k
      · subst c
        simp only [if_true, lookD_cons]
        by_cases q : a = k'
        · simp [q]
        · simp only [q, if_false]
          by_cases z : (r.any fun kv => decide (kv.1 = a)) = true
          · rw [ih z]; simp [q]
          · have : r.map (fun kv => if kv.1 = a then (kv.1, v) else kv) = r := by
              rw [List.map_congr_left (g := id) (fun x hx => ?_), List.map_id]
              rw [if_neg]; rfl
              intro e
              exact z (List.any_eq_true.mpr ⟨x, hx, by simp [e]⟩)
            rw [this]
      · simp only [c, if_false, lookD_cons]
        have z : (r.any fun kv => decide (kv.1 = k)) = true := by simpa [c] using h
        by_cases q : a = k'
        · have : ¬ k = k' := fun e => c (q.trans e.symm)
          simp [q, this]
        · simp only [q, if_false]
          exact ih z
  · rename_i h
    induction kvs with
    | nil => simp [lookD_cons]
    | cons p r ih =>
      obtain ⟨a, b⟩ := p
      simp only [List.any_cons, Bool.or_eq_true, not_or] at h
      have c : ¬ a = k := by simpa using h.1
      simp only [List.cons_append, lookD_cons]
      by_cases q : a = k'
      · have : ¬ k = k' := fun e => c (q.trans e.symm)
        simp [q, this]
      · simp only [q, if_false]
        exact ih h.2
/-- a dict of pairs whose firsts are unlike -/
theorem putD_new {kvs : List (Key × D)} {k : Key} {v : D} (h : k ∉ kvs.map (·.1)) : putD kvs k v = kvs ++ [(k, v)] := by
  unfold putD
  rw [if_neg]
  intro e
  obtain ⟨x, hx, e⟩ := List.any_eq_true.mp e
  exact h (List.mem_map.mpr ⟨x, hx, by simpa using e⟩)
theorem mergeD_new : ∀ {ps kvs : List (Key × D)}, ((kvs ++ ps).map (·.1)).Nodup → mergeD kvs ps = kvs ++ ps
  | [], kvs, _ => by simp [mergeD]
  | (k, v) :: ps, kvs, h => by
    have h1 : k ∉ kvs.map (·.1) := by
      intro z
      simp only [List.map_append, List.map_cons] at h
      exact (List.nodup_append.mp h).2.2 _ z _ List.mem_cons_self rfl
    unfold mergeD
    rw [putD_new h1, mergeD_new (by simpa using h)]
    simp
end Q
namespace KK
open PySem L2 Q
theorem at_mod {cs : List Int} {s : Nat} (h : cs ≠ []) : ∃ c, atI (cs.map PyData.int) ((s : Int) % ((cs.length : Nat) : Int)) = some (.int c) ∧ c ∈ cs := by
  have hp : 0 < cs.length := List.length_pos_iff.mpr h
  have hl : s % cs.length < cs.length := Nat.mod_lt _ hp
  refine ⟨cs[s % cs.length], ?_, List.getElem_mem _⟩
  rw [← Int.natCast_emod, atN (by simpa using hl)]
  simp
theorem lg {n : Nat} (h : n < 2 ^ 64) : n.log2 ≤ 64 := by
  by_cases z : n = 0
  · subst z; decide
  · exact Nat.le_of_lt ((Nat.log2_lt z).mpr h)
theorem mul_ok {i j : Int} (hi : i.natAbs < 2 ^ 64) (hj : j.natAbs < 2 ^ 64) : mulV (.d (.int i)) (.d (.int j)) = some (.d (.int (i * j))) := by
  have a := lg hi
  have b := lg hj
  simp only [mulV]
  rw [if_pos (by omega)]
theorem pow_ok {i j : Int} (h0 : 0 ≤ j) (h1 : j ≤ 1000000) (hi : i.natAbs < 2 ^ 64) : powV (.d (.int i)) (.d (.int j)) = some (.d (.int (i ^ j.toNat))) := by
  simp only [powV]
  rw [if_pos ⟨h0, h1, hi⟩]
theorem eq_nil {cs : List Int} : eqD (.list (cs.map .int)) (.list []) = some (decide (cs = [])) := by
  have h1 := PySem.W.ke_shaped_ints cs
  have h2 := PySem.W.ke_shaped_ints []
  unfold eqD
  dsimp only
  rw [show (PyData.list []) = .list (([] : List Int).map PyData.int) from rfl, h1, h2]
  cases cs with
  | nil => rfl
  | cons c r => rfl
theorem eq_nil0 : eqD (.list []) (.list []) = some true := eq_nil (cs := [])
def mixI (c : Int) (s : Nat) : Int := (c % 2147483629 + 7919 * (s : Int) + 1) ^ 5 % 2147483647
theorem base_ok {c : Int} {s : Nat} (hs : s < 1000000) : powV (.d (.int (c % 2147483629 + 7919 * (s : Int) + 1))) (.d (.int 5)) = some (.d (.int ((c % 2147483629 + 7919 * (s : Int) + 1) ^ 5))) := by
  have h1 := Int.emod_nonneg c (show (2147483629 : Int) ≠ 0 by decide)
  have h2 := Int.emod_lt_of_pos c (show (0 : Int) < 2147483629 by decide)
  exact pow_ok (by decide) (by decide) (by omega)
theorem mix_ok {b : Int} {s : Nat} (hs : s < 1000000) : mulV (.d (.int (b % 2147483647))) (.d (.int (2 * (s : Int) + 3))) = some (.d (.int (b % 2147483647 * (2 * (s : Int) + 3)))) := by
  have h1 := Int.emod_nonneg b (show (2147483647 : Int) ≠ 0 by decide)
  have h2 := Int.emod_lt_of_pos b (show (0 : Int) < 2147483647 by decide)
  exact mul_ok (by omega) (by omega)
theorem ten : powV (.d (.int 10)) (.d (.int 18)) = some (.d (.int 1000000000000000000)) := pow_ok (by decide) (by decide) (by decide)
theorem lg64 : Nat.log2 64 < 9000 := by decide
theorem draw2 {n : Nat} {cs : List Int} {s : Nat} {l m : Int} (hm : 0 < m) (hm2 : m.natAbs.log2 < 9000) (hl : ¬ 0 < l) (hs : s < 1000000) (hc : cs.length ≤ 63) :
    ∃ (v : Int) (s' : Nat) (l' : Int), sem fds (n + 1) i__law_draw [.lst [.list (cs.map .int), .int s, .int l], .d (.int m)] = .ok (.d (.int v)) [some (.lst [.list (cs.map .int), .int s', .int l']), some (.d (.int m))] ∧ 0 ≤ v ∧ v < m ∧ s' ≤ s + 1 := by
  have w1 : s < 18446744073709551616 := by omega
  rw [f__law_draw]
  unfold b__law_draw
  have hz : cs.length ≤ sizeLine := Nat.le_trans hc (by decide)
  have m1 : mulV (.d (.int 7919)) (.d (.int (s : Int))) = some (.d (.int (7919 * (s : Int)))) := mul_ok (by decide) (by omega)
  have m2 : mulV (.d (.int 2)) (.d (.int (s : Int))) = some (.d (.int (2 * (s : Int)))) := mul_ok (by decide) (by omega)
  by_cases h : cs = []
  · subst h
    have b7 := base_ok (c := 7) hs
    rw [show (7 : Int) % 2147483629 = 7 by decide] at b7
    refine ⟨(7 + 7919 * (s : Int) + 1) ^ 5 % 2147483647 * (2 * (s : Int) + 3) % 2147483587 / 64 % m, s + 1, l, ?_, Int.emod_nonneg _ (Int.ne_of_gt hm), Int.emod_lt_of_pos _ hm, Nat.le_refl _⟩
    simp [hl, hm, hm2, Int.ne_of_gt hm, eq_nil0, lg64, m1, m2, b7, mix_ok hs, ten]
  · have hp : 0 < cs.length := List.length_pos_iff.mpr h
    obtain ⟨c, e1, e2⟩ := at_mod (s := s) h
    by_cases g : 1000000000000000000 ≤ c ∧ s < cs.length
    · refine ⟨c % m, s + 1, c / m, ?_, Int.emod_nonneg _ (Int.ne_of_gt hm), Int.emod_lt_of_pos _ hm, Nat.le_refl _⟩
      simp [hl, hm, hm2, Int.ne_of_gt hm, eq_nil, h, hz, e1, hp, lg64, m1, m2, ten, g]
    · refine ⟨(c % 2147483629 + 7919 * (s : Int) + 1) ^ 5 % 2147483647 * (2 * (s : Int) + 3) % 2147483587 / 64 % m, s + 1, l, ?_, Int.emod_nonneg _ (Int.ne_of_gt hm), Int.emod_lt_of_pos _ hm, Nat.le_refl _⟩
      by_cases g1 : 1000000000000000000 ≤ c
      · have g2 : ¬ s < cs.length := fun z => g ⟨g1, z⟩
        simp [hl, hm, hm2, Int.ne_of_gt hm, eq_nil, h, hz, e1, hp, lg64, m1, m2, ten, g1, g2, base_ok hs, mix_ok hs]
      · simp [hl, hm, hm2, Int.ne_of_gt hm, eq_nil, h, hz, e1, hp, lg64, m1, m2, ten, g1, base_ok hs, mix_ok hs]
theorem draw1 {n : Nat} {cs : List Int} {s : Nat} {l m : Int} (hm : 0 < m) (hm2 : m.natAbs.log2 < 9000) (hl : 0 < l) : sem fds (n + 1) i__law_draw [.lst [.list (cs.map .int), .int s, .int l], .d (.int m)] = .ok (.d (.int (l % m))) [some (.lst [.list (cs.map .int), .int s, .int (l / m)]), some (.d (.int m))] := by
  rw [f__law_draw]
  unfold b__law_draw
  simp [hl, hm, hm2, Int.ne_of_gt hm]
/-- the tape: the cells, how many were drawn at most -/
def Tape (cs : List Int) (S : Nat) (v : Val) : Prop := ∃ (s : Nat) (l : Int), v = .lst [.list (cs.map .int), .int s, .int l] ∧ s ≤ S
theorem draw {n S : Nat} {cs : List Int} {t : Val} {m : Int} (hc : cs.length ≤ 63) (T : Tape cs S t) (hS : S < 1000000) (hm : 0 < m) (hm2 : m < 1000000) :
    ∃ (v : Int) (t' : Val), sem fds (n + 1) i__law_draw [t, .d (.int m)] = .ok (.d (.int v)) [some t', some (.d (.int m))] ∧ 0 ≤ v ∧ v < m ∧ Tape cs (S + 1) t' := by
  obtain ⟨s, l, rfl, h⟩ := T
  have q : m.natAbs.log2 < 9000 := Nat.lt_of_le_of_lt (lg (by omega)) (by decide)
  by_cases hl : 0 < l
  · exact ⟨_, _, draw1 hm q hl, Int.emod_nonneg _ (Int.ne_of_gt hm), Int.emod_lt_of_pos _ hm, s, _, rfl, by omega⟩
  · obtain ⟨v, s', l', e, h1, h2, h3⟩ := draw2 (n := n) (cs := cs) (s := s) hm q hl (by omega) hc
    exact ⟨v, _, e, h1, h2, s', l', rfl, by omega⟩
theorem tape_ok {n : Nat} {cs : List Int} (hc : cs.length ≤ 63) : ∃ t, sem fds (n + 1) i__law_tape [.scr (cs.map .int) false] = .ok t [some (.scr (cs.map .int) false)] ∧ Tape cs 0 t := by
  refine ⟨.lst [.list (cs.map .int), .int 0, .int 0], ?_, 0, 0, rfl, Nat.le_refl _⟩
  rw [f__law_tape]
  unfold b__law_tape
  have hz : cs.length ≤ sizeLine := Nat.le_trans hc (by decide)
  have e : cutD (cs.map PyData.int) none (some 63) = cs.map PyData.int := by
    have a : (List.map PyData.int cs).length = cs.length := by simp
    unfold cutD
    rw [a]
    have b : HT.sIx cs.length 0 none = 0 := rfl
    have c : HT.sIx cs.length cs.length (some 63) = cs.length := by simp [HT.sIx]; omega
    rw [b, c]
    show List.take cs.length (List.map PyData.int cs) = _
    exact List.take_of_length_le (by simp)
  simp [slF, bndO, slV, e]
end KK
namespace KK
open PySem L2 Q
inductive Kd where
  | void | unit | one | set | row | round
  | rule (k : Nat)
  | both (a b : Kd) | inn (a b : Kd) | this (a b : Kd)
  | point (a : Kd) | hole (a : Kd)
  | sized (a : Kd) (lo hi : Nat)
def Kd.enc : Kd → D
  | .void => .tuple [.str "void"] | .unit => .tuple [.str "unit"] | .one => .tuple [.str "one"] | .set => .tuple [.str "set"] | .row => .tuple [.str "row"] | .round => .tuple [.str "round"]
  | .rule k => .tuple [.str "rule", .int k]
  | .both a b => .tuple [.str "both", a.enc, b.enc]
  | .inn a b => .tuple [.str "in", a.enc, b.enc]
  | .this a b => .tuple [.str "this", a.enc, b.enc]
  | .point a => .tuple [.str "point", a.enc]
  | .hole a => .tuple [.str "hole", a.enc]
  | .sized a lo hi => .tuple [.str "sized", a.enc, .int lo, .int hi]
/-- the five sets of rules -/
def ruleSets : List (List Kd) := [[], [], [.both .one (.inn .set (.rule 0))], [.both .one (.inn .row (.rule 0))], [.this .unit (.both .one (.both (.rule 0) (.rule 0)))], [.this .unit (.both .one (.rule 1)), .both .one (.rule 0)]]
theorem isMut_tape {cs : List Int} {S : Nat} {t : Val} (T : Tape cs S t) : ∃ xs, t = .lst xs := by
  obtain ⟨s, l, rfl, _⟩ := T
  exact ⟨_, rfl⟩
theorem rules_ok {n S : Nat} {cs : List Int} {t : Val} (hc : cs.length ≤ 63) (T : Tape cs S t) (hS : S + 10 < 1000000) :
    ∃ (r : List Kd) (t' : Val), sem fds (n + 2) i__law_rules [t] = .ok (.d (.tuple (r.map Kd.enc))) [some t'] ∧ r ∈ ruleSets ∧ Tape cs (S + 2) t' := by
  obtain ⟨v, t1, e1, v0, v1, T1⟩ := draw (n := n) hc T (by omega) (m := 2) (by decide) (by decide)
  obtain ⟨w, t2, e2, w0, w1, T2⟩ := draw (n := n) hc T1 (by omega) (m := 5) (by decide) (by decide)
  obtain ⟨x0, rfl⟩ := isMut_tape T
  obtain ⟨x1, rfl⟩ := isMut_tape T1
  obtain ⟨x2, rfl⟩ := isMut_tape T2
  rw [f__law_rules]
  unfold b__law_rules
  have vv : v = 0 ∨ v = 1 := by omega
  have ww : w = 0 ∨ w = 1 ∨ w = 2 ∨ w = 3 ∨ w = 4 := by omega
  rcases ww with rfl | rfl | rfl | rfl | rfl
  · refine ⟨[], .lst x2, ?_, by simp [ruleSets], T2⟩
    rcases vv with rfl | rfl <;> simp [e1, e2, Kd.enc]
  · refine ⟨[], .lst x2, ?_, by simp [ruleSets], T2⟩
    rcases vv with rfl | rfl <;> simp [e1, e2, Kd.enc]
  · rcases vv with rfl | rfl
    · exact ⟨[.both .one (.inn .set (.rule 0))], .lst x2, by simp [e1, e2, Kd.enc], by simp [ruleSets], T2⟩
    · exact ⟨[.both .one (.inn .row (.rule 0))], .lst x2, by simp [e1, e2, Kd.enc], by simp [ruleSets], T2⟩
  · refine ⟨[.this .unit (.both .one (.both (.rule 0) (.rule 0)))], .lst x2, ?_, by simp [ruleSets], T2⟩
    rcases vv with rfl | rfl <;> simp [e1, e2, Kd.enc]
  · refine ⟨[.this .unit (.both .one (.rule 1)), .both .one (.rule 0)], .lst x2, ?_, by simp [ruleSets], T2⟩
    rcases vv with rfl | rfl <;> simp [e1, e2, Kd.enc]
/-- the kinds that are drawn at the bottom -/
def leaves (m : Nat) : List Kd := [.set, .one, .row, .round, .unit, .void, .set, .one] ++ ((List.range m).map Kd.rule ++ (List.range m).map Kd.rule)
theorem at_leaf {m : Nat} {w : Int} (h0 : 0 ≤ w) (h1 : w < 8 + 2 * (m : Int)) : ∃ k, k ∈ leaves m ∧ atI ((leaves m).map Kd.enc) w = some k.enc := by
  obtain ⟨i, rfl⟩ := Int.eq_ofNat_of_zero_le h0
  have hl : (leaves m).length = 8 + 2 * m := by simp [leaves]; omega
  have hi : i < (leaves m).length := by omega
  refine ⟨(leaves m)[i], List.getElem_mem _, ?_⟩
  rw [atN (by simpa using hi)]
  simp
theorem kind_leaf {n S : Nat} {cs : List Int} {t : Val} {m d h : Nat} (hm : m ≤ 2) (hd : d ≤ 2) (hc : cs.length ≤ 63) (T : Tape cs S t) (hS : S + 10 < 1000000) {v : Int} {t1 : Val} (T1 : Tape cs (S + 1) t1)
    (e1 : sem fds (n + 1) i__law_draw [t, .d (.int 13)] = .ok (.d (.int v)) [some t1, some (.d (.int 13))]) (q : d = 0 ∨ v < 4) :
    ∃ (k : Kd) (t' : Val), sem fds (n + 2) i__law_kind [t, .d (.int d), .d (.int m), .d (.int h)] = .ok (.d k.enc) [some t', some (.d (.int d)), some (.d (.int m)), some (.d (.int h))] ∧ k ∈ leaves m ∧ Tape cs (S + 2) t' := by
  obtain ⟨w, t2, e2, w0, w1, T2⟩ := draw (n := n) hc T1 (by omega) (m := 8 + 2 * m) (by omega) (by omega)
  obtain ⟨x0, rfl⟩ := isMut_tape T
  obtain ⟨x1, rfl⟩ := isMut_tape T1
  obtain ⟨x2, rfl⟩ := isMut_tape T2
  rw [f__law_kind]
  unfold b__law_kind
  obtain ⟨k, mem, ea⟩ := at_leaf w0 w1
  refine ⟨k, .lst x2, ?_, mem, T2⟩
  have mm : m = 0 ∨ m = 1 ∨ m = 2 := by omega
  by_cases d0 : d = 0
  · subst d0
    rcases mm with rfl | rfl | rfl
    · simp at e2
      simp [leaves, Kd.enc] at ea
      simp [z_lc, lcF, lcL, lcO, ownOk, tgt, wipeR, backR, rngD, mulV, eqD, sizeLine, forL, mutL, e1, e2, ea]
    · simp at e2
      simp [leaves, Kd.enc, List.range_succ] at ea
      simp [z_lc, lcF, lcL, lcO, ownOk, tgt, wipeR, backR, rngD, mulV, eqD, sizeLine, forL, mutL, e1, e2, ea, List.range_succ, List.replicate]
    · simp at e2
      simp [leaves, Kd.enc, List.range_succ] at ea
      simp [z_lc, lcF, lcL, lcO, ownOk, tgt, wipeR, backR, rngD, mulV, eqD, sizeLine, forL, mutL, e1, e2, ea, List.range_succ, List.replicate]
  · have v4 : v < 4 := by omega
    have d1 : ¬ (d : Int) = 0 := by omega
    rcases mm with rfl | rfl | rfl
    · simp at e2
      simp [leaves, Kd.enc] at ea
      simp [z_lc, lcF, lcL, lcO, ownOk, tgt, wipeR, backR, rngD, mulV, eqD, sizeLine, forL, mutL, e1, e2, ea, d0, v4]
    · simp at e2
      simp [leaves, Kd.enc, List.range_succ] at ea
      simp [z_lc, lcF, lcL, lcO, ownOk, tgt, wipeR, backR, rngD, mulV, eqD, sizeLine, forL, mutL, e1, e2, ea, d0, v4, List.range_succ, List.replicate]
    · simp at e2
      simp [leaves, Kd.enc, List.range_succ] at ea
      simp [z_lc, lcF, lcL, lcO, ownOk, tgt, wipeR, backR, rngD, mulV, eqD, sizeLine, forL, mutL, e1, e2, ea, d0, v4, List.range_succ, List.replicate]
/-- a drawn kind: so deep, of so many rules, with so many holes -/
def Kd.ok : Nat → Nat → Nat → Kd → Prop
  | _, m, _, .rule k => k < m
  | d + 1, m, h + 1, .hole a => a.ok d 0 h
  | d + 1, m, h, .sized a lo hi => a.ok d m h ∧ lo ≤ hi ∧ hi ≤ 4
  | d + 1, m, h, .point a => a.ok d m h
  | d + 1, m, h, .this a b => a.ok d m h ∧ b.ok d m h
  | d + 1, m, h, .both a b => a.ok d m h ∧ b.ok d m h
  | d + 1, m, h, .inn a (.sized b 1 3) => a.ok d m h ∧ b.ok d m h
  | _, _, _, .void => True | _, _, _, .unit => True | _, _, _, .one => True | _, _, _, .set => True | _, _, _, .row => True | _, _, _, .round => True
  | _, _, _, _ => False
theorem leaf_ok {d m h : Nat} {k : Kd} (q : k ∈ leaves m) : k.ok d m h := by
  simp [leaves] at q
  rcases q with rfl | rfl | rfl | rfl | rfl | rfl | rfl | rfl | ⟨i, hi, rfl⟩ <;> cases d <;> cases h <;> first | exact hi | exact trivial | (unfold Kd.ok; first | exact hi | exact trivial)
/-- how many draws a kind takes -/
def draws : Nat → Nat
  | 0 => 2
  | d + 1 => 4 + 2 * draws d

@[simp] theorem lg6 : Nat.log2 6 < 9000 := by decide
set_option maxHeartbeats 4000000 in
theorem kind_ok {n : Nat} {cs : List Int} (hc : cs.length ≤ 63) : ∀ {d S m h : Nat} {t : Val}, m ≤ 2 → d ≤ 2 → h ≤ 1 → Tape cs S t → S + 40 * d + 10 < 1000000 →
    ∃ (k : Kd) (t' : Val), sem fds (n + 2 + d) i__law_kind [t, .d (.int d), .d (.int m), .d (.int h)] = .ok (.d k.enc) [some t', some (.d (.int d)), some (.d (.int m)), some (.d (.int h))] ∧ k.ok d m h ∧ Tape cs (S + draws d) t'
  | 0, S, m, h, t, hm, hd, hh, T, hS => by
    obtain ⟨v, t1, e1, v0, v1, T1⟩ := draw (n := n) hc T (by omega) (m := 13) (by decide) (by decide)
    obtain ⟨k, t', e, q, T'⟩ := kind_leaf (h := h) hm hd hc T (by omega) T1 e1 (.inl rfl)
    exact ⟨k, t', e, leaf_ok q, T'⟩
  | d + 1, S, m, h, t, hm, hd, hh, T, hS => by
    obtain ⟨v, t1, e1, v0, v1, T1⟩ := draw (n := n + 1 + d) hc T (by omega) (m := 13) (by decide) (by decide)
    have dr : draws (d + 1) ≤ 20 ∧ draws d ≤ 8 := by
      have : d = 0 ∨ d = 1 := by omega
      rcases this with rfl | rfl <;> decide
    by_cases v4 : v < 4
    · obtain ⟨k, t', e, q, s', l', et, hs'⟩ := kind_leaf (n := n + 1 + d) (h := h) hm hd hc T (by omega) T1 e1 (.inr v4)
      exact ⟨k, t', by rw [show n + 2 + (d + 1) = n + 1 + d + 2 by omega]; exact e, leaf_ok q, s', l', et, by unfold draws; omega⟩
    · have d1 : ¬ (d : Int) + 1 = 0 := by omega
      have mm : m = 0 ∨ m = 1 ∨ m = 2 := by omega
      have e1' : sem fds (n + 2 + d) i__law_draw [t, .d (.int 13)] = .ok (.d (.int v)) [some t1, some (.d (.int 13))] := by rw [show n + 2 + d = n + 1 + d + 1 by omega]; exact e1
      by_cases vh : v = 11 ∧ h = 1
      · obtain ⟨rfl, rfl⟩ := vh
        obtain ⟨k, t2, e2, q, s', l', et, hs'⟩ := kind_ok (n := n) hc (d := d) (m := 0) (h := 0) (Nat.zero_le _) (by omega) (by omega) T1 (by omega)
        refine ⟨.hole k, t2, ?_, q, s', l', et, by unfold draws; omega⟩
        obtain ⟨x0, rfl⟩ := isMut_tape T
        obtain ⟨x1, rfl⟩ := isMut_tape T1
        subst et
        rw [show n + 2 + (d + 1) = n + 2 + d + 1 by omega, f__law_kind]
        unfold b__law_kind
        simp at e2
        rcases mm with rfl | rfl | rfl <;> simp [z_lc, lcF, lcL, lcO, ownOk, tgt, wipeR, backR, rngD, mulV, eqD, sizeLine, forL, mutL, e1', e2, d1, Kd.enc, List.range_succ, List.replicate]
      · obtain ⟨k, t2, e2, q, T2⟩ := kind_ok (n := n) hc (d := d) (m := m) (h := h) hm (by omega) hh T1 (by omega)
        have nh : ¬ (v = 11 ∧ (0 : Int) < (h : Int)) := fun z => vh ⟨z.1, by omega⟩
        by_cases v12 : v = 12
        · subst v12
          have Sd : S + 1 + draws d < 1000000 := by omega
          obtain ⟨a, t3, e3, a0, a1, T3⟩ := draw (n := n + 1 + d) hc T2 Sd (m := 3) (by decide) (by decide)
          obtain ⟨b, t4, e4, b0, b1, s', l', et, hs'⟩ := draw (n := n + 1 + d) hc T3 (by omega) (m := 3) (by decide) (by decide)
          obtain ⟨a, rfl⟩ := Int.eq_ofNat_of_zero_le a0
          obtain ⟨b, rfl⟩ := Int.eq_ofNat_of_zero_le b0
          refine ⟨.sized k a (a + b), t4, ?_, ⟨q, by omega, by omega⟩, s', l', et, by unfold draws; omega⟩
          subst et
          obtain ⟨x0, rfl⟩ := isMut_tape T
          obtain ⟨x1, rfl⟩ := isMut_tape T1
          obtain ⟨x2, rfl⟩ := isMut_tape T2
          obtain ⟨x3, rfl⟩ := isMut_tape T3
          rw [show n + 1 + d + 1 = n + 2 + d by omega] at e3 e4
          rw [show n + 2 + (d + 1) = n + 2 + d + 1 by omega, f__law_kind]
          unfold b__law_kind
          skip
          rcases mm with rfl | rfl | rfl <;> (try simp at e2) <;> simp [z_lc, lcF, lcL, lcO, ownOk, tgt, wipeR, backR, rngD, mulV, eqD, sizeLine, forL, mutL, e1', e2, e3, e4, d1, Kd.enc, List.range_succ, List.replicate]
        · by_cases v9 : 9 < v
          · refine ⟨.point k, t2, ?_, q, ?_⟩
            · obtain ⟨x0, rfl⟩ := isMut_tape T
              obtain ⟨x1, rfl⟩ := isMut_tape T1
              obtain ⟨x2, rfl⟩ := isMut_tape T2
              rw [show n + 2 + (d + 1) = n + 2 + d + 1 by omega, f__law_kind]
              unfold b__law_kind
              have vv : v = 10 ∨ (v = 11 ∧ h = 0) := by omega
              rcases vv with rfl | ⟨rfl, rfl⟩ <;> rcases mm with rfl | rfl | rfl <;> (try simp at e2) <;> simp [z_lc, lcF, lcL, lcO, ownOk, tgt, wipeR, backR, rngD, mulV, eqD, sizeLine, forL, mutL, e1', e2, d1, Kd.enc, List.range_succ, List.replicate]
            · obtain ⟨s', l', et, hs'⟩ := T2
              exact ⟨s', l', et, by unfold draws; omega⟩
          · obtain ⟨k2, t3, e3, q2, T3⟩ := kind_ok (n := n) hc (d := d) (m := m) (h := h) hm (by omega) hh T2 (by omega)
            have T4 : Tape cs (S + draws (d + 1)) t3 := by
              obtain ⟨s', l', et, hs'⟩ := T3
              exact ⟨s', l', et, by unfold draws; omega⟩
            by_cases v7 : 7 < v
            · refine ⟨.inn k (.sized k2 1 3), t3, ?_, ⟨q, q2⟩, T4⟩
              obtain ⟨x0, rfl⟩ := isMut_tape T
              obtain ⟨x1, rfl⟩ := isMut_tape T1
              obtain ⟨x2, rfl⟩ := isMut_tape T2
              obtain ⟨x3, rfl⟩ := isMut_tape T3
              rw [show n + 2 + (d + 1) = n + 2 + d + 1 by omega, f__law_kind]
              unfold b__law_kind
              have vv : v = 8 ∨ v = 9 := by omega
              rcases vv with rfl | rfl <;> rcases mm with rfl | rfl | rfl <;> (try simp at e2 e3) <;> simp [z_lc, lcF, lcL, lcO, ownOk, tgt, wipeR, backR, rngD, mulV, eqD, sizeLine, forL, mutL, e1', e2, e3, d1, Kd.enc, List.range_succ, List.replicate]
            · by_cases v6 : v < 6
              · refine ⟨.this k k2, t3, ?_, ⟨q, q2⟩, T4⟩
                obtain ⟨x0, rfl⟩ := isMut_tape T
                obtain ⟨x1, rfl⟩ := isMut_tape T1
                obtain ⟨x2, rfl⟩ := isMut_tape T2
                obtain ⟨x3, rfl⟩ := isMut_tape T3
                rw [show n + 2 + (d + 1) = n + 2 + d + 1 by omega, f__law_kind]
                unfold b__law_kind
                have vv : v = 4 ∨ v = 5 := by omega
                rcases vv with rfl | rfl <;> rcases mm with rfl | rfl | rfl <;> (try simp at e2 e3) <;> simp [z_lc, lcF, lcL, lcO, ownOk, tgt, wipeR, backR, rngD, mulV, eqD, sizeLine, forL, mutL, e1', e2, e3, d1, Kd.enc, List.range_succ, List.replicate]
              · refine ⟨.both k k2, t3, ?_, ⟨q, q2⟩, T4⟩
                obtain ⟨x0, rfl⟩ := isMut_tape T
                obtain ⟨x1, rfl⟩ := isMut_tape T1
                obtain ⟨x2, rfl⟩ := isMut_tape T2
                obtain ⟨x3, rfl⟩ := isMut_tape T3
                rw [show n + 2 + (d + 1) = n + 2 + d + 1 by omega, f__law_kind]
                unfold b__law_kind
                have vv : v = 6 ∨ v = 7 := by omega
                rcases vv with rfl | rfl <;> rcases mm with rfl | rfl | rfl <;> (try simp at e2 e3) <;> simp [z_lc, lcF, lcL, lcO, ownOk, tgt, wipeR, backR, rngD, mulV, eqD, sizeLine, forL, mutL, e1', e2, e3, d1, Kd.enc, List.range_succ, List.replicate]
/-- names, rising, so many -/
def NOk (m : Nat) (xs : List Int) : Prop := xs.length = m ∧ xs.Pairwise (· < ·) ∧ ∀ x ∈ xs, 0 ≤ x ∧ x < 100
@[simp] theorem atLast {α : Type} {x : α} : atI [x] (-1) = some x := rfl
@[simp] theorem atLast2 {α : Type} {x y : α} : atI [x, y] (-1) = some y := rfl
@[simp] theorem atLast3 {α : Type} {x y z : α} : atI [x, y, z] (-1) = some z := rfl
@[simp] theorem l281 : Nat.log2 28 + Nat.log2 1 < 1000000 := by decide
@[simp] theorem l282 : Nat.log2 28 + Nat.log2 2 < 1000000 := by decide
@[simp] theorem l283 : Nat.log2 28 + Nat.log2 3 < 1000000 := by decide
@[simp] theorem l284 : Nat.log2 28 + Nat.log2 4 < 1000000 := by decide
set_option maxHeartbeats 4000000 in
theorem names_ok {n S m : Nat} {cs : List Int} {t : Val} (hc : cs.length ≤ 63) (T : Tape cs S t) (hS : S + 10 < 1000000) (hm : m ≤ 4) :
    ∃ (xs : List Int) (t' : Val), sem fds (n + 2) i__law_some_names [t, .d (.int m)] = .ok (.d (.tuple (xs.map .int))) [some t', some (.d (.int m))] ∧ NOk m xs ∧ Tape cs (S + m) t' := by
  rw [f__law_some_names]
  unfold b__law_some_names
  have mm : m = 0 ∨ m = 1 ∨ m = 2 ∨ m = 3 ∨ m = 4 := by omega
  rcases mm with rfl | rfl | rfl | rfl | rfl
  · obtain ⟨x0, rfl⟩ := isMut_tape T
    exact ⟨[], .lst x0, by simp [z_lc, lcF, lcL, lcO, ownOk, tgt, wipeR, backR, rngD, mulV, eqD, sizeLine, forL, mutL], ⟨rfl, .nil, by simp⟩, T⟩
  · obtain ⟨a, t1, e1, a0, a1, T1⟩ := draw (n := n) hc T (by omega) (m := 100) (by decide) (by decide)
    obtain ⟨x0, rfl⟩ := isMut_tape T
    obtain ⟨x1, rfl⟩ := isMut_tape T1
    exact ⟨[a], .lst x1, by simp [z_lc, lcF, lcL, lcO, ownOk, tgt, wipeR, backR, rngD, mulV, eqD, sizeLine, forL, mutL, e1, List.range_succ], ⟨rfl, by simp [z_lc, lcF, lcL, lcO, ownOk, tgt, wipeR, backR, rngD, mulV, eqD, sizeLine, forL, mutL], by simp; omega⟩, T1⟩
  · obtain ⟨a, t1, e1, a0, a1, T1⟩ := draw (n := n) hc T (by omega) (m := 72) (by decide) (by decide)
    obtain ⟨b, t2, e2, b0, b1, T2⟩ := draw (n := n) hc T1 (by omega) (m := 28) (by decide) (by decide)
    obtain ⟨x0, rfl⟩ := isMut_tape T
    obtain ⟨x1, rfl⟩ := isMut_tape T1
    obtain ⟨x2, rfl⟩ := isMut_tape T2
    exact ⟨[a, a + 1 + b], .lst x2, by simp [z_lc, lcF, lcL, lcO, ownOk, tgt, wipeR, backR, rngD, mulV, eqD, sizeLine, forL, mutL, e1, e2, List.range_succ], ⟨rfl, by simp; omega, by simp; omega⟩, T2⟩
  · obtain ⟨a, t1, e1, a0, a1, T1⟩ := draw (n := n) hc T (by omega) (m := 44) (by decide) (by decide)
    obtain ⟨b, t2, e2, b0, b1, T2⟩ := draw (n := n) hc T1 (by omega) (m := 28) (by decide) (by decide)
    obtain ⟨c, t3, e3, c0, c1, T3⟩ := draw (n := n) hc T2 (by omega) (m := 28) (by decide) (by decide)
    obtain ⟨x0, rfl⟩ := isMut_tape T
    obtain ⟨x1, rfl⟩ := isMut_tape T1
    obtain ⟨x2, rfl⟩ := isMut_tape T2
    obtain ⟨x3, rfl⟩ := isMut_tape T3
    exact ⟨[a, a + 1 + b, a + 1 + b + 1 + c], .lst x3, by simp [z_lc, lcF, lcL, lcO, ownOk, tgt, wipeR, backR, rngD, mulV, eqD, sizeLine, forL, mutL, e1, e2, e3, List.range_succ], ⟨rfl, by simp; omega, by simp; omega⟩, T3⟩
  · obtain ⟨a, t1, e1, a0, a1, T1⟩ := draw (n := n) hc T (by omega) (m := 16) (by decide) (by decide)
    obtain ⟨b, t2, e2, b0, b1, T2⟩ := draw (n := n) hc T1 (by omega) (m := 28) (by decide) (by decide)
    obtain ⟨c, t3, e3, c0, c1, T3⟩ := draw (n := n) hc T2 (by omega) (m := 28) (by decide) (by decide)
    obtain ⟨d, t4, e4, d0, d1, T4⟩ := draw (n := n) hc T3 (by omega) (m := 28) (by decide) (by decide)
    obtain ⟨x0, rfl⟩ := isMut_tape T
    obtain ⟨x1, rfl⟩ := isMut_tape T1
    obtain ⟨x2, rfl⟩ := isMut_tape T2
    obtain ⟨x3, rfl⟩ := isMut_tape T3
    obtain ⟨x4, rfl⟩ := isMut_tape T4
    exact ⟨[a, a + 1 + b, a + 1 + b + 1 + c, a + 1 + b + 1 + c + 1 + d], .lst x4, by simp [z_lc, lcF, lcL, lcO, ownOk, tgt, wipeR, backR, rngD, mulV, eqD, sizeLine, forL, mutL, e1, e2, e3, e4, List.range_succ], ⟨rfl, by simp; omega, by simp; omega⟩, T4⟩
end KK
/-! QZ4: lists of whole numbers. -/
namespace Q
open PySem L2
theorem lcL_gen {α : Type} {tg : List Nat} {one : Bool} {own : List Nat} {c : Rho → Out Bool} {e : Rho → Out D} {a : α → D} {p : α → Bool} {g : α → D} {R : Rho} : ∀ (ys : List α) (acc : List D) (r : Rho), wipeR r own = R → ownOk r own = true →
    (∀ y ∈ ys, ∃ ra, tgt tg one (a y) R = some ra ∧ c ra = .ok (p y) ra ∧ (p y = true → e ra = .ok (g y) ra) ∧ wipeR ra own = R ∧ ownOk ra own = true) → acc.length + ys.length ≤ sizeLine →
    ∃ r', lcL tg one own c e (ys.map a) acc r = .ok (acc ++ (ys.filter p).map g) r' ∧ wipeR r' own = R ∧ ownOk r' own = true
  | [], acc, r, hr, ho, h, hl => ⟨r, by simp [lcL], hr, ho⟩
  | x :: xs, acc, r, hr, ho, h, hl => by
    obtain ⟨ra, e1, e2, e3, e4, e5⟩ := h x List.mem_cons_self
    simp only [List.length_cons] at hl
    rw [List.map_cons]
    unfold lcL
    rw [hr, e1]
    dsimp only
    rw [e2]
    cases q : p x with
    | true =>
      dsimp only
      rw [e3 q]
      dsimp only
      rw [if_pos (by omega)]
      obtain ⟨r', h1, h2, h3⟩ := lcL_gen xs (acc ++ [g x]) ra e4 e5 (fun y hy => h y (List.mem_cons_of_mem _ hy)) (by simp; omega)
      exact ⟨r', by rw [h1]; simp [q], h2, h3⟩
    | false =>
      dsimp only
      obtain ⟨r', h1, h2, h3⟩ := lcL_gen xs acc ra e4 e5 (fun y hy => h y (List.mem_cons_of_mem _ hy)) (by omega)
      exact ⟨r', by rw [h1]; simp [q], h2, h3⟩
/-- a comprehension that changes nothing, its items the images of some things -/
theorem lc_gen {α : Type} {F : FT} {own tg : List Nat} {one : Bool} {it cs elt : IE} {r r1 : Rho} {xs : List D} (ys : List α) (a : α → D) (p : α → Bool) (g : α → D) (hi : evI F it r = .ok xs r1) (hx : xs = ys.map a) (ho : ownOk r1 own = true) (hl : ys.length ≤ sizeLine)
    (hb : ∀ y ∈ ys, ∃ ra, tgt tg one (a y) (wipeR r1 own) = some ra ∧ tstO (evE F cs ra) = .ok (p y) ra ∧ (p y = true → treeO (evE F elt ra) = .ok (g y) ra) ∧ wipeR ra own = wipeR r1 own ∧ ownOk ra own = true) :
    evE F (.lc own tg one it cs elt) r = .ok (.v (.lst ((ys.filter p).map g))) r1 := by
  subst hx
  obtain ⟨r', e1, e2, e3⟩ := lcL_gen (c := fun r => tstO (evE F cs r)) (e := fun r => treeO (evE F elt r)) ys [] (wipeR r1 own) (wipe_wipe _ _) (ownOk_wipe _ _) hb (by simpa using hl)
  rw [z_lc]
  unfold lcF
  rw [hi, z_bd_ok, if_pos ho, e1]
  simp only [lcO, e3, if_true, List.nil_append]
  rw [back_of e2]
theorem lc_all {α : Type} {F : FT} {own tg : List Nat} {one : Bool} {it elt : IE} {r r1 : Rho} {xs : List D} (ys : List α) (a : α → D) (g : α → D) (hi : evI F it r = .ok xs r1) (hx : xs = ys.map a) (ho : ownOk r1 own = true) (hl : ys.length ≤ sizeLine)
    (hb : ∀ y ∈ ys, ∃ ra, tgt tg one (a y) (wipeR r1 own) = some ra ∧ treeO (evE F elt ra) = .ok (g y) ra ∧ wipeR ra own = wipeR r1 own ∧ ownOk ra own = true) :
    evE F (.lc own tg one it (.k (.bool true)) elt) r = .ok (.v (.lst (ys.map g))) r1 := by
  have h := lc_gen (F := F) (cs := .k (.bool true)) (elt := elt) (r := r) ys a (fun _ => true) g hi hx ho hl fun x hx => by
    obtain ⟨ra, a, b, c, d⟩ := hb x hx
    exact ⟨ra, a, by simp, fun _ => b, c, d⟩
  rw [h, List.filter_eq_self.mpr (fun _ _ => rfl)]
def nz (xs : List Int) : List D := xs.map .int
theorem nz_nil : nz [] = [] := rfl
theorem nz_cons {x : Int} {xs : List Int} : nz (x :: xs) = .int x :: nz xs := rfl
theorem nz_one {x : Int} : nz [x] = [.int x] := rfl
@[simp] theorem nz_app {a b : List Int} : nz a ++ nz b = nz (a ++ b) := by simp [nz]
@[simp] theorem nz_snoc {a : List Int} {x : Int} : nz a ++ [.int x] = nz (a ++ [x]) := by simp [nz]
@[simp] theorem nz_len {a : List Int} : (nz a).length = a.length := by simp [nz]
@[simp] theorem nz_rev {a : List Int} : (nz a).reverse = nz a.reverse := by simp [nz]
@[simp] theorem nz_drop {a : List Int} {n : Nat} : (nz a).drop n = nz (a.drop n) := by simp [nz]
@[simp] theorem nz_take {a : List Int} {n : Nat} : (nz a).take n = nz (a.take n) := by simp [nz]
theorem nz_inj {a b : List Int} : nz a = nz b ↔ a = b := by
  constructor
  · intro h
    exact map_inj_list (fun _ _ e => by cases e; rfl) h
  · intro h; rw [h]
@[simp] theorem nz_ints {a : List Int} : intsOf (nz a) = some a := y_intsOf
@[simp] theorem nz_flat {a : List Int} : (nz a).all flatD = true := by simp [nz, flatD]
theorem nz_mem {x : D} {a : List Int} : x ∈ nz a ↔ ∃ u ∈ a, x = .int u := by simp [nz, eq_comm]
@[simp] theorem nz_sortL {a : List Int} : f1V .sorted (.lst (nz a)) = some (.lst (nz (sortI a))) := y_sortL
@[simp] theorem nz_sortl {a : List Int} : f1V .sorted (.d (.list (nz a))) = some (.lst (nz (sortI a))) := y_sortl
@[simp] theorem nz_sortT {a : List Int} : f1V .sorted (.d (.tuple (nz a))) = some (.lst (nz (sortI a))) := y_sortT
def minI : List Int → Int
  | [] => 0
  | x :: r => minL x r
def maxI : List Int → Int
  | [] => 0
  | x :: r => maxL x r
theorem nz_minL {a : List Int} (h : a ≠ []) : f1V .min (.lst (nz a)) = some (.d (.int (minI a))) := by
  cases a with
  | nil => exact absurd rfl h
  | cons x r => exact y_minL
theorem nz_minT {a : List Int} (h : a ≠ []) : f1V .min (.d (.tuple (nz a))) = some (.d (.int (minI a))) := by
  cases a with
  | nil => exact absurd rfl h
  | cons x r => exact y_minT
theorem nz_maxL {a : List Int} (h : a ≠ []) : f1V .max (.lst (nz a)) = some (.d (.int (maxI a))) := by
  cases a with
  | nil => exact absurd rfl h
  | cons x r => exact y_maxL
theorem minI_mem {a : List Int} (h : a ≠ []) : minI a ∈ a := by
  cases a with
  | nil => exact absurd rfl h
  | cons x r => exact minL_mem x r
theorem minI_le {a : List Int} : ∀ y ∈ a, minI a ≤ y := by
  cases a with
  | nil => intro y h; cases h
  | cons x r => exact z_minL_le x r
theorem maxI_mem {a : List Int} (h : a ≠ []) : maxI a ∈ a := by
  cases a with
  | nil => exact absurd rfl h
  | cons x r => exact maxL_mem x r
theorem maxI_le {a : List Int} : ∀ y ∈ a, y ≤ maxI a := by
  cases a with
  | nil => intro y h; cases h
  | cons x r => exact z_maxL_le x r
@[simp] theorem nz_in {x : Int} : ∀ {a : List Int}, inD (.int x) (nz a) = decide (x ∈ a)
  | [] => by simp [nz]
  | y :: a => by
    have h := nz_in (x := x) (a := a)
    rw [nz_cons, y_inD1, h, y_eqv_i]
    by_cases c : y = x
    · simp [c]
    · have c' : ¬ x = y := fun e => c e.symm
      simp [c, c']
theorem idx_from {k : Int} : ∀ {a : List Int} {i : Nat}, k ∈ a → idxD (.int k) (nz a) i = some (i + a.idxOf k)
  | [], _, h => by cases h
  | y :: a, i, h => by
    rw [nz_cons]
    unfold idxD
    rw [y_eqv_i]
    by_cases c : y = k
    · simp [c, List.idxOf_cons]
    · rcases List.mem_cons.mp h with rfl | h
      · exact absurd rfl c
      · have c' : (y == k) = false := by simp [c]
        simp only [c, decide_false, Bool.false_eq_true, if_false, List.idxOf_cons, c', cond_false]
        rw [idx_from h]
        congr 1
        omega
theorem nz_idx {a : List Int} {k : Int} (h : k ∈ a) : idxD (.int k) (nz a) 0 = some (a.idxOf k) := by rw [idx_from h, Nat.zero_add]
theorem nz_idxT {a : List Int} {k : Int} (h : k ∈ a) : idxTV (nz a) k = some (a.idxOf k) := by
  unfold idxTV
  rw [nz_ints]
  exact nz_idx h
theorem nz_idxL {a : List Int} {k : Int} (h : k ∈ a) : mthV .index (.lst (nz a)) [.d (.int k)] = some (.d (.int (a.idxOf k))) := by
  simp [mthV, nz_idx h]
theorem nz_at {a : List Int} {i : Nat} (h : i < a.length) : atI (nz a) (i : Int) = some (.int a[i]) := by
  rw [atN (by simpa using h)]
  simp [nz]
theorem nz_last {a : List Int} {x : Int} : atI (nz (a ++ [x])) (-1) = some (.int x) := by
  rw [← nz_snoc, at_last]
theorem nz_cutm1 {a : List Int} {x : Int} : cutD (nz (a ++ [x])) none (some (-1)) = nz a := by rw [← nz_snoc, cut_m1]
theorem nz_range {n : Nat} : (List.range n).map (fun (i : Nat) => PyData.int (i : Int)) = nz ((List.range n).map fun (i : Nat) => (i : Int)) := by simp [nz]
/-- a dict of numbers, all unlike -/
def kz (f : Int → Int) (U : List Int) : List (Key × D) := U.map fun u => (.inl u, .int (f u))
def pz (f : Int → Int) (U : List Int) : List D := U.map fun u => .tuple [.int u, .int (f u)]
theorem pz_pairs {f : Int → Int} : ∀ {U : List Int}, pairsOf (pz f U) = some (kz f U)
  | [] => rfl
  | u :: U => by
    have h := pz_pairs (f := f) (U := U)
    simp only [pz, kz, List.map_cons] at h ⊢
    simp [pairsOf, keyOf, h]
theorem kz_keys {f : Int → Int} {U : List Int} : (kz f U).map (·.1) = U.map .inl := by simp [kz]
theorem kz_merge {f : Int → Int} {U : List Int} (h : U.Nodup) : mergeD [] (kz f U) = kz f U := by
  rw [mergeD_new]
  · rfl
  · rw [List.nil_append, kz_keys]
    exact List.Pairwise.map _ (fun a b hab e => hab (by cases e; rfl)) h
theorem kz_dictL {f : Int → Int} {U : List Int} (h : U.Nodup) : f1V .dict (.lst (pz f U)) = some (.dct (kz f U)) := by simp [f1V, pz_pairs, kz_merge h]
theorem kz_dictT {f : Int → Int} {U : List Int} (h : U.Nodup) : f1V .dict (.d (.tuple (pz f U))) = some (.dct (kz f U)) := by simp [f1V, pz_pairs, kz_merge h]
theorem kz_look {f : Int → Int} {x : Int} : ∀ {U : List Int}, x ∈ U → lookD (kz f U) (.inl x) = some (.int (f x))
  | [], h => by cases h
  | u :: U, h => by
    have e : kz f (u :: U) = (.inl u, .int (f u)) :: kz f U := rfl
    rw [e, lookD_cons]
    by_cases c : u = x
    · subst c; simp
    · rw [if_neg (fun z => c (by cases z; rfl))]
      rcases List.mem_cons.mp h with rfl | h
      · exact absurd rfl c
      · exact kz_look h
theorem kz_vals {f : Int → Int} {U : List Int} : (kz f U).map (·.2) = nz (U.map f) := by simp [kz, nz]
@[simp] theorem kz_len {f : Int → Int} {U : List Int} : (kz f U).length = U.length := by simp [kz]
theorem kz_put {f : Int → Int} {U : List Int} {h h' : Int} (q : h ∉ U) : putD (kz f U) (.inl h) (.int h') = kz (fun x => if x = h then h' else f x) (U ++ [h]) := by
  rw [putD_new]
  · simp only [kz, List.map_append, List.map_cons, List.map_nil, if_true]
    congr 1
    exact List.map_congr_left fun u hu => by rw [if_neg (fun e => q (by rw [← e]; exact hu))]
  · rw [kz_keys]
    intro z
    obtain ⟨a, ha, e⟩ := List.mem_map.mp z
    cases e
    exact q ha
/-- the order of unlike numbers -/
theorem idx_getElem {l : List Int} (h : l.Nodup) {k : Nat} (hk : k < l.length) : l.idxOf l[k] = k := h.idxOf_getElem k hk
theorem order_step {ls : List Int} (h : ls.Nodup) {T : Int → D} {k : Nat} (hk : k < ls.length) :
    ((sortI ls).map fun l => if ls.idxOf l < k then T l else .none).set ((sortI ls).idxOf ls[k]) (T ls[k]) = (sortI ls).map fun l => if ls.idxOf l < k + 1 then T l else .none := by
  have p := z_sortI_perm ls
  have ho : (sortI ls).Nodup := p.nodup_iff.mpr h
  apply List.ext_getElem
  · simp
  · intro j h1 h2
    have hj : j < (sortI ls).length := by simpa using h2
    rw [List.getElem_set, List.getElem_map, List.getElem_map]
    by_cases c : (sortI ls).idxOf ls[k] = j
    · have e : (sortI ls)[j] = ls[k] := by subst c; exact List.getElem_idxOf hj
      simp only [c, if_true, e, idx_getElem h hk]
      rw [if_pos (by omega)]
    · have e : ls.idxOf (sortI ls)[j] ≠ k := by
        intro q
        have m : (sortI ls)[j] ∈ ls := p.mem_iff.mp (List.getElem_mem _)
        have z : ls.idxOf (sortI ls)[j] < ls.length := List.idxOf_lt_length_of_mem m
        have q2 : ls[ls.idxOf (sortI ls)[j]] = (sortI ls)[j] := List.getElem_idxOf z
        apply c
        have q3 : ls[k] = (sortI ls)[j] := by rw [← q2]; simp [q]
        rw [q3, idx_getElem ho hj]
      simp only [c, if_false]
      by_cases q : ls.idxOf (sortI ls)[j] < k
      · rw [if_pos q, if_pos (by omega)]
      · rw [if_neg q, if_neg (by omega)]
theorem order_none {ls : List Int} {T : Int → D} : ((sortI ls).map fun l => if ls.idxOf l < 0 then T l else .none) = List.replicate ls.length .none := by
  rw [List.eq_replicate_iff]
  exact ⟨by simp, by simp⟩
theorem order_all {ls : List Int} {T : Int → D} : ((sortI ls).map fun l => if ls.idxOf l < ls.length then T l else .none) = (sortI ls).map T := by
  apply List.map_congr_left
  intro l hl
  rw [if_pos (List.idxOf_lt_length_of_mem ((z_sortI_perm ls).mem_iff.mp hl))]
end Q
namespace KK
open PySem L2 Q

/-- a structure on the names U, so deep -/
inductive On : Nat → List Int → D → Prop where
  | unit {n : Nat} : On n [] (.tuple [.str "unit"])
  | one {n : Nat} {u : Int} : On n [u] (.tuple [.str "one", .int u])
  | set {n : Nat} {U : List Int} : On n U (.tuple [.str "set", .tuple (nz U)])
  | row {n : Nat} {U V : List Int} : V.Perm U → On n U (.tuple [.str "row", .tuple (nz V)])
  | round {n : Nat} {U V : List Int} : V.Perm U → V ≠ [] → On n U (.tuple [.str "round", .tuple (nz V)])
  | this {n : Nat} {U : List Int} {s : D} {b : Int} : On n U s → On (n + 1) U (.tuple [.str "this", .int b, s])
  | rule {n : Nat} {U : List Int} {s : D} {b : Int} : On n U s → On (n + 1) U (.tuple [.str "rule", .int b, s])
  | point {n : Nat} {U : List Int} {s : D} {u : Int} : u ∈ U → On n U s → On (n + 1) U (.tuple [.str "point", .int u, s])
  | hole {n : Nat} {U : List Int} {s : D} {h : Int} : On n (U ++ [h]) s → (∀ u ∈ U, u < h) → On (n + 1) U (.tuple [.str "hole", s])
  | both {n : Nat} {U V W : List Int} {s t : D} : Rise V → Rise W → On n V s → On n W t → (V ++ W).Perm U → On (n + 1) U (.tuple [.str "both", s, t])
  | inn {n : Nat} {U : List Int} {f : D} {bs : List (List Int × D)} : On n ((List.range bs.length).map fun (i : Nat) => (i : Int)) f → (∀ p ∈ bs, p.1 ≠ []) → (∀ p ∈ bs, Rise p.1) → (∀ p ∈ bs, On n p.1 p.2) →
      ((bs.map (·.1)).flatten).Perm U → On (n + 1) U (.tuple [.str "in", f, .tuple (bs.map (·.2))])
theorem On.mono {n : Nat} {U : List Int} {s : D} (h : On n U s) : ∀ {m : Nat}, n ≤ m → On m U s := by
  induction h with
  | unit => exact fun _ => .unit
  | one => exact fun _ => .one
  | set => exact fun _ => .set
  | row p => exact fun _ => .row p
  | round p q => exact fun _ => .round p q
  | this _ ih => intro m hm; obtain ⟨m, rfl⟩ : ∃ k, m = k + 1 := ⟨m - 1, by omega⟩; exact .this (ih (by omega))
  | rule _ ih => intro m hm; obtain ⟨m, rfl⟩ : ∃ k, m = k + 1 := ⟨m - 1, by omega⟩; exact .rule (ih (by omega))
  | point p _ ih => intro m hm; obtain ⟨m, rfl⟩ : ∃ k, m = k + 1 := ⟨m - 1, by omega⟩; exact .point p (ih (by omega))
  | hole _ p ih => intro m hm; obtain ⟨m, rfl⟩ : ∃ k, m = k + 1 := ⟨m - 1, by omega⟩; exact .hole (ih (by omega)) p
  | both a b _ _ p ih1 ih2 => intro m hm; obtain ⟨m, rfl⟩ : ∃ k, m = k + 1 := ⟨m - 1, by omega⟩; exact .both a b (ih1 (by omega)) (ih2 (by omega)) p
  | inn _ a b _ p ih1 ih2 => intro m hm; obtain ⟨m, rfl⟩ : ∃ k, m = k + 1 := ⟨m - 1, by omega⟩; exact .inn (ih1 (by omega)) a b (fun p hp => ih2 p hp (by omega)) p
theorem perm_flat {bs : List (List Int × D)} {p : List Int × D} (h : p ∈ bs) : p.1.length ≤ ((bs.map (·.1)).flatten).length := by
  induction bs with
  | nil => cases h
  | cons q r ih =>
    simp only [List.map_cons, List.flatten_cons, List.length_append]
    rcases List.mem_cons.mp h with rfl | h
    · omega
    · have := ih h; omega
theorem rise_snoc {U : List Int} {h : Int} (a : Rise U) (b : ∀ u ∈ U, u < h) : Rise (U ++ [h]) := by
  unfold Rise
  rw [List.pairwise_append]
  exact ⟨a, by simp, fun x hx y hy => by simp at hy; subst hy; exact b x hx⟩
theorem sizeLine_eq : sizeLine = 16777216 := rfl
set_option maxHeartbeats 4000000 in
theorem names_of_ok : ∀ {n : Nat} {U : List Int} {s : D}, On n U s → Rise U → U.length + n ≤ 1000 → ∀ N, n < N → sem fds N i_names_of [.d s] = .ok (.d (.tuple (nz U))) [some (.d s)] := by
  intro n
  induction n with
  | zero =>
    intro U s h hU hL N hN
    obtain ⟨N, rfl⟩ : ∃ k, N = k + 1 := ⟨N - 1, by omega⟩
    rw [f_names_of]
    unfold b_names_of
    cases h with
    | unit => simp [nz]
    | one => simp [nz]
    | set => simp [sortI_of hU (.refl _)]
    | row p => simp [sortI_of hU p]
    | round p q => simp [sortI_of hU p]
  | succ n ih =>
    intro U s h hU hL N hN
    obtain ⟨N, rfl⟩ : ∃ k, N = k + 1 := ⟨N - 1, by omega⟩
    rw [f_names_of]
    unfold b_names_of
    cases h with
    | unit => simp [nz]
    | one => simp [nz]
    | set => simp [sortI_of hU (.refl _)]
    | row p => simp [sortI_of hU p]
    | round p q => simp [sortI_of hU p]
    | this h => simp [ih h hU (by omega) N (by omega)]
    | rule h => simp [ih h hU (by omega) N (by omega)]
    | point p h => simp [ih h hU (by omega) N (by omega)]
    | hole h p => simp [ih h (rise_snoc hU p) (by simp; omega) N (by omega), nz_cutm1]
    | both a b h1 h2 p =>
      rename_i V W s t
      have hl := p.length_eq
      simp at hl
      have g : V.length + W.length ≤ sizeLine := by rw [sizeLine_eq]; omega
      simp [ih h1 a (by omega) N (by omega), ih h2 b (by omega) N (by omega), g, sortI_of hU p]
    | inn h1 a b h2 p =>
      rename_i f bs
      have hl := p.length_eq
      simp
      obtain ⟨r', e, h⟩ := forL_inv (tg := [2]) (one := true) (pin := [false]) (b := evS (sem fds N) [false] (.ex (.ext 1 (.call i_names_of (.cons (.var 2) .nil)))))
        (fun xs r => ∃ (y : Option Val) (A : List Int) (c : List (List Int × D)), (∀ p ∈ c, p ∈ bs) ∧ xs = c.map (·.2) ∧ A ++ (c.map (·.1)).flatten = (bs.map (·.1)).flatten ∧ r = [some (.d (.tuple [.str "in", f, .tuple (bs.map (·.2))])), some (.lst (nz A)), y]) rfl
        (by
          rintro x xs r ⟨y, A, c, hc, hx, hA, rfl⟩
          cases c with
          | nil => cases hx
          | cons q c =>
            simp at hx
            obtain ⟨rfl, rfl⟩ := hx
            have hq := hc q List.mem_cons_self
            have hql := perm_flat hq
            have hlA := congrArg List.length hA
            simp only [List.map_cons, List.flatten_cons, List.length_append] at hlA
            have g : A.length + q.1.length ≤ sizeLine := by rw [sizeLine_eq]; omega
            refine ⟨_, rfl, [some (.d (.tuple [.str "in", f, .tuple (bs.map (·.2))])), some (.lst (nz (A ++ q.1))), some (.d q.2)], .inl ?_, some (.d q.2), A ++ q.1, c, fun p hp => hc p (List.mem_cons_of_mem _ hp), rfl, by rw [← hA]; simp, rfl⟩
            simp [ih (h2 q hq) (b q hq) (by omega) N (by omega), g])
        (bs.map (·.2)) _ ⟨none, [], bs, fun _ h => h, rfl, by simp, rfl⟩
      obtain ⟨y, A, c, hc, hx, hA, rfl⟩ := h
      simp at hx
      subst hx
      simp at hA
      subst hA
      simp [nz_nil] at e
      simp [e, sortI_of hU p]
end KK
namespace KK
open PySem L2 Q
set_option maxHeartbeats 4000000 in
theorem law_names_ok : ∀ {n : Nat} {U : List Int} {s : D}, On n U s → Rise U → U.length + n ≤ 1000 → ∀ N, n < N → sem fds N i__law_names [.d s] = .ok (.d (.tuple (nz U))) [some (.d s)] := by
  intro n
  induction n with
  | zero =>
    intro U s h hU hL N hN
    obtain ⟨N, rfl⟩ : ∃ k, N = k + 1 := ⟨N - 1, by omega⟩
    rw [f__law_names]
    unfold b__law_names
    cases h with
    | unit => simp [nz]
    | one => simp [nz]
    | set => simp [sortI_of hU (.refl _)]
    | row p => simp [sortI_of hU p]
    | round p q => simp [sortI_of hU p]
  | succ n ih =>
    intro U s h hU hL N hN
    obtain ⟨N, rfl⟩ : ∃ k, N = k + 1 := ⟨N - 1, by omega⟩
    rw [f__law_names]
    unfold b__law_names
    cases h with
    | unit => simp [nz]
    | one => simp [nz]
    | set => simp [sortI_of hU (.refl _)]
    | row p => simp [sortI_of hU p]
    | round p q => simp [sortI_of hU p]
    | this h => simp [ih h hU (by omega) N (by omega)]
    | rule h => simp [ih h hU (by omega) N (by omega)]
    | point p h => simp [ih h hU (by omega) N (by omega)]
    | hole h p => simp [ih h (rise_snoc hU p) (by simp; omega) N (by omega), nz_cutm1]
    | both a b h1 h2 p =>
      rename_i V W s t
      have hl := p.length_eq
      simp at hl
      have g0 : V.length ≤ sizeLine := by rw [sizeLine_eq]; omega
      have g : V.length + W.length ≤ sizeLine := by rw [sizeLine_eq]; omega
      simp [ih h1 a (by omega) N (by omega), ih h2 b (by omega) N (by omega), g, g0, sortI_of hU p]
    | inn h1 a b h2 p =>
      rename_i f bs
      have hl := p.length_eq
      simp
      obtain ⟨r', e, h⟩ := forL_inv (tg := [2]) (one := true) (pin := [false]) (b := evS (sem fds N) [false] (.ex (.ext 1 (.call i__law_names (.cons (.var 2) .nil)))))
        (fun xs r => ∃ (y : Option Val) (A : List Int) (c : List (List Int × D)), (∀ p ∈ c, p ∈ bs) ∧ xs = c.map (·.2) ∧ A ++ (c.map (·.1)).flatten = (bs.map (·.1)).flatten ∧ r = [some (.d (.tuple [.str "in", f, .tuple (bs.map (·.2))])), some (.lst (nz A)), y]) rfl
        (by
          rintro x xs r ⟨y, A, c, hc, hx, hA, rfl⟩
          cases c with
          | nil => cases hx
          | cons q c =>
            simp at hx
            obtain ⟨rfl, rfl⟩ := hx
            have hq := hc q List.mem_cons_self
            have hql := perm_flat hq
            have hlA := congrArg List.length hA
            simp only [List.map_cons, List.flatten_cons, List.length_append] at hlA
            have g : A.length + q.1.length ≤ sizeLine := by rw [sizeLine_eq]; omega
            refine ⟨_, rfl, [some (.d (.tuple [.str "in", f, .tuple (bs.map (·.2))])), some (.lst (nz (A ++ q.1))), some (.d q.2)], .inl ?_, some (.d q.2), A ++ q.1, c, fun p hp => hc p (List.mem_cons_of_mem _ hp), rfl, by rw [← hA]; simp, rfl⟩
            simp [ih (h2 q hq) (b q hq) (by omega) N (by omega), g])
        (bs.map (·.2)) _ ⟨none, [], bs, fun _ h => h, rfl, by simp, rfl⟩
      obtain ⟨y, A, c, hc, hx, hA, rfl⟩ := h
      simp at hx
      subst hx
      simp at hA
      subst hA
      simp [nz_nil] at e
      simp [e, sortI_of hU p]
end KK
/-! QZ5: trees that can be compared; leads. -/
namespace Q
open PySem L2
/-- a tree that == can be asked of, so deep -/
def Tr (n : Nat) (x : D) : Prop := x.canLay0 = true ∧ x.depth ≤ n
theorem Tr.mono {n m : Nat} {x : D} (h : Tr n x) (q : n ≤ m) : Tr m x := ⟨h.1, Nat.le_trans h.2 q⟩
theorem tr_int {n : Nat} {i : Int} : Tr n (.int i) := ⟨by simp only [PyData.canLay0], by simp only [PyData.depth]; omega⟩
theorem tr_all {n : Nat} : ∀ {xs : List D}, (∀ x ∈ xs, Tr n x) → PyData.canLayAll0 xs = true ∧ PyData.depthAll xs ≤ n
  | [], _ => ⟨by simp only [PyData.canLayAll0], by simp only [PyData.depthAll]; omega⟩
  | x :: xs, h => by
    have a := h x List.mem_cons_self
    have b := tr_all fun y hy => h y (List.mem_cons_of_mem _ hy)
    refine ⟨by simp only [PyData.canLayAll0, a.1, b.1, Bool.and_self], ?_⟩
    simp only [PyData.depthAll]
    exact Nat.max_le.mpr ⟨a.2, b.2⟩
theorem tr_tup {n : Nat} {xs : List D} (h : ∀ x ∈ xs, Tr n x) : Tr (n + 1) (.tuple xs) := by
  have a := tr_all h
  exact ⟨by simp only [PyData.canLay0, a.1], by simp only [PyData.depth]; omega⟩
theorem tr_lst {n : Nat} {xs : List D} (h : ∀ x ∈ xs, Tr n x) : Tr (n + 1) (.list xs) := by
  have a := tr_all h
  exact ⟨by simp only [PyData.canLay0, a.1], by simp only [PyData.depth]; omega⟩
theorem tr_nz {n : Nat} {xs : List Int} : Tr (n + 1) (.tuple (nz xs)) := tr_tup fun x hx => by
  obtain ⟨u, _, rfl⟩ := nz_mem.mp hx
  exact tr_int
theorem tr_str {n : Nat} {s : String} (h : Tr 0 (.str (Str.ofString s))) : Tr n (.str (Str.ofString s)) := h.mono (Nat.zero_le _)
theorem Tr.shaped {n : Nat} {x : D} (h : Tr n x) (q : n ≤ 64) : SeqAt.shaped x = true := by
  unfold SeqAt.shaped
  rw [h.1, Bool.true_and]
  exact decide_eq_true (Nat.le_trans h.2 q)
theorem tr_eqT {n m : Nat} {x y : List D} (hx : Tr n (.tuple x)) (hy : Tr m (.tuple y)) (a : n ≤ 64) (b : m ≤ 64) : eqD (.tuple x) (.tuple y) = some (PyData.eqv (.tuple x) (.tuple y)) := by
  unfold eqD
  dsimp only
  rw [hx.shaped a, hy.shaped b]
  rfl
theorem tr_eqL {n m : Nat} {x y : List D} (hx : Tr n (.list x)) (hy : Tr m (.list y)) (a : n ≤ 64) (b : m ≤ 64) : eqD (.list x) (.list y) = some (PyData.eqv (.list x) (.list y)) := by
  unfold eqD
  dsimp only
  rw [hx.shaped a, hy.shaped b]
  rfl
/-! ### == of trees -/
theorem eqv_nz : ∀ {a b : List Int}, PyData.eqvAll (nz a) (nz b) = decide (a = b)
  | [], [] => by simp [nz, PyData.eqvAll]
  | [], y :: b => by simp [nz, PyData.eqvAll]
  | x :: a, [] => by simp [nz, PyData.eqvAll]
  | x :: a, y :: b => by
    have h := eqv_nz (a := a) (b := b)
    rw [nz_cons, nz_cons]
    simp only [PyData.eqvAll, y_eqv_i, h, List.cons.injEq]
    by_cases c : x = y <;> by_cases d : a = b <;> simp [c, d]
@[simp] theorem eqD_nz {a b : List Int} : eqD (.tuple (nz a)) (.tuple (nz b)) = some (decide (a = b)) := by
  rw [tr_eqT (n := 1) (m := 1) tr_nz tr_nz (by decide) (by decide)]
  simp only [PyData.eqv, eqv_nz]
@[simp] theorem eqD_nzl {a b : List Int} : eqD (.list (nz a)) (.list (nz b)) = some (decide (a = b)) := by
  rw [tr_eqL (n := 1) (m := 1) (tr_lst fun x hx => by obtain ⟨u, _, rfl⟩ := nz_mem.mp hx; exact tr_int) (tr_lst fun x hx => by obtain ⟨u, _, rfl⟩ := nz_mem.mp hx; exact tr_int) (by decide) (by decide)]
  simp only [PyData.eqv, eqv_nz]
/-- the iterator changes nothing -/
theorem lc_same {α : Type} {F : FT} {own tg : List Nat} {one : Bool} {it elt : IE} {r : Rho} {xs : List D} (ys : List α) (a : α → D) (g : α → D) (hi : evI F it r = .ok xs r) (hx : xs = ys.map a) (ho : ownOk r own = true) (hl : ys.length ≤ sizeLine)
    (hb : ∀ y ∈ ys, ∃ ra, tgt tg one (a y) (wipeR r own) = some ra ∧ treeO (evE F elt ra) = .ok (g y) ra ∧ wipeR ra own = wipeR r own ∧ ownOk ra own = true) :
    evE F (.lc own tg one it (.k (.bool true)) elt) r = .ok (.v (.lst (ys.map g))) r := lc_all ys a g hi hx ho hl hb
theorem lcg_same {α : Type} {F : FT} {own tg : List Nat} {one : Bool} {it cs elt : IE} {r : Rho} {xs : List D} (ys : List α) (a : α → D) (p : α → Bool) (g : α → D) (hi : evI F it r = .ok xs r) (hx : xs = ys.map a) (ho : ownOk r own = true) (hl : ys.length ≤ sizeLine)
    (hb : ∀ y ∈ ys, ∃ ra, tgt tg one (a y) (wipeR r own) = some ra ∧ tstO (evE F cs ra) = .ok (p y) ra ∧ (p y = true → treeO (evE F elt ra) = .ok (g y) ra) ∧ wipeR ra own = wipeR r own ∧ ownOk ra own = true) :
    evE F (.lc own tg one it cs elt) r = .ok (.v (.lst ((ys.filter p).map g))) r := lc_gen ys a p g hi hx ho hl hb
theorem mul_rep {x : D} {m : Nat} (h : m ≤ sizeLine) : mulV (.lst [x]) (.d (.int (m : Int))) = some (.lst (List.replicate m x)) := by
  have h' : m ≤ 16777216 := h
  rw [y_mulL, if_pos ⟨by omega, by omega, by rw [Int.toNat_natCast, List.length_singleton, Nat.one_mul]; exact h⟩, Int.toNat_natCast]
  congr 2
  clear h h'
  induction m with
  | zero => rfl
  | succ m ih => rw [List.replicate_succ, List.flatten_cons, ih]; rfl
theorem rngK_nat {m : Nat} {r : Rho} (h : m ≤ sizeLine) : rngK (some (.d (.int (m : Int)))) r = .ok ((List.range m).map fun (k : Nat) => .int (k : Int)) r := by
  have h' : m ≤ 16777216 := h
  rw [rngK_i, if_pos ⟨by omega, by omega⟩, Int.toNat_natCast, rng0]
/-! ### leads -/
def Agr (kvs : List (Key × D)) (f : Int → Int) (U : List Int) : Prop := ∀ u ∈ U, lookD kvs (.inl u) = some (.int (f u))
def Inj (f : Int → Int) (U : List Int) : Prop := ∀ a ∈ U, ∀ b ∈ U, f a = f b → a = b
theorem Inj.nodup {f : Int → Int} {U : List Int} (h : Inj f U) (q : U.Nodup) : (U.map f).Nodup := by
  unfold List.Nodup
  rw [List.pairwise_map]
  exact List.Pairwise.imp_of_mem (fun {a b} ha hb hab e => hab (h a ha b hb e)) q
theorem kz_agr {f : Int → Int} {U : List Int} : Agr (kz f U) f U := fun _ h => kz_look h
theorem z_gt_ne {r : Rho} {i j : Nat} {o : Option Val} (h : i ≠ j) : gt (r.set j o) i = gt r i := by
  unfold gt
  rw [List.getD_eq_getElem?_getD, List.getD_eq_getElem?_getD, List.getElem?_set_ne (Ne.symm h)]
theorem z_gt_eq {r : Rho} {j : Nat} {o : Option Val} (h : j < r.length) : gt (r.set j o) j = o := by
  unfold gt
  rw [List.getD_eq_getElem?_getD, List.getElem?_set_self h]
  rfl
/-- [to[name] for name in row] -/
theorem lead_row {F : FT} {i j : Nat} {e : IE} {r : Rho} {V : List Int} (kvs : List (Key × D)) (f : Int → Int) (he : evE F e r = .ok (.v (.d (.tuple (nz V)))) r) (hi : gt r i = some (.dct kvs)) (hj : j < r.length) (hij : i ≠ j) (ho : ownOk r [j] = true) (ha : Agr kvs f V) (hl : V.length ≤ sizeLine) :
    evE F (.lc [j] [j] true (.seq e) (.k (.bool true)) (.ix (.var i) (.var j))) r = .ok (.v (.lst (nz (V.map f)))) r := by
  have h := lc_all (F := F) (own := [j]) (tg := [j]) (one := true) (it := .seq e) (elt := .ix (.var i) (.var j)) (r := r) (r1 := r) (xs := nz V) V .int (fun v => .int (f v)) (by simp [he]) rfl ho hl fun v hv => by
    refine ⟨(r.set j none).set j (some (.d (.int v))), by simp [wipeR], ?_, by simp [wipeR], ?_⟩
    · have e1 : gt ((r.set j none).set j (some (.d (.int v)))) j = some (.d (.int v)) := z_gt_eq (by simpa using hj)
      have e2 : gt ((r.set j none).set j (some (.d (.int v)))) i = some (.dct kvs) := by rw [z_gt_ne hij, z_gt_ne hij, hi]
      simp only [z_ix, z_var, e1, e2, varH_k, varH_d, z_bd_ok, kV_eq, kW_eq, l2_s, l1_s, z_dr_s, z_dr_v, y_ixDi, ha v hv, z_tree_v]
    · have e1 : gt ((r.set j none).set j (some (.d (.int v)))) j = some (.d (.int v)) := z_gt_eq (by simpa using hj)
      simp only [ownOk, List.all_cons, List.all_nil, e1, z_mut_d, Bool.not_false, Bool.and_self]
  rw [h]
  simp [nz]
/-- the same of a list -/
theorem lead_rowL {F : FT} {i j : Nat} {e : IE} {r : Rho} {V : List Int} (kvs : List (Key × D)) (f : Int → Int) (he : evE F e r = .ok (.v (.lst (nz V))) r) (hi : gt r i = some (.dct kvs)) (hj : j < r.length) (hij : i ≠ j) (ho : ownOk r [j] = true) (ha : Agr kvs f V) (hl : V.length ≤ sizeLine) :
    evE F (.lc [j] [j] true (.seq e) (.k (.bool true)) (.ix (.var i) (.var j))) r = .ok (.v (.lst (nz (V.map f)))) r := by
  have h := lc_all (F := F) (own := [j]) (tg := [j]) (one := true) (it := .seq e) (elt := .ix (.var i) (.var j)) (r := r) (r1 := r) (xs := nz V) V .int (fun v => .int (f v)) (by simp [he]) rfl ho hl fun v hv => by
    refine ⟨(r.set j none).set j (some (.d (.int v))), by simp [wipeR], ?_, by simp [wipeR], ?_⟩
    · have e1 : gt ((r.set j none).set j (some (.d (.int v)))) j = some (.d (.int v)) := z_gt_eq (by simpa using hj)
      have e2 : gt ((r.set j none).set j (some (.d (.int v)))) i = some (.dct kvs) := by rw [z_gt_ne hij, z_gt_ne hij, hi]
      simp only [z_ix, z_var, e1, e2, varH_k, varH_d, z_bd_ok, kV_eq, kW_eq, l2_s, l1_s, z_dr_s, z_dr_v, y_ixDi, ha v hv, z_tree_v]
    · have e1 : gt ((r.set j none).set j (some (.d (.int v)))) j = some (.d (.int v)) := z_gt_eq (by simpa using hj)
      simp only [ownOk, List.all_cons, List.all_nil, e1, z_mut_d, Bool.not_false, Bool.and_self]
  rw [h]
  simp [nz]
/-- [(name, to[name]) for name in row] -/
theorem lead_pairs {F : FT} {i j : Nat} {e : IE} {r : Rho} {V : List Int} (kvs : List (Key × D)) (f : Int → Int) (he : evE F e r = .ok (.v (.d (.tuple (nz V)))) r) (hi : gt r i = some (.dct kvs)) (hj : j < r.length) (hij : i ≠ j) (ho : ownOk r [j] = true) (ha : Agr kvs f V) (hl : V.length ≤ sizeLine) :
    evE F (.lc [j] [j] true (.seq e) (.k (.bool true)) (.tup (.cons (.var j) (.cons (.ix (.var i) (.var j)) .nil)))) r = .ok (.v (.lst (pz f V))) r := by
  have h := lc_all (F := F) (own := [j]) (tg := [j]) (one := true) (it := .seq e) (elt := .tup (.cons (.var j) (.cons (.ix (.var i) (.var j)) .nil))) (r := r) (r1 := r) (xs := nz V) V .int (fun v => .tuple [.int v, .int (f v)]) (by simp [he]) rfl ho hl fun v hv => by
    refine ⟨(r.set j none).set j (some (.d (.int v))), by simp [wipeR], ?_, by simp [wipeR], ?_⟩
    · have e1 : gt ((r.set j none).set j (some (.d (.int v)))) j = some (.d (.int v)) := z_gt_eq (by simpa using hj)
      have e2 : gt ((r.set j none).set j (some (.d (.int v)))) i = some (.dct kvs) := by rw [z_gt_ne hij, z_gt_ne hij, hi]
      simp only [z_tup, z_T0, z_T1, kT_eq, kT2_eq, kTup_eq, z_ix, z_var, e1, e2, varH_k, varH_d, z_bd_ok, kV_eq, kW_eq, l2_s, l1_s, z_dr_s, z_dr_v, y_ixDi, ha v hv, z_tree_v]
    · have e1 : gt ((r.set j none).set j (some (.d (.int v)))) j = some (.d (.int v)) := z_gt_eq (by simpa using hj)
      simp only [ownOk, List.all_cons, List.all_nil, e1, z_mut_d, Bool.not_false, Bool.and_self]
  rw [h]
  rfl
end Q
namespace KK
open PySem L2 Q
/-- the hole of new names -/
def hol (vs : List Int) : Int := maxI (100 :: vs.map (· + 1))
theorem hol_lt {vs : List Int} : ∀ v ∈ vs, v < hol vs := by
  intro v hv
  have := maxI_le (a := 100 :: vs.map (· + 1)) (v + 1) (List.mem_cons_of_mem _ (List.mem_map.mpr ⟨v, hv, rfl⟩))
  unfold hol; omega
theorem hol_perm {a b : List Int} (p : a.Perm b) : hol a = hol b := by
  have h : ∀ {a b : List Int}, a.Perm b → hol a ≤ hol b := fun {a b} p => by
    unfold hol
    apply maxI_le
    have m := maxI_mem (a := 100 :: a.map (· + 1)) (by simp)
    exact ((p.map (· + 1)).cons 100).mem_iff.mp m
  have := h p
  have := h p.symm
  omega
/-- of rising names: by the last one -/
theorem hol_snoc {vs : List Int} {m : Int} (h : (vs ++ [m]).Pairwise (· ≤ ·)) : hol (vs ++ [m]) = if 100 ≤ m then m + 1 else 100 := by
  have a := maxI_mem (a := 100 :: (vs ++ [m]).map (· + 1)) (by simp)
  have b := maxI_le (a := 100 :: (vs ++ [m]).map (· + 1)) 100 (by simp)
  have c := maxI_le (a := 100 :: (vs ++ [m]).map (· + 1)) (m + 1) (by simp)
  rw [List.pairwise_append] at h
  have d : maxI (100 :: (vs ++ [m]).map (· + 1)) ≤ max 100 (m + 1) := by
    rcases List.mem_cons.mp a with q | q
    · omega
    · obtain ⟨v, hv, e⟩ := List.mem_map.mp q
      rcases List.mem_append.mp hv with hv | hv
      · have := h.2.2 v hv m (by simp); omega
      · simp at hv; omega
  show maxI _ = _
  split <;> omega
theorem hole_of_ok {n : Nat} {U : List Int} (h : U.Pairwise (· ≤ ·)) : sem fds (n + 1) i_hole_of [.lst (nz U)] = .ok (.d (.int (hol U))) [some (.lst (nz U))] := by
  rw [f_hole_of]
  unfold b_hole_of
  rcases List.eq_nil_or_concat U with rfl | ⟨vs, m, rfl⟩
  · simp [hol, maxI, maxL]
  · rw [List.concat_eq_append] at h ⊢
    have q := hol_snoc h
    have l : 0 < ((vs.length : Int) + 1) := by omega
    by_cases c : 100 ≤ m
    · simp [nz_last, l, c, q]
    · simp [nz_last, l, c, q]
theorem round_ok {n : Nat} {V : List Int} (h : V ≠ []) (hl : V.length ≤ 1000) : sem fds (n + 1) i_from_least [.lst (nz V)] = .ok (.lst (nz (V.drop (V.idxOf (minI V)) ++ V.take (V.idxOf (minI V))))) [some (.lst (nz V))] := by
  rw [f_from_least]
  unfold b_from_least
  have m := minI_mem h
  have g : V.length - V.idxOf (minI V) + min (V.idxOf (minI V)) V.length ≤ sizeLine := by rw [sizeLine_eq]; omega
  simp [nz_minL h, nz_idxL m, cut_from, cut_to, g]
theorem tr_word : Tr 0 (.str "unit") ∧ Tr 0 (.str "one") ∧ Tr 0 (.str "set") ∧ Tr 0 (.str "row") ∧ Tr 0 (.str "round") ∧ Tr 0 (.str "this") ∧ Tr 0 (.str "rule") ∧ Tr 0 (.str "point") ∧ Tr 0 (.str "hole") ∧ Tr 0 (.str "both") ∧ Tr 0 (.str "in") := by
  unfold Tr
  simp only [PyData.canLay0, PyData.depth]
  decide +kernel
theorem tr1 {n : Nat} {a : D} (h : Tr n a) : Tr (n + 1) (.tuple [a]) := tr_tup fun x hx => by simp at hx; subst hx; exact h
theorem tr2 {n : Nat} {a b : D} (h : Tr n a) (h2 : Tr n b) : Tr (n + 1) (.tuple [a, b]) := tr_tup fun x hx => by simp at hx; rcases hx with rfl | rfl <;> assumption
theorem tr3 {n : Nat} {a b c : D} (h : Tr n a) (h2 : Tr n b) (h3 : Tr n c) : Tr (n + 1) (.tuple [a, b, c]) := tr_tup fun x hx => by simp at hx; rcases hx with rfl | rfl | rfl <;> assumption
theorem agr_perm {kvs : List (Key × D)} {f : Int → Int} {U V : List Int} (h : Agr kvs f U) (p : V.Perm U) : Agr kvs f V := fun u hu => h u (p.mem_iff.mp hu)
theorem agr_sub {kvs : List (Key × D)} {f : Int → Int} {U V : List Int} (h : Agr kvs f U) (p : ∀ u ∈ V, u ∈ U) : Agr kvs f V := fun u hu => h u (p u hu)
theorem inj_sub {f : Int → Int} {U V : List Int} (h : Inj f U) (p : ∀ u ∈ V, u ∈ U) : Inj f V := fun a ha b hb => h a (p a ha) b (p b hb)
/-- both carry s by kvs to the same thing -/
def Same (n : Nat) (s : D) (kvs : List (Key × D)) (s' : D) : Prop := (∀ N, 2 * n + 1 < N → sem fds N i_put_by [.d s, .dct kvs] = .ok (.d s') [some (.d s), some (.dct kvs)]) ∧ (∀ N, 2 * n + 1 < N → sem fds N i__law_carried [.d s, .dct kvs] = .ok (.d s') [some (.d s), some (.dct kvs)])
theorem same_mono {n m : Nat} {s s' : D} {kvs : List (Key × D)} (h : Same n s kvs s') (q : n ≤ m) : Same m s kvs s' := ⟨fun N hN => h.1 N (by omega), fun N hN => h.2 N (by omega)⟩
set_option maxHeartbeats 4000000 in
theorem put_leaf {n : Nat} {U : List Int} {s : D} (h : On 0 U s) (hU : Rise U) (hL : U.length ≤ 1000) {f : Int → Int} {kvs : List (Key × D)} (ha : Agr kvs f U) : ∃ s', Same n s kvs s' ∧ Tr 2 s' := by
  have W := tr_word
  have g : U.length ≤ sizeLine := by rw [sizeLine_eq]; omega
  cases h with
  | unit =>
    refine ⟨.tuple [.str "unit"], ⟨fun N hN => ?_, fun N hN => ?_⟩, (tr1 W.1).mono (by omega)⟩
    · obtain ⟨N, rfl⟩ : ∃ k, N = k + 1 := ⟨N - 1, by omega⟩
      rw [f_put_by]; unfold b_put_by; simp
    · obtain ⟨N, rfl⟩ : ∃ k, N = k + 1 := ⟨N - 1, by omega⟩
      rw [f__law_carried]; unfold b__law_carried; simp
  | one =>
    rename_i u
    have hu := ha u (by simp)
    refine ⟨.tuple [.str "one", .int (f u)], ⟨fun N hN => ?_, fun N hN => ?_⟩, (tr2 W.2.1 tr_int).mono (by omega)⟩
    · obtain ⟨N, rfl⟩ : ∃ k, N = k + 1 := ⟨N - 1, by omega⟩
      rw [f_put_by]; unfold b_put_by; simp [hu]
    · obtain ⟨N, rfl⟩ : ∃ k, N = k + 1 := ⟨N - 1, by omega⟩
      rw [f__law_carried]; unfold b__law_carried; simp [hu]
  | set =>
    refine ⟨.tuple [.str "set", .tuple (nz (sortI (U.map f)))], ⟨fun N hN => ?_, fun N hN => ?_⟩, tr2 (n := 1) (W.2.2.1.mono (by omega)) tr_nz⟩
    · obtain ⟨N, rfl⟩ : ∃ k, N = k + 1 := ⟨N - 1, by omega⟩
      rw [f_put_by]; unfold b_put_by; simp
      rw [lead_row (V := U) kvs f (by simp) (by simp) (by simp) (by simp) (by simp [ownOk]) ha g]
      simp
    · obtain ⟨N, rfl⟩ : ∃ k, N = k + 1 := ⟨N - 1, by omega⟩
      rw [f__law_carried]; unfold b__law_carried; simp
      rw [lead_row (V := U) kvs f (by simp) (by simp) (by simp) (by simp) (by simp [ownOk]) ha g]
      simp
  | row p =>
    rename_i V
    have g1 : V.length ≤ sizeLine := by rw [p.length_eq]; exact g
    refine ⟨.tuple [.str "row", .tuple (nz (V.map f))], ⟨fun N hN => ?_, fun N hN => ?_⟩, tr2 (n := 1) (W.2.2.2.1.mono (by omega)) tr_nz⟩
    · obtain ⟨N, rfl⟩ : ∃ k, N = k + 1 := ⟨N - 1, by omega⟩
      rw [f_put_by]; unfold b_put_by; simp
      rw [lead_row (V := V) kvs f (by simp) (by simp) (by simp) (by simp) (by simp [ownOk]) (agr_perm ha p) g1]
      simp
    · obtain ⟨N, rfl⟩ : ∃ k, N = k + 1 := ⟨N - 1, by omega⟩
      rw [f__law_carried]; unfold b__law_carried; simp
      rw [lead_row (V := V) kvs f (by simp) (by simp) (by simp) (by simp) (by simp [ownOk]) (agr_perm ha p) g1]
      simp
  | round p q =>
    rename_i V
    have g1 : V.length ≤ sizeLine := by rw [p.length_eq]; exact g
    have q1 : V.map f ≠ [] := by simpa using q
    have m := minI_mem q1
    have g2 : V.length - (V.map f).idxOf (minI (V.map f)) + min ((V.map f).idxOf (minI (V.map f))) V.length ≤ sizeLine := by rw [sizeLine_eq] at g1 ⊢; omega
    refine ⟨.tuple [.str "round", .tuple (nz ((V.map f).drop ((V.map f).idxOf (minI (V.map f))) ++ (V.map f).take ((V.map f).idxOf (minI (V.map f)))))], ⟨fun N hN => ?_, fun N hN => ?_⟩, tr2 (n := 1) (W.2.2.2.2.1.mono (by omega)) tr_nz⟩
    · obtain ⟨N, rfl⟩ : ∃ k, N = k + 1 + 1 := ⟨N - 2, by omega⟩
      rw [f_put_by]; unfold b_put_by; simp
      rw [lead_row (V := V) kvs f (by simp) (by simp) (by simp) (by simp) (by simp [ownOk]) (agr_perm ha p) g1]
      simp [round_ok (n := N) q1 (by simp [p.length_eq]; omega)]
    · obtain ⟨N, rfl⟩ : ∃ k, N = k + 1 := ⟨N - 1, by omega⟩
      rw [f__law_carried]; unfold b__law_carried; simp
      rw [lead_row (V := V) kvs f (by simp) (by simp) (by simp) (by simp) (by simp [ownOk]) (agr_perm ha p) g1]
      simp [nz_minT q1, nz_idxT m, cut_from, cut_to, g2]
end KK
namespace KK
open PySem L2 Q
set_option maxHeartbeats 4000000 in
theorem put_hole {n : Nat} {U : List Int} {s : D} {h : Int} (hs : On n (U ++ [h]) s) (hlt : ∀ u ∈ U, u < h) (hU : Rise U) (hL : U.length + (n + 1) ≤ 1000) {f : Int → Int} {kvs : List (Key × D)} (ha : Agr kvs f U) {s' : D}
    (ih : Same n s (kz (fun x => if x = h then hol (U.map f) else f x) (U ++ [h])) s') : Same (n + 1) (.tuple [.str "hole", s]) kvs (.tuple [.str "hole", s']) := by
  have hR := rise_snoc hU hlt
  have g : U.length ≤ sizeLine := by rw [sizeLine_eq]; omega
  have g2 : U.length < sizeLine := by rw [sizeLine_eq]; omega
  have hn : h ∉ U := fun q => by have := hlt h q; omega
  have ho : hol (sortI (U.map f)) = hol (U.map f) := hol_perm (z_sortI_perm _)
  constructor
  · intro N hN
    obtain ⟨N, rfl⟩ : ∃ k, N = k + 3 := ⟨N - 3, by omega⟩
    have e1 : sem fds (N + 2) i_hole_put [.d (.tuple [.str "hole", s]), .dct kvs] = .ok (.d (.tuple [.str "hole", s'])) [some (.d (.tuple [.str "hole", s])), some (.dct kvs)] := by
      rw [f_hole_put]
      unfold b_hole_put
      have e2 := hole_of_ok (n := N) (z_sortI_sorted (U.map f))
      simp [names_of_ok hs hR (by simp; omega) (N + 1) (by omega)]
      rw [lead_pairs (V := U) kvs f (by simp [nz_cutm1]) (by simp) (by simp) (by simp) (by simp [ownOk]) ha g]
      simp [kz_dictL hU.nodup, kz_vals, g, e2, g2, nz_last, kz_put hn, ho, ih.1 (N + 1) (by omega)]
    rw [f_put_by]
    unfold b_put_by
    simp [e1]
  · intro N hN
    obtain ⟨N, rfl⟩ : ∃ k, N = k + 1 := ⟨N - 1, by omega⟩
    rw [f__law_carried]
    unfold b__law_carried
    simp [law_names_ok hs hR (by simp; omega) N (by omega)]
    rw [lead_pairs (V := U) kvs f (by simp [nz_cutm1]) (by simp) (by simp) (by simp) (by simp [ownOk]) ha g]
    simp [kz_dictL hU.nodup]
    rw [lc_same (U.map f) .int (fun v => .int (v + 1)) (xs := nz (U.map f)) (by simp [kz_vals, g]) rfl (by simp [ownOk]) (by simpa using g) (fun v hv => ⟨_, by simp [wipeR]; rfl, by simp, by simp [wipeR], by simp [ownOk]⟩)]
    have e3 : PyData.int 100 :: (U.map f).map (fun v => PyData.int (v + 1)) = nz (100 :: (U.map f).map (· + 1)) := by simp [nz]
    have g3 : 1 + U.length ≤ sizeLine := by rw [sizeLine_eq]; omega
    simp [g3]
    simp at e3
    simp [e3]
    rw [nz_maxL (by simp)]
    have e4 : maxI (100 :: U.map ((fun x => x + 1) ∘ f)) = hol (U.map f) := by simp [hol]
    simp [e4, g2, nz_last, kz_put hn, ih.2 N (by omega)]
end KK
namespace KK
open PySem L2 Q
/-- the numbers of the blocks, elder to new -/
def numb (ls : List Int) (k : Int) : Int := (sortI ls).idxOf (ls.getD k.toNat 0)
def upto (m : Nat) : List Int := (List.range m).map fun (i : Nat) => (i : Int)
theorem upto_len {m : Nat} : (upto m).length = m := by simp [upto]
theorem upto_mem {m : Nat} {x : Int} : x ∈ upto m ↔ 0 ≤ x ∧ x < m := by
  unfold upto
  rw [List.mem_map]
  constructor
  · rintro ⟨i, hi, rfl⟩
    have := List.mem_range.mp hi
    omega
  · rintro ⟨a, b⟩
    exact ⟨x.toNat, List.mem_range.mpr (by omega), by omega⟩
theorem upto_rise {m : Nat} : Rise (upto m) := by
  unfold Rise upto
  rw [List.pairwise_map]
  exact List.Pairwise.imp (fun h => by omega) List.pairwise_lt_range
theorem numb_inj {ls : List Int} (h : ls.Nodup) : Inj (numb ls) (upto ls.length) := by
  intro a ha b hb e
  obtain ⟨a0, a1⟩ := upto_mem.mp ha
  obtain ⟨b0, b1⟩ := upto_mem.mp hb
  have p := z_sortI_perm ls
  have A : a.toNat < ls.length := by omega
  have B : b.toNat < ls.length := by omega
  unfold numb at e
  rw [List.getD_eq_getElem?_getD, List.getD_eq_getElem?_getD, List.getElem?_eq_getElem A, List.getElem?_eq_getElem B] at e
  simp only [Option.getD_some] at e
  have e' : (sortI ls).idxOf ls[a.toNat] = (sortI ls).idxOf ls[b.toNat] := by omega
  have ma : ls[a.toNat] ∈ sortI ls := p.mem_iff.mpr (List.getElem_mem _)
  have mb : ls[b.toNat] ∈ sortI ls := p.mem_iff.mpr (List.getElem_mem _)
  have q1 := List.getElem_idxOf (List.idxOf_lt_length_of_mem ma)
  have q2 := List.getElem_idxOf (List.idxOf_lt_length_of_mem mb)
  have q : ls[a.toNat] = ls[b.toNat] := by rw [← q1, ← q2]; simp [e']
  have z := congrArg ls.idxOf q
  rw [idx_getElem h A, idx_getElem h B] at z
  omega
theorem enum_nz {l : List Int} : enumD (nz l) = (List.range l.length).map fun (k : Nat) => PyData.tuple [.int (k : Int), .int (l.getD k 0)] := by
  apply List.ext_getElem
  · simp [enumD]
  · intro k h1 h2
    simp [enumD, nz]
    have h3 : k < l.length := by simpa using h2
    simp [h3]
theorem nz_idxl {a : List Int} {k : Int} (h : k ∈ a) : mthV .index (.d (.list (nz a))) [.d (.int k)] = some (.d (.int (a.idxOf k))) := by
  simp [mthV, nz_idx h]
/-- the least of each block, led -/
def leasts (f : Int → Int) (bs : List (List Int × D)) : List Int := bs.map fun p => minI (p.1.map f)
theorem leasts_len {f : Int → Int} {bs : List (List Int × D)} : (leasts f bs).length = bs.length := by simp [leasts]
theorem leasts_nodup {f : Int → Int} : ∀ {bs : List (List Int × D)}, (∀ p ∈ bs, p.1 ≠ []) → ((bs.map (·.1)).flatten).Nodup → Inj f ((bs.map (·.1)).flatten) → (leasts f bs).Nodup
  | [], _, _, _ => by simp [leasts]
  | q :: bs, h1, h2, h3 => by
    have ne := h1 q List.mem_cons_self
    simp only [List.map_cons, List.flatten_cons] at h2 h3
    rw [List.nodup_append] at h2
    show (minI (q.1.map f) :: leasts f bs).Nodup
    rw [List.nodup_cons]
    refine ⟨fun m => ?_, leasts_nodup (fun p hp => h1 p (List.mem_cons_of_mem _ hp)) h2.2.1 fun a ha b hb => h3 a (List.mem_append_right _ ha) b (List.mem_append_right _ hb)⟩
    obtain ⟨p, hp, e⟩ := List.mem_map.mp m
    have m1 := minI_mem (a := q.1.map f) (by simpa using ne)
    have m2 := minI_mem (a := p.1.map f) (by simpa using h1 p (List.mem_cons_of_mem _ hp))
    obtain ⟨x, hx, ex⟩ := List.mem_map.mp m1
    obtain ⟨y, hy, ey⟩ := List.mem_map.mp m2
    have hy' : y ∈ (bs.map (·.1)).flatten := List.mem_flatten.mpr ⟨p.1, List.mem_map.mpr ⟨p, hp, rfl⟩, hy⟩
    have := h3 x (List.mem_append_left _ hx) y (List.mem_append_right _ hy') (by rw [ex, ey, e])
    subst this
    exact h2.2.2 x hx x hy' rfl
theorem block_le {bs : List (List Int × D)} (h : ∀ p ∈ bs, p.1 ≠ []) : bs.length ≤ ((bs.map (·.1)).flatten).length := by
  induction bs with
  | nil => simp
  | cons q r ih =>
    have a := ih fun p hp => h p (List.mem_cons_of_mem _ hp)
    have b := List.length_pos_iff.mpr (h q List.mem_cons_self)
    simp only [List.map_cons, List.flatten_cons, List.length_append, List.length_cons]
    omega
/-- what stands at a place, by its least name -/
def stood (f : Int → Int) (bs : List (List Int × D)) (T : List Int × D → D) (l : Int) : D := T (bs.getD ((leasts f bs).idxOf l) ([], .none))
theorem stood_at {f : Int → Int} {bs : List (List Int × D)} {T : List Int × D → D} (h : (leasts f bs).Nodup) {k : Nat} (hk : k < bs.length) : stood f bs T ((leasts f bs)[k]'(by rw [leasts_len]; exact hk)) = T bs[k] := by
  unfold stood
  rw [idx_getElem h]
  simp [hk]
theorem least_at {f : Int → Int} {bs : List (List Int × D)} {k : Nat} (hk : k < (leasts f bs).length) : (leasts f bs)[k] = minI ((bs[k]'(by rw [leasts_len] at hk; exact hk)).1.map f) := by simp [leasts]
set_option maxHeartbeats 8000000 in
theorem put_inn {n : Nat} {U : List Int} {s : D} {bs : List (List Int × D)} (hne : ∀ p ∈ bs, p.1 ≠ []) (hR : ∀ p ∈ bs, Rise p.1) (hO : ∀ p ∈ bs, On n p.1 p.2) (hp : ((bs.map (·.1)).flatten).Perm U) (hU : Rise U) (hL : U.length + (n + 1) ≤ 1000)
    {f : Int → Int} {kvs : List (Key × D)} (ha : Agr kvs f U) (hf : Inj f U) {s' : D} {T : List Int × D → D} (ih : Same n s (kz (numb (leasts f bs)) (upto bs.length)) s') (iT : ∀ p ∈ bs, Same n p.2 kvs (T p)) :
    Same (n + 1) (.tuple [.str "in", s, .tuple (bs.map (·.2))]) kvs (.tuple [.str "in", s', .tuple ((sortI (leasts f bs)).map (stood f bs T))]) := by
  have hl := hp.length_eq
  have bl := block_le hne
  have g : bs.length ≤ sizeLine := by rw [sizeLine_eq]; omega
  have hnd : (leasts f bs).Nodup := leasts_nodup hne (hp.nodup_iff.mpr hU.nodup) (fun a ha b hb => hf a (hp.mem_iff.mp ha) b (hp.mem_iff.mp hb))
  have sub : ∀ p ∈ bs, ∀ u ∈ p.1, u ∈ U := fun p hp' u hu => hp.mem_iff.mp (List.mem_flatten.mpr ⟨p.1, List.mem_map.mpr ⟨p, hp', rfl⟩, hu⟩)
  have pl : ∀ p ∈ bs, p.1.length ≤ U.length := fun p h => by have := perm_flat h; omega
  have nl : bs.map (fun p => PyData.int (minI (p.1.map f))) = nz (leasts f bs) := by simp [nz, leasts]
  have lm : ∀ k (hk : k < bs.length), (leasts f bs)[k]'(by rw [leasts_len]; exact hk) ∈ sortI (leasts f bs) := fun k hk => (z_sortI_perm _).mem_iff.mpr (List.getElem_mem _)
  have np : (List.range bs.length).map (fun (k : Nat) => PyData.tuple [.int (k : Int), .int (numb (leasts f bs) k)]) = pz (numb (leasts f bs)) (upto bs.length) := by simp [pz, upto]
  have nb : ∀ k (hk : k < bs.length), numb (leasts f bs) (k : Int) = (sortI (leasts f bs)).idxOf ((leasts f bs)[k]'(by rw [leasts_len]; exact hk)) := fun k hk => by
    have hk' : k < (leasts f bs).length := by rw [leasts_len]; exact hk
    unfold numb
    rw [Int.toNat_natCast, List.getD_eq_getElem?_getD, List.getElem?_eq_getElem hk']
    rfl
  constructor
  · intro N hN
    obtain ⟨N, rfl⟩ : ∃ k, N = k + 3 := ⟨N - 3, by omega⟩
    have e1 : sem fds (N + 2) i_in_put [.d (.tuple [.str "in", s, .tuple (bs.map (·.2))]), .dct kvs] = .ok (.d (.tuple [.str "in", s', .tuple ((sortI (leasts f bs)).map (stood f bs T))])) [some (.d (.tuple [.str "in", s, .tuple (bs.map (·.2))])), some (.dct kvs)] := by
      rw [f_in_put]
      unfold b_in_put
      simp
      rw [lc_same bs (·.2) (fun p => .int (minI (p.1.map f))) (xs := bs.map (·.2)) (by simp) rfl (by simp [ownOk]) g (fun p hp' => ⟨_, by simp [wipeR]; rfl, by
          simp
          rw [lead_row (V := p.1) kvs f (by simp [names_of_ok (hO p hp') (hR p hp') (by have := pl p hp'; omega) (N + 1) (by omega)]) (by simp) (by simp) (by simp) (by simp [ownOk]) (agr_sub ha (sub p hp')) (by have := pl p hp'; rw [sizeLine_eq]; omega)]
          simp [nz_minL (a := p.1.map f) (by simpa using hne p hp')], by simp [wipeR], by simp [ownOk]⟩)]
      simp [nl, leasts_len]
      rw [lc_same (List.range bs.length) (fun (k : Nat) => .int (k : Int)) (fun (k : Nat) => .tuple [.int (k : Int), .int (numb (leasts f bs) k)]) (xs := (List.range bs.length).map (fun (k : Nat) => PyData.int (k : Int))) (by simp [leasts_len, -rngK_i, rngK_nat g]) rfl (by simp [ownOk]) (by simpa using g) (fun k hk => ⟨_, by simp [wipeR]; rfl, by
          have hk := List.mem_range.mp hk
          have hk' : k < (leasts f bs).length := by rw [leasts_len]; exact hk
          simp [nz_at hk', nz_idxL (lm k hk), nb k hk], by simp [wipeR], by simp [ownOk]⟩)]
      rw [np]
      simp [kz_dictL upto_rise.nodup, leasts_len, mul_rep g, -rngK_i, rngK_nat g]
      obtain ⟨r', e, h⟩ := forL_inv (tg := [7]) (one := true) (pin := [false, true]) (b := evS (sem fds (N + 1)) [false, true] (.setix 8 (.ix (.var 6) (.var 7)) (.call i_put_by (.cons (.ix (.ix (.var 0) (.k (.int 2))) (.var 7)) (.cons (.var 1) .nil)))))
        (fun xs r => ∃ (y : Option Val) (k : Nat), k ≤ bs.length ∧ xs = ((List.range bs.length).drop k).map (fun (k : Nat) => PyData.int (k : Int)) ∧ r = [some (.d (.tuple [.str "in", s, .tuple (bs.map (·.2))])), some (.dct kvs), some (.lst (nz (leasts f bs))), none, none, some (.lst (nz (sortI (leasts f bs)))),
            some (.dct (kz (numb (leasts f bs)) (upto bs.length))), y, some (.lst ((sortI (leasts f bs)).map fun l => if (leasts f bs).idxOf l < k then stood f bs T l else .none))]) rfl
        (by
          rintro x xs r ⟨y, k, hk, hx, rfl⟩
          have kl : k < bs.length := by
            rcases Nat.lt_or_ge k bs.length with h | h
            · exact h
            · rw [List.drop_eq_nil_of_le (by simpa using h)] at hx; cases hx
          have kl' : k < (leasts f bs).length := by rw [leasts_len]; exact kl
          rw [List.drop_eq_getElem_cons (by simpa using kl)] at hx
          simp only [List.map_cons, List.cons.injEq, List.getElem_range] at hx
          obtain ⟨rfl, rfl⟩ := hx
          have ix : (sortI (leasts f bs)).idxOf (leasts f bs)[k] < (sortI (leasts f bs)).length := List.idxOf_lt_length_of_mem (lm k kl)
          have lk : lookD (kz (numb (leasts f bs)) (upto bs.length)) (.inl (k : Int)) = some (.int (numb (leasts f bs) k)) := kz_look (upto_mem.mpr ⟨by omega, by omega⟩)
          have st := order_step hnd (T := stood f bs T) kl'
          rw [stood_at hnd kl] at st
          have ia := iT bs[k] (List.getElem_mem _)
          have at_k : atI (bs.map (·.2)) (k : Int) = some bs[k].2 := by rw [atN (by simpa using kl)]; simp
          refine ⟨_, rfl, _, .inl ?_, some (.d (.int (k : Int))), k + 1, kl, rfl, rfl⟩
          simp [at_k, ia.1 (N + 1) (by omega), lk, nb k kl, leasts_len]
          rw [sortI_len, leasts_len] at ix
          simp [ix, st])
        _ _ ⟨none, 0, Nat.zero_le _, rfl, by rw [order_none, leasts_len]⟩
      obtain ⟨y, k, hk, hx, rfl⟩ := h
      have kl : k = (leasts f bs).length := by
        rw [leasts_len]
        have := congrArg List.length hx
        simp at this
        omega
      subst kl
      rw [order_all] at e
      simp [order_none, leasts_len] at e
      simp [e, ih.1 (N + 1) (by omega)]
    rw [f_put_by]
    unfold b_put_by
    simp [e1]
  · intro N hN
    obtain ⟨N, rfl⟩ : ∃ k, N = k + 1 := ⟨N - 1, by omega⟩
    rw [f__law_carried]
    unfold b__law_carried
    simp
    rw [lc_same bs (·.2) (fun p => .int (minI (p.1.map f))) (xs := bs.map (·.2)) (by simp) rfl (by simp [ownOk]) g (fun p hp' => ⟨_, by simp [wipeR]; rfl, by
        simp
        rw [lead_row (V := p.1) kvs f (by simp [law_names_ok (hO p hp') (hR p hp') (by have := pl p hp'; omega) N (by omega)]) (by simp) (by simp) (by simp) (by simp [ownOk]) (agr_sub ha (sub p hp')) (by have := pl p hp'; rw [sizeLine_eq]; omega)]
        simp [nz_minL (a := p.1.map f) (by simpa using hne p hp')], by simp [wipeR], by simp [ownOk]⟩)]
    simp [nl, leasts_len]
    rw [lc_all (List.range bs.length) (fun (k : Nat) => .tuple [.int (k : Int), .int ((leasts f bs).getD k 0)]) (fun (k : Nat) => .tuple [.int (k : Int), .int (numb (leasts f bs) k)]) (xs := enumD (nz (leasts f bs)))
      (r1 := [some (.d (.tuple [.str "in", s, .tuple (bs.map (·.2))])), some (.dct kvs), some (.d (.str "in")), none, none, none, none, none, some (.d (.list (nz (leasts f bs)))), none, some (.lst (nz (sortI (leasts f bs)))), none, none, none, none])
      (by simp) (by rw [enum_nz, leasts_len]) (by simp [ownOk]) (by simpa using g) (fun k hk => ⟨_, by simp [wipeR]; rfl, by
        have hk := List.mem_range.mp hk
        have hk' : k < (leasts f bs).length := by rw [leasts_len]; exact hk
        simp [hk', nz_idxL (lm k hk), nb k hk], by simp [wipeR], by simp [ownOk]⟩)]
    rw [np]
    simp [kz_dictL upto_rise.nodup]
    rw [lc_all (sortI (leasts f bs)) .int (stood f bs T) (xs := nz (sortI (leasts f bs)))
      (r1 := [some (.d (.tuple [.str "in", s, .tuple (bs.map (·.2))])), some (.dct kvs), some (.d (.str "in")), none, none, none, none, none, some (.d (.list (nz (leasts f bs)))), none, some (.d (.list (nz (sortI (leasts f bs))))), some (.dct (kz (numb (leasts f bs)) (upto bs.length))), none, none, none])
      (by simp) rfl (by simp [ownOk]) (by simpa [leasts_len] using g) (fun l hl => ⟨_, by simp [wipeR]; rfl, by
        have ml : l ∈ leasts f bs := (z_sortI_perm _).mem_iff.mp hl
        have il : (leasts f bs).idxOf l < bs.length := by rw [← leasts_len (f := f)]; exact List.idxOf_lt_length_of_mem ml
        have ia := iT (bs[(leasts f bs).idxOf l]) (List.getElem_mem _)
        have at_k : atI (bs.map (·.2)) (((leasts f bs).idxOf l : Nat) : Int) = some (bs[(leasts f bs).idxOf l]).2 := by rw [atN (by simpa using il)]; simp
        have st : stood f bs T l = T bs[(leasts f bs).idxOf l] := by unfold stood; simp [il]
        simp [nz_idxl ml, at_k, ia.2 N (by omega), st], by simp [wipeR], by simp [ownOk]⟩)]
    simp [ih.2 N (by omega)]
/-- the program's hand and the law's put a structure alike -/
theorem put_same : ∀ {n : Nat} {U : List Int} {s : D}, On n U s → Rise U → U.length + n ≤ 1000 → ∀ {f : Int → Int} {kvs : List (Key × D)}, Agr kvs f U → Inj f U → ∃ s', Same n s kvs s' ∧ Tr (2 * n + 2) s' := by
  have W := tr_word
  intro n
  induction n with
  | zero => intro U s h hU hL f kvs ha _; exact put_leaf h hU (by omega) ha
  | succ n ih =>
    intro U s h hU hL f kvs ha hf
    cases h with
    | unit => obtain ⟨s', a, b⟩ := put_leaf (n := n + 1) (.unit) hU (by omega) ha; exact ⟨s', a, b.mono (by omega)⟩
    | one => obtain ⟨s', a, b⟩ := put_leaf (n := n + 1) (.one) hU (by omega) ha; exact ⟨s', a, b.mono (by omega)⟩
    | set => obtain ⟨s', a, b⟩ := put_leaf (n := n + 1) (.set) hU (by omega) ha; exact ⟨s', a, b.mono (by omega)⟩
    | row p => obtain ⟨s', a, b⟩ := put_leaf (n := n + 1) (.row p) hU (by omega) ha; exact ⟨s', a, b.mono (by omega)⟩
    | round p q => obtain ⟨s', a, b⟩ := put_leaf (n := n + 1) (.round p q) hU (by omega) ha; exact ⟨s', a, b.mono (by omega)⟩
    | this h =>
      rename_i s b
      obtain ⟨s', i, t⟩ := ih h hU (by omega) ha hf
      refine ⟨.tuple [.str "this", .int b, s'], ⟨fun N hN => ?_, fun N hN => ?_⟩, tr3 (tr_str W.2.2.2.2.2.1) tr_int (t.mono (by omega))⟩
      · obtain ⟨N, rfl⟩ : ∃ k, N = k + 1 := ⟨N - 1, by omega⟩
        rw [f_put_by]; unfold b_put_by; simp [i.1 N (by omega)]
      · obtain ⟨N, rfl⟩ : ∃ k, N = k + 2 := ⟨N - 2, by omega⟩
        have e1 : sem fds (N + 1) i__law_told_carried [.d (.tuple [.str "this", .int b, s]), .dct kvs] = .ok (.d (.tuple [.str "this", .int b, s'])) [some (.d (.tuple [.str "this", .int b, s])), some (.dct kvs)] := by
          rw [f__law_told_carried]; unfold b__law_told_carried; simp [i.2 N (by omega)]
        rw [f__law_carried]; unfold b__law_carried; simp [e1]
    | rule h =>
      rename_i s b
      obtain ⟨s', i, t⟩ := ih h hU (by omega) ha hf
      refine ⟨.tuple [.str "rule", .int b, s'], ⟨fun N hN => ?_, fun N hN => ?_⟩, tr3 (tr_str W.2.2.2.2.2.2.1) tr_int (t.mono (by omega))⟩
      · obtain ⟨N, rfl⟩ : ∃ k, N = k + 1 := ⟨N - 1, by omega⟩
        rw [f_put_by]; unfold b_put_by; simp [i.1 N (by omega)]
      · obtain ⟨N, rfl⟩ : ∃ k, N = k + 2 := ⟨N - 2, by omega⟩
        have e1 : sem fds (N + 1) i__law_told_carried [.d (.tuple [.str "rule", .int b, s]), .dct kvs] = .ok (.d (.tuple [.str "rule", .int b, s'])) [some (.d (.tuple [.str "rule", .int b, s])), some (.dct kvs)] := by
          rw [f__law_told_carried]; unfold b__law_told_carried; simp [i.2 N (by omega)]
        rw [f__law_carried]; unfold b__law_carried; simp [e1]
    | point hu h =>
      rename_i s u
      obtain ⟨s', i, t⟩ := ih h hU (by omega) ha hf
      have au := ha u hu
      refine ⟨.tuple [.str "point", .int (f u), s'], ⟨fun N hN => ?_, fun N hN => ?_⟩, tr3 (tr_str W.2.2.2.2.2.2.2.1) tr_int (t.mono (by omega))⟩
      · obtain ⟨N, rfl⟩ : ∃ k, N = k + 1 := ⟨N - 1, by omega⟩
        rw [f_put_by]; unfold b_put_by; simp [au, i.1 N (by omega)]
      · obtain ⟨N, rfl⟩ : ∃ k, N = k + 2 := ⟨N - 2, by omega⟩
        have e1 : sem fds (N + 1) i__law_told_carried [.d (.tuple [.str "point", .int u, s]), .dct kvs] = .ok (.d (.tuple [.str "point", .int (f u), s'])) [some (.d (.tuple [.str "point", .int u, s])), some (.dct kvs)] := by
          rw [f__law_told_carried]; unfold b__law_told_carried; simp [au, i.2 N (by omega)]
        rw [f__law_carried]; unfold b__law_carried; simp [e1]
    | both a b h1 h2 p =>
      rename_i V X s t
      have hl := p.length_eq
      simp at hl
      have m1 : ∀ u ∈ V, u ∈ U := fun u hu => p.mem_iff.mp (List.mem_append_left _ hu)
      have m2 : ∀ u ∈ X, u ∈ U := fun u hu => p.mem_iff.mp (List.mem_append_right _ hu)
      obtain ⟨s', i, t1⟩ := ih h1 a (by omega) (agr_sub ha m1) (inj_sub hf m1)
      obtain ⟨t', j, t2⟩ := ih h2 b (by omega) (agr_sub ha m2) (inj_sub hf m2)
      refine ⟨.tuple [.str "both", s', t'], ⟨fun N hN => ?_, fun N hN => ?_⟩, tr3 (tr_str W.2.2.2.2.2.2.2.2.2.1) (t1.mono (by omega)) (t2.mono (by omega))⟩
      · obtain ⟨N, rfl⟩ : ∃ k, N = k + 1 := ⟨N - 1, by omega⟩
        rw [f_put_by]; unfold b_put_by; simp [i.1 N (by omega), j.1 N (by omega)]
      · obtain ⟨N, rfl⟩ : ∃ k, N = k + 1 := ⟨N - 1, by omega⟩
        rw [f__law_carried]; unfold b__law_carried; simp [i.2 N (by omega), j.2 N (by omega)]
    | hole h hlt =>
      rename_i s q
      have hn : q ∉ U := fun z => by have := hlt q z; omega
      obtain ⟨s', i, t⟩ := ih h (rise_snoc hU hlt) (by simp; omega) (f := fun x => if x = q then hol (U.map f) else f x) (kvs := kz (fun x => if x = q then hol (U.map f) else f x) (U ++ [q])) kz_agr (by
        intro a ha' b hb' e
        have lt : ∀ u ∈ U, f u < hol (U.map f) := fun u hu => hol_lt (f u) (List.mem_map.mpr ⟨u, hu, rfl⟩)
        rcases List.mem_append.mp ha' with ma | ma <;> rcases List.mem_append.mp hb' with mb | mb
        · have n1 : ¬ a = q := fun z => hn (z ▸ ma)
          have n2 : ¬ b = q := fun z => hn (z ▸ mb)
          simp only [n1, n2, if_false] at e
          exact hf a ma b mb e
        · have mb : b = q := by simpa using mb
          have n1 : ¬ a = q := fun z => hn (z ▸ ma)
          simp only [n1, mb, if_true, if_false] at e
          have := lt a ma; omega
        · have ma : a = q := by simpa using ma
          have n1 : ¬ b = q := fun z => hn (z ▸ mb)
          simp only [n1, ma, if_true, if_false] at e
          have := lt b mb; omega
        · have ma : a = q := by simpa using ma
          have mb : b = q := by simpa using mb
          rw [ma, mb])
      exact ⟨_, put_hole h hlt hU hL ha i, tr2 (tr_str W.2.2.2.2.2.2.2.2.1) (t.mono (by omega))⟩
    | inn h1 hne hR hO hp =>
      rename_i s bs
      have hl := hp.length_eq
      have bl := block_le hne
      have hnd : (leasts f bs).Nodup := leasts_nodup hne (hp.nodup_iff.mpr hU.nodup) (fun a ha b hb => hf a (hp.mem_iff.mp ha) b (hp.mem_iff.mp hb))
      have sub : ∀ p ∈ bs, ∀ u ∈ p.1, u ∈ U := fun p hp' u hu => hp.mem_iff.mp (List.mem_flatten.mpr ⟨p.1, List.mem_map.mpr ⟨p, hp', rfl⟩, hu⟩)
      have pl : ∀ p ∈ bs, p.1.length ≤ U.length := fun p h => by have := perm_flat h; omega
      obtain ⟨s', i, t⟩ := ih h1 upto_rise (by simp; omega) (f := numb (leasts f bs)) (kvs := kz (numb (leasts f bs)) (upto bs.length)) kz_agr (by have := numb_inj hnd; rw [leasts_len] at this; exact this)
      have ex : ∀ p : List Int × D, ∃ s', p ∈ bs → Same n p.2 kvs s' ∧ Tr (2 * n + 2) s' := fun p => by
        by_cases h : p ∈ bs
        · obtain ⟨s', q⟩ := ih (hO p h) (hR p h) (by have := pl p h; omega) (agr_sub ha (sub p h)) (inj_sub hf (sub p h))
          exact ⟨s', fun _ => q⟩
        · exact ⟨.none, fun z => absurd z h⟩
      let T : List Int × D → D := fun p => Classical.choose (ex p)
      have hT : ∀ p ∈ bs, Same n p.2 kvs (T p) ∧ Tr (2 * n + 2) (T p) := fun p hp => Classical.choose_spec (ex p) hp
      refine ⟨_, put_inn hne hR hO hp hU hL ha hf i fun p hp => (hT p hp).1, tr3 (tr_str W.2.2.2.2.2.2.2.2.2.2) (t.mono (by omega)) (tr_tup fun x hx => ?_)⟩
      obtain ⟨l, hl', rfl⟩ := List.mem_map.mp hx
      have ml : l ∈ leasts f bs := (z_sortI_perm _).mem_iff.mp hl'
      have il : (leasts f bs).idxOf l < bs.length := by rw [← leasts_len (f := f)]; exact List.idxOf_lt_length_of_mem ml
      have st : stood f bs T l = T bs[(leasts f bs).idxOf l] := by unfold stood; simp [il]
      rw [st]
      exact (hT _ (List.getElem_mem _)).2
end KK
/-! QZ6: rows of names: all of them, two ways; their order. -/
namespace Q
open PySem L2
/-! ### sorting rows -/
theorem lex_asym : ∀ {a b : List Int}, HT.lexLt a b = true → HT.lexLt b a = false
  | [], [], h => by simp [HT.lexLt] at h
  | [], _ :: _, _ => rfl
  | _ :: _, [], h => by simp [HT.lexLt] at h
  | x :: a, y :: b, h => by
    rw [HT.lexLt_cons] at h ⊢
    by_cases c : x = y
    · rw [if_pos c] at h; rw [if_pos c.symm]; exact lex_asym h
    · rw [if_neg c] at h
      rw [if_neg (Ne.symm c)]
      have := of_decide_eq_true h
      exact decide_eq_false (by omega)
theorem ltR_asym : ∀ {a b : List (List Int)}, ltR a b = true → ltR b a = false
  | [], [], h => by simp [ltR] at h
  | [], _ :: _, _ => rfl
  | _ :: _, [], h => by simp [ltR] at h
  | x :: a, y :: b, h => by
    unfold ltR at h ⊢
    by_cases c : x = y
    · rw [if_pos c] at h; rw [if_pos c.symm]; exact ltR_asym h
    · rw [if_neg c] at h
      rw [if_neg (Ne.symm c)]
      exact lex_asym h
theorem insR_mid {x : List (List Int)} : ∀ {A B : List (List (List Int))}, (∀ y ∈ A, ltR y x = true) → (∀ y ∈ B, ltR x y = true) → insR x (A ++ B) = A ++ x :: B
  | [], [], _, _ => rfl
  | [], y :: B, _, h => by
    show insR x (y :: B) = _
    unfold insR
    rw [ltR_asym (h y List.mem_cons_self)]
    rfl
  | y :: A, B, h, h2 => by
    show insR x (y :: (A ++ B)) = _
    unfold insR
    rw [h y List.mem_cons_self, if_pos rfl, insR_mid (fun z hz => h z (List.mem_cons_of_mem _ hz)) h2]
    rfl
theorem sortR_of : ∀ {L E : List (List (List Int))}, E.Pairwise (fun a b => ltR a b = true) → L.Perm E → sortR L = E
  | [], E, _, h => (List.nil_perm.mp h).symm
  | x :: L, E, hE, h => by
    obtain ⟨A, B, rfl⟩ := List.append_of_mem (h.mem_iff.mp List.mem_cons_self)
    have p : L.Perm (A ++ B) := (h.trans List.perm_middle).cons_inv
    rw [List.pairwise_append] at hE
    obtain ⟨h1, h2, h3⟩ := hE
    rw [List.pairwise_cons] at h2
    have s : (A ++ B).Pairwise (fun a b => ltR a b = true) := List.pairwise_append.mpr ⟨h1, h2.2, fun a ha b hb => h3 a ha b (List.mem_cons_of_mem _ hb)⟩
    unfold sortR
    rw [sortR_of s p]
    exact insR_mid (fun y hy => h3 y hy x List.mem_cons_self) h2.1
/-! ### rows, one name more behind -/
def rowStep (U : List Int) (rows : List (List Int)) : List (List Int) := rows.flatMap fun row => (U.filter fun v => !decide (v ∈ row)).map fun v => row ++ [v]
def rowsP (U : List Int) : Nat → List (List Int)
  | 0 => [[]]
  | k + 1 => rowStep U (rowsP U k)
theorem rowsP_mem {U : List Int} : ∀ {k : Nat} {r : List Int}, r ∈ rowsP U k ↔ r.length = k ∧ r.Nodup ∧ ∀ x ∈ r, x ∈ U
  | 0, r => by
    simp only [rowsP, List.mem_singleton]
    constructor
    · rintro rfl; simp
    · rintro ⟨h, _⟩; exact List.length_eq_zero_iff.mp h
  | k + 1, r => by
    simp only [rowsP, rowStep, List.mem_flatMap, List.mem_map, List.mem_filter]
    constructor
    · rintro ⟨row, hr, v, ⟨hv, hn⟩, rfl⟩
      obtain ⟨a, b, c⟩ := rowsP_mem.mp hr
      have hn : v ∉ row := by simpa using hn
      refine ⟨by simp [a], ?_, fun x hx => ?_⟩
      · rw [List.nodup_append]
        exact ⟨b, by simp, fun x hx y hy => by simp at hy; subst hy; exact fun e => hn (e ▸ hx)⟩
      · rcases List.mem_append.mp hx with hx | hx
        · exact c x hx
        · simp at hx; subst hx; exact hv
    · rintro ⟨a, b, c⟩
      rcases List.eq_nil_or_concat r with rfl | ⟨row, v, rfl⟩
      · simp at a
      · rw [List.concat_eq_append] at a b c ⊢
        rw [List.nodup_append] at b
        refine ⟨row, rowsP_mem.mpr ⟨by simpa using a, b.1, fun x hx => c x (List.mem_append_left _ hx)⟩, v, ⟨c v (by simp), ?_⟩, rfl⟩
        have : v ∉ row := fun z => b.2.2 v z v (by simp) rfl
        simpa using this
theorem lex_snoc : ∀ {a b : List Int} {x y : Int}, a.length = b.length → HT.lexLt a b = true → HT.lexLt (a ++ [x]) (b ++ [y]) = true
  | [], [], x, y, _, h => by simp [HT.lexLt] at h
  | [], _ :: _, _, _, h, _ => by simp at h
  | _ :: _, [], _, _, h, _ => by simp at h
  | u :: a, v :: b, x, y, hl, h => by
    simp only [List.cons_append]
    rw [HT.lexLt_cons] at h ⊢
    by_cases c : u = v
    · rw [if_pos c] at h ⊢; exact lex_snoc (by simpa using hl) h
    · rw [if_neg c] at h ⊢; exact h
theorem lex_last : ∀ {a : List Int} {x y : Int}, x < y → HT.lexLt (a ++ [x]) (a ++ [y]) = true
  | [], x, y, h => by
    show HT.lexLt [x] [y] = true
    rw [HT.lexLt_cons, if_neg (by omega)]
    exact decide_eq_true h
  | u :: a, x, y, h => by
    simp only [List.cons_append]
    rw [HT.lexLt_cons, if_pos rfl]
    exact lex_last h
theorem rowsP_sorted {U : List Int} (hU : Rise U) : ∀ k, (rowsP U k).Pairwise fun a b => HT.lexLt a b = true
  | 0 => by simp [rowsP]
  | k + 1 => by
    unfold rowsP rowStep
    rw [List.pairwise_flatMap]
    refine ⟨fun row _ => ?_, ?_⟩
    · rw [List.pairwise_map]
      exact List.Pairwise.imp (fun h => lex_last h) (List.Pairwise.filter _ hU)
    · refine List.Pairwise.imp_of_mem (fun {a b} ha hb h => ?_) (rowsP_sorted hU k)
      intro x hx y hy
      obtain ⟨u, _, rfl⟩ := List.mem_map.mp hx
      obtain ⟨v, _, rfl⟩ := List.mem_map.mp hy
      exact lex_snoc (by rw [(rowsP_mem.mp ha).1, (rowsP_mem.mp hb).1]) h
theorem rowsP_nodup {U : List Int} (hU : Rise U) (k : Nat) : (rowsP U k).Nodup := by
  refine List.Pairwise.imp (fun {a b} h e => ?_) (rowsP_sorted hU k)
  subst e
  have := lex_asym h
  rw [h] at this
  cases this
theorem rowsP_len {U : List Int} : ∀ k, (rowsP U k).length ≤ U.length ^ k
  | 0 => by simp [rowsP]
  | k + 1 => by
    have h := rowsP_len (U := U) k
    have : ∀ rows : List (List Int), (rowStep U rows).length ≤ rows.length * U.length := fun rows => by
      unfold rowStep
      induction rows with
      | nil => simp
      | cons r rs ih =>
        simp only [List.flatMap_cons, List.length_append, List.length_map, List.length_cons]
        have := List.length_filter_le (fun v => !decide (v ∈ r)) U
        rw [Nat.add_mul, Nat.one_mul]
        omega
    unfold rowsP
    rw [Nat.pow_succ]
    exact Nat.le_trans (this _) (Nat.mul_le_mul_right _ h)
/-! ### rows, one name put in anywhere -/
def rPut (x : Int) (row : List Int) : List (List Int) := (List.range (row.length + 1)).map fun k => row.take k ++ x :: row.drop k
def insStep (x : Int) (rows : List (List Int)) : List (List Int) := rows.flatMap (rPut x)
def rowsI (rows : List (List Int)) (U : List Int) : List (List Int) := U.foldl (fun rows x => insStep x rows) rows
theorem rPut_mem {x : Int} {row r : List Int} : r ∈ rPut x row ↔ ∃ A B, row = A ++ B ∧ r = A ++ x :: B := by
  unfold rPut
  rw [List.mem_map]
  constructor
  · rintro ⟨k, _, rfl⟩
    exact ⟨row.take k, row.drop k, (List.take_append_drop _ _).symm, rfl⟩
  · rintro ⟨A, B, rfl, rfl⟩
    exact ⟨A.length, by simp; omega, by simp⟩
theorem rowsI_spec : ∀ {U P : List Int} {rows : List (List Int)}, (P ++ U).Nodup → rows.Nodup → (∀ r, r ∈ rows ↔ r.Perm P) → (rowsI rows U).Nodup ∧ ∀ r, r ∈ rowsI rows U ↔ r.Perm (P ++ U)
  | [], P, rows, h, hn, hm => by
    rw [List.append_nil]
    exact ⟨hn, hm⟩
  | x :: U, P, rows, h, hn, hm => by
    have hx : x ∉ P := by
      rw [List.nodup_append] at h
      exact fun z => h.2.2 x z x List.mem_cons_self rfl
    have nx : ∀ r ∈ rows, x ∉ r := fun r hr z => hx (((hm r).mp hr).mem_iff.mp z)
    have e : P ++ x :: U = (P ++ [x]) ++ U := by simp
    show (rowsI (insStep x rows) U).Nodup ∧ ∀ r, r ∈ rowsI (insStep x rows) U ↔ r.Perm (P ++ x :: U)
    rw [e]
    apply rowsI_spec (by rw [← e]; exact h)
    · unfold insStep List.Nodup
      rw [List.pairwise_flatMap]
      refine ⟨fun row hr => ?_, List.Pairwise.imp_of_mem (fun {a b} ha hb hab => ?_) hn⟩
      · unfold rPut
        rw [List.pairwise_map]
        refine List.Pairwise.imp_of_mem (fun {i j} hi hj hij e => ?_) (List.nodup_range)
        have hi := List.mem_range.mp hi
        have hj := List.mem_range.mp hj
        have q : ∀ k, k < row.length + 1 → (row.take k ++ x :: row.drop k).idxOf x = k := fun k hk => by
          rw [List.idxOf_append, if_neg (fun z => nx row hr (List.mem_of_mem_take z))]
          simp
          omega
        have := congrArg (List.idxOf x) e
        rw [q i hi, q j hj] at this
        exact hij this
      · intro y hy z hz e
        obtain ⟨A, B, rfl, rfl⟩ := rPut_mem.mp hy
        obtain ⟨A', B', rfl, rfl⟩ := rPut_mem.mp hz
        apply hab
        have q : ∀ A B : List Int, x ∉ A → (A ++ x :: B).erase x = A ++ B := fun A B h => by
          rw [List.erase_append_right _ h]; simp
        have n1 : x ∉ A := fun z => nx _ ha (List.mem_append_left _ z)
        have n2 : x ∉ A' := fun z => nx _ hb (List.mem_append_left _ z)
        have := congrArg (fun l => List.erase l x) e
        simp only [q _ _ n1, q _ _ n2] at this
        exact this
    · intro r
      unfold insStep
      rw [List.mem_flatMap]
      constructor
      · rintro ⟨row, hr, hy⟩
        obtain ⟨A, B, rfl, rfl⟩ := rPut_mem.mp hy
        have p := (hm _).mp hr
        exact (List.perm_middle.trans (p.cons x)).trans (List.perm_append_comm (l₁ := [x]) (l₂ := P))
      · intro p
        have mx : x ∈ r := p.mem_iff.mpr (by simp)
        obtain ⟨A, B, rfl⟩ := List.append_of_mem mx
        refine ⟨A ++ B, (hm _).mpr ?_, rPut_mem.mpr ⟨A, B, rfl, rfl⟩⟩
        have p1 : (x :: (A ++ B)).Perm (x :: P) := (List.perm_middle.symm.trans p).trans (List.perm_append_comm (l₁ := P) (l₂ := [x]))
        exact p1.cons_inv
theorem perm_of_sub : ∀ {r U : List Int}, r.length = U.length → r.Nodup → (∀ x ∈ r, x ∈ U) → r.Perm U
  | [], U, hl, _, _ => by
    have : U = [] := List.length_eq_zero_iff.mp hl.symm
    rw [this]
  | x :: r, U, hl, hr, hs => by
    have mx := hs x List.mem_cons_self
    rw [List.nodup_cons] at hr
    have p : U.Perm (x :: U.erase x) := List.perm_cons_erase mx
    have l := p.length_eq
    simp only [List.length_cons] at l hl
    have q : r.Perm (U.erase x) := perm_of_sub (by omega) hr.2 fun y hy => by
      have ne : y ≠ x := fun e => hr.1 (e ▸ hy)
      exact (List.mem_erase_of_ne ne).mpr (hs y (List.mem_cons_of_mem _ hy))
    exact (q.cons x).trans p.symm
/-- both tell the same rows -/
theorem rows_perm {U : List Int} (hU : Rise U) : (rowsI [[]] U).Perm (rowsP U U.length) := by
  have a := rowsI_spec (U := U) (P := []) (rows := [[]]) (by simpa using hU.nodup) (by simp) (fun r => by simp)
  rw [List.nil_append] at a
  rw [List.perm_ext_iff_of_nodup a.1 (rowsP_nodup hU _)]
  intro r
  rw [a.2, rowsP_mem]
  constructor
  · intro p
    exact ⟨p.length_eq, p.nodup_iff.mpr hU.nodup, fun x hx => p.mem_iff.mp hx⟩
  · rintro ⟨h1, h2, h3⟩
    exact perm_of_sub h1 h2 h3
/-- exchanges as rows of pairs -/
def exR (U r : List Int) : List (List Int) := (U.zip r).map fun p => [p.1, p.2]
theorem exR_lt : ∀ {U a b : List Int}, a.length = U.length → b.length = U.length → HT.lexLt a b = true → ltR (exR U a) (exR U b) = true
  | [], [], [], _, _, h => by simp [HT.lexLt] at h
  | [], _ :: _, _, h, _, _ => by simp at h
  | [], [], _ :: _, _, h, _ => by simp at h
  | u :: U, [], _, h, _, _ => by simp at h
  | u :: U, _ :: _, [], _, h, _ => by simp at h
  | u :: U, x :: a, y :: b, ha, hb, h => by
    rw [HT.lexLt_cons] at h
    show ltR ([u, x] :: exR U a) ([u, y] :: exR U b) = true
    unfold ltR
    by_cases c : x = y
    · rw [if_pos c] at h
      rw [if_pos (by rw [c])]
      exact exR_lt (by simpa using ha) (by simpa using hb) h
    · rw [if_neg c] at h
      rw [if_neg (by simpa using c), HT.lexLt_cons, if_pos rfl, HT.lexLt_cons, if_neg c]
      exact h
theorem sort_rows {U : List Int} (hU : Rise U) : sortR ((rowsI [[]] U).map (exR U)) = (rowsP U U.length).map (exR U) := by
  apply sortR_of
  · rw [List.pairwise_map]
    exact List.Pairwise.imp_of_mem (fun {a b} ha hb h => exR_lt (rowsP_mem.mp ha).1 (rowsP_mem.mp hb).1 h) (rowsP_sorted hU _)
  · exact (rows_perm hU).map _
end Q
namespace KK
open PySem L2 Q
def rws (rs : List (List Int)) : List D := rs.map fun r => .tuple (nz r)
theorem rws_app {a b : List (List Int)} : rws a ++ rws b = rws (a ++ b) := by simp [rws]
theorem rws_len {a : List (List Int)} : (rws a).length = a.length := by simp [rws]
theorem rws_cons {r : List Int} {a : List (List Int)} : rws (r :: a) = .tuple (nz r) :: rws a := rfl
theorem pow6 {n k : Nat} (hn : n ≤ 6) (hk : k ≤ 6) : n ^ k ≤ 46656 := by
  rcases Nat.eq_zero_or_pos n with rfl | hp
  · rcases Nat.eq_zero_or_pos k with rfl | h
    · decide
    · rw [Nat.zero_pow h]; omega
  · exact Nat.le_trans (Nat.pow_le_pow_left hn k) (Nat.le_trans (Nat.pow_le_pow_right (by omega) hk) (by decide))
theorem rowStep_cons {U r : List Int} {c : List (List Int)} : rowStep U (r :: c) = ((U.filter fun v => !decide (v ∈ r)).map fun v => r ++ [v]) ++ rowStep U c := by simp [rowStep]
theorem rowStep_len {U : List Int} {rows : List (List Int)} : (rowStep U rows).length ≤ rows.length * U.length := by
  unfold rowStep
  induction rows with
  | nil => simp
  | cons r rs ih =>
    simp only [List.flatMap_cons, List.length_append, List.length_map, List.length_cons]
    have := List.length_filter_le (fun v => !decide (v ∈ r)) U
    rw [Nat.add_mul, Nat.one_mul]
    omega
theorem zip_pz {U r : List Int} : zipD (nz U) (nz r) = (U.zip r).map fun p => .tuple [.int p.1, .int p.2] := by
  simp [zipD, nz, List.zip_map]
def exD (U r : List Int) : D := .tuple (zipD (nz U) (nz r))
set_option maxHeartbeats 4000000 in
theorem all_exchanges_ok {U : List Int} (hl : U.length ≤ 6) {n : Nat} : sem fds (n + 1) i_all_exchanges [.d (.tuple (nz U))] = .ok (.lst ((rowsP U U.length).map (exD U))) [some (.d (.tuple (nz U)))] := by
  have g : U.length ≤ sizeLine := by rw [sizeLine_eq]; omega
  rw [f_all_exchanges]
  unfold b_all_exchanges
  simp [-rngK_i, rngK_nat g]
  obtain ⟨r', e, h⟩ := forL_inv (tg := [2]) (one := true) (pin := [false]) (b := evS (sem fds n) [false] (.sq (.asg 3 (.lst .nil)) (.sq (.for_ [4] true (.seq (.var 1)) (.ex (.ext 3 (.lc [5] [5] true (.seq (.var 0)) (.cmp .nin (.var 5) (.var 4)) (.bin .add (.var 4) (.tup (.cons (.var 5) .nil))))))) (.asg 1 (.var 3)))))
    (fun xs r => ∃ (y2 y3 : Option Val) (y4 : Option D) (v : Val) (k : Nat), k ≤ U.length ∧ xs = ((List.range U.length).drop k).map (fun (k : Nat) => PyData.int (k : Int)) ∧ (v = .lst (rws (rowsP U k)) ∨ v = .d (.list (rws (rowsP U k)))) ∧ r = [some (.d (.tuple (nz U))), some v, y2, y3, y4.map .d, none]) rfl
    (by
      rintro x xs r ⟨y2, y3, y4, v, k, hk, hx, hv, rfl⟩
      have kl : k < U.length := by
        rcases Nat.lt_or_ge k U.length with h | h
        · exact h
        · rw [List.drop_eq_nil_of_le (by simpa using h)] at hx; cases hx
      rw [List.drop_eq_getElem_cons (by simpa using kl)] at hx
      simp only [List.map_cons, List.cons.injEq, List.getElem_range] at hx
      obtain ⟨rfl, rfl⟩ := hx
      obtain ⟨r', e, h⟩ := forL_inv (tg := [4]) (one := true) (pin := [false]) (b := evS (sem fds n) [false] (.ex (.ext 3 (.lc [5] [5] true (.seq (.var 0)) (.cmp .nin (.var 5) (.var 4)) (.bin .add (.var 4) (.tup (.cons (.var 5) .nil)))))))
        (fun xs r => ∃ (y4 : Option D) (A c : List (List Int)), (∀ r ∈ c, r ∈ rowsP U k) ∧ xs = rws c ∧ A ++ rowStep U c = rowStep U (rowsP U k) ∧ r = [some (.d (.tuple (nz U))), some (.d (.list (rws (rowsP U k)))), some (.d (.int (k : Int))), some (.lst (rws A)), y4.map .d, none]) rfl
        (by
          rintro x xs r ⟨y4, A, c, hc, hx, hA, rfl⟩
          cases c with
          | nil => cases hx
          | cons q c =>
            rw [rws_cons] at hx
            simp only [List.cons.injEq] at hx
            obtain ⟨rfl, rfl⟩ := hx
            rw [rowStep_cons, ← List.append_assoc] at hA
            have hlA := congrArg List.length hA
            have b1 := rowStep_len (U := U) (rows := rowsP U k)
            have b2 := rowsP_len (U := U) k
            have b3 := pow6 (n := U.length) (k := k + 1) hl (by omega)
            rw [Nat.pow_succ] at b3
            have b4 := Nat.mul_le_mul_right U.length b2
            have lq : q.length + 1 ≤ sizeLine := by rw [(rowsP_mem.mp (hc q List.mem_cons_self)).1, sizeLine_eq]; omega
            refine ⟨_, rfl, _, .inl ?_, some (.tuple (nz q)), _, c, fun p hp => hc p (List.mem_cons_of_mem _ hp), rfl, hA, rfl⟩
            simp
            rw [lcg_same U .int (fun v => !decide (v ∈ q)) (fun v => .tuple (nz (q ++ [v]))) (xs := nz U) (by simp) rfl (by simp [ownOk]) g (fun v hv => ⟨_, by simp [wipeR]; rfl, by simp, fun _ => by simp [lq], by simp [wipeR], by simp [ownOk]⟩)]
            simp only [List.length_append, List.length_map] at hlA
            have g2 : A.length + (List.filter (fun v => !decide (v ∈ q)) U).length ≤ sizeLine := by rw [sizeLine_eq]; omega
            simp [rws_len, g2]
            simp [rws])
        (rws (rowsP U k)) [some (.d (.tuple (nz U))), some (.d (.list (rws (rowsP U k)))), some (.d (.int (k : Int))), some (.lst (rws [])), y4.map .d, none] ⟨y4, [], rowsP U k, fun _ h => h, rfl, rfl, rfl⟩
      obtain ⟨y4', A, c, hc, hx, hA, rfl⟩ := h
      have : c = [] := by
        cases c with
        | nil => rfl
        | cons q c => cases hx
      subst this
      have hA : A = rowStep U (rowsP U k) := by simpa [rowStep] using hA
      subst hA
      refine ⟨_, rfl, [some (.d (.tuple (nz U))), some (.d (.list (rws (rowsP U (k + 1))))), some (.d (.int (k : Int))), some (.d (.list (rws (rowsP U (k + 1))))), y4'.map .d, none], .inl ?_, some (.d (.int (k : Int))), some (.d (.list (rws (rowsP U (k + 1))))), y4', _, k + 1, kl, rfl, .inr rfl, rfl⟩
      have e' : rws [] = [] := rfl
      rw [e'] at e
      rcases hv with rfl | rfl
      · simp [e]
        simp [rowsP]
      · simp [e]
        simp [rowsP])
    _ _ ⟨none, none, none, .lst [.tuple []], 0, Nat.zero_le _, rfl, .inl rfl, rfl⟩
  obtain ⟨y2, y3, y4, v, k, hk, hx, hv, rfl⟩ := h
  have kl : k = U.length := by
    have := congrArg List.length hx
    simp at this
    omega
  subst kl
  simp at e
  simp [e]
  have b1 := rowsP_len (U := U) U.length
  have b2 := pow6 (n := U.length) (k := U.length) hl hl
  have g2 : (rowsP U U.length).length ≤ sizeLine := by rw [sizeLine_eq]; omega
  have zl : ∀ r, (zipD (nz U) (nz r)).length = min U.length r.length := fun r => by simp [zipD]
  have g3 : ∀ r : List Int, min U.length r.length ≤ sizeLine := fun r => by rw [sizeLine_eq] at g ⊢; omega
  rw [lc_all (rowsP U U.length) (fun r => .tuple (nz r)) (exD U) (xs := rws (rowsP U U.length)) (r1 := [some (.d (.tuple (nz U))), some (.d (.list (rws (rowsP U U.length)))), y2, y3, y4.map .d, none]) (by rcases hv with rfl | rfl <;> simp) rfl (by cases y4 <;> simp [ownOk]) g2 (fun r hr => ⟨_, by simp [wipeR]; rfl, by simp [zl r, g3 r, exD], by simp [wipeR], by simp [ownOk]⟩)]
  simp
end KK
namespace KK
open PySem L2 Q
theorem rowsI_snoc {P : List Int} {x : Int} {rows : List (List Int)} : rowsI rows (P ++ [x]) = insStep x (rowsI rows P) := by simp [rowsI]
theorem insStep_cons {x : Int} {r : List Int} {c : List (List Int)} : insStep x (r :: c) = rPut x r ++ insStep x c := by simp [insStep]
theorem insStep_len {x : Int} {m : Nat} : ∀ {rows : List (List Int)}, (∀ r ∈ rows, r.length = m) → (insStep x rows).length = rows.length * (m + 1)
  | [], _ => by simp [insStep]
  | r :: c, h => by
    rw [insStep_cons, List.length_append, insStep_len fun q hq => h q (List.mem_cons_of_mem _ hq)]
    have : (rPut x r).length = m + 1 := by unfold rPut; simp [h r List.mem_cons_self]
    rw [this, List.length_cons, Nat.add_mul]
    omega
theorem insStep_mem {x : Int} {m : Nat} {rows : List (List Int)} (h : ∀ r ∈ rows, r.length = m) : ∀ r ∈ insStep x rows, r.length = m + 1 := by
  intro r hr
  unfold insStep at hr
  obtain ⟨q, hq, hr⟩ := List.mem_flatMap.mp hr
  obtain ⟨A, B, e, rfl⟩ := rPut_mem.mp hr
  have := h q hq
  rw [e] at this
  simp at this ⊢
  omega
theorem rowsI_len : ∀ (P : List Int) (rows : List (List Int)) (m : Nat), (∀ r ∈ rows, r.length = m) → m + P.length ≤ 6 → (∀ r ∈ rowsI rows P, r.length = m + P.length) ∧ (rowsI rows P).length ≤ rows.length * 7 ^ P.length
  | [], rows, m, h, hl => ⟨h, by simp [rowsI]⟩
  | x :: P, rows, m, h, hl => by
    simp only [List.length_cons] at hl
    obtain ⟨a, b⟩ := rowsI_len P (insStep x rows) (m + 1) (insStep_mem h) (by omega)
    rw [insStep_len h] at b
    have e : rowsI rows (x :: P) = rowsI (insStep x rows) P := rfl
    rw [e]
    refine ⟨fun r hr => by rw [a r hr]; simp; omega, Nat.le_trans b ?_⟩
    rw [List.length_cons, Nat.pow_succ, Nat.mul_comm (7 ^ P.length) 7, ← Nat.mul_assoc]
    exact Nat.mul_le_mul_right _ (Nat.mul_le_mul_left _ (by omega))
set_option maxHeartbeats 4000000 in
theorem law_rows_ok {U : List Int} (hl : U.length ≤ 6) {n : Nat} : ∃ v, sem fds (n + 1) i__law_rows [.d (.tuple (nz U))] = .ok v [some (.d (.tuple (nz U)))] ∧ (v = .lst (rws (rowsI [[]] U)) ∨ v = .d (.list (rws (rowsI [[]] U)))) := by
  have g : U.length ≤ sizeLine := by rw [sizeLine_eq]; omega
  rw [f__law_rows]
  unfold b__law_rows
  simp
  obtain ⟨r', e, h⟩ := forL_inv (tg := [2]) (one := true) (pin := [false]) (b := evS (sem fds n) [false] (.sq (.asg 3 (.lst .nil)) (.sq (.for_ [4] true (.seq (.var 1)) (.ex (.ext 3 (.lc [5] [5] true (.rng1 (.bin .add (.f1 .len (.var 4)) (.k (.int 1)))) (.k (.bool true)) (.bin .add (.bin .add (.sl (.var 4) (.k (.none)) (.bnd (.var 5))) (.tup (.cons (.var 2) .nil))) (.sl (.var 4) (.bnd (.var 5)) (.k (.none)))))))) (.asg 1 (.var 3)))))
    (fun xs r => ∃ (y2 y3 y4 : Option Val) (v : Val) (P R : List Int), P ++ R = U ∧ xs = nz R ∧ (v = .lst (rws (rowsI [[]] P)) ∨ v = .d (.list (rws (rowsI [[]] P)))) ∧ r = [some (.d (.tuple (nz U))), some v, y2, y3, y4, none]) rfl
    (by
      rintro x xs r ⟨y2, y3, y4, v, P, R, hPR, hx, hv, rfl⟩
      cases R with
      | nil => cases hx
      | cons z R =>
        rw [nz_cons] at hx
        simp only [List.cons.injEq] at hx
        obtain ⟨rfl, rfl⟩ := hx
        have hPl : P.length + 1 ≤ 6 := by have := congrArg List.length hPR; simp at this; omega
        obtain ⟨c1, c2⟩ := rowsI_len P [[]] 0 (by simp) (by omega)
        simp only [Nat.zero_add, List.length_singleton, Nat.one_mul] at c1 c2
        have c3 := insStep_len (x := z) c1
        have c4 : (insStep z (rowsI [[]] P)).length ≤ 823543 := by
          rw [c3]
          have := Nat.mul_le_mul c2 hPl
          have : 7 ^ P.length ≤ 7 ^ 5 := Nat.pow_le_pow_right (by omega) (by omega)
          have e : (7 : Nat) ^ 5 = 16807 := by decide
          have : (rowsI [[]] P).length * (P.length + 1) ≤ 16807 * 6 := Nat.mul_le_mul (by omega) hPl
          omega
        obtain ⟨r', e, h⟩ := forL_inv (tg := [4]) (one := true) (pin := [false]) (b := evS (sem fds n) [false] (.ex (.ext 3 (.lc [5] [5] true (.rng1 (.bin .add (.f1 .len (.var 4)) (.k (.int 1)))) (.k (.bool true)) (.bin .add (.bin .add (.sl (.var 4) (.k (.none)) (.bnd (.var 5))) (.tup (.cons (.var 2) .nil))) (.sl (.var 4) (.bnd (.var 5)) (.k (.none))))))))
          (fun xs r => ∃ (y4 : Option Val) (A c : List (List Int)), (∀ r ∈ c, r ∈ rowsI [[]] P) ∧ xs = rws c ∧ A ++ insStep z c = insStep z (rowsI [[]] P) ∧ r = [some (.d (.tuple (nz U))), some (.d (.list (rws (rowsI [[]] P)))), some (.d (.int z)), some (.lst (rws A)), y4, none]) rfl
          (by
            rintro x xs r ⟨y4, A, c, hc, hx, hA, rfl⟩
            cases c with
            | nil => cases hx
            | cons q c =>
              rw [rws_cons] at hx
              simp only [List.cons.injEq] at hx
              obtain ⟨rfl, rfl⟩ := hx
              rw [insStep_cons, ← List.append_assoc] at hA
              have hlA := congrArg List.length hA
              have lq := c1 q (hc q List.mem_cons_self)
              have gq : q.length + 1 ≤ sizeLine := by rw [lq, sizeLine_eq]; omega
              refine ⟨_, rfl, _, .inl ?_, some (.d (.tuple (nz q))), _, c, fun p hp => hc p (List.mem_cons_of_mem _ hp), rfl, hA, rfl⟩
              have r1 : ∀ {r : Rho}, rngK (some (.d (.int ((q.length : Int) + 1)))) r = .ok ((List.range (q.length + 1)).map fun (k : Nat) => .int (k : Int)) r := fun {r} => by
                have := rngK_nat (r := r) gq
                rw [← this]
                rfl
              simp
              rw [lc_same (List.range (q.length + 1)) (fun (k : Nat) => .int (k : Int)) (fun (k : Nat) => .tuple (nz (q.take k ++ z :: q.drop k))) (xs := (List.range (q.length + 1)).map fun (k : Nat) => .int (k : Int)) (by simp [-rngK_i, r1]) rfl (by simp [ownOk]) (by simpa using gq) (fun k hk => ⟨_, by simp [wipeR]; rfl, by
                have hk := List.mem_range.mp hk
                have g1 : min k q.length + 1 ≤ sizeLine := by omega
                have g2 : min k q.length + 1 + (q.length - k) ≤ sizeLine := by rw [sizeLine_eq] at *; omega
                simp [cut_to, cut_from, g1, g2], by simp [wipeR], by simp [ownOk]⟩)]
              simp only [List.length_append, rPut, List.length_map, List.length_range] at hlA
              have g2 : A.length + (q.length + 1) ≤ sizeLine := by rw [sizeLine_eq]; omega
              simp [rws_len, g2, rPut]
              simp [rws])
          (rws (rowsI [[]] P)) [some (.d (.tuple (nz U))), some (.d (.list (rws (rowsI [[]] P)))), some (.d (.int z)), some (.lst (rws [])), y4, none] ⟨y4, [], rowsI [[]] P, fun _ h => h, rfl, rfl, rfl⟩
        obtain ⟨y4', A, c, hc, hx, hA, rfl⟩ := h
        have : c = [] := by
          cases c with
          | nil => rfl
          | cons q c => cases hx
        subst this
        have hA : A = insStep z (rowsI [[]] P) := by simpa [insStep] using hA
        subst hA
        rw [← rowsI_snoc] at e
        refine ⟨_, rfl, [some (.d (.tuple (nz U))), some (.d (.list (rws (rowsI [[]] (P ++ [z]))))), some (.d (.int z)), some (.d (.list (rws (rowsI [[]] (P ++ [z]))))), y4', none], .inl ?_, some (.d (.int z)), some (.d (.list (rws (rowsI [[]] (P ++ [z]))))), y4', _, P ++ [z], R, by rw [← hPR]; simp, rfl, .inr rfl, rfl⟩
        have e' : rws [] = [] := rfl
        rw [e'] at e
        rcases hv with rfl | rfl
        · simp [e]
        · simp [e])
    (nz U) _ ⟨none, none, none, .lst [.tuple []], [], U, rfl, rfl, .inl rfl, rfl⟩
  obtain ⟨y2, y3, y4, v, P, R, hPR, hx, hv, rfl⟩ := h
  have : R = [] := by
    cases R with
    | nil => rfl
    | cons q c => cases hx
  subst this
  rw [List.append_nil] at hPR
  subst hPR
  refine ⟨v, ?_, hv⟩
  rcases hv with rfl | rfl <;> simp [e]
end KK
/-! QZ7: trees that can be shown. -/
namespace Q
open PySem L2
/-- a tree that repr can be asked of: so deep, its text so long at most -/
structure Sh (n B : Nat) (x : D) : Prop where
  a : x.showable = true
  b : x.hasDict = false
  c : x.depth ≤ n
  d : x.shown.length ≤ B
theorem Sh.mono {n m B C : Nat} {x : D} (h : Sh n B x) (p : n ≤ m) (q : B ≤ C) : Sh m C x := ⟨h.a, h.b, Nat.le_trans h.c p, Nat.le_trans h.d q⟩
theorem small_int : ∀ k : Nat, k < 100 → (Str.ofString (toString (k : Int))).length ≤ 2 := by decide +kernel
theorem sh_small {n : Nat} {i : Int} (h0 : 0 ≤ i) (h1 : i < 100) : Sh n 2 (.int i) := by
  obtain ⟨k, rfl⟩ := Int.eq_ofNat_of_zero_le h0
  have hk : k < 100 := by omega
  refine ⟨?_, by simp only [PyData.hasDict], by simp only [PyData.depth]; omega, ?_⟩
  · simp only [PyData.showable]
    apply decide_eq_true
    have : (k : Int).natAbs = k := rfl
    rw [this]
    by_cases z : k = 0
    · subst z; decide
    · exact Nat.lt_of_lt_of_le ((Nat.log2_lt (k := 64) z).mpr (Nat.lt_of_lt_of_le hk (by decide))) (by decide)
  · simp only [PyData.shown]
    exact small_int k hk
theorem shw_all {n B : Nat} : ∀ {xs : List D}, (∀ x ∈ xs, Sh n B x) → PyData.showableAll xs = true ∧ PyData.hasDictAll xs = false ∧ PyData.depthAll xs ≤ n ∧ ∀ t ∈ PyData.shownAll xs, t.length ≤ B
  | [], _ => ⟨by simp only [PyData.showableAll], by simp only [PyData.hasDictAll], by simp only [PyData.depthAll]; omega, by simp [PyData.shownAll]⟩
  | x :: xs, h => by
    have p := h x List.mem_cons_self
    obtain ⟨q1, q2, q3, q4⟩ := shw_all fun y hy => h y (List.mem_cons_of_mem _ hy)
    refine ⟨by simp only [PyData.showableAll, p.a, q1, Bool.and_self], by simp only [PyData.hasDictAll, p.b, q2, Bool.or_self], ?_, ?_⟩
    · simp only [PyData.depthAll]
      exact Nat.max_le.mpr ⟨p.c, q3⟩
    · intro t ht
      simp only [PyData.shownAll, List.mem_cons] at ht
      rcases ht with rfl | ht
      · exact p.d
      · exact q4 t ht
theorem shownAll_len : ∀ {xs : List D}, (PyData.shownAll xs).length = xs.length
  | [] => rfl
  | x :: xs => by simp [PyData.shownAll, shownAll_len]
theorem app_len (a b : Str) : (a ++ b).length = a.length + b.length := by
  show (a.cps ++ b.cps).size = _
  rw [Array.size_append]
  rfl
theorem textFrom_le {B : Nat} : ∀ (ts : List Str) (k : Nat) (acc : Str), (∀ t ∈ ts, t.length ≤ B) → (textFrom k acc ts).length ≤ acc.length + ts.length * (B + 2)
  | [], k, acc, _ => by simp [textFrom]
  | t :: r, k, acc, h => by
    have ih := textFrom_le r (k + 1) (acc ++ (if k > 0 then ", " else "" : String) ++ t) fun x hx => h x (List.mem_cons_of_mem _ hx)
    have e : (acc ++ (if k > 0 then ", " else "" : String) ++ t).length ≤ acc.length + 2 + t.length := by
      rw [app_len, app_len]
      have : (Str.ofString (if k > 0 then ", " else "" : String)).length ≤ 2 := by split <;> decide
      omega
    have := h t List.mem_cons_self
    show (textFrom (k + 1) (acc ++ (if k > 0 then ", " else "" : String) ++ t) r).length ≤ _
    rw [List.length_cons, Nat.add_mul, Nat.one_mul]
    omega
theorem join_le {B : Nat} : ∀ (ts : List Str), (∀ t ∈ ts, t.length ≤ B) → (Str.join ", " ts).length ≤ ts.length * (B + 2)
  | [], _ => Nat.zero_le _
  | [x], h => by
    show x.length ≤ _
    have := h x List.mem_cons_self
    simp only [List.length_singleton]; omega
  | x :: y :: r, h => by
    have ih := join_le (y :: r) fun z hz => h z (List.mem_cons_of_mem _ hz)
    show (x ++ ", " ++ Str.join ", " (y :: r)).length ≤ _
    rw [app_len, app_len]
    have e2 : ((", " : String) : Str).length = 2 := rfl
    have := h x List.mem_cons_self
    rw [e2]
    simp only [List.length_cons] at ih ⊢
    have : (r.length + 1 + 1) * (B + 2) = (r.length + 1) * (B + 2) + (B + 2) := by rw [Nat.add_mul (r.length + 1), Nat.one_mul]
    omega
theorem sh_lst {n B : Nat} {xs : List D} (h : ∀ x ∈ xs, Sh n B x) : Sh (n + 1) (2 + xs.length * (B + 2)) (.list xs) := by
  obtain ⟨q1, q2, q3, q4⟩ := shw_all h
  refine ⟨by simp only [PyData.showable, q1], by simp only [PyData.hasDict, q2], by simp only [PyData.depth]; omega, ?_⟩
  simp only [PyData.shown]
  unfold listText
  rw [app_len]
  have := textFrom_le (PyData.shownAll xs) 0 "[" q4
  rw [shownAll_len] at this
  have e1 : ((("[" : String)) : Str).length = 1 := rfl
  have e2 : ((("]" : String)) : Str).length = 1 := rfl
  rw [e1] at this
  rw [e2]
  omega
theorem sh_tup {n B : Nat} {xs : List D} (h : ∀ x ∈ xs, Sh n B x) : Sh (n + 1) (3 + xs.length * (B + 2)) (.tuple xs) := by
  obtain ⟨q1, q2, q3, q4⟩ := shw_all h
  refine ⟨by simp only [PyData.showable, q1], by simp only [PyData.hasDict, q2], by simp only [PyData.depth]; omega, ?_⟩
  simp only [PyData.shown]
  unfold tupleText
  rw [app_len, app_len]
  have := join_le (PyData.shownAll xs) q4
  rw [shownAll_len] at this
  have e1 : ((("(" : String)) : Str).length = 1 := rfl
  have e2 : (Str.ofString (if (PyData.shownAll xs).length == 1 then ",)" else ")" : String)).length ≤ 2 := by split <;> decide
  rw [e1]
  omega
theorem sh_ok {n B : Nat} {x : D} (h : Sh n B x) (p : n ≤ 64) (q : B ≤ sizeLine) : showOk x = true := by
  unfold showOk
  rw [h.a, h.b, decide_eq_true (Nat.le_trans h.c p), decide_eq_true (Nat.le_trans h.d q)]
  rfl
theorem rep_L {n B : Nat} {xs : List D} (h : Sh n B (.list xs)) (p : n ≤ 64) (q : B ≤ sizeLine) : f1V .repr (.lst xs) = some (.d (.str (PyData.shown (.list xs)))) := by simp [f1V, seen, sh_ok h p q]
theorem rep_l {n B : Nat} {xs : List D} (h : Sh n B (.list xs)) (p : n ≤ 64) (q : B ≤ sizeLine) : f1V .repr (.d (.list xs)) = some (.d (.str (PyData.shown (.list xs)))) := by simp [f1V, seen, sh_ok h p q]
theorem eqD_tr {n m : Nat} {x : D} {y : List D} (hx : Tr n x) (hy : Tr m (.tuple y)) (a : n ≤ 64) (b : m ≤ 64) : eqD x (.tuple y) = some (PyData.eqv x (.tuple y)) := by
  have h1 := hx.shaped a
  have h2 := hy.shaped b
  cases x <;> (unfold eqD; dsimp only; rw [h1, h2]; rfl)
end Q
namespace KK
open PySem L2 Q
/-- a structure can be compared -/
theorem on_tr : ∀ {n : Nat} {U : List Int} {s : D}, On n U s → Tr (2 * n + 2) s := by
  have W := tr_word
  intro n
  induction n with
  | zero =>
    intro U s h
    cases h with
    | unit => exact (tr1 W.1).mono (by omega)
    | one => exact (tr2 W.2.1 tr_int).mono (by omega)
    | set => exact tr2 (n := 1) (W.2.2.1.mono (by omega)) tr_nz
    | row p => exact tr2 (n := 1) (W.2.2.2.1.mono (by omega)) tr_nz
    | round p q => exact tr2 (n := 1) (W.2.2.2.2.1.mono (by omega)) tr_nz
  | succ n ih =>
    intro U s h
    cases h with
    | unit => exact (tr1 W.1).mono (by omega)
    | one => exact (tr2 W.2.1 tr_int).mono (by omega)
    | set => exact (tr2 (n := 1) (W.2.2.1.mono (by omega)) tr_nz).mono (by omega)
    | row p => exact (tr2 (n := 1) (W.2.2.2.1.mono (by omega)) tr_nz).mono (by omega)
    | round p q => exact (tr2 (n := 1) (W.2.2.2.2.1.mono (by omega)) tr_nz).mono (by omega)
    | this h => exact tr3 (tr_str W.2.2.2.2.2.1) tr_int ((ih h).mono (by omega))
    | rule h => exact tr3 (tr_str W.2.2.2.2.2.2.1) tr_int ((ih h).mono (by omega))
    | point hu h => exact tr3 (tr_str W.2.2.2.2.2.2.2.1) tr_int ((ih h).mono (by omega))
    | hole h hlt => exact tr2 (tr_str W.2.2.2.2.2.2.2.2.1) ((ih h).mono (by omega))
    | both a b h1 h2 p => exact tr3 (tr_str W.2.2.2.2.2.2.2.2.2.1) ((ih h1).mono (by omega)) ((ih h2).mono (by omega))
    | inn h1 hne hR hO hp =>
      refine tr3 (tr_str W.2.2.2.2.2.2.2.2.2.2) ((ih h1).mono (by omega)) (tr_tup fun x hx => ?_)
      obtain ⟨p, hp, rfl⟩ := List.mem_map.mp hx
      exact ih (hO p hp)
theorem on_tup {n : Nat} {U : List Int} {s : D} (h : On n U s) : ∃ xs, s = .tuple xs := by
  cases h <;> exact ⟨_, rfl⟩
/-- the lead of a row -/
def ld (U r : List Int) (u : Int) : Int := r.getD (U.idxOf u) 0
theorem ld_map {U r : List Int} (hU : U.Nodup) (hl : r.length = U.length) : U.map (ld U r) = r := by
  apply List.ext_getElem
  · simp [hl]
  · intro k h1 h2
    have hk : k < U.length := by simpa using h1
    simp only [List.getElem_map, ld, idx_getElem hU hk]
    rw [List.getD_eq_getElem?_getD, List.getElem?_eq_getElem h2]
    rfl
theorem ld_pz {U r : List Int} (hU : U.Nodup) (hl : r.length = U.length) : zipD (nz U) (nz r) = pz (ld U r) U := by
  have h := ld_map hU hl
  rw [zip_pz]
  conv => lhs; rw [← h]
  unfold pz
  rw [List.zip_map_right]
  apply List.ext_getElem
  · simp
  · intro k h1 h2
    simp
theorem ld_inj {U r : List Int} (hU : U.Nodup) (hl : r.length = U.length) (hr : r.Nodup) : Inj (ld U r) U := by
  intro a ha b hb e
  have ia : U.idxOf a < r.length := by rw [hl]; exact List.idxOf_lt_length_of_mem ha
  have ib : U.idxOf b < r.length := by rw [hl]; exact List.idxOf_lt_length_of_mem hb
  unfold ld at e
  rw [List.getD_eq_getElem?_getD, List.getD_eq_getElem?_getD, List.getElem?_eq_getElem ia, List.getElem?_eq_getElem ib] at e
  simp only [Option.getD_some] at e
  have z := congrArg r.idxOf e
  rw [idx_getElem hr ia, idx_getElem hr ib] at z
  have q1 := List.getElem_idxOf (List.idxOf_lt_length_of_mem ha)
  have q2 := List.getElem_idxOf (List.idxOf_lt_length_of_mem hb)
  rw [← q1, ← q2]
  simp [z]
/-- what both carry to, row by row -/
theorem carry_ex {n : Nat} {U : List Int} {s : D} (h : On n U s) (hU : Rise U) (hL : U.length + n ≤ 1000) : ∃ S : List Int → D, ∀ r, r.length = U.length → r.Nodup → Same n s (kz (ld U r) U) (S r) ∧ Tr (2 * n + 2) (S r) := by
  have ex : ∀ r : List Int, ∃ s', r.length = U.length → r.Nodup → Same n s (kz (ld U r) U) s' ∧ Tr (2 * n + 2) s' := fun r => by
    by_cases c : r.length = U.length ∧ r.Nodup
    · obtain ⟨s', q⟩ := put_same h hU hL kz_agr (ld_inj hU.nodup c.1 c.2)
      exact ⟨s', fun _ _ => q⟩
    · exact ⟨.none, fun a b => absurd ⟨a, b⟩ c⟩
  exact ⟨fun r => Classical.choose (ex r), fun r => Classical.choose_spec (ex r)⟩
/-- the exchanges that leave s -/
def due (U : List Int) (s : D) (S : List Int → D) : List D := ((rowsP U U.length).filter fun r => PyData.eqv (S r) s).map (exD U)
set_option maxHeartbeats 4000000 in
theorem leavers_ok {n : Nat} {U : List Int} {s : D} (h : On n U s) (hU : Rise U) (hl : U.length ≤ 6) (hn : n ≤ 30) {S : List Int → D} (hS : ∀ r, r.length = U.length → r.Nodup → Same n s (kz (ld U r) U) (S r) ∧ Tr (2 * n + 2) (S r)) {N : Nat} (hN : 2 * n + 4 < N) :
    sem fds N i_leavers_of [.d s] = .ok (.lst (due U s S)) [some (.d s)] := by
  obtain ⟨N, rfl⟩ : ∃ k, N = k + 3 := ⟨N - 3, by omega⟩
  obtain ⟨xs, hs⟩ := on_tup h
  have g : U.length ≤ sizeLine := by rw [sizeLine_eq]; omega
  have b1 := rowsP_len (U := U) U.length
  have b2 := pow6 (n := U.length) (k := U.length) hl hl
  have g2 : (rowsP U U.length).length ≤ sizeLine := by rw [sizeLine_eq]; omega
  rw [f_leavers_of]
  unfold b_leavers_of
  simp
  rw [lcg_same (rowsP U U.length) (exD U) (fun r => PyData.eqv (S r) s) (exD U) (xs := (rowsP U U.length).map (exD U)) (by simp [names_of_ok h hU (by omega) (N + 2) (by omega), all_exchanges_ok hl]) rfl (by simp [ownOk]) g2 (fun r hr => ⟨_, by simp [wipeR]; rfl, by
      obtain ⟨r1, r2, r3⟩ := rowsP_mem.mp hr
      obtain ⟨c1, c2⟩ := hS r r1 r2
      have e : exD U r = .tuple (pz (ld U r) U) := by unfold exD; rw [ld_pz hU.nodup r1]
      have e1 : sem fds (N + 2) i_carried_by [.d s, .d (.tuple (pz (ld U r) U))] = .ok (.d (S r)) [some (.d s), some (.d (.tuple (pz (ld U r) U)))] := by
        rw [f_carried_by]
        unfold b_carried_by
        simp [names_of_ok h hU (by omega) (N + 1) (by omega)]
        rw [lc_same U (fun u => .tuple [.int u, .int (ld U r u)]) .int (xs := pz (ld U r) U) (by simp) rfl (by simp [ownOk]) g (fun u hu => ⟨_, by simp [wipeR]; rfl, by simp, by simp [wipeR], by simp [ownOk]⟩)]
        have e2 : U.map PyData.int = nz U := rfl
        simp [e2, kz_dictT hU.nodup, c1.1 (N + 1) (by omega)]
      have e3 : eqD (S r) s = some (PyData.eqv (S r) s) := by
        have t := on_tr h
        subst hs
        exact eqD_tr c2 t (by omega) (by omega)
      simp [e, e1, e3], fun _ => by simp, by simp [wipeR], by simp [ownOk]⟩)]
  simp [due]
end KK
namespace KK
open PySem L2 Q
theorem exD_toD {U r : List Int} : exD U r = toD (exR U r) := by
  unfold exD toD exR
  rw [zip_pz]
  simp
theorem rowsIn_ex {U r : List Int} : rowsIn ((U.zip r).map fun p => PyData.tuple [.int p.1, .int p.2]) = some (exR U r) := by
  unfold exR
  induction (U.zip r) with
  | nil => rfl
  | cons p c ih => simp only [List.map_cons, rowsIn, intsOf, ih]
theorem rowsAll_ex {U : List Int} : ∀ {L : List (List Int)}, rowsAll (L.map (exD U)) = some (L.map (exR U))
  | [] => rfl
  | r :: L => by
    have ih := rowsAll_ex (U := U) (L := L)
    have e : exD U r = .tuple ((U.zip r).map fun p => PyData.tuple [.int p.1, .int p.2]) := by unfold exD; rw [zip_pz]
    rw [List.map_cons, e]
    simp only [rowsAll, rowsIn_ex, ih, List.map_cons]
theorem sorted_ex {U : List Int} (hU : Rise U) : f1V .sorted (.lst ((rowsI [[]] U).map (exD U))) = some (.lst ((rowsP U U.length).map (exD U))) := by
  have p := rows_perm hU
  have mU : U ∈ rowsI [[]] U := p.mem_iff.mpr (rowsP_mem.mpr ⟨rfl, hU.nodup, fun _ h => h⟩)
  have hi : intsOf ((rowsI [[]] U).map (exD U)) = none := by
    obtain ⟨a, b, e⟩ : ∃ a b, rowsI [[]] U = a :: b := by
      cases q : rowsI [[]] U with
      | nil => rw [q] at mU; cases mU
      | cons a b => exact ⟨a, b, rfl⟩
    rw [e]
    rfl
  have hc : (decide (((rowsI [[]] U).map (exR U)).length < 2) || ((rowsI [[]] U).map (exR U)).all (fun r => !r.isEmpty)) = true := by
    by_cases z : U = []
    · subst z; rfl
    · rw [Bool.or_eq_true]
      right
      rw [List.all_eq_true]
      intro x hx
      obtain ⟨r, hr, rfl⟩ := List.mem_map.mp hx
      have hl := (rowsP_mem.mp (p.mem_iff.mp hr)).1
      cases U with
      | nil => exact absurd rfl z
      | cons u U => cases r with
        | nil => simp at hl
        | cons v r => rfl
  simp only [f1V, y_seqL, hi, rowsAll_ex, hc, if_true, sort_rows hU, List.map_map]
  congr 2
  apply List.map_congr_left
  intro r _
  exact exD_toD.symm
theorem due_len {U : List Int} (hl : U.length ≤ 6) {s : D} {S : List Int → D} : (due U s S).length ≤ 46656 := by
  unfold due
  rw [List.length_map]
  exact Nat.le_trans (List.length_filter_le _ _) (Nat.le_trans (rowsP_len _) (pow6 hl hl))
theorem due_sh {U : List Int} (hl : U.length ≤ 6) (hb : ∀ u ∈ U, 0 ≤ u ∧ u < 100) {s : D} {S : List Int → D} : Sh 3 5000000 (.list (due U s S)) := by
  refine (sh_lst (n := 2) (B := 84) fun x hx => ?_).mono (by omega) (by have := due_len hl (s := s) (S := S); omega)
  obtain ⟨r, hr, rfl⟩ := List.mem_map.mp hx
  have hr := rowsP_mem.mp (List.mem_filter.mp hr).1
  unfold exD
  rw [zip_pz]
  refine (sh_tup (n := 1) (B := 11) fun x hx => ?_).mono (by omega) (by simp; omega)
  obtain ⟨p, hp, rfl⟩ := List.mem_map.mp hx
  obtain ⟨h1, h2⟩ := List.of_mem_zip (a := p.1) (b := p.2) hp
  have b1 := hb _ h1
  have b2 := hb _ (hr.2.2 _ h2)
  refine (sh_tup (n := 0) (B := 2) fun x hx => ?_).mono (by omega) (by simp)
  simp at hx
  rcases hx with rfl | rfl
  · exact sh_small b1.1 b1.2
  · exact sh_small b2.1 b2.2
/-- what the law draws -/
def StructOk (N K : Nat) : Prop := ∀ {cs : List Int} {t : Val} {S : Nat}, cs.length ≤ 63 → Tape cs S t → S + 100 < 1000000 →
  ∃ (s : D) (t' : Val) (U : List Int) (n : Nat), sem fds N i__law_struct [t] = .ok (.d s) [some t'] ∧ On n U s ∧ Rise U ∧ U.length ≤ 4 ∧ (∀ u ∈ U, 0 ≤ u ∧ u < 100) ∧ n ≤ 25 ∧ Tape cs (S + K) t'
set_option maxHeartbeats 8000000 in
theorem law_ok {K : Nat} (hK : K ≤ 100) (H : StructOk 64 K) (ns : List Int) (hn : ns.length ≤ 63) : ∃ outs, runF (sem fds 64) lawF [.scr (ns.map PyData.int) false] = .ok (.d (.bool true)) outs := by
  rw [f_law]
  unfold b_law
  obtain ⟨t0, e0, T0⟩ := tape_ok (n := 63) hn
  obtain ⟨l0, rfl⟩ := isMut_tape T0
  simp [e0]
  obtain ⟨r', e, h⟩ := forL_inv (tg := [2]) (one := true) (pin := [false]) (b := evS (sem fds 64) [false] (.sq (.asg 3 (.call i__law_struct (.cons (.var 1) .nil))) (.sq (.asg 4 (.call i__law_names (.cons (.var 3) .nil))) (.sq (.asg 5 (.f1 .sorted (.lc [6] [6] true (.seq (.call i__law_rows (.cons (.var 4) .nil))) (.k (.bool true)) (.cv .tuple (.zip (.var 4) (.var 6)))))) (.sq (.asg 7 (.lc [8] [8] true (.seq (.var 5)) (.cmp .eq (.call i__law_carried (.cons (.var 3) (.cons (.f1 .dict (.var 8)) .nil))) (.var 3)) (.var 8))) (.for_ [9] true (.rng1 (.k (.int 2))) (.sq (.asg 10 (.call i_leavers_of (.cons (.var 3) .nil))) (.sq (.iff (.cmp .ne (.f1 .repr (.var 10)) (.f1 .repr (.var 7))) (.ret (.k (.bool false))) .skip) (.sq (.ex (.mut .reverse 10 .nil)) (.ex (.mut .append 10 (.cons (.tup (.cons (.tup (.cons (.k (.int 0)) (.cons (.k (.int 0)) .nil))) .nil)) .nil))))))))))))
    (fun xs r => ∃ (l : List D) (S : Nat) (y2 y3 y4 y5 y7 y9 y10 : Option Val), Tape ns S (.lst l) ∧ S + 100 * xs.length ≤ 300 ∧ r = [some (.scr (ns.map PyData.int) false), some (.lst l), y2, y3, y4, y5, none, y7, none, y9, y10]) rfl
    (by
      rintro x xs r ⟨l, S, y2, y3, y4, y5, y7, y9, y10, T, hS, rfl⟩
      simp only [List.length_cons] at hS
      obtain ⟨s, t', U, n, e1, h, hU, hl, hb, hn', T'⟩ := H hn T (by omega)
      obtain ⟨l', rfl⟩ := isMut_tape T'
      obtain ⟨xs', hs⟩ := on_tup h
      obtain ⟨C, hC⟩ := carry_ex h hU (by omega)
      obtain ⟨v, e2, hv⟩ := law_rows_ok (U := U) (by omega) (n := 63)
      have e3 := leavers_ok h hU (by omega) (by omega) hC (N := 64) (by omega)
      have e4 := law_names_ok h hU (by omega) 64 (by omega)
      have g : U.length ≤ sizeLine := by rw [sizeLine_eq]; omega
      have p := rows_perm hU
      have b1 := rowsP_len (U := U) U.length
      have b2 := pow6 (n := U.length) (k := U.length) (by omega) (by omega)
      have g2 : (rowsP U U.length).length ≤ sizeLine := by rw [sizeLine_eq]; omega
      have g3 : (rowsI [[]] U).length ≤ sizeLine := by rw [p.length_eq]; exact g2
      have zl : ∀ r, (zipD (nz U) (nz r)).length = min U.length r.length := fun r => by simp [zipD]
      have g4 : ∀ r : List Int, min U.length r.length ≤ sizeLine := fun r => by rw [sizeLine_eq] at g ⊢; omega
      have sh := due_sh (U := U) (by omega) hb (s := s) (S := C)
      have gs : 5000000 ≤ sizeLine := by rw [sizeLine_eq]; omega
      have dl := due_len (U := U) (by omega) (s := s) (S := C)
      have dl2 : (due U s C).length < sizeLine := by rw [sizeLine_eq]; omega
      refine ⟨_, rfl, [some (.scr (ns.map PyData.int) false), some (.lst l'), some (.d x), some (.d s), some (.d (.tuple (nz U))), some (.d (.list ((rowsP U U.length).map (exD U)))), none, some (.lst (due U s C)), none, some (.d (.int 1)), some (.lst ((due U s C).reverse ++ [.tuple [.tuple [.int 0, .int 0]]]))], .inl ?_, l', S + K, _, _, _, _, _, _, _, T', by omega, rfl⟩
      simp [e1, e4]
      rw [lc_same (rowsI [[]] U) (fun r => .tuple (nz r)) (exD U) (xs := rws (rowsI [[]] U)) (by rcases hv with rfl | rfl <;> simp [e2]) rfl (by simp [ownOk]) g3 (fun r hr => ⟨_, by simp [wipeR]; rfl, by simp [zl, g4, exD], by simp [wipeR], by simp [ownOk]⟩)]
      simp [sorted_ex hU]
      rw [lc_gen (rowsP U U.length) (exD U) (fun r => PyData.eqv (C r) s) (exD U) (xs := (rowsP U U.length).map (exD U)) (r1 := [some (.scr (ns.map PyData.int) false), some (.lst l'), some (.d x), some (.d s), some (.d (.tuple (nz U))), some (.d (.list ((rowsP U U.length).map (exD U)))), none, y7, none, y9, y10]) (by simp) rfl (by simp [ownOk]) g2 (fun r hr => ⟨_, by simp [wipeR]; rfl, by
        obtain ⟨r1, r2, r3⟩ := rowsP_mem.mp hr
        obtain ⟨c1, c2⟩ := hC r r1 r2
        have e : exD U r = .tuple (pz (ld U r) U) := by unfold exD; rw [ld_pz hU.nodup r1]
        have e5 : eqD (C r) s = some (PyData.eqv (C r) s) := by
          have t := on_tr h
          subst hs
          exact eqD_tr c2 t (by omega) (by omega)
        simp [e, kz_dictT hU.nodup, c1.2 64 (by omega), e5], fun _ => by simp, by simp [wipeR], by simp [ownOk]⟩)]
      have ed : ((rowsP U U.length).filter fun r => PyData.eqv (C r) s).map (exD U) = due U s C := rfl
      rw [ed]
      simp [List.range_succ, e3, rep_L sh (by omega) gs, dl2])
    [.int 0, .int 1, .int 2] [some (.scr (ns.map PyData.int) false), some (.lst l0), none, none, none, none, none, none, none, none, none] ⟨l0, 0, none, none, none, none, none, none, none, T0, by simp, rfl⟩
  obtain ⟨l, S, y2, y3, y4, y5, y7, y9, y10, T, hS, rfl⟩ := h
  simp [List.range_succ, -fl_cons]
  rw [e]
  simp
end KK
namespace KK
open PySem L2 Q
/-- a list, owned or not -/
def LV (v : Val) (xs : List D) : Prop := v = .lst xs ∨ v = .d (.list xs)
/-- the structures of a kind on names of this number are told -/
def LA (F M : Nat) (rl : D) (k : Kd) (j b : Nat) : Prop := ∀ U : List Int, Rise U → U.length = j → ∀ N, F ≤ N → ∃ v xs, sem fds N i__law_listed [.d rl, .d k.enc, .d (.tuple (nz U))] = .ok v [some (.d rl), some (.d k.enc), some (.d (.tuple (nz U)))] ∧ LV v xs ∧ (∀ x ∈ xs, On M U x) ∧ xs.length ≤ b
theorem LA.mono {F M G O : Nat} {rl : D} {k : Kd} {j b c : Nat} (h : LA F M rl k j b) (p : F ≤ G) (q : M ≤ O) (r : b ≤ c) : LA G O rl k j c := by
  intro U hU hl N hN
  obtain ⟨v, xs, e, a, o, l⟩ := h U hU hl N (by omega)
  exact ⟨v, xs, e, a, fun x hx => (o x hx).mono q, by omega⟩
theorem nil_eq {n : Nat} {xs : List D} (h : ∀ x ∈ xs, Tr n x) (hn : n ≤ 63) : eqD (.list xs) (.list []) = some (decide (xs = [])) := by
  rw [tr_eqL (tr_lst h) (tr_lst (n := 0) (xs := []) (by simp)) (by omega) (by omega)]
  cases xs <;> simp [PyData.eqv, PyData.eqvAll]
section
variable {rl : D} {U : List Int}
theorem la_void {F M j : Nat} : LA (F + 1) M rl .void j 0 := by
  intro U hU hl N hN
  obtain ⟨N, rfl⟩ : ∃ k, N = k + 1 := ⟨N - 1, by omega⟩
  refine ⟨.lst [], [], ?_, .inl rfl, by simp, by simp⟩
  rw [f__law_listed]
  unfold b__law_listed
  by_cases c : (U.length : Int) = 2 <;> simp [Kd.enc, mthV, idxD, c]
theorem la_unit {F M j : Nat} : LA (F + 1) M rl .unit j (if j = 0 then 1 else 0) := by
  intro U hU hl N hN
  obtain ⟨N, rfl⟩ : ∃ k, N = k + 1 := ⟨N - 1, by omega⟩
  by_cases c : U.length = 0
  · have e : U = [] := List.length_eq_zero_iff.mp c
    subst e
    refine ⟨.lst [.tuple [.str "unit"]], [.tuple [.str "unit"]], ?_, .inl rfl, by simp; exact .unit, by rw [← hl]; simp⟩
    rw [f__law_listed]
    unfold b__law_listed
    simp [Kd.enc, mthV, idxD, nz, sizeLine]
  · refine ⟨.lst [], [], ?_, .inl rfl, by simp, by simp⟩
    have c' : ¬ U = [] := fun z => c (by simp [z])
    rw [f__law_listed]
    unfold b__law_listed
    simp [Kd.enc, mthV, idxD, c, c']
theorem la_one {F M j : Nat} : LA (F + 1) M rl .one j (if j = 1 then 1 else 0) := by
  intro U hU hl N hN
  obtain ⟨N, rfl⟩ : ∃ k, N = k + 1 := ⟨N - 1, by omega⟩
  by_cases c : U.length = 1
  · obtain ⟨u, rfl⟩ := List.length_eq_one_iff.mp c
    refine ⟨.lst [.tuple [.str "one", .int u]], [.tuple [.str "one", .int u]], ?_, .inl rfl, by simp; exact .one, by rw [← hl]; simp⟩
    rw [f__law_listed]
    unfold b__law_listed
    simp [Kd.enc, mthV, idxD, nz, sizeLine]
  · refine ⟨.lst [], [], ?_, .inl rfl, by simp, by simp⟩
    have c2 : ¬ (U.length : Int) = 1 := by omega
    rw [f__law_listed]
    unfold b__law_listed
    simp [Kd.enc, mthV, idxD, c2]
theorem la_set {F M j : Nat} : LA (F + 1) M rl .set j 1 := by
  intro U hU hl N hN
  obtain ⟨N, rfl⟩ : ∃ k, N = k + 1 := ⟨N - 1, by omega⟩
  refine ⟨.lst [.tuple [.str "set", .tuple (nz U)]], [.tuple [.str "set", .tuple (nz U)]], ?_, .inl rfl, by simp; exact .set, by simp⟩
  rw [f__law_listed]
  unfold b__law_listed
  simp [Kd.enc]
end
/-- how many rows -/
def asc : Nat → Nat → Nat
  | _, 0 => 1
  | m, l + 1 => (m + 1) * asc (m + 1) l
theorem rowsI_asc : ∀ (P : List Int) (rows : List (List Int)) (m : Nat), (∀ r ∈ rows, r.length = m) → (rowsI rows P).length = rows.length * asc m P.length
  | [], rows, m, h => by simp [rowsI, asc]
  | x :: P, rows, m, h => by
    have e : rowsI rows (x :: P) = rowsI (insStep x rows) P := rfl
    rw [e, rowsI_asc P (insStep x rows) (m + 1) (insStep_mem h), insStep_len h]
    simp [asc, Nat.mul_assoc]
theorem rows_all {U : List Int} (hU : Rise U) : (∀ r ∈ rowsI [[]] U, r.Perm U) ∧ (rowsI [[]] U).length = asc 0 U.length := by
  refine ⟨fun r hr => ?_, by rw [rowsI_asc U [[]] 0 (by simp)]; simp⟩
  have a := rowsI_spec (U := U) (P := []) (rows := [[]]) (by simpa using hU.nodup) (by simp) (fun r => by simp)
  rw [List.nil_append] at a
  exact (a.2 r).mp hr
set_option maxHeartbeats 4000000 in
theorem la_row {rl : D} {F M j : Nat} (hj : j ≤ 6) : LA (F + 2) M rl .row j (asc 0 j) := by
  intro U hU hl N hN
  obtain ⟨N, rfl⟩ : ∃ k, N = k + 2 := ⟨N - 2, by omega⟩
  obtain ⟨v, e, hv⟩ := law_rows_ok (U := U) (by omega) (n := N)
  obtain ⟨p1, p2⟩ := rows_all hU
  have ea : asc 0 j ≤ 720 := by
    have : j = 0 ∨ j = 1 ∨ j = 2 ∨ j = 3 ∨ j = 4 ∨ j = 5 ∨ j = 6 := by omega
    rcases this with rfl | rfl | rfl | rfl | rfl | rfl | rfl <;> decide
  have g : (rowsI [[]] U).length ≤ sizeLine := by rw [p2, hl, sizeLine_eq]; omega
  refine ⟨.lst ((rowsI [[]] U).map fun r => .tuple [.str "row", .tuple (nz r)]), _, ?_, .inl rfl, ?_, by rw [List.length_map, p2, hl]; exact Nat.le_refl _⟩
  · rw [f__law_listed]
    unfold b__law_listed
    have c0 : cutD (nz U) none (some 0) = nz [] := by rw [show (some (0 : Int)) = some ((0 : Nat) : Int) from rfl, cut_to]; simp [nz_nil]
    have c1 : cutD (nz U) (some 0) none = nz U := by rw [show (some (0 : Int)) = some ((0 : Nat) : Int) from rfl, cut_from]; simp
    have gU : ∀ r ∈ rowsI [[]] U, r.length ≤ sizeLine := fun r hr => by rw [(p1 r hr).length_eq, hl, sizeLine_eq]; omega
    have q : eqD (.tuple (nz [])) (.tuple []) = some true := by rw [← nz_nil]; simp
    simp [Kd.enc, c0, q]
    rw [lc_same (rowsI [[]] U) (fun r => .tuple (nz r)) (fun r => .tuple [.str "row", .tuple (nz r)]) (xs := rws (rowsI [[]] U)) (by rcases hv with rfl | rfl <;> simp [c1, e]) rfl (by simp [ownOk]) g (fun r hr => ⟨_, by simp [wipeR]; rfl, by simp [gU r hr], by simp [wipeR], by simp [ownOk]⟩)]
    simp
  · intro x hx
    obtain ⟨r, hr, rfl⟩ := List.mem_map.mp hx
    exact .row (p1 r hr)
set_option maxHeartbeats 4000000 in
theorem la_round {rl : D} {F M j : Nat} (hj : j ≤ 6) : LA (F + 2) M rl .round j (asc 0 (j - 1)) := by
  intro U hU hl N hN
  obtain ⟨N, rfl⟩ : ∃ k, N = k + 2 := ⟨N - 2, by omega⟩
  cases U with
  | nil =>
    refine ⟨.lst [], [], ?_, .inl rfl, by simp, by simp⟩
    rw [f__law_listed]
    unfold b__law_listed
    have c0 : cutD (nz []) none (some 1) = nz [] := rfl
    have q : eqD (.tuple (nz [])) (.tuple []) = some true := by rw [← nz_nil]; simp
    simp [Kd.enc, c0, q]
  | cons u R =>
    have hR : Rise R := (List.pairwise_cons.mp hU).2
    have hl' : R.length = j - 1 := by simp at hl; omega
    obtain ⟨v, e, hv⟩ := law_rows_ok (U := R) (by omega) (n := N)
    obtain ⟨p1, p2⟩ := rows_all hR
    have ea : asc 0 (j - 1) ≤ 720 := by
      have : j - 1 = 0 ∨ j - 1 = 1 ∨ j - 1 = 2 ∨ j - 1 = 3 ∨ j - 1 = 4 ∨ j - 1 = 5 ∨ j - 1 = 6 := by omega
      rcases this with h | h | h | h | h | h | h <;> rw [h] <;> decide
    have g : (rowsI [[]] R).length ≤ sizeLine := by rw [p2, hl', sizeLine_eq]; omega
    refine ⟨.lst ((rowsI [[]] R).map fun r => .tuple [.str "round", .tuple (nz (u :: r))]), _, ?_, .inl rfl, ?_, by rw [List.length_map, p2, hl']; exact Nat.le_refl _⟩
    · rw [f__law_listed]
      unfold b__law_listed
      have c0 : cutD (nz (u :: R)) none (some 1) = nz [u] := by rw [show (some (1 : Int)) = some ((1 : Nat) : Int) from rfl, cut_to]; simp
      have c1 : cutD (nz (u :: R)) (some 1) none = nz R := by rw [nz_cons, cut_1]
      have gU : ∀ r ∈ rowsI [[]] R, 1 + r.length ≤ sizeLine := fun r hr => by rw [(p1 r hr).length_eq, hl', sizeLine_eq]; omega
      have q : eqD (.tuple (nz [u])) (.tuple []) = some false := by rw [← nz_nil]; simp
      simp [Kd.enc, c0, q]
      rw [lc_same (rowsI [[]] R) (fun r => .tuple (nz r)) (fun r => .tuple [.str "round", .tuple (nz (u :: r))]) (xs := rws (rowsI [[]] R)) (by rcases hv with rfl | rfl <;> simp [c1, e]) rfl (by simp [ownOk]) g (fun r hr => ⟨_, by simp [wipeR]; rfl, by simp [gU r hr], by simp [wipeR], by simp [ownOk]⟩)]
      simp
    · intro x hx
      obtain ⟨r, hr, rfl⟩ := List.mem_map.mp hx
      exact .round ((p1 r hr).cons u) (by simp)
end KK
namespace KK
open PySem L2 Q
theorem cut_last {V : List Int} {m : Int} : cutD (nz (V ++ [m])) (some (-1)) none = nz [m] := by
  unfold cutD HT.sIx
  simp
  rw [show (-1 + ((V.length : Int) + 1)).toNat = V.length by omega]
  simp
set_option maxHeartbeats 4000000 in
theorem la_hole {rl : D} {F M j t : Nat} {k : Kd} (hj : j ≤ 6) (ht : t ≤ 1000000) (h : LA F M rl k (j + 1) t) : LA (F + 1) (M + 1) rl (.hole k) j t := by
  intro U hU hl N hN
  obtain ⟨N, rfl⟩ : ∃ k, N = k + 1 := ⟨N - 1, by omega⟩
  obtain ⟨hh, lst, e1, e2, e3⟩ : ∃ (hh : Int) (lst : List Int), cutD (nz U) (some (-1)) none = nz lst ∧ lst.length ≤ 1 ∧ (hh = maxI (100 :: lst.map (· + 1)) ∧ ∀ u ∈ U, u < hh) := by
    rcases List.eq_nil_or_concat U with rfl | ⟨V, m, rfl⟩
    · exact ⟨100, [], rfl, by simp, by simp [maxI, maxL], by simp⟩
    · rw [List.concat_eq_append] at hU ⊢
      refine ⟨_, [m], cut_last, by simp, rfl, fun u hu => ?_⟩
      have a := maxI_le (a := 100 :: [m].map (· + 1)) (m + 1) (by simp)
      unfold Rise at hU
      rw [List.pairwise_append] at hU
      rcases List.mem_append.mp hu with hu | hu
      · have := hU.2.2 u hu m (by simp); omega
      · simp at hu; omega
  obtain ⟨e4, e5⟩ := e3
  obtain ⟨v, xs, e, a, o, l⟩ := h (U ++ [hh]) (rise_snoc hU e5) (by simp [hl]) N (by omega)
  refine ⟨.lst (xs.map fun x => .tuple [.str "hole", x]), _, ?_, .inl rfl, ?_, by rw [List.length_map]; exact l⟩
  · rw [f__law_listed]
    unfold b__law_listed
    simp [Kd.enc]
    have g1 : lst.length ≤ sizeLine := by rw [sizeLine_eq]; omega
    rw [lc_same lst .int (fun v => .int (v + 1)) (xs := nz lst) (by simp [e1]) rfl (by simp [ownOk]) g1 (fun v hv => ⟨_, by simp [wipeR]; rfl, by simp, by simp [wipeR], by simp [ownOk]⟩)]
    have g2 : 1 + lst.length ≤ sizeLine := by rw [sizeLine_eq]; omega
    have g3 : U.length + 1 ≤ sizeLine := by rw [sizeLine_eq]; omega
    have g4 : xs.length ≤ sizeLine := by rw [sizeLine_eq]; omega
    have e6 : PyData.int 100 :: lst.map (fun v => PyData.int (v + 1)) = nz (100 :: lst.map (· + 1)) := by simp [nz]
    simp [g2, e6]
    rw [nz_maxL (by simp), ← e4]
    simp
    rw [lc_same xs id (fun x => .tuple [.str "hole", x]) (xs := xs) (by rcases a with rfl | rfl <;> simp [g3, e]) (by simp) (by simp [ownOk]) g4 (fun x hx => ⟨_, by simp [wipeR]; rfl, by simp, by simp [wipeR], by simp [ownOk]⟩)]
    simp
  · intro x hx
    obtain ⟨y, hy, rfl⟩ := List.mem_map.mp hx
    exact .hole (o y hy) e5
set_option maxHeartbeats 4000000 in
theorem la_rule {rs : List Kd} {F M j t i : Nat} (hi : i < rs.length) (ht : t ≤ 1000000) (h : LA F M (.tuple (rs.map Kd.enc)) rs[i] j t) : LA (F + 1) (M + 1) (.tuple (rs.map Kd.enc)) (.rule i) j t := by
  intro U hU hl N hN
  obtain ⟨N, rfl⟩ : ∃ k, N = k + 1 := ⟨N - 1, by omega⟩
  obtain ⟨v, xs, e, a, o, l⟩ := h U hU hl N (by omega)
  refine ⟨.lst (xs.map fun x => .tuple [.str "rule", .int i, x]), _, ?_, .inl rfl, ?_, by rw [List.length_map]; exact l⟩
  · rw [f__law_listed]
    unfold b__law_listed
    simp [Kd.enc]
    have g4 : xs.length ≤ sizeLine := by rw [sizeLine_eq]; omega
    have at_i : atI (rs.map Kd.enc) (i : Int) = some rs[i].enc := by rw [atN (by simpa using hi)]; simp
    rw [lc_same xs id (fun x => .tuple [.str "rule", .int i, x]) (xs := xs) (by rcases a with rfl | rfl <;> simp [at_i, e]) (by simp) (by simp [ownOk]) g4 (fun x hx => ⟨_, by simp [wipeR]; rfl, by simp, by simp [wipeR], by simp [ownOk]⟩)]
    simp
  · intro x hx
    obtain ⟨y, hy, rfl⟩ := List.mem_map.mp hx
    exact .rule (o y hy)
set_option maxHeartbeats 4000000 in
theorem la_sized {rl : D} {F M j t lo hi : Nat} {k : Kd} (h : LA F M rl k j t) : LA (F + 1) M rl (.sized k lo hi) j t := by
  intro U hU hl N hN
  obtain ⟨N, rfl⟩ : ∃ k, N = k + 1 := ⟨N - 1, by omega⟩
  obtain ⟨v, xs, e, a, o, l⟩ := h U hU hl N (by omega)
  by_cases c1 : lo ≤ U.length
  · by_cases c2 : U.length ≤ hi
    · refine ⟨v, xs, ?_, a, o, l⟩
      rw [f__law_listed]
      unfold b__law_listed
      rcases a with rfl | rfl <;> simp [Kd.enc, e, c1, c2]
    · refine ⟨.lst [], [], ?_, .inl rfl, by simp, by simp⟩
      rw [f__law_listed]
      unfold b__law_listed
      rcases a with rfl | rfl <;> simp [Kd.enc, e, c1, c2]
  · refine ⟨.lst [], [], ?_, .inl rfl, by simp, by simp⟩
    rw [f__law_listed]
    unfold b__law_listed
    rcases a with rfl | rfl <;> simp [Kd.enc, e, c1]
set_option maxHeartbeats 4000000 in
theorem la_this {rl : D} {F M j t u : Nat} {k k2 : Kd} (ht : t + u ≤ 1000000) (h : LA F M rl k j t) (h2 : LA F M rl k2 j u) : LA (F + 1) (M + 1) rl (.this k k2) j (t + u) := by
  intro U hU hl N hN
  obtain ⟨N, rfl⟩ : ∃ k, N = k + 1 := ⟨N - 1, by omega⟩
  obtain ⟨v, xs, e, a, o, l⟩ := h U hU hl N (by omega)
  obtain ⟨w, ys, e', a', o', l'⟩ := h2 U hU hl N (by omega)
  refine ⟨.lst ((xs.map fun x => .tuple [.str "this", .int 0, x]) ++ ys.map fun x => .tuple [.str "this", .int 1, x]), _, ?_, .inl rfl, ?_, by simp; omega⟩
  · rw [f__law_listed]
    unfold b__law_listed
    simp [Kd.enc, e]
    have g4 : xs.length ≤ sizeLine := by rw [sizeLine_eq]; omega
    have g5 : ys.length ≤ sizeLine := by rw [sizeLine_eq]; omega
    have g6 : xs.length + ys.length ≤ sizeLine := by rw [sizeLine_eq]; omega
    have E : ∀ r : Rho, r = [some (.d rl), some (.d (.tuple [.str "this", k.enc, k2.enc])), some (.d (.tuple (nz U))), some (.d (.str "this")), none, none, none, none, none, some v, none, none] →
        evE (sem fds N) (.lc [8] [8] true (.seq (.var 9)) (.k (.bool true)) (.tup (.cons (.k (.str "this")) (.cons (.k (.int 0)) (.cons (.var 8) .nil))))) r = .ok (.v (.lst (xs.map fun x => .tuple [.str "this", .int 0, x]))) [some (.d rl), some (.d (.tuple [.str "this", k.enc, k2.enc])), some (.d (.tuple (nz U))), some (.d (.str "this")), none, none, none, none, none, some (.d (.list xs)), none, none] := fun r hr => by
      subst hr
      exact lc_all xs id (fun x => .tuple [.str "this", .int 0, x]) (xs := xs) (by rcases a with rfl | rfl <;> simp) (by simp) (by simp [ownOk]) g4 (fun x hx => ⟨_, by simp [wipeR]; rfl, by simp, by simp [wipeR], by simp [ownOk]⟩)
    have E' := E _ rfl
    rcases a with rfl | rfl
    · simp [E']
      rw [lc_same ys id (fun x => .tuple [.str "this", .int 1, x]) (xs := ys) (by rcases a' with rfl | rfl <;> simp [e']) (by simp) (by simp [ownOk]) g5 (fun x hx => ⟨_, by simp [wipeR]; rfl, by simp, by simp [wipeR], by simp [ownOk]⟩)]
      simp [g6]
    · simp [E']
      rw [lc_same ys id (fun x => .tuple [.str "this", .int 1, x]) (xs := ys) (by rcases a' with rfl | rfl <;> simp [e']) (by simp) (by simp [ownOk]) g5 (fun x hx => ⟨_, by simp [wipeR]; rfl, by simp, by simp [wipeR], by simp [ownOk]⟩)]
      simp [g6]
  · intro x hx
    rcases List.mem_append.mp hx with hx | hx
    · obtain ⟨y, hy, rfl⟩ := List.mem_map.mp hx
      exact .this (o y hy)
    · obtain ⟨y, hy, rfl⟩ := List.mem_map.mp hx
      exact .this (o' y hy)
set_option maxHeartbeats 4000000 in
theorem la_point {rl : D} {F M j t : Nat} {k : Kd} (ht : j * t ≤ 1000000) (ht2 : t ≤ 1000000) (h : LA F M rl k j t) : LA (F + 1) (M + 1) rl (.point k) j (j * t) := by
  intro U hU hl N hN
  obtain ⟨N, rfl⟩ : ∃ k, N = k + 1 := ⟨N - 1, by omega⟩
  obtain ⟨v, xs, e, a, o, l⟩ := h U hU hl N (by omega)
  have g4 : xs.length ≤ sizeLine := by rw [sizeLine_eq]; omega
  have fl : ∀ V : List Int, (V.flatMap fun u => xs.map fun x => PyData.tuple [.str "point", .int u, x]).length = V.length * xs.length := fun V => by
    induction V with
    | nil => simp
    | cons u V ih => simp only [List.flatMap_cons, List.length_append, List.length_map, ih, List.length_cons, Nat.add_mul, Nat.one_mul]; omega
  have lt : U.length * xs.length ≤ j * t := by rw [hl]; exact Nat.mul_le_mul_left _ l
  refine ⟨.lst (U.flatMap fun u => xs.map fun x => .tuple [.str "point", .int u, x]), _, ?_, .inl rfl, ?_, by rw [fl]; exact lt⟩
  · rw [f__law_listed]
    unfold b__law_listed
    simp [Kd.enc, e]
    obtain ⟨r', e', h'⟩ := forL_inv (tg := [7]) (one := true) (pin := [false, false, false]) (b := evS (sem fds N) [false, false, false] (.ex (.ext 11 (.lc [8] [8] true (.seq (.var 9)) (.k (.bool true)) (.tup (.cons (.k (.str "point")) (.cons (.var 7) (.cons (.var 8) .nil))))))))
      (fun ys r => ∃ (y7 : Option Val) (w : Val) (P R : List Int), P ++ R = U ∧ ys = nz R ∧ LV w xs ∧ r = [some (.d rl), some (.d (.tuple [.str "point", k.enc])), some (.d (.tuple (nz U))), some (.d (.str "point")), none, none, none, y7, none, some w, none, some (.lst (P.flatMap fun u => xs.map fun x => .tuple [.str "point", .int u, x]))]) rfl
      (by
        rintro y ys r ⟨y7, w, P, R, hPR, hx, hw, rfl⟩
        cases R with
        | nil => cases hx
        | cons z R =>
          rw [nz_cons] at hx
          simp only [List.cons.injEq] at hx
          obtain ⟨rfl, rfl⟩ := hx
          have hPl : P.length + 1 ≤ U.length := by have := congrArg List.length hPR; simp at this; omega
          have := Nat.mul_le_mul_right xs.length hPl
          rw [Nat.add_mul, Nat.one_mul] at this
          have g5 : P.length * xs.length + xs.length ≤ sizeLine := by rw [sizeLine_eq]; omega
          refine ⟨_, rfl, [some (.d rl), some (.d (.tuple [.str "point", k.enc])), some (.d (.tuple (nz U))), some (.d (.str "point")), none, none, none, some (.d (.int z)), none, some (.d (.list xs)), none, some (.lst ((P ++ [z]).flatMap fun u => xs.map fun x => .tuple [.str "point", .int u, x]))], .inl ?_, _, _, P ++ [z], R, by rw [← hPR]; simp, rfl, .inr rfl, rfl⟩
          simp
          rw [lc_all xs id (fun x => .tuple [.str "point", .int z, x]) (xs := xs) (r1 := [some (.d rl), some (.d (.tuple [.str "point", k.enc])), some (.d (.tuple (nz U))), some (.d (.str "point")), none, none, none, some (.d (.int z)), none, some (.d (.list xs)), none, some (.lst (P.flatMap fun u => xs.map fun x => .tuple [.str "point", .int u, x]))]) (by rcases hw with rfl | rfl <;> simp) (by simp) (by simp [ownOk]) g4 (fun x hx => ⟨_, by simp [wipeR]; rfl, by simp, by simp [wipeR], by simp [ownOk]⟩)]
          have fl' := fl P
          simp only [List.length_flatMap, List.length_map] at fl'
          simp [fl', g5])
      (nz U) [some (.d rl), some (.d (.tuple [.str "point", k.enc])), some (.d (.tuple (nz U))), some (.d (.str "point")), none, none, none, none, none, some v, none, some (.lst [])] ⟨none, v, [], U, rfl, rfl, a, rfl⟩
    obtain ⟨y7, w, P, R, hPR, hx, hw, rfl⟩ := h'
    have : R = [] := by
      cases R with
      | nil => rfl
      | cons q c => cases hx
    subst this
    rw [List.append_nil] at hPR
    subst hPR
    rcases a with rfl | rfl <;> simp [e']
  · intro x hx
    obtain ⟨u, hu, hx⟩ := List.mem_flatMap.mp hx
    obtain ⟨y, hy, rfl⟩ := List.mem_map.mp hx
    exact .point hu (o y hy)
end KK
namespace KK
open PySem L2 Q
abbrev Cut := List Int × List Int
def cutStep (x : Int) (c : List Cut) : List Cut := (c.map fun p => (p.1 ++ [x], p.2)) ++ c.map fun p => (p.1, p.2 ++ [x])
def cutsL (P : List Int) : List Cut := P.foldl (fun c x => cutStep x c) [([], [])]
theorem cutsL_snoc {P : List Int} {x : Int} : cutsL (P ++ [x]) = cutStep x (cutsL P) := by simp [cutsL]
def cutsN : Nat → List (Nat × Nat)
  | 0 => [(0, 0)]
  | n + 1 => ((cutsN n).map fun p => (p.1 + 1, p.2)) ++ (cutsN n).map fun p => (p.1, p.2 + 1)
theorem snoc_ind {α : Type} {C : List α → Prop} (h0 : C []) (h1 : ∀ P x, C P → C (P ++ [x])) : ∀ P, C P := fun P => by
  have : ∀ n (P : List α), P.length = n → C P := fun n => by
    induction n with
    | zero => intro P h; rw [List.length_eq_zero_iff.mp h]; exact h0
    | succ n ih =>
      intro P h
      rcases List.eq_nil_or_concat P with rfl | ⟨Q, x, rfl⟩
      · simp at h
      · rw [List.concat_eq_append] at h ⊢
        exact h1 Q x (ih Q (by simpa using h))
  exact this _ P rfl
theorem cutsL_sizes (P : List Int) : (cutsL P).map (fun p => (p.1.length, p.2.length)) = cutsN P.length := by
  induction P using snoc_ind with
  | h0 => rfl
  | h1 P x ih =>
    rw [cutsL_snoc, List.length_append, List.length_singleton]
    unfold cutStep cutsN
    rw [← ih]
    simp [Function.comp_def]
theorem cutsL_mem (P : List Int) : ∀ p ∈ cutsL P, (p.1 ++ p.2).Perm P ∧ p.1.Sublist P ∧ p.2.Sublist P := by
  induction P using snoc_ind with
  | h0 => intro p hp; simp [cutsL] at hp; subst hp; simp
  | h1 P x ih =>
    intro p hp
    rw [cutsL_snoc] at hp
    unfold cutStep at hp
    rcases List.mem_append.mp hp with hp | hp
    · obtain ⟨q, hq, rfl⟩ := List.mem_map.mp hp
      obtain ⟨a, b, c⟩ := ih q hq
      refine ⟨?_, b.append (List.Sublist.refl _), c.trans (List.sublist_append_left _ _)⟩
      show (q.1 ++ [x] ++ q.2).Perm (P ++ [x])
      have : (q.1 ++ [x] ++ q.2).Perm (q.1 ++ q.2 ++ [x]) := by
        rw [List.append_assoc, List.append_assoc]
        exact List.Perm.append_left _ List.perm_append_comm
      exact this.trans (a.append_right _)
    · obtain ⟨q, hq, rfl⟩ := List.mem_map.mp hp
      obtain ⟨a, b, c⟩ := ih q hq
      refine ⟨?_, b.trans (List.sublist_append_left _ _), c.append (List.Sublist.refl _)⟩
      show (q.1 ++ (q.2 ++ [x])).Perm (P ++ [x])
      rw [← List.append_assoc]
      exact a.append_right _
theorem cutsN_len : ∀ n, (cutsN n).length = 2 ^ n
  | 0 => rfl
  | n + 1 => by simp [cutsN, cutsN_len n, Nat.pow_succ]; omega
theorem cutsL_len (P : List Int) : (cutsL P).length = 2 ^ P.length := by
  have := congrArg List.length (cutsL_sizes P)
  rw [List.length_map, cutsN_len] at this
  exact this
def cwz (c : List Cut) : List D := c.map fun p => .tuple [.tuple (nz p.1), .tuple (nz p.2)]
theorem cwz_len {c : List Cut} : (cwz c).length = c.length := by simp [cwz]
theorem cwz_cons {p : Cut} {c : List Cut} : cwz (p :: c) = .tuple [.tuple (nz p.1), .tuple (nz p.2)] :: cwz c := rfl
/-- how many side by side, at most -/
def conv (Ta Tb : Nat → Nat) (c : List Cut) : Nat := (c.map fun p => Ta p.1.length * Tb p.2.length).sum
def convN (Ta Tb : Nat → Nat) (n : Nat) : Nat := ((cutsN n).map fun p => Ta p.1 * Tb p.2).sum
theorem conv_N {Ta Tb : Nat → Nat} {P : List Int} : conv Ta Tb (cutsL P) = convN Ta Tb P.length := by
  unfold conv convN
  rw [← cutsL_sizes, List.map_map]
  rfl
theorem on_list_tr {M : Nat} {U : List Int} {xs : List D} (h : ∀ x ∈ xs, On M U x) : ∀ x ∈ xs, Tr (2 * M + 2) x := fun x hx => on_tr (h x hx)
set_option maxHeartbeats 8000000 in
theorem la_both {rl : D} {F M j : Nat} {k k2 : Kd} {Ta Tb : Nat → Nat} (hj : j ≤ 6) (hM : M ≤ 30) (ht : convN Ta Tb j ≤ 1000000) (h : ∀ i, i ≤ j → LA F M rl k i (Ta i)) (h2 : ∀ i l, i + l = j → Ta i ≠ 0 → LA F M rl k2 l (Tb l)) : LA (F + 2) (M + 1) rl (.both k k2) j (convN Ta Tb j) := by
  intro U hU hl N hN
  obtain ⟨N, rfl⟩ : ∃ k, N = k + 2 := ⟨N - 2, by omega⟩
  have cl := cutsL_len U
  have c6 : 2 ^ U.length ≤ 64 := by
    have : (2 : Nat) ^ U.length ≤ 2 ^ 6 := Nat.pow_le_pow_right (by decide) (by omega)
    exact this
  have B : ∃ v xs, sem fds (N + 1) i__law_beside [.d rl, .d (Kd.both k k2).enc, .d (.tuple (nz U))] = .ok v [some (.d rl), some (.d (Kd.both k k2).enc), some (.d (.tuple (nz U)))] ∧ LV v xs ∧ (∀ x ∈ xs, On (M + 1) U x) ∧ xs.length ≤ convN Ta Tb j := by
    rw [f__law_beside]
    unfold b__law_beside
    simp [Kd.enc]
    -- the cuts
    obtain ⟨r1, e1, p1⟩ := forL_inv (tg := [4]) (one := true) (pin := [false, false, false]) (b := evS (sem fds N) [false, false, false] (.asg 3 (.bin .add (.lc [5, 6] [5, 6] false (.seq (.var 3)) (.k (.bool true)) (.tup (.cons (.bin .add (.var 5) (.tup (.cons (.var 4) .nil))) (.cons (.var 6) .nil)))) (.lc [5, 6] [5, 6] false (.seq (.var 3)) (.k (.bool true)) (.tup (.cons (.var 5) (.cons (.bin .add (.var 6) (.tup (.cons (.var 4) .nil))) .nil)))))))
      (fun ys r => ∃ (y4 : Option Val) (P R : List Int), P ++ R = U ∧ ys = nz R ∧ r = [some (.d rl), some (.d (.tuple [.str "both", k.enc, k2.enc])), some (.d (.tuple (nz U))), some (.lst (cwz (cutsL P))), y4, none, none, none, none, none, none, none]) rfl
      (by
        rintro y ys r ⟨y4, P, R, hPR, hx, rfl⟩
        cases R with
        | nil => cases hx
        | cons z R =>
          rw [nz_cons] at hx
          simp only [List.cons.injEq] at hx
          obtain ⟨rfl, rfl⟩ := hx
          have hPl : P.length + 1 ≤ 6 := by have := congrArg List.length hPR; simp at this; omega
          have cP := cutsL_len P
          have c5 : 2 ^ P.length ≤ 32 := by
            have : (2 : Nat) ^ P.length ≤ 2 ^ 5 := Nat.pow_le_pow_right (by decide) (by omega)
            exact this
          have g : (cutsL P).length ≤ sizeLine := by rw [sizeLine_eq]; omega
          have g2 : (cutsL P).length + (cutsL P).length ≤ sizeLine := by rw [sizeLine_eq]; omega
          have gp : ∀ p ∈ cutsL P, p.1.length + 1 ≤ sizeLine ∧ p.2.length + 1 ≤ sizeLine := fun p hp => by
            obtain ⟨_, b, c⟩ := cutsL_mem P p hp
            have := b.length_le
            have := c.length_le
            rw [sizeLine_eq]
            omega
          refine ⟨_, rfl, [some (.d rl), some (.d (.tuple [.str "both", k.enc, k2.enc])), some (.d (.tuple (nz U))), some (.lst (cwz (cutsL (P ++ [z])))), some (.d (.int z)), none, none, none, none, none, none, none], .inl ?_, some (.d (.int z)), P ++ [z], R, by rw [← hPR]; simp, rfl, rfl⟩
          simp
          rw [lc_all (cutsL P) (fun p => .tuple [.tuple (nz p.1), .tuple (nz p.2)]) (fun p => .tuple [.tuple (nz (p.1 ++ [z])), .tuple (nz p.2)]) (xs := cwz (cutsL P)) (r1 := [some (.d rl), some (.d (.tuple [.str "both", k.enc, k2.enc])), some (.d (.tuple (nz U))), some (.d (.list (cwz (cutsL P)))), some (.d (.int z)), none, none, none, none, none, none, none]) (by simp) rfl (by simp [ownOk]) g (fun p hp => ⟨_, by simp [wipeR]; rfl, by simp [(gp p hp).1], by simp [wipeR], by simp [ownOk]⟩)]
          simp
          rw [lc_same (cutsL P) (fun p => .tuple [.tuple (nz p.1), .tuple (nz p.2)]) (fun p => .tuple [.tuple (nz p.1), .tuple (nz (p.2 ++ [z]))]) (xs := cwz (cutsL P)) (by simp) rfl (by simp [ownOk]) g (fun p hp => ⟨_, by simp [wipeR]; rfl, by simp [(gp p hp).2], by simp [wipeR], by simp [ownOk]⟩)]
          simp [g2]
          simp [cwz, cutsL_snoc, cutStep, Function.comp_def])
      (nz U) [some (.d rl), some (.d (.tuple [.str "both", k.enc, k2.enc])), some (.d (.tuple (nz U))), some (.lst [.tuple [.tuple [], .tuple []]]), none, none, none, none, none, none, none, none] ⟨none, [], U, rfl, rfl, rfl⟩
    obtain ⟨y4, P, R, hPR, hx, rfl⟩ := p1
    have : R = [] := by
      cases R with
      | nil => rfl
      | cons q c => cases hx
    subst this
    rw [List.append_nil] at hPR
    subst hPR
    simp [e1]
    -- side by side
    obtain ⟨r2, e2, p2⟩ := forL_inv (tg := [5, 6]) (one := false) (pin := [false, false, false]) (b := evS (sem fds N) [false, false, false] (.sq (.asg 8 (.call i__law_listed (.cons (.var 0) (.cons (.ix (.var 1) (.k (.int 1))) (.cons (.var 5) .nil))))) (.sq (.asg 9 (.ife (.cmp .ne (.var 8) (.lst .nil)) (.call i__law_listed (.cons (.var 0) (.cons (.ix (.var 1) (.k (.int 2))) (.cons (.var 6) .nil)))) (.lst .nil))) (.for_ [10] true (.seq (.var 8)) (.ex (.ext 7 (.lc [11] [11] true (.seq (.var 9)) (.k (.bool true)) (.tup (.cons (.k (.str "both")) (.cons (.var 10) (.cons (.var 11) .nil))))))))))) 
      (fun ys r => ∃ (y5 y6 y8 y9 y10 : Option Val) (dn rs : List Cut) (acc : List D), dn ++ rs = cutsL P ∧ ys = cwz rs ∧ (∀ x ∈ acc, On (M + 1) P x) ∧ acc.length ≤ conv Ta Tb dn ∧ r = [some (.d rl), some (.d (.tuple [.str "both", k.enc, k2.enc])), some (.d (.tuple (nz P))), some (.d (.list (cwz (cutsL P)))), y4, y5, y6, some (.lst acc), y8, y9, y10, none]) rfl
      (by
        rintro y ys r ⟨y5, y6, y8, y9, y10, dn, rs, acc, hd, hx, ho, hc, rfl⟩
        cases rs with
        | nil => cases hx
        | cons p rs =>
          rw [cwz_cons] at hx
          simp only [List.cons.injEq] at hx
          obtain ⟨rfl, rfl⟩ := hx
          have mp : p ∈ cutsL P := by rw [← hd]; simp
          obtain ⟨q1, q2, q3⟩ := cutsL_mem P p mp
          have ql := q1.length_eq
          rw [List.length_append] at ql
          have R1 : Rise p.1 := List.Pairwise.sublist q2 hU
          have R2 : Rise p.2 := List.Pairwise.sublist q3 hU
          obtain ⟨v, xs, ev, av, ov, lv⟩ := h p.1.length (by omega) p.1 R1 rfl N (by omega)
          have tot : conv Ta Tb dn + Ta p.1.length * Tb p.2.length ≤ convN Ta Tb j := by
            rw [← hl, ← conv_N, ← hd]
            unfold conv
            simp only [List.map_append, List.map_cons, List.sum_append, List.sum_cons]
            omega
          have ne : eqD (.list xs) (.list []) = some (decide (xs = [])) := nil_eq (n := 2 * M + 2) (on_list_tr ov) (by omega)
          -- the others
          obtain ⟨w, ys', ew, aw, ow, lw⟩ : ∃ w ys', (if xs = [] then CR.ok (.lst []) [some (.d rl), some (.d k2.enc), some (.d (.tuple (nz p.2)))] else sem fds N i__law_listed [.d rl, .d k2.enc, .d (.tuple (nz p.2))]) = .ok w [some (.d rl), some (.d k2.enc), some (.d (.tuple (nz p.2)))] ∧ LV w ys' ∧ (∀ x ∈ ys', On M p.2 x) ∧ (xs ≠ [] → ys'.length ≤ Tb p.2.length) := by
            by_cases z : xs = []
            · rw [if_pos z]
              exact ⟨.lst [], [], rfl, .inl rfl, by simp, fun q => absurd z q⟩
            · rw [if_neg z]
              have : Ta p.1.length ≠ 0 := fun e => z (List.length_eq_zero_iff.mp (by omega))
              obtain ⟨w, ys', a, b, c, d⟩ := h2 _ _ (by omega) this p.2 R2 rfl N (by omega)
              exact ⟨w, ys', a, b, c, fun _ => d⟩
          obtain ⟨r3, e3, p3⟩ := forL_inv (tg := [10]) (one := true) (pin := [false, false, false]) (b := evS (sem fds N) [false, false, false] (.ex (.ext 7 (.lc [11] [11] true (.seq (.var 9)) (.k (.bool true)) (.tup (.cons (.k (.str "both")) (.cons (.var 10) (.cons (.var 11) .nil))))))))
            (fun zs r => ∃ (y10 : Option Val) (w' : Val) (dn' : List D) (acc' : List D), dn' ++ zs = xs ∧ LV w' ys' ∧ (∀ x ∈ acc', On (M + 1) P x) ∧ acc'.length ≤ acc.length + dn'.length * ys'.length ∧ r = [some (.d rl), some (.d (.tuple [.str "both", k.enc, k2.enc])), some (.d (.tuple (nz P))), some (.d (.list (cwz (cutsL P)))), y4, some (.d (.tuple (nz p.1))), some (.d (.tuple (nz p.2))), some (.lst acc'), some (.d (.list xs)), some w', y10, none]) rfl
            (by
              rintro x zs r ⟨y10, w', dn', acc', hd', aw', ho', hc', rfl⟩
              have mx : x ∈ xs := by rw [← hd']; simp
              have hne : xs ≠ [] := fun e => by rw [e] at mx; cases mx
              have lw' := lw hne
              have hdl := congrArg List.length hd'
              simp only [List.length_append, List.length_cons] at hdl
              have m1 : (dn'.length + 1) * ys'.length ≤ Ta p.1.length * Tb p.2.length := Nat.mul_le_mul (by omega) lw'
              rw [Nat.add_mul, Nat.one_mul] at m1
              have g : ys'.length ≤ sizeLine := by rw [sizeLine_eq]; omega
              have g2 : acc'.length + ys'.length ≤ sizeLine := by rw [sizeLine_eq]; omega
              refine ⟨_, rfl, [some (.d rl), some (.d (.tuple [.str "both", k.enc, k2.enc])), some (.d (.tuple (nz P))), some (.d (.list (cwz (cutsL P)))), y4, some (.d (.tuple (nz p.1))), some (.d (.tuple (nz p.2))), some (.lst (acc' ++ ys'.map fun t => .tuple [.str "both", x, t])), some (.d (.list xs)), some (.d (.list ys')), some (.d x), none], .inl ?_, some (.d x), .d (.list ys'), dn' ++ [x], _, by rw [← hd']; simp, .inr rfl, ?_, ?_, rfl⟩
              · simp
                rw [lc_all ys' id (fun t => .tuple [.str "both", x, t]) (xs := ys') (r1 := [some (.d rl), some (.d (.tuple [.str "both", k.enc, k2.enc])), some (.d (.tuple (nz P))), some (.d (.list (cwz (cutsL P)))), y4, some (.d (.tuple (nz p.1))), some (.d (.tuple (nz p.2))), some (.lst acc'), some (.d (.list xs)), some (.d (.list ys')), some (.d x), none]) (by rcases aw' with rfl | rfl <;> simp) (by simp) (by simp [ownOk]) g (fun t ht => ⟨_, by simp [wipeR]; rfl, by simp, by simp [wipeR], by simp [ownOk]⟩)]
                simp [g2]
              · intro y hy
                rcases List.mem_append.mp hy with hy | hy
                · exact ho' y hy
                · obtain ⟨t, ht, rfl⟩ := List.mem_map.mp hy
                  exact .both R1 R2 (ov x mx) (ow t ht) q1
              · simp [Nat.add_mul]; omega)
            xs [some (.d rl), some (.d (.tuple [.str "both", k.enc, k2.enc])), some (.d (.tuple (nz P))), some (.d (.list (cwz (cutsL P)))), y4, some (.d (.tuple (nz p.1))), some (.d (.tuple (nz p.2))), some (.lst acc), some (.d (.list xs)), some w, y10, none] ⟨y10, w, [], acc, rfl, aw, ho, by simp, rfl⟩
          obtain ⟨y10', w', dn', acc', hd', aw', ho', hc', rfl⟩ := p3
          rw [List.append_nil] at hd'
          subst hd'
          refine ⟨_, rfl, _, .inl ?_, some (.d (.tuple (nz p.1))), some (.d (.tuple (nz p.2))), some (.d (.list dn')), some w', y10', dn ++ [p], rs, acc', by rw [← hd]; simp, rfl, ho', ?_, rfl⟩
          · by_cases z : dn' = []
            · subst z
              rw [if_pos rfl] at ew
              cases ew
              rcases av with rfl | rfl <;> simp [ev, ne] at e3 ⊢ <;> simp [e3]
            · rw [if_neg z] at ew
              rcases av with rfl | rfl <;> rcases aw with rfl | rfl <;> simp [ev, ne, z, ew, e3]
          · have : conv Ta Tb (dn ++ [p]) = conv Ta Tb dn + Ta p.1.length * Tb p.2.length := by simp [conv]
            rw [this]
            by_cases z : dn' = []
            · subst z
              simp at hc'
              omega
            · have := Nat.mul_le_mul lv (lw z)
              omega)
      (cwz (cutsL P)) [some (.d rl), some (.d (.tuple [.str "both", k.enc, k2.enc])), some (.d (.tuple (nz P))), some (.d (.list (cwz (cutsL P)))), y4, none, none, some (.lst []), none, none, none, none] ⟨none, none, none, none, none, [], cutsL P, [], rfl, rfl, by simp, by simp, rfl⟩
    obtain ⟨y5, y6, y8, y9, y10, dn, rs, acc, hd, hx, ho, hc, rfl⟩ := p2
    have : rs = [] := by
      cases rs with
      | nil => rfl
      | cons q c => cases hx
    subst this
    rw [List.append_nil] at hd
    subst hd
    refine ⟨.lst acc, ?_, acc, .inl rfl, ho, by rw [← hl, ← conv_N]; exact hc⟩
    simp [e2]
  obtain ⟨v, xs, e, a, o, l⟩ := B
  refine ⟨v, xs, ?_, a, o, l⟩
  rw [f__law_listed]
  unfold b__law_listed
  simp only [Kd.enc] at e ⊢
  rcases a with rfl | rfl <;> simp [e]
end KK
namespace KK
open PySem L2 Q
abbrev Blk := List (List Int)
def addTo (x : Int) (k : Nat) (bl : Blk) : Blk := bl.take k ++ (bl.getD k [] ++ [x]) :: bl.drop (k + 1)
def partAdd (x : Int) (bl : Blk) : List Blk := (List.range bl.length).map fun k => addTo x k bl
def partStep (x : Int) (pl : List Blk) : List Blk := (pl.map fun bl => bl ++ [[x]]) ++ pl.flatMap (partAdd x)
def partsL (P : List Int) : List Blk := P.foldl (fun c x => partStep x c) [[]]
theorem partsL_snoc {P : List Int} {x : Int} : partsL (P ++ [x]) = partStep x (partsL P) := by simp [partsL]
def partN : Nat → List (List Nat)
  | 0 => [[]]
  | n + 1 => ((partN n).map fun s => s ++ [1]) ++ (partN n).flatMap fun s => (List.range s.length).map fun k => s.take k ++ (s.getD k 0 + 1) :: s.drop (k + 1)
theorem addTo_sizes {x : Int} {k : Nat} {bl : Blk} (hk : k < bl.length) : (addTo x k bl).map List.length = (bl.map List.length).take k ++ ((bl.map List.length).getD k 0 + 1) :: (bl.map List.length).drop (k + 1) := by
  unfold addTo
  simp [hk, List.map_take, List.map_drop]
theorem partsL_sizes (P : List Int) : (partsL P).map (fun bl => bl.map List.length) = partN P.length := by
  induction P using snoc_ind with
  | h0 => rfl
  | h1 P x ih =>
    rw [partsL_snoc, List.length_append, List.length_singleton]
    unfold partStep partN
    rw [← ih]
    simp only [List.map_append, List.map_map, List.map_flatMap, List.flatMap_map]
    congr 1
    · apply List.map_congr_left; intro bl _; simp
    · congr 1
      funext bl
      unfold partAdd
      rw [List.map_map, List.length_map]
      apply List.map_congr_left
      intro k hk
      exact addTo_sizes (List.mem_range.mp hk)
theorem addTo_flat {x : Int} {k : Nat} {bl : Blk} (hk : k < bl.length) : (addTo x k bl).flatten.Perm (bl.flatten ++ [x]) := by
  have e : bl = bl.take k ++ bl[k] :: bl.drop (k + 1) := by simp
  have g : bl.getD k [] = bl[k] := by rw [List.getD_eq_getElem?_getD, List.getElem?_eq_getElem hk]; rfl
  unfold addTo
  rw [g]
  conv => rhs; rw [e]
  simp only [List.flatten_append, List.flatten_cons, List.append_assoc]
  apply List.Perm.append_left
  apply List.Perm.append_left
  exact List.perm_append_comm
theorem partsL_mem (P : List Int) : ∀ bl ∈ partsL P, bl.flatten.Perm P ∧ (∀ b ∈ bl, b ≠ [] ∧ b.Sublist P) := by
  induction P using snoc_ind with
  | h0 => intro bl h; simp [partsL] at h; subst h; simp
  | h1 P x ih =>
    intro bl h
    rw [partsL_snoc] at h
    unfold partStep at h
    rcases List.mem_append.mp h with h | h
    · obtain ⟨c, hc, rfl⟩ := List.mem_map.mp h
      obtain ⟨a, b⟩ := ih c hc
      refine ⟨by simp; exact a.append_right _, fun q hq => ?_⟩
      rcases List.mem_append.mp hq with hq | hq
      · exact ⟨(b q hq).1, (b q hq).2.trans (List.sublist_append_left _ _)⟩
      · simp at hq; subst hq; exact ⟨by simp, List.sublist_append_right _ _⟩
    · obtain ⟨c, hc, h⟩ := List.mem_flatMap.mp h
      unfold partAdd at h
      obtain ⟨k, hk, rfl⟩ := List.mem_map.mp h
      have hk := List.mem_range.mp hk
      obtain ⟨a, b⟩ := ih c hc
      refine ⟨(addTo_flat hk).trans (a.append_right _), fun q hq => ?_⟩
      unfold addTo at hq
      have g : c.getD k [] = c[k] := by rw [List.getD_eq_getElem?_getD, List.getElem?_eq_getElem hk]; rfl
      rw [g] at hq
      rcases List.mem_append.mp hq with hq | hq
      · have := b q (List.mem_of_mem_take hq); exact ⟨this.1, this.2.trans (List.sublist_append_left _ _)⟩
      · rcases List.mem_cons.mp hq with rfl | hq
        · exact ⟨by simp, (b _ (List.getElem_mem hk)).2.append (List.Sublist.refl _)⟩
        · have := b q (List.mem_of_mem_drop hq); exact ⟨this.1, this.2.trans (List.sublist_append_left _ _)⟩
theorem blk_len {P : List Int} {bl : Blk} (h : bl ∈ partsL P) : bl.length ≤ P.length := by
  obtain ⟨a, b⟩ := partsL_mem P bl h
  rw [← a.length_eq]
  have : ∀ c : Blk, (∀ q ∈ c, q ≠ []) → c.length ≤ c.flatten.length := fun c => by
    induction c with
    | nil => simp
    | cons q c ih =>
      intro h
      have := ih fun z hz => h z (List.mem_cons_of_mem _ hz)
      have := List.length_pos_iff.mpr (h q List.mem_cons_self)
      simp only [List.length_cons, List.flatten_cons, List.length_append]
      omega
  exact this bl fun q hq => (b q hq).1
theorem partN_len : ∀ n, n ≤ 6 → (partN n).length ≤ 203 := by
  intro n hn
  have : n = 0 ∨ n = 1 ∨ n = 2 ∨ n = 3 ∨ n = 4 ∨ n = 5 ∨ n = 6 := by omega
  rcases this with rfl | rfl | rfl | rfl | rfl | rfl | rfl <;> decide +kernel
theorem partsL_len {P : List Int} (h : P.length ≤ 6) : (partsL P).length ≤ 203 := by
  have := congrArg List.length (partsL_sizes P)
  rw [List.length_map] at this
  rw [this]
  exact partN_len _ h
def ptz (pl : List Blk) : List D := pl.map fun bl => .tuple (rws bl)
theorem ptz_cons {bl : Blk} {pl : List Blk} : ptz (bl :: pl) = .tuple (rws bl) :: ptz pl := rfl
theorem ptz_len {pl : List Blk} : (ptz pl).length = pl.length := by simp [ptz]
theorem rws_take {k : Nat} {bl : Blk} : (rws bl).take k = rws (bl.take k) := by simp [rws]
theorem rws_drop {k : Nat} {bl : Blk} : (rws bl).drop k = rws (bl.drop k) := by simp [rws]
theorem rws_at {k : Nat} {bl : Blk} (h : k < bl.length) : atI (rws bl) (k : Int) = some (.tuple (nz bl[k])) := by rw [atN (by rw [rws_len]; exact h)]; simp [rws]
set_option maxHeartbeats 8000000 in
theorem parts_ok {rl kd : D} {P0 : List Int} (hl : P0.length ≤ 6) {N : Nat} {R : Rho} : ∃ (v : Val) (y4 y5 y6 : Option D),
    forL [4] true [false, false, false] (evS (sem fds N) [false, false, false] (.sq (.asg 5 (.lc [6] [6] true (.seq (.var 3)) (.k (.bool true)) (.bin .add (.var 6) (.tup (.cons (.tup (.cons (.var 4) .nil)) .nil))))) (.sq (.for_ [6] true (.seq (.var 3)) (.ex (.ext 5 (.lc [7] [7] true (.rng1 (.f1 .len (.var 6))) (.k (.bool true)) (.bin .add (.bin .add (.sl (.var 6) (.k (.none)) (.bnd (.var 7))) (.tup (.cons (.bin .add (.ix (.var 6) (.var 7)) (.tup (.cons (.var 4) .nil))) .nil))) (.sl (.var 6) (.bnd (.bin .add (.var 7) (.k (.int 1)))) (.k (.none)))))))) (.asg 3 (.var 5)))))
      (nz P0) [some (.d rl), some (.d kd), some (.d (.tuple (nz P0))), some (.lst [.tuple []]), none, none, none, none, none, none, none, none, none, none, none] = .next [some (.d rl), some (.d kd), some (.d (.tuple (nz P0))), some v, y4.map .d, y5.map .d, y6.map .d, none, none, none, none, none, none, none, none] ∧ LV v (ptz (partsL P0)) := by
  obtain ⟨r1, e1, p1⟩ := forL_inv (tg := [4]) (one := true) (pin := [false, false, false]) (b := evS (sem fds N) [false, false, false] (.sq (.asg 5 (.lc [6] [6] true (.seq (.var 3)) (.k (.bool true)) (.bin .add (.var 6) (.tup (.cons (.tup (.cons (.var 4) .nil)) .nil))))) (.sq (.for_ [6] true (.seq (.var 3)) (.ex (.ext 5 (.lc [7] [7] true (.rng1 (.f1 .len (.var 6))) (.k (.bool true)) (.bin .add (.bin .add (.sl (.var 6) (.k (.none)) (.bnd (.var 7))) (.tup (.cons (.bin .add (.ix (.var 6) (.var 7)) (.tup (.cons (.var 4) .nil))) .nil))) (.sl (.var 6) (.bnd (.bin .add (.var 7) (.k (.int 1)))) (.k (.none)))))))) (.asg 3 (.var 5)))))
    (fun ys r => ∃ (v : Val) (y4 y5 y6 : Option D) (P R : List Int), P ++ R = P0 ∧ ys = nz R ∧ LV v (ptz (partsL P)) ∧ r = [some (.d rl), some (.d kd), some (.d (.tuple (nz P0))), some v, y4.map .d, y5.map .d, y6.map .d, none, none, none, none, none, none, none, none]) rfl
    (by
      rintro y ys r ⟨v, y4, y5, y6, P, R, hPR, hx, hv, rfl⟩
      cases R with
      | nil => cases hx
      | cons z R =>
        rw [nz_cons] at hx
        simp only [List.cons.injEq] at hx
        obtain ⟨rfl, rfl⟩ := hx
        have hPl : P.length + 1 ≤ 6 := by have := congrArg List.length hPR; simp at this; omega
        have lp := partsL_len (P := P) (by omega)
        have lp2 := partsL_len (P := P ++ [z]) (by simp; omega)
        rw [partsL_snoc] at lp2
        have g : (partsL P).length ≤ sizeLine := by rw [sizeLine_eq]; omega
        have bll : ∀ bl ∈ partsL P, bl.length ≤ 5 := fun bl h => by have := blk_len h; omega
        have blb : ∀ bl ∈ partsL P, ∀ b ∈ bl, b.length ≤ 5 := fun bl h b hb => by have := ((partsL_mem P bl h).2 b hb).2.length_le; omega
        obtain ⟨r2, e2, p2⟩ := forL_inv (tg := [6]) (one := true) (pin := [false, false, false]) (b := evS (sem fds N) [false, false, false] (.ex (.ext 5 (.lc [7] [7] true (.rng1 (.f1 .len (.var 6))) (.k (.bool true)) (.bin .add (.bin .add (.sl (.var 6) (.k (.none)) (.bnd (.var 7))) (.tup (.cons (.bin .add (.ix (.var 6) (.var 7)) (.tup (.cons (.var 4) .nil))) .nil))) (.sl (.var 6) (.bnd (.bin .add (.var 7) (.k (.int 1)))) (.k (.none))))))))
          (fun ys r => ∃ (y6 : Option D) (A c : List Blk), (∀ bl ∈ c, bl ∈ partsL P) ∧ ys = ptz c ∧ A ++ c.flatMap (partAdd z) = partStep z (partsL P) ∧ r = [some (.d rl), some (.d kd), some (.d (.tuple (nz P0))), some (.d (.list (ptz (partsL P)))), some (.d (.int z)), some (.lst (ptz A)), y6.map .d, none, none, none, none, none, none, none, none]) rfl
          (by
            rintro x xs r ⟨y6, A, c, hc, hx, hA, rfl⟩
            cases c with
            | nil => cases hx
            | cons q c =>
              rw [ptz_cons] at hx
              simp only [List.cons.injEq] at hx
              obtain ⟨rfl, rfl⟩ := hx
              rw [List.flatMap_cons, ← List.append_assoc] at hA
              have hlA := congrArg List.length hA
              simp only [List.length_append] at hlA
              have mq := hc q List.mem_cons_self
              have lq := bll q mq
              have gq : q.length ≤ sizeLine := by rw [sizeLine_eq]; omega
              refine ⟨_, rfl, _, .inl ?_, some (.tuple (rws q)), _, c, fun p hp => hc p (List.mem_cons_of_mem _ hp), rfl, hA, rfl⟩
              simp
              rw [lc_same (List.range q.length) (fun (k : Nat) => .int (k : Int)) (fun (k : Nat) => .tuple (rws (addTo z k q))) (xs := (List.range q.length).map fun (k : Nat) => .int (k : Int)) (by simp [-rngK_i, rws_len, rngK_nat gq]) rfl (by simp [ownOk]) (by simpa using gq) (fun k hk => ⟨_, by simp [wipeR]; rfl, by
                have hk := List.mem_range.mp hk
                have lb := blb q mq q[k] (List.getElem_mem hk)
                have g0 : q[k].length + 1 ≤ sizeLine := by rw [sizeLine_eq]; omega
                have g1 : min k q.length + 1 ≤ sizeLine := by rw [sizeLine_eq]; omega
                have g2 : min k q.length + 1 + (q.length - (k + 1)) ≤ sizeLine := by rw [sizeLine_eq]; omega
                have c3 : cutD (rws q) (some ((k : Int) + 1)) none = rws (q.drop (k + 1)) := by
                  have := cut_from (xs := rws q) (n := k + 1)
                  rw [← rws_drop, ← this]
                  rfl
                have e6 : rws (q.take k) ++ PyData.tuple (nz (q[k] ++ [z])) :: rws (q.drop (k + 1)) = rws (addTo z k q) := by
                  simp [addTo, rws, hk]
                simp [cut_to, c3, rws_at hk, rws_take, rws_len, g0, g1, g2, e6], by simp [wipeR], by simp [ownOk]⟩)]
              unfold partAdd at hlA
              simp only [List.length_map, List.length_range] at hlA
              have g3 : A.length + q.length ≤ sizeLine := by rw [sizeLine_eq]; omega
              simp [ptz_len, g3]
              simp [ptz, partAdd])
          (ptz (partsL P)) [some (.d rl), some (.d kd), some (.d (.tuple (nz P0))), some (.d (.list (ptz (partsL P)))), some (.d (.int z)), some (.lst (ptz ((partsL P).map fun bl => bl ++ [[z]]))), y6.map .d, none, none, none, none, none, none, none, none] ⟨y6, _, partsL P, fun _ h => h, rfl, rfl, rfl⟩
        obtain ⟨y6', A, c, hc, hx, hA, rfl⟩ := p2
        have : c = [] := by
          cases c with
          | nil => rfl
          | cons q c => cases hx
        subst this
        have hA : A = partStep z (partsL P) := by simpa using hA
        subst hA
        rw [← partsL_snoc] at e2
        refine ⟨_, rfl, [some (.d rl), some (.d kd), some (.d (.tuple (nz P0))), some (.d (.list (ptz (partsL (P ++ [z]))))), some (.d (.int z)), some (.d (.list (ptz (partsL (P ++ [z]))))), y6'.map .d, none, none, none, none, none, none, none, none], .inl ?_, _, some (.int z), some (.list (ptz (partsL (P ++ [z])))), y6', P ++ [z], R, by rw [← hPR]; simp, rfl, .inr rfl, rfl⟩
        simp
        have gb : ∀ bl ∈ partsL P, bl.length + 1 ≤ sizeLine := fun bl h => by have := bll bl h; rw [sizeLine_eq]; omega
        rw [lc_all (partsL P) (fun bl => .tuple (rws bl)) (fun bl => .tuple (rws (bl ++ [[z]]))) (xs := ptz (partsL P)) (r1 := [some (.d rl), some (.d kd), some (.d (.tuple (nz P0))), some (.d (.list (ptz (partsL P)))), some (.d (.int z)), y5.map .d, y6.map .d, none, none, none, none, none, none, none, none]) (by rcases hv with rfl | rfl <;> simp) rfl (by cases y6 <;> simp [ownOk]) g (fun bl hb => ⟨_, by simp [wipeR]; rfl, by simp [rws_len, gb bl hb]; simp [rws, nz], by simp [wipeR], by simp [ownOk]⟩)]
        have e3 : (partsL P).map (fun bl => PyData.tuple (rws (bl ++ [[z]]))) = ptz ((partsL P).map fun bl => bl ++ [[z]]) := by simp [ptz]
        simp [e3, e2])
    (nz P0) [some (.d rl), some (.d kd), some (.d (.tuple (nz P0))), some (.lst [.tuple []]), none, none, none, none, none, none, none, none, none, none, none] ⟨.lst [.tuple []], none, none, none, [], P0, rfl, rfl, .inl rfl, rfl⟩
  obtain ⟨v, y4, y5, y6, P, R, hPR, hx, hv, rfl⟩ := p1
  have : R = [] := by
    cases R with
    | nil => rfl
    | cons q c => cases hx
  subst this
  rw [List.append_nil] at hPR
  subst hPR
  exact ⟨v, y4, y5, y6, e1, hv⟩
end KK
namespace KK
open PySem L2 Q
/-- one row of structures, one on each of these blocks -/
def RowOn (M : Nat) (bl : Blk) (gs : List D) : Prop := ∃ bs : List (List Int × D), bs.map (·.1) = bl ∧ bs.map (·.2) = gs ∧ ∀ p ∈ bs, On M p.1 p.2
theorem RowOn.snoc {M : Nat} {bl : Blk} {gs : List D} {b : List Int} {g : D} (h : RowOn M bl gs) (o : On M b g) : RowOn M (bl ++ [b]) (gs ++ [g]) := by
  obtain ⟨bs, h1, h2, h3⟩ := h
  refine ⟨bs ++ [(b, g)], by simp [h1], by simp [h2], fun p hp => ?_⟩
  rcases List.mem_append.mp hp with hp | hp
  · exact h3 p hp
  · simp at hp; subst hp; exact o
theorem RowOn.len {M : Nat} {bl : Blk} {gs : List D} (h : RowOn M bl gs) : gs.length = bl.length := by
  obtain ⟨bs, h1, h2, h3⟩ := h
  rw [← h1, ← h2]; simp
theorem RowOn.tr {M : Nat} {bl : Blk} {gs : List D} (h : RowOn M bl gs) : Tr (2 * M + 3) (.tuple gs) := by
  obtain ⟨bs, h1, h2, h3⟩ := h
  refine tr_tup fun x hx => ?_
  rw [← h2] at hx
  obtain ⟨p, hp, rfl⟩ := List.mem_map.mp hx
  exact on_tr (h3 p hp)
def rwd (rows : List (List D)) : List D := rows.map .tuple
theorem rwd_len {rows : List (List D)} : (rwd rows).length = rows.length := by simp [rwd]
def prodB (Tb : Nat → Nat) (bl : Blk) : Nat := (bl.map fun b => max 1 (Tb b.length)).foldr (· * ·) 1
def prodN (Tb : Nat → Nat) (s : List Nat) : Nat := (s.map fun l => max 1 (Tb l)).foldr (· * ·) 1
theorem prodB_N {Tb : Nat → Nat} {bl : Blk} : prodB Tb bl = prodN Tb (bl.map List.length) := by simp [prodB, prodN, Function.comp_def]
theorem prodB_cons {Tb : Nat → Nat} {b : List Int} {bl : Blk} : prodB Tb (b :: bl) = max 1 (Tb b.length) * prodB Tb bl := rfl
theorem prodB_pos {Tb : Nat → Nat} : ∀ bl : Blk, 1 ≤ prodB Tb bl
  | [] => Nat.le_refl _
  | b :: bl => by
    rw [prodB_cons]
    have := Nat.mul_le_mul (Nat.le_max_left 1 (Tb b.length)) (prodB_pos (Tb := Tb) bl)
    omega
theorem prodB_app {Tb : Nat → Nat} {c : Blk} : ∀ bl : Blk, prodB Tb (bl ++ c) = prodB Tb bl * prodB Tb c
  | [] => by simp [prodB]
  | b :: bl => by rw [List.cons_append, prodB_cons, prodB_cons, prodB_app bl, Nat.mul_assoc]
theorem prodB_snoc {Tb : Nat → Nat} {bl : Blk} {b : List Int} : prodB Tb (bl ++ [b]) = prodB Tb bl * max 1 (Tb b.length) := by
  rw [prodB_app]
  simp [prodB]
/-- how many in one another, at most -/
def wth (Ta Tb : Nat → Nat) (pl : List Blk) : Nat := (pl.map fun bl => Ta bl.length * prodB Tb bl).sum
def wthN (Ta Tb : Nat → Nat) (n : Nat) : Nat := ((partN n).map fun s => Ta s.length * prodN Tb s).sum
theorem wth_N {Ta Tb : Nat → Nat} {P : List Int} : wth Ta Tb (partsL P) = wthN Ta Tb P.length := by
  unfold wth wthN
  rw [← partsL_sizes, List.map_map]
  congr 1
  apply List.map_congr_left
  intro bl _
  simp [prodB_N]
theorem wth_app {Ta Tb : Nat → Nat} {a b : List Blk} : wth Ta Tb (a ++ b) = wth Ta Tb a + wth Ta Tb b := by simp [wth]
theorem wth_cons {Ta Tb : Nat → Nat} {b : Blk} {c : List Blk} : wth Ta Tb (b :: c) = Ta b.length * prodB Tb b + wth Ta Tb c := by simp [wth]
theorem blk_gs {b : List Int} {bl : Blk} : rws (b :: bl) = .tuple (nz b) :: rws bl := rfl
set_option maxHeartbeats 8000000 in
/-- the rows of structures on the blocks -/
theorem rows_here_ok {rl : D} {F M : Nat} {k k2 : Kd} {Tb : Nat → Nat} {P : List Int} {bl : Blk} (hU : Rise P) (hl : P.length ≤ 6) (mb : bl ∈ partsL P) (hp : prodB Tb bl ≤ 1000000) (h2 : ∀ i, 1 ≤ i → i ≤ P.length → LA F M rl k2 i (Tb i)) {N : Nat} (hN : F ≤ N)
    {v3 y4 y5 y7 y8 y10 y11 y12 y13 y14 : Option Val} (q13 : y13 = none) :
    ∃ (v9 : Val) (y10' y11' y12' : Option Val) (rows : List (List D)), forL [10] true [false, false, false] (evS (sem fds N) [false, false, false] (.sq (.asg 11 (.lst .nil)) (.sq (.for_ [12] true (.seq (.call i__law_listed (.cons (.var 0) (.cons (.ix (.var 1) (.k (.int 2))) (.cons (.var 10) .nil))))) (.ex (.ext 11 (.lc [13] [13] true (.seq (.var 9)) (.k (.bool true)) (.bin .add (.var 13) (.tup (.cons (.var 12) .nil))))))) (.asg 9 (.var 11)))))
      (rws bl) [some (.d rl), some (.d (.tuple [.str "in", k.enc, k2.enc])), some (.d (.tuple (nz P))), v3, y4, y5, some (.d (.tuple (rws bl))), y7, y8, some (.lst [.tuple []]), y10, y11, y12, y13, y14] = .next [some (.d rl), some (.d (.tuple [.str "in", k.enc, k2.enc])), some (.d (.tuple (nz P))), v3, y4, y5, some (.d (.tuple (rws bl))), y7, y8, some v9, y10', y11', y12', none, y14] ∧
      LV v9 (rwd rows) ∧ (∀ gs ∈ rows, RowOn M bl gs) ∧ rows.length ≤ prodB Tb bl := by
  subst q13
  obtain ⟨bf, bb⟩ := partsL_mem P bl mb
  obtain ⟨r1, e1, p1⟩ := forL_inv (tg := [10]) (one := true) (pin := [false, false, false]) (b := evS (sem fds N) [false, false, false] (.sq (.asg 11 (.lst .nil)) (.sq (.for_ [12] true (.seq (.call i__law_listed (.cons (.var 0) (.cons (.ix (.var 1) (.k (.int 2))) (.cons (.var 10) .nil))))) (.ex (.ext 11 (.lc [13] [13] true (.seq (.var 9)) (.k (.bool true)) (.bin .add (.var 13) (.tup (.cons (.var 12) .nil))))))) (.asg 9 (.var 11)))))
    (fun ys r => ∃ (v9 : Val) (y10' y11' y12' : Option Val) (rows : List (List D)) (pb rb : Blk), pb ++ rb = bl ∧ ys = rws rb ∧ LV v9 (rwd rows) ∧ (∀ gs ∈ rows, RowOn M pb gs) ∧ rows.length ≤ prodB Tb pb ∧
      r = [some (.d rl), some (.d (.tuple [.str "in", k.enc, k2.enc])), some (.d (.tuple (nz P))), v3, y4, y5, some (.d (.tuple (rws bl))), y7, y8, some v9, y10', y11', y12', none, y14]) rfl
    (by
      rintro y ys r ⟨v9, y10', y11', y12', rows, pb, rb, hd, hx, hv, hr, hc, rfl⟩
      cases rb with
      | nil => cases hx
      | cons b rb =>
        rw [blk_gs] at hx
        simp only [List.cons.injEq] at hx
        obtain ⟨rfl, rfl⟩ := hx
        have hb : b ∈ bl := by rw [← hd]; simp
        obtain ⟨b1, b2⟩ := bb b hb
        have Rb : Rise b := List.Pairwise.sublist b2 hU
        have lb := b2.length_le
        have lb1 := List.length_pos_iff.mpr b1
        obtain ⟨v, xs, ev, av, ov, lv⟩ := h2 b.length lb1 lb b Rb rfl N hN
        have ebl : bl = (pb ++ [b]) ++ rb := by rw [← hd]; simp
        have pl : prodB Tb pb * max 1 (Tb b.length) ≤ 1000000 := by
          have := prodB_app (Tb := Tb) (c := rb) (pb ++ [b])
          rw [← ebl, prodB_snoc] at this
          have := Nat.mul_le_mul_left (prodB Tb pb * max 1 (Tb b.length)) (prodB_pos (Tb := Tb) rb)
          omega
        have pbl : pb.length ≤ 6 := by
          have := blk_len mb
          have := congrArg List.length hd
          simp at this
          omega
        have m0 : prodB Tb pb ≤ prodB Tb pb * max 1 (Tb b.length) := Nat.le_mul_of_pos_right _ (by omega)
        have gr : rows.length ≤ sizeLine := by rw [sizeLine_eq]; omega
        obtain ⟨r2, e2, p2⟩ := forL_inv (tg := [12]) (one := true) (pin := [false, false, false]) (b := evS (sem fds N) [false, false, false] (.ex (.ext 11 (.lc [13] [13] true (.seq (.var 9)) (.k (.bool true)) (.bin .add (.var 13) (.tup (.cons (.var 12) .nil)))))))
          (fun zs r => ∃ (w : Val) (y12' : Option Val) (acc : List (List D)) (dn : List D), dn ++ zs = xs ∧ LV w (rwd rows) ∧ (∀ gs ∈ acc, RowOn M (pb ++ [b]) gs) ∧ acc.length = dn.length * rows.length ∧
            r = [some (.d rl), some (.d (.tuple [.str "in", k.enc, k2.enc])), some (.d (.tuple (nz P))), v3, y4, y5, some (.d (.tuple (rws bl))), y7, y8, some w, some (.d (.tuple (nz b))), some (.lst (rwd acc)), y12', none, y14]) rfl
          (by
            rintro x zs r ⟨w, y12', acc, dn, hd', aw, ho, hc', rfl⟩
            have mx : x ∈ xs := by rw [← hd']; simp
            have hdl := congrArg List.length hd'
            simp only [List.length_append, List.length_cons] at hdl
            have m1 : rows.length * (dn.length + 1) ≤ prodB Tb pb * max 1 (Tb b.length) := Nat.mul_le_mul hc (by omega)
            rw [Nat.mul_add, Nat.mul_one, Nat.mul_comm] at m1
            have g2 : acc.length + rows.length ≤ sizeLine := by rw [sizeLine_eq]; omega
            refine ⟨_, rfl, [some (.d rl), some (.d (.tuple [.str "in", k.enc, k2.enc])), some (.d (.tuple (nz P))), v3, y4, y5, some (.d (.tuple (rws bl))), y7, y8, some (.d (.list (rwd rows))), some (.d (.tuple (nz b))), some (.lst (rwd (acc ++ rows.map fun gs => gs ++ [x]))), some (.d x), none, y14], .inl ?_, .d (.list (rwd rows)), some (.d x), _, dn ++ [x], by rw [← hd']; simp, .inr rfl, ?_, ?_, rfl⟩
            · simp
              rw [lc_all rows .tuple (fun gs => .tuple (gs ++ [x])) (xs := rwd rows) (r1 := [some (.d rl), some (.d (.tuple [.str "in", k.enc, k2.enc])), some (.d (.tuple (nz P))), v3, y4, y5, some (.d (.tuple (rws bl))), y7, y8, some (.d (.list (rwd rows))), some (.d (.tuple (nz b))), some (.lst (rwd acc)), some (.d x), none, y14]) (by rcases aw with rfl | rfl <;> simp) rfl (by simp [ownOk]) gr (fun gs hg => ⟨_, by simp [wipeR]; rfl, by
                have := (hr gs hg).len
                have g3 : gs.length + 1 ≤ sizeLine := by rw [sizeLine_eq]; omega
                simp [g3], by simp [wipeR], by simp [ownOk]⟩)]
              simp [rwd_len, g2]
              simp [rwd]
            · intro gs hg
              rcases List.mem_append.mp hg with hg | hg
              · exact ho gs hg
              · obtain ⟨g0, hg0, rfl⟩ := List.mem_map.mp hg
                exact (hr g0 hg0).snoc (ov x mx)
            · simp [Nat.add_mul, hc'])
          xs [some (.d rl), some (.d (.tuple [.str "in", k.enc, k2.enc])), some (.d (.tuple (nz P))), v3, y4, y5, some (.d (.tuple (rws bl))), y7, y8, some v9, some (.d (.tuple (nz b))), some (.lst []), y12', none, y14] ⟨v9, y12', [], [], rfl, hv, by simp, by simp, rfl⟩
        obtain ⟨w, y12'', acc, dn, hd', aw, ho, hc', rfl⟩ := p2
        rw [List.append_nil] at hd'
        subst hd'
        refine ⟨_, rfl, _, .inl ?_, .d (.list (rwd acc)), some (.d (.tuple (nz b))), some (.d (.list (rwd acc))), y12'', acc, pb ++ [b], rb, by rw [← hd]; simp, rfl, .inr rfl, ho, ?_, rfl⟩
        · rcases av with rfl | rfl <;> simp [ev, e2]
        · rw [prodB_snoc, hc', Nat.mul_comm]
          exact Nat.mul_le_mul hc (by omega))
    (rws bl) [some (.d rl), some (.d (.tuple [.str "in", k.enc, k2.enc])), some (.d (.tuple (nz P))), v3, y4, y5, some (.d (.tuple (rws bl))), y7, y8, some (.lst [.tuple []]), y10, y11, y12, none, y14] ⟨.lst [.tuple []], y10, y11, y12, [[]], [], bl, rfl, rfl, .inl rfl, by
      intro gs hg
      simp at hg
      subst hg
      exact ⟨[], rfl, rfl, by simp⟩, Nat.le_refl _, rfl⟩
  obtain ⟨v9, y10', y11', y12', rows, pb, rb, hd, hx, hv, hr, hc, rfl⟩ := p1
  have : rb = [] := by
    cases rb with
    | nil => rfl
    | cons q c => cases hx
  subst this
  rw [List.append_nil] at hd
  subst hd
  exact ⟨v9, y10', y11', y12', rows, e1, hv, hr, hc⟩
set_option maxHeartbeats 8000000 in
theorem la_inn {rl : D} {F M j : Nat} {k k2 : Kd} {Ta Tb : Nat → Nat} (hj : j ≤ 6) (hM : M ≤ 29) (ht : wthN Ta Tb j ≤ 1000000) (hp : ∀ s ∈ partN j, prodN Tb s ≤ 1000000) (h : ∀ i, i ≤ j → LA F M rl k i (Ta i)) (h2 : ∀ i, 1 ≤ i → i ≤ j → LA F M rl k2 i (Tb i)) : LA (F + 2) (M + 1) rl (.inn k k2) j (wthN Ta Tb j) := by
  intro P hU hl N hN
  obtain ⟨N, rfl⟩ : ∃ k, N = k + 2 := ⟨N - 2, by omega⟩
  have B : ∃ v xs, sem fds (N + 1) i__law_within [.d rl, .d (Kd.inn k k2).enc, .d (.tuple (nz P))] = .ok v [some (.d rl), some (.d (Kd.inn k k2).enc), some (.d (.tuple (nz P)))] ∧ LV v xs ∧ (∀ x ∈ xs, On (M + 1) P x) ∧ xs.length ≤ wthN Ta Tb j := by
    rw [f__law_within]
    unfold b__law_within
    obtain ⟨v3, y4, y5, y6, e1, a3⟩ := parts_ok (rl := rl) (kd := .tuple [.str "in", k.enc, k2.enc]) (P0 := P) (by omega) (N := N) (R := [])
    obtain ⟨r2, e2, p2⟩ := forL_inv (tg := [6]) (one := true) (pin := [false, false, false]) (b := evS (sem fds N) [false, false, false] (.sq (.asg 9 (.lst (.cons (.tup .nil) .nil))) (.sq (.for_ [10] true (.seq (.var 6)) (.sq (.asg 11 (.lst .nil)) (.sq (.for_ [12] true (.seq (.call i__law_listed (.cons (.var 0) (.cons (.ix (.var 1) (.k (.int 2))) (.cons (.var 10) .nil))))) (.ex (.ext 11 (.lc [13] [13] true (.seq (.var 9)) (.k (.bool true)) (.bin .add (.var 13) (.tup (.cons (.var 12) .nil))))))) (.asg 9 (.var 11))))) (.for_ [14] true (.seq (.ife (.cmp .ne (.var 9) (.lst .nil)) (.call i__law_listed (.cons (.var 0) (.cons (.ix (.var 1) (.k (.int 1))) (.cons (.cv .tuple (.rng1 (.f1 .len (.var 6)))) .nil)))) (.lst .nil))) (.ex (.ext 8 (.lc [13] [13] true (.seq (.var 9)) (.k (.bool true)) (.tup (.cons (.k (.str "in")) (.cons (.var 14) (.cons (.var 13) .nil)))))))))))
      (fun ys r => ∃ (y6 y9 y10 y11 y12 y14 : Option Val) (dn rs : List Blk) (acc : List D), dn ++ rs = partsL P ∧ ys = ptz rs ∧ (∀ x ∈ acc, On (M + 1) P x) ∧ acc.length ≤ wth Ta Tb dn ∧ r = [some (.d rl), some (.d (.tuple [.str "in", k.enc, k2.enc])), some (.d (.tuple (nz P))), some (.d (.list (ptz (partsL P)))), y4.map .d, y5.map .d, y6, none, some (.lst acc), y9, y10, y11, y12, none, y14]) rfl
      (by
        rintro y ys r ⟨y6, y9, y10, y11, y12, y14, dn, rs, acc, hd, hx, ho, hc, rfl⟩
        cases rs with
        | nil => cases hx
        | cons bl rs =>
          rw [ptz_cons] at hx
          simp only [List.cons.injEq] at hx
          obtain ⟨rfl, rfl⟩ := hx
          have mb : bl ∈ partsL P := by rw [← hd]; simp
          obtain ⟨bf, bb⟩ := partsL_mem P bl mb
          have bl6 := blk_len mb
          have hpb : prodB Tb bl ≤ 1000000 := by
            rw [prodB_N]
            apply hp
            rw [← hl, ← partsL_sizes]
            exact List.mem_map.mpr ⟨bl, mb, rfl⟩
          obtain ⟨v9, y10', y11', y12', rows, e3, a9, o9, l9⟩ := rows_here_ok (k := k) (rl := rl) (Tb := Tb) (F := F) (M := M) (k2 := k2) hU (by omega) mb hpb (by rw [hl]; exact h2) (N := N) (by omega) (v3 := some (.d (.list (ptz (partsL P))))) (y4 := y4.map .d) (y5 := y5.map .d) (y7 := none) (y8 := some (.lst acc)) (y10 := y10) (y11 := y11) (y12 := y12) (y13 := none) (y14 := y14) rfl
          have gr : rows.length ≤ sizeLine := by rw [sizeLine_eq]; omega
          have tot : wth Ta Tb dn + Ta bl.length * prodB Tb bl ≤ wthN Ta Tb j := by
            rw [← hl, ← wth_N, ← hd, wth_app, wth_cons]
            omega
          have ne : eqD (.list (rwd rows)) (.list []) = some (decide (rwd rows = [])) := nil_eq (n := 2 * M + 3) (fun x hx => by
            obtain ⟨gs, hg, rfl⟩ := List.mem_map.mp hx
            exact (o9 gs hg).tr) (by omega)
          obtain ⟨w, fs, ew, aw, ow, lw⟩ := h bl.length (by omega) (upto bl.length) upto_rise (by rw [upto_len]) N (by omega)
          have em : rwd rows = [] ↔ rows = [] := by cases rows <;> simp [rwd]
          -- those of the first kind, if any rows are there
          obtain ⟨w', fs', ew', aw', ow', lw'⟩ : ∃ w' fs', (if rows = [] then CR.ok (.lst []) [some (.d rl), some (.d k.enc), some (.d (.tuple (nz (upto bl.length))))] else sem fds N i__law_listed [.d rl, .d k.enc, .d (.tuple (nz (upto bl.length)))]) = .ok w' [some (.d rl), some (.d k.enc), some (.d (.tuple (nz (upto bl.length))))] ∧ LV w' fs' ∧ (∀ x ∈ fs', On M (upto bl.length) x) ∧ fs'.length ≤ Ta bl.length := by
            by_cases z : rows = []
            · rw [if_pos z]
              exact ⟨.lst [], [], rfl, .inl rfl, by simp, by simp⟩
            · rw [if_neg z]
              exact ⟨w, fs, ew, aw, ow, lw⟩
          obtain ⟨r4, e4, p4⟩ := forL_inv (tg := [14]) (one := true) (pin := [false, false, false]) (b := evS (sem fds N) [false, false, false] (.ex (.ext 8 (.lc [13] [13] true (.seq (.var 9)) (.k (.bool true)) (.tup (.cons (.k (.str "in")) (.cons (.var 14) (.cons (.var 13) .nil))))))))
            (fun zs r => ∃ (w9 : Val) (y14' : Option Val) (acc' : List D) (dn' : List D), dn' ++ zs = fs' ∧ LV w9 (rwd rows) ∧ (∀ x ∈ acc', On (M + 1) P x) ∧ acc'.length = acc.length + dn'.length * rows.length ∧
              r = [some (.d rl), some (.d (.tuple [.str "in", k.enc, k2.enc])), some (.d (.tuple (nz P))), some (.d (.list (ptz (partsL P)))), y4.map .d, y5.map .d, some (.d (.tuple (rws bl))), none, some (.lst acc'), some w9, y10', y11', y12', none, y14']) rfl
            (by
              rintro x zs r ⟨w9, y14', acc', dn', hd', a9', ho', hc', rfl⟩
              have mx : x ∈ fs' := by rw [← hd']; simp
              have hdl := congrArg List.length hd'
              simp only [List.length_append, List.length_cons] at hdl
              have m1 : (dn'.length + 1) * rows.length ≤ Ta bl.length * prodB Tb bl := Nat.mul_le_mul (by omega) l9
              rw [Nat.add_mul, Nat.one_mul] at m1
              have g2 : acc'.length + rows.length ≤ sizeLine := by rw [sizeLine_eq]; omega
              refine ⟨_, rfl, [some (.d rl), some (.d (.tuple [.str "in", k.enc, k2.enc])), some (.d (.tuple (nz P))), some (.d (.list (ptz (partsL P)))), y4.map .d, y5.map .d, some (.d (.tuple (rws bl))), none, some (.lst (acc' ++ rows.map fun gs => .tuple [.str "in", x, .tuple gs])), some (.d (.list (rwd rows))), y10', y11', y12', none, some (.d x)], .inl ?_, .d (.list (rwd rows)), some (.d x), _, dn' ++ [x], by rw [← hd']; simp, .inr rfl, ?_, ?_, rfl⟩
              · simp
                rw [lc_all rows .tuple (fun gs => .tuple [.str "in", x, .tuple gs]) (xs := rwd rows) (r1 := [some (.d rl), some (.d (.tuple [.str "in", k.enc, k2.enc])), some (.d (.tuple (nz P))), some (.d (.list (ptz (partsL P)))), y4.map .d, y5.map .d, some (.d (.tuple (rws bl))), none, some (.lst acc'), some (.d (.list (rwd rows))), y10', y11', y12', none, some (.d x)]) (by rcases a9' with rfl | rfl <;> simp) rfl (by simp [ownOk]) gr (fun gs hg => ⟨_, by simp [wipeR]; rfl, by simp, by simp [wipeR], by simp [ownOk]⟩)]
                simp [g2]
              · intro y hy
                rcases List.mem_append.mp hy with hy | hy
                · exact ho' y hy
                · obtain ⟨gs, hg, rfl⟩ := List.mem_map.mp hy
                  obtain ⟨bs, q1, q2, q3⟩ := o9 gs hg
                  subst q2
                  refine .inn ?_ (fun p hp => ?_) (fun p hp => ?_) q3 (by rw [q1]; exact bf)
                  · have : bs.length = bl.length := by rw [← q1]; simp
                    rw [this]
                    exact ow' x mx
                  · exact (bb p.1 (by rw [← q1]; exact List.mem_map.mpr ⟨p, hp, rfl⟩)).1
                  · exact List.Pairwise.sublist (bb p.1 (by rw [← q1]; exact List.mem_map.mpr ⟨p, hp, rfl⟩)).2 hU
              · simp [Nat.add_mul]; omega)
            fs' [some (.d rl), some (.d (.tuple [.str "in", k.enc, k2.enc])), some (.d (.tuple (nz P))), some (.d (.list (ptz (partsL P)))), y4.map .d, y5.map .d, some (.d (.tuple (rws bl))), none, some (.lst acc), some v9, y10', y11', y12', none, y14] ⟨v9, y14, acc, [], rfl, a9, ho, by simp, rfl⟩
          obtain ⟨w9, y14', acc', dn', hd', a9', ho', hc', rfl⟩ := p4
          rw [List.append_nil] at hd'
          subst hd'
          refine ⟨_, rfl, _, .inl ?_, some (.d (.tuple (rws bl))), some w9, y10', y11', y12', y14', dn ++ [bl], rs, acc', by rw [← hd]; simp, rfl, ho', ?_, rfl⟩
          · have gu : bl.length ≤ sizeLine := by rw [sizeLine_eq]; omega
            have eu : (List.range bl.length).map (fun (k : Nat) => PyData.int (k : Int)) = nz (upto bl.length) := by simp [nz, upto]
            simp [e3]
            by_cases z : rows = []
            · rw [if_pos z] at ew'
              cases ew'
              subst z
              rcases aw' with e | e <;> cases e
              rcases a9 with rfl | rfl <;> simp [rwd] at e4 ne ⊢ <;> obtain ⟨rfl, rfl, rfl⟩ := e4 <;> simp [ne]
            · rw [if_neg z] at ew'
              have z2 : ¬ rwd rows = [] := fun q => z (em.mp q)
              rcases a9 with rfl | rfl <;> rcases aw' with rfl | rfl <;> simp [ne, z2, rws_len, -rngK_i, rngK_nat gu, eu, upto_len, gu, ew', e4]
          · have e5 : wth Ta Tb (dn ++ [bl]) = wth Ta Tb dn + Ta bl.length * prodB Tb bl := by rw [wth_app, wth_cons]; rfl
            rw [e5]
            have := Nat.mul_le_mul lw' l9
            omega)
      (ptz (partsL P)) [some (.d rl), some (.d (.tuple [.str "in", k.enc, k2.enc])), some (.d (.tuple (nz P))), some (.d (.list (ptz (partsL P)))), y4.map .d, y5.map .d, y6.map .d, none, some (.lst []), none, none, none, none, none, none] ⟨y6.map .d, none, none, none, none, none, [], partsL P, [], rfl, rfl, by simp, by simp, rfl⟩
    obtain ⟨y6', y9, y10, y11, y12, y14, dn, rs, acc, hd, hx, ho, hc, rfl⟩ := p2
    have : rs = [] := by
      cases rs with
      | nil => rfl
      | cons q c => cases hx
    subst this
    rw [List.append_nil] at hd
    subst hd
    refine ⟨.lst acc, acc, ?_, .inl rfl, ho, by rw [← hl, ← wth_N]; exact hc⟩
    rcases a3 with rfl | rfl <;> simp [Kd.enc, e1, e2]
  obtain ⟨v, xs, e, a, o, l⟩ := B
  refine ⟨v, xs, ?_, a, o, l⟩
  rw [f__law_listed]
  unfold b__law_listed
  simp only [Kd.enc] at e ⊢
  rcases a with rfl | rfl <;> simp [e]
end KK
namespace KK
open PySem L2 Q
def t0 (n : Nat) : Nat := [1, 1, 4, 30, 30].getD n 1
def t1 (n : Nat) : Nat := [2, 4, 30, 108, 1452].getD n 1
def t2 (n : Nat) : Nat := [4, 30, 600, 18144, 821400].getD n 1
def tOne (n : Nat) : Nat := if n = 1 then 1 else 0
theorem four {n : Nat} (h : n ≤ 3) : n = 0 ∨ n = 1 ∨ n = 2 ∨ n = 3 := by omega
theorem five {n : Nat} (h : n ≤ 4) : n = 0 ∨ n = 1 ∨ n = 2 ∨ n = 3 ∨ n = 4 := by omega
/-! ### rules -/
theorem one_cut {k : Kd} {rl : D} {F M n i l : Nat} {b : Nat → Nat} (e : i + l = n) (h : tOne i ≠ 0) (H : n ≠ 0 → LA F M rl k (n - 1) (b (n - 1))) : LA F M rl k l (b l) := by
  have : i = 1 := by unfold tOne at h; split at h <;> omega
  have hl : l = n - 1 := by omega
  rw [hl]
  exact H (by omega)
theorem la_tree {w : Kd} {Tw : Nat → Nat} (hw : ∀ {F M n : Nat} {rl : D}, n ≤ 3 → LA (F + 2) M rl w n (Tw n)) (hc : ∀ n, n ≤ 3 → convN tOne (wthN Tw t0) n ≤ t0 n) (hp : ∀ n, n ≤ 3 → ∀ s ∈ partN n, prodN t0 s ≤ 1000000) (hq : ∀ n, n ≤ 3 → wthN Tw t0 n ≤ 1000000) :
    ∀ n, n ≤ 3 → ∀ i, i ≤ n → LA (8 * n + 8) (4 * n + 4) (.tuple ([Kd.both .one (.inn w (.rule 0))].map Kd.enc)) (.rule 0) i (t0 i) := by
  have base : ∀ n F M, n ≤ 3 → M ≤ 28 → (∀ i, i < n → LA F M (.tuple ([Kd.both .one (.inn w (.rule 0))].map Kd.enc)) (.rule 0) i (t0 i)) → LA (F + 6 + 2) (M + 4) (.tuple ([Kd.both .one (.inn w (.rule 0))].map Kd.enc)) (.rule 0) n (t0 n) := by
    intro n F M hn hM h
    have b : convN tOne (wthN Tw t0) n ≤ 1000000 := Nat.le_trans (hc n hn) (by rcases four hn with rfl | rfl | rfl | rfl <;> decide)
    have := la_rule (rs := [Kd.both .one (.inn w (.rule 0))]) (F := F + 6) (M := M + 2) (j := n) (t := convN tOne (wthN Tw t0) n) (i := 0) (by simp) b
      (la_both (F := F + 4) (M := M + 1) (Ta := tOne) (Tb := wthN Tw t0) (by omega) (by omega) b (fun i hi => (la_one (F := F) (M := M + 1)).mono (by omega) (by omega) (Nat.le_refl _))
        (fun i l e h1 => one_cut (b := wthN Tw t0) e h1 fun nz => (la_inn (F := F + 2) (M := M) (Ta := Tw) (Tb := t0) (by omega) (by omega) (hq _ (by omega)) (hp _ (by omega)) (fun i hi => hw (by omega)) (fun i h1 hi => (h i (by omega)).mono (by omega) (by omega) (Nat.le_refl _))).mono (by omega) (by omega) (Nat.le_refl _)))
    exact this.mono (by omega) (by omega) (hc n hn)
  intro n
  induction n with
  | zero =>
    intro hn i hi
    have : i = 0 := by omega
    subst this
    exact (base 0 0 0 (by omega) (by omega) (fun i hi => by omega)).mono (by omega) (by omega) (Nat.le_refl _)
  | succ n ih =>
    intro hn i hi
    rcases Nat.lt_or_ge i (n + 1) with h | h
    · exact (ih (by omega) i (by omega)).mono (by omega) (by omega) (Nat.le_refl _)
    · have : i = n + 1 := by omega
      subst this
      exact (base (n + 1) (8 * n + 8) (4 * n + 4) hn (by omega) (fun i hi => ih (by omega) i (by omega))).mono (by omega) (by omega) (Nat.le_refl _)
theorem la_fork : ∀ n, n ≤ 3 → ∀ i, i ≤ n → LA (8 * n + 8) (4 * n + 4) (.tuple ([Kd.this .unit (.both .one (.both (.rule 0) (.rule 0)))].map Kd.enc)) (.rule 0) i (t0 i) := by
  have hc : ∀ n, n ≤ 3 → (if n = 0 then 1 else 0) + convN tOne (convN t0 t0) n ≤ t0 n := by
    intro n hn
    rcases four hn with rfl | rfl | rfl | rfl <;> decide +revert
  have hq : ∀ n, n ≤ 3 → convN t0 t0 n ≤ 1000000 := by
    intro n hn
    rcases four hn with rfl | rfl | rfl | rfl <;> decide
  have ht : ∀ n, n ≤ 4 → t0 n ≤ 30 := by
    intro n hn
    rcases five hn with rfl | rfl | rfl | rfl | rfl <;> decide
  have base : ∀ n F M, n ≤ 3 → M ≤ 28 → (∀ i, i < n → LA F M (.tuple ([Kd.this .unit (.both .one (.both (.rule 0) (.rule 0)))].map Kd.enc)) (.rule 0) i (t0 i)) → LA (F + 6 + 2) (M + 4) (.tuple ([Kd.this .unit (.both .one (.both (.rule 0) (.rule 0)))].map Kd.enc)) (.rule 0) n (t0 n) := by
    intro n F M hn hM h
    have c := hc n hn
    have c2 := ht n (by omega)
    have := la_rule (rs := [Kd.this .unit (.both .one (.both (.rule 0) (.rule 0)))]) (F := F + 7) (M := M + 3) (j := n) (t := (if n = 0 then 1 else 0) + convN tOne (convN t0 t0) n) (i := 0) (by simp) (by omega)
      (la_this (F := F + 6) (M := M + 2) (by omega) ((la_unit (F := F) (M := M + 2)).mono (by omega) (by omega) (Nat.le_refl _))
        (la_both (F := F + 4) (M := M + 1) (Ta := tOne) (Tb := convN t0 t0) (by omega) (by omega) (by omega) (fun i hi => (la_one (F := F) (M := M + 1)).mono (by omega) (by omega) (Nat.le_refl _))
          (fun i l e h1 => one_cut (b := convN t0 t0) e h1 fun nz => (la_both (F := F) (M := M) (Ta := t0) (Tb := t0) (by omega) (by omega) (hq _ (by omega)) (fun i hi => h i (by omega)) (fun i l e _ => h l (by omega))).mono (by omega) (by omega) (Nat.le_refl _))))
    exact this.mono (by omega) (by omega) (hc n hn)
  intro n
  induction n with
  | zero =>
    intro hn i hi
    have : i = 0 := by omega
    subst this
    exact (base 0 0 0 (by omega) (by omega) (fun i hi => by omega)).mono (by omega) (by omega) (Nat.le_refl _)
  | succ n ih =>
    intro hn i hi
    rcases Nat.lt_or_ge i (n + 1) with h | h
    · exact (ih (by omega) i (by omega)).mono (by omega) (by omega) (Nat.le_refl _)
    · have : i = n + 1 := by omega
      subst this
      exact (base (n + 1) (8 * n + 8) (4 * n + 4) hn (by omega) (fun i hi => ih (by omega) i (by omega))).mono (by omega) (by omega) (Nat.le_refl _)
def evens : List Kd := [.this .unit (.both .one (.rule 1)), .both .one (.rule 0)]
theorem la_even : ∀ n, n ≤ 3 → ∀ i, i ≤ n → ∀ k, k < 2 → LA (8 * n + 8) (4 * n + 4) (.tuple (evens.map Kd.enc)) (.rule k) i (t0 i) := by
  have hc : ∀ n, n ≤ 3 → (if n = 0 then 1 else 0) + convN tOne t0 n ≤ t0 n := by
    intro n hn
    rcases four hn with rfl | rfl | rfl | rfl <;> decide +revert
  have ht : ∀ n, n ≤ 4 → t0 n ≤ 30 := by
    intro n hn
    rcases five hn with rfl | rfl | rfl | rfl | rfl <;> decide
  have base : ∀ n F M, n ≤ 3 → M ≤ 28 → (∀ i, i < n → ∀ k, k < 2 → LA F M (.tuple (evens.map Kd.enc)) (.rule k) i (t0 i)) → ∀ k, k < 2 → LA (F + 6 + 2) (M + 4) (.tuple (evens.map Kd.enc)) (.rule k) n (t0 n) := by
    intro n F M hn hM h k hk
    have c := hc n hn
    have c2 := ht n (by omega)
    have B : ∀ k, k < 2 → LA (F + 3) (M + 1) (.tuple (evens.map Kd.enc)) (.both .one (.rule k)) n (convN tOne t0 n) := fun k hk =>
      la_both (F := F + 1) (M := M) (Ta := tOne) (Tb := t0) (by omega) (by omega) (by omega) (fun i hi => (la_one (F := F) (M := M)).mono (by omega) (by omega) (Nat.le_refl _))
        (fun i l e h1 => one_cut (b := t0) e h1 fun nz => (h _ (by omega) k hk).mono (by omega) (by omega) (Nat.le_refl _))
    have kk : k = 0 ∨ k = 1 := by omega
    rcases kk with rfl | rfl
    · have := la_rule (rs := evens) (F := F + 5) (M := M + 2) (j := n) (t := (if n = 0 then 1 else 0) + convN tOne t0 n) (i := 0) (by decide) (by omega)
        ((la_this (F := F + 3) (M := M + 1) (by omega) ((la_unit (F := F) (M := M + 1)).mono (by omega) (by omega) (Nat.le_refl _)) (B 1 (by omega))).mono (by omega) (by omega) (Nat.le_refl _))
      exact this.mono (by omega) (by omega) c
    · have := la_rule (rs := evens) (F := F + 5) (M := M + 2) (j := n) (t := convN tOne t0 n) (i := 1) (by decide) (by omega)
        ((B 0 (by omega)).mono (by omega) (by omega) (Nat.le_refl _))
      exact this.mono (by omega) (by omega) (by omega)
  intro n
  induction n with
  | zero =>
    intro hn i hi k hk
    have : i = 0 := by omega
    subst this
    exact (base 0 0 0 (by omega) (by omega) (fun i hi => by omega) k hk).mono (by omega) (by omega) (Nat.le_refl _)
  | succ n ih =>
    intro hn i hi k hk
    rcases Nat.lt_or_ge i (n + 1) with h | h
    · exact (ih (by omega) i (by omega) k hk).mono (by omega) (by omega) (Nat.le_refl _)
    · have : i = n + 1 := by omega
      subst this
      exact (base (n + 1) (8 * n + 8) (4 * n + 4) hn (by omega) (fun i hi => ih (by omega) i (by omega)) k hk).mono (by omega) (by omega) (Nat.le_refl _)
theorem la_rules {rs : List Kd} (h : rs ∈ ruleSets) {i k : Nat} (hi : i ≤ 3) (hk : k < rs.length) : LA 32 16 (.tuple (rs.map Kd.enc)) (.rule k) i (t0 i) := by
  have D1 : ∀ n, n ≤ 3 → ∀ s ∈ partN n, prodN t0 s ≤ 1000000 := by
    intro n hn
    rcases four hn with rfl | rfl | rfl | rfl <;> decide +kernel
  simp only [ruleSets, List.mem_cons, List.not_mem_nil, or_false] at h
  rcases h with rfl | rfl | rfl | rfl | rfl | rfl
  · simp at hk
  · simp at hk
  · have : k = 0 := by simp at hk; omega
    subst this
    exact la_tree (w := .set) (Tw := fun _ => 1) (fun {F M n rl} hn => (la_set (F := F) (M := M)).mono (by omega) (Nat.le_refl _) (Nat.le_refl _)) (by
      intro n hn
      rcases four hn with rfl | rfl | rfl | rfl <;> decide +revert) D1 (by
      intro n hn
      rcases four hn with rfl | rfl | rfl | rfl <;> decide +kernel) 3 (by omega) i hi
  · have : k = 0 := by simp at hk; omega
    subst this
    exact la_tree (w := .row) (Tw := asc 0) (fun hn => la_row (by omega)) (by
      intro n hn
      rcases four hn with rfl | rfl | rfl | rfl <;> decide +revert) D1 (by
      intro n hn
      rcases four hn with rfl | rfl | rfl | rfl <;> decide +kernel) 3 (by omega) i hi
  · have : k = 0 := by simp at hk; omega
    subst this
    exact la_fork 3 (by omega) i hi
  · exact la_even 3 (by omega) i hi k (by simpa using hk)
/-! ### kinds -/
def IsLeaf (m : Nat) : Kd → Prop
  | .void => True | .unit => True | .one => True | .set => True | .row => True | .round => True
  | .rule k => k < m
  | _ => False
theorem la_leaf {rs : List Kd} (hr : rs ∈ ruleSets) {k : Kd} {m n : Nat} (hm : m = 0 ∨ (m = rs.length ∧ n ≤ 3)) (hn : n ≤ 4) (hk : IsLeaf m k) : LA 32 16 (.tuple (rs.map Kd.enc)) k n (t0 n) := by
  have a1 : asc 0 n ≤ t0 n := by rcases five hn with rfl | rfl | rfl | rfl | rfl <;> decide
  have a2 : asc 0 (n - 1) ≤ t0 n := by rcases five hn with rfl | rfl | rfl | rfl | rfl <;> decide
  have a3 : 1 ≤ t0 n := by rcases five hn with rfl | rfl | rfl | rfl | rfl <;> decide
  cases k with
  | void => exact (la_void (F := 0) (M := 16)).mono (by omega) (by omega) (by omega)
  | unit => exact (la_unit (F := 0) (M := 16)).mono (by omega) (by omega) (by split <;> omega)
  | one => exact (la_one (F := 0) (M := 16)).mono (by omega) (by omega) (by split <;> omega)
  | set => exact (la_set (F := 0) (M := 16)).mono (by omega) (by omega) a3
  | row => exact (la_row (F := 0) (M := 16) (by omega)).mono (by omega) (by omega) a1
  | round => exact (la_round (F := 0) (M := 16) (by omega)).mono (by omega) (by omega) a2
  | rule k =>
    have hk : k < m := hk
    rcases hm with h | ⟨h, hn⟩
    · omega
    · exact la_rules hr hn (by omega)
  | this a b => exact (show False from hk).elim
  | both a b => exact (show False from hk).elim
  | inn a b => exact (show False from hk).elim
  | point a => exact (show False from hk).elim
  | hole a => exact (show False from hk).elim
  | sized a lo hi => exact (show False from hk).elim
/-- from one depth to the next -/
def Tab (T U : Nat → Nat) : Prop := ∀ n, n ≤ 4 → T n + T n ≤ U n ∧ convN T T n ≤ U n ∧ wthN T T n ≤ U n ∧ n * T n ≤ U n ∧ T n ≤ U n ∧ U n ≤ 1000000 ∧ (n ≤ 3 → T (n + 1) ≤ U n) ∧ ∀ s ∈ partN n, prodN T s ≤ 1000000
theorem tab01 : Tab t0 t1 := by
  intro n hn
  rcases five hn with rfl | rfl | rfl | rfl | rfl <;> decide +kernel
theorem tab12 : Tab t1 t2 := by
  intro n hn
  rcases five hn with rfl | rfl | rfl | rfl | rfl <;> decide +kernel
theorem ok_zero {m h : Nat} {k : Kd} (q : k.ok 0 m h) : IsLeaf m k := by
  cases k <;> first | trivial | (simp [Kd.ok] at q; try exact q)
theorem ok_inn {d m h : Nat} {a c : Kd} (q : (Kd.inn a c).ok (d + 1) m h) : ∃ b, c = .sized b 1 3 ∧ a.ok d m h ∧ b.ok d m h := by
  unfold Kd.ok at q
  split at q <;> first | (simp_all; done) | skip
def TT : Nat → Nat → Nat
  | 0 => t0
  | 1 => t1
  | _ => t2
theorem tt_tab : ∀ d, d < 2 → Tab (TT d) (TT (d + 1))
  | 0, _ => tab01
  | 1, _ => tab12
  | d + 2, h => by omega
theorem tt_ge {d n : Nat} (hd : d ≤ 2) (hn : n ≤ 4) : t0 n ≤ TT d n := by
  have : d = 0 ∨ d = 1 ∨ d = 2 := by omega
  rcases this with rfl | rfl | rfl <;> rcases five hn with rfl | rfl | rfl | rfl | rfl <;> decide
theorem la_kind {rs : List Kd} (hr : rs ∈ ruleSets) : ∀ d, d ≤ 2 → ∀ (n h m : Nat) (k : Kd), n + h ≤ 4 → (m = 0 ∨ (m = rs.length ∧ n ≤ 3)) → k.ok d m h → LA (32 + 3 * d) (16 + d) (.tuple (rs.map Kd.enc)) k n (TT d n)
  | 0, _, n, h, m, k, hn, hm, hk => la_leaf hr hm (by omega) (ok_zero hk)
  | d + 1, hd, n, h, m, k, hn, hm, hk => by
    have ih := la_kind hr d (by omega)
    obtain ⟨c1, c2, c3, c4, c5, c6, c7, c8⟩ := tt_tab d (by omega) n (by omega)
    have le : ∀ i, i ≤ n → (m = 0 ∨ (m = rs.length ∧ i ≤ 3)) := fun i hi => by omega
    have lf : IsLeaf m k → LA (32 + 3 * (d + 1)) (16 + (d + 1)) (.tuple (rs.map Kd.enc)) k n (TT (d + 1) n) := fun q => (la_leaf hr hm (by omega) q).mono (by omega) (by omega) (tt_ge hd (by omega))
    cases k with
    | void => exact lf trivial
    | unit => exact lf trivial
    | one => exact lf trivial
    | set => exact lf trivial
    | row => exact lf trivial
    | round => exact lf trivial
    | rule k => exact lf (by cases h <;> simpa [Kd.ok, IsLeaf] using hk)
    | this a b =>
      have q : a.ok d m h ∧ b.ok d m h := by cases h <;> simpa [Kd.ok] using hk
      exact (la_this (by omega) (ih n h m a hn hm q.1) (ih n h m b hn hm q.2)).mono (by omega) (by omega) c1
    | both a b =>
      have q : a.ok d m h ∧ b.ok d m h := by cases h <;> simpa [Kd.ok] using hk
      exact (la_both (Ta := TT d) (Tb := TT d) (by omega) (by omega) (by omega) (fun i hi => ih i h m a (by omega) (le i hi) q.1) (fun i l e _ => ih l h m b (by omega) (le l (by omega)) q.2)).mono (by omega) (by omega) c2
    | inn a c =>
      obtain ⟨b, rfl, q1, q2⟩ := ok_inn hk
      exact (la_inn (F := 32 + 3 * d + 1) (Ta := TT d) (Tb := TT d) (by omega) (by omega) (by omega) c8 (fun i hi => (ih i h m a (by omega) (le i hi) q1).mono (by omega) (by omega) (Nat.le_refl _)) (fun i _ hi => la_sized (ih i h m b (by omega) (le i hi) q2))).mono (by omega) (by omega) c3
    | point a =>
      have q : a.ok d m h := by cases h <;> simpa [Kd.ok] using hk
      exact (la_point (by omega) (by omega) (ih n h m a hn hm q)).mono (by omega) (by omega) c4
    | hole a =>
      cases h with
      | zero => simp [Kd.ok] at hk
      | succ h =>
        have q : a.ok d 0 h := by simpa [Kd.ok] using hk
        have := c7 (by omega)
        exact (la_hole (by omega) (by omega) (ih (n + 1) h 0 a (by omega) (.inl rfl) q)).mono (by omega) (by omega) this
    | sized a lo hi =>
      have q : a.ok d m h := by cases h <;> (simp [Kd.ok] at hk; exact hk.1)
      exact (la_sized (ih n h m a hn hm q)).mono (by omega) (by omega) c5
end KK
namespace KK
open PySem L2 Q
theorem tape_mono {cs : List Int} {S S' : Nat} {t : Val} (h : Tape cs S t) (q : S ≤ S') : Tape cs S' t := by
  obtain ⟨s, l, e, hs⟩ := h
  exact ⟨s, l, e, by omega⟩
theorem rules_len {rs : List Kd} (h : rs ∈ ruleSets) : rs.length ≤ 2 := by
  simp only [ruleSets, List.mem_cons, List.not_mem_nil, or_false] at h
  rcases h with rfl | rfl | rfl | rfl | rfl | rfl <;> decide
theorem tt_le {d n : Nat} (hn : n ≤ 4) : TT d n ≤ 900000 := by
  have : (d = 0 ∨ d = 1) ∨ ∃ e, d = e + 2 := by
    rcases Nat.lt_or_ge d 2 with h | h
    · left; omega
    · right; exact ⟨d - 2, by omega⟩
  rcases this with (rfl | rfl) | ⟨e, rfl⟩ <;> rcases five hn with rfl | rfl | rfl | rfl | rfl <;> (first | decide | (show t2 _ ≤ _; decide))
set_option maxHeartbeats 8000000 in
theorem struct_ok : StructOk 64 40 := by
  intro cs t S hc T hS
  obtain ⟨rs, t1, e1, hr, T1⟩ := rules_ok (n := 61) hc T (by omega)
  obtain ⟨v, t2, e2, v0, v1, T2⟩ := draw (n := 62) hc T1 (by omega) (m := 8) (by decide) (by decide)
  have lr := rules_len hr
  -- how many names
  obtain ⟨m, t3, hm, T3, e3⟩ : ∃ (m : Nat) (t3 : Val), m ≤ 4 ∧ Tape cs (S + 4) t3 ∧ (if v = 0 then m = 4 ∧ t3 = t2 else m < 4 ∧ sem fds 63 i__law_draw [t2, .d (.int 4)] = .ok (.d (.int m)) [some t3, some (.d (.int 4))]) := by
    by_cases z : v = 0
    · exact ⟨4, t2, by omega, tape_mono T2 (by omega), by rw [if_pos z]; exact ⟨rfl, rfl⟩⟩
    · obtain ⟨w, t3, e3, w0, w1, T3⟩ := draw (n := 62) hc T2 (by omega) (m := 4) (by decide) (by decide)
      obtain ⟨m, rfl⟩ := Int.eq_ofNat_of_zero_le w0
      exact ⟨m, t3, by omega, tape_mono T3 (by omega), by rw [if_neg z]; exact ⟨by omega, e3⟩⟩
  obtain ⟨U, t4, e4, hU, T4⟩ := names_ok (n := 61) (m := m) hc T3 (by omega) hm
  obtain ⟨ul, ur, ub⟩ := hU
  have nU : U.map PyData.int = nz U := rfl
  rw [nU] at e4
  -- the kind
  obtain ⟨d, h, mm, hd, hh, hmm, hdef⟩ : ∃ d h mm : Nat, d ≤ 2 ∧ h ≤ 1 ∧ mm ≤ 2 ∧ (if m < 4 then d = 2 ∧ h = 1 ∧ mm = rs.length else d = 1 ∧ h = 0 ∧ mm = 0) := by
    by_cases z : m < 4
    · exact ⟨2, 1, rs.length, by omega, by omega, lr, by rw [if_pos z]; exact ⟨rfl, rfl, rfl⟩⟩
    · exact ⟨1, 0, 0, by omega, by omega, by omega, by rw [if_neg z]; exact ⟨rfl, rfl, rfl⟩⟩
  obtain ⟨k, t5, e5, hk, T5⟩ := kind_ok (n := 61 - d) hc (d := d) (m := mm) (h := h) hmm hd hh T4 (by omega)
  rw [show 61 - d + 2 + d = 63 by omega] at e5
  have dr : draws d ≤ 20 := by
    have : d = 0 ∨ d = 1 ∨ d = 2 := by omega
    rcases this with rfl | rfl | rfl <;> decide
  have q1 : U.length + h ≤ 4 := by
    by_cases z : m < 4
    · rw [if_pos z] at hdef; omega
    · rw [if_neg z] at hdef; omega
  have q2 : mm = 0 ∨ (mm = rs.length ∧ U.length ≤ 3) := by
    by_cases z : m < 4
    · rw [if_pos z] at hdef; right; omega
    · rw [if_neg z] at hdef; left; omega
  obtain ⟨w, xs, e6, a6, o6, l6⟩ := la_kind hr d hd U.length h mm k q1 q2 hk U ur rfl 63 (by omega)
  have l7 := tt_le (d := d) (n := U.length) (by omega)
  have ne : eqD (.list xs) (.list []) = some (decide (xs = [])) := nil_eq (n := 2 * (16 + d) + 2) (on_list_tr o6) (by omega)
  -- what is drawn from
  obtain ⟨ys, hy, oy, ly, y0⟩ : ∃ ys : List D, ys = (if xs = [] then [.tuple [.str "set", .tuple (nz U)], .tuple [.str "row", .tuple (nz U.reverse)]] ++ (if U = [] then [] else [.tuple [.str "round", .tuple (nz U)]]) else xs) ∧ (∀ x ∈ ys, On 20 U x) ∧ ys.length < 1000000 ∧ 0 < ys.length := by
    by_cases z : xs = []
    · refine ⟨_, by rw [if_pos z], fun x hx => ?_, ?_, ?_⟩
      · rcases List.mem_append.mp hx with hx | hx
        · simp at hx
          rcases hx with rfl | rfl
          · exact .set
          · exact .row (List.reverse_perm U)
        · by_cases zu : U = []
          · rw [if_pos zu] at hx; cases hx
          · rw [if_neg zu] at hx
            simp at hx
            subst hx
            exact .round (.refl _) zu
      · split <;> simp
      · split <;> simp
    · refine ⟨xs, by rw [if_neg z], fun x hx => (o6 x hx).mono (by omega), by omega, ?_⟩
      exact List.length_pos_iff.mpr z
  obtain ⟨c, t6, e7, c0, c1, T6⟩ := draw (n := 62) hc T5 (by omega) (m := (ys.length : Int)) (by omega) (by omega)
  obtain ⟨c, rfl⟩ := Int.eq_ofNat_of_zero_le c0
  have cl : c < ys.length := by omega
  refine ⟨ys[c], t6, U, 20, ?_, oy _ (List.getElem_mem _), ur, by omega, ub, by omega, tape_mono T6 (by omega)⟩
  obtain ⟨x0, rfl⟩ := isMut_tape T
  obtain ⟨x1, rfl⟩ := isMut_tape T1
  obtain ⟨x2, rfl⟩ := isMut_tape T2
  obtain ⟨x3, rfl⟩ := isMut_tape T3
  obtain ⟨x4, rfl⟩ := isMut_tape T4
  obtain ⟨x5, rfl⟩ := isMut_tape T5
  obtain ⟨x6, rfl⟩ := isMut_tape T6
  rw [f__law_struct]
  unfold b__law_struct
  have at_c : atI ys (c : Int) = some ys[c] := atN cl
  have lrl : ((rs.length : Nat) : Int).natAbs.log2 < 64 := by
    have : rs.length = 0 ∨ rs.length = 1 ∨ rs.length = 2 := by omega
    rcases this with h | h | h <;> rw [h] <;> decide
  have mul1 : mulV (.d (.int (rs.length : Int))) (.d (.int 1)) = some (.d (.int (rs.length : Int))) := by
    rw [y_mulI, if_pos (by have : Nat.log2 (Int.natAbs 1) = 0 := by decide
                           omega)]
    simp
  have mul0 : mulV (.d (.int (rs.length : Int))) (.d (.int 0)) = some (.d (.int 0)) := by
    rw [y_mulI, if_pos (by have : Nat.log2 (Int.natAbs 0) = 0 := by decide
                           omega)]
    simp
  have rep1 : mulV (.lst [.tuple [.str "round", .tuple (nz U)]]) (.d (.int 1)) = some (.lst [.tuple [.str "round", .tuple (nz U)]]) := mul_rep (m := 1) (by rw [sizeLine_eq]; omega)
  have rep0 : mulV (.lst [.tuple [.str "round", .tuple (nz U)]]) (.d (.int 0)) = some (.lst []) := mul_rep (m := 0) (by rw [sizeLine_eq]; omega)
  have sl2 : 2 ≤ sizeLine := by rw [sizeLine_eq]; omega
  have sl3 : 3 ≤ sizeLine := by rw [sizeLine_eq]; omega
  have eU : eqD (.tuple (nz U)) (.tuple []) = some (decide (U = [])) := by rw [← nz_nil]; simp
  have fin : ∀ {w : Val}, LV w xs → True := fun _ => trivial
  by_cases z : v = 0
  · rw [if_pos z] at e3
    obtain ⟨rfl, e3⟩ := e3
    cases e3
    subst z
    rw [if_neg (by omega)] at hdef
    obtain ⟨rfl, rfl, rfl⟩ := hdef
    simp at e4 e5
    by_cases zx : xs = []
    · rw [if_pos zx] at hy
      subst zx
      have ne' : eqD (.list []) (.list []) = some true := by simpa using ne
      by_cases zu : U = []
      · rw [if_pos zu, List.append_nil] at hy
        subst hy
        rw [decide_eq_true zu] at eU
        simp at e7 at_c
        rcases a6 with rfl | rfl <;> simp [e1, e2, e4, e5, mul0, e6, ne', eU, rep0, sl2, e7, at_c]
      · rw [if_neg zu] at hy
        subst hy
        rw [decide_eq_false zu] at eU
        simp at e7 at_c
        rcases a6 with rfl | rfl <;> simp [e1, e2, e4, e5, mul0, e6, ne', eU, rep1, sl3, e7, at_c]
    · rw [if_neg zx] at hy
      subst hy
      rcases a6 with rfl | rfl <;> simp [e1, e2, e4, e5, mul0, e6, ne, zx, e7, at_c]
  · rw [if_neg z] at e3
    obtain ⟨m4, e3⟩ := e3
    rw [if_pos m4] at hdef
    obtain ⟨rfl, rfl, rfl⟩ := hdef
    simp at e4 e5
    have m4' : (m : Int) < 4 := by omega
    by_cases zx : xs = []
    · rw [if_pos zx] at hy
      subst zx
      have ne' : eqD (.list []) (.list []) = some true := by simpa using ne
      by_cases zu : U = []
      · rw [if_pos zu, List.append_nil] at hy
        subst hy
        rw [decide_eq_true zu] at eU
        simp at e7 at_c
        rcases a6 with rfl | rfl <;> simp [e1, e2, z, e3, m4', e4, e5, mul1, e6, ne', eU, rep0, sl2, e7, at_c]
      · rw [if_neg zu] at hy
        subst hy
        rw [decide_eq_false zu] at eU
        simp at e7 at_c
        rcases a6 with rfl | rfl <;> simp [e1, e2, z, e3, m4', e4, e5, mul1, e6, ne', eU, rep1, sl3, e7, at_c]
    · rw [if_neg zx] at hy
      subst hy
      rcases a6 with rfl | rfl <;> simp [e1, e2, z, e3, m4', e4, e5, mul1, e6, ne, zx, e7, at_c]
theorem math : ∀ ns : List Int, ns.length ≤ 63 → ∃ outs, runF (sem fds 64) lawF [.scr (ns.map PyData.int) false] = .ok (.d (.bool true)) outs := fun ns h => law_ok (by omega) struct_ok ns h
end KK
namespace KK
open PySem L2 Q PySem.Spec PyProof.Rows
theorem tieC {K : PySem.W.Frag} {h : Heap} {mg : Str → Option Value} {x : Str} {i : Int} {t : Tok} (X : K.In h) (G : h.Ns mainGlobals mg) (a : PySem.W.nsIn K mainGlobals x = some (some (.int i t))) : ∃ (u : Value) (v : V), mg x = some u ∧ RelV v u ∧ ∀ H Z, Im K H Z v (.int i) :=
  ⟨_, .int i, PySem.W.mg_of X G a, ⟨t, rfl⟩, fun H Z => .int i⟩
theorem allK_cons {K : PySem.W.Frag} {d : Df} {r : List Df} (a : Tie K d.x d.st) (b : AllK K r) : AllK K (d :: r) := ⟨a, b⟩
theorem allB_cons {K : PySem.W.Frag} {x : Str} {r : List Str} (a : PySem.W.nsIn K mainGlobals x = some none) (b : AllB K r) : AllB K (x :: r) := ⟨a, b⟩
theorem final {P : Program} {w : World} {K : PySem.W.Frag} {h : Heap} {mg : Str → Option Value} {fa : Addr} (X : K.In h) (G : h.Ns mainGlobals mg) (hfa : mg "law" = some (.ref fa)) (k : AllK K dfs) (kl : Tie K "law" (top 31)) {T0 : Tok} (c0 : PySem.W.nsIn K mainGlobals "HOLE" = some (some (.int 100 T0))) (b : AllB K bis) :
    ∃ fd : FuncData, (∀ (s : Shared) (u : Value), BindsTo s fd ⟨[u], []⟩ [("_law_script", u)]) ∧ ∀ base : Heap, K.In base → base.Ns mainGlobals mg → AtOk P w K mg base callerA fa fd ["_law_script"] (spLaw (runF (sem fds 64) lawF) K) := by
  have T : TOk K mg gl dfs fds := tok_of X G allT k rfl ⟨tieC X G c0, trivial⟩ b
  obtain ⟨f, fd, F, bd, m⟩ := kl.fn X G t_law.bd
  cases hfa.symm.trans m
  refine ⟨fd, fun s u => bd s [u] rfl, fun base _ _ => ?_⟩
  exact law_at (n := 64) T (d := d_law) F t_law.sc ⟨rfl, by decide, by decide⟩ rfl t_law.eq
end KK
open PySem PySem.W PyProof.Rows
set_option maxRecDepth 100000 in
set_option maxHeartbeats 0 in
theorem PySem.Challenge.cw_kindmakes_k73_who_leaves_a_structure_holds : PySem.Challenge.rw_kindmakes_k73_who_leaves_a_structure.Holds := by
  w_on; o_law; k_head; (case hw => w_witness2)
  k_fill
  refine Q.walkQ (l := PySem.Challenge.rw_kindmakes_k73_who_leaves_a_structure) (n := 63) (x := "_law_script") (sp := Q.spLaw (Q.runF (Q.sem KK.fds 64) KK.lawF)) rfl (by decide) rfl (fun w h Y => PySem.W.kIn_of Y) ?F (Q.law_spec KK.math)
  case F =>
    intro w mg fa h KX G hmg
    refine' KK.final KX G hmg (KK.allK_cons (Q.tie_mk (x := "hole_of") (st := KK.top 5) ?a0 ?l0 ?c0 ?k0) (KK.allK_cons (Q.tie_mk (x := "names_of") (st := KK.top 6) ?a1 ?l1 ?c1 ?k1) (KK.allK_cons (Q.tie_mk (x := "from_least") (st := KK.top 8) ?a2 ?l2 ?c2 ?k2) (KK.allK_cons (Q.tie_mk (x := "hole_put") (st := KK.top 9) ?a3 ?l3 ?c3 ?k3) (KK.allK_cons (Q.tie_mk (x := "in_put") (st := KK.top 10) ?a4 ?l4 ?c4 ?k4) (KK.allK_cons (Q.tie_mk (x := "put_by") (st := KK.top 11) ?a5 ?l5 ?c5 ?k5) (KK.allK_cons (Q.tie_mk (x := "carried_by") (st := KK.top 12) ?a6 ?l6 ?c6 ?k6) (KK.allK_cons (Q.tie_mk (x := "all_exchanges") (st := KK.top 14) ?a7 ?l7 ?c7 ?k7) (KK.allK_cons (Q.tie_mk (x := "leavers_of") (st := KK.top 16) ?a8 ?l8 ?c8 ?k8) (KK.allK_cons (Q.tie_mk (x := "_law_tape") (st := KK.top 18) ?a9 ?l9 ?c9 ?k9) (KK.allK_cons (Q.tie_mk (x := "_law_draw") (st := KK.top 19) ?a10 ?l10 ?c10 ?k10) (KK.allK_cons (Q.tie_mk (x := "_law_rules") (st := KK.top 20) ?a11 ?l11 ?c11 ?k11) (KK.allK_cons (Q.tie_mk (x := "_law_kind") (st := KK.top 21) ?a12 ?l12 ?c12 ?k12) (KK.allK_cons (Q.tie_mk (x := "_law_rows") (st := KK.top 22) ?a13 ?l13 ?c13 ?k13) (KK.allK_cons (Q.tie_mk (x := "_law_beside") (st := KK.top 23) ?a14 ?l14 ?c14 ?k14) (KK.allK_cons (Q.tie_mk (x := "_law_within") (st := KK.top 24) ?a15 ?l15 ?c15 ?k15) (KK.allK_cons (Q.tie_mk (x := "_law_listed") (st := KK.top 25) ?a16 ?l16 ?c16 ?k16) (KK.allK_cons (Q.tie_mk (x := "_law_names") (st := KK.top 26) ?a17 ?l17 ?c17 ?k17) (KK.allK_cons (Q.tie_mk (x := "_law_carried") (st := KK.top 27) ?a18 ?l18 ?c18 ?k18) (KK.allK_cons (Q.tie_mk (x := "_law_told_carried") (st := KK.top 28) ?a19 ?l19 ?c19 ?k19) (KK.allK_cons (Q.tie_mk (x := "_law_some_names") (st := KK.top 29) ?a20 ?l20 ?c20 ?k20) (KK.allK_cons (Q.tie_mk (x := "_law_struct") (st := KK.top 30) ?a21 ?l21 ?c21 ?k21) trivial)))))))))))))))))))))) (Q.tie_mk (x := "law") (st := KK.top 31) ?a22 ?l22 ?c22 ?k22) ?cc0 (KK.allB_cons ?z0 (KK.allB_cons ?z1 (KK.allB_cons ?z2 (KK.allB_cons ?z3 (KK.allB_cons ?z4 (KK.allB_cons ?z5 (KK.allB_cons ?z6 (KK.allB_cons ?z7 (KK.allB_cons ?z8 (KK.allB_cons ?z9 (KK.allB_cons ?z10 (KK.allB_cons ?z11 trivial))))))))))))
    (case a0 => k_is); (case l0 => k_is); (case c0 => k_is); (case k0 => k_is)
    (case a1 => k_is); (case l1 => k_is); (case c1 => k_is); (case k1 => k_is)
    (case a2 => k_is); (case l2 => k_is); (case c2 => k_is); (case k2 => k_is)
    (case a3 => k_is); (case l3 => k_is); (case c3 => k_is); (case k3 => k_is)
    (case a4 => k_is); (case l4 => k_is); (case c4 => k_is); (case k4 => k_is)
    (case a5 => k_is); (case l5 => k_is); (case c5 => k_is); (case k5 => k_is)
    (case a6 => k_is); (case l6 => k_is); (case c6 => k_is); (case k6 => k_is)
    (case a7 => k_is); (case l7 => k_is); (case c7 => k_is); (case k7 => k_is)
    (case a8 => k_is); (case l8 => k_is); (case c8 => k_is); (case k8 => k_is)
    (case a9 => k_is); (case l9 => k_is); (case c9 => k_is); (case k9 => k_is)
    (case a10 => k_is); (case l10 => k_is); (case c10 => k_is); (case k10 => k_is)
    (case a11 => k_is); (case l11 => k_is); (case c11 => k_is); (case k11 => k_is)
    (case a12 => k_is); (case l12 => k_is); (case c12 => k_is); (case k12 => k_is)
    (case a13 => k_is); (case l13 => k_is); (case c13 => k_is); (case k13 => k_is)
    (case a14 => k_is); (case l14 => k_is); (case c14 => k_is); (case k14 => k_is)
    (case a15 => k_is); (case l15 => k_is); (case c15 => k_is); (case k15 => k_is)
    (case a16 => k_is); (case l16 => k_is); (case c16 => k_is); (case k16 => k_is)
    (case a17 => k_is); (case l17 => k_is); (case c17 => k_is); (case k17 => k_is)
    (case a18 => k_is); (case l18 => k_is); (case c18 => k_is); (case k18 => k_is)
    (case a19 => k_is); (case l19 => k_is); (case c19 => k_is); (case k19 => k_is)
    (case a20 => k_is); (case l20 => k_is); (case c20 => k_is); (case k20 => k_is)
    (case a21 => k_is); (case l21 => k_is); (case c21 => k_is); (case k21 => k_is)
    (case a22 => k_is); (case l22 => k_is); (case c22 => k_is); (case k22 => k_is)
    (case cc0 => k_is)
    (case z0 => k_is)
    (case z1 => k_is)
    (case z2 => k_is)
    (case z3 => k_is)
    (case z4 => k_is)
    (case z5 => k_is)
    (case z6 => k_is)
    (case z7 => k_is)
    (case z8 => k_is)
    (case z9 => k_is)
    (case z10 => k_is)
    (case z11 => k_is)
