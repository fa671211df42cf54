import PyProof.Rows.All
import HandS.Dict
import Wide.All
import OpenK.AllK
import Wide.FinOn
import HandS.ForMost
import HandS.Deep
import HandS.Conv
import HandS.Zip
import HandS.TupAny
import HandS.TupMul
import HandS.Style
import HandS.EndBits
import HandS.SortInts
import HandS.IsInst
import HandS.Strs
import PyProof.P3Statements
import PyProof.EqLayable
import PyProof.ReprReads
import KE.SortData
import PyProof.Rows.SortShellAny
import HandS.More
import KE.GoesMore
import KE.GoesEnum
import HandS.NoneIn
import HandS.SetFor
import PyProof.AutoSeq1
import PySem.Challenge.RW_calmranks_k07_quarrels_told
set_option Elab.async false
set_option linter.all false
set_option maxRecDepth 100000
set_option maxHeartbeats 16000000
namespace Pl
open PySem

abbrev lim : Nat := 1000000
/-- a value as the evaluator holds it: plain data, or a cell that may change -/
inductive W where
  | v (d : PyData)
  | r (n : Nat)
  | s (ns : List Int)
inductive Cell where
  | lst (xs : List PyData)
  | dct (kvs : List (PyData × PyData))
  | gone
abbrev En := List (Option W)
abbrev Sto := List Cell

inductive Bo where
  | add | sub | mul | fdv | mod | pow
inductive Co where
  | eq | ne | lt | le | gt | ge | isin | nin
inductive Bl where
  | len | list | tuple | int | abs | str | repr | isint | isbool | istup | isstr | islst | sorted | sum | max | min | max2 | min2 | any | all | nset

mutual
inductive Ex where
  | var (i : Nat)
  | frz (i : Nat)
  | con (d : PyData)
  | glb (x : Str) (d : PyData)
  | bin (op : Bo) (a b : Ex)
  | neg (a : Ex)
  | cmp (op : Co) (a b : Ex)
  | chain (o1 o2 : Co) (a b c : Ex)
  | isn (ng : Bool) (a : Ex)
  | ist (ng : Bool) (k : Bool) (a : Ex)
  | and (a b : Ex)
  | or (a b : Ex)
  | not (a : Ex)
  | ife (c a b : Ex)
  | tup (es : Exs)
  | lst (es : Exs)
  | ix (a i : Ex)
  | sl (a lo hi : Ex)
  | rev (a : Ex)
  | dcn (kvs : List (PyData × PyData))
  | dct (a : Ex)
  | dnw
  | dgt (a k : Ex)
  | dgx (a k x : Ex)
  | lset (srt : Bool) (a : Ex)
  | nop
  | call (f : Nat) (es : Exs)
  | blt (b : Bl) (es : Exs)
  | lrng (tup : Bool) (it : Iy)
  | idx (a b : Ex)
  | cnt (a b : Ex)
  | pop (i : Nat) (e : Ex)
  | lc (elt : Ex) (tg : List Nat) (many : Bool) (it : Iy) (c : Ex)
  | lcp (cl : List (Nat × Nat))
  | cell (e : Ex)
inductive Exs where
  | nil
  | cons (e : Ex) (es : Exs)
inductive Iy where
  | seq (e : Ex)
  | rng1 (e : Ex)
  | rng2 (a b : Ex)
  | rngd (a b : Ex)
  | enum (e : Ex)
  | zip (a b : Ex)
  | zip3 (a b c : Ex)
  | keys (i : Nat)
end
inductive Tg where
  | nm (i : Nat)
  | at (i : Nat) (e : Ex)
  | tp (is : List Nat)
mutual
inductive St where
  | pass
  | fz (i : Nat)
  | asg (i : Nat) (e : Ex)
  | par (ts : List Tg) (es : Exs)
  | unp (ts : List Tg) (e : Ex)
  | seti (i : Nat) (ix e : Ex)
  | dput (i : Nat) (k e : Ex)
  | aug (i : Nat) (op : Bo) (e : Ex)
  | app (i : Nat) (e : Ex)
  | ext (i : Nat) (e : Ex)
  | exp (e : Ex)
  | ite (c : Ex) (a b : Bk)
  | loop (tg : List Nat) (many : Bool) (it : Iy) (b : Bk)
  | whl (c : Ex) (b : Bk)
  | ret (e : Ex)
  | retN
  | brk
  | cont
  | bad
inductive Bk where
  | nil
  | cons (s : St) (b : Bk)
end

def shp (d : PyData) : Bool := SeqAt.shaped d
def intsOf : List PyData → Option (List Int)
  | [] => some []
  | .int i :: r => (intsOf r).map (i :: ·)
  | _ :: _ => none
def boolsOf : List PyData → Option (List Bool)
  | [] => some []
  | .bool i :: r => (boolsOf r).map (i :: ·)
  | _ :: _ => none
/-- the items of a list or tuple -/
def itemsOf : PyData → Option (List PyData)
  | .list xs => some xs
  | .tuple xs => some xs
  | _ => none
def boD : Bo → PyData → PyData → Option PyData
  | .add, .int i, .int j => some (.int (i + j))
  | .add, .str x, .str y => if x.length + y.length ≤ lim then some (.str (x ++ y)) else none
  | .add, .tuple x, .tuple y => if x.length + y.length ≤ lim then some (.tuple (x ++ y)) else none
  | .add, .list x, .list y => if x.length + y.length ≤ lim then some (.list (x ++ y)) else none
  | .sub, .int i, .int j => some (.int (i - j))
  | .mul, .int i, .int j => if (-(2 ^ 64) < i ∧ i < 2 ^ 64) ∨ (-(2 ^ 64) < j ∧ j < 2 ^ 64) then some (.int (i * j)) else none
  | .mul, .tuple x, .int j => if -1000 ≤ j ∧ j ≤ 1000 ∧ x.length ≤ 1000 then some (.tuple (List.replicate j.toNat x).flatten) else none
  | .mul, .list x, .int j => if -1000 ≤ j ∧ j ≤ 1000 ∧ x.length ≤ 1000 then some (.list (List.replicate j.toNat x).flatten) else none
  | .fdv, .int i, .int j => if 0 < j ∧ j < 1073741824 then some (.int (i / j)) else none
  | .mod, .int i, .int j => if 0 < j then some (.int (i % j)) else none
  | .pow, .int i, .int j => if 0 ≤ j ∧ j ≤ 1000000 ∧ i.natAbs < 2 ^ 64 then some (.int (i ^ j.toNat)) else none
  | _, _, _ => none
/-- with nothing: whatever is in it -/
def eqE : PyData → PyData → Option Bool
  | .tuple xs, .tuple [] => some xs.isEmpty
  | .list xs, .list [] => some xs.isEmpty
  | _, _ => none
/-- .. a dict -/
def eqK : PyData → PyData → Option Bool
  | .dict xs, .dict [] => some xs.isEmpty
  | _, _ => none
/-- a dict's keys are ints and texts -/
def kO : PyData → Option (Sum Int Str)
  | .int i => some (.inl i)
  | .str x => some (.inr x)
  | _ => none
def lookD (kvs : List (PyData × PyData)) (k : PyData) : Option PyData := do
  let j ← kO k
  (kvs.find? fun p => decide (kO p.1 = some j)).map (·.2)
def hasD (kvs : List (PyData × PyData)) (k : PyData) : Option Bool := do
  let j ← kO k
  some (kvs.any fun p => decide (kO p.1 = some j))
def putD (kvs : List (PyData × PyData)) (k v : PyData) : List (PyData × PyData) :=
  if kvs.any fun p => decide (kO p.1 = kO k) then kvs.map fun p => if kO p.1 = kO k then (p.1, v) else p else kvs ++ [(k, v)]
def asDct : PyData → Option Unit
  | .dict _ => some ()
  | _ => none
def getD1 (x : PyData) : PyData → PyData → Option PyData
  | .dict kvs, k => do
    let _ ← kO k
    some ((lookD kvs k).getD x)
  | _, _ => none
def coD : Co → PyData → PyData → Option Bool
  | .eq, .str x, .str y => some (x == y)
  | .ne, .str x, .str y => some (x != y)
  | .eq, d, e => if shp d && shp e then some (PyData.eqv d e) else (eqE d e).or (eqK d e)
  | .ne, d, e => if shp d && shp e then some (!PyData.eqv d e) else ((eqE d e).or (eqK d e)).map (!·)
  | .lt, .int i, .int j => some (decide (i < j))
  | .le, .int i, .int j => some (decide (i ≤ j))
  | .gt, .int i, .int j => some (decide (j < i))
  | .ge, .int i, .int j => some (decide (j ≤ i))
  | .isin, d, .dict kvs => hasD kvs d
  | .nin, d, .dict kvs => (hasD kvs d).map (!·)
  | .isin, d, e => do
    let xs ← itemsOf e
    if shp d && shp e then some (xs.any fun z => PyData.eqv z d) else none
  | .nin, d, e => do
    let xs ← itemsOf e
    if shp d && shp e then some (!xs.any fun z => PyData.eqv z d) else none
  | _, _, _ => none
def sortI (xs : List Int) : List Int := xs.mergeSort
/-- tuples that may be sorted -/
def sortOk (xs : List PyData) : Bool := (xs.all fun d => (match d with | .tuple (_ :: _) => true | _ => false) && decide (d.depth ≤ 60) && d.canLay0) && (xs.all fun d => xs.all fun e => PySem.W.alike d e) && decide (xs.length ≤ lim)
def sortT (xs : List PyData) : List PyData := xs.mergeSort fun a b => !PySem.W.dataLt b a
def maxI : List Int → Option Int
  | [] => none
  | x :: r => some (r.foldl max x)
def minI : List Int → Option Int
  | [] => none
  | x :: r => some (r.foldl min x)
def blD : Bl → List PyData → Option PyData
  | .len, [.list xs] => some (.int xs.length)
  | .len, [.tuple xs] => some (.int xs.length)
  | .len, [.dict kvs] => some (.int kvs.length)
  | .len, [.str x] => if x.length ≤ lim then some (.int x.length) else none
  | .list, [d] => (itemsOf d).map .list
  | .tuple, [d] => (itemsOf d).map .tuple
  | .int, [.int i] => some (.int i)
  | .int, [.bool b] => some (.int (if b then 1 else 0))
  | .abs, [.int i] => some (.int (if i < 0 then -i else i))
  | .str, [.int i] => if i.natAbs.log2 < 1920 then some (.str (toString i)) else none
  | .repr, [d] => if d.showable && decide (d.depth ≤ 64) && decide (d.shown.length ≤ lim) then some (.str d.shown) else none
  | .isint, [d] => some (.bool (match d with | .int _ => true | .bool _ => true | _ => false))
  | .isbool, [d] => some (.bool (match d with | .bool _ => true | _ => false))
  | .istup, [d] => some (.bool (match d with | .tuple _ => true | _ => false))
  | .isstr, [d] => some (.bool (match d with | .str _ => true | _ => false))
  | .islst, [d] => some (.bool (match d with | .list _ => true | _ => false))
  | .sorted, [.list xs] => match intsOf xs with
    | some ns => if ns.length ≤ lim then some (.list ((sortI ns).map .int)) else none
    | none => if sortOk xs then some (.list (sortT xs)) else none
  | .sorted, [.tuple xs] => do
    let ns ← intsOf xs
    if ns.length ≤ lim then some (.list ((sortI ns).map .int)) else none
  | .sorted, [.dict kvs] => do
    let ns ← intsOf (kvs.map (·.1))
    if ns.length < 64 then some (.list ((sortI ns).map .int)) else none
  | .sum, [.list xs] => do
    let ns ← intsOf xs
    some (.int ns.sum)
  | .max, [.list xs] => do
    let ns ← intsOf xs
    let m ← maxI ns
    some (.int m)
  | .min, [.list xs] => do
    let ns ← intsOf xs
    let m ← minI ns
    some (.int m)
  | .max2, [.int i, .int j] => some (.int (if j > i then j else i))
  | .min2, [.int i, .int j] => some (.int (if j < i then j else i))
  | .any, [.list xs] => do
    let bs ← boolsOf xs
    some (.bool (bs.any id))
  | .all, [.list xs] => do
    let bs ← boolsOf xs
    some (.bool (bs.all id))
  | .nset, [d] => do
    let xs ← itemsOf d
    let ns ← intsOf xs
    some (.int ns.eraseDups.length)
  | _, _ => none
/-- the place of an index: negative ones from the end -/
def ixN (n : Nat) (i : Int) : Option Nat := if 0 ≤ i then (if i < n then some i.toNat else none) else if -(n : Int) ≤ i then some (i + n).toNat else none
/-- .. of a list that is not too long -/
def ixS (n : Nat) (i : Int) : Option Nat := if n ≤ lim then ixN n i else none
def pairsD : List PyData → Option (List (PyData × PyData))
  | [] => some []
  | .tuple [k, v] :: r => (pairsD r).map ((k, v) :: ·)
  | _ :: _ => none
/-- the keys are keys, each once -/
def okK (kvs : List (PyData × PyData)) : Bool := kvs.all (fun p => (kO p.1).isSome) && decide ((kvs.map fun p => kO p.1).Nodup)
def dctD : PyData → Option PyData
  | .list xs => do
    let kvs ← pairsD xs
    if okK kvs then some (.dict kvs) else none
  | _ => none
def atD : PyData → PyData → Option PyData
  | .list xs, .int i => (ixN xs.length i).bind (xs[·]?)
  | .tuple xs, .int i => (ixN xs.length i).bind (xs[·]?)
  | .dict kvs, k => lookD kvs k
  | _, _ => none
def sIx (n d : Nat) : Option Int → Nat
  | none => d
  | some v => if v < 0 then (v + n).toNat else min v.toNat n
def cut {α : Type} (xs : List α) (lo hi : Option Int) : List α := (xs.drop (sIx xs.length 0 lo)).take (sIx xs.length xs.length hi - sIx xs.length 0 lo)
def slD : PyData → Option Int → Option Int → Option PyData
  | .list xs, lo, hi => some (.list (cut xs lo hi))
  | .tuple xs, lo, hi => some (.tuple (cut xs lo hi))
  | _, _, _ => none
/-- the ints, once each, ascending -/
def setI (ns : List Int) : List Int := sortI ns.eraseDups
def setD (srt : Bool) (d : PyData) : Option PyData := do
  let xs ← itemsOf d
  let ns ← intsOf xs
  if ns.length < 64 then some (if srt then .list ((setI ns).map .int) else .int (setI ns).length) else none
def revD : PyData → Option PyData
  | .list xs => some (.list xs.reverse)
  | .tuple xs => some (.tuple xs.reverse)
  | _ => none
/-- the first place of an equal item -/
def fstIx (p : PyData → Bool) : List PyData → Option Nat
  | [] => none
  | x :: r => if p x then some 0 else (fstIx p r).map (· + 1)
def idxD (d e : PyData) : Option PyData := do
  let xs ← itemsOf d
  if shp d && shp e then (fstIx (fun z => PyData.eqv z e) xs).map (fun n => .int (n : Nat)) else none
def cntD (d e : PyData) : Option PyData := do
  let xs ← itemsOf d
  if shp d && shp e then some (.int ((xs.filter fun z => PyData.eqv z e).length : Nat)) else none

def look (S : Sto) (n : Nat) : Option (List PyData) := match S[n]? with
  | some (.lst xs) => some xs
  | _ => none
def lookK (S : Sto) (n : Nat) : Option (List (PyData × PyData)) := match S[n]? with
  | some (.dct kvs) => some kvs
  | _ => none
def deref (S : Sto) : W → Option PyData
  | .v d => some d
  | .r n => ((look S n).map .list).or ((lookK S n).map .dict)
  | .s _ => none
/-- .. a list's cell alone -/
def deref0 (S : Sto) : W → Option PyData
  | .v d => some d
  | .r n => (look S n).map .list
  | .s _ => none
def derefs (S : Sto) : List W → Option (List PyData)
  | [] => some []
  | w :: r => do
    let d ← deref S w
    let ds ← derefs S r
    some (d :: ds)
def datas : List W → Option (List PyData)
  | [] => some []
  | .v d :: r => (datas r).map (d :: ·)
  | _ :: _ => none
def lkup (η : En) (i : Nat) : Option W := (η[i]?).join
def setAll (η : En) : List Nat → List PyData → Option En
  | [], [] => some η
  | i :: is, d :: ds => setAll (η.set i (some (.v d))) is ds
  | _, _ => none
def bindT (η : En) (tg : List Nat) (many : Bool) (d : PyData) : Option En :=
  if many then (match d with | .tuple xs => setAll η tg xs | .list xs => setAll η tg xs | _ => none) else setAll η tg [d]
def wipeE (η : En) : List Nat → En
  | [] => η
  | i :: is => (wipeE η is).set i none
def isNoneD : PyData → Bool
  | .none => true
  | _ => false
def isNop : Ex → Bool
  | .nop => true
  | _ => false
def asBool : W → Option Bool
  | .v (.bool b) => some b
  | _ => none
def asInt (S : Sto) (w : W) : Option Int := match w with
  | .v (.int i) => some i
  | _ => none
def rngL (a b : Int) : List PyData := (List.range (b - a).toNat).map fun i => .int (a + (i : Nat))
/-- downwards -/
def rngD (a b : Int) : List PyData := (List.range (a - b).toNat).map fun i => .int (a - (i : Nat))
/-- the kernel counts down from 1000000 where it meets an integer's comparison with it: so by natural numbers -/
def rngOk (a b : Int) : Bool := decide (a.natAbs ≤ 1000000) && decide (b.natAbs ≤ 1000000)
/-- what is walked: the items, or the cell that is read turn by turn -/
inductive Src where
  | items (ds : List PyData)
  | cell (n : Nat)
def srcOf (S : Sto) : W → Option Src
  | .v d => (itemsOf d).map .items
  | .r n => (look S n).map fun _ => .cell n
  | .s _ => none
/-- one comprehension's turns -/
def lcL (f : PyData → Sto → Option (Option PyData × Sto)) : List PyData → Sto → Option (List PyData × Sto)
  | [], S => some ([], S)
  | d :: ds, S => do
    let p ← f d S
    let q ← lcL f ds p.2
    some ((match p.1 with | some x => x :: q.1 | none => q.1), q.2)
def lcR (f : PyData → Sto → Option (Option PyData × Sto)) (n : Nat) : Nat → Nat → Sto → Option (List PyData × Sto)
  | 0, _, _ => none
  | k + 1, i, S => do
    let xs ← look S n
    match xs[i]? with
    | none => some ([], S)
    | some d =>
      let p ← f d S
      let q ← lcR f n k (i + 1) p.2
      some ((match p.1 with | some x => x :: q.1 | none => q.1), q.2)
def lcS (f : PyData → Sto → Option (Option PyData × Sto)) (S : Sto) : Src → Option (List PyData × Sto)
  | .items ds => lcL f ds S
  | .cell n => lcR f n (lim + 1) 0 S

abbrev Fns := Nat → List W → Sto → Option (W × Sto)

inductive Out where
  | nx (η : En) (S : Sto)
  | rt (w : W) (S : Sto)
  | bk (η : En) (S : Sto)
  | ct (η : En) (S : Sto)
def forL (f : PyData → En → Sto → Option Out) : List PyData → En → Sto → Option Out
  | [], η, S => some (.nx η S)
  | d :: ds, η, S => do
    match ← f d η S with
    | .nx η' S' => forL f ds η' S'
    | .ct η' S' => forL f ds η' S'
    | .bk η' S' => some (.nx η' S')
    | .rt w S' => some (.rt w S')
def forR (f : PyData → En → Sto → Option Out) (n : Nat) : Nat → Nat → En → Sto → Option Out
  | 0, _, _, _ => none
  | k + 1, i, η, S => do
    let xs ← look S n
    match xs[i]? with
    | none => some (.nx η S)
    | some d =>
      match ← f d η S with
      | .nx η' S' => forR f n k (i + 1) η' S'
      | .ct η' S' => forR f n k (i + 1) η' S'
      | .bk η' S' => some (.nx η' S')
      | .rt w S' => some (.rt w S')
def forS (f : PyData → En → Sto → Option Out) (η : En) (S : Sto) : Src → Option Out
  | .items ds => forL f ds η S
  | .cell n => forR f n (lim + 1) 0 η S
def whlL (c : En → Sto → Option (Bool × Sto)) (f : En → Sto → Option Out) : Nat → En → Sto → Option Out
  | 0, _, _ => none
  | n + 1, η, S => do
    let p ← c η S
    if p.1 then
      match ← f η p.2 with
      | .nx η' S' => whlL c f n η' S'
      | .ct η' S' => whlL c f n η' S'
      | .bk η' S' => some (.nx η' S')
      | .rt w S' => some (.rt w S')
    else some (.nx η p.2)
/-- the rows of a comprehension of many clauses -/
def prodL : List (List PyData) → List (List PyData)
  | [] => [[]]
  | ds :: r => ds.flatMap fun d => (prodL r).map fun row => d :: row
def srcL (η : En) : List (Nat × Nat) → Option (List (List PyData))
  | [] => some []
  | c :: cl => match lkup η c.2 with
    | some (.v d) => match itemsOf d, srcL η cl with
      | some ds, some r => some (ds :: r)
      | _, _ => none
    | _ => none
def lcpF (cl : List (Nat × Nat)) (η : En) (S : Sto) : Option (W × Sto) := match srcL η cl with
  | some dss => if cl.all (fun c => decide (c.1 < η.length)) && decide ((prodL dss).length ≤ lim) then some (.v (.list ((prodL dss).map .tuple)), S) else none
  | none => none
/-- an int that may be left out -/
def toI : Option (W × Sto) → Option (Option Int × Sto)
  | some (.v (.int i), S) => some (some i, S)
  | _ => none
def optI (nop : Bool) (f : Sto → Option (W × Sto)) (S : Sto) : Option (Option Int × Sto) := if nop then some (none, S) else toI (f S)
def exsLen : Exs → Nat
  | .nil => 0
  | .cons _ es => exsLen es + 1
/-- the keys of a dict that a name holds -/
def keysF (i : Nat) (η : En) (S : Sto) : Option (Src × Sto) := do
  let w ← lkup η i
  match w with
  | .v (.dict kvs) => some (.items (kvs.map (·.1)), S)
  | _ => none
mutual
def evE (Γ : Fns) (η : En) : Ex → Sto → Option (W × Sto)
  | .var i, S => (lkup η i).map (·, S)
  | .frz i, S => do
    let w ← lkup η i
    match w with
    | .r n =>
      let xs ← look S n
      some (.v (.list xs), S.set n .gone)
    | _ => none
  | .con d, S => some (.v d, S)
  | .glb _ d, S => some (.v d, S)
  | .bin op a b, S => do
    let p ← evE Γ η a S
    let q ← evE Γ η b p.2
    let d ← deref q.2 p.1
    let e ← deref q.2 q.1
    let z ← boD op d e
    some (.v z, q.2)
  | .neg a, S => do
    let p ← evE Γ η a S
    let i ← asInt p.2 p.1
    some (.v (.int (-i)), p.2)
  | .cmp op a b, S => do
    let p ← evE Γ η a S
    let q ← evE Γ η b p.2
    let d ← deref q.2 p.1
    let e ← deref q.2 q.1
    let z ← coD op d e
    some (.v (.bool z), q.2)
  | .chain o1 o2 a b c, S => do
    let p ← evE Γ η a S
    let q ← evE Γ η b p.2
    let d ← deref q.2 p.1
    let e ← deref q.2 q.1
    let z ← coD o1 d e
    if z then
      let r ← evE Γ η c q.2
      let e' ← deref r.2 q.1
      let f ← deref r.2 r.1
      let y ← coD o2 e' f
      some (.v (.bool y), r.2)
    else some (.v (.bool false), q.2)
  | .isn ng a, S => do
    let p ← evE Γ η a S
    match p.1 with
    | .v d => some (.v (.bool (isNoneD d != ng)), p.2)
    | _ => none
  | .ist ng k a, S => do
    let p ← evE Γ η a S
    let b ← asBool p.1
    some (.v (.bool ((b == k) != ng)), p.2)
  | .and a b, S => do
    let p ← evE Γ η a S
    let c ← asBool p.1
    if c then evE Γ η b p.2 else some (.v (.bool false), p.2)
  | .or a b, S => do
    let p ← evE Γ η a S
    let c ← asBool p.1
    if c then some (.v (.bool true), p.2) else evE Γ η b p.2
  | .not a, S => do
    let p ← evE Γ η a S
    let c ← asBool p.1
    some (.v (.bool (!c)), p.2)
  | .ife c a b, S => do
    let p ← evE Γ η c S
    let z ← asBool p.1
    if z then evE Γ η a p.2 else evE Γ η b p.2
  | .tup es, S => do
    let p ← evEs Γ η es S
    let ds ← datas p.1
    if ds.length ≤ lim then some (.v (.tuple ds), p.2) else none
  | .lst es, S => do
    let p ← evEs Γ η es S
    let ds ← datas p.1
    if ds.length ≤ lim then some (.v (.list ds), p.2) else none
  | .ix a i, S => do
    let p ← evE Γ η a S
    let q ← evE Γ η i p.2
    let d ← deref q.2 p.1
    let e ← deref q.2 q.1
    let z ← atD d e
    some (.v z, q.2)
  | .sl a lo hi, S => do
    let p ← evE Γ η a S
    let q ← optI (isNop lo) (evE Γ η lo) p.2
    let r ← optI (isNop hi) (evE Γ η hi) q.2
    match p.1 with
    | .s ns => some (.v (.list ((cut ns q.1 r.1).map .int)), r.2)
    | w =>
      let d ← deref r.2 w
      let z ← slD d q.1 r.1
      some (.v z, r.2)
  | .rev a, S => do
    let p ← evE Γ η a S
    let d ← deref p.2 p.1
    let z ← revD d
    some (.v z, p.2)
  | .dcn kvs, S => if okK kvs && decide (kvs.length ≤ 15) then some (.v (.dict kvs), S) else none
  | .dct a, S => do
    let p ← evE Γ η a S
    let d ← deref p.2 p.1
    let z ← dctD d
    some (.v z, p.2)
  | .dnw, S => some (.r S.length, S ++ [.dct []])
  | .dgt a k, S => do
    let p ← evE Γ η a S
    let d0 ← deref p.2 p.1
    let _ ← asDct d0
    let q ← evE Γ η k p.2
    let d ← deref q.2 p.1
    let e ← deref q.2 q.1
    let z ← getD1 .none d e
    some (.v z, q.2)
  | .dgx a k x, S => do
    let p ← evE Γ η a S
    let d0 ← deref p.2 p.1
    let _ ← asDct d0
    let q ← evE Γ η k p.2
    let r ← evE Γ η x q.2
    let d ← deref r.2 p.1
    let e ← deref r.2 q.1
    match r.1 with
    | .v y =>
      let z ← getD1 y d e
      some (.v z, r.2)
    | _ => none
  | .lset b a, S => do
    let p ← evE Γ η a S
    let d ← deref p.2 p.1
    let z ← setD b d
    some (.v z, p.2)
  | .nop, _ => none
  | .call f es, S => do
    let p ← evEs Γ η es S
    Γ f p.1 p.2
  | .blt b es, S => do
    let p ← evEs Γ η es S
    let ds ← derefs p.2 p.1
    let z ← blD b ds
    some (.v z, p.2)
  | .lrng tup it, S => do
    let p ← evI Γ η it S
    match p.1 with
    | .items ds => if ds.length ≤ lim then some (.v (if tup then .tuple ds else .list ds), p.2) else none
    | .cell _ => none
  | .idx a b, S => do
    let p ← evE Γ η a S
    let _ ← deref0 p.2 p.1
    let q ← evE Γ η b p.2
    let d ← deref q.2 p.1
    let e ← deref q.2 q.1
    let z ← idxD d e
    some (.v z, q.2)
  | .cnt a b, S => do
    let p ← evE Γ η a S
    let _ ← deref0 p.2 p.1
    let q ← evE Γ η b p.2
    let d ← deref q.2 p.1
    let e ← deref q.2 q.1
    let z ← cntD d e
    some (.v z, q.2)
  | .pop i e, S => do
    let w ← lkup η i
    let _ ← deref0 S w
    let q ← optI (isNop e) (evE Γ η e) S
    match w with
    | .r n =>
      let xs ← look q.2 n
      let k ← ixS xs.length (match q.1 with | some j => j | none => -1)
      let x ← xs[k]?
      some (.v x, q.2.set n (.lst (xs.eraseIdx k)))
    | _ => none
  | .lc elt tg many it c, S => do
    let p ← evI Γ η it S
    let q ← lcS (fun d S1 => do
      let η1 ← bindT (wipeE η tg) tg many d
      let b ← evE Γ η1 c S1
      let z ← asBool b.1
      if z then
        let e ← evE Γ η1 elt b.2
        match e.1 with
        | .v x => some (some x, e.2)
        | _ => none
      else some (none, b.2)) p.2 p.1
    if q.1.length ≤ lim then some (.v (.list q.1), q.2) else none
  | .lcp cl, S => lcpF cl η S
  | .cell e, S => do
    let p ← evE Γ η e S
    match p.1 with
    | .v (.list xs) => some (.r p.2.length, p.2 ++ [.lst xs])
    | _ => none
def evEs (Γ : Fns) (η : En) : Exs → Sto → Option (List W × Sto)
  | .nil, S => some ([], S)
  | .cons e es, S => do
    let p ← evE Γ η e S
    let q ← evEs Γ η es p.2
    some (p.1 :: q.1, q.2)
def evI (Γ : Fns) (η : En) : Iy → Sto → Option (Src × Sto)
  | .seq e, S => do
    let p ← evE Γ η e S
    let s ← srcOf p.2 p.1
    some (s, p.2)
  | .rng1 e, S => do
    let p ← evE Γ η e S
    let i ← asInt p.2 p.1
    if rngOk 0 i then some (.items (rngL 0 i), p.2) else none
  | .rng2 a b, S => do
    let p ← evE Γ η a S
    let q ← evE Γ η b p.2
    let i ← asInt q.2 p.1
    let j ← asInt q.2 q.1
    if rngOk i j then some (.items (rngL i j), q.2) else none
  | .rngd a b, S => do
    let p ← evE Γ η a S
    let q ← evE Γ η b p.2
    let i ← asInt q.2 p.1
    let j ← asInt q.2 q.1
    if rngOk i j then some (.items (rngD i j), q.2) else none
  | .enum e, S => do
    let p ← evE Γ η e S
    match p.1 with
    | .v d =>
      let xs ← itemsOf d
      some (.items (xs.mapIdx fun i x => .tuple [.int (i : Nat), x]), p.2)
    | _ => none
  | .zip a b, S => do
    let p ← evE Γ η a S
    let q ← evE Γ η b p.2
    match p.1, q.1 with
    | .v d, .v e =>
      let xs ← itemsOf d
      let ys ← itemsOf e
      some (.items (List.zipWith (fun x y => .tuple [x, y]) xs ys), q.2)
    | _, _ => none
  | .zip3 a b c, S => do
    let p ← evE Γ η a S
    let q ← evE Γ η b p.2
    let r ← evE Γ η c q.2
    match p.1, q.1, r.1 with
    | .v d, .v e, .v f =>
      let xs ← itemsOf d
      let ys ← itemsOf e
      let zs ← itemsOf f
      some (.items (List.zipWith (fun x (y : PyData × PyData) => .tuple [x, y.1, y.2]) xs (ys.zip zs)), r.2)
    | _, _, _ => none
  | .keys i, S => keysF i η S
end
/-- a tuple's items under names -/
def nmAll : List Nat → List PyData → En → Option En
  | [], [], η => some η
  | i :: is, d :: ds, η => if i < η.length then nmAll is ds (η.set i (some (.v d))) else none
  | _, _, _ => none
def storeT (Γ : Fns) (w : W) : Tg → En → Sto → Option (En × Sto)
  | .nm i, η, S => if i < η.length then some (η.set i (some w), S) else none
  | .at i e, η, S => do
    let o ← lkup η i
    let q ← evE Γ η e S
    let k ← asInt q.2 q.1
    match o, w with
    | .r n, .v x =>
      let xs ← look q.2 n
      let j ← ixS xs.length k
      some (η, q.2.set n (.lst (xs.set j x)))
    | _, _ => none
  | .tp is, η, S => match w with
    | .v (.tuple ds) => (nmAll is ds η).map fun η1 => (η1, S)
    | _ => none
def storeAll (Γ : Fns) : List Tg → List W → En → Sto → Option (En × Sto)
  | [], [], η, S => some (η, S)
  | t :: ts, w :: ws, η, S => do
    let p ← storeT Γ w t η S
    storeAll Γ ts ws p.1 p.2
  | _, _, _, _ => none
mutual
def evS (Γ : Fns) : St → En → Sto → Option Out
  | .pass, η, S => some (.nx η S)
  | .fz i, η, S => do
    let w ← lkup η i
    match w with
    | .r n =>
      let xs ← look S n
      some (.nx (η.set i (some (.v (.list xs)))) (S.set n .gone))
    | _ => none
  | .asg i e, η, S => do
    let p ← evE Γ η e S
    let q ← storeT Γ p.1 (.nm i) η p.2
    some (.nx q.1 q.2)
  | .par ts es, η, S => do
    let p ← evEs Γ η es S
    let q ← storeAll Γ ts p.1 η p.2
    some (.nx q.1 q.2)
  | .unp ts e, η, S => do
    let p ← evE Γ η e S
    match p.1 with
    | .v (.tuple xs) =>
      let q ← storeAll Γ ts (xs.map .v) η p.2
      some (.nx q.1 q.2)
    | _ => none
  | .seti i e x, η, S => do
    let p ← evE Γ η x S
    let q ← storeT Γ p.1 (.at i e) η p.2
    some (.nx q.1 q.2)
  | .dput i k e, η, S => do
    let p ← evE Γ η e S
    let o ← lkup η i
    let q ← evE Γ η k p.2
    let kd ← deref q.2 q.1
    let _ ← kO kd
    match o, p.1 with
    | .r n, .v x =>
      let kvs ← lookK q.2 n
      if kvs.length < lim then some (.nx η (q.2.set n (.dct (putD kvs kd x)))) else none
    | _, _ => none
  | .aug i op e, η, S => do
    let w ← lkup η i
    let p ← evE Γ η e S
    match op, w, p.1 with
    | .add, .v (.int a), .v (.int b) => some (.nx (η.set i (some (.v (.int (a + b))))) p.2)
    | .sub, .v (.int a), .v (.int b) => some (.nx (η.set i (some (.v (.int (a - b))))) p.2)
    | _, _, _ => none
  | .app i e, η, S => do
    let w ← lkup η i
    let _ ← deref0 S w
    let p ← evE Γ η e S
    match w, p.1 with
    | .r n, .v x =>
      let xs ← look p.2 n
      if xs.length < lim then some (.nx η (p.2.set n (.lst (xs ++ [x])))) else none
    | _, _ => none
  | .ext i e, η, S => do
    let w ← lkup η i
    let _ ← deref0 S w
    let p ← evE Γ η e S
    match w, p.1 with
    | .r n, .v d =>
      let ys ← itemsOf d
      let xs ← look p.2 n
      if xs.length + ys.length ≤ lim then some (.nx η (p.2.set n (.lst (xs ++ ys)))) else none
    | _, _ => none
  | .exp e, η, S => do
    let p ← evE Γ η e S
    some (.nx η p.2)
  | .ite c a b, η, S => do
    let p ← evE Γ η c S
    let z ← asBool p.1
    if z then evB Γ a η p.2 else evB Γ b η p.2
  | .loop tg many it b, η, S => do
    let p ← evI Γ η it S
    forS (fun d η1 S1 => do
      let η2 ← bindT η1 tg many d
      evB Γ b η2 S1) η p.2 p.1
  | .whl c b, η, S => whlL (fun η1 S1 => do
      let p ← evE Γ η1 c S1
      let z ← asBool p.1
      some (z, p.2)) (fun η1 S1 => evB Γ b η1 S1) lim η S
  | .ret e, η, S => do
    let p ← evE Γ η e S
    some (.rt p.1 p.2)
  | .retN, _, S => some (.rt (.v .none) S)
  | .brk, η, S => some (.bk η S)
  | .cont, η, S => some (.ct η S)
  | .bad, _, _ => none
def evB (Γ : Fns) : Bk → En → Sto → Option Out
  | .nil, η, S => some (.nx η S)
  | .cons s b, η, S => do
    match ← evS Γ s η S with
    | .nx η' S' => evB Γ b η' S'
    | o => some o
end
/-- what leaves a def: its own cells are dropped; fr: but for the list that it returns -/
def fin (n : Nat) (fr : Bool) : Out → Option (W × Sto)
  | .nx _ S => some (.v .none, S.take n)
  | .rt (.v d) S => some (.v d, S.take n)
  | .rt (.r m) S => if m < n then some (.r m, S.take n) else ((look S m).map fun xs => if fr then (.r n, S.take n ++ [.lst xs]) else (.v (.list xs), S.take n)).or ((lookK S m).bind fun kvs => if fr then none else some (.v (.dict kvs), S.take n))
  | _ => none
structure Fd where
  name : Str
  ps : List Str
  ns : List Str
  fr : Bool
  body : Bk
def runF (Γ : Fns) (f : Fd) (ws : List W) (S : Sto) : Option (W × Sto) :=
  if ws.length = f.ps.length then (evB Γ f.body (ws.map some ++ List.replicate (f.ns.length - ws.length) none) S).bind (fin S.length f.fr) else none
def evF (T : List (Nat × Fd)) : Nat → Fns
  | 0 => fun _ _ _ => none
  | k + 1 => fun i ws S => (T.lookup i).bind fun f => runF (evF T k) f ws S
end Pl


namespace Pl
open PySem PySem.Spec PyProof.Rows L2

/-- the cells by number, and the addresses that are kept from all values -/
structure Rho where
  c : List (Option Addr)
  p : List Addr
def Rho.No (r : Rho) (a : Addr) : Prop := some a ∉ r.c ∧ a ∉ r.p
def Rho.add (r : Rho) (a : Addr) : Rho := { r with c := r.c ++ [some a] }
def Rho.kill (r : Rho) (n : Nat) : Rho := { r with c := r.c.set n none }
def Rho.cut (r : Rho) (n : Nat) : Rho := { r with c := r.c.take n }
def Rho.hide (r : Rho) (a : Addr) : Rho := { r with p := a :: r.p }
/-- a tuple, known to the object -/
def Ft (H : Hp) (a : Addr) (xs : List V) : Prop := ∃ o : Obj, o.dict = none ∧ H a = some (.frz o (.tup xs))
theorem Ft.sq {K : PySem.W.Frag} {H : Hp} {a : Addr} {xs : List V} (h : Ft H a xs) : SqT K H a xs := let ⟨o, _, h⟩ := h; .inl (.inr ⟨o, h⟩)
/-- a dict's key as data -/
def kD : Key → PyData
  | .inl i => .int i
  | .inr x => .str x
mutual
/-- plain data at a value; its lists and tuples are none of the cells -/
inductive Rp (H : Hp) (r : Rho) : V → PyData → Prop
  | non : Rp H r .non .none
  | bl (b : Bool) : Rp H r (.bl b) (.bool b)
  | int (i : Int) : Rp H r (.int i) (.int i)
  | str (x : Str) : Rp H r (.str x) (.str x)
  | lst {a : Addr} {xs : List V} {ds : List PyData} : H a = some (.lst xs) → r.No a → Rps H r xs ds → Rp H r (.ref a) (.list ds)
  | tup {a : Addr} {xs : List V} {ds : List PyData} : Ft H a xs → r.No a → Rps H r xs ds → Rp H r (.ref a) (.tuple ds)
  | dic {a : Addr} {kvs : List (Key × V)} {ds : List (PyData × PyData)} : Rd H a (.dK kvs) → r.No a → kvs.map (fun p => kD p.1) = ds.map (·.1) → Rps H r (kvs.map (·.2)) (ds.map (·.2)) → Rp H r (.ref a) (.dict ds)
inductive Rps (H : Hp) (r : Rho) : List V → List PyData → Prop
  | nil : Rps H r [] []
  | cons {v : V} {vs : List V} {d : PyData} {ds : List PyData} : Rp H r v d → Rps H r vs ds → Rps H r (v :: vs) (d :: ds)
end
/-- from one moment to a later one -/
structure Gr (r : Rho) (H : Hp) (r' : Rho) (H' : Hp) : Prop where
  keep : ∀ a o, H a = some o → some a ∉ r.c → H' a = some o ∧ some a ∉ r'.c
  len : r.c.length ≤ r'.c.length
  old : ∀ (n : Nat) a, n < r.c.length → r'.c[n]? = some (some a) → r.c[n]? = some (some a)
  prt : r'.p = r.p
theorem Gr.refl (r : Rho) (H : Hp) : Gr r H r H := ⟨fun _ _ h k => ⟨h, k⟩, Nat.le_refl _, fun _ _ _ h => h, rfl⟩
theorem Gr.trans {r r1 r2 : Rho} {H H1 H2 : Hp} (a : Gr r H r1 H1) (b : Gr r1 H1 r2 H2) : Gr r H r2 H2 :=
  ⟨fun x o h k => let ⟨h1, k1⟩ := a.keep x o h k; b.keep x o h1 k1, Nat.le_trans a.len b.len, fun n x hn h => a.old n x hn (b.old n x (Nat.lt_of_lt_of_le hn a.len) h), b.prt.trans a.prt⟩
theorem Gr.no {r r' : Rho} {H H' : Hp} (g : Gr r H r' H') {a : Addr} {o : HO} (h : H a = some o) (k : r.No a) : r'.No a := ⟨(g.keep a o h k.1).2, by rw [g.prt]; exact k.2⟩
theorem Gr.keepR {r r' : Rho} {H H' : Hp} (g : Gr r H r' H') {a : Addr} {u : HO} (h : Rd H a u) (k : some a ∉ r.c) : Rd H' a u := h.elim (fun e => .inl (g.keep a _ e k).1) fun ⟨o, e⟩ => .inr ⟨o, (g.keep a _ e k).1⟩
theorem Gr.noR {r r' : Rho} {H H' : Hp} (g : Gr r H r' H') {a : Addr} {u : HO} (h : Rd H a u) (k : r.No a) : r'.No a := h.elim (fun e => g.no e k) fun ⟨o, e⟩ => g.no e k
mutual
theorem Rp.gr {r r' : Rho} {H H' : Hp} (g : Gr r H r' H') : ∀ {v : V} {d : PyData}, Rp H r v d → Rp H' r' v d
  | _, _, .non => .non
  | _, _, .bl b => .bl b
  | _, _, .int i => .int i
  | _, _, .str x => .str x
  | _, _, .lst h k t => .lst (g.keep _ _ h k.1).1 (g.no h k) (Rps.gr g t)
  | _, _, .tup h k t => .tup (let ⟨o, d, e⟩ := h; ⟨o, d, (g.keep _ _ e k.1).1⟩) (let ⟨_, _, e⟩ := h; g.no e k) (Rps.gr g t)
  | _, _, .dic h k e t => .dic (g.keepR h k.1) (g.noR h k) e (Rps.gr g t)
theorem Rps.gr {r r' : Rho} {H H' : Hp} (g : Gr r H r' H') : ∀ {vs : List V} {ds : List PyData}, Rps H r vs ds → Rps H' r' vs ds
  | _, _, .nil => .nil
  | _, _, .cons h t => .cons (Rp.gr g h) (Rps.gr g t)
end
theorem Rps.length {H : Hp} {r : Rho} : ∀ {vs : List V} {ds : List PyData}, Rps H r vs ds → vs.length = ds.length
  | _, _, .nil => rfl
  | _, _, .cons _ t => congrArg (· + 1) (Rps.length t)
theorem Rps.get {H : Hp} {r : Rho} : ∀ {vs : List V} {ds : List PyData} {i : Nat} {d : PyData}, Rps H r vs ds → ds[i]? = some d → ∃ v, vs[i]? = some v ∧ Rp H r v d
  | _, _, _, _, .nil, e => by simp at e
  | _, _, 0, _, .cons h _, e => by simp at e; subst e; exact ⟨_, rfl, h⟩
  | _, _, i + 1, _, .cons _ t, e => by
    obtain ⟨v, h1, h2⟩ := Rps.get (i := i) t (by simpa using e)
    exact ⟨v, by simpa using h1, h2⟩
theorem Rps.append {H : Hp} {r : Rho} : ∀ {vs ws : List V} {ds es : List PyData}, Rps H r vs ds → Rps H r ws es → Rps H r (vs ++ ws) (ds ++ es)
  | _, _, _, _, .nil, s => s
  | _, _, _, _, .cons h t, s => .cons h (Rps.append t s)
theorem Rps.take {H : Hp} {r : Rho} : ∀ {vs : List V} {ds : List PyData} (n : Nat), Rps H r vs ds → Rps H r (vs.take n) (ds.take n)
  | _, _, 0, _ => by simp; exact .nil
  | _, _, _ + 1, .nil => .nil
  | _, _, n + 1, .cons h t => .cons h (Rps.take n t)
theorem Rps.drop {H : Hp} {r : Rho} : ∀ {vs : List V} {ds : List PyData} (n : Nat), Rps H r vs ds → Rps H r (vs.drop n) (ds.drop n)
  | _, _, 0, t => t
  | _, _, _ + 1, .nil => .nil
  | _, _, n + 1, .cons _ t => Rps.drop n t
theorem Rps.set {H : Hp} {r : Rho} {v : V} {d : PyData} (h : Rp H r v d) : ∀ {vs : List V} {ds : List PyData} (i : Nat), Rps H r vs ds → Rps H r (vs.set i v) (ds.set i d)
  | _, _, _, .nil => .nil
  | _, _, 0, .cons _ t => .cons h t
  | _, _, i + 1, .cons q t => .cons q (Rps.set h i t)
theorem Rps.erase {H : Hp} {r : Rho} : ∀ {vs : List V} {ds : List PyData} (i : Nat), Rps H r vs ds → Rps H r (vs.eraseIdx i) (ds.eraseIdx i)
  | _, _, _, .nil => .nil
  | _, _, 0, .cons _ t => t
  | _, _, i + 1, .cons q t => .cons q (Rps.erase i t)
theorem Rps.reverse {H : Hp} {r : Rho} : ∀ {vs : List V} {ds : List PyData}, Rps H r vs ds → Rps H r vs.reverse ds.reverse
  | _, _, .nil => .nil
  | _, _, .cons h t => by
    rw [List.reverse_cons, List.reverse_cons]
    exact Rps.append (Rps.reverse t) (.cons h .nil)
theorem Rps.rep {H : Hp} {r : Rho} {vs : List V} {ds : List PyData} (h : Rps H r vs ds) : ∀ k : Nat, Rps H r (List.replicate k vs).flatten (List.replicate k ds).flatten
  | 0 => .nil
  | k + 1 => by
    rw [List.replicate_succ, List.replicate_succ, List.flatten_cons, List.flatten_cons]
    exact h.append (h.rep k)
mutual
theorem Rp.dp {K : PySem.W.Frag} {H : Hp} {r : Rho} : ∀ {v : V} {d : PyData}, Rp H r v d → d.canLay0 = true → Dp K H v d
  | _, _, .non, _ => .non
  | _, _, .bl b, _ => .bl b
  | _, _, .int i, _ => .int i
  | _, _, .str x, _ => .str x
  | _, _, .lst h _ t, k => .lst (.inl (.inl h)) (Rps.dp t (by simpa only [PyData.canLay0] using k))
  | _, _, .tup h _ t, k => .tup h.sq (Rps.dp t (by simpa only [PyData.canLay0] using k))
  | _, _, .dic _ _ _ _, k => by simp [PyData.canLay0] at k
theorem Rps.dp {K : PySem.W.Frag} {H : Hp} {r : Rho} : ∀ {vs : List V} {ds : List PyData}, Rps H r vs ds → PyData.canLayAll0 ds = true → DpAll K H vs ds
  | _, _, .nil, _ => .nil
  | _, _, .cons h t, k => by
    simp only [PyData.canLayAll0, Bool.and_eq_true] at k
    exact .cons (Rp.dp h k.1) (Rps.dp t k.2)
end
theorem Rps.ints {H : Hp} {r : Rho} : ∀ {vs : List V} {ds : List PyData} {ns : List Int}, Rps H r vs ds → intsOf ds = some ns → vs = ns.map V.int
  | _, _, _, .nil, e => by cases e; rfl
  | _, _, ns, .cons (d := .int i) (.int _) t, e => by
    simp only [intsOf, Option.map_eq_some_iff] at e
    obtain ⟨ms, e1, rfl⟩ := e
    rw [List.map_cons, Rps.ints t e1]
  | _, _, _, .cons (d := .none) _ _, e => by simp [intsOf] at e
  | _, _, _, .cons (d := .bool _) _ _, e => by simp [intsOf] at e
  | _, _, _, .cons (d := .str _) _ _, e => by simp [intsOf] at e
  | _, _, _, .cons (d := .list _) _ _, e => by simp [intsOf] at e
  | _, _, _, .cons (d := .tuple _) _ _, e => by simp [intsOf] at e
  | _, _, _, .cons (d := .dict _) _ _, e => by simp [intsOf] at e
theorem Rps.bools {H : Hp} {r : Rho} : ∀ {vs : List V} {ds : List PyData} {ns : List Bool}, Rps H r vs ds → boolsOf ds = some ns → vs = ns.map V.bl
  | _, _, _, .nil, e => by cases e; rfl
  | _, _, ns, .cons (d := .bool i) (.bl _) t, e => by
    simp only [boolsOf, Option.map_eq_some_iff] at e
    obtain ⟨ms, e1, rfl⟩ := e
    rw [List.map_cons, Rps.bools t e1]
  | _, _, _, .cons (d := .none) _ _, e => by simp [boolsOf] at e
  | _, _, _, .cons (d := .int _) _ _, e => by simp [boolsOf] at e
  | _, _, _, .cons (d := .str _) _ _, e => by simp [boolsOf] at e
  | _, _, _, .cons (d := .list _) _ _, e => by simp [boolsOf] at e
  | _, _, _, .cons (d := .tuple _) _ _, e => by simp [boolsOf] at e
  | _, _, _, .cons (d := .dict _) _ _, e => by simp [boolsOf] at e
theorem rps_ints {H : Hp} {r : Rho} : ∀ ns : List Int, Rps H r (ns.map V.int) (ns.map PyData.int)
  | [] => .nil
  | n :: ns => .cons (.int n) (rps_ints ns)

/-- what stands at a cell -/
def CellR (H : Hp) (r : Rho) (a : Addr) : Cell → Prop
  | .lst xs => ∃ vs, H a = some (.lst vs) ∧ Rps H r vs xs
  | .dct kvs => ∃ ps : List (Key × V), H a = some (.dK ps) ∧ ps.map (fun p => kD p.1) = kvs.map (·.1) ∧ Rps H r (ps.map (·.2)) (kvs.map (·.2))
  | .gone => False
theorem CellR.map {H H' : Hp} {r r' : Rho} {a : Addr} {c : Cell} (h : CellR H r a c) (k : ∀ o, H a = some o → H' a = some o) (kv : ∀ vs ds, Rps H r vs ds → Rps H' r' vs ds) : CellR H' r' a c := by
  cases c with
  | lst xs => obtain ⟨vs, h1, h2⟩ := h; exact ⟨vs, k _ h1, kv _ _ h2⟩
  | dct kvs => obtain ⟨ps, h1, h2, h3⟩ := h; exact ⟨ps, k _ h1, h2, kv _ _ h3⟩
  | gone => exact h
theorem CellR.there {H : Hp} {r : Rho} {a : Addr} {c : Cell} (h : CellR H r a c) : ∃ o, H a = some o := by
  cases c with
  | lst xs => obtain ⟨vs, h1, _⟩ := h; exact ⟨_, h1⟩
  | dct kvs => obtain ⟨ps, h1, _⟩ := h; exact ⟨_, h1⟩
  | gone => exact h.elim
theorem CellR.ne_gone {H : Hp} {r : Rho} {a : Addr} {c : Cell} (h : CellR H r a c) : c ≠ .gone := fun e => by rw [e] at h; exact h
structure SR (S : Sto) (r : Rho) (H : Hp) : Prop where
  len : r.c.length = S.length
  inj : ∀ (i j : Nat) a, r.c[i]? = some (some a) → r.c[j]? = some (some a) → i = j
  cels : ∀ (n : Nat) c, S[n]? = some c → c ≠ .gone → ∃ a, r.c[n]? = some (some a) ∧ CellR H r a c
  trk : ∀ (n : Nat) a, r.c[n]? = some (some a) → ∃ c, S[n]? = some c ∧ c ≠ .gone
  prt : ∀ a, a ∈ r.p → H a ≠ none ∧ some a ∉ r.c
/-- the script: locked, or one of the module's own lists -/
def Scr (K : PySem.W.Frag) (H : Hp) (r : Rho) (a : Addr) (ns : List Int) : Prop :=
  (∃ o, H a = some (.frz o (.lst (ns.map V.int))) ∧ some a ∉ r.c) ∨ ∀ H', SqL K H' a (ns.map V.int)
def Rw (K : PySem.W.Frag) (H : Hp) (r : Rho) : W → V → Prop
  | .v d, x => Rp H r x d
  | .r n, x => n < r.c.length ∧ ∀ a, r.c[n]? = some (some a) → x = .ref a
  | .s ns, x => ∃ a, x = .ref a ∧ Scr K H r a ns
inductive Rws (K : PySem.W.Frag) (H : Hp) (r : Rho) : List W → List V → Prop
  | nil : Rws K H r [] []
  | cons {w : W} {v : V} {ws : List W} {vs : List V} : Rw K H r w v → Rws K H r ws vs → Rws K H r (w :: ws) (v :: vs)
def ER (K : PySem.W.Frag) (e : En) (s : L2.St) (H : Hp) (r : Rho) : Prop := e.length = s.length ∧ ∀ (i : Nat) w, lkup e i = some w → ∃ v, s[i]? = some (some v) ∧ Rw K H r w v
section
variable {K : PySem.W.Frag} {r r' : Rho} {H H' : Hp} {S S' : Sto}
theorem Scr.gr (g : Gr r H r' H') {a : Addr} {ns : List Int} (h : Scr K H r a ns) : Scr K H' r' a ns := by
  rcases h with ⟨o, h, k⟩ | h
  · exact .inl ⟨o, (g.keep a _ h k).1, (g.keep a _ h k).2⟩
  · exact .inr h
theorem Scr.sq {a : Addr} {ns : List Int} (h : Scr K H r a ns) : SqL K H a (ns.map V.int) := by
  rcases h with ⟨o, h, k⟩ | h
  · exact .inl (.inr ⟨o, h⟩)
  · exact h H
theorem Rw.gr (g : Gr r H r' H') : ∀ {w : W} {v : V}, Rw K H r w v → Rw K H' r' w v
  | .v _, _, h => Rp.gr g h
  | .r n, _, h => ⟨Nat.lt_of_lt_of_le h.1 g.len, fun a e => h.2 a (g.old n a h.1 e)⟩
  | .s ns, _, h => let ⟨a, e, k⟩ := h; ⟨a, e, k.gr g⟩
theorem Rws.gr (g : Gr r H r' H') : ∀ {ws : List W} {vs : List V}, Rws K H r ws vs → Rws K H' r' ws vs
  | _, _, .nil => .nil
  | _, _, .cons h t => .cons (h.gr g) (Rws.gr g t)
theorem Rws.length : ∀ {ws : List W} {vs : List V}, Rws K H r ws vs → ws.length = vs.length
  | _, _, .nil => rfl
  | _, _, .cons _ t => congrArg (· + 1) (Rws.length t)
theorem ER.gr {e : En} {s : L2.St} (g : Gr r H r' H') (h : ER K e s H r) : ER K e s H' r' :=
  ⟨h.1, fun i w q => let ⟨v, h1, h2⟩ := h.2 i w q; ⟨v, h1, h2.gr g⟩⟩
theorem SR.cel (h : SR S r H) (n : Nat) (xs : List PyData) (e : S[n]? = some (.lst xs)) : ∃ a vs, r.c[n]? = some (some a) ∧ H a = some (.lst vs) ∧ Rps H r vs xs := by
  obtain ⟨a, h1, vs, h2, h3⟩ := h.cels n _ e (fun e => nomatch e)
  exact ⟨a, vs, h1, h2, h3⟩
theorem SR.dic (h : SR S r H) (n : Nat) (kvs : List (PyData × PyData)) (e : S[n]? = some (.dct kvs)) : ∃ a, ∃ ps : List (Key × V), r.c[n]? = some (some a) ∧ H a = some (.dK ps) ∧ ps.map (fun p => kD p.1) = kvs.map (·.1) ∧ Rps H r (ps.map (·.2)) (kvs.map (·.2)) := by
  obtain ⟨a, h1, ps, h2, h3, h4⟩ := h.cels n _ e (fun e => nomatch e)
  exact ⟨a, ps, h1, h2, h3, h4⟩
theorem SR.cell_none (h : SR S r H) {p : Addr} (hp : H p = none) : some p ∉ r.c := fun hm => by
  obtain ⟨n, hn⟩ := List.mem_iff_getElem?.mp hm
  obtain ⟨c, e, ec⟩ := h.trk n p hn
  obtain ⟨a, e1, e2⟩ := h.cels n c e ec
  rw [hn] at e1
  cases e1
  obtain ⟨o, e3⟩ := e2.there
  rw [hp] at e3
  cases e3
theorem SR.none_of (h : SR S r H) {p : Addr} (hp : H p = none) : r.No p := ⟨h.cell_none hp, fun hm => (h.prt p hm).1 hp⟩
theorem look_some {n : Nat} {xs : List PyData} (h : look S n = some xs) : S[n]? = some (.lst xs) := by
  unfold look at h
  split at h
  · next h1 => cases h; exact h1
  · cases h
theorem lookK_some {n : Nat} {xs : List (PyData × PyData)} (h : lookK S n = some xs) : S[n]? = some (.dct xs) := by
  unfold lookK at h
  split at h
  · next h1 => cases h; exact h1
  · cases h
theorem gr_same (k : ∀ a o, H a = some o → H' a = some o) : Gr r H r H' := ⟨fun a o q z => ⟨k a o q, z⟩, Nat.le_refl _, fun _ _ _ q => q, rfl⟩
/-- a new thing that is no cell -/
theorem Gr.upd_new {p : Addr} {o : HO} (h : SR S r H) (hp : H p = none) : Gr r H r (upd H p o) :=
  gr_same fun a u e => by rw [upd_ne (ne_of_none e hp)]; exact e
theorem SR.of_same (h : SR S r H) (k : ∀ a o, H a = some o → H' a = some o) : SR S r H' := by
  refine ⟨h.len, h.inj, fun n c e ec => ?_, h.trk, fun a m => ⟨fun z => ?_, (h.prt a m).2⟩⟩
  · obtain ⟨a, e1, e2⟩ := h.cels n c e ec
    exact ⟨a, e1, e2.map (k a) fun vs ds q => q.gr (gr_same k)⟩
  · cases q : H a with
    | none => exact (h.prt a m).1 q
    | some o =>
      rw [k a o q] at z
      cases z
theorem SR.upd_new {p : Addr} {o : HO} (h : SR S r H) (hp : H p = none) : SR S r (upd H p o) :=
  h.of_same fun a u e => by rw [upd_ne (ne_of_none e hp)]; exact e
/-- a new list that is a cell -/
theorem gr_cell {p : Addr} {o : HO} (h : SR S r H) (hp : H p = none) : Gr r H (r.add p) (upd H p o) := by
  refine ⟨fun a u e k => ⟨by rw [upd_ne (ne_of_none e hp)]; exact e, ?_⟩, by show r.c.length ≤ (r.c ++ [some p]).length; simp, fun n a hn e => ?_, rfl⟩
  · show some a ∉ r.c ++ [some p]
    simp only [List.mem_append, List.mem_singleton, Option.some.injEq, not_or]
    exact ⟨k, ne_of_none e hp⟩
  · have e' : (r.c ++ [some p])[n]? = some (some a) := e
    rw [List.getElem?_append_left hn] at e'
    exact e'
theorem last_cell {l : List (Option Addr)} {p a : Addr} {n : Nat} (e : (l ++ [some p])[n]? = some (some a)) : l[n]? = some (some a) ∨ (n = l.length ∧ a = p) := by
  by_cases hn : n < l.length
  · rw [List.getElem?_append_left hn] at e
    exact .inl e
  · rw [List.getElem?_append_right (by omega)] at e
    cases hk : n - l.length with
    | zero =>
      rw [hk] at e
      exact .inr ⟨by omega, by simpa using e.symm⟩
    | succ k =>
      rw [hk] at e
      simp at e
theorem SR.cellC {p : Addr} {o : HO} {c : Cell} (h : SR S r H) (hp : H p = none) (hx : CellR (upd H p o) (r.add p) p c) : SR (S ++ [c]) (r.add p) (upd H p o) := by
  have g : Gr r H (r.add p) (upd H p o) := gr_cell h hp
  have hnp := h.cell_none hp
  have hl := h.len
  refine ⟨by show (r.c ++ [some p]).length = _; simp [hl], fun i j a e1 e2 => ?_, fun n ys e ec => ?_, fun n a e => ?_, fun a m => ⟨fun z => ?_, fun z => ?_⟩⟩
  · rcases last_cell e1 with q1 | ⟨q1, w1⟩
    · rcases last_cell e2 with q2 | ⟨q2, w2⟩
      · exact h.inj i j a q1 q2
      · rw [w2] at q1
        exact absurd (List.mem_of_getElem? q1) hnp
    · rcases last_cell e2 with q2 | ⟨q2, w2⟩
      · rw [w1] at q2
        exact absurd (List.mem_of_getElem? q2) hnp
      · omega
  · by_cases hn : n < S.length
    · rw [List.getElem?_append_left hn] at e
      obtain ⟨a, e1, e2⟩ := h.cels n ys e ec
      refine ⟨a, ?_, e2.map (fun o q => by rw [upd_ne (ne_of_none q hp)]; exact q) fun vs ds q => q.gr g⟩
      show (r.c ++ [some p])[n]? = _
      rw [List.getElem?_append_left (by rw [hl]; exact hn)]
      exact e1
    · rw [List.getElem?_append_right (by omega)] at e
      cases hk : n - S.length with
      | zero =>
        rw [hk] at e
        simp only [List.getElem?_cons_zero, Option.some.injEq] at e
        subst e
        refine ⟨p, ?_, hx⟩
        show (r.c ++ [some p])[n]? = _
        rw [List.getElem?_append_right (by rw [hl]; omega), hl, hk]
        rfl
      | succ k => rw [hk] at e; simp at e
  · rcases last_cell e with q | ⟨q, w⟩
    · obtain ⟨xs', q', qc⟩ := h.trk n a q
      exact ⟨xs', by rw [List.getElem?_append_left (List.getElem?_eq_some_iff.mp q').1]; exact q', qc⟩
    · exact ⟨c, by rw [List.getElem?_append_right (by omega), q, hl, Nat.sub_self]; rfl, hx.ne_gone⟩
  · by_cases e : a = p
    · rw [e, upd_same] at z
      cases z
    · rw [upd_ne e] at z
      exact (h.prt a m).1 z
  · rcases List.mem_append.mp z with z | z
    · exact (h.prt a m).2 z
    · have e : a = p := by simpa using z
      rw [e] at m
      exact (h.prt p m).1 hp
theorem SR.cell {p : Addr} {vs : List V} {xs : List PyData} (h : SR S r H) (hp : H p = none) (hx : Rps H r vs xs) : SR (S ++ [.lst xs]) (r.add p) (upd H p (.lst vs)) :=
  h.cellC hp ⟨vs, upd_same, hx.gr (gr_cell h hp)⟩
/-- a cell's list is changed -/
theorem gr_put {n : Nat} {a : Addr} {o' : HO} (e1 : r.c[n]? = some (some a)) : Gr r H r (upd H a o') :=
  ⟨fun b o q k => ⟨by rw [upd_ne (fun z => k (by rw [z]; exact List.mem_of_getElem? e1))]; exact q, k⟩, Nat.le_refl _, fun _ _ _ q => q, rfl⟩
theorem SR.putC {n : Nat} {a : Addr} {o : HO} {c : Cell} (h : SR S r H) (e1 : r.c[n]? = some (some a)) (hx : CellR (upd H a o) r a c) : SR (S.set n c) r (upd H a o) := by
  have g : Gr r H r (upd H a o) := gr_put e1
  refine ⟨by simp [h.len], h.inj, fun m ys e ec => ?_, fun m b e => ?_, fun b m => ⟨fun z => ?_, (h.prt b m).2⟩⟩
  · by_cases hm : n = m
    · subst hm
      by_cases hl : n < S.length
      · rw [List.getElem?_set_self hl] at e
        simp only [Option.some.injEq] at e
        subst e
        exact ⟨a, e1, hx⟩
      · rw [List.getElem?_eq_none (by simpa using hl)] at e
        cases e
    · rw [List.getElem?_set_ne hm] at e
      obtain ⟨b, q1, q2⟩ := h.cels m ys e ec
      refine ⟨b, q1, q2.map (fun o' q => ?_) fun vs ds q => q.gr g⟩
      rw [upd_ne (fun z => hm (h.inj n m a e1 (by rw [← z]; exact q1)))]
      exact q
  · by_cases hm : n = m
    · subst hm
      obtain ⟨ys, q, qc⟩ := h.trk n b e
      have hl : n < S.length := (List.getElem?_eq_some_iff.mp q).1
      exact ⟨c, by rw [List.getElem?_set_self hl], hx.ne_gone⟩
    · obtain ⟨ys, q, qc⟩ := h.trk m b e
      exact ⟨ys, by rw [List.getElem?_set_ne hm]; exact q, qc⟩
  · by_cases e : b = a
    · rw [e] at m
      exact (h.prt a m).2 (List.mem_of_getElem? e1)
    · rw [upd_ne e] at z
      exact (h.prt b m).1 z
theorem SR.put {n : Nat} {a : Addr} {vs : List V} {xs : List PyData} (h : SR S r H) (e1 : r.c[n]? = some (some a)) (hx : Rps H r vs xs) : SR (S.set n (.lst xs)) r (upd H a (.lst vs)) :=
  h.putC e1 ⟨vs, upd_same, hx.gr (gr_put e1)⟩
/-- a cell is none any more -/
theorem kill_at {n m : Nat} {b : Addr} (e : (r.kill n).c[m]? = some (some b)) : n ≠ m ∧ r.c[m]? = some (some b) := by
  have e' : (r.c.set n none)[m]? = some (some b) := e
  by_cases hm : n = m
  · subst hm
    by_cases hl : n < r.c.length
    · rw [List.getElem?_set_self hl] at e'
      cases e'
    · rw [List.getElem?_eq_none (by simpa using hl)] at e'
      cases e'
  · rw [List.getElem?_set_ne hm] at e'
    exact ⟨hm, e'⟩
theorem kill_mem {n : Nat} {b : Addr} (h : some b ∈ (r.kill n).c) : some b ∈ r.c := by
  obtain ⟨m, hm⟩ := List.mem_iff_getElem?.mp h
  exact List.mem_of_getElem? (kill_at hm).2
theorem gr_gone {n : Nat} : Gr r H (r.kill n) H :=
  ⟨fun b o q k => ⟨q, fun hm => k (kill_mem hm)⟩, by show r.c.length ≤ (r.c.set n none).length; simp, fun m b hm e => (kill_at e).2, rfl⟩
theorem SR.gone {n : Nat} (h : SR S r H) : SR (S.set n .gone) (r.kill n) H := by
  refine ⟨by show (r.c.set n none).length = _; simp [h.len], fun i j a e1 e2 => h.inj i j a (kill_at e1).2 (kill_at e2).2, fun m ys e ec => ?_, fun m b e => ?_, fun a m => ⟨(h.prt a m).1, fun z => (h.prt a m).2 (kill_mem z)⟩⟩
  · by_cases hm : n = m
    · subst hm
      by_cases hl : n < S.length
      · rw [List.getElem?_set_self hl] at e
        cases e
        exact absurd rfl ec
      · rw [List.getElem?_eq_none (by simpa using hl)] at e
        cases e
    · rw [List.getElem?_set_ne hm] at e
      obtain ⟨b, q1, q2⟩ := h.cels m ys e ec
      refine ⟨b, ?_, q2.map (fun _ q => q) fun vs ds q => q.gr gr_gone⟩
      show (r.c.set n none)[m]? = _
      rw [List.getElem?_set_ne hm]
      exact q1
  · obtain ⟨hm, e'⟩ := kill_at e
    obtain ⟨ys, q, qc⟩ := h.trk m b e'
    exact ⟨ys, by rw [List.getElem?_set_ne hm]; exact q, qc⟩
theorem SR.gone_val {n : Nat} {xs : List PyData} (h : SR S r H) (e : S[n]? = some (.lst xs)) : ∃ a, r.c[n]? = some (some a) ∧ Rp H (r.kill n) (.ref a) (.list xs) := by
  obtain ⟨a, vs, e1, e2, e3⟩ := h.cel n xs e
  refine ⟨a, e1, .lst e2 ⟨fun hm => ?_, fun hm => (h.prt a hm).2 (List.mem_of_getElem? e1)⟩ (e3.gr gr_gone)⟩
  obtain ⟨m, hm⟩ := List.mem_iff_getElem?.mp hm
  obtain ⟨k1, k2⟩ := kill_at hm
  exact k1 (h.inj n m a e1 k2)
/-- the cells from n on are dropped -/
theorem cut_at {n m : Nat} {b : Addr} (e : (r.cut n).c[m]? = some (some b)) : m < n ∧ r.c[m]? = some (some b) := by
  have e' : (r.c.take n)[m]? = some (some b) := e
  by_cases hm : m < n
  · rw [List.getElem?_take_of_lt hm] at e'
    exact ⟨hm, e'⟩
  · have hl : (r.c.take n).length ≤ m := by rw [List.length_take]; omega
    rw [List.getElem?_eq_none hl] at e'
    cases e'
theorem gr_take {n : Nat} (g : Gr r H r' H') (h : SR S r H) (hn : S.length = n) : Gr r H (r'.cut n) H' := by
  have hl := h.len
  refine ⟨fun a o e k => ⟨(g.keep a o e k).1, fun hm => (g.keep a o e k).2 (List.mem_of_mem_take hm)⟩, ?_, fun m a hm e => g.old m a hm (cut_at e).2, g.prt⟩
  have := g.len
  show r.c.length ≤ (r'.c.take n).length
  rw [List.length_take]
  omega
theorem Rho.No.cut {n : Nat} {a : Addr} (k : r.No a) : (r.cut n).No a := ⟨fun hm => k.1 (List.mem_of_mem_take hm), k.2⟩
mutual
theorem Rp.take {n : Nat} : ∀ {v : V} {d : PyData}, Rp H r v d → Rp H (r.cut n) v d
  | _, _, .non => .non
  | _, _, .bl b => .bl b
  | _, _, .int i => .int i
  | _, _, .str x => .str x
  | _, _, .lst h k t => .lst h k.cut (Rps.takeR t)
  | _, _, .tup h k t => .tup h k.cut (Rps.takeR t)
  | _, _, .dic h k e t => .dic h k.cut e (Rps.takeR t)
theorem Rps.takeR {n : Nat} : ∀ {vs : List V} {ds : List PyData}, Rps H r vs ds → Rps H (r.cut n) vs ds
  | _, _, .nil => .nil
  | _, _, .cons h t => .cons (Rp.take h) (Rps.takeR t)
end
theorem SR.take {n : Nat} (h : SR S r H) : SR (S.take n) (r.cut n) H := by
  refine ⟨by show (r.c.take n).length = _; rw [List.length_take, List.length_take, h.len], fun i j a e1 e2 => h.inj i j a (cut_at e1).2 (cut_at e2).2, fun m ys e ec => ?_, fun m b e => ?_, fun a m => ⟨(h.prt a m).1, fun z => (h.prt a m).2 (List.mem_of_mem_take z)⟩⟩
  · by_cases hm : m < n
    · rw [List.getElem?_take_of_lt hm] at e
      obtain ⟨b, q1, q2⟩ := h.cels m ys e ec
      refine ⟨b, ?_, q2.map (fun _ q => q) fun vs ds q => q.takeR⟩
      show (r.c.take n)[m]? = _
      rw [List.getElem?_take_of_lt hm]
      exact q1
    · have hl : (S.take n).length ≤ m := by rw [List.length_take]; omega
      rw [List.getElem?_eq_none hl] at e
      cases e
  · obtain ⟨hm, e'⟩ := cut_at e
    obtain ⟨ys, q, qc⟩ := h.trk m b e'
    exact ⟨ys, by rw [List.getElem?_take_of_lt hm]; exact q, qc⟩
theorem Rho.No.unhide {D a : Addr} (k : (r.hide D).No a) : r.No a := ⟨k.1, fun z => k.2 (List.mem_cons_of_mem _ z)⟩
theorem rd_ne {a D : Addr} {u : HO} (h : Rd H a u) (hD : H D = none) : a ≠ D := h.elim (fun e => ne_of_none e hD) fun ⟨o, e⟩ => ne_of_none e hD
theorem rd_upd {a D : Addr} {u o : HO} (hn : a ≠ D) (h : Rd H a u) : Rd (upd H D o) a u := h.elim (fun e => .inl (by rw [upd_ne hn]; exact e)) fun ⟨q, e⟩ => .inr ⟨q, by rw [upd_ne hn]; exact e⟩
mutual
theorem Rp.hide {D : Addr} (hD : H D = none) : ∀ {v : V} {d : PyData}, Rp H r v d → Rp H (r.hide D) v d
  | _, _, .non => .non
  | _, _, .bl b => .bl b
  | _, _, .int i => .int i
  | _, _, .str x => .str x
  | _, _, .lst h k t => .lst h ⟨k.1, fun z => (List.mem_cons.mp z).elim (fun e => ne_of_none h hD e) k.2⟩ (Rps.hide hD t)
  | _, _, .tup h k t => .tup h ⟨k.1, fun z => (List.mem_cons.mp z).elim (fun e => let ⟨_, _, h⟩ := h; ne_of_none h hD e) k.2⟩ (Rps.hide hD t)
  | _, _, .dic h k e t => .dic h ⟨k.1, fun z => (List.mem_cons.mp z).elim (fun e => rd_ne h hD e) k.2⟩ e (Rps.hide hD t)
theorem Rps.hide {D : Addr} (hD : H D = none) : ∀ {vs : List V} {ds : List PyData}, Rps H r vs ds → Rps H (r.hide D) vs ds
  | _, _, .nil => .nil
  | _, _, .cons h t => .cons (Rp.hide hD h) (Rps.hide hD t)
end
mutual
theorem Rp.unhide {D : Addr} : ∀ {v : V} {d : PyData}, Rp H (r.hide D) v d → Rp H r v d
  | _, _, .non => .non
  | _, _, .bl b => .bl b
  | _, _, .int i => .int i
  | _, _, .str x => .str x
  | _, _, .lst h k t => .lst h k.unhide (Rps.unhide t)
  | _, _, .tup h k t => .tup h k.unhide (Rps.unhide t)
  | _, _, .dic h k e t => .dic h k.unhide e (Rps.unhide t)
theorem Rps.unhide {D : Addr} : ∀ {vs : List V} {ds : List PyData}, Rps H (r.hide D) vs ds → Rps H r vs ds
  | _, _, .nil => .nil
  | _, _, .cons h t => .cons (Rp.unhide h) (Rps.unhide t)
end
mutual
theorem Rp.over {D : Addr} {o : HO} : ∀ {v : V} {d : PyData}, Rp H (r.hide D) v d → Rp (upd H D o) (r.hide D) v d
  | _, _, .non => .non
  | _, _, .bl b => .bl b
  | _, _, .int i => .int i
  | _, _, .str x => .str x
  | _, _, .lst (a := a) h k t => .lst (by rw [upd_ne (fun e => k.2 (by rw [e]; exact List.mem_cons_self))]; exact h) k (Rps.over t)
  | _, _, .tup (a := a) h k t => .tup (let ⟨u, d, e⟩ := h; ⟨u, d, by rw [upd_ne (fun e => k.2 (by rw [e]; exact List.mem_cons_self))]; exact e⟩) k (Rps.over t)
  | _, _, .dic (a := a) h k e t => .dic (rd_upd (fun e => k.2 (by rw [e]; exact List.mem_cons_self)) h) k e (Rps.over t)
theorem Rps.over {D : Addr} {o : HO} : ∀ {vs : List V} {ds : List PyData}, Rps H (r.hide D) vs ds → Rps (upd H D o) (r.hide D) vs ds
  | _, _, .nil => .nil
  | _, _, .cons h t => .cons (Rp.over h) (Rps.over t)
end
theorem SR.hide {D : Addr} {o : HO} (h : SR S r H) (hD : H D = none) : SR S (r.hide D) (upd H D o) := by
  refine ⟨h.len, h.inj, fun n xs e ec => ?_, h.trk, fun a m => ?_⟩
  · obtain ⟨a, e1, e2⟩ := h.cels n xs e ec
    exact ⟨a, e1, e2.map (fun o' q => by rw [upd_ne (ne_of_none q hD)]; exact q) fun vs ds q => (q.hide hD).over⟩
  · rcases List.mem_cons.mp m with e | m
    · refine ⟨fun z => ?_, by rw [e]; exact h.cell_none hD⟩
      rw [e, upd_same] at z
      cases z
    · refine ⟨fun z => ?_, (h.prt a m).2⟩
      by_cases e : a = D
      · rw [e, upd_same] at z
        cases z
      · rw [upd_ne e] at z
        exact (h.prt a m).1 z
theorem SR.over {D : Addr} {o : HO} (h : SR S (r.hide D) H) : SR S (r.hide D) (upd H D o) := by
  have hn := (h.prt D List.mem_cons_self).2
  refine ⟨h.len, h.inj, fun n xs e ec => ?_, h.trk, fun a m => ⟨fun z => ?_, (h.prt a m).2⟩⟩
  · obtain ⟨a, e1, e2⟩ := h.cels n xs e ec
    exact ⟨a, e1, e2.map (fun o' q => by rw [upd_ne (fun e => hn (by rw [← e]; exact List.mem_of_getElem? e1))]; exact q) fun vs ds q => q.over⟩
  · by_cases e : a = D
    · rw [e, upd_same] at z
      cases z
    · rw [upd_ne e] at z
      exact (h.prt a m).1 z
theorem SR.unhide {D : Addr} (h : SR S (r.hide D) H) : SR S r H :=
  ⟨h.len, h.inj, fun n xs e ec => let ⟨a, e1, e2⟩ := h.cels n xs e ec; ⟨a, e1, e2.map (fun _ q => q) fun vs ds q => q.unhide⟩, h.trk, fun a m => h.prt a (List.mem_cons_of_mem _ m)⟩
end
end Pl


namespace Pl
open PySem PySem.Spec PyProof.Rows L2
/-- behind an operation that changes no cell: the value z -/
def Pst (r : Rho) (H : Hp) (z : PyData) (Q : VK) : Prop := ∀ v H', (∀ a o, H a = some o → H' a = some o) → Rp H' r v z → Q v H'
section
variable {X : Cx} {pins : List (Addr × Obj)} {σ : L2.St} {H : Hp} {s : Shared} {r : Rho} {S : Sto} {Q : VK}
theorem Pst.flat {v : V} {z : PyData} (h : Pst r H z Q) (k : Rp H r v z) : Q v H := h v H (fun _ _ e => e) k
theorem Pst.new {p : Addr} {o : HO} {v : V} {z : PyData} (h : Pst r H z Q) (hp : H p = none) (k : Rp (upd H p o) r v z) : Q v (upd H p o) :=
  h v _ (fun a u e => by rw [upd_ne (ne_of_none e hp)]; exact e) k
theorem Rps.upd {p : Addr} {o : HO} {vs : List V} {ds : List PyData} (hp : H p = none) (h : Rps H r vs ds) : Rps (L2.upd H p o) r vs ds :=
  h.gr (gr_same fun a u e => by rw [upd_ne (ne_of_none e hp)]; exact e)
theorem Pst.lst (h : SR S r H) {p : Addr} {vs : List V} {ds : List PyData} (k : Pst r H (.list ds) Q) (hp : H p = none) (hv : Rps H r vs ds) : Q (.ref p) (L2.upd H p (.lst vs)) :=
  k.new hp (.lst upd_same (h.none_of hp) (hv.upd hp))
/-- the object of a new tuple -/
def tob (its : List Value) : Obj := { cls := .type "tuple", data := .seq its.toArray }
theorem Pst.tup (h : SR S r H) {p : Addr} {vs : List V} {ds : List PyData} {its : List Value} (k : Pst r H (.tuple ds) Q) (hp : H p = none) (hv : Rps H r vs ds) : Q (.ref p) (L2.upd H p (.frz (tob its) (.tup vs))) :=
  k.new hp (.tup ⟨tob its, rfl, upd_same⟩ (h.none_of hp) (hv.upd hp))
theorem laidT (I : Inv X pins σ H s) {xs : List V} {its : List Value} (rv : Vals xs its) (hz : xs.length ≤ sizeLine) (t : Nat) :
    Inv X pins σ (L2.upd H s.heap.objs.size (.frz (tob its) (.tup xs))) { s with heap := s.heap.push (tob its), toks := t } :=
  I.laid (fun c o e => Heap.get?_push_of_some _ e) (Nat.le_refl _) ⟨Heap.get?_push_size _ rfl, hz, its, rv, ⟨_, Heap.get?_push_size _ rfl, rfl, 0, rfl⟩⟩
/-- .. where the wish is of the tuple -/
theorem endT (hS : SR S r H) (I : Inv X pins σ H s) {xs : List V} {ds : List PyData} {its : List Value} (rv : Vals xs its) (hz : xs.length ≤ sizeLine) (t : Nat) (q : Pst r H (.tuple ds) Q) (hv : Rps H r xs ds) :
    EP X pins σ Q (.ref s.heap.objs.size) { s with heap := s.heap.push (tob its), toks := t } :=
  ⟨.ref s.heap.objs.size, _, laidT I rv hz t, rfl, q.tup hS (I.hok.fresh (Nat.le_refl _)) hv⟩
/-- a list that may be read, in the machine's heap -/
theorem rd_list (I : Inv X pins σ H s) {a : Addr} {xs : List V} (h : H a = some (.lst xs)) : xs.length ≤ sizeLine ∧ ∃ (its : List Value) (n : Nat), Vals xs its ∧ s.heap.get? a = some { cls := .type "list", data := .seq its.toArray n } :=
  I.hok a _ h
theorem lim_line : lim ≤ sizeLine := by rw [sizeLine_eq]; decide

/-- data that may be read at a value: the list on top may be a cell -/
def Rq (H : Hp) (r : Rho) (v : V) : PyData → Prop
  | .list ds => ∃ a vs, v = .ref a ∧ H a = some (.lst vs) ∧ Rps H r vs ds
  | .dict ds => ∃ a, ∃ kvs : List (Key × V), v = .ref a ∧ Rd H a (.dK kvs) ∧ kvs.map (fun p => kD p.1) = ds.map (·.1) ∧ Rps H r (kvs.map (·.2)) (ds.map (·.2))
  | d => Rp H r v d
theorem Rp.rq {v : V} {d : PyData} (h : Rp H r v d) : Rq H r v d := by
  cases h with
  | non => exact .non
  | bl b => exact .bl b
  | int i => exact .int i
  | str x => exact .str x
  | lst h k t => exact ⟨_, _, rfl, h, t⟩
  | tup h1 k t => exact Rp.tup h1 k t
  | dic h1 k e t => exact ⟨_, _, rfl, h1, e, t⟩
theorem Rq.dp {K : PySem.W.Frag} {v : V} {d : PyData} (h : Rq H r v d) (l : d.canLay0 = true) : Dp K H v d := by
  cases d with
  | list ds =>
    obtain ⟨a, vs, rfl, h1, h2⟩ := h
    exact .lst (.inl (.inl h1)) (h2.dp (by simpa only [PyData.canLay0] using l))
  | none => exact Rp.dp (show Rp H r v .none from h) l
  | bool b => exact Rp.dp (show Rp H r v (.bool b) from h) l
  | int b => exact Rp.dp (show Rp H r v (.int b) from h) l
  | str b => exact Rp.dp (show Rp H r v (.str b) from h) l
  | tuple b => exact Rp.dp (show Rp H r v (.tuple b) from h) l
  | dict b => simp [PyData.canLay0] at l
theorem rp_int {v : V} {i : Int} (h : Rq H r v (.int i)) : v = .int i := by
  cases (show Rp H r v (.int i) from h)
  rfl
theorem rp_str {v : V} {i : Str} (h : Rq H r v (.str i)) : v = .str i := by
  cases (show Rp H r v (.str i) from h)
  rfl
theorem rp_bool {v : V} {i : Bool} (h : Rq H r v (.bool i)) : v = .bl i := by
  cases (show Rp H r v (.bool i) from h)
  rfl
theorem rp_none {v : V} (h : Rq H r v .none) : v = .non := by
  cases (show Rp H r v .none from h)
  rfl
theorem rp_list {v : V} {ds : List PyData} (h : Rq H r v (.list ds)) : ∃ a vs, v = .ref a ∧ H a = some (.lst vs) ∧ Rps H r vs ds := h
theorem rp_dic {v : V} {ds : List (PyData × PyData)} (h : Rq H r v (.dict ds)) : ∃ a, ∃ kvs : List (Key × V), v = .ref a ∧ Rd H a (.dK kvs) ∧ kvs.map (fun p => kD p.1) = ds.map (·.1) ∧ Rps H r (kvs.map (·.2)) (ds.map (·.2)) := h
theorem rp_tup {v : V} {ds : List PyData} (h : Rq H r v (.tuple ds)) : ∃ a vs, v = .ref a ∧ Ft H a vs ∧ r.No a ∧ Rps H r vs ds := by
  cases (show Rp H r v (.tuple ds) from h) with
  | tup h1 k t => exact ⟨_, _, rfl, h1, k, t⟩
/-- readable data, one a value -/
inductive Rqs (H : Hp) (r : Rho) : List V → List PyData → Prop
  | nil : Rqs H r [] []
  | cons {v : V} {vs : List V} {d : PyData} {ds : List PyData} : Rq H r v d → Rqs H r vs ds → Rqs H r (v :: vs) (d :: ds)

def opB : Bo → Operator
  | .add => .Add
  | .sub => .Sub
  | .mul => .Mult
  | .fdv => .FloorDiv
  | .mod => .Mod
  | .pow => .Pow
def rBo (op : Bo) : R2 := fun x y H Q => ∃ r S d e z, SR S r H ∧ Rq H r x d ∧ Rq H r y e ∧ boD op d e = some z ∧ Pst r H z Q
theorem cat_lists (hS : SR S r H) {a b : Addr} {xs ys : List V} {ds es : List PyData} {v u : Value} (I : Inv X pins σ H s) (ra : RelV (.ref a) v) (rb : RelV (.ref b) u) (ha : H a = some (.lst xs)) (hb : H b = some (.lst ys)) (hx : Rps H r xs ds) (hy : Rps H r ys es)
    (hz : xs.length + ys.length ≤ sizeLine) (q : Pst r H (.list (ds ++ es)) Q) : wpAny (model X.prog X.w) X.A (binaryOp .Add v u) (EP X pins σ Q) X.xe s := by
  cases ra
  cases rb
  obtain ⟨_, its, n, r1, e1⟩ := rd_list I ha
  obtain ⟨_, its2, n2, r2, e2⟩ := rd_list I hb
  have l1 := r1.length
  have l2 := r2.length
  refine PySem.P.add_list e1 e2 ?_ (by rw [List.size_toArray, List.size_toArray]; omega)
  have ea : its.toArray ++ its2.toArray = (its ++ its2).toArray := by simp
  rw [ea]
  refine ⟨.ref s.heap.objs.size, L2.upd H s.heap.objs.size (.lst (xs ++ ys)), I.laid (t' := s.toks) (fun c o e => Heap.get?_push_of_some _ e) (Nat.le_refl _) ?_, rfl, q.lst hS I.fresh (hx.append hy)⟩
  exact ⟨by rw [List.length_append]; exact hz, _, 0, r1.append r2, Heap.get?_push_size _ rfl⟩
theorem tuple_mul_one (l : Addr) (items : Array Value) (n : Nat) (dd : Option Addr) (sl : Array (Option Value)) (x : Int) (u : Tok) (c0 : (decide (x < -(2 ^ 63)) || decide (x ≥ 2 ^ 63)) = false) (c1 : (items.isEmpty || x == 1) = true) :
    Meets (Builtin.«tuple.__mul__» ⟨[.ref l, .int x u], []⟩) (fun _ R s => s.heap.get? l = some { cls := .type "tuple", dict := dd, data := .seq items n, slots := sl } ∧ R (.ok (.ret (Value.ref l))) s) :=
  .of_wp fun prog w A R s h => by
    obtain ⟨hp, g, d, tk, os⟩ := s
    obtain ⟨hl, h⟩ := h
    have f1 := AutoSeq1.idx_int
    wp_walk using wpAny_loadPart' hl
    repeat (first
      | (refine wpAny_ite_false (decide_eq_false (by rw [c0]; exact Bool.false_ne_true)) ?_; wp_walk using wpAny_loadPart' hl)
      | (refine wpAny_ite_true (decide_eq_true c1) ?_; wp_walk using wpAny_loadPart' hl))
    all_goals exact ⟨_, rfl, h⟩
theorem tuple_mul_none (l : Addr) (items : Array Value) (n : Nat) (dd : Option Addr) (sl : Array (Option Value)) (x : Int) (u : Tok) (c0 : (decide (x < -(2 ^ 63)) || decide (x ≥ 2 ^ 63)) = false) (c1 : (items.isEmpty || x == 1) = false)
    (c2 : (decide (x ≤ 0) || items.isEmpty) = true) :
    Meets (Builtin.«tuple.__mul__» ⟨[.ref l, .int x u], []⟩) (fun _ R s => s.heap.get? l = some { cls := .type "tuple", dict := dd, data := .seq items n, slots := sl } ∧
      R (.ok (.ret (Value.ref s.heap.objs.size))) { s with heap := s.heap.push { cls := Value.type "tuple", data := Data.seq #[] }, toks := s.toks }) :=
  .of_wp fun prog w A R s h => by
    obtain ⟨hp, g, d, tk, os⟩ := s
    obtain ⟨hl, h⟩ := h
    have f1 := AutoSeq1.idx_int
    wp_walk using wpAny_loadPart' hl
    repeat (first
      | (refine wpAny_ite_false (decide_eq_false (by rw [c0]; exact Bool.false_ne_true)) ?_; wp_walk using wpAny_loadPart' hl)
      | (refine wpAny_ite_false (decide_eq_false (by rw [c1]; exact Bool.false_ne_true)) ?_; wp_walk using wpAny_loadPart' hl)
      | (refine wpAny_ite_true (decide_eq_true c2) ?_; wp_walk using wpAny_loadPart' hl))
    all_goals exact ⟨_, rfl, h⟩
theorem mul_tuple (hS : SR S r H) {a : Addr} {k : Int} {xs : List V} {ds : List PyData} {v u : Value} (I : Inv X pins σ H s) (ra : RelV (.ref a) v) (rb : RelV (.int k) u) (ha : Ft H a xs) (hn : r.No a) (hx : Rps H r xs ds)
    (h1 : k ≤ 1000) (h0 : -(2 ^ 63) ≤ k) (hl : xs.length ≤ 1000) (q : Pst r H (.tuple (List.replicate k.toNat ds).flatten) Q) : wpAny (model X.prog X.w) X.A (binaryOp .Mult v u) (EP X pins σ Q) X.xe s := by
  cases ra
  obtain ⟨t, rfl⟩ := rb
  obtain ⟨its, rv, ⟨⟨cls, dd, data, sl⟩, ho, hc, n, hd⟩, hs⟩ := I.tuple ha.sq
  simp only at hc hd
  subst hc hd
  have hle := rv.length
  have c0 : (decide (k < -(2 ^ 63)) || decide (k ≥ 2 ^ 63)) = false := by
    rw [decide_eq_false (by omega), decide_eq_false (by omega)]
    rfl
  by_cases hb : xs ≠ [] ∧ 2 ≤ k
  · have hi : its.toArray.isEmpty = false := by
      cases its with
      | nil => exact absurd (List.eq_nil_of_length_eq_zero hle) hb.1
      | cons a b => rfl
    have hm : ((its.toArray.size : Nat) : Int) * k ≤ 1000 * 1000 := by
      rw [List.size_toArray, ← hle]
      exact Int.mul_le_mul (by omega) h1 (by omega) (by decide)
    have fl : (List.replicate k.toNat xs).flatten.length ≤ sizeLine := by
      rw [PyProof.Rows.lm_len_rep_flat, sizeLine_eq]
      exact Nat.le_trans (Nat.mul_le_mul (show k.toNat ≤ 1000 by omega) hl) (by decide)
    have fl2 : (List.replicate k.toNat its).flatten.length ≤ sizeLine := by
      rw [PyProof.Rows.lm_len_rep_flat, ← hle, ← PyProof.Rows.lm_len_rep_flat]
      exact fl
    have c1 : (its.toArray.isEmpty || k == 1) = false := by
      rw [hi, Bool.false_or]
      exact beq_eq_false_iff_ne.mpr (by omega)
    have c2 : (decide (k ≤ 0) || its.toArray.isEmpty) = false := by
      rw [hi, Bool.or_false]
      exact decide_eq_false (by omega)
    have c4 : Builtin.Tuple.tupleTooMany (((its.toArray.size : Nat) : Int) * k) = false := by
      unfold Builtin.Tuple.tupleTooMany
      rw [sizeLine_eq]
      exact decide_eq_false (by omega)
    refine wpAny_binaryOp_repeat_ref (T := "tuple") (U := "int") (by decide) ⟨_, ho, rfl⟩ (fun s' => typeIs_int s' k t) noFill_tuple_mul F.fills_int_mul F.slot_int_rmul repeat_tuple F.slot_int_index.lookup
      (call_meets F.slot_int_rmul (typeIs_int s k t) F.entry_int_rmul (F.args_int_rmul_2 _ _) (int_rmul_tuple k t a its.toArray n dd sl)
        ⟨ho, rfl, ⟨_, ho, rfl⟩, call_meets F.slot_tuple_mul ⟨_, ho, rfl⟩ F.entry_tuple_mul (F.args_tuple_mul_2 _ _)
          (tuple_mulW a its.toArray n dd sl k t c0 c1 c2 (by omega) c4 (by rw [size_rep, List.size_toArray]; exact fl2)) ⟨ho, ?_⟩⟩)
    rw [size_rep]
    exact endT hS I (rv.rep k.toNat) fl _ q (hx.rep k.toNat)
  by_cases h3 : xs = [] ∨ k = 1
  · have c1 : (its.toArray.isEmpty || k == 1) = true := by
      rcases h3 with z | z
      · subst z
        cases rv
        rfl
      · rw [z]
        simp
    refine wpAny_binaryOp_repeat_ref (T := "tuple") (U := "int") (by decide) ⟨_, ho, rfl⟩ (fun s' => typeIs_int s' k t) noFill_tuple_mul F.fills_int_mul F.slot_int_rmul repeat_tuple F.slot_int_index.lookup
      (call_meets F.slot_int_rmul (typeIs_int s k t) F.entry_int_rmul (F.args_int_rmul_2 _ _) (int_rmul_tuple k t a its.toArray n dd sl)
        ⟨ho, rfl, ⟨_, ho, rfl⟩, call_meets F.slot_tuple_mul ⟨_, ho, rfl⟩ F.entry_tuple_mul (F.args_tuple_mul_2 _ _) (tuple_mul_one a its.toArray n dd sl k t c0 c1) ⟨ho, ?_⟩⟩)
    refine ⟨.ref a, H, I, rfl, q.flat (.tup ha hn ?_)⟩
    rcases h3 with z | z
    · subst z
      cases hx
      have e0 : ∀ m : Nat, (List.replicate m ([] : List PyData)).flatten = [] := fun m => by induction m with
        | zero => rfl
        | succ m ih => rw [List.replicate_succ, List.flatten_cons, ih]; rfl
      rw [e0]
      exact .nil
    · subst z
      have e1 : (List.replicate (1 : Int).toNat ds).flatten = ds := by
        show (List.replicate 1 ds).flatten = ds
        simp
      rw [e1]
      exact hx
  · have hne : xs ≠ [] := fun z => h3 (.inl z)
    have hk : k ≤ 0 := by
      have : ¬ 2 ≤ k := fun z => hb ⟨hne, z⟩
      have : k ≠ 1 := fun z => h3 (.inr z)
      omega
    have hi : its.toArray.isEmpty = false := by
      cases its with
      | nil => exact absurd (List.eq_nil_of_length_eq_zero hle) hne
      | cons a b => rfl
    have c1 : (its.toArray.isEmpty || k == 1) = false := by
      rw [hi, Bool.false_or]
      exact beq_eq_false_iff_ne.mpr (by omega)
    have c2 : (decide (k ≤ 0) || its.toArray.isEmpty) = true := by
      rw [decide_eq_true hk]
      rfl
    refine wpAny_binaryOp_repeat_ref (T := "tuple") (U := "int") (by decide) ⟨_, ho, rfl⟩ (fun s' => typeIs_int s' k t) noFill_tuple_mul F.fills_int_mul F.slot_int_rmul repeat_tuple F.slot_int_index.lookup
      (call_meets F.slot_int_rmul (typeIs_int s k t) F.entry_int_rmul (F.args_int_rmul_2 _ _) (int_rmul_tuple k t a its.toArray n dd sl)
        ⟨ho, rfl, ⟨_, ho, rfl⟩, call_meets F.slot_tuple_mul ⟨_, ho, rfl⟩ F.entry_tuple_mul (F.args_tuple_mul_2 _ _) (tuple_mul_none a its.toArray n dd sl k t c0 c1 c2) ⟨ho, ?_⟩⟩)
    have e1 : (List.replicate k.toNat ds).flatten = [] := by
      have : k.toNat = 0 := by omega
      rw [this]
      rfl
    rw [e1] at q
    exact endT hS I (xs := []) (its := []) .nil (Nat.zero_le _) _ q .nil
end
end Pl


namespace Pl
open PySem PySem.Spec PyProof.Rows L2
section
variable {X : Cx} {pins : List (Addr × Obj)} {σ : L2.St} {H : Hp} {s : Shared} {r : Rho} {S : Sto} {Q : VK}
theorem op_bo (op : Bo) : OpR X (binaryOp (opB op)) (rBo op) := by
  intro pins s σ H x y v u Q I rx ry h
  obtain ⟨r, S, d, e, z, hS, hd, he, hz, q⟩ := h
  unfold boD at hz
  split at hz
  · cases hz
    cases rp_int hd
    cases rp_int he
    exact op_add pins s σ H _ _ v u Q I rx ry ⟨_, _, rfl, rfl, q.flat (.int _)⟩
  · split at hz
    · cases hz
      cases rp_str hd
      cases rp_str he
      exact op_add_str pins s σ H _ _ v u Q I rx ry ⟨_, _, rfl, rfl, Nat.le_trans (by assumption) lim_line, q.flat (.str _)⟩
    · cases hz
  · split at hz
    · next hl =>
      cases hz
      obtain ⟨a, vs, rfl, ha, na, hv⟩ := rp_tup hd
      obtain ⟨b, ws, rfl, hb, nb, hw⟩ := rp_tup he
      rw [← hv.length, ← hw.length] at hl
      cases rx
      cases ry
      obtain ⟨its, r1, p1, _⟩ := I.tuple ha.sq
      obtain ⟨its2, r2, p2, _⟩ := I.tuple hb.sq
      by_cases e : vs = []
      · subst e
        cases hv
        cases r1
        exact cat_tup0 p1 p2 ⟨.ref b, H, I, rfl, q.flat (.tup hb nb hw)⟩
      · refine HT.cat_tup p1 p2 (fun z => e (r1.nil_iff.mp z)) (fun z => ?_) (fun z => ?_) (by rw [← r1.length, ← r2.length]; exact Nat.le_trans hl lim_line)
        · have e2 := r2.nil_iff.mp z
          subst e2
          cases hw
          rw [List.append_nil] at q
          exact ⟨.ref a, H, I, rfl, q.flat (.tup ha na hv)⟩
        · exact endT hS I (r1.append r2) (by rw [List.length_append]; exact Nat.le_trans hl lim_line) _ q (hv.append hw)
    · cases hz
  · split at hz
    · next hl =>
      cases hz
      obtain ⟨a, vs, rfl, ha, hv⟩ := rp_list hd
      obtain ⟨b, ws, rfl, hb, hw⟩ := rp_list he
      rw [← hv.length, ← hw.length] at hl
      exact cat_lists hS I rx ry ha hb hv hw (Nat.le_trans hl lim_line) q
    · cases hz
  · cases hz
    cases rp_int hd
    cases rp_int he
    exact op_sub pins s σ H _ _ v u Q I rx ry ⟨_, _, rfl, rfl, q.flat (.int _)⟩
  · split at hz
    · next hc =>
      cases hz
      cases rp_int hd
      cases rp_int he
      exact op_mul pins s σ H _ _ v u Q I rx ry ⟨_, _, rfl, rfl, hc, q.flat (.int _)⟩
    · cases hz
  · split at hz
    · next hc =>
      cases hz
      cases rp_int he
      obtain ⟨a, vs, rfl, ha, na, hv⟩ := rp_tup hd
      rw [← hv.length] at hc
      exact mul_tuple hS I rx ry ha na hv hc.2.1 (by omega) hc.2.2 q
    · cases hz
  · split at hz
    · next hc =>
      cases hz
      cases rp_int he
      obtain ⟨a, vs, rfl, ha, hv⟩ := rp_list hd
      rw [← hv.length] at hc
      refine op_rep pins s σ H _ _ v u Q I rx ry ⟨a, _, vs, rfl, rfl, ha, by omega, by omega, ?_, fun p hp => q.lst hS hp (hv.rep _)⟩
      rw [sizeLine_eq]
      refine Nat.le_trans (Nat.mul_le_mul hc.2.2 (show Int.toNat _ ≤ 1000 by have := hc.2.1; omega)) (by decide)
    · cases hz
  · split at hz
    · next hc =>
      cases hz
      cases rp_int hd
      cases rp_int he
      exact op_fdiv pins s σ H _ _ v u Q I rx ry ⟨_, _, rfl, rfl, hc, q.flat (.int _)⟩
    · cases hz
  · split at hz
    · next hc =>
      cases hz
      cases rp_int hd
      cases rp_int he
      exact op_mod pins s σ H _ _ v u Q I rx ry ⟨_, _, rfl, rfl, hc, q.flat (.int _)⟩
    · cases hz
  · split at hz
    · next hc =>
      cases hz
      cases rp_int hd
      cases rp_int he
      exact op_pow pins s σ H _ _ v u Q I rx ry ⟨_, _, rfl, rfl, hc, q.flat (.int _)⟩
    · cases hz
  · cases hz

def opC : Co → CmpOp
  | .eq => .Eq
  | .ne => .NotEq
  | .lt => .Lt
  | .le => .LtE
  | .gt => .Gt
  | .ge => .GtE
  | .isin => .In
  | .nin => .NotIn
def rCo (op : Co) : R2 := fun x y H Q => ∃ r d e z, Rq H r x d ∧ Rq H r y e ∧ coD op d e = some z ∧ Q (.bl z) H
theorem shp_lay {d : PyData} (h : shp d = true) : d.canLay0 = true ∧ d.depth ≤ 64 := by
  have h' : (d.canLay0 && decide (d.depth ≤ 64)) = true := h
  rw [Bool.and_eq_true, decide_eq_true_eq] at h'
  exact h'
theorem shp_two {d e : PyData} {α : Type} {x : α} {z : α} (h : (if (shp d && shp e) = true then some x else none) = some z) : shp d = true ∧ shp e = true ∧ x = z := by
  split at h
  · next hc =>
    rw [Bool.and_eq_true] at hc
    cases h
    exact ⟨hc.1, hc.2, rfl⟩
  · cases h
theorem shp_two2 {d e : PyData} {α : Type} {x : Option α} {z : α} (h : (if (shp d && shp e) = true then x else none) = some z) : shp d = true ∧ shp e = true ∧ x = some z := by
  split at h
  · next hc =>
    rw [Bool.and_eq_true] at hc
    exact ⟨hc.1, hc.2, h⟩
  · cases h
theorem shp_or {d e : PyData} {x : Bool} {y : Option Bool} {z : Bool} (h : (if (shp d && shp e) = true then some x else y) = some z) : (shp d = true ∧ shp e = true ∧ x = z) ∨ y = some z := by
  split at h
  · next hc =>
    rw [Bool.and_eq_true] at hc
    cases h
    exact .inl ⟨hc.1, hc.2, rfl⟩
  · exact .inr h
/-- a tuple or list beside an empty one -/
theorem eq_nothing (hu : X.A.units + 200 < cLine) {pins : List (Addr × Obj)} {s : Shared} {σ : L2.St} {H : Hp} {x y : V} {v u : Value} {r : Rho} {d e : PyData} {z : Bool} (I : Inv X pins σ H s) (rx : RelV x v) (ry : RelV y u) (hd : Rq H r x d) (he : Rq H r y e) (hz : eqE d e = some z) :
    SeqAt.RcAt X.A s v u z ∧ SeqAt.RcNeAt X.A s v u (!z) := by
  have hu1 : X.A.units < cLine := by omega
  unfold eqE at hz
  split at hz
  · next xs =>
    cases hz
    obtain ⟨a, vs, rfl, ha, _, hv⟩ := rp_tup hd
    obtain ⟨b, ws, rfl, hb, _, hw⟩ := rp_tup he
    cases hw
    cases rx
    cases ry
    obtain ⟨its, rv, pl, _⟩ := I.tuple ha.sq
    obtain ⟨its2, rw, pl2, _⟩ := I.tuple hb.sq
    cases rw
    have e1 : its.length = xs.length := by rw [← rv.length, hv.length]
    have e2 : xs.isEmpty = ((List.range (min its.toArray.size ([] : List Value).toArray.size)).all (fun _ => true) && its.toArray.size == ([] : List Value).toArray.size) := by
      cases xs with
      | nil =>
        have : its = [] := List.length_eq_zero_iff.mp e1
        rw [this]
        rfl
      | cons x xs =>
        cases its with
        | nil => cases e1
        | cons y its => simp
    rw [e2]
    exact ⟨SeqAt.RcAt.tuples pl pl2 hu1 fun j _ h2 => by simp at h2, SeqAt.RcNeAt.tuples pl pl2 hu1 fun j _ h2 => by simp at h2⟩
  · next xs =>
    cases hz
    obtain ⟨a, vs, rfl, ha, hv⟩ := rp_list hd
    obtain ⟨b, ws, rfl, hb, hw⟩ := rp_list he
    cases hw
    cases rx
    cases ry
    obtain ⟨_, its, n, rv, h1⟩ := rd_list I ha
    obtain ⟨_, its2, n2, rw, h2⟩ := rd_list I hb
    cases rw
    have e1 : its.length = xs.length := by rw [← rv.length, hv.length]
    cases xs with
    | nil =>
      have : its = [] := List.length_eq_zero_iff.mp e1
      subst this
      exact ⟨SeqAt.RcAt.lists (e := fun _ => true) ⟨_, h1, rfl, _, rfl⟩ ⟨_, h2, rfl, _, rfl⟩ rfl hu1 fun j _ h2 => by simp at h2, SeqAt.RcNeAt.lists (e := fun _ => true) ⟨_, h1, rfl, _, rfl⟩ ⟨_, h2, rfl, _, rfl⟩ rfl hu1 fun j _ h2 => by simp at h2⟩
    | cons x xs =>
      cases its with
      | nil => cases e1
      | cons y its => exact ⟨SeqAt.RcAt.lists_lengths ⟨_, h1, rfl, _, rfl⟩ ⟨_, h2, rfl, _, rfl⟩ (by simp) hu1, SeqAt.RcNeAt.lists_lengths ⟨_, h1, rfl, _, rfl⟩ ⟨_, h2, rfl, _, rfl⟩ (by simp) hu1⟩
  · cases hz
/-- a dict beside an empty one -/
theorem eqK_hit {pins : List (Addr × Obj)} {s : Shared} {σ : L2.St} {H : Hp} {x y : V} {v u : Value} {r : Rho} {d e : PyData} {z : Bool} (I : Inv X pins σ H s) (rx : RelV x v) (ry : RelV y u) (hd : Rq H r x d) (he : Rq H r y e) (hz : eqK d e = some z) :
    ∃ (a b : Addr) (va vb : List (Key × Value)), v = .ref a ∧ u = .ref b ∧ (a == sysModules) = false ∧ (b == sysModules) = false ∧ s.heap.DictOf (mixKind X.prog X.w) a va ∧ s.heap.DictOf (mixKind X.prog X.w) b vb ∧ vb = [] ∧ va.isEmpty = z := by
  unfold eqK at hz
  split at hz
  · next xs =>
    cases hz
    obtain ⟨a, ps, rfl, ha, hk, hv⟩ := rp_dic hd
    obtain ⟨b, qs, rfl, hb, hk2, hv2⟩ := rp_dic he
    obtain rfl : v = Value.ref a := rx
    obtain rfl : u = Value.ref b := ry
    obtain ⟨_, ya, va, ra, da⟩ := dk_rd I.hok ha
    obtain ⟨_, yb, vb, rb, db⟩ := dk_rd I.hok hb
    have l1 := ra.length
    have l2 := rb.length
    have l3 : ps.length = xs.length := by simpa using congrArg List.length hk
    have l4 : qs.length = 0 := by simpa using congrArg List.length hk2
    refine ⟨a, b, va, vb, rfl, rfl, ya, yb, da, db, List.length_eq_zero_iff.mp (by omega), ?_⟩
    cases va with
    | nil => cases xs with
      | nil => rfl
      | cons x xs => simp only [List.length_nil, List.length_cons] at l1 l3; omega
    | cons y va => cases xs with
      | nil => simp only [List.length_nil, List.length_cons] at l1 l3; omega
      | cons x xs => rfl
  · cases hz
theorem or_some {a b : Option Bool} {z : Bool} (h : a.or b = some z) : a = some z ∨ b = some z := by
  cases a with
  | none => exact .inr h
  | some y => exact .inl h
theorem kO_kD (k : Key) : kO (kD k) = some k := by cases k <;> rfl
theorem kO_some {d : PyData} {k : Key} (h : kO d = some k) : d = kD k := by
  cases d <;> cases h <;> rfl
theorem rq_key {v : V} {d : PyData} {k : Key} (h : Rq H r v d) (hk : kO d = some k) : v = kV k := by
  cases kO_some hk
  cases k with
  | inl i => exact rp_int h
  | inr x => exact rp_str h
theorem has_dic : ∀ {kvs : List (Key × V)} {ds : List (PyData × PyData)} (k : Key), kvs.map (fun p => kD p.1) = ds.map (·.1) → (ds.any fun p => decide (kO p.1 = some k)) = (valV kvs k).isSome
  | [], [], _, _ => rfl
  | [], _ :: _, _, e => by simp at e
  | _ :: _, [], _, e => by simp at e
  | p :: kvs, q :: ds, k, e => by
    simp only [List.map_cons, List.cons.injEq] at e
    have hq : kO q.1 = some p.1 := by rw [← e.1]; exact kO_kD p.1
    have ih := has_dic k e.2
    by_cases hk : p.1 = k
    · rw [List.any_cons, valV_pos hk]
      simp [hq, hk]
    · rw [List.any_cons, valV_neg hk, ih]
      simp [hq, hk]
theorem op_co (op : Co) (hu : X.A.units + 200 < cLine) : OpR X (compareOp (opC op)) (rCo op) := by
  intro pins s σ H x y v u Q I rx ry h
  obtain ⟨r, d, e, z, hd, he, hz, q⟩ := h
  have isin : ∀ (xs : List PyData), itemsOf e = some xs → shp d = true → shp e = true → ∀ {b : Bool}, (∀ t : Bool, t = (xs.any fun z => PyData.eqv z d) → Q (.bl (if b = true then !t else t)) H) →
      wpAny (model X.prog X.w) X.A (compareOp (if b = true then CmpOp.NotIn else CmpOp.In) v u) (EP X pins σ Q) X.xe s := by
    intro xs hx h1 h2 b hq
    obtain ⟨l1, p1⟩ := shp_lay h1
    obtain ⟨l2, p2⟩ := shp_lay h2
    obtain ⟨as, r1⟩ := Dp.reads I d x v (hd.dp l1) rx
    obtain ⟨bs, r2⟩ := Dp.reads I e y u (he.dp l2) ry
    have q' := hq _ rfl
    cases e with
    | list ys =>
      cases hx
      have hr : X.A.units + 1 + min (PyData.depthAll xs) d.depth < cLine := by
        have := Nat.min_le_right (PyData.depthAll xs) d.depth
        omega
      cases b with
      | true => exact SeqAt.notIn_list_reads r2 r1 (by simpa [PyData.canLay0] using l2) l1 hr ⟨.bl _, H, I, rfl, q'⟩
      | false => exact SeqAt.in_list_reads r2 r1 (by simpa [PyData.canLay0] using l2) l1 hr ⟨.bl _, H, I, rfl, q'⟩
    | tuple ys =>
      cases hx
      have hr : X.A.units + 1 + min (PyData.depthAll xs) d.depth < cLine := by
        have := Nat.min_le_right (PyData.depthAll xs) d.depth
        omega
      cases b with
      | true => exact SeqAt.notIn_tuple_reads r2 r1 (by simpa [PyData.canLay0] using l2) l1 hr ⟨.bl _, H, I, rfl, q'⟩
      | false => exact SeqAt.in_tuple_reads r2 r1 (by simpa [PyData.canLay0] using l2) l1 hr ⟨.bl _, H, I, rfl, q'⟩
    | none => cases hx
    | bool _ => cases hx
    | int _ => cases hx
    | str _ => cases hx
    | dict _ => cases hx
  unfold coD at hz
  split at hz
  · cases hz
    cases rp_str hd
    cases rp_str he
    obtain ⟨t1, rfl⟩ := rx
    obtain ⟨t2, rfl⟩ := ry
    exact PyProof.Rows.eq_str ⟨.bl _, H, I, rfl, q⟩
  · cases hz
    cases rp_str hd
    cases rp_str he
    obtain ⟨t1, rfl⟩ := rx
    obtain ⟨t2, rfl⟩ := ry
    exact PyProof.Rows.ne_str ⟨.bl _, H, I, rfl, q⟩
  · rcases shp_or hz with ⟨h1, h2, rfl⟩ | hz
    rotate_left
    · rcases or_some hz with hz | hz
      · exact (eq_nothing hu I rx ry hd he hz).1 X.prog X.w _ _ ⟨.bl _, H, I, rfl, q⟩
      · obtain ⟨a, b, va, vb, rfl, rfl, ya, yb, da, db, rfl, hv⟩ := eqK_hit I rx ry hd he hz
        refine PySem.W.keq_eq (knd := mixKind X.prog X.w) (r := true) ya yb da db (by omega) (fun hl => ?_) (fin_bl I q ?_)
        · cases va with
          | nil => exact .nil
          | cons y va => simp at hl
        · rw [← hv]
          cases va <;> simp
    exact op_eqD (by omega) pins s σ H _ _ v u Q I rx ry ⟨_, _, hd.dp (shp_lay h1).1, he.dp (shp_lay h2).1, h1, h2, q⟩
  · rcases shp_or hz with ⟨h1, h2, rfl⟩ | hz
    rotate_left
    · obtain ⟨z1, hz1, rfl⟩ := Option.map_eq_some_iff.mp hz
      rcases or_some hz1 with hz1 | hz1
      · exact (eq_nothing hu I rx ry hd he hz1).2 X.prog X.w _ _ ⟨.bl _, H, I, rfl, q⟩
      · obtain ⟨a, b, va, vb, rfl, rfl, ya, yb, da, db, rfl, hv⟩ := eqK_hit I rx ry hd he hz1
        refine PySem.W.keq_ne (knd := mixKind X.prog X.w) (r := true) ya yb da db (by omega) (fun hl => ?_) (fin_bl I q ?_)
        · cases va with
          | nil => exact .nil
          | cons y va => simp at hl
        · rw [← hv]
          cases va <;> simp
    exact op_neD (by omega) pins s σ H _ _ v u Q I rx ry ⟨_, _, hd.dp (shp_lay h1).1, he.dp (shp_lay h2).1, h1, h2, q⟩
  · cases hz
    cases rp_int hd
    cases rp_int he
    exact op_lt pins s σ H _ _ v u Q I rx ry ⟨_, _, rfl, rfl, q⟩
  · cases hz
    cases rp_int hd
    cases rp_int he
    exact op_le pins s σ H _ _ v u Q I rx ry ⟨_, _, rfl, rfl, q⟩
  · cases hz
    cases rp_int hd
    cases rp_int he
    exact op_gt pins s σ H _ _ v u Q I rx ry ⟨_, _, rfl, rfl, q⟩
  · cases hz
    cases rp_int hd
    cases rp_int he
    exact op_ge pins s σ H _ _ v u Q I rx ry ⟨_, _, rfl, rfl, q⟩
  · next kvs =>
    unfold hasD at hz
    simp only [Option.bind_eq_bind, Option.bind_eq_some_iff] at hz
    obtain ⟨j, hk, hz⟩ := hz
    cases hz
    cases rq_key hd hk
    obtain ⟨a, ps, rfl, ha, hkv, _⟩ := rp_dic he
    obtain rfl : u = Value.ref a := ry
    rw [has_dic j hkv] at q
    exact d_in (by omega) I (.inl ⟨ps, j, ha, rfl, rfl⟩) rx fun s' I' => ⟨.bl _, H, I', rfl, q⟩
  · next kvs =>
    obtain ⟨z1, hz1, e1⟩ := Option.map_eq_some_iff.mp hz
    unfold hasD at hz1
    simp only [Option.bind_eq_bind, Option.bind_eq_some_iff] at hz1
    obtain ⟨j, hk, hz2⟩ := hz1
    cases hz2
    cases e1
    cases rq_key hd hk
    obtain ⟨a, ps, rfl, ha, hkv, _⟩ := rp_dic he
    obtain rfl : u = Value.ref a := ry
    rw [has_dic j hkv] at q
    exact d_notIn (by omega) I (.inl ⟨ps, j, ha, rfl, rfl⟩) rx fun s' I' => ⟨.bl _, H, I', rfl, q⟩
  · simp only [Option.bind_eq_bind, Option.bind_eq_some_iff] at hz
    obtain ⟨xs, hx, hz⟩ := hz
    obtain ⟨h1, h2, rfl⟩ := shp_two hz
    exact isin xs hx h1 h2 (b := false) fun t ht => by subst ht; exact q
  · simp only [Option.bind_eq_bind, Option.bind_eq_some_iff] at hz
    obtain ⟨xs, hx, hz⟩ := hz
    obtain ⟨h1, h2, rfl⟩ := shp_two hz
    exact isin xs hx h1 h2 (b := true) fun t ht => by subst ht; exact q
  · cases hz

theorem ixN_eq (n : Nat) (i : Int) : ixN n i = L2.ixN n i := rfl
theorem sIx_eq (n d : Nat) (o : Option Int) : sIx n d o = HT.sIx n d o := by
  unfold sIx HT.sIx
  cases o with
  | none => rfl
  | some v => rfl
theorem cut_eq (vs : List V) (lo hi : Option Int) : cut vs lo hi = cutV vs lo hi := by
  unfold cut cutV
  rw [sIx_eq, sIx_eq]
theorem Rps.cut {vs : List V} {ds : List PyData} (h : Rps H r vs ds) (lo hi : Option Int) : Rps H r (cutV vs lo hi) (Pl.cut ds lo hi) := by
  rw [← cut_eq]
  unfold Pl.cut
  rw [h.length]
  exact (h.drop _).take _
theorem at_get {ds : List PyData} {vs : List V} {i : Int} {z : PyData} (hv : Rps H r vs ds) (h : (ixN ds.length i).bind (ds[·]?) = some z) : ∃ x, atI vs i = some x ∧ Rp H r x z := by
  simp only [Option.bind_eq_some_iff] at h
  obtain ⟨j, h1, h2⟩ := h
  obtain ⟨x, e1, e2⟩ := hv.get h2
  refine ⟨x, ?_, e2⟩
  unfold atI
  rw [hv.length, ← ixN_eq, h1]
  exact e1
/-- d[k] of a dict whose keys are ints and texts -/
theorem ix_dK (hu : X.A.units + 200 < cLine) : IxR X (fun x y H Q => ∃ a kvs k v, x = .ref a ∧ Rd H a (.dK kvs) ∧ y = kV k ∧ valV kvs k = some v ∧ Q v H) := by
  intro value slice pins s σ H x y v u Q I rx ry h hs
  obtain ⟨a, kvs, k, z, rfl, ha, rfl, hz, q⟩ := h
  obtain rfl : v = Value.ref a := rx
  have g : DGet H a (kV k) (some z) := .inl ⟨kvs, k, ha, rfl, hz.symm⟩
  exact tail_any (dict_typeIs I g) PySem.F.slot_dict_getitem.lookup (d_getItem (by omega) I g ry fun w' s3 I3 rw' => ⟨z, H, I3, rw', q⟩) hs
theorem look_dic : ∀ {kvs : List (Key × V)} {ds : List (PyData × PyData)} {k : Key} {z : PyData}, kvs.map (fun p => kD p.1) = ds.map (·.1) → Rps H r (kvs.map (·.2)) (ds.map (·.2)) →
    (ds.find? fun p => decide (kO p.1 = some k)).map (·.2) = some z → ∃ v, valV kvs k = some v ∧ Rp H r v z
  | [], [], _, _, _, _, e => by simp at e
  | [], _ :: _, _, _, e, _, _ => by simp at e
  | _ :: _, [], _, _, e, _, _ => by simp at e
  | p :: kvs, q :: ds, k, z, e, t, h => by
    simp only [List.map_cons, List.cons.injEq] at e
    cases t with
    | cons t1 t2 =>
      have hq : kO q.1 = some p.1 := by rw [← e.1]; exact kO_kD p.1
      by_cases hk : p.1 = k
      · rw [List.find?_cons_of_pos (by simp [hq, hk])] at h
        cases h
        exact ⟨p.2, valV_pos hk, t1⟩
      · rw [List.find?_cons_of_neg (by simp [hq, hk])] at h
        obtain ⟨v, e1, e2⟩ := look_dic e.2 t2 h
        exact ⟨v, by rw [valV_neg hk]; exact e1, e2⟩
def rAt : R2 := fun x y H Q => ∃ r d e z, Rq H r x d ∧ Rq H r y e ∧ atD d e = some z ∧ ∀ v, Rp H r v z → Q v H
theorem ix_at (hu : X.A.units + 200 < cLine) : IxR X rAt := by
  intro value slice pins s σ H x y v u Q I rx ry h hs
  obtain ⟨r, d, e, z, hd, he, hz, q⟩ := h
  unfold atD at hz
  split at hz
  · cases rp_int he
    obtain ⟨a, vs, rfl, ha, hv⟩ := rp_list hd
    obtain ⟨x, e1, e2⟩ := at_get hv hz
    exact ix_list value slice pins s σ H _ _ v u Q I rx ry ⟨a, vs, _, x, rfl, rfl, .inl (.inl ha), e1, q x e2⟩ hs
  · cases rp_int he
    obtain ⟨a, vs, rfl, ha, na, hv⟩ := rp_tup hd
    obtain ⟨x, e1, e2⟩ := at_get hv hz
    exact ix_tup value slice pins s σ H _ _ v u Q I rx ry ⟨a, vs, _, x, rfl, rfl, ha.sq, e1, q x e2⟩ hs
  · unfold lookD at hz
    simp only [Option.bind_eq_bind, Option.bind_eq_some_iff] at hz
    obtain ⟨k, hk, hz⟩ := hz
    obtain ⟨a, kvs, rfl, ha, hkv, hv⟩ := rp_dic hd
    obtain ⟨x, e1, e2⟩ := look_dic hkv hv hz
    exact ix_dK hu value slice pins s σ H _ _ v u Q I rx ry ⟨a, kvs, k, x, rfl, ha, rq_key he hk, e1, q x e2⟩ hs
  · cases hz
/-- a slice of a list, a tuple, or the script -/
def rCut (K : PySem.W.Frag) : V → Option Int → Option Int → Hp → VK → Prop := fun x lo hi H Q =>
  (∃ r S d z, SR S r H ∧ Rq H r x d ∧ slD d lo hi = some z ∧ Pst r H z Q) ∨ ∃ r S ns, SR S r H ∧ Rw K H r (.s ns) x ∧ Pst r H (.list ((cut ns lo hi).map .int)) Q
theorem cut_map {α β : Type} (f : α → β) (xs : List α) (lo hi : Option Int) : cut (xs.map f) lo hi = (cut xs lo hi).map f := by
  unfold cut
  rw [List.length_map, List.map_take, List.map_drop]
theorem sl_cut : SlR X (rCut X.K) := by
  intro pins s σ H x v vl vu lo hi sl Q I rx hs pl pu h
  rcases h with ⟨r, S, d, z, hS, hd, hz, q⟩ | ⟨r, S, ns, hS, hw, q⟩
  · unfold slD at hz
    split at hz
    · cases hz
      obtain ⟨a, vs, rfl, ha, hv⟩ := rp_list hd
      exact sl_list pins s σ H _ v vl vu lo hi sl Q I rx hs pl pu ⟨a, vs, rfl, .inl (.inl ha), fun p hp => q.lst hS hp (hv.cut lo hi)⟩
    · cases hz
      obtain ⟨a, vs, rfl, ha, na, hv⟩ := rp_tup hd
      cases rx
      obtain ⟨its, r1, ht, hz⟩ := I.tuple ha.sq
      have hlen : its.toArray.size = vs.length := by rw [List.size_toArray]; exact r1.length.symm
      refine ⟨"tuple", _, PyProof.Rows.slot_tuple_getitem.lookup, ht.typeIs, ?_⟩
      by_cases hw : HT.sIx vs.length 0 lo = 0 ∧ HT.sIx vs.length vs.length hi = vs.length
      · refine getItem_tuple_whole ht hs pl pu (by rw [hlen]; exact hw) ⟨.ref a, H, I, rfl, q.flat (.tup ha na ?_)⟩
        have e := hv.cut lo hi
        have ev : cutV vs lo hi = vs := by
          unfold cutV
          rw [hw.1, hw.2, List.drop_zero, Nat.sub_zero, List.take_length]
        rw [ev] at e
        exact e
      · refine HT.getItem_tuple_cut ht hs pl pu (by rw [hlen]; exact hw) ?_ (by rw [hlen]; exact hz)
        rw [hlen]
        exact endT hS I ((r1.drop _).take _) (Nat.le_trans (cutV_length vs lo hi) hz) _ q (hv.cut lo hi)
    · cases hz
  · obtain ⟨a, rfl, k⟩ := hw
    refine sl_list pins s σ H _ v vl vu lo hi sl Q I rx hs pl pu ⟨a, ns.map V.int, rfl, k.sq, fun p hp => q.lst hS hp ?_⟩
    rw [← cut_eq, cut_map]
    exact rps_ints _
end
end Pl



namespace Pl
namespace Sorted
open PySem PyProof PyProof.Rows PySem.Spec
variable {prog : Program} {w : World} {A : Around} {E : Value → Shared → Prop} {s : Shared}
theorem collect_tup {l : Addr} {vs : List Value} {Q : List Value → Shared → Prop} (hl : s.heap.IsTuple l vs.toArray)
    (h : Q vs { s with heap := (s.heap.push (seqObj "list" #[] 0)).update s.heap.objs.size (Obj.mapSeq (· ++ vs.toArray)) }) (hsz : vs.length ≤ sizeLine := by size_fits) :
    wpAny (model prog w) A (collect (.ref l)) Q E s := by
  obtain ⟨o, ho, hc, n, hd⟩ := id hl
  unfold collect
  refine wpAny_bind (wpAny_runValue (codeAny_builtin entry_proto_collect' ?_))
  show wpAny _ _ (do again (.builtin "list.__iadd__" ⟨[← newList [], .ref l], []⟩)) _ _ s
  refine wpAny_bind (wpAny_newList (wpAny_pure ⟨Code.quiet_builtin _ (by decide +kernel), codeAny_builtin entry_list_iadd' ?_⟩))
  show wpAny _ _ (Builtin.List.listExtendWith (.ref s.heap.objs.size) (.ref l) (.ref s.heap.objs.size)) _ _ { s with heap := s.heap.push (seqObj "list" #[] 0) }
  unfold Builtin.List.listExtendWith
  have ho' : (s.heap.push (seqObj "list" #[] 0)).get? l = some o := Heap.get?_push_of_some _ ho
  refine wpAny_bind (wpAny_typeOf (T := "tuple") ⟨o, ho', hc⟩ ?_)
  have ht : (Value.type "tuple" == Value.type "tuple") = true := by rfl
  rw [if_pos (by rw [ht]; simp)]
  refine wpAny_bind (listItems_at ho' hd ?_)
  refine wpAny_bind (listItems_at (xs := #[]) (n := 0) (Heap.get?_push_size _ rfl) rfl ?_)
  rw [if_neg (by simp)]
  refine wpAny_bind (listUpdate_at (xs := #[]) (n := 0) (Heap.get?_push_size _ rfl) rfl ?_ (Nat.zero_le _) (by show (#[] ++ vs.toArray).size ≤ sizeLine + 1; simp only [Array.size_append, List.size_toArray, List.length_nil]; omega))
  refine wpAny_pure ?_
  show wpAny (model prog w) A (do
      let o ← load s.heap.objs.size
      match o.data with
      | .seq xs _ => pure xs.toList
      | _ => unsupported "internal:collect") Q E { s with heap := (s.heap.push (seqObj "list" #[] 0)).update s.heap.objs.size (Obj.mapSeq (· ++ vs.toArray)) }
  refine wpAny_bind (wpAny_load (get?_update_seq (Heap.get?_push_size _ rfl) _) ?_)
  show wpAny _ _ (pure ((#[] : Array Value) ++ vs.toArray).toList) Q E _
  rw [show ((#[] : Array Value) ++ vs.toArray).toList = vs by simp]
  exact wpAny_pure h
theorem sorted_tup {l : Addr} {vs : List Value} {ns : List Int} {Q : Value → Shared → Prop} (hl : s.heap.IsTuple l vs.toArray) (hI : IntsAre vs ns) (h64 : vs.length ≤ sizeLine)
    (h : ∀ (out : Array Value) (ns' : List Int), IntsAre out.toList ns' → ns'.Perm ns → ns'.Pairwise (· ≤ ·) → Q (.ref (s.heap.objs.size + 1)) { s with heap := sortedAll s.heap vs out }) :
    wpAny (model prog w) A (call (.builtin "sorted") [.ref l]) Q E s := by
  refine Calls.call_function_entry kind_sorted plain_sorted entry_sorted (args_sorted1 _) ?_
  unfold Builtin.«sorted»
  refine wpAny_bind (m := checkCount "sorted" 1 1 _) (wpAny_pure ?_)
  refine wpAny_bind (collect_tup hl ?_ h64)
  refine wpAny_bind (wpAny_newList ?_)
  have hsz : ((s.heap.push (seqObj "list" #[] 0)).update s.heap.objs.size (Obj.mapSeq (· ++ vs.toArray))).objs.size = s.heap.objs.size + 1 := by
    rw [Heap.size_update, size_push']
  have hoL : (((s.heap.push (seqObj "list" #[] 0)).update s.heap.objs.size (Obj.mapSeq (· ++ vs.toArray))).push (seqObj "list" vs.toArray 0)).get? (s.heap.objs.size + 1) = some (seqObj "list" vs.toArray 0) := by
    rw [← hsz]; exact Heap.get?_push_size _ rfl
  show wpAny _ _ _ _ _ { s with heap := ((s.heap.push (seqObj "list" #[] 0)).update s.heap.objs.size (Obj.mapSeq (· ++ vs.toArray))).push (seqObj "list" vs.toArray 0) }
  rw [hsz]
  refine wpAny_bind (wpAny_holding (wpAny_call_entry slot_list_sort ⟨_, hoL, rfl⟩ entry_list_sort (list_sort_treeAny hoL hI h64 fun out ns' a1 a2 a3 => ⟨_, rfl, ?_⟩) (args_list_sort _)))
  exact wpAny_pure ⟨_, rfl, h out ns' a1 a2 a3⟩
end Sorted
section
open PySem PySem.Spec L2
variable {X : Cx}
theorem cr_sortedTu : CallR X (.builtin "sorted") (fun vs H Q => ∃ (a : Addr) (ns : List Int), vs = [V.ref a] ∧ SqT X.K H a (ns.map V.int) ∧ ns.length ≤ sizeLine ∧
  ∀ (ns' : List Int) (p : Addr), ns'.Perm ns → ns'.Pairwise (· ≤ ·) → H p = none → Q (.ref p) (upd H p (.lst (ns'.map V.int)))) := by
  intro pins s σ H vs us Q I r h
  obtain ⟨a, ns, rfl, hs, h64, q⟩ := h
  obtain ⟨its, rv, hl, _⟩ := I.tuple hs
  rw [Vals.ref1 r]
  have hi := rv.ints
  refine Sorted.sorted_tup hl hi (by rw [hi.length]; exact h64) fun out ns' h1 h2 h3 => ?_
  obtain ⟨ep, he'⟩ := PyProof.Rows.sortedAll_at s.heap its out
  have hlen : (ns'.map V.int).length ≤ sizeLine := by rw [List.length_map, h2.length_eq]; exact h64
  exact ⟨.ref _, upd H (s.heap.objs.size + 1) (.lst (ns'.map V.int)), I.laid (t' := s.toks) (fun _ _ => PyProof.Rows.sortedAll_old) (Nat.le_succ _) ⟨hlen, out.toList, ep, vals_of_ints h1, he'⟩, rfl, q ns' _ h2 h3 (I.hok.fresh (Nat.le_succ _))⟩
theorem cr_sortedA : CallR X (.builtin "sorted") (fun vs H Q => ∃ (a : Addr) (ns : List Int), vs = [V.ref a] ∧ SqL X.K H a (ns.map V.int) ∧ ns.length ≤ sizeLine ∧
  ∀ (ns' : List Int) (p : Addr), ns'.Perm ns → ns'.Pairwise (· ≤ ·) → H p = none → Q (.ref p) (upd H p (.lst (ns'.map V.int)))) := by
  intro pins s σ H vs us Q I r h
  obtain ⟨a, ns, rfl, hs, h64, q⟩ := h
  obtain ⟨its, rv, hl, _⟩ := I.list hs
  rw [Vals.ref1 r]
  have hi := rv.ints
  refine PyProof.Rows.sorted_intsAny hl.isList hi (by rw [hi.length]; exact h64) fun out ns' h1 h2 h3 => ?_
  obtain ⟨ep, he'⟩ := PyProof.Rows.sortedAll_at s.heap its out
  have hlen : (ns'.map V.int).length ≤ sizeLine := by rw [List.length_map, h2.length_eq]; exact h64
  exact ⟨.ref _, upd H (s.heap.objs.size + 1) (.lst (ns'.map V.int)), I.laid (t' := s.toks) (fun _ _ => PyProof.Rows.sortedAll_old) (Nat.le_succ _) ⟨hlen, out.toList, ep, vals_of_ints h1, he'⟩, rfl, q ns' _ h2 h3 (I.hok.fresh (Nat.le_succ _))⟩
theorem each_rps {H : Hp} {r : Rho} : ∀ {out : List Value} {ds : List PyData}, PySem.W.EachIs (fun v d => ∃ x : V, RelV x v ∧ Rp H r x d) out ds → ∃ ws : List V, Vals ws out ∧ Rps H r ws ds
  | _, _, .nil => ⟨[], .nil, .nil⟩
  | _, _, .cons ⟨x, h1, h2⟩ t => by
    obtain ⟨ws, q1, q2⟩ := each_rps t
    exact ⟨x :: ws, .cons h1 q1, .cons h2 q2⟩
theorem rps_each {H : Hp} {r : Rho} : ∀ {ws : List V} {its : List Value} {ds : List PyData}, Vals ws its → Rps H r ws ds → PySem.W.EachIs (fun v d => ∃ x : V, RelV x v ∧ Rp H r x d) its ds
  | _, _, _, .nil, .nil => .nil
  | _, _, _, .cons h1 t1, .cons h2 t2 => .cons ⟨_, h1, h2⟩ (rps_each t1 t2)
theorem rps_reads {pins : List (Addr × Obj)} {σ : L2.St} {H : Hp} {s : Shared} {r : Rho} (I : Inv X pins σ H s) : ∀ {ws : List V} {its : List Value} {ds : List PyData}, Vals ws its → Rps H r ws ds → (∀ d ∈ ds, d.canLay0 = true) → PySem.W.EachIs (fun v d => ∃ as, Reads s.heap v d as) its ds
  | _, _, _, .nil, .nil, _ => .nil
  | _, _, _, .cons (a := x) h1 t1, .cons (d := d) h2 t2, hl => .cons (Dp.reads I d x _ (h2.dp (hl d List.mem_cons_self)) h1) (rps_reads I t1 t2 fun d hd => hl d (List.mem_cons_of_mem _ hd))
/-- sorted of tuples -/
theorem cr_sortedT (hu : X.A.units + 200 < cLine) : CallR X (.builtin "sorted") (fun vs H Q => ∃ (a : Addr) (r : Rho) (xs : List V) (ds : List PyData), vs = [V.ref a] ∧ H a = some (.lst xs) ∧ Rps H r xs ds ∧ sortOk ds = true ∧
  ∀ (ws : List V) (p : Addr), H p = none → Rps H r ws (sortT ds) → Q (.ref p) (upd H p (.lst ws))) := by
  intro pins s σ H vs us Q I ru h
  obtain ⟨a, r, xs, ds, rfl, ha, hx, ho, q⟩ := h
  obtain ⟨hz, its, n, rv, hl⟩ := rd_list I ha
  rw [Vals.ref1 ru]
  unfold sortOk at ho
  simp only [Bool.and_eq_true, decide_eq_true_eq, List.all_eq_true] at ho
  obtain ⟨⟨h1, h2⟩, h3⟩ := ho
  have hI : s.heap.IsList a its.toArray := ⟨_, hl, rfl, _, rfl⟩
  have hm : ds.map id = ds := List.map_id ds
  refine PySem.W.sorted_data (enc := id) (R := fun v d => ∃ x : V, RelV x v ∧ Rp H r x d) hI (rps_each rv hx) (rps_reads I rv hx fun d hd => (h1 d hd).2) (by rw [hm]; exact fun d hd e he => h2 d hd e he) (by
      rw [hm]
      refine .inl fun d hd => ?_
      have := (h1 d hd).1.1
      split at this
      · exact ⟨_, _, rfl⟩
      · cases this) (Nat.le_trans h3 lim_line) (fun d hd => by
      have := (h1 d hd).1.2
      show X.A.units + 2 + d.depth < cLine
      omega) fun out hlen he => ?_
  have hds : ds.mergeSort (PySem.W.dataLe false id) = sortT ds := rfl
  rw [hds] at he
  obtain ⟨ws, rw', hw⟩ := each_rps he
  obtain ⟨ep, he'⟩ := PyProof.Rows.sortedAll_at s.heap its out.toArray
  have hwl : ws.length ≤ sizeLine := by rw [rw'.length, hlen]; exact Nat.le_trans h3 lim_line
  exact ⟨.ref _, upd H (s.heap.objs.size + 1) (.lst ws), I.laid (t' := s.toks) (fun _ _ => PyProof.Rows.sortedAll_old) (Nat.le_succ _) ⟨hwl, out, ep, rw', by simpa using he'⟩, rfl, q ws _ (I.hok.fresh (Nat.le_succ _)) hw⟩
end
end Pl


namespace Pl
open PySem PySem.Spec PyProof.Rows L2
def rBl (b : Bl) : List V → Hp → VK → Prop := fun xs H Q => ∃ r S ds z, SR S r H ∧ Rqs H r xs ds ∧ blD b ds = some z ∧ Pst r H z Q
section
variable {X : Cx} {pins : List (Addr × Obj)} {σ : L2.St} {H : Hp} {s : Shared} {r : Rho} {S : Sto} {Q : VK}
theorem rps1 {xs : List V} {d : PyData} (h : Rqs H r xs [d]) : ∃ v, xs = [v] ∧ Rq H r v d := by
  cases h with
  | cons h t =>
    cases t
    exact ⟨_, rfl, h⟩
theorem rps2 {xs : List V} {d e : PyData} (h : Rqs H r xs [d, e]) : ∃ v u, xs = [v, u] ∧ Rq H r v d ∧ Rq H r u e := by
  cases h with
  | cons h t =>
    obtain ⟨u, rfl, k⟩ := rps1 t
    exact ⟨_, _, rfl, h, k⟩
theorem items_rp {v : V} {d : PyData} {xs : List PyData} (h : Rq H r v d) (hx : itemsOf d = some xs) : ∃ a vs, v = .ref a ∧ Rps H r vs xs ∧ ((H a = some (.lst vs) ∧ d = .list xs) ∨ (Ft H a vs ∧ r.No a ∧ d = .tuple xs)) := by
  cases d with
  | list ys =>
    cases hx
    obtain ⟨a, vs, rfl, h1, h3⟩ := rp_list h
    exact ⟨a, vs, rfl, h3, .inl ⟨h1, rfl⟩⟩
  | tuple ys =>
    cases hx
    obtain ⟨a, vs, rfl, h1, h2, h3⟩ := rp_tup h
    exact ⟨a, vs, rfl, h3, .inr ⟨h1, h2, rfl⟩⟩
  | none => cases hx
  | bool _ => cases hx
  | int _ => cases hx
  | str _ => cases hx
  | dict _ => cases hx
theorem cb_len : CallR X (.builtin "len") (rBl .len) := by
  intro pins s σ H xs us Q I rx h
  obtain ⟨r, S, ds, z, hS, hd, hz, q⟩ := h
  unfold blD at hz
  split at hz <;> first | (rename_i e; cases e) | skip
  · cases hz
    obtain ⟨v, rfl, k⟩ := rps1 hd
    obtain ⟨a, vs, rfl, h1, h3⟩ := rp_list k
    exact call_len_seq pins s σ H _ us Q I rx ⟨a, vs, rfl, .inl (.inl (.inl h1)), by rw [h3.length]; exact q.flat (.int _)⟩
  · cases hz
    obtain ⟨v, rfl, k⟩ := rps1 hd
    obtain ⟨a, vs, rfl, h1, h2, h3⟩ := rp_tup k
    exact call_len_seq pins s σ H _ us Q I rx ⟨a, vs, rfl, .inr h1.sq, by rw [h3.length]; exact q.flat (.int _)⟩
  · cases hz
    obtain ⟨v, rfl, k⟩ := rps1 hd
    obtain ⟨a, kvs, rfl, h1, h2, h3⟩ := rp_dic k
    have hl := congrArg List.length h2
    rw [List.length_map, List.length_map] at hl
    cases rx with
    | cons rv rn =>
      cases rn
      obtain rfl := rv
      exact d_len I h1 fun t s' I' => ⟨.int kvs.length, H, I', ⟨t, rfl⟩, by rw [hl]; exact q.flat (.int _)⟩
  · split at hz
    · next hl =>
      cases hz
      obtain ⟨v, rfl, k⟩ := rps1 hd
      cases rp_str k
      exact call_len_str pins s σ H _ us Q I rx ⟨_, rfl, Nat.le_trans hl lim_line, q.flat (.int _)⟩
    · cases hz
  · cases hz
theorem cb_list : CallR X (.type "list") (rBl .list) := by
  intro pins s σ H xs us Q I rx h
  obtain ⟨r, S, ds, z, hS, hd, hz, q⟩ := h
  unfold blD at hz
  split at hz <;> first | (rename_i e; cases e) | skip
  · simp only [Option.map_eq_some_iff] at hz
    obtain ⟨ys, hy, rfl⟩ := hz
    obtain ⟨v, rfl, k⟩ := rps1 hd
    obtain ⟨a, vs, rfl, h3, h4⟩ := items_rp k hy
    refine call_list_of pins s σ H _ us Q I rx ⟨a, vs, rfl, ?_, fun l hl => q.lst hS hl h3⟩
    rcases h4 with ⟨h1, _⟩ | ⟨h1, _, _⟩
    · exact .inl (.inl (.inl h1))
    · exact .inr h1.sq
  · cases hz
theorem cb_tuple : CallR X (.type "tuple") (rBl .tuple) := by
  intro pins s σ H xs us Q I rx h
  obtain ⟨r, S, ds, z, hS, hd, hz, q⟩ := h
  unfold blD at hz
  split at hz <;> first | (rename_i e; cases e) | skip
  · simp only [Option.map_eq_some_iff] at hz
    obtain ⟨ys, hy, rfl⟩ := hz
    obtain ⟨v, rfl, k⟩ := rps1 hd
    obtain ⟨a, vs, rfl, h3, h4⟩ := items_rp k hy
    rcases h4 with ⟨h1, _⟩ | ⟨h1, h2, e⟩
    · obtain ⟨u, rfl, ru⟩ := vals1 rx
      cases (show u = Value.ref a from ru)
      obtain ⟨its, r', pl, hz⟩ := I.list (show SqL X.K H a vs from .inl (.inl h1))
      have hlen := r'.length
      refine call_tuple_list pl.isList (fun h' kp => ?_) (by simp only [List.size_toArray] <;> omega)
      have I1 : Inv X pins σ H { s with heap := h' } := I.kept (t' := s.toks) kp
      exact endT hS I1 r' hz s.toks q h3
    · exact call_tuple_of pins s σ H _ us Q I rx ⟨a, vs, rfl, .inr ⟨h1.sq, q.flat (.tup h1 h2 h3)⟩⟩
  · cases hz
theorem cb_int : CallR X (.type "int") (rBl .int) := by
  intro pins s σ H xs us Q I rx h
  obtain ⟨r, S, ds, z, hS, hd, hz, q⟩ := h
  unfold blD at hz
  split at hz <;> first | (rename_i e; cases e) | skip
  · cases hz
    obtain ⟨v, rfl, k⟩ := rps1 hd
    cases rp_int k
    exact call_int1 pins s σ H _ us Q I rx (.inl ⟨_, rfl, q.flat (.int _)⟩)
  · cases hz
    obtain ⟨v, rfl, k⟩ := rps1 hd
    cases rp_bool k
    exact call_int1 pins s σ H _ us Q I rx (.inr ⟨_, rfl, q.flat (.int _)⟩)
  · cases hz
theorem cb_abs : CallR X (.builtin "abs") (rBl .abs) := by
  intro pins s σ H xs us Q I rx h
  obtain ⟨r, S, ds, z, hS, hd, hz, q⟩ := h
  unfold blD at hz
  split at hz <;> first | (rename_i e; cases e) | skip
  · cases hz
    obtain ⟨v, rfl, k⟩ := rps1 hd
    cases rp_int k
    exact call_abs pins s σ H _ us Q I rx ⟨_, rfl, q.flat (.int _)⟩
  · cases hz
theorem cb_str : CallR X (.type "str") (rBl .str) := by
  intro pins s σ H xs us Q I rx h
  obtain ⟨r, S, ds, z, hS, hd, hz, q⟩ := h
  unfold blD at hz
  split at hz <;> first | (rename_i e; cases e) | skip
  · split at hz
    · next hl =>
      cases hz
      obtain ⟨v, rfl, k⟩ := rps1 hd
      cases rp_int k
      exact call_str_int pins s σ H _ us Q I rx ⟨_, rfl, hl, q.flat (.str _)⟩
    · cases hz
  · cases hz
theorem shown_mem {kvs : List (PyData × PyData)} {t : Str} (hz : (dictText (PyData.shownKv kvs)).length ≤ sizeLine) (h : (∃ p ∈ PyData.shownKv kvs, t.length ≤ p.length)) : t.length ≤ sizeLine :=
  let ⟨_, hp, hl⟩ := h
  Nat.le_trans hl (Nat.le_trans (dictText_mem_le hp) hz)
theorem keys_reads {h : Heap} {P : Program} {w : World} : ∀ {es : List DictEntry} {vs : List (Key × Value)} {kvs : List (Key × V)}, PySem.Pairs (mixKind P w) es vs → KV kvs vs →
    ReadsAll h (es.map (·.key)) (kvs.map fun p => kD p.1) [] ∧ Vals (kvs.map (·.2)) (es.map (·.val))
  | _, _, _, .nil, .nil => ⟨.nil, .nil⟩
  | _, _, _, .cons (e := e) (kv := kv) h1 h2 h3, .cons (a := p) k1 k2 => by
    obtain ⟨r1, r2⟩ := keys_reads (h := h) h3 k2
    obtain ⟨pk, pv⟩ := p
    obtain ⟨q1, q2⟩ := kv
    obtain ⟨k1a, k1b⟩ := k1
    cases k1a
    refine ⟨?_, .cons (by show RelV pv e.val; rw [h2]; exact k1b) r2⟩
    have hr : Reads h e.key (kD pk) [] := by
      rcases keyIs_shape (show keyIs pk e.key = true from h1) with ⟨i, t, e1, e2⟩ | ⟨x, t, e1, e2⟩
      · cases e1
        rw [e2]
        exact .int _ _
      · cases e1
        rw [e2]
        exact .str _ _
    exact ReadsAll.cons (as := []) (bs := []) hr r1
theorem noDict_keys : ∀ kvs : List (Key × V), PyData.hasDictAll (kvs.map fun p => kD p.1) = false
  | [] => by simp [PyData.hasDictAll]
  | p :: r => by
    have h : PyData.hasDict (kD p.1) = false := by
      cases p.1 <;> simp [kD, PyData.hasDict]
    simp only [List.map_cons, PyData.hasDictAll, h, noDict_keys r, Bool.or_self]
section shows
variable {pins : List (Addr × Obj)} {σ : L2.St} {s : Shared}
/-- what is shown of a list's items, laid -/
structure ShA (X : Cx) (h : Heap) (us : List Value) (ds : List PyData) : Prop where
  ex : ∃ as bs, ReadsAll h us ds as ∧ ReadAtMost h (PyData.depthAll ds) bs ∧ ReprAllK X.prog X.w bs h (PyData.depthAll ds) us (PyData.shownAll ds)
/-- a dict's object, its keys and values laid -/
theorem dict_laid (I : Inv X pins σ H s) {a : Addr} {kvs : List (Key × V)} {ds : List (PyData × PyData)} (ha : Rd H a (.dK kvs)) (hk : kvs.map (fun p => kD p.1) = ds.map (·.1)) (hs : PyData.showableKv ds = true) (hz : (dictText (PyData.shownKv ds)).length ≤ sizeLine)
    (ih : ∀ us, Vals (kvs.map (·.2)) us → PyData.showableAll (ds.map (·.2)) = true → (∀ t ∈ PyData.shownAll (ds.map (·.2)), t.length ≤ sizeLine) → ShA X s.heap us (ds.map (·.2))) :
    ∃ o es n as bs, s.heap.get? a = some o ∧ o.cls = .type "dict" ∧ o.data = .dict es n ∧ (a == sysModules) = false ∧ Reads s.heap (.ref a) (.dict ds) as ∧ a ∉ bs ∧ ReadAtMost s.heap (PyData.depthKv ds) bs ∧
      ReprEntriesK X.prog X.w bs s.heap (PyData.depthKv ds) es.toList (PyData.shownKv ds) := by
  obtain ⟨_, hsys, vs, rel, o, es, ep, ho, hx, hd, _, hp, _⟩ := dk_rd I.hok ha
  obtain ⟨r1, r2⟩ := keys_reads (h := s.heap) hp rel
  rw [hk] at r1
  obtain ⟨hs1, hs2⟩ := PyData.showableKv_split ds hs
  obtain ⟨bs, cs, r3, h2, k2⟩ := (ih _ r2 hs2 fun t ht => shown_mem hz (PyData.shownKv_val_le ds t ht)).ex
  have hn : PyData.hasDictAll (ds.map (·.1)) = false := by rw [← hk]; exact noDict_keys kvs
  obtain ⟨b1, h1, k1⟩ := ReprAllK.of_readsAll (prog := X.prog) (w := X.w) r1 hs1 (fun hq => by rw [hn] at hq; cases hq) fun t ht => shown_mem hz (PyData.shownKv_key_le ds t ht)
  have rr : Reads s.heap (.ref a) (.dict ds) _ := .dict ho hx.1 hd r1 r3
  have hb : ReadAtMost s.heap (PyData.depthKv ds) (b1 ++ cs) := (h1.mono (PyData.depthAll_keys_le ds)).append (h2.mono (PyData.depthAll_vals_le ds))
  refine ⟨o, es, ep, _, b1 ++ cs, ho, hx.1, hd, hsys, rr, not_mem_of_deeper rr (by simp only [PyData.depth]; omega) hb, hb, ?_⟩
  rw [PyData.shownKv_eq]
  exact ReprEntriesK.of_two es.toList _ _ (k1.more_le (fun b hb => List.mem_append_left _ hb) (PyData.depthAll_keys_le ds)) (k2.more_le (fun b hb => List.mem_append_right _ hb) (PyData.depthAll_vals_le ds))
mutual
theorem Rp.shows (I : Inv X pins σ H s) : ∀ {v : V} {d : PyData}, Rp H r v d → ∀ u, RelV v u → d.showable = true → d.shown.length ≤ sizeLine →
    ∃ as bs, Reads s.heap u d as ∧ ReadAtMost s.heap d.depth bs ∧ ReprK X.prog X.w bs s.heap d.depth u d.shown
  | _, _, .non, u, ru, hs, hz => by
    cases ru
    exact ⟨_, [], .none, (fun _ h => nomatch h), by simp only [PyData.shown]; exact .of_is ReprIs.none _ _ _⟩
  | _, _, .bl b, u, ru, hs, hz => by
    cases ru
    exact ⟨_, [], .bool b, (fun _ h => nomatch h), by simp only [PyData.shown]; exact .of_is (ReprIs.bool b) _ _ _⟩
  | _, _, .int i, u, ru, hs, hz => by
    obtain ⟨t, rfl⟩ := ru
    exact ⟨_, [], .int i t, (fun _ h => nomatch h), by simp only [PyData.shown]; exact .of_is (ReprIs.int t (by simpa [PyData.showable] using hs)) _ _ _⟩
  | _, _, .str x, u, ru, hs, hz => by
    obtain ⟨t, rfl⟩ := ru
    exact ⟨_, [], .str x t, (fun _ h => nomatch h), by simp only [PyData.shown]; exact .of_is (ReprIs.str x t (by simpa only [PyData.shown] using hz)) _ _ _⟩
  | _, _, .lst (a := a) (xs := xs) (ds := ds) h1 _ t, u, ru, hs, hz => by
    cases ru
    have hz' : (listText (PyData.shownAll ds)).length ≤ sizeLine := by simpa only [PyData.shown] using hz
    obtain ⟨_, its, n, rv, ho⟩ := rd_list I h1
    obtain ⟨as, bs, r3, hb, hk⟩ := (Rps.shows I t its rv (by simpa [PyData.showable] using hs) fun t ht => Nat.le_trans (listText_mem_le ht) hz').ex
    have rr : Reads s.heap (.ref a) (.list ds) (a :: as) := .list ho rfl rfl r3
    have hna : a ∉ bs := not_mem_of_deeper rr (by simp only [PyData.depth]; omega) hb
    refine ⟨_, a :: bs, rr, ReadAtMost.cons rr (by simp only [PyData.depth]; omega) hb, ?_⟩
    simp only [PyData.depth, PyData.shown]
    cases its with
    | nil =>
      cases r3
      simp only [PyData.shownAll, listText_nil]
      exact ReprK.listEmpty ho rfl rfl
    | cons x l => exact ReprK.list ho rfl rfl hna (by simpa using hk.length_eq) (fun i y e => hk.item i y (by simpa using e))
  | _, _, .tup (a := a) (xs := xs) (ds := ds) h1 _ t, u, ru, hs, hz => by
    cases ru
    have hz' : (tupleText (PyData.shownAll ds)).length ≤ sizeLine := by simpa only [PyData.shown] using hz
    obtain ⟨its, rv, ⟨o, ho, hc, n, hdt⟩, _⟩ := I.tuple h1.sq
    obtain ⟨as, bs, r3, hb, hk⟩ := (Rps.shows I t its rv (by simpa [PyData.showable] using hs) fun t ht => Nat.le_trans (tupleText_mem_le ht) hz').ex
    have rr : Reads s.heap (.ref a) (.tuple ds) as := .tuple ho hc hdt r3
    have hna : a ∉ bs := not_mem_of_deeper rr (by simp only [PyData.depth]; omega) hb
    refine ⟨_, a :: bs, rr, ReadAtMost.cons rr (by simp only [PyData.depth]; omega) hb, ?_⟩
    simp only [PyData.depth, PyData.shown]
    exact ReprK.tuple ho hc hdt hna hk
  | _, _, .dic (a := a) (kvs := kvs) (ds := ds) h1 _ e t, u, ru, hs, hz => by
    cases ru
    have hz' : (dictText (PyData.shownKv ds)).length ≤ sizeLine := by simpa only [PyData.shown] using hz
    obtain ⟨o, es, n, as, bs, ho, hc, hd, hsys, rr, hna, hb, hE⟩ := dict_laid I h1 e (by simpa [PyData.showable] using hs) hz' fun us ru => Rps.shows I t us ru
    refine ⟨as, a :: bs, rr, ReadAtMost.cons rr (by simp only [PyData.depth]; omega) hb, ?_⟩
    simp only [PyData.depth, PyData.shown]
    exact ReprK.dict ho hc hd hsys hna hE
theorem Rps.shows (I : Inv X pins σ H s) : ∀ {vs : List V} {ds : List PyData}, Rps H r vs ds → ∀ us, Vals vs us → PyData.showableAll ds = true → (∀ t ∈ PyData.shownAll ds, t.length ≤ sizeLine) → ShA X s.heap us ds
  | _, _, .nil, us, ru, hs, hz => by
    cases ru
    exact ⟨_, [], .nil, (fun _ h => nomatch h), by simp only [PyData.shownAll]; exact .nil⟩
  | _, _, .cons (d := d) (ds := ds) h t, us, ru, hs, hz => by
    cases ru with
    | cons ru rt =>
      have hs' : d.showable = true ∧ PyData.showableAll ds = true := by simpa [PyData.showableAll] using hs
      obtain ⟨a1, b1, r1, hb1, k1⟩ := Rp.shows I h _ ru hs'.1 (hz _ (by simp only [PyData.shownAll]; exact List.mem_cons_self))
      obtain ⟨a2, b2, r2, hb2, k2⟩ := (Rps.shows I t _ rt hs'.2 fun t ht => hz t (by simp only [PyData.shownAll]; exact List.mem_cons_of_mem _ ht)).ex
      refine ⟨_, b1 ++ b2, .cons r1 r2, ?_, ?_⟩
      · simp only [PyData.depthAll]
        exact (hb1.mono (Nat.le_max_left _ _)).append (hb2.mono (Nat.le_max_right _ _))
      · simp only [PyData.depthAll, PyData.shownAll]
        exact .cons ((k1.more fun b hb => List.mem_append_left _ hb).level_le (Nat.le_max_left _ _)) (k2.more_le (fun b hb => List.mem_append_right _ hb) (Nat.le_max_right _ _))
end
/-- the heap's things show themselves -/
theorem shows_top (I : Inv X pins σ H s) {a : Addr} {d : PyData} (h : Rq H r (.ref a) d) (hs : d.showable = true) (hz : d.shown.length ≤ sizeLine) : ∃ T idr, ShowsBy X.prog X.w s.heap a d T idr := by
  cases d with
  | none => cases rp_none h
  | bool b => cases rp_bool h
  | int i => cases rp_int h
  | str x => cases rp_str h
  | list ds =>
    obtain ⟨a', vs, e, h1, t⟩ := rp_list h
    cases e
    have hz' : (listText (PyData.shownAll ds)).length ≤ sizeLine := by simpa only [PyData.shown] using hz
    obtain ⟨_, its, n, rv, ho⟩ := rd_list I h1
    obtain ⟨as, bs, r3, hb, hk⟩ := (Rps.shows I t its rv (by simpa [PyData.showable] using hs) fun t ht => Nat.le_trans (listText_mem_le ht) hz').ex
    have rr : Reads s.heap (.ref a) (.list ds) (a :: as) := .list ho rfl rfl r3
    have hna : a ∉ bs := not_mem_of_deeper rr (by simp only [PyData.depth]; omega) hb
    refine ⟨"list", "list.__repr__", F.slot_list_repr.toG, F.slot_list_str, F.slot_list_format, fun s' hk0 => ⟨_, hk0 _ _ ho, rfl⟩, fun A E s' Q hg hu hk0 hQ => ?_⟩
    simp only [PyData.depth] at hu
    simp only [PyData.shown] at hQ
    cases its with
    | nil =>
      cases r3
      simp only [PyData.shownAll, listText_nil] at hQ
      exact call_list_repr_empty ⟨_, hk0 _ _ ho, rfl⟩ (hk0 _ _ ho) rfl (hQ s'.heap _ _ fun _ _ e => e)
    | cons x l => exact call_list_reprK ho rfl rfl hna (by simpa using hk.length_eq) (fun i y e => hk.item i y (by simpa using e)) hg (fun b _ => Clear.nil b) hu hk0 hQ hz'
  | tuple ds =>
    obtain ⟨a', vs, e, h1, _, t⟩ := rp_tup h
    cases e
    have hz' : (tupleText (PyData.shownAll ds)).length ≤ sizeLine := by simpa only [PyData.shown] using hz
    obtain ⟨its, rv, ⟨o, ho, hc, n, hdt⟩, _⟩ := I.tuple h1.sq
    obtain ⟨as, bs, r3, hb, hk⟩ := (Rps.shows I t its rv (by simpa [PyData.showable] using hs) fun t ht => Nat.le_trans (tupleText_mem_le ht) hz').ex
    have rr : Reads s.heap (.ref a) (.tuple ds) as := .tuple ho hc hdt r3
    have hna : a ∉ bs := not_mem_of_deeper rr (by simp only [PyData.depth]; omega) hb
    refine ⟨"tuple", "tuple.__repr__", F.slot_tuple_repr, F.slot_tuple_str, F.slot_tuple_format, fun s' hk0 => ⟨_, hk0 _ _ ho, hc⟩, fun A E s' Q hg hu hk0 hQ => ?_⟩
    simp only [PyData.depth] at hu
    simp only [PyData.shown] at hQ
    exact call_tuple_reprK ho hc hdt hna hk hg (fun b _ => Clear.nil b) hu hk0 hQ hz'
  | dict ds =>
    obtain ⟨a', kvs, e, h1, hk, t⟩ := rp_dic h
    cases e
    have hz' : (dictText (PyData.shownKv ds)).length ≤ sizeLine := by simpa only [PyData.shown] using hz
    obtain ⟨o, es, n, as, bs, ho, hc, hd, hsys, rr, hna, hb, hE⟩ := dict_laid I h1 hk (by simpa [PyData.showable] using hs) hz' fun us ru => Rps.shows I t us ru
    refine ⟨"dict", "dict.__repr__", F.slot_dict_repr, F.slot_dict_str, F.slot_dict_format, fun s' hk0 => ⟨_, hk0 _ _ ho, hc⟩, fun A E s' Q hg hu hk0 hQ => ?_⟩
    simp only [PyData.depth] at hu
    simp only [PyData.shown] at hQ
    exact call_dict_reprK ho hc hd hsys hna hE hg (fun b _ => Clear.nil b) hu hk0 hQ hz'
end shows
theorem repr_val (hg : X.A.guards = some []) (hu : X.A.units + 200 < cLine) {v : V} {u : Value} {d z : PyData} (hS : SR S r H) (I : Inv X pins σ H s) (ru : RelV v u) (k : Rq H r v d)
    (hz : (if (d.showable && decide (d.depth ≤ 64) && decide (d.shown.length ≤ lim)) = true then some (PyData.str d.shown) else none) = some z) (q : Pst r H z Q) : wpAny (model X.prog X.w) X.A (call (.builtin "repr") [u]) (EP X pins σ Q) X.xe s := by
  split at hz
  · next hl =>
    simp only [Bool.and_eq_true, decide_eq_true_eq] at hl
    obtain ⟨⟨h1, p1⟩, h3⟩ := hl
    cases hz
    have hsz : d.shown.length ≤ sizeLine := Nat.le_trans h3 lim_line
    have q' : ∀ (h' : Heap) (t : Tok) (tk : Nat), (∀ b o, s.heap.get? b = some o → h'.get? b = some o) → EP X pins σ Q (.str d.shown t) { s with heap := h', toks := tk } :=
      fun h' t tk hk => ⟨.str d.shown, H, I.kept hk, ⟨t, rfl⟩, q.flat (.str _)⟩
    have q0 : ∀ (t : Tok) (tk : Nat), EP X pins σ Q (.str d.shown t) { s with toks := tk } := fun t tk => q' s.heap t tk fun _ _ e => e
    have big : ∀ a, v = .ref a → wpAny (model X.prog X.w) X.A (call (.builtin "repr") [u]) (EP X pins σ Q) X.xe s := fun a e => by
      subst e
      cases ru
      obtain ⟨T, idr, S⟩ := shows_top I k h1 hsz
      exact call_repr_slot (by omega) (S.typeIs s fun _ _ e => e) S.slotRepr (S.call X.A.in1 _ s _ hg (by show X.A.units + 1 + d.depth < cLine; omega) (fun _ _ e => e) fun h' t tk hk => ⟨_, _, rfl, q' h' t tk hk⟩)
    cases d with
    | none =>
      cases rp_none k
      cases ru
      refine PySem.P.repr_of_none ?_
      have := q0 s.toks (s.toks + 1)
      simpa only [PyData.shown] using this
    | bool b =>
      cases rp_bool k
      cases ru
      refine PySem.P.repr_of_bool ?_
      have := q0 s.toks (s.toks + 1)
      simpa only [PyData.shown] using this
    | int i =>
      cases rp_int k
      obtain ⟨t, rfl⟩ := ru
      refine PySem.P.repr_of_int (by simpa [PyData.showable] using h1) ?_
      have := q0 s.toks (s.toks + 1)
      simpa only [PyData.shown] using this
    | str x =>
      cases rp_str k
      obtain ⟨t, rfl⟩ := ru
      have hsz' : (reprText x).length ≤ sizeLine := by simpa only [PyData.shown] using hsz
      refine PySem.P.repr_of_str ?_ hsz'
      have := q0 s.toks (s.toks + 1)
      simpa only [PyData.shown] using this
    | list ds =>
      obtain ⟨a, vs, e, _⟩ := rp_list k
      exact big _ e
    | tuple ds =>
      obtain ⟨a, vs, e, _⟩ := rp_tup k
      exact big _ e
    | dict ds =>
      obtain ⟨a, vs, e, _⟩ := rp_dic k
      exact big _ e
  · cases hz
theorem cb_repr (hg : X.A.guards = some []) (hu : X.A.units + 200 < cLine) : CallR X (.builtin "repr") (rBl .repr) := by
  intro pins s σ H xs us Q I rx h
  obtain ⟨r, S, ds, z, hS, hd, hz, q⟩ := h
  unfold blD at hz
  split at hz <;> first | (rename_i e; cases e) | skip
  · obtain ⟨v, rfl, k⟩ := rps1 hd
    obtain ⟨u, rfl, ru⟩ := vals1 rx
    exact repr_val hg hu hS I ru k hz q
  · cases hz
theorem cb_sum (hc : X.calm = true) : CallR X (.builtin "sum") (rBl .sum) := by
  intro pins s σ H xs us Q I rx h
  obtain ⟨r, S, ds, z, hS, hd, hz, q⟩ := h
  unfold blD at hz
  split at hz <;> first | (rename_i e; cases e) | skip
  · simp only [Option.bind_eq_bind, Option.bind_eq_some_iff] at hz
    obtain ⟨ns, hn, hz⟩ := hz
    cases hz
    obtain ⟨v, rfl, k⟩ := rps1 hd
    obtain ⟨a, vs, rfl, h1, h3⟩ := rp_list k
    have e := h3.ints hn
    subst e
    exact cr_sum hc pins s σ H _ us Q I rx ⟨a, ns, rfl, .inl (.inl h1), q.flat (.int _)⟩
  · cases hz
theorem foldl_max (xs : List Int) : ∀ x : Int, (∀ y ∈ x :: xs, y ≤ xs.foldl max x) ∧ xs.foldl max x ∈ x :: xs := by
  induction xs with
  | nil => intro x; simp
  | cons a t ih =>
    intro x
    obtain ⟨h1, h2⟩ := ih (max x a)
    rw [List.foldl_cons]
    refine ⟨fun y hy => ?_, ?_⟩
    · have h0 := h1 (max x a) List.mem_cons_self
      rcases List.mem_cons.mp hy with e | hy
      · subst e
        omega
      · rcases List.mem_cons.mp hy with e | hy
        · subst e
          omega
        · exact h1 y (List.mem_cons_of_mem _ hy)
    · rcases List.mem_cons.mp h2 with e | h2
      · rw [e]
        by_cases h : x ≤ a
        · rw [Int.max_eq_right h]
          simp
        · rw [Int.max_eq_left (by omega)]
          simp
      · simp [h2]
theorem foldl_min (xs : List Int) : ∀ x : Int, (∀ y ∈ x :: xs, xs.foldl min x ≤ y) ∧ xs.foldl min x ∈ x :: xs := by
  induction xs with
  | nil => intro x; simp
  | cons a t ih =>
    intro x
    obtain ⟨h1, h2⟩ := ih (min x a)
    rw [List.foldl_cons]
    refine ⟨fun y hy => ?_, ?_⟩
    · have h0 := h1 (min x a) List.mem_cons_self
      rcases List.mem_cons.mp hy with e | hy
      · subst e
        omega
      · rcases List.mem_cons.mp hy with e | hy
        · subst e
          omega
        · exact h1 y (List.mem_cons_of_mem _ hy)
    · rcases List.mem_cons.mp h2 with e | h2
      · rw [e]
        by_cases h : x ≤ a
        · rw [Int.min_eq_left h]
          simp
        · rw [Int.min_eq_right (by omega)]
          simp
      · simp [h2]
theorem cb_max (hc : X.calm = true) : CallR X (.builtin "max") (rBl .max) := by
  intro pins s σ H xs us Q I rx h
  obtain ⟨r, S, ds, z, hS, hd, hz, q⟩ := h
  unfold blD at hz
  split at hz <;> first | (rename_i e; cases e) | skip
  · simp only [Option.bind_eq_bind, Option.bind_eq_some_iff] at hz
    obtain ⟨ns, hn, m, hm, hz⟩ := hz
    cases hz
    obtain ⟨v, rfl, k⟩ := rps1 hd
    obtain ⟨a, vs, rfl, h1, h3⟩ := rp_list k
    have e := h3.ints hn
    subst e
    cases ns with
    | nil => cases hm
    | cons x t =>
      cases hm
      obtain ⟨g1, g2⟩ := foldl_max t x
      refine cr_max hc pins s σ H _ us Q I rx ⟨a, x :: t, rfl, .inl (.inl h1), by simp, fun m' m1 m2 => ?_⟩
      have e : m' = t.foldl max x := Int.le_antisymm (g1 _ m1) (m2 _ g2)
      rw [e]
      exact q.flat (.int _)
  · cases hz
theorem cb_min (hc : X.calm = true) : CallR X (.builtin "min") (rBl .min) := by
  intro pins s σ H xs us Q I rx h
  obtain ⟨r, S, ds, z, hS, hd, hz, q⟩ := h
  unfold blD at hz
  split at hz <;> first | (rename_i e; cases e) | skip
  · simp only [Option.bind_eq_bind, Option.bind_eq_some_iff] at hz
    obtain ⟨ns, hn, m, hm, hz⟩ := hz
    cases hz
    obtain ⟨v, rfl, k⟩ := rps1 hd
    obtain ⟨a, vs, rfl, h1, h3⟩ := rp_list k
    have e := h3.ints hn
    subst e
    cases ns with
    | nil => cases hm
    | cons x t =>
      cases hm
      obtain ⟨g1, g2⟩ := foldl_min t x
      refine cr_min hc pins s σ H _ us Q I rx ⟨a, x :: t, rfl, .inl (.inl h1), by simp, fun m' m1 m2 => ?_⟩
      have e : m' = t.foldl min x := Int.le_antisymm (m2 _ g2) (g1 _ m1)
      rw [e]
      exact q.flat (.int _)
  · cases hz
theorem cb_max2 (hc : X.calm = true) : CallR X (.builtin "max") (rBl .max2) := by
  intro pins s σ H xs us Q I rx h
  obtain ⟨r, S, ds, z, hS, hd, hz, q⟩ := h
  unfold blD at hz
  split at hz <;> first | (rename_i e; cases e) | skip
  · cases hz
    obtain ⟨v, u, rfl, k, k2⟩ := rps2 hd
    cases rp_int k
    cases rp_int k2
    exact call_max2 hc pins s σ H _ us Q I rx ⟨_, _, rfl, q.flat (.int _)⟩
  · cases hz
theorem cb_min2 (hc : X.calm = true) : CallR X (.builtin "min") (rBl .min2) := by
  intro pins s σ H xs us Q I rx h
  obtain ⟨r, S, ds, z, hS, hd, hz, q⟩ := h
  unfold blD at hz
  split at hz <;> first | (rename_i e; cases e) | skip
  · cases hz
    obtain ⟨v, u, rfl, k, k2⟩ := rps2 hd
    cases rp_int k
    cases rp_int k2
    exact call_min2 hc pins s σ H _ us Q I rx ⟨_, _, rfl, q.flat (.int _)⟩
  · cases hz
theorem cb_any (hc : X.calm = true) : CallR X (.builtin "any") (rBl .any) := by
  intro pins s σ H xs us Q I rx h
  obtain ⟨r, S, ds, z, hS, hd, hz, q⟩ := h
  unfold blD at hz
  split at hz <;> first | (rename_i e; cases e) | skip
  · simp only [Option.bind_eq_bind, Option.bind_eq_some_iff] at hz
    obtain ⟨ns, hn, hz⟩ := hz
    cases hz
    obtain ⟨v, rfl, k⟩ := rps1 hd
    obtain ⟨a, vs, rfl, h1, h3⟩ := rp_list k
    have e := h3.bools hn
    subst e
    exact cr_any hc pins s σ H _ us Q I rx ⟨a, ns, rfl, .inl (.inl h1), q.flat (.bl _)⟩
  · cases hz
theorem cb_all (hc : X.calm = true) : CallR X (.builtin "all") (rBl .all) := by
  intro pins s σ H xs us Q I rx h
  obtain ⟨r, S, ds, z, hS, hd, hz, q⟩ := h
  unfold blD at hz
  split at hz <;> first | (rename_i e; cases e) | skip
  · simp only [Option.bind_eq_bind, Option.bind_eq_some_iff] at hz
    obtain ⟨ns, hn, hz⟩ := hz
    cases hz
    obtain ⟨v, rfl, k⟩ := rps1 hd
    obtain ⟨a, vs, rfl, h1, h3⟩ := rp_list k
    have e := h3.bools hn
    subst e
    exact cr_all hc pins s σ H _ us Q I rx ⟨a, ns, rfl, .inl (.inl h1), q.flat (.bl _)⟩
  · cases hz
theorem keys_ints : ∀ {ks : List Key} {ns : List Int}, intsOf (ks.map kD) = some ns → ks = ns.map Sum.inl
  | [], _, h => by cases h; rfl
  | .inl i :: ks, ns, h => by
    simp only [List.map_cons, kD, intsOf, Option.map_eq_some_iff] at h
    obtain ⟨ms, e, rfl⟩ := h
    rw [List.map_cons, ← keys_ints e]
  | .inr x :: ks, _, h => by simp [kD, intsOf] at h
theorem cb_sorted (hc : X.calm = true) (hu : X.A.units + 200 < cLine) : CallR X (.builtin "sorted") (rBl .sorted) := by
  intro pins s σ H xs us Q I rx h
  obtain ⟨r, S, ds, z, hS, hd, hz, q⟩ := h
  unfold blD at hz
  split at hz <;> first | (rename_i e; cases e) | skip
  · obtain ⟨v, rfl, k⟩ := rps1 hd
    obtain ⟨a, vs, rfl, h1, h3⟩ := rp_list k
    split at hz
    rotate_left
    · split at hz
      · next ho =>
        cases hz
        exact cr_sortedT hu pins s σ H _ us Q I rx ⟨a, r, vs, _, rfl, h1, h3, ho, fun ws p hn hw => q.lst hS hn hw⟩
      · cases hz
    next ns hn =>
    split at hz
    · next hl =>
      cases hz
      have e := h3.ints hn
      subst e
      refine cr_sortedA pins s σ H _ us Q I rx ⟨a, ns, rfl, .inl (.inl h1), Nat.le_trans hl lim_line, fun ns' p hp hs hn => ?_⟩
      have e : ns' = sortI ns := by
        have h1 : (sortI ns).Perm ns := List.mergeSort_perm ns _
        have h2 : (sortI ns).Pairwise (fun a b : Int => decide (a ≤ b) = true) := List.pairwise_mergeSort (fun a b c => by simp; omega) (fun a b => by simp; omega) ns
        refine List.Perm.eq_of_pairwise (le := fun a b : Int => a ≤ b) (fun a b _ _ => Int.le_antisymm) hs (h2.imp fun h => by simpa using h) (hp.trans h1.symm)
      rw [e]
      exact q.lst hS hn (rps_ints _)
    · cases hz
  · simp only [Option.bind_eq_bind, Option.bind_eq_some_iff] at hz
    obtain ⟨ns, hn, hz⟩ := hz
    split at hz
    · next hl =>
      cases hz
      obtain ⟨v, rfl, k⟩ := rps1 hd
      obtain ⟨a, vs, rfl, h1, _, h3⟩ := rp_tup k
      have e := h3.ints hn
      subst e
      refine cr_sortedTu pins s σ H _ us Q I rx ⟨a, ns, rfl, h1.sq, Nat.le_trans hl lim_line, fun ns' p hp hs hn => ?_⟩
      have e : ns' = sortI ns := by
        have h1 : (sortI ns).Perm ns := List.mergeSort_perm ns _
        have h2 : (sortI ns).Pairwise (fun a b : Int => decide (a ≤ b) = true) := List.pairwise_mergeSort (fun a b c => by simp; omega) (fun a b => by simp; omega) ns
        refine List.Perm.eq_of_pairwise (le := fun a b : Int => a ≤ b) (fun a b _ _ => Int.le_antisymm) hs (h2.imp fun h => by simpa using h) (hp.trans h1.symm)
      rw [e]
      exact q.lst hS hn (rps_ints _)
    · cases hz
  · simp only [Option.bind_eq_bind, Option.bind_eq_some_iff] at hz
    obtain ⟨ns, hn, hz⟩ := hz
    split at hz
    · next hl =>
      cases hz
      obtain ⟨v, rfl, k⟩ := rps1 hd
      obtain ⟨a, ps, rfl, h1, h2, h3⟩ := rp_dic k
      refine call_sortedDI hc pins s σ H _ us Q I rx ⟨a, ps, ns, rfl, h1, keys_ints (by rw [← h2] at hn; rw [List.map_map]; exact hn), hl, fun ns' p hp hs hn => ?_⟩
      have e : ns' = sortI ns := by
        have h1 : (sortI ns).Perm ns := List.mergeSort_perm ns _
        have h2 : (sortI ns).Pairwise (fun a b : Int => decide (a ≤ b) = true) := List.pairwise_mergeSort (fun a b c => by simp; omega) (fun a b => by simp; omega) ns
        refine List.Perm.eq_of_pairwise (le := fun a b : Int => a ≤ b) (fun a b _ _ => Int.le_antisymm) hs (h2.imp fun h => by simpa using h) (hp.trans h1.symm)
      rw [e]
      exact q.lst hS hn (rps_ints _)
    · cases hz
  · cases hz
def tyName : PyData → String
  | .none => "NoneType"
  | .bool _ => "bool"
  | .int _ => "int"
  | .str _ => "str"
  | .list _ => "list"
  | .tuple _ => "tuple"
  | .dict _ => "dict"
theorem tyx_of {K : PySem.W.Frag} {v : V} {d : PyData} (h : Rq H r v d) : TyX K H v (.type (tyName d)) := by
  cases d with
  | none => cases rp_none h; exact .base .non
  | bool b => cases rp_bool h; exact .base (.bl b)
  | int i => cases rp_int h; exact .base (.int i)
  | str x => cases rp_str h; exact .base (.str x)
  | list ds =>
    obtain ⟨a, vs, rfl, h1, _⟩ := rp_list h
    exact .base (.lst h1)
  | tuple ds =>
    obtain ⟨a, vs, rfl, ⟨o, _, h1⟩, _⟩ := rp_tup h
    exact .fTuple h1
  | dict ds =>
    obtain ⟨a, kvs, rfl, h1, _⟩ := rp_dic h
    rcases h1 with h1 | ⟨o, h1⟩
    · exact .base (.dK h1)
    · exact .fDict h1
end
end Pl


namespace Pl
open PySem PySem.Spec PyProof.Rows L2
section
variable {X : Cx} {pins : List (Addr × Obj)} {σ : L2.St} {H : Hp} {s : Shared} {r : Rho} {S : Sto} {Q : VK}
theorem fstIx_some {p : PyData → Bool} : ∀ {xs : List PyData} {j : Nat}, fstIx p xs = some j → ∃ z, xs[j]? = some z ∧ p z = true ∧ ∀ m z', m < j → xs[m]? = some z' → p z' = false
  | [], _, h => by cases h
  | x :: t, j, h => by
    unfold fstIx at h
    split at h
    · next hx =>
      cases h
      exact ⟨x, rfl, hx, fun m z' hm => absurd hm (Nat.not_lt_zero _)⟩
    · next hx =>
      simp only [Option.map_eq_some_iff] at h
      obtain ⟨k, hk, rfl⟩ := h
      obtain ⟨z, h1, h2, h3⟩ := fstIx_some hk
      refine ⟨z, by simpa using h1, h2, fun m z' hm e => ?_⟩
      cases m with
      | zero =>
        simp at e
        subst e
        simpa using hx
      | succ m => exact h3 m z' (by omega) (by simpa using e)
/-- the machine's items of data, by equality with another datum -/
theorem items_by {v u : Value} {ds : List PyData} {e : PyData} {as bs : List Addr} {its : List Value} (hu : X.A.units + 200 < cLine) (h4 : ReadsAll s.heap its ds as) (r1 : Reads s.heap u e bs) (lx : PyData.canLayAll0 ds = true) (le : e.canLay0 = true) (pe : e.depth ≤ 64) :
    (∀ y, y ∈ its.toArray → SeqAt.EqAt X.A.in1 s y u (PyData.eqv (SeqAt.readOf s.heap y) e)) ∧ its.map (SeqAt.readOf s.heap) = ds := by
  refine ⟨SeqAt.items_eqAt (vs := its.toArray) h4 r1 lx le ?_, SeqAt.readsAll_map ds its as lx h4⟩
  have := Nat.min_le_right (PyData.depthAll ds) e.depth
  omega
theorem lay_list {ds : List PyData} (h : (PyData.list ds).canLay0 = true) : PyData.canLayAll0 ds = true := by simpa [PyData.canLay0] using h
theorem lay_tup {ds : List PyData} (h : (PyData.tuple ds).canLay0 = true) : PyData.canLayAll0 ds = true := by simpa [PyData.canLay0] using h
/-- the two kinds of sequence -/
def seqTy : PyData → String
  | .list _ => "list"
  | _ => "tuple"
def rIdx (t : String) : V → List V → Hp → VK → Prop := fun x xs H Q => ∃ r d e z y, xs = [y] ∧ Rq H r x d ∧ Rq H r y e ∧ seqTy d = t ∧ idxD d e = some z ∧ ∀ v, Rp H r v z → Q v H
theorem mt_idxL (hu : X.A.units + 200 < cLine) : MtR X "list.index" (rIdx "list") := by
  intro pins s σ H x xs v us Q I rx rxs h
  obtain ⟨r, d, e, z, y, rfl, hd, he, ht, hz, q⟩ := h
  unfold idxD at hz
  simp only [Option.bind_eq_bind, Option.bind_eq_some_iff] at hz
  obtain ⟨ds, hx, hz⟩ := hz
  obtain ⟨h1, h2, hz⟩ := shp_two2 hz
  simp only [Option.map_eq_some_iff] at hz
  obtain ⟨j, hj, rfl⟩ := hz
  obtain ⟨a, vs, rfl, hv, hk⟩ := items_rp hd hx
  rcases hk with ⟨ha, rfl⟩ | ⟨ha, na, rfl⟩
  · obtain ⟨z, g1, g2, g3⟩ := fstIx_some hj
    exact mt_indexD (by omega) pins s σ H _ _ v us Q I rx rxs ⟨a, y, e, ds, j, z, rfl, rfl, hd.dp (shp_lay h1).1, he.dp (shp_lay h2).1, h1, h2, g1, g2, g3, q _ (.int _)⟩
  · exact absurd ht (by show ¬ "tuple" = "list"; decide)
theorem mt_idxT (hu : X.A.units + 200 < cLine) : MtR X "tuple.index" (rIdx "tuple") := by
  intro pins s σ H x xs v us Q I rx rxs h
  obtain ⟨r, d, e, z, y, rfl, hd, he, ht, hz, q⟩ := h
  unfold idxD at hz
  simp only [Option.bind_eq_bind, Option.bind_eq_some_iff] at hz
  obtain ⟨ds, hx, hz⟩ := hz
  obtain ⟨h1, h2, hz⟩ := shp_two2 hz
  simp only [Option.map_eq_some_iff] at hz
  obtain ⟨j, hj, rfl⟩ := hz
  obtain ⟨a, vs, rfl, hv, hk⟩ := items_rp hd hx
  rcases hk with ⟨ha, rfl⟩ | ⟨ha, na, rfl⟩
  · exact absurd ht (by show ¬ "list" = "tuple"; decide)
  · obtain ⟨z, g1, g2, g3⟩ := fstIx_some hj
    obtain ⟨l1, p1⟩ := shp_lay h1
    obtain ⟨l2, p2⟩ := shp_lay h2
    obtain ⟨u, rfl, ru⟩ := vals1 rxs
    cases rx
    obtain ⟨bs, r2⟩ := Dp.reads I e y u (he.dp l2) ru
    obtain ⟨its, rv, ⟨⟨cls, dd, data, sl⟩, ho, hc, n, hdt⟩, hs⟩ := I.tuple ha.sq
    simp only at hc hdt
    subst hc hdt
    obtain ⟨as, h4⟩ := Dp.readsAll I ds vs its (hv.dp (lay_tup l1)) rv
    obtain ⟨k1, k2⟩ := items_by (X := X) (v := .none) hu h4 r2 (lay_tup l1) l2 p2
    have hlen : its.length = ds.length := by rw [← k2, List.length_map]
    obtain ⟨hjd, _⟩ := List.getElem?_eq_some_iff.mp g1
    have hjs : j < its.toArray.size := by rw [List.size_toArray]; omega
    have at_ : ∀ (m : Nat) (hm : m < its.toArray.size) (z' : PyData), ds[m]? = some z' → SeqAt.readOf s.heap its.toArray[m] = z' := by
      intro m hm z' hz'
      rw [List.size_toArray] at hm
      rw [← k2, List.getElem?_map, List.getElem?_eq_getElem hm] at hz'
      simpa using hz'
    refine call_meets PySem.F.slot_tuple_index ⟨_, ho, rfl⟩ PySem.F.entry_tuple_index (PySem.F.args_tuple_index_2 _ _) (TI.tuple_indexAt a its.toArray n dd sl u (fun y => PyData.eqv (SeqAt.readOf s.heap y) e) j hjs ?_ ?_)
      ⟨ho, k1, ⟨.int (j : Nat), H, I.tok _, ⟨_, rfl⟩, q _ (.int _)⟩⟩
    · show PyData.eqv (SeqAt.readOf s.heap its.toArray[j]) e = true
      rw [at_ j hjs z g1]
      exact g2
    · intro m hm hmj
      have hz' : ds[m]? = some ds[m] := List.getElem?_eq_getElem (by omega)
      show PyData.eqv (SeqAt.readOf s.heap its.toArray[m]) e = false
      rw [at_ m hm _ hz']
      exact g3 m _ hmj hz'
def rCnt (t : String) : V → List V → Hp → VK → Prop := fun x xs H Q => ∃ r d e z y, xs = [y] ∧ Rq H r x d ∧ Rq H r y e ∧ seqTy d = t ∧ cntD d e = some z ∧ ∀ v, Rp H r v z → Q v H
theorem cnt_eq {its : List Value} {ds : List PyData} {h : Heap} {e : PyData} (k2 : its.map (SeqAt.readOf h) = ds) : its.countP (fun y => PyData.eqv (SeqAt.readOf h y) e) = (ds.filter fun z => PyData.eqv z e).length := by
  rw [← k2, List.filter_map, List.length_map, List.countP_eq_length_filter]
  rfl
theorem mt_cntL (hu : X.A.units + 200 < cLine) : MtR X "list.count" (rCnt "list") := by
  intro pins s σ H x xs v us Q I rx rxs h
  obtain ⟨r, d, e, z, y, rfl, hd, he, ht, hz, q⟩ := h
  unfold cntD at hz
  simp only [Option.bind_eq_bind, Option.bind_eq_some_iff] at hz
  obtain ⟨ds, hx, hz⟩ := hz
  obtain ⟨h1, h2, hz⟩ := shp_two hz
  subst hz
  obtain ⟨a, vs, rfl, hv, hk⟩ := items_rp hd hx
  rcases hk with ⟨ha, rfl⟩ | ⟨ha, na, rfl⟩
  · obtain ⟨l1, p1⟩ := shp_lay h1
    obtain ⟨l2, p2⟩ := shp_lay h2
    obtain ⟨u, rfl, ru⟩ := vals1 rxs
    cases rx
    obtain ⟨bs, r2⟩ := Dp.reads I e y u (he.dp l2) ru
    obtain ⟨_, its, n, rv, ho⟩ := rd_list I ha
    obtain ⟨as, h4⟩ := Dp.readsAll I ds vs its (hv.dp (lay_list l1)) rv
    obtain ⟨k1, k2⟩ := items_by (X := X) (v := .none) hu h4 r2 (lay_list l1) l2 p2
    refine call_meets PySem.F.slot_list_count ⟨_, ho, rfl⟩ PySem.F.entry_list_count (PySem.F.args_list_count_2 _ _) (SeqAt.list_countAt a its.toArray n none #[] u (fun y => PyData.eqv (SeqAt.readOf s.heap y) e)) ⟨ho, k1, ?_⟩
    have e0 : its.toArray.toList = its := rfl
    rw [e0, cnt_eq k2]
    exact ⟨.int _, H, I.tok _, ⟨_, rfl⟩, q _ (.int _)⟩
  · exact absurd ht (by show ¬ "tuple" = "list"; decide)
theorem mt_cntT (hu : X.A.units + 200 < cLine) : MtR X "tuple.count" (rCnt "tuple") := by
  intro pins s σ H x xs v us Q I rx rxs h
  obtain ⟨r, d, e, z, y, rfl, hd, he, ht, hz, q⟩ := h
  unfold cntD at hz
  simp only [Option.bind_eq_bind, Option.bind_eq_some_iff] at hz
  obtain ⟨ds, hx, hz⟩ := hz
  obtain ⟨h1, h2, hz⟩ := shp_two hz
  subst hz
  obtain ⟨a, vs, rfl, hv, hk⟩ := items_rp hd hx
  rcases hk with ⟨ha, rfl⟩ | ⟨ha, na, rfl⟩
  · exact absurd ht (by show ¬ "list" = "tuple"; decide)
  · obtain ⟨l1, p1⟩ := shp_lay h1
    obtain ⟨l2, p2⟩ := shp_lay h2
    obtain ⟨u, rfl, ru⟩ := vals1 rxs
    cases rx
    obtain ⟨bs, r2⟩ := Dp.reads I e y u (he.dp l2) ru
    obtain ⟨its, rv, ⟨⟨cls, dd, data, sl⟩, ho, hc, n, hdt⟩, hs⟩ := I.tuple ha.sq
    simp only at hc hdt
    subst hc hdt
    obtain ⟨as, h4⟩ := Dp.readsAll I ds vs its (hv.dp (lay_tup l1)) rv
    obtain ⟨k1, k2⟩ := items_by (X := X) (v := .none) hu h4 r2 (lay_tup l1) l2 p2
    refine call_meets PySem.F.slot_tuple_count ⟨_, ho, rfl⟩ PySem.F.entry_tuple_count (PySem.F.args_tuple_count_2 _ _) (SeqAt.tuple_countAt a its.toArray n dd sl u (fun y => PyData.eqv (SeqAt.readOf s.heap y) e)) ⟨ho, k1, ?_⟩
    have e0 : its.toArray.toList = its := rfl
    rw [e0, cnt_eq k2]
    exact ⟨.int _, H, I.tok _, ⟨_, rfl⟩, q _ (.int _)⟩
end
end Pl


namespace Pl
open PySem PySem.Spec PyProof.Rows L2
/-- what the evaluator's f does, as a reading of an expression, a test, arguments, a bound of a slice -/
def LE (K : PySem.W.Frag) (f : En → Sto → Option (W × Sto)) : TE := fun σ H Q => ∃ r e S w S', SR S r H ∧ ER K e σ H r ∧ f e S = some (w, S') ∧ ∀ r' v H', Gr r H r' H' → SR S' r' H' → Rw K H' r' w v → Q v H'
def LT (K : PySem.W.Frag) (f : En → Sto → Option (W × Sto)) : TT := fun σ H Q => ∃ r e S b S', SR S r H ∧ ER K e σ H r ∧ f e S = some (.v (.bool b), S') ∧ ∀ r' H', Gr r H r' H' → SR S' r' H' → Q b H'
def LA (K : PySem.W.Frag) (f : En → Sto → Option (List W × Sto)) : TA := fun σ H Q => ∃ r e S ws S', SR S r H ∧ ER K e σ H r ∧ f e S = some (ws, S') ∧ ∀ r' vs H', Gr r H r' H' → SR S' r' H' → Rws K H' r' ws vs → Q vs H'
def LO (K : PySem.W.Frag) (f : En → Sto → Option (Option Int × Sto)) : TO := fun σ H Q => ∃ r e S o S', SR S r H ∧ ER K e σ H r ∧ f e S = some (o, S') ∧ ∀ r' H', Gr r H r' H' → SR S' r' H' → Q o H'
section
variable {X : Cx} {K : PySem.W.Frag} {r : Rho} {H : Hp} {S : Sto} {σ : L2.St}
theorem pe_imp {e : Expr} {t t' : TE} (h : PE X e t) (k : ∀ σ H Q, t' σ H Q → t σ H Q) : PE X e t' := ⟨fun pins s σ H Q I q => h.run pins s σ H Q I (k σ H Q q)⟩
theorem pt_imp {e : Expr} {t t' : TT} (h : PT X e t) (k : ∀ σ H Q, t' σ H Q → t σ H Q) : PT X e t' := ⟨fun pins s σ H Q I q => h.run pins s σ H Q I (k σ H Q q)⟩
theorem pw_imp {e : Expr} {t t' : TT} (h : PW X e t) (k : ∀ σ H Q, t' σ H Q → t σ H Q) : PW X e t' := ⟨fun wh pins s σ H Q I q => h.run wh pins s σ H Q I (k σ H Q q)⟩
theorem pa_imp {e : List Expr} {t t' : TA} (h : PA X e t) (k : ∀ σ H Q, t' σ H Q → t σ H Q) : PA X e t' := ⟨fun pos pins s σ H Q I q => h.run pos pins s σ H Q I (k σ H Q q)⟩
theorem po_imp {e : Option Expr} {t t' : TO} (h : PO X e t) (k : ∀ σ H Q, t' σ H Q → t σ H Q) : PO X e t' := ⟨fun pins s σ H Q I q => h.run pins s σ H Q I (k σ H Q q)⟩
theorem deref_cases {n : Nat} {d : PyData} (e : deref S (.r n) = some d) : (∃ xs, look S n = some xs ∧ d = .list xs) ∨ ∃ kvs, lookK S n = some kvs ∧ d = .dict kvs := by
  simp only [deref] at e
  cases h : look S n with
  | some xs => rw [h] at e; cases e; exact .inl ⟨xs, rfl, rfl⟩
  | none =>
    rw [h] at e
    obtain ⟨kvs, h1, rfl⟩ := Option.map_eq_some_iff.mp (show (lookK S n).map _ = some d from e)
    exact .inr ⟨kvs, h1, rfl⟩
theorem deref_rq (hS : SR S r H) {w : W} {v : V} {d : PyData} (h : Rw K H r w v) (e : deref S w = some d) : Rq H r v d := by
  cases w with
  | v d' =>
    cases e
    exact Rp.rq h
  | r n =>
    rcases deref_cases e with ⟨xs, e1, rfl⟩ | ⟨kvs, e1, rfl⟩
    · obtain ⟨a, vs, h1, h2, h3⟩ := hS.cel n xs (look_some e1)
      exact ⟨a, vs, h.2 a h1, h2, h3⟩
    · obtain ⟨a, ps, h1, h2, h3, h4⟩ := hS.dic n kvs (lookK_some e1)
      exact ⟨a, ps, h.2 a h1, .inl h2, h3, h4⟩
  | s ns => cases e
theorem derefs_rq (hS : SR S r H) : ∀ {ws : List W} {vs : List V} {ds : List PyData}, Rws K H r ws vs → derefs S ws = some ds → Rqs H r vs ds
  | _, _, _, .nil, e => by cases e; exact .nil
  | _, _, _, .cons h t, e => by
    simp only [derefs, Option.bind_eq_bind, Option.bind_eq_some_iff] at e
    obtain ⟨d, e1, ds, e2, e3⟩ := e
    cases e3
    exact .cons (deref_rq hS h e1) (derefs_rq hS t e2)
theorem datas_rp : ∀ {ws : List W} {vs : List V} {ds : List PyData}, Rws K H r ws vs → datas ws = some ds → Rps H r vs ds
  | _, _, _, .nil, e => by cases e; exact .nil
  | .v d :: _, _, _, .cons h t, e => by
    simp only [datas, Option.map_eq_some_iff] at e
    obtain ⟨ds, e1, rfl⟩ := e
    exact .cons h (datas_rp t e1)
  | .r n :: _, _, _, .cons h t, e => by cases e
  | .s n :: _, _, _, .cons h t, e => by cases e
theorem asBool_of {w : W} {b : Bool} (h : asBool w = some b) : w = .v (.bool b) := by
  unfold asBool at h
  split at h
  · cases h; rfl
  · cases h
theorem asInt_of {S : Sto} {w : W} {b : Int} (h : asInt S w = some b) : w = .v (.int b) := by
  unfold asInt at h
  split at h
  · cases h; rfl
  · cases h
theorem toI_of {o : Option (W × Sto)} {b : Option Int} {S' : Sto} (h : toI o = some (b, S')) : ∃ i, b = some i ∧ o = some (.v (.int i), S') := by
  unfold toI at h
  split at h
  · cases h
    exact ⟨_, rfl, rfl⟩
  · cases h
theorem rw_int {v : V} {i : Int} (h : Rw K H r (.v (.int i)) v) : v = .int i := by
  cases (show Rp H r v (.int i) from h)
  rfl
theorem rw_bool {v : V} {i : Bool} (h : Rw K H r (.v (.bool i)) v) : v = .bl i := by
  cases (show Rp H r v (.bool i) from h)
  rfl
theorem le_two {fa fb f : En → Sto → Option (W × Sto)} {α : Type} {op : PyData → PyData → Option α} {h : α → PyData} {rr : R2}
    (hf : ∀ e S, f e S = (do let p ← fa e S; let q ← fb e p.2; let d ← deref q.2 p.1; let d' ← deref q.2 q.1; let z ← op d d'; some (.v (h z), q.2)))
    (hr : ∀ r S d d' z x y H Q, SR S r H → Rq H r x d → Rq H r y d' → op d d' = some z → Pst r H (h z) Q → rr x y H Q) : ∀ σ H Q, LE K f σ H Q → tOp rr (LE K fa) (LE K fb) σ H Q := by
  intro σ H Q q
  obtain ⟨r, e, S, w, S', hS, hE, hq, k⟩ := q
  rw [hf] at hq
  simp only [Option.bind_eq_bind, Option.bind_eq_some_iff] at hq
  obtain ⟨p, e1, p2, e2, d, e3, d', e4, z, e5, e6⟩ := hq
  cases e6
  obtain ⟨w1, S1⟩ := p
  obtain ⟨w2, S2⟩ := p2
  refine ⟨r, e, S, w1, S1, hS, hE, e1, fun r1 v1 H1 g1 hS1 hw1 => ?_⟩
  refine ⟨r1, e, S1, w2, S2, hS1, hE.gr g1, e2, fun r2 v2 H2 g2 hS2 hw2 => ?_⟩
  refine hr r2 S2 d d' z v1 v2 H2 Q hS2 (deref_rq hS2 (hw1.gr g2) e3) (deref_rq hS2 hw2 e4) e5 fun v H' hk hv => ?_
  exact k r2 v H' ((g1.trans g2).trans (gr_same hk)) (hS2.of_same hk) hv
/-- a test of a comparison -/
theorem lt_of {f : En → Sto → Option (W × Sto)} {t : TE} (h : ∀ σ H Q, LE K f σ H Q → t σ H Q) : ∀ σ H Q, LT K f σ H Q → tTest t σ H Q := by
  intro σ H Q q
  obtain ⟨r, e, S, b, S', hS, hE, hq, k⟩ := q
  exact h σ H _ ⟨r, e, S, .v (.bool b), S', hS, hE, hq, fun r' v H' g hS' hw => ⟨b, rw_bool hw, k r' H' g hS'⟩⟩
theorem lt_of' {f : En → Sto → Option (W × Sto)} {t : TE} (h : ∀ σ H Q, LE K f σ H Q → t σ H Q) : ∀ σ H Q, LT K f σ H Q → tB t σ H Q := lt_of h
end

structure FnG (P : Program) (w : World) (K : PySem.W.Frag) (mg : Str → Option Value) (base : Heap) (k : Nat) (f : Addr) (fd : FuncData) (ps : List Str) (sp : Sp) : Prop where
  len : ∀ vs H Q E, sp vs H Q E → vs.length = ps.length
  run : ∀ (A : Around) (outer : List Env) (s : Shared) (H : Hp) (args : Args) (us : List Value) (vs : List V) (Q : VK) (E : XK), Room k A → A.guards = some [] → Env0 P w K mg base A outer s H →
    BindsTo s fd args (ps.zip us) → Vals vs us → sp vs H Q E → codeAny (model P w) A (.call (.ref f) args) (CR CX0 outer P w H s Q E) s
/-- what the evaluator's g does, as a promise -/
def SpF (K : PySem.W.Frag) (n : Nat) (g : List W → Sto → Option (W × Sto)) : Sp := fun vs H Q _ => vs.length = n ∧ ∃ r S ws w S', SR S r H ∧ Rws K H r ws vs ∧ g ws S = some (w, S') ∧
  ∀ r' v H', Gr r H r' H' → SR S' r' H' → Rw K H' r' w v → Q v H'
section
variable {X : Cx} {k : Nat} {f : Addr} {fd : FuncData} {ps : List Str} {sp : Sp} {x : Str} {p pos : Pos} {e : Expr} {es : List Expr} {t : TA}
theorem run_G {pins : List (Addr × Obj)} {σ : L2.St} {H : Hp} {s : Shared} {Q : VK} {us : List Value} {vs : List V} (F : FnG X.prog X.w X.K X.mg X.base k f fd ps sp) (hr : Room k X.A) (hg : X.A.guards = some []) (hb : Binds X.K fd ps [])
    (I : Inv X pins σ H s) (rv : Vals vs us) (h : sp vs H Q E0) : wpAny (model X.prog X.w) X.A (call (.ref f) us) (EP X pins σ Q) X.xe s := by
  have hl : us.length = ps.length := by
    rw [← rv.length]
    exact F.len _ _ _ _ h
  have b := hb s us I.kIn (by rw [List.append_nil]; exact hl)
  rw [List.append_nil] at b
  refine wpAny_call (codeAny_mono (F.run X.A X.stack s H ⟨us, []⟩ us vs Q E0 hr hg I.env0 b rv h) fun res s' hq => ?_)
  cases res with
  | error e => exact False.elim hq
  | ok fl =>
    cases fl with
    | ret u => exact I.after hq
    | next => exact False.elim hq
    | brk => exact False.elim hq
    | cont => exact False.elim hq
theorem pe_callG (F : FnG X.prog X.w X.K X.mg X.base k f fd ps sp) (hr : Room k X.A) (hg : X.A.guards = some []) (hgl : Gl X x) (hm : X.mg x = some (.ref f)) (hk : PySem.W.keepIn X.K (.ref f) = true) (hb : Binds X.K fd ps []) (ha : PA X (e :: es) t)
    (hdb : (x == ("__debug__" : Str)) = false) (he : starEach (e :: es) X.env = (false, eval e X.env) :: starEach es X.env) (hpl : (backTo pos (starEach es X.env)).any (·.1) = false) :
    PE X (.Call (.Name x p) (e :: es) [] pos) (fun σ H Q => t σ H fun vs H1 => sp vs H1 Q E0) := by
  refine ⟨fun pins s σ H Q I h => ?_⟩
  refine wpAny_Call_Name_kw (ld_glob I hgl hm ?_ hdb)
  refine PySem.W.callWith_K (h₀ := X.base) I.ok.mod.kin hk ?_ he hpl
  exact thn (ha.run pos pins s σ H _ I h) fun us s1 ⟨vs, H1, I1, rv, q⟩ => ⟨I1.kIn, run_G F hr hg hb I1 rv q⟩
theorem pe_callG0 (F : FnG X.prog X.w X.K X.mg X.base k f fd ps sp) (hr : Room k X.A) (hg : X.A.guards = some []) (hgl : Gl X x) (hm : X.mg x = some (.ref f)) (hk : PySem.W.keepIn X.K (.ref f) = true) (hb : Binds X.K fd ps [])
    (hdb : (x == ("__debug__" : Str)) = false) : PE X (.Call (.Name x p) [] [] pos) (fun σ H Q => sp [] H Q E0) := by
  refine ⟨fun pins s σ H Q I h => ?_⟩
  refine wpAny_Call_Name_kw (ld_glob I hgl hm ?_ hdb)
  exact PySem.W.callWith_K0 I.kIn hk (run_G (us := []) F hr hg hb I .nil h)
end
end Pl


namespace Pl
open PySem PySem.Spec PyProof.Rows L2
open AutoSeq1 (wpAny_loadPart')
theorem meets_enum_tuple (l : Addr) (items : Array Value) (n : Nat) (dct : Option Addr) (sl : Array (Option Value)) :
    Meets (Builtin.«enumerate.__new__» ⟨[.type "enumerate", .ref l], []⟩) (fun _ R s => s.heap.get? l = some { cls := .type "tuple", dict := dct, data := .seq items n, slots := sl } ∧
      R (.ok (.ret (.ref (s.heap.push { cls := .type "tuple_iterator", data := .fields #[.ref l, .int 0 0] }).objs.size)))
        { s with heap := (s.heap.push { cls := .type "tuple_iterator", data := .fields #[.ref l, .int 0 0] }).push { cls := .type "enumerate", data := .fields #[.none, .bool false, .ref s.heap.objs.size, rawInt 0, .none, .none] } }) :=
  .of_wp fun prog w A R s h => by
    obtain ⟨hp, g, d, tk, os⟩ := s
    obtain ⟨hl, h⟩ := h
    have hsub := sub_enumerate
    have hT : Heap.IsTuple (Shared.heap ⟨hp, g, d, tk, os⟩) l items := ⟨_, hl, rfl, n, rfl⟩
    wp_walk using wpAny_loadPart' hl
    refine wpAny_stack_any fun st => wpAny_pure ?_
    split
    · rename_i c _ _ _ _ _
      cases (c == Value.type "enumerate")
      all_goals
        wp_walk using wpAny_loadPart' hl, wpAny_pyIter_tuple hT
        exact ⟨_, rfl, h⟩
    · wp_walk using wpAny_loadPart' hl, wpAny_pyIter_tuple hT
      exact ⟨_, rfl, h⟩
section
variable {prog : Program} {w : World} {A : Around} {E : Value → Shared → Prop} {s : Shared}
theorem call_enum_tuple {l : Addr} {items : Array Value} {Q : Value → Shared → Prop} (hL : s.heap.IsTuple l items)
    (h : ∀ h', IsEnum h' (s.heap.objs.size + 1) s.heap.objs.size 0 .none → h'.IsTupleIter s.heap.objs.size l 0 → (∀ b o, s.heap.get? b = some o → h'.get? b = some o) → Q (.ref (s.heap.objs.size + 1)) { s with heap := h' }) :
    wpAny (model prog w) A (call (.type "enumerate") [.ref l]) Q E s := by
  obtain ⟨⟨c, dct, dt, sl⟩, hl, hc, n, hd⟩ := hL
  cases (show c = .type "tuple" from hc)
  cases (show dt = .seq items n from hd)
  refine callType_new F.called_enumerate (by decide) (F.typeCall_enumerate_1 _) (F.newCall_enumerate_1 _) (fun obj => F.args_object_init_2 obj _) F.entry_enumerate_new (meets_enum_tuple l items n dct sl) ⟨hl, ?_⟩
  have hz : (s.heap.push { cls := .type "tuple_iterator", data := .fields #[.ref l, .int 0 0] }).objs.size = s.heap.objs.size + 1 := Heap.size_push ..
  show _ ∧ _
  rw [hz]
  have he : IsEnum ((s.heap.push { cls := .type "tuple_iterator", data := .fields #[.ref l, .int 0 0] }).push
      { cls := .type "enumerate", data := .fields #[.none, .bool false, .ref s.heap.objs.size, rawInt 0, .none, .none] }) (s.heap.objs.size + 1) s.heap.objs.size 0 .none := by
    have q := Heap.get?_push_size (s.heap.push { cls := .type "tuple_iterator", data := .fields #[.ref l, .int 0 0] })
      (o := { cls := .type "enumerate", data := .fields #[.none, .bool false, .ref s.heap.objs.size, rawInt 0, .none, .none] }) rfl
    rw [hz] at q
    exact q
  exact ⟨⟨_, he, rfl⟩, h _ he ⟨_, Heap.get?_push_of_some _ (Heap.get?_push_size _ rfl), rfl, rfl⟩ fun b o x => Heap.get?_push_of_some _ (Heap.get?_push_of_some _ x)⟩
end
/-- the tuple at a, each item in a new pair with its number -/
def ItE (K : PySem.W.Frag) (a : Addr) : It :=
  ⟨fun i H => ∃ (xs : List V) (x : V), SqT K H a xs ∧ H a ≠ none ∧ xs[i]? = some x, fun i H v H' => ∃ T x, v = .ref T ∧ H T = none ∧ H' = upd H T (.tup [.int (i : Nat), x]) ∧ ∀ xs, SqT K H a xs → xs[i]? = some x,
    fun i H => ∃ xs : List V, SqT K H a xs ∧ H a ≠ none ∧ xs.length ≤ i⟩
theorem turn_enumT {P : Program} {w : World} {K : PySem.W.Frag} {elts : List Expr} {kk : Nat} {tpos : Pos} (a e it : Addr) :
    Turn P w K (.Tuple elts kk tpos) (ItE K a) [e, it] e (fun i h => (∃ old, IsEnum h e it ((i : Nat) : Int) old) ∧ h.IsTupleIter it a i ∧ e ≠ it) where
  mem := by simp
  obj := fun i h st b hb => by
    obtain ⟨⟨old, he⟩, ⟨o, ho, hc, hd⟩, _⟩ := st
    have e' : b = e ∨ b = it := by simpa using hb
    rcases e' with z | z
    · rw [z]; exact ⟨_, he, fun v q => nomatch q⟩
    · rw [z]; exact ⟨o, ho, fun v q => by rw [hd] at q; cases q⟩
  keep := fun i h h' st k => let ⟨⟨old, he⟩, hi, hne⟩ := st; ⟨⟨old, k e (by simp) _ he⟩, hi.at fun o q => k it (by simp) o q, hne⟩
  item := by
    intro X hP hw hK hc i pins s σ H E I hf st hg
    subst hP hw hK
    obtain ⟨⟨old, he⟩, hit, hne⟩ := st
    obtain ⟨xs, x, hq, hn, hx⟩ := hg
    obtain ⟨its, rv, p, hz⟩ := I.tuple hq
    obtain ⟨u, hu, ru⟩ := rv.get hx
    have hel : e < s.heap.objs.size := Heap.lt_size he
    have hil : it < s.heap.objs.size := by
      obtain ⟨_, q, _⟩ := hit
      exact Heap.lt_size q
    have nea : a ≠ e := fun z => hn (by rw [z]; exact (hf e (by simp)).1)
    have nia : a ≠ it := fun z => hn (by rw [z]; exact (hf it (by simp)).1)
    have hlt : i < its.toArray.size := by
      rw [List.size_toArray]
      exact (List.getElem?_eq_some_iff.mp hu).1
    refine wpAny_pyNext_enum_itemD (Draws.tuple (A := X.A.in1) (show X.A.in1.handled = none from I.ok.hd hc) it a nia its.toArray) he ⟨hit, p⟩ hlt hne (by simp [hne, Ne.symm nea]) fun y h' tk hP ho hst hT hsz hk => ?_
    have ey : y = u := by
      have h1 : its.toArray[i]? = some y := hP
      rw [List.getElem?_toArray, hu] at h1
      exact (Option.some.inj h1).symm
    subst ey
    refine ⟨_, rfl, wpAny_letOwnedTupleGo_enum (s := { s with heap := h', toks := tk + 1 }) ho fun h'' he' sb => ?_⟩
    have hT2 : h''.get? s.heap.objs.size = some { cls := .type "tuple", data := .seq #[.int i tk, y] } := (sb.2 _ (Nat.ne_of_gt hel)).trans hT
    have new : ObjOk X.prog X.w (upd H s.heap.objs.size (.tup [.int (i : Nat), x])) h'' s.heap.objs.size (.tup [.int (i : Nat), x]) :=
      ⟨by show 2 ≤ sizeLine; decide, [.int i tk, y], .cons ⟨_, rfl⟩ (.cons ru .nil), ⟨_, hT2, rfl, _, rfl⟩⟩
    have I1 : Inv X pins σ (upd H s.heap.objs.size (.tup [.int (i : Nat), x])) { s with heap := h'', toks := tk + 1 } :=
      I.turnedNew (ch := [e, it]) (fun b ob hb q => (sb.2 b (fun z => hb (by simp [z]))).trans (hk b ob (fun z => hb (by simp [z])) (fun z => hb (by simp [z])) q)) hf (Nat.le_refl _) new
    refine ⟨.ref s.heap.objs.size, _, I1, rfl, ⟨_, x, rfl, I.hok.fresh (Nat.le_refl _), rfl, fun ys hy => by rw [I.tuple_inj hy hq]; exact hx⟩, ⟨⟨y, ?_⟩, hst.1.at fun o q => (sb.2 it (Ne.symm hne)).trans q, hne⟩, fun b hb => ?_⟩
    · have e1 : ((i + 1 : Nat) : Int) = (i : Int) + 1 := by omega
      rw [e1]
      exact he'
    · have hb' : b < s.heap.objs.size := by
        rcases List.mem_cons.mp hb with z | hb
        · rw [z]; exact hel
        · have z : b = it := by simpa using hb
          rw [z]; exact hil
      rw [upd_ne (Nat.ne_of_lt hb')]
      exact (hf b hb).1
  done := by
    intro X hP hw hK hc i pins s σ H E I hf st hg
    subst hP hw hK
    obtain ⟨⟨old, he⟩, hit, hne⟩ := st
    obtain ⟨xs, hq, hn, hx⟩ := hg
    obtain ⟨its, rv, p, hz⟩ := I.tuple hq
    obtain ⟨f0, f1, f2, f3, f4, f5⟩ := hf it (by simp)
    have hl := rv.length
    have hT : s.TypeIs (.ref e) "enumerate" := ⟨_, he, rfl⟩
    unfold pyNext
    refine wpAny_bind (wpAny_attempt (wpAny_callSpecial?_slot (name := Str.ofString "__next__") hT F.slot_enumerate_next (wpAny_call_entry F.slot_enumerate_next hT F.entry_enumerate_next ?_ (F.args_enumerate_next_1 _))))
    show wpAny _ _ (field (.ref e) 2 >>= _) _ _ _
    refine wpAny_bind (wpAny_field he rfl (x := .ref it) rfl ?_)
    refine wpAny_bind (wpAny_nextOf_tuple_end (I.ok.hd hc) hit p (by simp; omega) fun h' x he' hx' => ?_)
    obtain ⟨o, ho, hcl⟩ := hx'
    refine wpAny_bind (wpAny_isInstance (T := "StopIteration") (b := true) ⟨o, ho, hcl⟩ isSubtype_stop ?_)
    exact wpAny_pure ⟨rfl, I.turned (t' := s.toks) (fun b o hb q => he' b o hb q) f0 f1 f3 f4 f5⟩
  self := fun A i s Q E st h => let ⟨⟨_, he⟩, _⟩ := st; wpAny_pyIter_enum he h
end Pl


namespace Pl
open PySem PySem.Spec PyProof.Rows L2
def SqB (K : PySem.W.Frag) : Bool → Hp → Addr → List V → Prop
  | true, H, a, xs => SqT K H a xs
  | false, H, a, xs => SqL K H a xs
def IsSB (b : Bool) (h : Heap) (a : Addr) (its : Array Value) : Prop := match b with
  | true => h.IsTuple a its
  | false => h.IsList a its
def IsIB (b : Bool) (h : Heap) (it a : Addr) (i : Nat) : Prop := match b with
  | true => h.IsTupleIter it a i
  | false => h.IsListIter it a i
section
variable {X : Cx} {pins : List (Addr × Obj)} {σ : L2.St} {H : Hp} {s : Shared} {a : Addr} {xs ys : List V}
theorem seq_sqb (I : Inv X pins σ H s) : ∀ {b : Bool}, SqB X.K b H a xs → ∃ its : List Value, Vals xs its ∧ IsSB b s.heap a its.toArray ∧ a < s.heap.objs.size
  | true, h => by
    obtain ⟨its, rv, p, _⟩ := I.tuple h
    obtain ⟨o, ho, _⟩ := id p
    exact ⟨its, rv, p, Heap.lt_size ho⟩
  | false, h => by
    obtain ⟨its, rv, p, _⟩ := I.list h
    exact ⟨its, rv, p.isList, p.lt⟩
theorem isIB_at {h h' : Heap} {it : Addr} {i : Nat} (k : ∀ o, h.get? it = some o → h'.get? it = some o) : ∀ {b : Bool}, IsIB b h it a i → IsIB b h' it a i
  | true, x => Heap.IsTupleIter.at x k
  | false, x => Heap.IsListIter.at x k
theorem isIB_obj {h : Heap} {it : Addr} {i : Nat} : ∀ {b : Bool}, IsIB b h it a i → ∃ o, h.get? it = some o ∧ ∀ v, o.data ≠ .cell v
  | true, ⟨o, e, _, d⟩ => ⟨o, e, fun v q => by rw [d] at q; cases q⟩
  | false, ⟨o, e, _, d⟩ => ⟨o, e, fun v q => by rw [d] at q; cases q⟩
theorem drawsB {prog : Program} {w : World} {A : Around} (hh : A.handled = none) (it l : Addr) (hne : l ≠ it) (items : Array Value) : ∀ b : Bool,
    Draws prog w A it [it, l] items.size (fun i v => items[i]? = some v) (fun i h => IsIB b h it l i ∧ IsSB b h l items)
  | true => Draws.tuple hh it l hne items
  | false => Draws.list hh it l hne items
theorem beginsB (l : Addr) (items : Array Value) : ∀ b : Bool, ∃ o, Begins (.ref l) o (fun h => IsSB b h l items) ∧ ∀ (h : Heap) (it : Addr), h.get? it = some o → IsIB b h it l 0
  | true => ⟨_, begins_tuple l items, fun h it e => ⟨_, e, rfl, rfl⟩⟩
  | false => ⟨_, begins_list l items, fun h it e => ⟨_, e, rfl, rfl⟩⟩
end
/-- zip of two that stay -/
def ItzM (K : PySem.W.Frag) (b1 b2 : Bool) (a b : Addr) (xs ys : List V) : It :=
  ⟨fun i H => SqB K b1 H a xs ∧ SqB K b2 H b ys ∧ i < xs.length ∧ i < ys.length,
    fun i H v H' => ∃ T x y, v = .ref T ∧ H T = none ∧ H' = upd H T (.tup [x, y]) ∧ xs[i]? = some x ∧ ys[i]? = some y,
    fun i H => SqB K b1 H a xs ∧ SqB K b2 H b ys ∧ (xs.length ≤ i ∨ ys.length ≤ i)⟩
theorem turn_zipM {P : Program} {w : World} {K : PySem.W.Frag} {elts : List Expr} {kk : Nat} {tpos : Pos} {b1 b2 : Bool} {a b z TI TO i1 i2 : Addr} {xs ys : List V} (D : ZipSep2 z TI TO i1 i2 [i1, a] [i2, b]) (ha : a ≠ i1) (hb : b ≠ i2) :
    Turn P w K (.Tuple elts kk tpos) (ItzM K b1 b2 a b xs ys) [z, TI, TO, i1, i2] z (fun i h => IsZip h z TI TO .none ∧ IsTupOf2 h TI (.ref i1) (.ref i2) ∧ (∃ x y, IsTupOf2 h TO x y) ∧ IsIB b1 h i1 a i ∧ IsIB b2 h i2 b i ∧ i ≤ xs.length ∧ i ≤ ys.length) where
  mem := by simp
  obj := fun i h st c hc => by
    obtain ⟨hz, hTI, ⟨x, y, hTO⟩, h1, h2, _⟩ := st
    have e' : c = z ∨ c = TI ∨ c = TO ∨ c = i1 ∨ c = i2 := by simpa using hc
    rcases e' with q | q | q | q | q
    · rw [q]; exact ⟨_, hz, fun v q => nomatch q⟩
    · rw [q]; exact ⟨_, hTI, fun v q => nomatch q⟩
    · rw [q]; exact ⟨_, hTO, fun v q => nomatch q⟩
    · rw [q]; exact isIB_obj h1
    · rw [q]; exact isIB_obj h2
  keep := fun i h h' st k => by
    obtain ⟨hz, hTI, ⟨x, y, hTO⟩, h1, h2, h3⟩ := st
    exact ⟨k z (by simp) _ hz, k TI (by simp) _ hTI, ⟨x, y, k TO (by simp) _ hTO⟩, isIB_at (fun o q => k i1 (by simp) o q) h1, isIB_at (fun o q => k i2 (by simp) o q) h2, h3⟩
  item := by
    intro X hP hw hK hc i pins s σ H E I hf st hg
    subst hP hw hK
    obtain ⟨hz, hTI, ⟨x0, y0, hTO⟩, h1, h2, _⟩ := st
    obtain ⟨hqx, hqy, hix, hiy⟩ := hg
    obtain ⟨its, rv, p, _⟩ := seq_sqb I hqx
    obtain ⟨its2, rv2, p2, _⟩ := seq_sqb I hqy
    have l1 := rv.length
    have l2 := rv2.length
    have hx : xs[i]? = some xs[i] := List.getElem?_eq_getElem hix
    have hy : ys[i]? = some ys[i] := List.getElem?_eq_getElem hiy
    obtain ⟨u, hu, ru⟩ := rv.get hx
    obtain ⟨u2, hu2, ru2⟩ := rv2.get hy
    have hzl : z < s.heap.objs.size := Heap.lt_size hz
    refine wpAny_pyNext_zipD2_item D (drawsB (A := X.A.in1) (show X.A.in1.handled = none from I.ok.hd hc) i1 a ha its.toArray b1) (drawsB (A := X.A.in1) (show X.A.in1.handled = none from I.ok.hd hc) i2 b hb its2.toArray b2) hz hTI hTO ⟨h1, p⟩ ⟨h2, p2⟩ (by simp; omega) (by simp; omega) fun x1 x2 h' tk y1 y2 z' TO' s1 s2 hT hsz hk => ?_
    have e1 : x1 = u := by
      have y1 : its.toArray[i]? = some x1 := y1
      rw [List.getElem?_toArray, hu] at y1
      exact (Option.some.inj y1).symm
    have e2 : x2 = u2 := by
      have y2 : its2.toArray[i]? = some x2 := y2
      rw [List.getElem?_toArray, hu2] at y2
      exact (Option.some.inj y2).symm
    subst e1 e2
    refine ⟨_, rfl, wpAny_letOwnedTupleGo_zip (s := { s with heap := h', toks := tk }) z' fun h'' z'' sb => ?_⟩
    have hT2 : h''.get? s.heap.objs.size = some { cls := .type "tuple", data := .seq #[x1, x2] } := (sb.2 _ (Nat.ne_of_gt hzl)).trans hT
    have new : ObjOk X.prog X.w (upd H s.heap.objs.size (.tup [xs[i], ys[i]])) h'' s.heap.objs.size (.tup [xs[i], ys[i]]) :=
      ⟨by show 2 ≤ sizeLine; decide, [x1, x2], .cons ru (.cons ru2 .nil), ⟨_, hT2, rfl, _, rfl⟩⟩
    have I1 : Inv X pins σ (upd H s.heap.objs.size (.tup [xs[i], ys[i]])) { s with heap := h'', toks := tk } :=
      I.turnedNew (t' := tk) (ch := [z, TI, TO, i1, i2]) (fun c o hb q => (sb.2 c (fun q' => hb (by simp [q']))).trans (hk c o (fun q' => hb (by simp [q'])) (fun q' => hb (by simp [q'])) (fun q' => hb (by simp [q'])) (fun q' => hb (by simp [q'])) q)) hf (Nat.le_refl _) new
    refine ⟨.ref s.heap.objs.size, _, I1, rfl, ⟨_, _, _, rfl, I.hok.fresh (Nat.le_refl _), rfl, hx, hy⟩, ⟨z'', ?_, ⟨x1, x2, ?_⟩, ?_, ?_, hix, hiy⟩, fun c hcm => ?_⟩
    · exact (sb.2 _ D.TIz).trans (hk _ _ D.TIz D.TITO D.TIi1 D.TIi2 hTI)
    · exact (sb.2 _ D.TOz).trans TO'
    · exact isIB_at (fun o q => (sb.2 _ D.zi1.symm).trans q) s1.1
    · exact isIB_at (fun o q => (sb.2 _ D.zi2.symm).trans q) s2.1
    · have hlt : c < s.heap.objs.size := by
        have e' : c = z ∨ c = TI ∨ c = TO ∨ c = i1 ∨ c = i2 := by simpa using hcm
        rcases e' with q | q | q | q | q
        · rw [q]; exact hzl
        · rw [q]; exact Heap.lt_size hTI
        · rw [q]; exact Heap.lt_size hTO
        · rw [q]; obtain ⟨_, e1, _⟩ := isIB_obj h1; exact Heap.lt_size e1
        · rw [q]; obtain ⟨_, e2, _⟩ := isIB_obj h2; exact Heap.lt_size e2
      rw [upd_ne (Nat.ne_of_lt hlt)]
      exact (hf c hcm).1
  done := by
    intro X hP hw hK hc i pins s σ H E I hf st hg
    subst hP hw hK
    obtain ⟨hz, hTI, ⟨x0, y0, hTO⟩, h1, h2, hix, hiy⟩ := st
    obtain ⟨hqx, hqy, hend⟩ := hg
    obtain ⟨its, rv, p, _⟩ := seq_sqb I hqx
    obtain ⟨its2, rv2, p2, _⟩ := seq_sqb I hqy
    have l1 := rv.length
    have l2 := rv2.length
    exact wpAny_pyNext_zipD2_end D (drawsB (A := X.A.in1) (show X.A.in1.handled = none from I.ok.hd hc) i1 a ha its.toArray b1) (drawsB (A := X.A.in1) (show X.A.in1.handled = none from I.ok.hd hc) i2 b hb its2.toArray b2) hz hTI hTO ⟨h1, p⟩ ⟨h2, p2⟩ (by simp; omega) (by simp; omega) (by simp; omega) fun h' tk hk => ⟨rfl, I.turnedL (t' := tk) (ch := [z, TI, TO, i1, i2]) (fun c o hb q =>
      hk c o (fun q' => hb (by simp [q'])) (fun q' => hb (by simp [q'])) (fun q' => hb (by simp [q'])) (fun q' => hb (by simp [q'])) q) hf⟩
  self := fun A i s Q E st h => wpAny_pyIter_zip st.1 h
def iZipM (K : PySem.W.Frag) (ta : TA) : TI := fun σ H R => ta σ H fun vs H1 => ∃ b1 b2 a b xs ys, vs = [.ref a, .ref b] ∧ SqB K b1 H1 a xs ∧ SqB K b2 H1 b ys ∧ R (ItzM K b1 b2 a b xs ys) H1
theorem pi_zipM {X : Cx} {e e2 : Expr} {ta : TA} {p pos tpos : Pos} {elts : List Expr} {kk : Nat} (hg : Gl X "zip") (hm : X.mg "zip" = none) (ha : PA X [e, e2] ta)
    (hs : starEach [e, e2] X.env = (false, eval e X.env) :: starEach [e2] X.env) (hpl : (backTo pos (starEach [e2] X.env)).any (·.1) = false) :
    PI X (.Tuple elts kk tpos) (.Call (.Name "zip" p) [e, e2] [] pos) (iZipM X.K ta) := by
  refine ⟨fun pins s σ H R I h => ?_⟩
  refine Call_ (ld_blt I hg hm PyProof.Rows.boot_zip (PyProof.Rows.callWith_type1 (thn (ha.run pos pins s σ H _ I h) fun us s1 ⟨vs, H1, I1, r1, q1⟩ => ?_) hs hpl))
  obtain ⟨b1, b2, a, b, xs, ys, ex, hqx, hqy, q⟩ := q1
  subst ex
  cases r1 with
  | cons r rr =>
    cases rr with
    | cons r' rr =>
      cases rr
      cases r
      cases r'
      have fresh5 : ∀ c, c ∈ [s1.heap.objs.size + 4, s1.heap.objs.size + 2, s1.heap.objs.size + 3, s1.heap.objs.size, s1.heap.objs.size + 1] → FpOk X pins H1 c := fun c hcm => by
        have e' : c = s1.heap.objs.size + 4 ∨ c = s1.heap.objs.size + 2 ∨ c = s1.heap.objs.size + 3 ∨ c = s1.heap.objs.size ∨ c = s1.heap.objs.size + 1 := by simpa using hcm
        have hle : s1.heap.objs.size ≤ c := by
          rcases e' with z | z | z | z | z
          · rw [z]; exact Nat.le_add_right _ _
          · rw [z]; exact Nat.le_add_right _ _
          · rw [z]; exact Nat.le_add_right _ _
          · rw [z]; exact Nat.le_refl _
          · rw [z]; exact Nat.le_add_right _ _
        exact I1.fpOk hle (I1.hok.fresh hle)
      obtain ⟨its, rv, p1, la⟩ := seq_sqb I1 hqx
      obtain ⟨its2, rv2, p2, lb⟩ := seq_sqb I1 hqy
      obtain ⟨o1, B1, k1⟩ := beginsB a its.toArray b1
      obtain ⟨o2, B2, k2⟩ := beginsB b its2.toArray b2
      refine zip_begins2 B1 B2 p1 p2 fun h' hz hTI hTO h1 h2 hsz hk => wpAny_pyIter_zip hz ?_
      have I2 : Inv X pins σ H1 { s1 with heap := h' } := I1.kept (t' := s1.toks) hk
      exact ⟨s1.heap.objs.size + 4, [s1.heap.objs.size + 4, s1.heap.objs.size + 2, s1.heap.objs.size + 3, s1.heap.objs.size, s1.heap.objs.size + 1], _, _, H1, rfl, I2,
        turn_zipM (zip_sep2 (fp1 := [a]) (fp2 := [b]) (fun c hc => by rw [List.mem_singleton.mp hc]; exact la) (fun c hc => by rw [List.mem_singleton.mp hc]; exact lb)) (Nat.ne_of_lt la) (Nat.ne_of_lt (Nat.lt_succ_of_lt lb)),
        ⟨hz, hTI, ⟨_, _, hTO⟩, k1 _ _ h1, k2 _ _ h2, Nat.zero_le _, Nat.zero_le _⟩, fresh5, q⟩
end Pl


namespace Pl
open PySem PySem.Spec PyProof.Rows L2
/-- a pair that was just made -/
def Bm (H : Hp) (r : Rho) (x : V) (d : PyData) : Prop := ∃ T vs ds, x = .ref T ∧ d = .tuple ds ∧ H T = some (.tup vs) ∧ Rps H r vs ds
def Bz (b : Bool) (H : Hp) (r : Rho) (x : V) (d : PyData) : Prop := Rp H r x d ∨ (b = true ∧ Bm H r x d)
/-- from one moment to a later one; addresses that were not in use may be hidden since -/
structure Gp (r : Rho) (H : Hp) (r' : Rho) (H' : Hp) : Prop where
  keep : ∀ a o, H a = some o → some a ∉ r.c → H' a = some o ∧ some a ∉ r'.c
  len : r.c.length ≤ r'.c.length
  old : ∀ (n : Nat) a, n < r.c.length → r'.c[n]? = some (some a) → r.c[n]? = some (some a)
  prt : ∀ a, a ∈ r'.p → a ∈ r.p ∨ H a = none
theorem Gr.gp {r r' : Rho} {H H' : Hp} (g : Gr r H r' H') : Gp r H r' H' := ⟨g.keep, g.len, g.old, fun a m => .inl (by rw [← g.prt]; exact m)⟩
theorem Gr.gpH {r r' : Rho} {H H' : Hp} {D : Addr} (g : Gr r H r' H') (hD : H D = none) : Gp r H (r'.hide D) H' :=
  ⟨g.keep, g.len, g.old, fun a m => (List.mem_cons.mp m).elim (fun e => .inr (by rw [e]; exact hD)) fun m => .inl (by rw [← g.prt]; exact m)⟩
theorem Gp.no {r r' : Rho} {H H' : Hp} (g : Gp r H r' H') {a : Addr} {o : HO} (h : H a = some o) (k : r.No a) : r'.No a :=
  ⟨(g.keep a o h k.1).2, fun m => (g.prt a m).elim k.2 fun e => by rw [h] at e; cases e⟩
theorem Gp.keepR {r r' : Rho} {H H' : Hp} (g : Gp r H r' H') {a : Addr} {u : HO} (h : Rd H a u) (k : some a ∉ r.c) : Rd H' a u := h.elim (fun e => .inl (g.keep a _ e k).1) fun ⟨o, e⟩ => .inr ⟨o, (g.keep a _ e k).1⟩
theorem Gp.noR {r r' : Rho} {H H' : Hp} (g : Gp r H r' H') {a : Addr} {u : HO} (h : Rd H a u) (k : r.No a) : r'.No a := h.elim (fun e => g.no e k) fun ⟨o, e⟩ => g.no e k
mutual
theorem Rp.gp {r r' : Rho} {H H' : Hp} (g : Gp r H r' H') : ∀ {v : V} {d : PyData}, Rp H r v d → Rp H' r' v d
  | _, _, .non => .non
  | _, _, .bl b => .bl b
  | _, _, .int i => .int i
  | _, _, .str x => .str x
  | _, _, .lst h k t => .lst (g.keep _ _ h k.1).1 (g.no h k) (Rps.gp g t)
  | _, _, .tup h k t => .tup (let ⟨o, d, e⟩ := h; ⟨o, d, (g.keep _ _ e k.1).1⟩) (let ⟨_, _, e⟩ := h; g.no e k) (Rps.gp g t)
  | _, _, .dic h k e t => .dic (g.keepR h k.1) (g.noR h k) e (Rps.gp g t)
theorem Rps.gp {r r' : Rho} {H H' : Hp} (g : Gp r H r' H') : ∀ {vs : List V} {ds : List PyData}, Rps H r vs ds → Rps H' r' vs ds
  | _, _, .nil => .nil
  | _, _, .cons h t => .cons (Rp.gp g h) (Rps.gp g t)
end
/-- the iterator J yields ds, from r0, H0 on -/
def WkI (J : L2.It) (r0 : Rho) (H0 : Hp) (b : Bool) (ds : List PyData) : Prop := ∀ r H S, Gp r0 H0 r H → SR S r H →
  (∀ i, i < ds.length → J.go i H) ∧ (∀ i x H' d, ds[i]? = some d → J.yld i H x H' → (∀ a o, H a = some o → H' a = some o) ∧ Bz b H' r x d) ∧ (∀ i, ds.length ≤ i → J.stop i H)
def WkS (K : PySem.W.Frag) (J : L2.It) (r0 : Rho) (H0 : Hp) (b : Bool) : Src → Prop
  | .items ds => WkI J r0 H0 b ds
  | .cell n => ∃ a, J = Itl K a ∧ r0.c[n]? = some (some a)
def LI (K : PySem.W.Frag) (b : Bool) (f : En → Sto → Option (Src × Sto)) : TI := fun σ H R => ∃ r e S src S', SR S r H ∧ ER K e σ H r ∧ f e S = some (src, S') ∧
  ∀ r' J H', Gr r H r' H' → SR S' r' H' → WkS K J r' H' b src → R J H'
def notStar : Expr → Bool
  | .Starred _ _ => false
  | _ => true
theorem star_cons {a : Expr} (h : notStar a = true) (es : List Expr) (env : Env) : starEach (a :: es) env = (false, eval a env) :: starEach es env := by
  cases a <;> first | rfl | cases h
section
variable {X : Cx} {tg : Expr}
theorem pi_imp {it : Expr} {t t' : TI} (h : PI X tg it t) (k : ∀ σ H R, t' σ H R → t σ H R) : PI X tg it t' := ⟨fun pins s σ H R I q => h.run pins s σ H R I (k σ H R q)⟩
theorem pi_or {it : Expr} {t t' : TI} (h : PI X tg it t) (h' : PI X tg it t') : PI X tg it (fun σ H R => t σ H R ∨ t' σ H R) := ⟨fun pins s σ H R I q => q.elim (h.run pins s σ H R I) (h'.run pins s σ H R I)⟩
variable {K : PySem.W.Frag} {r : Rho} {H : Hp} {S : Sto}
theorem wk_list {a : Addr} {vs : List V} {ds : List PyData} (b : Bool) (h : H a = some (.lst vs)) (k : r.No a) (hv : Rps H r vs ds) : WkI (Itl K a) r H b ds := by
  intro r1 H1 S1 g hS
  have h1 := (g.keep a _ h k.1).1
  have hv1 := hv.gp g
  have hl := hv.length
  refine ⟨fun i hi => ?_, fun i x H' d hd hy => ?_, fun i hi => ⟨vs, .inl (.inl h1), by omega⟩⟩
  · obtain ⟨v, e, _⟩ := hv.get (List.getElem?_eq_getElem hi)
    exact ⟨vs, v, .inl (.inl h1), e⟩
  · obtain ⟨rfl, hy⟩ := hy
    obtain ⟨v, e, q⟩ := hv1.get hd
    have e' := hy vs (.inl (.inl h1))
    rw [e] at e'
    cases e'
    exact ⟨fun _ _ q => q, .inl q⟩
theorem wk_tup {a : Addr} {vs : List V} {ds : List PyData} (b : Bool) (h : Ft H a vs) (k : r.No a) (hv : Rps H r vs ds) : WkI (Itt K a) r H b ds := by
  intro r1 H1 S1 g hS
  have h1 : Ft H1 a vs := let ⟨o, d, e⟩ := h; ⟨o, d, (g.keep a _ e k.1).1⟩
  have hv1 := hv.gp g
  have hl := hv.length
  refine ⟨fun i hi => ?_, fun i x H' d hd hy => ?_, fun i hi => ⟨vs, h1.sq, by omega⟩⟩
  · obtain ⟨v, e, _⟩ := hv.get (List.getElem?_eq_getElem hi)
    exact ⟨vs, v, h1.sq, e⟩
  · obtain ⟨rfl, hy⟩ := hy
    obtain ⟨v, e, q⟩ := hv1.get hd
    have e' := hy vs h1.sq
    rw [e] at e'
    cases e'
    exact ⟨fun _ _ q => q, .inl q⟩
theorem pi_seq {ast : Expr} {f : En → Sto → Option (W × Sto)} (b : Bool) (h : PE X ast (LE X.K f)) : PI X tg ast (LI X.K b fun e S => do let p ← f e S; let s ← srcOf p.2 p.1; some (s, p.2)) := by
  refine pi_imp (pi_or (pi_list h) (pi_tup h)) fun σ H R q => ?_
  obtain ⟨r, e, S, src, S', hS, hE, hf, k⟩ := q
  simp only [Option.bind_eq_bind, Option.bind_eq_some_iff] at hf
  obtain ⟨⟨w, S1⟩, e1, s1, e2, e3⟩ := hf
  cases e3
  cases w with
  | v d =>
    simp only [srcOf, Option.map_eq_some_iff] at e2
    obtain ⟨ds, e2, rfl⟩ := e2
    cases d with
    | list ys =>
      cases e2
      refine .inl ⟨r, e, S, .v (.list ds), S1, hS, hE, e1, fun r' v H' g hS' hw => ?_⟩
      cases (show Rp H' r' v (.list ds) from hw) with
      | lst h1 h2 h3 => exact ⟨_, rfl, ⟨_, .inl (.inl h1)⟩, k r' _ H' g hS' (wk_list b h1 h2 h3)⟩
    | tuple ys =>
      cases e2
      refine .inr ⟨r, e, S, .v (.tuple ds), S1, hS, hE, e1, fun r' v H' g hS' hw => ?_⟩
      cases (show Rp H' r' v (.tuple ds) from hw) with
      | tup h1 h2 h3 => exact ⟨_, rfl, ⟨_, h1.sq⟩, k r' _ H' g hS' (wk_tup b h1 h2 h3)⟩
    | none => cases e2
    | bool _ => cases e2
    | int _ => cases e2
    | str _ => cases e2
    | dict _ => cases e2
  | r n =>
    simp only [srcOf, Option.map_eq_some_iff] at e2
    obtain ⟨xs, e2, rfl⟩ := e2
    refine .inl ⟨r, e, S, .r n, S1, hS, hE, e1, fun r' v H' g hS' hw => ?_⟩
    obtain ⟨a, vs, h1, h2, h3⟩ := hS'.cel n xs (look_some e2)
    exact ⟨a, hw.2 a h1, ⟨_, .inl (.inl h2)⟩, k r' _ H' g hS' ⟨a, rfl, h1⟩⟩
  | s ns => cases e2
theorem wk_rng (b : Bool) {lo hi : Int} {n : Nat} (hn : n = (hi - lo).toNat) : WkI (Itr lo n) r H b (rngL lo hi) := by
  intro r1 H1 S1 g hS
  have hl : (rngL lo hi).length = n := by rw [hn]; simp [rngL]
  refine ⟨fun i hi' => by show i < n; omega, fun i x H' d hd hy => ?_, fun i hi' => by show n ≤ i; omega⟩
  obtain ⟨rfl, rfl⟩ := hy
  refine ⟨fun _ _ q => q, .inl ?_⟩
  have e : d = .int (lo + (i : Nat)) := by
    unfold rngL at hd
    rw [List.getElem?_map] at hd
    obtain ⟨j, hj, rfl⟩ := Option.map_eq_some_iff.mp hd
    have := List.getElem?_range (show i < (hi - lo).toNat by
      obtain ⟨h1, _⟩ := List.getElem?_eq_some_iff.mp hj
      simpa using h1)
    rw [this] at hj
    cases hj
    rfl
  rw [e]
  exact .int _
theorem rng_ok {a b : Int} (h : rngOk a b = true) : -(1000000) ≤ a ∧ a ≤ 1000000 ∧ -(1000000) ≤ b ∧ b ≤ 1000000 := by
  unfold rngOk at h
  simp only [Bool.and_eq_true, decide_eq_true_eq] at h
  omega
theorem pi_rng1 {a : Expr} {f : En → Sto → Option (W × Sto)} {p pos : Pos} (b : Bool) (hg : Gl X "range") (hm : X.mg "range" = none) (hs : notStar a = true) (h : PE X a (LE X.K f)) :
    PI X tg (.Call (.Name "range" p) [a] [] pos) (LI X.K b fun e S => do let p ← f e S; let i ← asInt p.2 p.1; if rngOk 0 i then some (.items (rngL 0 i), p.2) else none) := by
  refine pi_imp (pi_range1 hg hm (pa_cons h pa_nil (star_cons hs [] X.env)) (star_cons hs [] X.env)) fun σ H R q => ?_
  obtain ⟨r, e, S, src, S', hS, hE, hf, k⟩ := q
  simp only [Option.bind_eq_bind, Option.bind_eq_some_iff] at hf
  obtain ⟨⟨w, S1⟩, e1, i, e2, e3⟩ := hf
  split at e3
  · next hr =>
    cases e3
    have ew := asInt_of e2
    subst ew
    refine ⟨r, e, S, _, S1, hS, hE, e1, fun r' v H' g hS' hw => ⟨i, by rw [rw_int hw], ?_, ?_, k r' _ H' g hS' (wk_rng b (by simp))⟩⟩
    · have := rng_ok hr
      omega
    · have := rng_ok hr
      omega
  · cases e3
theorem pi_rng2 {a c : Expr} {f f2 : En → Sto → Option (W × Sto)} {p pos : Pos} (b : Bool) (hg : Gl X "range") (hm : X.mg "range" = none) (hs : notStar a = true) (hs2 : notStar c = true) (h : PE X a (LE X.K f)) (h2 : PE X c (LE X.K f2)) :
    PI X tg (.Call (.Name "range" p) [a, c] [] pos) (LI X.K b fun e S => do let p ← f e S; let q ← f2 e p.2; let i ← asInt q.2 p.1; let j ← asInt q.2 q.1; if rngOk i j then some (.items (rngL i j), q.2) else none) := by
  refine pi_imp (pi_range2 hg hm (pa_cons h (pa_cons h2 pa_nil (star_cons hs2 [] X.env)) (star_cons hs _ X.env)) (by rw [star_cons hs, star_cons hs2]; rfl) (by rw [star_cons hs2]; rfl)) fun σ H R q => ?_
  obtain ⟨r, e, S, src, S', hS, hE, hf, k⟩ := q
  simp only [Option.bind_eq_bind, Option.bind_eq_some_iff] at hf
  obtain ⟨⟨w, S1⟩, e1, ⟨w2, S2⟩, e2, i, e3, j, e4, e5⟩ := hf
  split at e5
  · next hr =>
    cases e5
    have ew := asInt_of e3
    have ew2 := asInt_of e4
    subst ew ew2
    refine ⟨r, e, S, _, S1, hS, hE, e1, fun r1 v1 H1 g1 hS1 hw1 => ⟨r1, e, S1, _, S2, hS1, hE.gr g1, e2, fun r2 v2 H2 g2 hS2 hw2 => ⟨i, j, by rw [rw_int hw1, rw_int hw2], ?_, k r2 _ H2 (g1.trans g2) hS2 (wk_rng b rfl)⟩⟩⟩
    have := rng_ok hr
    omega
  · cases e5
theorem mapIdx_get {α β : Type} {f : Nat → α → β} {xs : List α} {i : Nat} {d : β} (h : (xs.mapIdx f)[i]? = some d) : ∃ x, xs[i]? = some x ∧ d = f i x := by
  rw [List.getElem?_mapIdx] at h
  obtain ⟨x, h1, h2⟩ := Option.map_eq_some_iff.mp h
  exact ⟨x, h1, h2.symm⟩
theorem new_pair {T : Addr} {x y : V} {d e : PyData} (hT : H T = none) (h1 : Rp H r x d) (h2 : Rp H r y e) :
    (∀ a o, H a = some o → (upd H T (.tup [x, y])) a = some o) ∧ Bz true (upd H T (.tup [x, y])) r (.ref T) (.tuple [d, e]) := by
  have hs : ∀ a o, H a = some o → (upd H T (.tup [x, y])) a = some o := fun a o q => by rw [upd_ne (ne_of_none q hT)]; exact q
  exact ⟨hs, .inr ⟨rfl, T, [x, y], [d, e], rfl, rfl, upd_same, .cons (h1.gr (gr_same hs)) (.cons (h2.gr (gr_same hs)) .nil)⟩⟩
theorem pi_enumT {e : Expr} {ta : TA} {p pos tpos : Pos} {elts : List Expr} {kk : Nat} (hg : Gl X "enumerate") (hm : X.mg "enumerate" = none) (ha : PA X [e] ta) (hs : starEach [e] X.env = [(false, eval e X.env)]) :
    PI X (.Tuple elts kk tpos) (.Call (.Name "enumerate" p) [e] [] pos) (fun σ H R => ta σ H fun vs H1 => ∃ a xs, vs = [.ref a] ∧ SqT X.K H1 a xs ∧ R (ItE X.K a) H1) := by
  refine ⟨fun pins s σ H R I h => ?_⟩
  refine Call_ (ld_blt I hg hm boot_enumerate (PyProof.Rows.callWith_type1 (thn (ha.run pos pins s σ H _ I h) fun us s1 ⟨vs, H1, I1, r1, q1⟩ => ?_) hs rfl))
  obtain ⟨a, xs, ex, hq, q⟩ := q1
  subst ex
  obtain ⟨u, eu, ru⟩ := vals1 r1
  subst eu
  cases (show u = Value.ref a from ru)
  obtain ⟨its, rv, p', hz⟩ := I1.tuple hq
  refine call_enum_tuple p' fun h' he hit hk => wpAny_pyIter_enum he ?_
  have I2 : Inv X pins σ H1 { s1 with heap := h' } := I1.kept (t' := s1.toks) hk
  refine ⟨s1.heap.objs.size + 1, [s1.heap.objs.size + 1, s1.heap.objs.size], _, _, H1, rfl, I2, turn_enumT a (s1.heap.objs.size + 1) s1.heap.objs.size, ⟨⟨.none, he⟩, hit, Nat.succ_ne_self _⟩, fun b hb => ?_, q⟩
  have e' : b = s1.heap.objs.size + 1 ∨ b = s1.heap.objs.size := by simpa using hb
  have hle : s1.heap.objs.size ≤ b := by
    rcases e' with z | z
    · rw [z]; exact Nat.le_add_right _ _
    · rw [z]; exact Nat.le_refl _
  exact I1.fpOk hle (I1.hok.fresh hle)
theorem pi_enumA {a : Expr} {f : En → Sto → Option (W × Sto)} {p pos tpos : Pos} {elts : List Expr} {kk : Nat} (hg : Gl X "enumerate") (hm : X.mg "enumerate" = none) (hs : notStar a = true) (h : PE X a (LE X.K f)) :
    PI X (.Tuple elts kk tpos) (.Call (.Name "enumerate" p) [a] [] pos) (LI X.K true fun e S => do
      let p ← f e S
      match p.1 with
      | .v d =>
        let xs ← itemsOf d
        some (.items (xs.mapIdx fun i x => .tuple [.int (i : Nat), x]), p.2)
      | _ => none) := by
  have hs1 := star_cons hs [] X.env
  refine pi_imp (pi_or (pi_enum hg hm (pa_cons h pa_nil hs1) hs1) (pi_enumT hg hm (pa_cons h pa_nil hs1) hs1)) fun σ H R q => ?_
  obtain ⟨r, e, S, src, S', hS, hE, hf, k⟩ := q
  simp only [Option.bind_eq_bind, Option.bind_eq_some_iff] at hf
  obtain ⟨⟨w, S1⟩, e1, hf⟩ := hf
  cases w with
  | v d =>
    simp only [Option.bind_eq_some_iff] at hf
    obtain ⟨xs, e2, e3⟩ := hf
    cases e3
    cases d with
    | list ys =>
      cases e2
      refine .inl ⟨r, e, S, _, _, hS, hE, e1, fun r' v H' g hS' hw => ?_⟩
      cases (show Rp H' r' v (.list xs) from hw) with
      | @lst a vs _ h1 h2 h3 =>
        refine ⟨a, vs, rfl, .inl (.inl h1), k r' _ H' g hS' fun r1 H1 S1 g1 hS1 => ?_⟩
        have h1' := (g1.keep a _ h1 h2.1).1
        have h3' := h3.gp g1
        have hl := h3.length
        refine ⟨fun i hi => ?_, fun i x H2 d hd hy => ?_, fun i hi => ⟨vs, .inl (.inl h1'), by simp at hi; omega⟩⟩
        · have hi' : i < xs.length := by simpa using hi
          obtain ⟨v, q1, _⟩ := h3.get (List.getElem?_eq_getElem hi')
          exact ⟨vs, v, .inl (.inl h1'), q1⟩
        · obtain ⟨y, hy1, rfl⟩ := mapIdx_get hd
          obtain ⟨T, z, rfl, hT, rfl, hz⟩ := hy
          obtain ⟨v, q1, q2⟩ := h3'.get hy1
          have e' := hz vs (.inl (.inl h1'))
          rw [q1] at e'
          cases e'
          exact new_pair hT (.int _) q2
    | tuple ys =>
      cases e2
      refine .inr ⟨r, e, S, _, _, hS, hE, e1, fun r' v H' g hS' hw => ?_⟩
      cases (show Rp H' r' v (.tuple xs) from hw) with
      | @tup a vs _ h1 h2 h3 =>
        refine ⟨a, vs, rfl, h1.sq, k r' _ H' g hS' fun r1 H1 S1 g1 hS1 => ?_⟩
        obtain ⟨o, d0, h0⟩ := h1
        have h0' := (g1.keep a _ h0 h2.1).1
        have hn : H1 a ≠ none := fun z => by rw [z] at h0'; cases h0'
        have sq : SqT X.K H1 a vs := .inl (.inr ⟨o, h0'⟩)
        have h3' := h3.gp g1
        have hl := h3.length
        refine ⟨fun i hi => ?_, fun i x H2 d hd hy => ?_, fun i hi => ⟨vs, sq, hn, by simp at hi; omega⟩⟩
        · have hi' : i < xs.length := by simpa using hi
          obtain ⟨v, q1, _⟩ := h3.get (List.getElem?_eq_getElem hi')
          exact ⟨vs, v, sq, hn, q1⟩
        · obtain ⟨y, hy1, rfl⟩ := mapIdx_get hd
          obtain ⟨T, z, rfl, hT, rfl, hz⟩ := hy
          obtain ⟨v, q1, q2⟩ := h3'.get hy1
          have e' := hz vs sq
          rw [q1] at e'
          cases e'
          exact new_pair hT (.int _) q2
    | none => cases e2
    | bool _ => cases e2
    | int _ => cases e2
    | str _ => cases e2
    | dict _ => cases e2
  | r n => cases hf
  | s ns => cases hf
theorem zipWith_get {α β γ : Type} {f : α → β → γ} {xs : List α} {ys : List β} {i : Nat} {d : γ} (h : (List.zipWith f xs ys)[i]? = some d) : ∃ x y, xs[i]? = some x ∧ ys[i]? = some y ∧ d = f x y := by
  rw [List.getElem?_zipWith] at h
  split at h
  · next x y hx hy =>
    cases h
    exact ⟨x, y, hx, hy, rfl⟩
  · cases h
theorem rp_seqB {v : V} {d : PyData} {xs : List PyData} (h : Rp H r v d) (hx : itemsOf d = some xs) : ∃ a vs bk, v = .ref a ∧ Rps H r vs xs ∧ ∀ r' H', Gp r H r' H' → SqB K bk H' a vs := by
  cases h with
  | @lst a vs _ a1 a2 a3 =>
    cases hx
    exact ⟨a, vs, false, rfl, a3, fun r' H' g => .inl (.inl (g.keep a _ a1 a2.1).1)⟩
  | @tup a vs _ a1 a2 a3 =>
    cases hx
    exact ⟨a, vs, true, rfl, a3, fun r' H' g => let ⟨o, _, e⟩ := a1; .inl (.inr ⟨o, (g.keep a _ e a2.1).1⟩)⟩
  | non => cases hx
  | bl _ => cases hx
  | int _ => cases hx
  | str _ => cases hx
  | dic _ _ _ _ => cases hx
theorem Gp.refl (r : Rho) (H : Hp) : Gp r H r H := (Gr.refl r H).gp
theorem pi_zipB {a c : Expr} {f f2 : En → Sto → Option (W × Sto)} {p pos tpos : Pos} {elts : List Expr} {kk : Nat} (hg : Gl X "zip") (hm : X.mg "zip" = none) (hs : notStar a = true) (hs2 : notStar c = true) (h : PE X a (LE X.K f)) (h2 : PE X c (LE X.K f2)) :
    PI X (.Tuple elts kk tpos) (.Call (.Name "zip" p) [a, c] [] pos) (LI X.K true fun e S => do
      let p ← f e S
      let q ← f2 e p.2
      match p.1, q.1 with
      | .v d, .v e =>
        let xs ← itemsOf d
        let ys ← itemsOf e
        some (.items (List.zipWith (fun x y => .tuple [x, y]) xs ys), q.2)
      | _, _ => none) := by
  have hs1 := star_cons hs [c] X.env
  have hs3 := star_cons hs2 [] X.env
  refine pi_imp (pi_zipM hg hm (pa_cons h (pa_cons h2 pa_nil hs3) hs1) hs1 (by rw [hs3]; rfl)) fun σ H R q => ?_
  obtain ⟨r, e, S, src, S', hS, hE, hf, k⟩ := q
  simp only [Option.bind_eq_bind, Option.bind_eq_some_iff] at hf
  obtain ⟨⟨w, S1⟩, e1, ⟨w2, S2⟩, e2, hf⟩ := hf
  refine ⟨r, e, S, w, S1, hS, hE, e1, fun r1 v1 H1 g1 hS1 hw1 => ⟨r1, e, S1, w2, S2, hS1, hE.gr g1, e2, fun r2 v2 H2 g2 hS2 hw2 => ?_⟩⟩
  have hw1 := hw1.gr g2
  have g := g1.trans g2
  split at hf
  · next d d2 q1 q2 =>
    simp only [Option.bind_eq_some_iff] at hf
    obtain ⟨xs, x1, ys, x2, hf⟩ := hf
    cases hf
    cases (show w = .v d from q1)
    cases (show w2 = .v d2 from q2)
    obtain ⟨a, vs, b1, rfl, a3, ka⟩ := rp_seqB (K := X.K) (show Rp H2 r2 v1 d from hw1) x1
    obtain ⟨b, us, b2, rfl, b3, kb⟩ := rp_seqB (K := X.K) (show Rp H2 r2 v2 d2 from hw2) x2
    have la := a3.length
    have lb := b3.length
    refine ⟨b1, b2, a, b, vs, us, rfl, ka r2 H2 (.refl _ _), kb r2 H2 (.refl _ _), k r2 _ H2 g hS2 fun r3 H3 S3 g3 hS3 => ?_⟩
    have a3' := a3.gp g3
    have b3' := b3.gp g3
    have a1' := ka r3 H3 g3
    have b1' := kb r3 H3 g3
    refine ⟨fun i hi => ?_, fun i x H4 d hd hy => ?_, fun i hi => ⟨a1', b1', by simp at hi; omega⟩⟩
    · have hi' : i < xs.length ∧ i < ys.length := by simp at hi; omega
      exact ⟨a1', b1', by omega, by omega⟩
    · obtain ⟨x0, y0, hx, hy0, rfl⟩ := zipWith_get hd
      obtain ⟨T, z, z2, rfl, hT, rfl, hz, hz2⟩ := hy
      obtain ⟨v, k1, k2⟩ := a3'.get hx
      obtain ⟨u, k3, k4⟩ := b3'.get hy0
      rw [k1] at hz
      cases hz
      rw [k3] at hz2
      cases hz2
      exact new_pair hT k2 k4
  · cases hf
theorem wk_rngd (b : Bool) {hi lo : Int} {n : Nat} (hn : n = (hi - lo).toNat) : WkI (Itc hi (-1) n) r H b (rngD hi lo) := by
  intro r1 H1 S1 g hS
  have hl : (rngD hi lo).length = n := by rw [hn]; simp [rngD]
  refine ⟨fun i hi' => by show i < n; omega, fun i x H' d hd hy => ?_, fun i hi' => by show n ≤ i; omega⟩
  obtain ⟨rfl, rfl⟩ := hy
  refine ⟨fun _ _ q => q, .inl ?_⟩
  have e : d = .int (hi + (i : Nat) * (-1)) := by
    unfold rngD at hd
    rw [List.getElem?_map] at hd
    obtain ⟨j, hj, rfl⟩ := Option.map_eq_some_iff.mp hd
    have := List.getElem?_range (show i < (hi - lo).toNat by
      obtain ⟨h1, _⟩ := List.getElem?_eq_some_iff.mp hj
      simpa using h1)
    rw [this] at hj
    cases hj
    show PyData.int _ = _
    congr 1
    omega
  rw [e]
  exact .int _
theorem pi_rngd {a c e3 : Expr} {f f2 : En → Sto → Option (W × Sto)} {p pos : Pos} (b : Bool) (hg : Gl X "range") (hm : X.mg "range" = none) (hs : notStar a = true) (hs2 : notStar c = true) (hs3 : notStar e3 = true) (h : PE X a (LE X.K f)) (h2 : PE X c (LE X.K f2)) (h3 : PE X e3 (LE X.K fun _ S => some (.v (.int (-1)), S))) :
    PI X tg (.Call (.Name "range" p) [a, c, e3] [] pos) (LI X.K b fun e S => do let p ← f e S; let q ← f2 e p.2; let i ← asInt q.2 p.1; let j ← asInt q.2 q.1; if rngOk i j then some (.items (rngD i j), q.2) else none) := by
  refine pi_imp (pi_range3 hg hm (pa_cons h (pa_cons h2 (pa_cons h3 pa_nil (star_cons hs3 [] X.env)) (star_cons hs2 _ X.env)) (star_cons hs _ X.env)) (star_cons hs _ X.env) (by rw [star_cons hs2, star_cons hs3]; rfl)) fun σ H R q => ?_
  obtain ⟨r, e, S, src, S', hS, hE, hf, k⟩ := q
  simp only [Option.bind_eq_bind, Option.bind_eq_some_iff] at hf
  obtain ⟨⟨w, S1⟩, e1, ⟨w2, S2⟩, e2, i, e3, j, e4, e5⟩ := hf
  split at e5
  · next hr =>
    cases e5
    have ew := asInt_of e3
    have ew2 := asInt_of e4
    subst ew ew2
    refine ⟨r, e, S, _, S1, hS, hE, e1, fun r1 v1 H1 g1 hS1 hw1 => ⟨r1, e, S1, _, S2, hS1, hE.gr g1, e2, fun r2 v2 H2 g2 hS2 hw2 => ⟨r2, e, S2, _, S2, hS2, (hE.gr g1).gr g2, rfl, fun r3 v3 H3 g3 hS3 hw3 => ⟨i, j, -1, (i - j).toNat, by rw [rw_int hw1, rw_int hw2, rw_int hw3], ?_, k r3 _ H3 ((g1.trans g2).trans g3) hS3 (wk_rngd b rfl)⟩⟩⟩⟩
    have := rng_ok hr
    exact RgC.neg (by omega) (by omega) (by omega) (by omega)
  · cases e5
end
end Pl


namespace Pl
open PySem PySem.Spec PyProof.Rows L2
section
variable {X : Cx} {K : PySem.W.Frag} {r r' : Rho} {H H' : Hp} {S : Sto} {σ : L2.St} {η : En}
theorem lkup_set {η : En} {i j : Nat} {o : Option W} {w : W} (h : lkup (η.set i o) j = some w) : (i = j ∧ o = some w) ∨ (i ≠ j ∧ lkup η j = some w) := by
  unfold lkup at h ⊢
  rw [List.getElem?_set] at h
  split at h
  · next e =>
    split at h
    · exact .inl ⟨e, by simpa using h⟩
    · simp at h
  · next e => exact .inr ⟨e, h⟩
theorem ER.set {i : Nat} {w : W} {v : V} (h : ER K η σ H r) (hw : Rw K H r w v) : ER K (η.set i (some w)) (σ.set i (some v)) H r := by
  refine ⟨by simp [h.1], fun j w' e => ?_⟩
  rcases lkup_set e with ⟨rfl, e1⟩ | ⟨hne, e1⟩
  · cases e1
    refine ⟨v, ?_, hw⟩
    have hi : i < η.length := by
      unfold lkup at e
      cases q : (η.set i (some w))[i]? with
      | none => rw [q] at e; cases e
      | some _ =>
        have := (List.getElem?_eq_some_iff.mp q).1
        simpa using this
    rw [List.getElem?_set_self (by rw [← h.1]; exact hi)]
  · obtain ⟨v', h1, h2⟩ := h.2 j w' e1
    exact ⟨v', by rw [List.getElem?_set_ne hne]; exact h1, h2⟩
theorem ER.wipe (h : ER K η σ H r) : ∀ vs : List Nat, ER K (wipeE η vs) (wipe σ vs) H r
  | [] => h
  | i :: vs => by
    have ih := ER.wipe h vs
    refine ⟨by simp [wipeE, L2.wipe, ih.1], fun j w' e => ?_⟩
    rcases lkup_set (show lkup ((wipeE η vs).set i none) j = some w' from e) with ⟨rfl, e1⟩ | ⟨hne, e1⟩
    · cases e1
    · obtain ⟨v', h1, h2⟩ := ih.2 j w' e1
      exact ⟨v', by show ((L2.wipe σ vs).set i none)[j]? = _; rw [List.getElem?_set_ne hne]; exact h1, h2⟩
theorem wipe_set_mem {σ : L2.St} {i : Nat} {o : Option V} : ∀ {vs : List Nat}, i ∈ vs → L2.wipe (σ.set i o) vs = L2.wipe σ vs
  | v :: vs, h => by
    by_cases hm : i ∈ vs
    · show (L2.wipe (σ.set i o) vs).set v none = (L2.wipe σ vs).set v none
      rw [wipe_set_mem hm]
    · have e : i = v := by
        rcases List.mem_cons.mp h with e | e
        · exact e
        · exact absurd e hm
      subst e
      show (L2.wipe (σ.set i o) vs).set i none = (L2.wipe σ vs).set i none
      have go : ∀ (vs : List Nat), i ∉ vs → L2.wipe (σ.set i o) vs = (L2.wipe σ vs).set i o := by
        intro vs
        induction vs with
        | nil => intro _; rfl
        | cons u us ih =>
          intro hn
          show (L2.wipe (σ.set i o) us).set u none = ((L2.wipe σ us).set u none).set i o
          rw [ih (fun z => hn (List.mem_cons_of_mem _ z)), List.set_comm]
          intro z
          exact hn (by rw [z]; exact List.mem_cons_self)
      rw [go vs hm, List.set_set]
theorem wipe_idem : ∀ vs : List Nat, ∀ σ : L2.St, L2.wipe (L2.wipe σ vs) vs = L2.wipe σ vs
  | [], _ => rfl
  | v :: vs, σ => by
    show (L2.wipe ((L2.wipe σ vs).set v none) vs).set v none = (L2.wipe σ vs).set v none
    by_cases hm : v ∈ vs
    · rw [wipe_set_mem hm, wipe_idem vs]
    · have e : L2.wipe ((L2.wipe σ vs).set v none) (v :: vs) = L2.wipe (L2.wipe σ vs) (v :: vs) := wipe_set_mem List.mem_cons_self
      have e' : (L2.wipe ((L2.wipe σ vs).set v none) vs).set v none = (L2.wipe (L2.wipe σ vs) vs).set v none := e
      rw [e', wipe_idem vs]

/-- the target's names take the data -/
def TgtOk (K : PySem.W.Frag) (tg : List Nat) (many : Bool) (t : TG) : Prop := ∀ (b : Bool) (r : Rho) (x : V) (d : PyData) (η η' : En) (σ : L2.St) (H : Hp) (Q : L2.St → Hp → Prop),
  (b = true → many = true) → ER K η σ H r → Bz b H r x d → bindT η tg many d = some η' → (∀ σ', ER K η' σ' H r → (∀ vs : List Nat, (∀ i ∈ tg, i ∈ vs) → L2.wipe σ' vs = L2.wipe σ vs) → Q σ' H) → t x σ H Q
theorem tgt_one (i : Nat) : TgtOk K [i] false (gName i) := by
  intro b r x d η η' σ H Q hb hE hz hq k
  have hR : Rp H r x d := by
    rcases hz with z | ⟨z, _⟩
    · exact z
    · exact absurd (hb z) (by decide)
  simp only [bindT, Bool.false_eq_true, if_false, setAll, Option.some.injEq] at hq
  subst hq
  exact k _ (hE.set (w := .v d) hR) fun vs hv => wipe_set_mem (hv i List.mem_cons_self)
/-- a row of plain names -/
def gNames : List Nat → TGs
  | [] => gNil
  | i :: is => gCons (gName i) (gNames is)
theorem tgt_names : ∀ (tg : List Nat) (r : Rho) (xs : List V) (ds : List PyData) (η η' : En) (σ : L2.St) (H : Hp) (Q : L2.St → Hp → Prop), ER K η σ H r → Rps H r xs ds → setAll η tg ds = some η' →
    (∀ σ', ER K η' σ' H r → (∀ vs : List Nat, (∀ i ∈ tg, i ∈ vs) → L2.wipe σ' vs = L2.wipe σ vs) → Q σ' H) → gNames tg xs σ H Q
  | [], r, xs, ds, η, η', σ, H, Q, hE, hR, hq, k => by
    cases hR with
    | nil =>
      cases hq
      exact ⟨rfl, k σ hE fun _ _ => rfl⟩
    | cons a t => cases hq
  | i :: is, r, xs, ds, η, η', σ, H, Q, hE, hR, hq, k => by
    cases hR with
    | nil => cases hq
    | @cons v vs d ds a t =>
      refine ⟨v, vs, rfl, ?_⟩
      refine tgt_names is r vs ds _ η' _ H Q (hE.set (w := .v d) a) t hq fun σ' e w => k σ' e fun us hu => ?_
      rw [w us (fun j hj => hu j (List.mem_cons_of_mem _ hj)), wipe_set_mem (hu i List.mem_cons_self)]
theorem setAll_len : ∀ {tg : List Nat} {ds : List PyData} {η η' : En}, setAll η tg ds = some η' → ds.length = tg.length
  | [], [], _, _, _ => rfl
  | [], _ :: _, _, _, h => by cases h
  | _ :: _, [], _, _, h => by cases h
  | i :: is, d :: ds, η, η', h => congrArg (· + 1) (setAll_len (η := η.set i (some (.v d))) (η' := η') h)
/-- a tuple or a list, item by item -/
def gMany (K : PySem.W.Frag) (n : Nat) (t : TGs) : TG := fun v σ H Q => gTup K n t v σ H Q ∨ gUnl K n t v σ H Q
theorem pg_many {es : List Expr} {k n : Nat} {t : TGs} {pos : Pos} (hc : X.calm = true) (h : PGs X es t) (hn : (assignEach es X.env).length = n) (hst : (assignEach es X.env).findIdx? (·.1) = none) : PG X (.Tuple es k pos) (gMany X.K n t) :=
  ⟨fun pins s σ H v u Q I r q => q.elim (fun q => (pg_tup hc h hn hst).run pins s σ H v u Q I r q) (fun q => (pg_unl hc h hn hst).run pins s σ H v u Q I r q)⟩
theorem tgt_many (tg : List Nat) : TgtOk K tg true (gMany K tg.length (gNames tg)) := by
  intro b r x d η η' σ H Q hb hE hz hq k
  have : ∃ a xs ds, x = .ref a ∧ ((d = .tuple ds ∧ SqT K H a xs) ∨ (d = .list ds ∧ SqL K H a xs)) ∧ Rps H r xs ds := by
    rcases hz with z | ⟨_, T, vs, ds, e1, e2, e3, e4⟩
    · cases z with
      | tup h1 h2 h3 => exact ⟨_, _, _, rfl, .inl ⟨rfl, h1.sq⟩, h3⟩
      | non => cases hq
      | bl _ => cases hq
      | int _ => cases hq
      | str _ => cases hq
      | lst h1 h2 h3 => exact ⟨_, _, _, rfl, .inr ⟨rfl, .inl (.inl h1)⟩, h3⟩
      | dic _ _ _ _ => cases hq
    · exact ⟨T, vs, ds, e1, .inl ⟨e2, .inl (.inl e3)⟩, e4⟩
  obtain ⟨a, xs, ds, rfl, ⟨rfl, e3⟩ | ⟨rfl, e3⟩, e4⟩ := this
  · have hq' : setAll η tg ds = some η' := hq
    exact .inl ⟨a, xs, rfl, e3, by rw [e4.length, setAll_len hq'], tgt_names tg r xs ds η η' σ H Q hE e4 hq' k⟩
  · have hq' : setAll η tg ds = some η' := hq
    exact .inr ⟨a, xs, rfl, e3, by rw [e4.length, setAll_len hq'], tgt_names tg r xs ds η η' σ H Q hE e4 hq' k⟩
def After (K : PySem.W.Frag) (r : Rho) (H : Hp) (o : Out) (D : Ends) : Prop := match o with
  | .nx η S => ∀ r' σ' H', Gr r H r' H' → SR S r' H' → ER K η σ' H' r' → D.nx σ' H'
  | .bk η S => ∀ r' σ' H', Gr r H r' H' → SR S r' H' → ER K η σ' H' r' → D.bk σ' H'
  | .ct η S => ∀ r' σ' H', Gr r H r' H' → SR S r' H' → ER K η σ' H' r' → D.ct σ' H'
  | .rt w S => ∀ r' v H', Gr r H r' H' → SR S r' H' → Rw K H' r' w v → D.rt v H'
theorem After.gr {o : Out} {D : Ends} (g : Gr r H r' H') (h : After K r H o D) : After K r' H' o D := by
  cases o with
  | nx η S => exact fun r2 σ' H2 g2 => h r2 σ' H2 (g.trans g2)
  | bk η S => exact fun r2 σ' H2 g2 => h r2 σ' H2 (g.trans g2)
  | ct η S => exact fun r2 σ' H2 g2 => h r2 σ' H2 (g.trans g2)
  | rt w S => exact fun r2 σ' H2 g2 => h r2 σ' H2 (g.trans g2)
def LS (K : PySem.W.Frag) (f : En → Sto → Option Out) : TS := fun D σ H => ∃ r η S o, SR S r H ∧ ER K η σ H r ∧ f η S = some o ∧ After K r H o D
theorem ps_imp {st : Stmt} {t t' : TS} (h : PS X st t) (k : ∀ D σ H, t' D σ H → t D σ H) : PS X st t' := ⟨fun pins s σ H D I q => h.run pins s σ H D I (k D σ H q)⟩
theorem pss_imp {st : List Stmt} {t t' : TS} (h : PSs X st t) (k : ∀ D σ H, t' D σ H → t D σ H) : PSs X st t' := ⟨fun pins s σ H D I q => h.run pins s σ H D I (k D σ H q)⟩
theorem ls_nil : PSs X [] (LS X.K fun η S => some (.nx η S)) := pss_imp pss_nil fun D σ H q => by
  obtain ⟨r, η, S, o, hS, hE, e, k⟩ := q
  cases e
  exact k r σ H (Gr.refl _ _) hS hE
theorem ls_cons {st : Stmt} {rest : List Stmt} {f g : En → Sto → Option Out} (h1 : PS X st (LS X.K f)) (h2 : PSs X rest (LS X.K g)) :
    PSs X (st :: rest) (LS X.K fun η S => do match ← f η S with | .nx η' S' => g η' S' | o => some o) := pss_imp (pss_cons h1 h2) fun D σ H q => by
  obtain ⟨r, η, S, o, hS, hE, e, k⟩ := q
  simp only [Option.bind_eq_bind, Option.bind_eq_some_iff] at e
  obtain ⟨o1, e1, e2⟩ := e
  refine ⟨r, η, S, o1, hS, hE, e1, ?_⟩
  cases o1 with
  | nx η1 S1 => exact fun r' σ' H' g hS' hE' => ⟨r', η1, S1, o, hS', hE', e2, k.gr g⟩
  | bk η1 S1 => cases e2; exact k
  | ct η1 S1 => cases e2; exact k
  | rt w S1 => cases e2; exact k
theorem ls_for {tg iter : Expr} {body : List Stmt} {pos : Pos} {b many : Bool} {ns : List Nat} {g : TG} {fi : En → Sto → Option (Src × Sto)} {fb : En → Sto → Option Out} (hp : PassesOwn (model X.prog X.w) X.A X.env X.xe) (hc : X.calm = true) (hi : PI X tg iter (LI X.K b fi))
    (hg : PG X tg g) (ht : TgtOk X.K ns many g) (hbm : b = true → many = true) (hb : PSs X body (LS X.K fb)) (hs : ∀ x, foldedSetIterable iter X.env x = pure x) :
    PS X (.For tg iter body [] pos) (LS X.K fun η S => do
      let p ← fi η S
      forS (fun d η1 S1 => do let η2 ← bindT η1 ns many d; fb η2 S1) η p.2 p.1) := ps_imp (ps_for hp hc hi hg hb hs) fun D σ H q => by
  obtain ⟨r, η, S, o, hS, hE, e, k⟩ := q
  simp only [Option.bind_eq_bind, Option.bind_eq_some_iff] at e
  obtain ⟨⟨src, S1⟩, e1, e2⟩ := e
  refine ⟨r, η, S, src, S1, hS, hE, e1, fun r1 J H1 g1 hS1 hW => ?_⟩
  have k1 := k.gr g1
  have hE1 := hE.gr g1
  -- one turn's body
  have body : ∀ {r2 : Rho} {H2 : Hp} {η2 : En} {S2 : Sto} {σ2 : L2.St} {x : V} {d : PyData} {o1 : Out} {N : L2.St → Hp → Prop}, SR S2 r2 H2 → ER X.K η2 σ2 H2 r2 → Bz b H2 r2 x d → (do let η3 ← bindT η2 ns many d; fb η3 S2) = some o1 →
      After X.K r2 H2 o1 { D with nx := N, ct := N, bk := D.nx } → g x σ2 H2 fun σ3 H3 => LS X.K fb { D with nx := N, ct := N, bk := D.nx } σ3 H3 := by
    intro r2 H2 η2 S2 σ2 x d o1 N hS2 hE2 hz he ha
    simp only [Option.bind_eq_bind, Option.bind_eq_some_iff] at he
    obtain ⟨η3, q1, q2⟩ := he
    exact ht b r2 x d η2 η3 σ2 H2 _ hbm hE2 hz q1 fun σ3 hE3 _ => ⟨r2, η3, S2, o1, hS2, hE3, q2, ha⟩
  cases src with
  | items ds =>
    refine ⟨fun i m σ' H' => ∃ r2 η2 S2, Gr r1 H1 r2 H' ∧ SR S2 r2 H' ∧ ER X.K η2 σ' H' r2 ∧ forL (fun d η1 S1 => do let η2 ← bindT η1 ns many d; fb η2 S1) (ds.drop i) η2 S2 = some o ∧ m = ds.length - i, ⟨ds.length, r1, η, S1, Gr.refl _ _, hS1, hE1, e2, by simp⟩, ?_⟩
    rintro i m σ2 H2 ⟨r2, η2, S2, g2, hS2, hE2, q2, rfl⟩
    obtain ⟨wgo, wyl, wst⟩ := hW r2 H2 S2 g2.gp hS2
    by_cases hlt : i < ds.length
    · refine .inr ⟨wgo i hlt, fun σ' H' => ∃ r3 η3 S3, Gr r1 H1 r3 H' ∧ SR S3 r3 H' ∧ ER X.K η3 σ' H' r3 ∧ forL (fun d η1 S1 => do let η2 ← bindT η1 ns many d; fb η2 S1) (ds.drop (i + 1)) η3 S3 = some o,
        fun σ' H' ⟨r3, η3, S3, a1, a2, a3, a4⟩ => ⟨ds.length - (i + 1), by omega, r3, η3, S3, a1, a2, a3, a4, rfl⟩, fun x H3 hy => ?_⟩
      have hd : ds[i]? = some ds[i] := List.getElem?_eq_getElem hlt
      obtain ⟨hk, hz⟩ := wyl i x H3 ds[i] hd hy
      rw [List.drop_eq_getElem_cons hlt] at q2
      simp only [forL, Option.bind_eq_bind] at q2
      rw [Option.bind_eq_some_iff] at q2
      obtain ⟨o1, q3, q4⟩ := q2
      have g3 : Gr r1 H1 r2 H3 := g2.trans (gr_same hk)
      refine body (hS2.of_same hk) (hE2.gr (gr_same hk)) hz q3 ?_
      cases o1 with
      | nx η4 S4 => exact fun r' σ' H' g' hS' hE' => ⟨r', η4, S4, g3.trans g', hS', hE', q4⟩
      | ct η4 S4 => exact fun r' σ' H' g' hS' hE' => ⟨r', η4, S4, g3.trans g', hS', hE', q4⟩
      | bk η4 S4 =>
        cases q4
        exact fun r' σ' H' g' hS' hE' => k1 r' σ' H' (g3.trans g') hS' hE'
      | rt w S4 =>
        cases q4
        exact fun r' σ' H' g' hS' hE' => k1 r' σ' H' (g3.trans g') hS' hE'
    · refine .inl ⟨wst i (by omega), ?_⟩
      rw [List.drop_eq_nil_of_le (by omega)] at q2
      cases q2
      exact k1 r2 σ2 H2 g2 hS2 hE2
  | cell n =>
    obtain ⟨a, rfl, ha⟩ := hW
    have hn : n < r1.c.length := (List.getElem?_eq_some_iff.mp ha).1
    refine ⟨fun i m σ' H' => ∃ r2 η2 S2, Gr r1 H1 r2 H' ∧ SR S2 r2 H' ∧ ER X.K η2 σ' H' r2 ∧ forR (fun d η1 S1 => do let η2 ← bindT η1 ns many d; fb η2 S1) n m i η2 S2 = some o, ⟨lim + 1, r1, η, S1, Gr.refl _ _, hS1, hE1, e2⟩, ?_⟩
    rintro i m σ2 H2 ⟨r2, η2, S2, g2, hS2, hE2, q2⟩
    cases m with
    | zero => cases q2
    | succ m =>
      simp only [forR, Option.bind_eq_bind] at q2
      rw [Option.bind_eq_some_iff] at q2
      obtain ⟨xs, q3, q4⟩ := q2
      obtain ⟨a2, vs, c1, c2, c3⟩ := hS2.cel n xs (look_some q3)
      have ea : a2 = a := by
        have := g2.old n a2 hn c1
        rw [ha] at this
        cases this
        rfl
      subst ea
      have sq : SqL X.K H2 a2 vs := .inl (.inl c2)
      cases hx : xs[i]? with
      | none =>
        rw [hx] at q4
        cases q4
        refine .inl ⟨⟨vs, sq, ?_⟩, k1 r2 σ2 H2 g2 hS2 hE2⟩
        have := List.getElem?_eq_none_iff.mp hx
        rw [c3.length]
        exact this
      | some d =>
        rw [hx] at q4
        simp only at q4
        rw [Option.bind_eq_some_iff] at q4
        obtain ⟨o1, q5, q6⟩ := q4
        obtain ⟨v, v1, v2⟩ := c3.get hx
        refine .inr ⟨⟨vs, v, sq, v1⟩, fun σ' H' => ∃ r3 η3 S3, Gr r1 H1 r3 H' ∧ SR S3 r3 H' ∧ ER X.K η3 σ' H' r3 ∧ forR (fun d η1 S1 => do let η2 ← bindT η1 ns many d; fb η2 S1) n m (i + 1) η3 S3 = some o,
          fun σ' H' ⟨r3, η3, S3, a1, a2, a3, a4⟩ => ⟨m, by omega, r3, η3, S3, a1, a2, a3, a4⟩, fun x H3 hy => ?_⟩
        obtain ⟨rfl, hy⟩ := hy
        have e' := hy vs sq
        rw [v1] at e'
        cases e'
        refine body hS2 hE2 (.inl v2) q5 ?_
        cases o1 with
        | nx η4 S4 => exact fun r' σ' H' g' hS' hE' => ⟨r', η4, S4, g2.trans g', hS', hE', q6⟩
        | ct η4 S4 => exact fun r' σ' H' g' hS' hE' => ⟨r', η4, S4, g2.trans g', hS', hE', q6⟩
        | bk η4 S4 =>
          cases q6
          exact fun r' σ' H' g' hS' hE' => k1 r' σ' H' (g2.trans g') hS' hE'
        | rt w S4 =>
          cases q6
          exact fun r' σ' H' g' hS' hE' => k1 r' σ' H' (g2.trans g') hS' hE'
theorem ls_while {c : Expr} {body : List Stmt} {pos : Pos} {fc : En → Sto → Option (W × Sto)} {fb : En → Sto → Option Out} (hp : PassesOwn (model X.prog X.w) X.A X.env X.xe) (hc : PT X c (LT X.K fc)) (hb : PSs X body (LS X.K fb)) :
    PS X (.While c body [] pos) (LS X.K fun η S => whlL (fun η1 S1 => do
      let p ← fc η1 S1
      let z ← asBool p.1
      some (z, p.2)) (fun η1 S1 => fb η1 S1) lim η S) := ps_imp (ps_while hp hc hb) fun D σ H q => by
  obtain ⟨r, η, S, o, hS, hE, e, k⟩ := q
  refine ⟨fun m σ' H' => ∃ r2 η2 S2, Gr r H r2 H' ∧ SR S2 r2 H' ∧ ER X.K η2 σ' H' r2 ∧ whlL (fun η1 S1 => do
      let p ← fc η1 S1
      let z ← asBool p.1
      some (z, p.2)) (fun η1 S1 => fb η1 S1) m η2 S2 = some o, ⟨lim, r, η, S, Gr.refl _ _, hS, hE, e⟩, ?_⟩
  rintro m σ2 H2 ⟨r2, η2, S2, g2, hS2, hE2, q2⟩
  cases m with
  | zero => cases q2
  | succ m =>
    simp only [whlL, Option.bind_eq_bind] at q2
    rw [Option.bind_eq_some_iff] at q2
    obtain ⟨p1, q3, q4⟩ := q2
    rw [Option.bind_eq_some_iff] at q3
    obtain ⟨⟨w, S3⟩, q5, q6⟩ := q3
    rw [Option.bind_eq_some_iff] at q6
    obtain ⟨z, q7, q8⟩ := q6
    cases q8
    have ew := asBool_of q7
    refine ⟨r2, η2, S2, z, S3, hS2, hE2, by rw [q5]; exact congrArg (fun w => some (w, S3)) ew, fun r3 H3 g3 hS3 => ?_⟩
    have g3' := g2.trans g3
    cases z with
    | false =>
      simp only [Bool.false_eq_true, if_false] at q4 ⊢
      cases q4
      exact k r3 σ2 H3 g3' hS3 (hE2.gr g3)
    | true =>
      simp only [if_true] at q4 ⊢
      rw [Option.bind_eq_some_iff] at q4
      obtain ⟨o1, q9, q10⟩ := q4
      refine ⟨fun σ' H' => ∃ r2 η2 S2, Gr r H r2 H' ∧ SR S2 r2 H' ∧ ER X.K η2 σ' H' r2 ∧ whlL (fun η1 S1 => do
        let p ← fc η1 S1
        let z ← asBool p.1
        some (z, p.2)) (fun η1 S1 => fb η1 S1) m η2 S2 = some o, fun σ' H' h => ⟨m, by omega, h⟩, r3, η2, S3, o1, hS3, hE2.gr g3, q9, ?_⟩
      cases o1 with
      | nx η4 S4 => exact fun r' σ' H' g' hS' hE' => ⟨r', η4, S4, g3'.trans g', hS', hE', q10⟩
      | ct η4 S4 => exact fun r' σ' H' g' hS' hE' => ⟨r', η4, S4, g3'.trans g', hS', hE', q10⟩
      | bk η4 S4 =>
        cases q10
        exact fun r' σ' H' g' hS' hE' => k r' σ' H' (g3'.trans g') hS' hE'
      | rt w S4 =>
        cases q10
        exact fun r' σ' H' g' hS' hE' => k r' σ' H' (g3'.trans g') hS' hE'
end
end Pl


namespace Pl
open PySem PySem.Spec PyProof.Rows L2
section
variable {X : Cx} {K : PySem.W.Frag} {r r' : Rho} {H H' : Hp} {S : Sto} {σ : L2.St} {η : En}
theorem Gr.unhide {D : Addr} {r2 : Rho} (g : Gr (r.hide D) H r2 H') : ∃ r3, r2 = r3.hide D ∧ Gr r H r3 H' :=
  ⟨⟨r2.c, r.p⟩, by cases r2; simp only [Rho.hide]; congr 1; exact g.prt, ⟨g.keep, g.len, g.old, rfl⟩⟩
theorem Rw.hideN {D : Addr} (hD : H D = none) {w : W} {v : V} (h : Rw K H r w v) : Rw K H (r.hide D) w v := by
  cases w with
  | v d => exact Rp.hide hD h
  | r n => exact h
  | s ns => exact h
theorem Rw.over {D : Addr} {o : HO} {acc : List V} (hD : H D = some (.lst acc)) {w : W} {v : V} (h : Rw K H (r.hide D) w v) : Rw K (upd H D o) (r.hide D) w v := by
  cases w with
  | v d => exact Rp.over h
  | r n => exact h
  | s ns =>
    obtain ⟨a, e, q⟩ := h
    refine ⟨a, e, ?_⟩
    rcases q with ⟨o', q1, q2⟩ | q
    · refine .inl ⟨o', ?_, q2⟩
      rw [upd_ne (fun z => by rw [z, hD] at q1; cases q1)]
      exact q1
    · exact .inr q
theorem Rw.upd {p : Addr} {o : HO} (hp : H p = none) {w : W} {v : V} (h : Rw K H r w v) : Rw K (L2.upd H p o) r w v :=
  h.gr (gr_same fun a u e => by rw [upd_ne (ne_of_none e hp)]; exact e)
theorem ER.hideN {D : Addr} {o : HO} (hD : H D = none) (h : ER K η σ H r) : ER K η σ (upd H D o) (r.hide D) :=
  ⟨h.1, fun i w e => let ⟨v, h1, h2⟩ := h.2 i w e; ⟨v, h1, (h2.hideN hD).upd hD⟩⟩
theorem ER.over {D : Addr} {o : HO} {acc : List V} (hD : H D = some (.lst acc)) (h : ER K η σ H (r.hide D)) : ER K η σ (upd H D o) (r.hide D) :=
  ⟨h.1, fun i w e => let ⟨v, h1, h2⟩ := h.2 i w e; ⟨v, h1, h2.over hD⟩⟩
/-- .. where D was not in use at first -/
theorem Gr.overN {D : Addr} {o : HO} {r0 : Rho} {H0 : Hp} (g : Gr r0 H0 r H) (hD : H0 D = none) : Gr r0 H0 r (L2.upd H D o) :=
  ⟨fun a u e k => ⟨by rw [upd_ne (ne_of_none e hD)]; exact (g.keep a u e k).1, (g.keep a u e k).2⟩, g.len, g.old, g.prt⟩
/-- the tests of a comprehension -/
theorem pts_yes : PTs X [] (LT X.K fun _ S => some (.v (.bool true), S)) := ⟨fun pins s σ H Q I h => by
  obtain ⟨r, e, S, b, S', hS, hE, hf, k⟩ := h
  cases hf
  exact pts_nil.run pins s σ H Q I (k r H (Gr.refl _ _) hS)⟩
/-- one turn of a comprehension -/
def lcTurn (tg : List Nat) (many : Bool) (fc fe : En → Sto → Option (W × Sto)) (η : En) (d : PyData) (S1 : Sto) : Option (Option PyData × Sto) := do
  let η1 ← bindT (wipeE η tg) tg many d
  let b ← fc η1 S1
  let z ← asBool b.1
  if z then
    let e ← fe η1 b.2
    match e.1 with
    | .v x => some (some x, e.2)
    | _ => none
  else some (none, b.2)
def lcOut : Option PyData → List PyData → List PyData
  | some x, l => x :: l
  | none, l => l
theorem lcL_cons {f : PyData → Sto → Option (Option PyData × Sto)} {d : PyData} {ds : List PyData} {S : Sto} {q : List PyData × Sto} (h : lcL f (d :: ds) S = some q) :
    ∃ o S1 l S2, f d S = some (o, S1) ∧ lcL f ds S1 = some (l, S2) ∧ q = (lcOut o l, S2) := by
  simp only [lcL, Option.bind_eq_bind] at h
  rw [Option.bind_eq_some_iff] at h
  obtain ⟨⟨o, S1⟩, h1, h2⟩ := h
  rw [Option.bind_eq_some_iff] at h2
  obtain ⟨⟨l, S2⟩, h3, h4⟩ := h2
  refine ⟨o, S1, l, S2, h1, h3, ?_⟩
  cases o <;> cases h4 <;> rfl
theorem lcR_succ {f : PyData → Sto → Option (Option PyData × Sto)} {n k i : Nat} {S : Sto} {q : List PyData × Sto} (h : lcR f n (k + 1) i S = some q) :
    ∃ xs, look S n = some xs ∧ ((xs[i]? = none ∧ q = ([], S)) ∨ ∃ d o S1 l S2, xs[i]? = some d ∧ f d S = some (o, S1) ∧ lcR f n k (i + 1) S1 = some (l, S2) ∧ q = (lcOut o l, S2)) := by
  simp only [lcR, Option.bind_eq_bind] at h
  rw [Option.bind_eq_some_iff] at h
  obtain ⟨xs, h0, h⟩ := h
  refine ⟨xs, h0, ?_⟩
  cases hx : xs[i]? with
  | none =>
    rw [hx] at h
    cases h
    exact .inl ⟨rfl, rfl⟩
  | some d =>
    rw [hx] at h
    simp only at h
    rw [Option.bind_eq_some_iff] at h
    obtain ⟨⟨o, S1⟩, h1, h2⟩ := h
    rw [Option.bind_eq_some_iff] at h2
    obtain ⟨⟨l, S2⟩, h3, h4⟩ := h2
    refine .inr ⟨d, o, S1, l, S2, rfl, h1, h3, ?_⟩
    cases o <;> cases h4 <;> rfl
def lcF (tg : List Nat) (many : Bool) (fi : En → Sto → Option (Src × Sto)) (fc fe : En → Sto → Option (W × Sto)) (η : En) (S : Sto) : Option (W × Sto) := do
  let p ← fi η S
  let q ← lcS (lcTurn tg many fc fe η) p.2 p.1
  if q.1.length ≤ lim then some (.v (.list q.1), q.2) else none
/-- a list that was made at an address of its own, hidden until the end -/
def LH (K : PySem.W.Frag) (f : En → Sto → Option (W × Sto)) : TE := fun σ H Q => ∃ r e S ds S', SR S r H ∧ ER K e σ H r ∧ f e S = some (.v (.list ds), S') ∧
  ∀ r1 H1 S1 r' H' D acc, Gr r H r1 H1 → SR S1 r1 H1 → H1 D = none → Gr r1 H1 r' H' → SR S' (r'.hide D) H' → H' D = some (.lst acc) → Rps H' (r'.hide D) acc ds → Q (.ref D) H'
theorem lh_of {f : En → Sto → Option (W × Sto)} (hf : ∀ η S w S', f η S = some (w, S') → ∃ ds, w = .v (.list ds)) : ∀ σ H Q, LE K f σ H Q → LH K f σ H Q := fun σ H Q q => by
  obtain ⟨r, η, S, w, S', hS, hE, e, k⟩ := q
  obtain ⟨ds, rfl⟩ := hf _ _ _ _ e
  refine ⟨r, η, S, ds, S', hS, hE, e, fun r1 H1 S1 r3 H3 D acc g1 hS1 hD g3 hS3 hDa hR => ?_⟩
  refine k r3 (.ref D) H3 (g1.trans g3) hS3.unhide (.lst hDa ⟨(hS3.prt D List.mem_cons_self).2, fun m => ?_⟩ hR.unhide)
  rw [g3.prt] at m
  exact (hS1.prt D m).1 hD
def cellF (f : En → Sto → Option (W × Sto)) (η : En) (S : Sto) : Option (W × Sto) := do
  let p ← f η S
  match p.1 with
  | .v (.list xs) => some (.r p.2.length, p.2 ++ [.lst xs])
  | _ => none
theorem Rho.No.added {D a : Addr} (k : (r.hide D).No a) : (r.add D).No a := by
  refine ⟨?_, fun z => k.2 (List.mem_cons_of_mem _ z)⟩
  show some a ∉ r.c ++ [some D]
  simp only [List.mem_append, List.mem_singleton, Option.some.injEq, not_or]
  exact ⟨k.1, fun e => k.2 (by rw [e]; exact List.mem_cons_self)⟩
mutual
theorem Rp.added {D : Addr} : ∀ {v : V} {d : PyData}, Rp H (r.hide D) v d → Rp H (r.add D) v d
  | _, _, .non => .non
  | _, _, .bl b => .bl b
  | _, _, .int i => .int i
  | _, _, .str x => .str x
  | _, _, .lst h k t => .lst h k.added (Rps.added t)
  | _, _, .tup h k t => .tup h k.added (Rps.added t)
  | _, _, .dic h k e t => .dic h k.added e (Rps.added t)
theorem Rps.added {D : Addr} : ∀ {vs : List V} {ds : List PyData}, Rps H (r.hide D) vs ds → Rps H (r.add D) vs ds
  | _, _, .nil => .nil
  | _, _, .cons h t => .cons (Rp.added h) (Rps.added t)
end
theorem SR.added {S : Sto} {D : Addr} {acc : List V} {ds : List PyData} (h : SR S (r.hide D) H) (hD : H D = some (.lst acc)) (hR : Rps H (r.hide D) acc ds) (hp : D ∉ r.p) : SR (S ++ [.lst ds]) (r.add D) H := by
  have hnp := (h.prt D List.mem_cons_self).2
  have hl : r.c.length = S.length := h.len
  refine ⟨by show (r.c ++ [some D]).length = _; simp [hl], fun i j a e1 e2 => ?_, fun n ys e ec => ?_, fun n a e => ?_, fun a m => ⟨(h.prt a (List.mem_cons_of_mem _ m)).1, fun z => ?_⟩⟩
  · rcases last_cell e1 with q1 | ⟨q1, w1⟩
    · rcases last_cell e2 with q2 | ⟨q2, w2⟩
      · exact h.inj i j a q1 q2
      · rw [w2] at q1
        exact absurd (List.mem_of_getElem? q1) hnp
    · rcases last_cell e2 with q2 | ⟨q2, w2⟩
      · rw [w1] at q2
        exact absurd (List.mem_of_getElem? q2) hnp
      · omega
  · by_cases hn : n < S.length
    · rw [List.getElem?_append_left hn] at e
      obtain ⟨a, e1, e2⟩ := h.cels n ys e ec
      refine ⟨a, ?_, e2.map (fun _ q => q) fun vs ds q => q.added⟩
      show (r.c ++ [some D])[n]? = _
      rw [List.getElem?_append_left (by rw [hl]; exact hn)]
      exact e1
    · rw [List.getElem?_append_right (by omega)] at e
      cases hk : n - S.length with
      | zero =>
        rw [hk] at e
        simp only [List.getElem?_cons_zero, Option.some.injEq] at e
        subst e
        refine ⟨D, ?_, acc, hD, hR.added⟩
        show (r.c ++ [some D])[n]? = _
        rw [List.getElem?_append_right (by rw [hl]; omega), hl, hk]
        rfl
      | succ k => rw [hk] at e; simp at e
  · rcases last_cell e with q | ⟨q, w⟩
    · obtain ⟨xs', q', qc⟩ := h.trk n a q
      exact ⟨xs', by rw [List.getElem?_append_left (List.getElem?_eq_some_iff.mp q').1]; exact q', qc⟩
    · exact ⟨.lst ds, by rw [q, hl, List.getElem?_append_right (Nat.le_refl _), Nat.sub_self]; rfl, fun e => nomatch e⟩
  · have z : some a ∈ r.c ++ [some D] := z
    simp only [List.mem_append, List.mem_singleton, Option.some.injEq] at z
    rcases z with z | z
    · exact (h.prt a (List.mem_cons_of_mem _ m)).2 z
    · exact hp (by rw [← z]; exact m)
theorem lh_cell {f : En → Sto → Option (W × Sto)} : ∀ σ H Q, LE K (cellF f) σ H Q → LH K f σ H Q := fun σ H Q q => by
  obtain ⟨r, η, S, w, S', hS, hE, e, k⟩ := q
  unfold cellF at e
  simp only [Option.bind_eq_bind, Option.bind_eq_some_iff] at e
  obtain ⟨⟨w1, S1⟩, e1, e2⟩ := e
  simp only at e2
  split at e2
  · next _ ds =>
    cases e2
    refine ⟨r, η, S, ds, S1, hS, hE, e1, fun r1 H1 S0 r3 H3 D acc g1 hS1 hD g3 hS3 hDa hR => ?_⟩
    have hl : r3.c.length = S1.length := hS3.len
    refine k (r3.add D) (.ref D) H3 ?_ (hS3.added hDa hR (fun m => by rw [g3.prt] at m; exact (hS1.prt D m).1 hD)) ⟨?_, fun a ea => ?_⟩
    · refine g1.trans ⟨fun a u ea ka => ⟨(g3.keep a u ea ka).1, ?_⟩, ?_, fun n a hn ea => ?_, g3.prt⟩
      · show some a ∉ r3.c ++ [some D]
        simp only [List.mem_append, List.mem_singleton, Option.some.injEq, not_or]
        exact ⟨(g3.keep a u ea ka).2, ne_of_none ea hD⟩
      · have := g3.len
        show r1.c.length ≤ (r3.c ++ [some D]).length
        simp
        omega
      · have e' : (r3.c ++ [some D])[n]? = some (some a) := ea
        have := g3.len
        rw [List.getElem?_append_left (by omega)] at e'
        exact g3.old n a hn e'
    · show S1.length < (r3.c ++ [some D]).length
      simp [hl]
    · have : (r3.c ++ [some D])[S1.length]? = some (some a) := ea
      rw [← hl, List.getElem?_append_right (Nat.le_refl _), Nat.sub_self] at this
      cases this
      rfl
  · cases e2
theorem le_lcH {b many : Bool} {tg : List Nat} {g : TG} {tt : TT} {te : TE} {fi : En → Sto → Option (Src × Sto)} {fc fe : En → Sto → Option (W × Sto)} (hg : TgtOk K tg many g) (hbm : b = true → many = true)
    (ht : ∀ σ H Q, LT K fc σ H Q → tt σ H Q) (he : ∀ σ H Q, LE K fe σ H Q → te σ H Q) :
    ∀ σ H Q, LH K (lcF tg many fi fc fe) σ H Q → tLc (LI K b fi) g tt te tg σ H Q := by
  intro σ H Q q
  obtain ⟨r, η, S, ds0, S', hS, hE, hf, k⟩ := q
  unfold lcF at hf
  simp only [Option.bind_eq_bind] at hf
  rw [Option.bind_eq_some_iff] at hf
  obtain ⟨⟨src, S1⟩, e1, hf⟩ := hf
  rw [Option.bind_eq_some_iff] at hf
  obtain ⟨⟨full, S2⟩, e2, hf⟩ := hf
  split at hf
  · next hlen =>
    cases hf
    refine ⟨r, η, S, src, S1, hS, hE, e1, fun r1 J H1 g1 hS1 hW D hD => ?_⟩
    have hE1 := hE.gr g1
    have e2 : lcS (lcTurn tg many fc fe η) S1 src = some (full, S2) := e2
    have hlen : full.length ≤ lim := hlen
    -- at the end
    have fin : ∀ {r3 : Rho} {H3 : Hp} {acc : List V}, Gr r1 H1 r3 H3 → SR S2 (r3.hide D) H3 → H3 D = some (.lst acc) → Rps H3 (r3.hide D) acc full → Q (.ref D) H3 :=
      fun {r3 H3 acc} g3 hS3 hDa hR => k r1 H1 S1 r3 H3 D acc g1 hS1 hD g3 hS3 hDa hR
    -- one turn
    have turn : ∀ {r3 : Rho} {H3 : Hp} {S3 : Sto} {acc : List V} {xs0 : List PyData} {x : V} {d : PyData} {o : Option PyData} {S4 : Sto} {l : List PyData} {Nx : Hp → Prop}, Gr r1 H1 r3 H3 → SR S3 (r3.hide D) H3 → ER K (wipeE η tg) (L2.wipe σ tg) H3 (r3.hide D) → H3 D = some (.lst acc) → Rps H3 (r3.hide D) acc xs0 →
        Bz b H3 (r3.hide D) x d → lcTurn tg many fc fe η d S3 = some (o, S4) → xs0 ++ lcOut o l = full →
        (∀ r5 H5 acc5 xs5, Gr r1 H1 r5 H5 → SR S4 (r5.hide D) H5 → ER K (wipeE η tg) (L2.wipe σ tg) H5 (r5.hide D) → H5 D = some (.lst acc5) → Rps H5 (r5.hide D) acc5 xs5 → xs5 ++ l = full → Nx H5) →
        g x (L2.wipe σ tg) H3 fun σ2 H2 => L2.wipe σ2 tg = L2.wipe σ tg ∧ tt σ2 H2 fun bb H4 =>
          if bb = true then te σ2 H4 fun y H5 => ∃ acc, H5 D = some (.lst acc) ∧ acc.length < sizeLine ∧ Nx (upd H5 D (.lst (acc ++ [y]))) else Nx H4 := by
      intro r3 H3 S3 acc xs0 x d o S4 l Nx g3 hS3 hE3 hDa hR hz hq hfull nx
      unfold lcTurn at hq
      simp only [Option.bind_eq_bind] at hq
      rw [Option.bind_eq_some_iff] at hq
      obtain ⟨η1, q1, hq⟩ := hq
      rw [Option.bind_eq_some_iff] at hq
      obtain ⟨⟨wb, S5⟩, q2, hq⟩ := hq
      rw [Option.bind_eq_some_iff] at hq
      obtain ⟨z, q3, hq⟩ := hq
      have ez := asBool_of q3
      simp only at ez
      subst ez
      refine hg b _ x d _ η1 _ H3 _ hbm hE3 hz q1 fun σ2 hE4 hw => ⟨by rw [hw tg (fun i hi => hi), wipe_idem], ?_⟩
      refine ht _ _ _ ⟨_, η1, S3, z, S5, hS3, hE4, q2, fun r4 H4 g4 hS4 => ?_⟩
      obtain ⟨r5, rfl, g5⟩ := g4.unhide
      have hDc := (hS3.prt D List.mem_cons_self).2
      have hD4 := (g4.keep D _ hDa hDc).1
      cases z with
      | false =>
        simp only [Bool.false_eq_true, if_false] at hq ⊢
        cases hq
        exact nx r5 H4 acc xs0 (g3.trans g5) hS4 (hE3.gr g4) hD4 (hR.gr g4) hfull
      | true =>
        simp only [if_true] at hq ⊢
        rw [Option.bind_eq_some_iff] at hq
        obtain ⟨⟨we, S6⟩, q4, hq⟩ := hq
        cases we with
        | v xd =>
          cases hq
          refine he _ _ _ ⟨_, η1, S5, .v xd, S6, hS4, hE4.gr g4, q4, fun r6 y H6 g6 hS6 hy => ?_⟩
          obtain ⟨r7, rfl, g7⟩ := g6.unhide
          have hDc4 := (hS4.prt D List.mem_cons_self).2
          have hD6 := (g6.keep D _ hD4 hDc4).1
          have hR6 := (hR.gr g4).gr g6
          have hl := hR6.length
          have hle : (xs0 ++ xd :: l).length ≤ lim := by
            have : xs0 ++ xd :: l = full := hfull
            rw [this]
            exact hlen
          refine ⟨acc, hD6, ?_, ?_⟩
          · have := lim_line
            simp only [List.length_append, List.length_cons] at hle
            omega
          · refine nx r7 _ (acc ++ [y]) (xs0 ++ [xd]) (((g3.trans g5).trans g7).overN hD) hS6.over ((hE3.gr g4).gr g6 |>.over hD6) upd_same ?_ ?_
            · exact (hR6.append (.cons hy .nil)).over
            · rw [List.append_assoc]
              exact hfull
        | r n => cases hq
        | s ns => cases hq
    have hS0 : SR S1 (r1.hide D) (upd H1 D (.lst [])) := hS1.hide hD
    have hE0 : ER K (wipeE η tg) (L2.wipe σ tg) (upd H1 D (.lst [])) (r1.hide D) := (hE1.wipe tg).hideN hD
    have g0 : Gr r1 H1 r1 (upd H1 D (.lst [])) := (Gr.refl _ _).overN hD
    cases src with
    | items ds =>
      refine ⟨fun i m H3 => ∃ r3 S3 acc xs0 rest, Gr r1 H1 r3 H3 ∧ SR S3 (r3.hide D) H3 ∧ ER K (wipeE η tg) (L2.wipe σ tg) H3 (r3.hide D) ∧ H3 D = some (.lst acc) ∧ Rps H3 (r3.hide D) acc xs0 ∧ lcL (lcTurn tg many fc fe η) (ds.drop i) S3 = some (rest, S2) ∧ xs0 ++ rest = full ∧ m = ds.length - i,
        ⟨ds.length, r1, S1, [], [], full, g0, hS0, hE0, upd_same, .nil, e2, rfl, rfl⟩, ?_⟩
      rintro i m H3 ⟨r3, S3, acc, xs0, rest, g3, hS3, hE3, hDa, hR, q1, hfull, rfl⟩
      obtain ⟨wgo, wyl, wst⟩ := hW (r3.hide D) H3 S3 (g3.gpH hD) hS3
      by_cases hlt : i < ds.length
      · have hd : ds[i]? = some ds[i] := List.getElem?_eq_getElem hlt
        rw [List.drop_eq_getElem_cons hlt] at q1
        obtain ⟨o, S4, l, S5, q2, q3, q4⟩ := lcL_cons q1
        cases q4
        refine .inr ⟨wgo i hlt, fun H5 => ∃ r5 acc5 xs5, Gr r1 H1 r5 H5 ∧ SR S4 (r5.hide D) H5 ∧ ER K (wipeE η tg) (L2.wipe σ tg) H5 (r5.hide D) ∧ H5 D = some (.lst acc5) ∧ Rps H5 (r5.hide D) acc5 xs5 ∧ xs5 ++ l = full,
          fun H5 ⟨r5, acc5, xs5, a1, a2, a3, a4, a5, a6⟩ => ⟨ds.length - (i + 1), by omega, r5, S4, acc5, xs5, l, a1, a2, a3, a4, a5, q3, a6, rfl⟩, fun x H4 hy => ?_⟩
        obtain ⟨hk, hz⟩ := wyl i x H4 ds[i] hd hy
        have gk : Gr r3 H3 r3 H4 := gr_same hk
        have gk' : Gr (r3.hide D) H3 (r3.hide D) H4 := gr_same hk
        exact turn (g3.trans gk) (hS3.of_same hk) (hE3.gr gk') (hk D _ hDa) (hR.gr gk') hz q2 hfull fun r5 H5 acc5 xs5 a1 a2 a3 a4 a5 a6 => ⟨r5, acc5, xs5, a1, a2, a3, a4, a5, a6⟩
      · rw [List.drop_eq_nil_of_le (by omega)] at q1
        cases q1
        rw [List.append_nil] at hfull
        subst hfull
        exact .inl ⟨wst i (by omega), fin g3 hS3 hDa hR⟩
    | cell n =>
      obtain ⟨a, rfl, ha⟩ := hW
      have hn : n < r1.c.length := (List.getElem?_eq_some_iff.mp ha).1
      refine ⟨fun i m H3 => ∃ r3 S3 acc xs0 rest, Gr r1 H1 r3 H3 ∧ SR S3 (r3.hide D) H3 ∧ ER K (wipeE η tg) (L2.wipe σ tg) H3 (r3.hide D) ∧ H3 D = some (.lst acc) ∧ Rps H3 (r3.hide D) acc xs0 ∧ lcR (lcTurn tg many fc fe η) n m i S3 = some (rest, S2) ∧ xs0 ++ rest = full,
        ⟨lim + 1, r1, S1, [], [], full, g0, hS0, hE0, upd_same, .nil, e2, rfl⟩, ?_⟩
      rintro i m H3 ⟨r3, S3, acc, xs0, rest, g3, hS3, hE3, hDa, hR, q1, hfull⟩
      cases m with
      | zero => cases q1
      | succ m =>
        obtain ⟨xs, q2, q3⟩ := lcR_succ q1
        obtain ⟨a2, vs, c1, c2, c3⟩ := hS3.cel n xs (look_some q2)
        have ea : a2 = a := by
          have := g3.old n a2 hn c1
          rw [ha] at this
          cases this
          rfl
        subst ea
        have sq : SqL K H3 a2 vs := .inl (.inl c2)
        rcases q3 with ⟨hx, q4⟩ | ⟨d, o, S4, l, S5, hx, q5, q6, q7⟩
        · cases q4
          rw [List.append_nil] at hfull
          subst hfull
          refine .inl ⟨⟨vs, sq, ?_⟩, fin g3 hS3 hDa hR⟩
          have := List.getElem?_eq_none_iff.mp hx
          rw [c3.length]
          exact this
        · cases q7
          obtain ⟨v, v1, v2⟩ := c3.get hx
          refine .inr ⟨⟨vs, v, sq, v1⟩, fun H5 => ∃ r5 acc5 xs5, Gr r1 H1 r5 H5 ∧ SR S4 (r5.hide D) H5 ∧ ER K (wipeE η tg) (L2.wipe σ tg) H5 (r5.hide D) ∧ H5 D = some (.lst acc5) ∧ Rps H5 (r5.hide D) acc5 xs5 ∧ xs5 ++ l = full,
            fun H5 ⟨r5, acc5, xs5, a1, a2, a3, a4, a5, a6⟩ => ⟨m, by omega, r5, S4, acc5, xs5, l, a1, a2, a3, a4, a5, q6, a6⟩, fun x H4 hy => ?_⟩
          obtain ⟨rfl, hy⟩ := hy
          have e' := hy vs sq
          rw [v1] at e'
          cases e'
          exact turn g3 hS3 hE3 hDa hR (.inl v2) q5 hfull fun r5 H5 acc5 xs5 a1 a2 a3 a4 a5 a6 => ⟨r5, acc5, xs5, a1, a2, a3, a4, a5, a6⟩
  · cases hf
theorem lcF_val {tg : List Nat} {many : Bool} {fi : En → Sto → Option (Src × Sto)} {fc fe : En → Sto → Option (W × Sto)} : ∀ η S w S', lcF tg many fi fc fe η S = some (w, S') → ∃ ds, w = .v (.list ds) := fun η S w S' hf => by
  unfold lcF at hf
  simp only [Option.bind_eq_bind] at hf
  rw [Option.bind_eq_some_iff] at hf
  obtain ⟨_, _, hf⟩ := hf
  rw [Option.bind_eq_some_iff] at hf
  obtain ⟨_, _, hf⟩ := hf
  split at hf
  · cases hf
    exact ⟨_, rfl⟩
  · cases hf
end
end Pl


namespace Pl
open PySem PySem.Spec PyProof.Rows L2
section
variable {X : Cx} {Γ : Fns} {K : PySem.W.Frag} {pos : Pos} {a b c : Expr} {ia ib ic : Ex}
/-- the reading of an IR expression -/
abbrev LEx (K : PySem.W.Frag) (Γ : Fns) (x : Ex) : TE := LE K fun η S => evE Γ η x S
abbrev LTx (K : PySem.W.Frag) (Γ : Fns) (x : Ex) : TT := LT K fun η S => evE Γ η x S
abbrev LAx (K : PySem.W.Frag) (Γ : Fns) (x : Exs) : TA := LA K fun η S => evEs Γ η x S
abbrev LIx (K : PySem.W.Frag) (Γ : Fns) (b : Bool) (x : Iy) : TI := LI K b fun η S => evI Γ η x S
theorem pl_var {i : Nat} {x : Str} (hN : X.N[i]? = some x) (hv : Vis X.env.scope x) (hd : (x == ("__debug__" : Str)) = false) (hcd : (x == ("__classdict__" : Str)) = false) : PE X (.Name x pos) (LEx X.K Γ (.var i)) :=
  pe_imp (pe_var hN hv hd hcd) fun σ H Q q => by
    obtain ⟨r, η, S, w, S', hS, hE, e, k⟩ := q
    simp only [evE, Option.map_eq_some_iff] at e
    obtain ⟨w', e1, e2⟩ := e
    cases e2
    obtain ⟨v, h1, h2⟩ := hE.2 i w e1
    exact ⟨v, h1, k r v H (Gr.refl _ _) hS h2⟩
theorem pl_frz {i : Nat} {x : Str} (hN : X.N[i]? = some x) (hv : Vis X.env.scope x) (hd : (x == ("__debug__" : Str)) = false) (hcd : (x == ("__classdict__" : Str)) = false) : PE X (.Name x pos) (LEx X.K Γ (.frz i)) :=
  pe_imp (pe_var hN hv hd hcd) fun σ H Q q => by
    obtain ⟨r, η, S, w, S', hS, hE, e, k⟩ := q
    simp only [evE, Option.bind_eq_bind, Option.bind_eq_some_iff] at e
    obtain ⟨w', e1, e⟩ := e
    obtain ⟨v, h1, h2⟩ := hE.2 i w' e1
    refine ⟨v, h1, ?_⟩
    cases w' with
    | r n =>
      simp only [Option.bind_eq_some_iff] at e
      obtain ⟨xs, e2, e3⟩ := e
      cases e3
      obtain ⟨a, q1, q2⟩ := hS.gone_val (look_some e2)
      have := h2.2 a q1
      subst this
      exact k (r.kill n) _ H gr_gone hS.gone q2
    | v d => cases e
    | s ns => cases e
theorem le_con {d : PyData} {v : V} (h : ∀ H r, Rp H r v d) : ∀ σ H Q, LEx K Γ (.con d) σ H Q → tC v σ H Q := fun σ H Q q => by
  obtain ⟨r, η, S, w, S', hS, hE, e, k⟩ := q
  cases e
  exact k r v H (Gr.refl _ _) hS (h H r)
def conE (d : PyData) (e : Expr) : Bool := match d, e with
  | .int i, .Constant (.int j) _ _ => decide (i = j)
  | .bool i, .Constant (.bool j) _ _ => i == j
  | .none, .Constant .none _ _ => true
  | .str x, .Constant (.str y) _ _ => decide (x = y)
  | _, _ => false
theorem pl_con {d : PyData} {e : Expr} (h : conE d e = true) : PE X e (LEx X.K Γ (.con d)) := by
  unfold conE at h
  split at h
  · cases of_decide_eq_true h
    exact pe_imp pe_int (le_con fun _ _ => .int _)
  · cases eq_of_beq h
    exact pe_imp pe_bl (le_con fun _ _ => .bl _)
  · exact pe_imp pe_non (le_con fun _ _ => .non)
  · cases of_decide_eq_true h
    exact pe_imp pe_str (le_con fun _ _ => .str _)
  · cases h
theorem pl_glb {x y : Str} {d : PyData} {v : V} {u : Value} (hg : Gl X x) (hm : X.mg x = some u) (r : RelV v u) (hd : (x == ("__debug__" : Str)) = false) (h : ∀ H r, Rp H r v d) : PE X (.Name x pos) (LEx X.K Γ (.glb y d)) :=
  pe_imp (pe_glob hg hm r hd) fun σ H Q q => by
    obtain ⟨r, η, S, w, S', hS, hE, e, k⟩ := q
    cases e
    exact k r v H (Gr.refl _ _) hS (h H r)
theorem pl_bin (op : Bo) (ha : PE X a (LEx X.K Γ ia)) (hb : PE X b (LEx X.K Γ ib)) : PE X (.BinOp a (opB op) b pos) (LEx X.K Γ (.bin op ia ib)) :=
  pe_imp (pe_op (op_bo op) ha hb) (le_two (op := boD op) (h := id) (fun _ _ => rfl) fun r S d d' z x y H Q hS h1 h2 h3 k => ⟨r, S, d, d', z, hS, h1, h2, h3, k⟩)
theorem pl_neg (ha : PE X a (LEx X.K Γ ia)) : PE X (.UnaryOp .USub a pos) (LEx X.K Γ (.neg ia)) :=
  pe_imp (pe_un un_neg ha) fun σ H Q q => by
    obtain ⟨r, η, S, w, S', hS, hE, e, k⟩ := q
    simp only [evE, Option.bind_eq_bind, Option.bind_eq_some_iff] at e
    obtain ⟨⟨w1, S1⟩, e1, i, e2, e3⟩ := e
    cases e3
    have ew := asInt_of e2
    simp only at ew
    subst ew
    exact ⟨r, η, S, _, _, hS, hE, e1, fun r' v H' g hS' hw => ⟨i, rw_int hw, k r' _ H' g hS' (.int _)⟩⟩
def notSet : Expr → Bool
  | .Set _ _ _ => false
  | _ => true
theorem notSet_ok {e : Expr} (h : notSet e = true) (op : CmpOp) : behindInMarks op e = false := by
  cases e <;> first | rfl | cases h
theorem le_cmp (op : Co) {fa fb : En → Sto → Option (W × Sto)} {f : En → Sto → Option (W × Sto)} (hf : ∀ e S, f e S = (do let p ← fa e S; let q ← fb e p.2; let d ← deref q.2 p.1; let d' ← deref q.2 q.1; let z ← coD op d d'; some (.v (.bool z), q.2))) :
    ∀ σ H Q, LE K f σ H Q → tOp (rCo op) (LE K fa) (LE K fb) σ H Q :=
  le_two (op := coD op) (h := PyData.bool) hf fun r S d d' z x y H Q hS h1 h2 h3 k => ⟨r, d, d', z, h1, h2, h3, k.flat (.bl z)⟩
theorem pl_cmp (op : Co) (hu : X.A.units + 200 < cLine) (hs : notSet b = true) (ha : PE X a (LEx X.K Γ ia)) (hb : PE X b (LEx X.K Γ ib)) : PE X (.Compare a [opC op] [b] pos) (LEx X.K Γ (.cmp op ia ib)) :=
  pe_imp (pe_cmpR (op_co op hu) ha hb (notSet_ok hs _)) (le_cmp op fun _ _ => rfl)
theorem pl_cmpT (op : Co) (hu : X.A.units + 200 < cLine) (hs : notSet b = true) (ha : PE X a (LEx X.K Γ ia)) (hb : PE X b (LEx X.K Γ ib)) : PT X (.Compare a [opC op] [b] pos) (LTx X.K Γ (.cmp op ia ib)) :=
  pt_imp (pt_cmpR (op_co op hu) ha hb (notSet_ok hs _)) (lt_of (le_cmp op fun _ _ => rfl))
theorem le_chain (o1 o2 : Co) : ∀ σ H Q, LEx K Γ (.chain o1 o2 ia ib ic) σ H Q → tChain (rCo o1) (rCo o2) (LEx K Γ ia) (LEx K Γ ib) (LEx K Γ ic) σ H Q := fun σ H Q q => by
  obtain ⟨r, η, S, w, S', hS, hE, e, k⟩ := q
  simp only [evE, Option.bind_eq_bind, Option.bind_eq_some_iff] at e
  obtain ⟨⟨w1, S1⟩, e1, ⟨w2, S2⟩, e2, d, e3, d', e4, z, e5, e6⟩ := e
  refine ⟨r, η, S, w1, S1, hS, hE, e1, fun r1 v1 H1 g1 hS1 hw1 => ⟨r1, η, S1, w2, S2, hS1, hE.gr g1, e2, fun r2 v2 H2 g2 hS2 hw2 => ?_⟩⟩
  refine ⟨r2, d, d', z, deref_rq hS2 (hw1.gr g2) e3, deref_rq hS2 hw2 e4, e5, z, rfl, ?_⟩
  cases z with
  | false =>
    simp only [Bool.false_eq_true, if_false] at e6 ⊢
    cases e6
    exact k r2 _ H2 (g1.trans g2) hS2 (.bl false)
  | true =>
    simp only [if_true] at e6 ⊢
    obtain ⟨⟨w3, S3⟩, e7, d2, e8, d3, e9, y, e10, e11⟩ := (by simpa only [Option.bind_eq_some_iff] using e6)
    cases e11
    refine ⟨r2, η, S2, w3, S3, hS2, (hE.gr g1).gr g2, e7, fun r3 v3 H3 g3 hS3 hw3 => ?_⟩
    exact ⟨r3, d2, d3, y, deref_rq hS3 (hw2.gr g3) e8, deref_rq hS3 hw3 e9, e10, k r3 _ H3 ((g1.trans g2).trans g3) hS3 (.bl y)⟩
theorem notSet_ok2 {b c : Expr} (hc : notSet c = true) (o1 o2 : CmpOp) : lastMarks [o1, o2] [b, c] = false := notSet_ok hc o2
theorem pl_chain (o1 o2 : Co) (hu : X.A.units + 200 < cLine) (hs : notSet c = true) (ha : PE X a (LEx X.K Γ ia)) (hb : PE X b (LEx X.K Γ ib)) (hc : PE X c (LEx X.K Γ ic)) : PE X (.Compare a [opC o1, opC o2] [b, c] pos) (LEx X.K Γ (.chain o1 o2 ia ib ic)) :=
  pe_imp (pe_chain (op_co o1 hu) (op_co o2 hu) ha hb hc (notSet_ok2 hs _ _)) (le_chain o1 o2)
theorem pl_chainT (o1 o2 : Co) (hu : X.A.units + 200 < cLine) (hs : notSet c = true) (ha : PE X a (LEx X.K Γ ia)) (hb : PE X b (LEx X.K Γ ib)) (hc : PE X c (LEx X.K Γ ic)) : PT X (.Compare a [opC o1, opC o2] [b, c] pos) (LTx X.K Γ (.chain o1 o2 ia ib ic)) :=
  pt_imp (pt_chain (op_co o1 hu) (op_co o2 hu) ha hb hc (notSet_ok2 hs _ _)) (lt_of (le_chain o1 o2))
theorem non_iff {H : Hp} {r : Rho} {v : V} {d : PyData} (h : Rp H r v d) : decide (v = .non) = isNoneD d := by
  cases h <;> simp [isNoneD]
theorem le_isn (ng : Bool) : ∀ σ H Q, LEx K Γ (.isn ng ia) σ H Q → (if ng then tNotN (LEx K Γ ia) else tIsN (LEx K Γ ia)) σ H Q := fun σ H Q q => by
  obtain ⟨r, η, S, w, S', hS, hE, e, k⟩ := q
  simp only [evE, Option.bind_eq_bind, Option.bind_eq_some_iff] at e
  obtain ⟨⟨w1, S1⟩, e1, e2⟩ := e
  cases w1 with
  | v d =>
    cases e2
    cases ng with
    | false => exact ⟨r, η, S, _, _, hS, hE, e1, fun r' v H' g hS' hw => k r' _ H' g hS' (by rw [non_iff hw]; simp only [Bool.bne_false]; exact Rp.bl _)⟩
    | true => exact ⟨r, η, S, _, _, hS, hE, e1, fun r' v H' g hS' hw => k r' _ H' g hS' (by rw [non_iff hw]; simp only [Bool.bne_true]; exact Rp.bl _)⟩
  | r n => cases e2
  | s n => cases e2
theorem pl_isn {j : Nat} {p : Pos} (ng : Bool) (ha : PE X a (LEx X.K Γ ia)) : PE X (.Compare a [if ng then .IsNot else .Is] [.Constant .none j p] pos) (LEx X.K Γ (.isn ng ia)) := by
  cases ng with
  | false => exact pe_imp (pe_cmp (pc_isN ha) rfl) (le_isn false)
  | true => exact pe_imp (pe_cmp (pc_notN ha) rfl) (le_isn true)
theorem pl_isnT {j : Nat} {p : Pos} (ng : Bool) (ha : PE X a (LEx X.K Γ ia)) : PT X (.Compare a [if ng then .IsNot else .Is] [.Constant .none j p] pos) (LTx X.K Γ (.isn ng ia)) := by
  cases ng with
  | false => exact pt_imp (pt_cmp (pc_isN ha) rfl) (lt_of' (le_isn false))
  | true => exact pt_imp (pt_cmp (pc_notN ha) rfl) (lt_of' (le_isn true))
theorem le_ist (ng k : Bool) : ∀ σ H Q, LEx K Γ (.ist ng k ia) σ H Q → tOp (if ng then rNotB else rIsB) (LEx K Γ ia) (tC (.bl k)) σ H Q := fun σ H Q q => by
  obtain ⟨r, η, S, w, S', hS, hE, e, kk⟩ := q
  simp only [evE, Option.bind_eq_bind, Option.bind_eq_some_iff] at e
  obtain ⟨⟨w1, S1⟩, e1, b, e2, e3⟩ := e
  cases e3
  have ew := asBool_of e2
  simp only at ew
  subst ew
  refine ⟨r, η, S, _, _, hS, hE, e1, fun r' v H' g hS' hw => ?_⟩
  rw [rw_bool hw]
  cases ng with
  | false => exact ⟨b, k, rfl, rfl, kk r' _ H' g hS' (by cases b <;> cases k <;> exact Rp.bl _)⟩
  | true => exact ⟨b, k, rfl, rfl, kk r' _ H' g hS' (by cases b <;> cases k <;> exact Rp.bl _)⟩
theorem pl_ist {j : Nat} {p : Pos} (ng k : Bool) (ha : PE X a (LEx X.K Γ ia)) : PE X (.Compare a [if ng then .IsNot else .Is] [.Constant (.bool k) j p] pos) (LEx X.K Γ (.ist ng k ia)) := by
  cases ng with
  | false => exact pe_imp (pe_cmpR op_isBl ha pe_bl rfl) (le_ist false k)
  | true => exact pe_imp (pe_cmpR op_notBl ha pe_bl rfl) (le_ist true k)
theorem pl_istT {j : Nat} {p : Pos} (ng k : Bool) (ha : PE X a (LEx X.K Γ ia)) : PT X (.Compare a [if ng then .IsNot else .Is] [.Constant (.bool k) j p] pos) (LTx X.K Γ (.ist ng k ia)) := by
  cases ng with
  | false => exact pt_imp (pt_cmpR op_isBl ha pe_bl rfl) (lt_of (le_ist false k))
  | true => exact pt_imp (pt_cmpR op_notBl ha pe_bl rfl) (lt_of (le_ist true k))
def plainT : Expr → Bool
  | .UnaryOp .Not _ _ => false
  | .BoolOp _ _ _ => false
  | .IfExp _ _ _ _ => false
  | .Compare _ _ _ _ => false
  | _ => true
theorem plainT_ok {e : Expr} (h : plainT e = true) (env : Env) (whole : Sem Value) : isTrue e env whole = (do let v ← whole; standAt e.pos; holding [v] (truthy v)) := by
  cases e <;> first | rfl | cases h | skip
  next op x p => cases op <;> first | rfl | cases h
theorem pl_T {e : Expr} {x : Ex} (h : PE X e (LEx X.K Γ x)) (hp : plainT e = true) : PT X e (LTx X.K Γ x) := pt_imp (pt_val h (plainT_ok hp X.env)) (lt_of' fun _ _ _ q => q)
theorem pl_and {rest : List Expr} (ha : PE X a (LEx X.K Γ ia)) (hb : PE X (.BoolOp .And (b :: rest) pos) (LEx X.K Γ ib)) : PE X (.BoolOp .And (a :: b :: rest) pos) (LEx X.K Γ (.and ia ib)) :=
  pe_imp (pe_and ha hb) fun σ H Q q => by
    obtain ⟨r, η, S, w, S', hS, hE, e, k⟩ := q
    simp only [evE, Option.bind_eq_bind, Option.bind_eq_some_iff] at e
    obtain ⟨⟨w1, S1⟩, e1, c, e2, e3⟩ := e
    have ew := asBool_of e2
    simp only at ew
    subst ew
    refine ⟨r, η, S, _, S1, hS, hE, e1, fun r' v H' g hS' hw => ⟨c, rw_bool hw, ?_⟩⟩
    cases c with
    | true =>
      simp only [if_true] at e3 ⊢
      exact ⟨r', η, S1, w, S', hS', hE.gr g, e3, fun r2 v2 H2 g2 => k r2 v2 H2 (g.trans g2)⟩
    | false =>
      simp only [Bool.false_eq_true, if_false] at e3 ⊢
      cases e3
      exact k r' _ H' g hS' (.bl false)
theorem pl_or {rest : List Expr} (ha : PE X a (LEx X.K Γ ia)) (hb : PE X (.BoolOp .Or (b :: rest) pos) (LEx X.K Γ ib)) : PE X (.BoolOp .Or (a :: b :: rest) pos) (LEx X.K Γ (.or ia ib)) :=
  pe_imp (pe_or ha hb) fun σ H Q q => by
    obtain ⟨r, η, S, w, S', hS, hE, e, k⟩ := q
    simp only [evE, Option.bind_eq_bind, Option.bind_eq_some_iff] at e
    obtain ⟨⟨w1, S1⟩, e1, c, e2, e3⟩ := e
    have ew := asBool_of e2
    simp only at ew
    subst ew
    refine ⟨r, η, S, _, S1, hS, hE, e1, fun r' v H' g hS' hw => ⟨c, rw_bool hw, ?_⟩⟩
    cases c with
    | false =>
      simp only [Bool.false_eq_true, if_false] at e3 ⊢
      exact ⟨r', η, S1, w, S', hS', hE.gr g, e3, fun r2 v2 H2 g2 => k r2 v2 H2 (g.trans g2)⟩
    | true =>
      simp only [if_true] at e3 ⊢
      cases e3
      exact k r' _ H' g hS' (.bl true)
theorem lt_and : ∀ σ H Q, LTx K Γ (.and ia ib) σ H Q → tAnd (LTx K Γ ia) (LTx K Γ ib) σ H Q := fun σ H Q q => by
  obtain ⟨r, η, S, w, S', hS, hE, e, k⟩ := q
  simp only [evE, Option.bind_eq_bind, Option.bind_eq_some_iff] at e
  obtain ⟨⟨w1, S1⟩, e1, c, e2, e3⟩ := e
  have ew := asBool_of e2
  simp only at ew
  subst ew
  refine ⟨r, η, S, c, S1, hS, hE, e1, fun r' H' g hS' => ?_⟩
  cases c with
  | true =>
    simp only [if_true] at e3 ⊢
    exact ⟨r', η, S1, w, S', hS', hE.gr g, e3, fun r2 H2 g2 => k r2 H2 (g.trans g2)⟩
  | false =>
    simp only [Bool.false_eq_true, if_false] at e3 ⊢
    cases e3
    exact k r' H' g hS'
theorem lt_or : ∀ σ H Q, LTx K Γ (.or ia ib) σ H Q → tOr (LTx K Γ ia) (LTx K Γ ib) σ H Q := fun σ H Q q => by
  obtain ⟨r, η, S, w, S', hS, hE, e, k⟩ := q
  simp only [evE, Option.bind_eq_bind, Option.bind_eq_some_iff] at e
  obtain ⟨⟨w1, S1⟩, e1, c, e2, e3⟩ := e
  have ew := asBool_of e2
  simp only at ew
  subst ew
  refine ⟨r, η, S, c, S1, hS, hE, e1, fun r' H' g hS' => ?_⟩
  cases c with
  | false =>
    simp only [Bool.false_eq_true, if_false] at e3 ⊢
    exact ⟨r', η, S1, w, S', hS', hE.gr g, e3, fun r2 H2 g2 => k r2 H2 (g.trans g2)⟩
  | true =>
    simp only [if_true] at e3 ⊢
    cases e3
    exact k r' H' g hS'
theorem pl_not (ha : PE X a (LEx X.K Γ ia)) : PE X (.UnaryOp .Not a pos) (LEx X.K Γ (.not ia)) :=
  pe_imp (pe_not ha) fun σ H Q q => by
    obtain ⟨r, η, S, w, S', hS, hE, e, k⟩ := q
    simp only [evE, Option.bind_eq_bind, Option.bind_eq_some_iff] at e
    obtain ⟨⟨w1, S1⟩, e1, c, e2, e3⟩ := e
    cases e3
    have ew := asBool_of e2
    simp only at ew
    subst ew
    exact ⟨r, η, S, _, _, hS, hE, e1, fun r' v H' g hS' hw => ⟨c, rw_bool hw, k r' _ H' g hS' (.bl _)⟩⟩
theorem pl_notT (ha : PT X a (LTx X.K Γ ia)) : PT X (.UnaryOp .Not a pos) (LTx X.K Γ (.not ia)) :=
  pt_imp (pt_not ha) fun σ H Q q => by
    obtain ⟨r, η, S, w, S', hS, hE, e, k⟩ := q
    simp only [evE, Option.bind_eq_bind, Option.bind_eq_some_iff] at e
    obtain ⟨⟨w1, S1⟩, e1, c, e2, e3⟩ := e
    cases e3
    have ew := asBool_of e2
    simp only at ew
    subst ew
    exact ⟨r, η, S, _, _, hS, hE, e1, fun r' H' g hS' => k r' H' g hS'⟩
theorem pl_ife (hc : PT X c (LTx X.K Γ ic)) (ha : PE X a (LEx X.K Γ ia)) (hb : PE X b (LEx X.K Γ ib)) : PE X (.IfExp c a b pos) (LEx X.K Γ (.ife ic ia ib)) :=
  pe_imp (pe_ifExp hc ha hb) fun σ H Q q => by
    obtain ⟨r, η, S, w, S', hS, hE, e, k⟩ := q
    simp only [evE, Option.bind_eq_bind, Option.bind_eq_some_iff] at e
    obtain ⟨⟨w1, S1⟩, e1, z, e2, e3⟩ := e
    have ew := asBool_of e2
    simp only at ew
    subst ew
    refine ⟨r, η, S, z, S1, hS, hE, e1, fun r' H' g hS' => ?_⟩
    cases z with
    | true =>
      simp only [if_true] at e3 ⊢
      exact ⟨r', η, S1, w, S', hS', hE.gr g, e3, fun r2 v2 H2 g2 => k r2 v2 H2 (g.trans g2)⟩
    | false =>
      simp only [Bool.false_eq_true, if_false] at e3 ⊢
      exact ⟨r', η, S1, w, S', hS', hE.gr g, e3, fun r2 v2 H2 g2 => k r2 v2 H2 (g.trans g2)⟩
theorem pl_nil : PA X [] (LAx X.K Γ .nil) := pa_imp pa_nil fun σ H Q q => by
  obtain ⟨r, η, S, ws, S', hS, hE, e, k⟩ := q
  cases e
  exact k r [] H (Gr.refl _ _) hS .nil
theorem pl_cons {e : Expr} {es : List Expr} {x : Ex} {xs : Exs} (hs : notStar e = true) (h : PE X e (LEx X.K Γ x)) (hr : PA X es (LAx X.K Γ xs)) : PA X (e :: es) (LAx X.K Γ (.cons x xs)) :=
  pa_imp (pa_cons h hr (star_cons hs es X.env)) fun σ H Q q => by
    obtain ⟨r, η, S, ws, S', hS, hE, e, k⟩ := q
    simp only [evEs, Option.bind_eq_bind, Option.bind_eq_some_iff] at e
    obtain ⟨⟨w1, S1⟩, e1, ⟨w2, S2⟩, e2, e3⟩ := e
    cases e3
    exact ⟨r, η, S, _, _, hS, hE, e1, fun r1 v H1 g1 hS1 hw1 => ⟨r1, η, S1, _, _, hS1, hE.gr g1, e2, fun r2 vs H2 g2 hS2 hw2 => k r2 _ H2 (g1.trans g2) hS2 (.cons (hw1.gr g2) hw2)⟩⟩
/-- a tuple display: the object is known -/
theorem pe_tupF {es : List Expr} {t : TA} {x1 : Nat} (h : PA X es t) : PE X (.Tuple es x1 pos) (fun σ H Q => t σ H fun xs H1 => xs.length ≤ sizeLine ∧ ∀ p o, H1 p = none → o.dict = none → Q (.ref p) (upd H1 p (.frz o (.tup xs)))) := by
  refine ⟨fun pins s σ H Q I hq => ?_⟩
  refine wpAny_Tuple_spliced (thn (h.run pos pins s σ H _ I hq) fun us s1 ⟨xs, H1, I1, rv, z, q⟩ => ⟨by rw [← rv.length]; exact z, ?_⟩)
  exact ⟨.ref s1.heap.objs.size, _, laidT I1 rv z s1.toks, rfl, q _ (tob us) (I1.hok.fresh (Nat.le_refl _)) rfl⟩
theorem pl_tup {es : List Expr} {xs : Exs} {x1 : Nat} (h : PA X es (LAx X.K Γ xs)) : PE X (.Tuple es x1 pos) (LEx X.K Γ (.tup xs)) :=
  pe_imp (pe_tupF h) fun σ H Q q => by
    obtain ⟨r, η, S, w, S', hS, hE, e, k⟩ := q
    simp only [evE, Option.bind_eq_bind, Option.bind_eq_some_iff] at e
    obtain ⟨⟨ws, S1⟩, e1, ds, e2, e3⟩ := e
    split at e3
    · next hl =>
      cases e3
      refine ⟨r, η, S, _, _, hS, hE, e1, fun r' vs H' g hS' hw => ?_⟩
      have hv := datas_rp hw e2
      refine ⟨by rw [hv.length]; exact Nat.le_trans hl lim_line, fun p o hp ho => ?_⟩
      exact k r' _ _ (g.trans (Gr.upd_new hS' hp)) (hS'.upd_new hp) (.tup ⟨o, ho, upd_same⟩ (hS'.none_of hp) (hv.upd hp))
    · cases e3
/-- a list that was just made: nothing else holds it -/
def LF (K : PySem.W.Frag) (f : En → Sto → Option (W × Sto)) : TE := fun σ H Q => ∃ r e S ds S', SR S r H ∧ ER K e σ H r ∧ f e S = some (.v (.list ds), S') ∧
  ∀ r' Hm p vs, Gr r H r' Hm → SR S' r' Hm → Hm p = none → Rps Hm r' vs ds → Q (.ref p) (upd Hm p (.lst vs))
abbrev LFx (K : PySem.W.Frag) (Γ : Fns) (x : Ex) : TE := LF K fun η S => evE Γ η x S
abbrev LHx (K : PySem.W.Frag) (Γ : Fns) (x : Ex) : TE := LH K fun η S => evE Γ η x S
theorem lh_lf {f : En → Sto → Option (W × Sto)} : ∀ σ H Q, LH K f σ H Q → LF K f σ H Q := fun σ H Q q => by
  obtain ⟨r, η, S, ds, S', hS, hE, e, k⟩ := q
  exact ⟨r, η, S, ds, S', hS, hE, e, fun r' Hm p vs g hS' hp hv => k r' Hm S' r' (upd Hm p (.lst vs)) p vs g hS' hp (Gr.upd_new hS' hp) (hS'.hide hp) upd_same ((hv.hide hp).over)⟩
theorem lf_lst {xs : Exs} : ∀ σ H Q, LFx K Γ (.lst xs) σ H Q → tLst (LAx K Γ xs) σ H Q := fun σ H Q q => by
  obtain ⟨r, η, S, ds0, S', hS, hE, e, k⟩ := q
  simp only [evE, Option.bind_eq_bind, Option.bind_eq_some_iff] at e
  obtain ⟨⟨ws, S1⟩, e1, ds, e2, e3⟩ := e
  split at e3
  · next hl =>
    cases e3
    refine ⟨r, η, S, _, _, hS, hE, e1, fun r' vs H' g hS' hw => ?_⟩
    have hv := datas_rp hw e2
    exact ⟨by rw [hv.length]; exact Nat.le_trans hl lim_line, fun p hp => k r' H' p vs g hS' hp hv⟩
  · cases e3
/-- what is just made is a value -/
theorem lf_of {f : En → Sto → Option (W × Sto)} (hf : ∀ η S w S', f η S = some (w, S') → ∃ ds, w = .v (.list ds)) : ∀ σ H Q, LE K f σ H Q → LF K f σ H Q := fun σ H Q q => by
  obtain ⟨r, η, S, w, S', hS, hE, e, k⟩ := q
  obtain ⟨ds, rfl⟩ := hf _ _ _ _ e
  exact ⟨r, η, S, ds, S', hS, hE, e, fun r' Hm p vs g hS' hp hv => k r' _ _ (g.trans (Gr.upd_new hS' hp)) (hS'.upd_new hp) (.lst upd_same (hS'.none_of hp) (hv.upd hp))⟩
theorem lst_val {xs : Exs} : ∀ η S w S', evE Γ η (.lst xs) S = some (w, S') → ∃ ds, w = .v (.list ds) := fun η S w S' e => by
  simp only [evE, Option.bind_eq_bind, Option.bind_eq_some_iff] at e
  obtain ⟨⟨ws, S1⟩, e1, ds, e2, e3⟩ := e
  split at e3
  · cases e3
    exact ⟨_, rfl⟩
  · cases e3
theorem pl_lstF {es : List Expr} {xs : Exs} (h : PA X es (LAx X.K Γ xs)) : PE X (.List es pos) (LFx X.K Γ (.lst xs)) := pe_imp (pe_lst h) lf_lst
theorem pl_lst {es : List Expr} {xs : Exs} (h : PA X es (LAx X.K Γ xs)) : PE X (.List es pos) (LEx X.K Γ (.lst xs)) := pe_imp (pl_lstF h) (lf_of lst_val)
/-- .. as a cell -/
theorem pl_cell {e : Expr} {x : Ex} (h : PE X e (LHx X.K Γ x)) : PE X e (LEx X.K Γ (.cell x)) := pe_imp h fun σ H Q q => lh_cell (f := fun η S => evE Γ η x S) σ H Q q
end
end Pl


namespace Pl
open PySem PySem.Spec PyProof.Rows L2 HT
section
variable {prog : Program} {w : World} {A : Around} {E : Value → Shared → Prop} {s : Shared}
theorem sliceApplied_rev {sl : Addr} {vl vu vs : Value} {n : Nat} {Q : Int × Int × Nat → Shared → Prop} (hs : s.heap.IsSliceOf sl vl vu vs) (pl : IsPart vl none) (pu : IsPart vu none) (ps : IsPart vs (some (-1)))
    (h : Q ((n : Int) - 1, -1, n) s) : wpAny (model prog w) A (Builtin.Slice.sliceApplied (.ref sl) (pure (n : Int))) Q E s := by
  obtain ⟨os, hos, hcs, hds⟩ := id hs
  unfold Builtin.Slice.sliceApplied Builtin.Slice.sliceFields
  refine wpAny_bind (wpAny_bind (wpAny_field hos hds (x := vl) rfl (wpAny_bind (wpAny_field hos hds (x := vu) rfl (wpAny_bind (wpAny_field hos hds (x := vs) rfl (wpAny_pure ?_)))))))
  refine wpAny_bind (slicePart_ ps ?_)
  show wpAny _ _ (if ((-1 : Int) == 0) = true then _ else _) _ _ s
  rw [if_neg (by decide)]
  refine wpAny_bind (slicePart_ pl (wpAny_bind (slicePart_ pu (wpAny_bind (wpAny_pure ?_)))))
  show wpAny _ _ (match Builtin.Slice.sliceAdjust none none (-1) (n : Int) with | (lo, hi) => pure (lo, (-1 : Int), Builtin.Slice.slicePlaces lo hi (-1))) _ _ s
  have e1 : Builtin.Slice.sliceAdjust none none (-1) (n : Int) = ((n : Int) - 1, -1) := by
    unfold Builtin.Slice.sliceAdjust
    simp
  rw [e1]
  have e2 : Builtin.Slice.slicePlaces ((n : Int) - 1) (-1) (-1) = n := by
    unfold Builtin.Slice.slicePlaces
    simp
    omega
  show wpAny _ _ (pure ((n : Int) - 1, (-1 : Int), Builtin.Slice.slicePlaces ((n : Int) - 1) (-1) (-1))) _ _ s
  rw [e2]
  exact wpAny_pure h
theorem fm_congr {α β : Type} {f g : α → Option β} : ∀ {l : List α}, (∀ x ∈ l, f x = g x) → l.filterMap f = l.filterMap g
  | [], _ => rfl
  | x :: l, h => by
    rw [List.filterMap_cons, List.filterMap_cons, h x List.mem_cons_self, fm_congr fun y hy => h y (List.mem_cons_of_mem _ hy)]
theorem pick_rev (xs : Array Value) : ((List.range xs.size).filterMap fun (m : Nat) => xs[(((xs.size : Nat) : Int) - 1 + (m : Int) * (-1)).toNat]?).toArray = xs.toList.reverse.toArray := by
  congr 1
  have h : ∀ l : List Value, (List.range l.length).filterMap (fun m => l[l.length - 1 - m]?) = l.reverse := by
    intro l
    have h1 : ∀ m ∈ List.range l.length, (fun m => l[l.length - 1 - m]?) m = (fun m => l.reverse[m]?) m := fun m hm => by
      have := List.mem_range.mp hm
      simp only
      rw [List.getElem?_reverse this]
    rw [fm_congr h1]
    have h2 : ∀ l : List Value, (List.range l.length).filterMap (fun m => l[m]?) = l := by
      intro l
      induction l with
      | nil => rfl
      | cons a l ih =>
        rw [List.length_cons, List.range_succ_eq_map, List.filterMap_cons]
        simp only [List.getElem?_cons_zero, List.filterMap_map]
        congr 1
    have := h2 l.reverse
    rw [List.length_reverse] at this
    exact this
  have := h xs.toList
  rw [Array.length_toList] at this
  rw [← this]
  refine fm_congr fun m hm => ?_
  have hm := List.mem_range.mp hm
  have e : (((xs.size : Nat) : Int) - 1 + (m : Int) * (-1)).toNat = xs.size - 1 - m := by omega
  rw [e, Array.getElem?_toList]
theorem getItem_tuple_rev {t sl : Addr} {items : Array Value} {vl vu vs : Value} {Q : Value → Shared → Prop} (ht : IsTup s.heap t items) (hs : s.heap.IsSliceOf sl vl vu vs) (pl : IsPart vl none) (pu : IsPart vu none) (ps : IsPart vs (some (-1)))
    (h : Q (.ref s.heap.objs.size) { s with heap := s.heap.push { cls := .type "tuple", data := .seq items.toList.reverse.toArray } })
    (hsz : items.size ≤ sizeLine) : wpAny (model prog w) A (getItem (.ref t) (.ref sl)) Q E s := by
  have htake : sizeOk (.seq items.toList.reverse.toArray) := by
    show items.toList.reverse.toArray.size ≤ sizeLine
    rw [List.size_toArray, List.length_reverse, Array.length_toList]
    exact hsz
  obtain ⟨os, hos, hcs, hds⟩ := id hs
  have hTs : s.TypeIs (.ref sl) "slice" := ⟨os, hos, hcs⟩
  unfold getItem
  try with_reducible refine wpAny_holding ?_
  first | refine wpAny_bind (wpAny_pure ?_) | skip
  refine wpAny_bind (wpAny_sequenceKey ht.typeIs (by decide) ?_)
  refine wpAny_bind (wpAny_callSpecial?_slot (name := Str.ofString "__getitem__") ht.typeIs PyProof.Rows.slot_tuple_getitem
    (wpAny_call_entry PyProof.Rows.slot_tuple_getitem ht.typeIs entry_tuple_getitem ?_ (args_tuple_getitem _ _)))
  show wpAny _ _ (Builtin.Tuple.tupleItemsOf (.ref t) >>= _) _ _ s
  refine wpAny_bind (tupleItemsOf_ ht ?_)
  refine wpAny_bind (wpAny_typeOf hTs ?_)
  rw [if_pos (by decide)]
  refine wpAny_bind (sliceApplied_rev hs pl pu ps ?_)
  have hno : ¬ ((((items.size : Nat) : Int) - 1 == 0 && (-1 : Int) == 1 && items.size == items.size) = true) := by
    intro q
    rw [Bool.and_eq_true, Bool.and_eq_true] at q
    exact absurd q.1.2 (by decide)
  show wpAny _ _ (if (((items.size : Nat) : Int) - 1 == 0 && (-1 : Int) == 1 && items.size == items.size) = true then _ else _) _ _ s
  rw [if_neg hno, pick_rev]
  first
    | exact wpAny_bind (m := Builtin.Tuple.tupleExact _) (wpAny_newObj_type (wpAny_pure ⟨_, rfl, wpAny_pure h⟩) htake)
    | exact wpAny_bind (m := Builtin.Tuple.tupleExact _) (wpAny_newObj_type (wpAny_bind (wpAny_pure (wpAny_pure ⟨_, rfl, wpAny_pure h⟩))) htake)
    | exact wpAny_bind (wpAny_bind (m := Builtin.Tuple.tupleExact _) (wpAny_newObj_type (wpAny_pure (wpAny_pure ⟨_, rfl, wpAny_pure h⟩)) htake))
    | exact wpAny_bind (wpAny_bind (m := Builtin.Tuple.tupleExact _) (wpAny_newObj_type (wpAny_pure ⟨_, rfl, wpAny_pure h⟩) htake))
end
section
variable {X : Cx}
def tRevT (K : PySem.W.Frag) (te : TE) : TE := fun σ H Q => te σ H fun x H1 => ∃ (r : Rho) (S : Sto) (ds : List PyData), SR S r H1 ∧ Rq H1 r x (.tuple ds) ∧ Pst r H1 (.tuple ds.reverse) Q
theorem pe_revT {e : Expr} {te : TE} {k : Nat} {p1 p2 p3 pos : Pos} (he : PE X e te) : PE X (.Subscript e (.Slice none none (some (.UnaryOp .USub (.Constant (.int 1) k p1) p2)) p3) pos) (tRevT X.K te) := by
  refine ⟨fun pins s σ H Q I h => ?_⟩
  refine Subscript_ (thn (he.run pins s σ H _ I h) fun v s1 ⟨x, H1, I1, r1, q1⟩ => ?_)
  obtain ⟨r, S, ds, hS, hq, q⟩ := q1
  obtain ⟨a, xs, rfl, ha, hn, hx⟩ := rp_tup hq
  cases r1
  have hst : PO X (some (.UnaryOp .USub (.Constant (.int 1) k p1) p2)) (tPart (tUn (rU fun i => .int (-i)) (tC (.int 1)))) := po_some (pe_un un_neg pe_int)
  refine wpAny_Slice (thn (po_none.run pins s1 σ H1 (fun o H2 => o = none ∧ H2 = H1) I1 ⟨rfl, rfl⟩) fun vl s2 ⟨l, H2, I2, pl, el, e2⟩ => ?_)
  subst el e2
  refine thn (po_none.run pins s2 σ H2 (fun o H3 => o = none ∧ H3 = H2) I2 ⟨rfl, rfl⟩) fun vu s3 ⟨u, H3, I3, pu, eu, e3⟩ => ?_
  subst eu e3
  refine thn (hst.run pins s3 σ H3 (fun o H4 => o = some (-1) ∧ H4 = H3) I3 ⟨1, rfl, -1, rfl, rfl, rfl⟩) fun vs s4 ⟨o, H4, I4, ps, eo, e4⟩ => ?_
  subst eo e4
  have I5 : Inv X pins σ H4 { s4 with heap := s4.heap.push { cls := .type "slice", data := .fields #[vl, vu, vs] } } := I4.kept (t' := s4.toks) fun b ob q => Heap.get?_push_of_some _ q
  obtain ⟨its, r1, ht, hz⟩ := I5.tuple ha.sq
  have hlen := r1.length
  show wpAny (model X.prog X.w) X.A (subscriptTail e (.Slice none none (some (.UnaryOp .USub (.Constant (.int 1) k p1) p2)) p3) (.ref a) (.ref s4.heap.objs.size)) (EP X pins σ Q) X.xe { s4 with heap := s4.heap.push { cls := .type "slice", data := .fields #[vl, vu, vs] } }
  refine tail_any (ops := [.ref a, .ref s4.heap.objs.size]) ht.typeIs (PyProof.Rows.slot_tuple_getitem.lookup) ?_ (by with_unfolding_all rfl)
  refine getItem_tuple_rev ht (Heap.IsSliceOf.new _ vl vu vs) pl pu ps ?_ (by rw [List.size_toArray]; omega)
  exact endT (t := s4.toks) (its := its.reverse) hS I5 r1.reverse (by rw [List.length_reverse]; exact hz) q hx.reverse
theorem pe_or {e : Expr} {t t' : TE} (h : PE X e t) (h' : PE X e t') : PE X e (fun σ H Q => t σ H Q ∨ t' σ H Q) := ⟨fun pins s σ H Q I q => q.elim (h.run pins s σ H Q I) (h'.run pins s σ H Q I)⟩
end
end Pl


namespace Pl
namespace SetL
open PySem PySem.Spec PyProof PyProof.Rows L2
variable {P : Program} {w : World} {A : Around} {E : Value → Shared → Prop} {s : Shared}
set_option maxRecDepth 100000 in
set_option maxHeartbeats 3200000 in
theorem call_set_lstI {l : Addr} {items : Array Value} (ns : List Int) {Q : Value → Shared → Prop} (hh : A.handled = none) (hl : s.heap.IsList l items) (hit : IntsAre items.toList ns) (hb : ns.length + 1 < scanBound)
    (h : ∀ (h' : Heap) (tk c : Nat), SetR w h' s.heap.objs.size (fun j => decide (j ∈ ns)) c → c ≤ ns.length → (∀ b o, s.heap.get? b = some o → h'.get? b = some o) → Q (.ref s.heap.objs.size) { s with heap := h', toks := tk }) :
    wpAny (model P w) A (call (.type "set") [.ref l]) Q E s := by
  have hisz : items.size = ns.length := by
    have q := IntsAre.length hit
    rw [Array.length_toList] at q
    exact q
  obtain ⟨c, tl, hmro⟩ := F.called_set.mro
  have hmade := F.called_set.made
  have hsub := F.called_set.sub
  refine wpAny_call (codeAny_of_tree ?_)
  show wpAny _ _ (callAny (.type "set") _) _ _ _
  refine wpAny_pure ⟨Code.quiet_builtin _ (by decide +kernel), codeAny_builtin F.entry_type_call ?_⟩
  rw [Around.under_plain (weight_type_call_type "set" [.ref l] []) rfl]
  have h1 := F.called_set.notType
  have h2 := F.called_set.canCreate
  have hct := F.typeCall_set_1 (.ref l)
  repeat (any_goals (first | assumption | wp_step))

  refine codeAny_mono (code_set_led1 (.ref l) (E := E) (Q₁ := fun obj s₁ => obj = .ref s.heap.objs.size ∧ s₁ = { s with heap := s.heap.push { cls := .type "set", dict := none, data := .set #[] 0 (.fresh 0 0 (!w.params.followText "set-order")) } }) ⟨rfl, rfl⟩) fun r s₁ hr => ?_
  cases r with
  | error e => exact hr
  | ok fl =>
    cases fl with
    | ret obj =>
      obtain ⟨rfl, rfl⟩ := hr
      have hS : (s.heap.push { cls := .type "set", dict := none, data := .set #[] 0 (.fresh 0 0 (!w.params.followText "set-order")) }).get? s.heap.objs.size = some { cls := .type "set", dict := none, data := .set #[] 0 (.fresh 0 0 (!w.params.followText "set-order")) } := Heap.get?_push_size _ rfl
      have hT : Shared.TypeIs { s with heap := s.heap.push { cls := .type "set", dict := none, data := .set #[] 0 (.fresh 0 0 (!w.params.followText "set-order")) } } (.ref s.heap.objs.size) "set" := ⟨_, hS, rfl⟩
      have hli := F.called_set.init.lookup
      have hbi := F.called_set.init.bind (.ref s.heap.objs.size)
      repeat (any_goals (first | assumption | wp_step))

      refine codeAny_mono (codeAny_call_builtin (R := wants (fun r s₂ => r = .none ∧ ∃ h' tk c, s₂ = { s with heap := h', toks := tk } ∧ SetR w h' s.heap.objs.size (fun j => decide (j ∈ ns)) c ∧ c ≤ ns.length ∧
          (∀ b o, s.heap.get? b = some o → h'.get? b = some o)) E) F.called_set.init.plain F.entry_set_init (check_set_init_1 hT ?_)) fun r₂ s₂ hr₂ => ?_
      · obtain ⟨ol, hol, hcl, nl, hdl⟩ := hl
        obtain ⟨ocls, odict, odata, oslots⟩ := ol
        simp only at hcl hdl
        subst hcl; subst hdl
        have hol' : (s.heap.push { cls := .type "set", dict := none, data := .set #[] 0 (.fresh 0 0 (!w.params.followText "set-order")) }).get? l = some { cls := .type "list", dict := odict, data := .seq items nl, slots := oslots } := Heap.get?_push_of_some _ hol
        have hsls := F.sub_list_set
        have hslf := F.sub_list_frozenset
        have hne : (Value.type "list" == Value.type "dict") = false := by decide
        have hl1 : (s.heap.push { cls := .type "set", dict := none, data := .set #[] 0 (.fresh 0 0 (!w.params.followText "set-order")) }).IsList l items := ⟨_, hol', rfl, nl, rfl⟩
        unfold Builtin.«set.__init__» noKeywords Builtin.Frozenset.updateFrom
        generalize hPI : pyIter = PI
        wp_walk
        subst hPI

        refine wpAny_pyIter_list hl1 ?_
        refine wpAny_bind (wpAny_runValue ?_)
        have hlS : l < s.heap.objs.size := Heap.lt_size hol
        have hh3 : A.in1.in1.in1.handled = none := by simp [hh]
        have hz1 : (s.heap.push { cls := .type "set", dict := none, data := .set #[] 0 (.fresh 0 0 (!w.params.followText "set-order")) }).objs.size = s.heap.objs.size + 1 := Heap.size_push ..
        have hneI : l ≠ (s.heap.push { cls := .type "set", dict := none, data := .set #[] 0 (.fresh 0 0 (!w.params.followText "set-order")) }).objs.size := by
          rw [Heap.size_push]; exact Nat.ne_of_lt (Nat.lt_succ_of_lt hlS)
        have hSf : s.heap.objs.size ∉ [(s.heap.push { cls := .type "set", dict := none, data := .set #[] 0 (.fresh 0 0 (!w.params.followText "set-order")) }).objs.size, l] := by
          rw [Heap.size_push]; simp only [List.mem_cons, List.mem_singleton, List.not_mem_nil, or_false, not_or]
          exact ⟨Nat.ne_of_lt (Nat.lt_succ_self _), Nat.ne_of_gt hlS⟩
        have hval : ∀ (i : Nat) (v : Value), items[i]? = some v → ∃ k t, ns[i]? = some k ∧ v = .int k t := fun i v hv => by
          have hi : i < ns.length := by rw [← hisz]; exact (Array.getElem?_eq_some_iff.mp hv).1
          obtain ⟨t, e⟩ := PyProof.Rows.IntsAre.int_at hit i v (by rw [Array.getElem?_toList]; exact hv)
          refine ⟨ns[i], t, List.getElem?_eq_getElem hi, ?_⟩
          rw [e, List.getD_eq_getElem?_getD, List.getElem?_eq_getElem hi] <;> rfl
        refine set_update_ints ((Walks.list hh3 _ l hneI items).toS) s.heap.objs.size
          hSf ns hisz hb hval (items.size - 0) 0 _ (by omega) (Nat.zero_le _)
          ⟨⟨_, Heap.get?_push_size _ rfl, rfl, rfl⟩, (hl1.push _)⟩ ?hS0 ?hR
        case hS0 =>
          have hget : ((s.heap.push { cls := .type "set", dict := none, data := .set #[] 0 (.fresh 0 0 (!w.params.followText "set-order")) }).push { cls := .type "list_iterator", data := .fields #[.ref l, .int 0 0] }).get? s.heap.objs.size
              = some { cls := .type "set", dict := none, data := .set #[] 0 (.fresh 0 0 (!w.params.followText "set-order")) } := Heap.get?_push_of_some _ hS
          exact ⟨0, Nat.le_refl 0, setR_new_at hget⟩
        case hR =>
          intro s' c' hm hc' hS'
          obtain ⟨h', g2, d', tk', os'⟩ := s'
          have eg : g2 = s.gens := hm.gens
          have ed : d' = s.drawn := hm.drawn
          have eo : os' = s.os := hm.os
          subst eg; subst ed; subst eo
          show wpAny _ _ _ _ _ _
          refine wpAny_pure ?_
          show wpAny _ _ (ret Value.none) _ _ _
          rw [hisz] at hc'
          refine wpAny_pure ⟨rfl, h', tk', c', rfl, hS', hc', fun b o e => ?_⟩
          have hb0 : b < s.heap.objs.size := Heap.lt_size e
          have hb1 : b ≠ s.heap.objs.size := Nat.ne_of_lt hb0
          have hb2 : b ≠ (s.heap.push { cls := .type "set", dict := none, data := .set #[] 0 (.fresh 0 0 (!w.params.followText "set-order")) }).objs.size := by
            rw [Heap.size_push]; exact Nat.ne_of_lt (Nat.lt_succ_of_lt hb0)
          exact hm.heap b o (by simp only [List.mem_cons, List.mem_singleton, List.not_mem_nil, or_false, not_or]; exact ⟨hb1, hb2⟩) (Heap.get?_push_of_some _ (Heap.get?_push_of_some _ e))

      · cases r₂ with
        | error e => exact hr₂
        | ok fl₂ =>
          cases fl₂ with
          | ret r =>
            obtain ⟨rfl, h', tk, c', rfl, hS', hc', hk'⟩ := hr₂
            repeat (any_goals (first | assumption | wp_step))
            exact h _ _ _ hS' hc' hk'
          | _ => exact hr₂.elim
    | _ => exact hr.elim
end SetL
section
open PySem PySem.Spec PyProof.Rows L2
variable {X : Cx}
/-- len(set(xs)) -/
def tLenSet (K : PySem.W.Frag) (ta : TE) : TE := fun σ H Q => ta σ H fun x H1 => ∃ (l : Addr) (ns : List Int), x = .ref l ∧ (SqL K H1 l (ns.map V.int) ∨ SqT K H1 l (ns.map V.int)) ∧ ns.length < 64 ∧
  ∀ ks : List Int, ks.Nodup → (∀ k, k ∈ ks ↔ k ∈ ns) → Q (.int (ks.length : Nat)) H1
/-- sorted(set(xs)) -/
def tSrtSet (K : PySem.W.Frag) (ta : TE) : TE := fun σ H Q => ta σ H fun x H1 => ∃ (l : Addr) (ns : List Int), x = .ref l ∧ (SqL K H1 l (ns.map V.int) ∨ SqT K H1 l (ns.map V.int)) ∧ ns.length < 64 ∧
  ∀ (ks : List Int) (p : Addr), ks.Pairwise (· < ·) → (∀ k, k ∈ ks ↔ k ∈ ns) → H1 p = none → Q (.ref p) (upd H1 p (.lst (ks.map V.int)))
theorem set_made {pins : List (Addr × Obj)} {σ : L2.St} {H : Hp} {s : Shared} {l : Addr} {ns : List Int} {Q : Value → Shared → Prop} {A : Around} {E : Value → Shared → Prop} (I : Inv X pins σ H s) (hA : A.handled = none) (hq : SqL X.K H l (ns.map V.int) ∨ SqT X.K H l (ns.map V.int)) (h64 : ns.length < 64)
    (h : ∀ (h' : Heap) (tk c : Nat), SetR X.w h' s.heap.objs.size (fun j => decide (j ∈ ns)) c → c ≤ ns.length → (∀ b o, s.heap.get? b = some o → h'.get? b = some o) → Q (.ref s.heap.objs.size) { s with heap := h', toks := tk }) :
    wpAny (model X.prog X.w) A (call (.type "set") [.ref l]) Q E s := by
  rcases hq with hq | hq
  · obtain ⟨its, r, pl, hz⟩ := I.list hq
    exact SetL.call_set_lstI ns hA pl.isList (by simpa using RZ.intsAre_vals r) (by unfold scanBound; omega) h
  · obtain ⟨its, r, pl, hz⟩ := I.tuple hq
    exact call_set_tupI ns hA pl (by simpa using RZ.intsAre_vals r) (by unfold scanBound; omega) h
theorem pe_lenSet {a : Expr} {ta : TE} {p p2 q pos : Pos} (hg : Gl X "len") (hm : X.mg "len" = none) (hg2 : Gl X "set") (hm2 : X.mg "set" = none) (ha : PE X a ta) (hc : X.calm = true)
    (na : starEach [a] X.env = (false, eval a X.env) :: starEach [] X.env) : PE X (.Call (.Name "len" p) [.Call (.Name "set" p2) [a] [] q] [] pos) (tLenSet X.K ta) := by
  refine ⟨fun pins s σ H Q I h => ?_⟩
  refine Call_ (ld_blt I hg hm boot_len ?_)
  refine PyProof.Rows.callWith_builtin1 (PyProof.Rows.args_cons ?_ rfl) rfl rfl
  refine Call_ (ld_blt I hg2 hm2 boot_set ?_)
  refine PyProof.Rows.callWith_type1 (PyProof.Rows.args_cons (thn (ha.run pins s σ H _ I h) fun v s1 ⟨x, H1, I1, r1, q1⟩ => PyProof.Rows.args_nil ?_) na) na rfl
  obtain ⟨l, ns, rfl, hq, hl, q1⟩ := q1
  cases r1
  refine set_made I1 (I1.ok.hd hc) hq hl fun h' tk c R hcl hk => ?_
  refine PyProof.Rows.args_nil ?_
  have I2 : Inv X pins σ H1 { s1 with heap := h', toks := tk } := I1.kept fun b o e => hk b o e
  obtain ⟨o, es, ep, t, ho, hex, hd, g, nd, hmm, hb, hf, hn, hr, hled⟩ := R
  refine call_len_set ho hex hd hf (by rw [hn]; omega) ⟨.int (es.size : Nat), H1, I2.tok _, ⟨_, rfl⟩, ?_⟩
  have := q1 (es.toList.map keyOf) nd fun k => by rw [← hmm k]; simp
  rw [List.length_map, Array.length_toList] at this
  exact this
end
end Pl


namespace Pl
section
open PySem PySem.Spec PyProof.Rows L2
variable {X : Cx}
theorem pe_srtSet {a : Expr} {ta : TE} {p p2 q pos : Pos} (hg : Gl X "sorted") (hm : X.mg "sorted" = none) (hg2 : Gl X "set") (hm2 : X.mg "set" = none) (ha : PE X a ta) (hc : X.calm = true)
    (na : starEach [a] X.env = (false, eval a X.env) :: starEach [] X.env) : PE X (.Call (.Name "sorted" p) [.Call (.Name "set" p2) [a] [] q] [] pos) (tSrtSet X.K ta) := by
  refine ⟨fun pins s σ H Q I h => ?_⟩
  refine Call_ (ld_blt I hg hm boot_sorted ?_)
  refine PyProof.Rows.callWith_builtin1 (PyProof.Rows.args_cons ?_ rfl) rfl rfl
  refine Call_ (ld_blt I hg2 hm2 boot_set ?_)
  refine PyProof.Rows.callWith_type1 (PyProof.Rows.args_cons (thn (ha.run pins s σ H _ I h) fun v s1 ⟨x, H1, I1, r1, q1⟩ => PyProof.Rows.args_nil ?_) na) na rfl
  obtain ⟨l, ns, rfl, hq, hl, q1⟩ := q1
  cases r1
  refine set_made I1 (I1.ok.hd hc) hq hl fun h' tk c R hcl hk => ?_
  refine PyProof.Rows.args_nil ?_
  have I2 : Inv X pins σ H1 { s1 with heap := h', toks := tk } := I1.kept fun b o e => hk b o e
  have R2 : SetR X.w ({ s1 with heap := h', toks := tk } : Shared).heap s1.heap.objs.size (fun j => decide (j ∈ ns)) c := R
  clear R
  generalize ({ s1 with heap := h', toks := tk } : Shared) = s2 at *
  refine sorted_set R2 (I2.ok.hd hc) (by omega) fun s' p out c2 ks k g o hp hg hi hs hmm hl2 => ?_
  have hlen : (ks.map V.int).length ≤ sizeLine := by rw [List.length_map, hl2, sizeLine_eq]; omega
  have hn : H1 p = none := I2.hok.fresh hp
  have J : Inv X pins σ (upd H1 p (.lst (ks.map V.int))) { s2 with heap := s'.heap, gens := s'.gens, drawn := s'.drawn, toks := s'.toks } :=
    I2.call (ch := []) (Un.laid k hp hn) (I2.hok.laid k hp ⟨hlen, out.toList, c2, vals_of_ints hi, hg⟩) (by rw [g]; exact I2.bare) (fun _ z => nomatch z)
  have e : s' = { s2 with heap := s'.heap, gens := s'.gens, drawn := s'.drawn, toks := s'.toks } := by
    cases s'
    cases s2
    cases o
    rfl
  rw [e]
  exact ⟨.ref p, _, J, rfl, q1 ks p hs (fun k => by rw [hmm k]; simp) hn⟩
end
end Pl


namespace Pl
open PySem PySem.Spec PyProof.Rows L2
section
variable {X : Cx} {Γ : Fns} {K : PySem.W.Frag} {pos p p2 : Pos} {a b c : Expr} {ia ib ic : Ex}
def notSlice : Expr → Bool
  | .Slice _ _ _ _ => false
  | _ => true
theorem notSlice_ok {b : Expr} (h : notSlice b = true) : PlainIx b := by
  intro o i
  cases b <;> first | rfl | cases h
theorem pl_ix (hu : X.A.units + 200 < cLine) (hs : notSlice b = true) (ha : PE X a (LEx X.K Γ ia)) (hb : PE X b (LEx X.K Γ ib)) : PE X (.Subscript a b pos) (LEx X.K Γ (.ix ia ib)) :=
  pe_imp (pe_ix (ix_at hu) ha hb (notSlice_ok hs)) (le_two (op := atD) (h := id) (fun _ _ => rfl) fun r S d d' z x y H Q hS h1 h2 h3 k => ⟨r, d, d', z, h1, h2, h3, fun v hv => k.flat hv⟩)
abbrev LOx (K : PySem.W.Frag) (Γ : Fns) (x : Ex) : TO := LO K fun η S => optI (isNop x) (evE Γ η x) S
theorem pl_noPart : PO X none (LOx X.K Γ .nop) := po_imp po_none fun σ H Q q => by
  obtain ⟨r, η, S, o, S', hS, hE, e, k⟩ := q
  cases e
  exact k r H (Gr.refl _ _) hS
theorem pl_part {x : Ex} (h : PE X a (LEx X.K Γ x)) (hn : isNop x = false) : PO X (some a) (LOx X.K Γ x) := po_imp (po_some h) fun σ H Q q => by
  obtain ⟨r, η, S, o, S', hS, hE, e, k⟩ := q
  have e : optI (isNop x) (evE Γ η x) S = some (o, S') := e
  rw [hn] at e
  obtain ⟨i, rfl, e2⟩ := toI_of e
  exact ⟨r, η, S, _, S', hS, hE, e2, fun r' v H' g hS' hw => ⟨i, rw_int hw, k r' H' g hS'⟩⟩
theorem pl_sl {lo hi : Option Expr} {il ih : Ex} (ha : PE X a (LEx X.K Γ ia)) (hl : PO X lo (LOx X.K Γ il)) (hh : PO X hi (LOx X.K Γ ih)) : PE X (.Subscript a (.Slice lo hi none p2) pos) (LEx X.K Γ (.sl ia il ih)) :=
  pe_imp (pe_slice sl_cut ha hl hh) fun σ H Q q => by
    obtain ⟨r, η, S, w, S', hS, hE, e, k⟩ := q
    simp only [evE, Option.bind_eq_bind, Option.bind_eq_some_iff] at e
    obtain ⟨⟨w1, S1⟩, e1, ⟨o1, S2⟩, e2, ⟨o2, S3⟩, e3, e4⟩ := e
    refine ⟨r, η, S, w1, S1, hS, hE, e1, fun r1 v1 H1 g1 hS1 hw1 => ⟨r1, η, S1, o1, S2, hS1, hE.gr g1, e2, fun r2 H2 g2 hS2 => ⟨r2, η, S2, o2, S3, hS2, (hE.gr g1).gr g2, e3, fun r3 H3 g3 hS3 => ?_⟩⟩⟩
    have g := (g1.trans g2).trans g3
    have hw := (hw1.gr g2).gr g3
    cases w1 with
    | s ns =>
      cases e4
      exact .inr ⟨r3, _, ns, hS3, hw, fun v H' hk hv => k r3 v H' (g.trans (gr_same hk)) (hS3.of_same hk) hv⟩
    | v d =>
      simp only [Option.bind_eq_some_iff] at e4
      obtain ⟨d', e5, z, e6, e7⟩ := e4
      cases e7
      exact .inl ⟨r3, _, d', z, hS3, deref_rq hS3 hw e5, e6, fun v H' hk hv => k r3 v H' (g.trans (gr_same hk)) (hS3.of_same hk) hv⟩
    | r n =>
      simp only [Option.bind_eq_some_iff] at e4
      obtain ⟨d', e5, z, e6, e7⟩ := e4
      cases e7
      exact .inl ⟨r3, _, d', z, hS3, deref_rq hS3 hw e5, e6, fun v H' hk hv => k r3 v H' (g.trans (gr_same hk)) (hS3.of_same hk) hv⟩
/-- xs[::-1] of a list -/
theorem pl_rev {j : Nat} {p1 p3 : Pos} (ha : PE X a (LEx X.K Γ ia)) : PE X (.Subscript a (.Slice none none (some (.UnaryOp .USub (.Constant (.int 1) j p1) p2)) p3) pos) (LEx X.K Γ (.rev ia)) :=
  pe_imp (pe_or (pe_revL ha) (pe_revT ha)) fun σ H Q q => by
    obtain ⟨r, η, S, w, S', hS, hE, e, k⟩ := q
    simp only [evE, Option.bind_eq_bind, Option.bind_eq_some_iff] at e
    obtain ⟨⟨w1, S1⟩, e1, d, e2, z, e3, e4⟩ := e
    cases e4
    cases d with
    | list ds =>
      cases e3
      refine .inl ⟨r, η, S, w1, _, hS, hE, e1, fun r1 v1 H1 g1 hS1 hw1 => ?_⟩
      have hq := deref_rq hS1 hw1 e2
      obtain ⟨x, vs, rfl, h1, h2⟩ := rp_list hq
      exact ⟨x, vs, rfl, .inl (.inl h1), fun p hp => k r1 _ _ (g1.trans (Gr.upd_new hS1 hp)) (hS1.upd_new hp) (.lst upd_same (hS1.none_of hp) (h2.reverse.upd hp))⟩
    | tuple ds =>
      cases e3
      refine .inr ⟨r, η, S, w1, _, hS, hE, e1, fun r1 v1 H1 g1 hS1 hw1 => ?_⟩
      exact ⟨r1, S1, ds, hS1, deref_rq hS1 hw1 e2, fun v H' hk hv => k r1 v H' (g1.trans (gr_same hk)) (hS1.of_same hk) hv⟩
    | _ => cases e3
theorem setI_mem (ns : List Int) (k : Int) : k ∈ setI ns ↔ k ∈ ns := by
  unfold setI sortI
  rw [(List.mergeSort_perm _ _).mem_iff, List.mem_eraseDups]
theorem nodup_dd : ∀ (n : Nat) (ns : List Int), ns.length ≤ n → ns.eraseDups.Nodup
  | _, [], _ => by simp
  | 0, _ :: _, h => by simp at h
  | n + 1, x :: xs, h => by
    rw [List.eraseDups_cons, List.nodup_cons]
    refine ⟨fun hm => ?_, nodup_dd n _ (Nat.le_trans (List.length_filter_le _ _) (by simpa using h))⟩
    rw [List.mem_eraseDups] at hm
    simpa using (List.mem_filter.mp hm).2
theorem setI_nodup (ns : List Int) : (setI ns).Nodup := by
  unfold setI sortI
  exact (List.mergeSort_perm _ _).nodup_iff.mpr (nodup_dd _ ns (Nat.le_refl _))
theorem setI_le (ns : List Int) : (setI ns).Pairwise (· ≤ ·) := by
  have h2 : (sortI ns.eraseDups).Pairwise (fun a b : Int => decide (a ≤ b) = true) := List.pairwise_mergeSort (fun a b c => by simp; omega) (fun a b => by simp; omega) _
  exact h2.imp fun h => by simpa using h
theorem setI_perm {ns ks : List Int} (h : ks.Nodup) (hm : ∀ k, k ∈ ks ↔ k ∈ ns) : ks.Perm (setI ns) :=
  (List.perm_ext_iff_of_nodup h (setI_nodup ns)).mpr fun k => by rw [hm k, setI_mem]
theorem setI_eq {ns ks : List Int} (h : ks.Pairwise (· < ·)) (hm : ∀ k, k ∈ ks ↔ k ∈ ns) : ks = setI ns :=
  List.Perm.eq_of_pairwise (le := fun a b : Int => a ≤ b) (fun a b _ _ => Int.le_antisymm) (h.imp fun h => Int.le_of_lt h) (setI_le ns) (setI_perm (h.imp fun h => Int.ne_of_lt h) hm)
theorem set_parts {srt : Bool} {d z : PyData} (h : setD srt d = some z) : ∃ xs ns, itemsOf d = some xs ∧ intsOf xs = some ns ∧ ns.length < 64 ∧ z = if srt then .list ((setI ns).map .int) else .int (setI ns).length := by
  unfold setD at h
  simp only [Option.bind_eq_bind, Option.bind_eq_some_iff] at h
  obtain ⟨xs, h1, ns, h2, h⟩ := h
  split at h
  · next hl =>
    cases h
    exact ⟨xs, ns, h1, h2, hl, rfl⟩
  · cases h
theorem pl_lenSet {q : Pos} (hg : Gl X "len") (hm : X.mg "len" = none) (hg2 : Gl X "set") (hm2 : X.mg "set" = none) (hc : X.calm = true) (hs : notStar a = true) (ha : PE X a (LEx X.K Γ ia)) : PE X (.Call (.Name "len" p) [.Call (.Name "set" p2) [a] [] q] [] pos) (LEx X.K Γ (.lset false ia)) :=
  pe_imp (pe_lenSet hg hm hg2 hm2 ha hc (star_cons hs [] X.env)) fun σ H Q q => by
    obtain ⟨r, η, S, w, S', hS, hE, e, k⟩ := q
    simp only [evE, Option.bind_eq_bind, Option.bind_eq_some_iff] at e
    obtain ⟨⟨w1, S1⟩, e1, d, e2, z, e3, e4⟩ := e
    cases e4
    obtain ⟨xs, ns, h1, h2, h3, rfl⟩ := set_parts e3
    refine ⟨r, η, S, w1, _, hS, hE, e1, fun r1 v1 H1 g1 hS1 hw1 => ?_⟩
    obtain ⟨x, vs, rfl, h4, h5⟩ := items_rp (deref_rq hS1 hw1 e2) h1
    have e := h4.ints h2
    subst e
    refine ⟨x, ns, rfl, ?_, h3, fun ks k1 k2 => ?_⟩
    · rcases h5 with ⟨h5, _⟩ | ⟨h5, _, _⟩
      · exact .inl (.inl (.inl h5))
      · exact .inr h5.sq
    · rw [(setI_perm k1 k2).length_eq]
      exact k r1 _ _ g1 hS1 (.int _)
theorem pl_srtSet {q : Pos} (hg : Gl X "sorted") (hm : X.mg "sorted" = none) (hg2 : Gl X "set") (hm2 : X.mg "set" = none) (hc : X.calm = true) (hs : notStar a = true) (ha : PE X a (LEx X.K Γ ia)) : PE X (.Call (.Name "sorted" p) [.Call (.Name "set" p2) [a] [] q] [] pos) (LEx X.K Γ (.lset true ia)) :=
  pe_imp (pe_srtSet hg hm hg2 hm2 ha hc (star_cons hs [] X.env)) fun σ H Q q => by
    obtain ⟨r, η, S, w, S', hS, hE, e, k⟩ := q
    simp only [evE, Option.bind_eq_bind, Option.bind_eq_some_iff] at e
    obtain ⟨⟨w1, S1⟩, e1, d, e2, z, e3, e4⟩ := e
    cases e4
    obtain ⟨xs, ns, h1, h2, h3, rfl⟩ := set_parts e3
    refine ⟨r, η, S, w1, _, hS, hE, e1, fun r1 v1 H1 g1 hS1 hw1 => ?_⟩
    obtain ⟨x, vs, rfl, h4, h5⟩ := items_rp (deref_rq hS1 hw1 e2) h1
    have e := h4.ints h2
    subst e
    refine ⟨x, ns, rfl, ?_, h3, fun ks p k1 k2 hp => ?_⟩
    · rcases h5 with ⟨h5, _⟩ | ⟨h5, _, _⟩
      · exact .inl (.inl (.inl h5))
      · exact .inr h5.sq
    · rw [setI_eq k1 k2]
      exact k r1 _ _ (g1.trans (Gr.upd_new hS1 hp)) (hS1.upd_new hp) (.lst upd_same (hS1.none_of hp) (rps_ints _))
theorem plainArgs : ∀ {es : List Expr}, es.all notStar = true → ∀ (env : Env) (pos : Pos), (backTo pos (starEach es env)).any (·.1) = false
  | [], _, _, _ => rfl
  | e :: es, h, env, pos => by
    rw [List.all_cons, Bool.and_eq_true] at h
    rw [star_cons h.1]
    show (false || (backTo pos (starEach es env)).any (·.1)) = false
    rw [plainArgs h.2]
    rfl
theorem evEs_len {η : En} : ∀ {xs : Exs} {S S' : Sto} {ws : List W}, evEs Γ η xs S = some (ws, S') → ws.length = exsLen xs
  | .nil, _, _, _, e => by cases e; rfl
  | .cons x xs, S, S', ws, e => by
    simp only [evEs, Option.bind_eq_bind, Option.bind_eq_some_iff] at e
    obtain ⟨⟨w1, S1⟩, e1, ⟨w2, S2⟩, e2, e3⟩ := e
    cases e3
    exact congrArg (· + 1) (evEs_len e2)
theorem le_call {m i : Nat} {xs : Exs} (hl : exsLen xs = m) : ∀ σ H Q, LEx K Γ (.call i xs) σ H Q → LAx K Γ xs σ H fun vs H1 => SpF K m (Γ i) vs H1 Q E0 := fun σ H Q q => by
  obtain ⟨r, η, S, w, S', hS, hE, e', k'⟩ := q
  simp only [evE, Option.bind_eq_bind, Option.bind_eq_some_iff] at e'
  obtain ⟨⟨ws, S1⟩, e1, e2⟩ := e'
  refine ⟨r, η, S, ws, S1, hS, hE, e1, fun r1 vs H1 g1 hS1 hw => ?_⟩
  exact ⟨by rw [← hw.length, evEs_len e1, hl], r1, S1, ws, w, S', hS1, hw, e2, fun r2 v H2 g2 => k' r2 v H2 (g1.trans g2)⟩
theorem pl_callG {k m i : Nat} {f : Addr} {fd : FuncData} {ps : List Str} {x : Str} {e : Expr} {es : List Expr} {xs : Exs} (F : FnG X.prog X.w X.K X.mg X.base k f fd ps (SpF X.K m (Γ i))) (hr : Room k X.A) (hg : X.A.guards = some []) (hgl : Gl X x) (hm : X.mg x = some (.ref f)) (hk : PySem.W.keepIn X.K (.ref f) = true) (hb : L2.Binds X.K fd ps [])
    (hl : exsLen xs = m) (ha : PA X (e :: es) (LAx X.K Γ xs)) (hdb : (x == ("__debug__" : Str)) = false) (hns : (e :: es).all notStar = true) : PE X (.Call (.Name x p) (e :: es) [] pos) (LEx X.K Γ (.call i xs)) := by
  rw [List.all_cons, Bool.and_eq_true] at hns
  exact pe_imp (pe_callG F hr hg hgl hm hk hb ha hdb (star_cons hns.1 _ _) (plainArgs hns.2 _ _)) (le_call hl)
theorem pl_callG0 {k i : Nat} {f : Addr} {fd : FuncData} {ps : List Str} {x : Str} (F : FnG X.prog X.w X.K X.mg X.base k f fd ps (SpF X.K 0 (Γ i))) (hr : Room k X.A) (hg : X.A.guards = some []) (hgl : Gl X x) (hm : X.mg x = some (.ref f)) (hk : PySem.W.keepIn X.K (.ref f) = true) (hb : L2.Binds X.K fd ps [])
    (hdb : (x == ("__debug__" : Str)) = false) : PE X (.Call (.Name x p) [] [] pos) (LEx X.K Γ (.call i .nil)) :=
  pe_imp (pe_callG0 F hr hg hgl hm hk hb hdb) fun σ H Q q => by
    obtain ⟨r, η, S, w, S', hS, hE, e', k'⟩ := q
    exact ⟨rfl, r, S, [], w, S', hS, .nil, e', k'⟩
theorem le_blt {bl : Bl} {xs : Exs} : ∀ σ H Q, LEx K Γ (.blt bl xs) σ H Q → tCB (rBl bl) (LAx K Γ xs) σ H Q := fun σ H Q q => by
  obtain ⟨r, η, S, w, S', hS, hE, e', k'⟩ := q
  simp only [evE, Option.bind_eq_bind, Option.bind_eq_some_iff] at e'
  obtain ⟨⟨ws, S1⟩, e1, ds, e2, z, e3, e4⟩ := e'
  cases e4
  refine ⟨r, η, S, ws, _, hS, hE, e1, fun r1 vs H1 g1 hS1 hw => ?_⟩
  exact ⟨r1, _, ds, z, hS1, derefs_rq hS1 hw e2, e3, fun v H' hk hv => k' r1 v H' (g1.trans (gr_same hk)) (hS1.of_same hk) hv⟩
variable {e : Expr} {es : List Expr} {xs : Exs} {x : Str}
theorem pl_fn {bl : Bl} {id : String} (hc : CallR X (.builtin id) (rBl bl)) (hv : bootBuiltins x = some (.builtin id)) (hn : x ≠ "__name__") (hdb : (x == ("__debug__" : Str)) = false) (hg : Gl X x) (hm : X.mg x = none) (ha : PA X (e :: es) (LAx X.K Γ xs)) (hns : (e :: es).all notStar = true) :
    PE X (.Call (.Name x p) (e :: es) [] pos) (LEx X.K Γ (.blt bl xs)) := by
  rw [List.all_cons, Bool.and_eq_true] at hns
  exact pe_imp (pe_callB hc hg hm hv ha hn hdb (star_cons hns.1 _ _) (plainArgs hns.2 _ _)) le_blt
theorem pl_ty {bl : Bl} {T : String} (hc : CallR X (.type T) (rBl bl)) (hv : bootBuiltins x = some (.type T)) (hn : x ≠ "__name__") (hdb : (x == ("__debug__" : Str)) = false) (hg : Gl X x) (hm : X.mg x = none) (ha : PA X (e :: es) (LAx X.K Γ xs)) (hns : (e :: es).all notStar = true) :
    PE X (.Call (.Name x p) (e :: es) [] pos) (LEx X.K Γ (.blt bl xs)) := by
  rw [List.all_cons, Bool.and_eq_true] at hns
  exact pe_imp (pe_callTy hc hg hm hv ha hn hdb (star_cons hns.1 _ _) (plainArgs hns.2 _ _)) le_blt
/-- list(..): a list that was just made -/
def rListF : List V → Hp → VK → Prop := fun vs H Q => ∃ r d xs v, vs = [v] ∧ Rq H r v d ∧ itemsOf d = some xs ∧ ∀ p us, H p = none → Rps H r us xs → Q (.ref p) (upd H p (.lst us))
theorem cb_listF : CallR X (.type "list") rListF := by
  intro pins s σ H vs us Q I rx h
  obtain ⟨r, d, xs, v, rfl, hd, hx, q⟩ := h
  obtain ⟨a, ws, rfl, h3, h4⟩ := items_rp hd hx
  refine call_list_of pins s σ H _ us Q I rx ⟨a, ws, rfl, ?_, fun l hl => q l ws hl h3⟩
  rcases h4 with ⟨h1, _⟩ | ⟨h1, _, _⟩
  · exact .inl (.inl (.inl h1))
  · exact .inr h1.sq
theorem lf_list : ∀ σ H Q, LFx K Γ (.blt .list (.cons ia .nil)) σ H Q → tCB rListF (LAx K Γ (.cons ia .nil)) σ H Q := fun σ H Q q => by
  obtain ⟨r, η, S, ds0, S', hS, hE, e', k'⟩ := q
  simp only [evE, Option.bind_eq_bind, Option.bind_eq_some_iff] at e'
  obtain ⟨⟨ws, S1⟩, e1, ds, e2, z, e3, e4⟩ := e'
  cases e4
  refine ⟨r, η, S, ws, _, hS, hE, e1, fun r1 vs H1 g1 hS1 hw => ?_⟩
  have hq := derefs_rq hS1 hw e2
  unfold blD at e3
  split at e3 <;> first | (rename_i e; cases e) | skip
  · simp only [Option.map_eq_some_iff] at e3
    obtain ⟨xs, hx, e5⟩ := e3
    cases e5
    obtain ⟨v, rfl, h1⟩ := rps1 hq
    exact ⟨r1, _, _, v, rfl, h1, hx, fun p us hp hu => k' r1 H1 p us g1 hS1 hp hu⟩
  · cases e3
theorem pl_listF (hg : Gl X "list") (hm : X.mg "list" = none) (ha : PA X [e] (LAx X.K Γ (.cons ia .nil))) (hns : notStar e = true) : PE X (.Call (.Name "list" p) [e] [] pos) (LFx X.K Γ (.blt .list (.cons ia .nil))) :=
  pe_imp (pe_callTy cb_listF hg hm PyProof.Rows.boot_list ha (by decide) (by decide) (star_cons hns _ _) rfl) lf_list
/-- list + list, list * int -/
def rBoF (op : Bo) : R2 := fun x y H Q => ∃ r d e ds, Rq H r x d ∧ Rq H r y e ∧ boD op d e = some (.list ds) ∧ ∀ p us, H p = none → Rps H r us ds → Q (.ref p) (upd H p (.lst us))
theorem op_mulF : OpR X (binaryOp .Mult) (rBoF .mul) := by
  intro pins s σ H x y v u Q I rx ry h
  obtain ⟨r, d, e, ds, hd, he, hz, q⟩ := h
  unfold boD at hz
  split at hz <;> first | (rename_i e; cases e; done) | skip
  all_goals first | (split at hz <;> first | (cases hz; done) | skip) | skip
  all_goals first | (cases hz; done) | skip
  next ho ys j hc =>
    cases hz
    cases rp_int he
    obtain ⟨a, vs, rfl, ha, hv⟩ := rp_list hd
    rw [← hv.length] at hc
    refine op_rep pins s σ H _ _ v u Q I rx ry ⟨a, _, vs, rfl, rfl, ha, by omega, by omega, ?_, fun p hp => q p _ hp (hv.rep _)⟩
    rw [sizeLine_eq]
    refine Nat.le_trans (Nat.mul_le_mul hc.2.2 (show Int.toNat _ ≤ 1000 by have := hc.2.1; omega)) (by decide)
theorem lf_mul : ∀ σ H Q, LFx K Γ (.bin .mul ia ib) σ H Q → tOp (rBoF .mul) (LEx K Γ ia) (LEx K Γ ib) σ H Q := fun σ H Q q => by
  obtain ⟨r, η, S, ds0, S', hS, hE, e', k'⟩ := q
  simp only [evE, Option.bind_eq_bind, Option.bind_eq_some_iff] at e'
  obtain ⟨⟨w1, S1⟩, e1, ⟨w2, S2⟩, e2, d, e3, d', e4, z, e5, e6⟩ := e'
  cases e6
  exact ⟨r, η, S, w1, S1, hS, hE, e1, fun r1 v1 H1 g1 hS1 hw1 => ⟨r1, η, S1, w2, _, hS1, hE.gr g1, e2, fun r2 v2 H2 g2 hS2 hw2 => ⟨r2, d, d', ds0, deref_rq hS2 (hw1.gr g2) e3, deref_rq hS2 hw2 e4, e5, fun p us hp hu => k' r2 H2 p us (g1.trans g2) hS2 hp hu⟩⟩⟩
theorem pl_mulF (ha : PE X a (LEx X.K Γ ia)) (hb : PE X b (LEx X.K Γ ib)) : PE X (.BinOp a .Mult b pos) (LFx X.K Γ (.bin .mul ia ib)) := pe_imp (pe_op op_mulF ha hb) lf_mul
theorem op_addF : OpR X (binaryOp .Add) (rBoF .add) := by
  intro pins s σ H x y v u Q I rx ry h
  obtain ⟨r, d, e, ds, hd, he, hz, q⟩ := h
  unfold boD at hz
  split at hz <;> first | (rename_i e; cases e; done) | skip
  all_goals first | (split at hz <;> first | (cases hz; done) | skip) | skip
  all_goals first | (cases hz; done) | skip
  next ho ys j hc =>
    cases hz
    obtain ⟨a, xs, rfl, ha, hv⟩ := rp_list hd
    obtain ⟨b, ys, rfl, hb, hw⟩ := rp_list he
    rw [← hv.length, ← hw.length] at hc
    have hc := Nat.le_trans hc lim_line
    cases rx
    cases ry
    obtain ⟨_, its, n, r1, e1⟩ := rd_list I ha
    obtain ⟨_, its2, n2, r2, e2⟩ := rd_list I hb
    have l1 := r1.length
    have l2 := r2.length
    refine PySem.P.add_list e1 e2 ?_ (by rw [List.size_toArray, List.size_toArray]; omega)
    have ea : its.toArray ++ its2.toArray = (its ++ its2).toArray := by simp
    rw [ea]
    refine ⟨.ref s.heap.objs.size, L2.upd H s.heap.objs.size (.lst (xs ++ ys)), I.laid (t' := s.toks) (fun c o e => Heap.get?_push_of_some _ e) (Nat.le_refl _) ?_, rfl, q _ _ I.fresh (hv.append hw)⟩
    exact ⟨by rw [List.length_append]; exact hc, _, 0, r1.append r2, Heap.get?_push_size _ rfl⟩
theorem lf_add : ∀ σ H Q, LFx K Γ (.bin .add ia ib) σ H Q → tOp (rBoF .add) (LEx K Γ ia) (LEx K Γ ib) σ H Q := fun σ H Q q => by
  obtain ⟨r, η, S, ds0, S', hS, hE, e', k'⟩ := q
  simp only [evE, Option.bind_eq_bind, Option.bind_eq_some_iff] at e'
  obtain ⟨⟨w1, S1⟩, e1, ⟨w2, S2⟩, e2, d, e3, d', e4, z, e5, e6⟩ := e'
  cases e6
  exact ⟨r, η, S, w1, S1, hS, hE, e1, fun r1 v1 H1 g1 hS1 hw1 => ⟨r1, η, S1, w2, _, hS1, hE.gr g1, e2, fun r2 v2 H2 g2 hS2 hw2 => ⟨r2, d, d', ds0, deref_rq hS2 (hw1.gr g2) e3, deref_rq hS2 hw2 e4, e5, fun p us hp hu => k' r2 H2 p us (g1.trans g2) hS2 hp hu⟩⟩⟩
theorem pl_addF (ha : PE X a (LEx X.K Γ ia)) (hb : PE X b (LEx X.K Γ ib)) : PE X (.BinOp a .Add b pos) (LFx X.K Γ (.bin .add ia ib)) := pe_imp (pe_op op_addF ha hb) lf_add
def isiB : String → Option Bl
  | "int" => some .isint
  | "bool" => some .isbool
  | "tuple" => some .istup
  | "str" => some .isstr
  | "list" => some .islst
  | _ => none
theorem isi_ok {T : String} {bl : Bl} (h : isiB T = some bl) {d z : PyData} (hz : blD bl [d] = some z) : ∃ b, z = .bool b ∧ kitB (tyName d) T = some b := by
  unfold isiB at h
  split at h <;> cases h
  all_goals (cases d <;> cases hz)
  all_goals
    refine ⟨_, rfl, ?_⟩
    dsimp only [tyName]
    decide +kernel
theorem pl_isi {T : Str} {t : String} {bl : Bl} {p3 : Pos} (hT : isiB t = some bl) (hTt : T = Str.ofString t) (hg : Gl X "isinstance") (hm : X.mg "isinstance" = none) (hg2 : Gl X T) (hm2 : X.mg T = none) (hns : notStar e = true) (h : PE X e (LEx X.K Γ ia)) :
    PE X (.Call (.Name "isinstance" p) [e, .Name T p3] [] pos) (LEx X.K Γ (.blt bl (.cons ia .nil))) := by
  subst hTt
  have hb : bootBuiltins (Str.ofString t) = some (.type t) ∧ Str.ofString t ≠ "__name__" ∧ (Str.ofString t == ("__debug__" : Str)) = false := by
    unfold isiB at hT
    split at hT <;> first | cases hT; done | skip
    · exact ⟨PyProof.Rows.boot_int, by decide, by decide⟩
    · exact ⟨PyProof.Rows.boot_bool, by decide, by decide⟩
    · exact ⟨PyProof.Rows.boot_tuple, by decide, by decide⟩
    · exact ⟨PyProof.Rows.boot_str, by decide, by decide⟩
    · exact ⟨PyProof.Rows.boot_list, by decide, by decide⟩
  have hTy : PE X (.Name (Str.ofString t) p3) (tC (.ty t)) := pe_bltn hg2 hm2 hb.1 rfl hb.2.1 hb.2.2
  have hA : PA X [e, .Name (Str.ofString t) p3] (tCons (LEx X.K Γ ia) (tCons (tC (.ty t)) tNil)) := pa_cons h (pa_cons hTy pa_nil rfl) (star_cons hns _ _)
  refine pe_imp (pe_callB call_isi hg hm PyProof.Rows.boot_isinstance hA (by decide) (by decide) (star_cons hns _ _) rfl) fun σ H Q q => ?_
  obtain ⟨r, η, S, w, S', hS, hE, e', k'⟩ := q
  simp only [evE, evEs, Option.bind_eq_bind, Option.bind_eq_some_iff] at e'
  obtain ⟨⟨ws, S1⟩, ⟨⟨w1, S2⟩, e1, ⟨w2, S3⟩, e2, e3⟩, ds, e4, z, e5, e6⟩ := e'
  cases e6
  cases e2
  cases e3
  refine ⟨r, η, S, w1, _, hS, hE, e1, fun r1 v1 H1 g1 hS1 hw1 => ?_⟩
  have hq := derefs_rq hS1 (.cons hw1 .nil) e4
  cases hq with
  | @cons _ _ d _ h1 t1 =>
    cases t1
    obtain ⟨b, rfl, hk⟩ := isi_ok hT e5
    exact ⟨v1, .ty t, _, .type t, b, rfl, .ty t, tyx_of h1, kit_ty hk, k' r1 _ H1 g1 hS1 (.bl b)⟩
theorem rgV_eq (i j : Int) {H : Hp} {r : Rho} : Rps H r (rgV i j) (rngL i j) := by
  unfold rgV rngL
  generalize List.range (j - i).toNat = l
  induction l with
  | nil => exact .nil
  | cons n l ih => exact .cons (.int _) ih
theorem rgOk_of {i j : Int} (h : rngOk i j = true) : RgOk i j := by
  have := rng_ok h
  exact ⟨by omega, by omega, by omega, by omega, by omega⟩
theorem prg_imp {e : Expr} {t t' : L2.St → Hp → (Int → Int → Hp → Prop) → Prop} (h : PRg X e t) (k : ∀ σ H R, t' σ H R → t σ H R) : PRg X e t' := fun pins s σ H Q I q => h pins s σ H Q I (k σ H Q q)
def LRz (K : PySem.W.Frag) (Γ : Fns) (it : Iy) : L2.St → Hp → (Int → Int → Hp → Prop) → Prop := fun σ H R => ∃ r η S src S', SR S r H ∧ ER K η σ H r ∧ evI Γ η it S = some (src, S') ∧ ∀ r' H' i j, Gr r H r' H' → SR S' r' H' → src = .items (rngL i j) → rngOk i j = true → R i j H'
theorem pl_rg1 (hg : Gl X "range") (hm : X.mg "range" = none) (hns : notStar a = true) (ha : PE X a (LEx X.K Γ ia)) : PRg X (.Call (.Name "range" p) [a] [] pos) (LRz X.K Γ (.rng1 ia)) :=
  prg_imp (prg_1 hg hm ha (star_cons hns _ _)) fun σ H R q => by
    obtain ⟨r, η, S, src, S', hS, hE, e', k'⟩ := q
    simp only [evI, Option.bind_eq_bind, Option.bind_eq_some_iff] at e'
    obtain ⟨⟨w1, S1⟩, e1, i, e2, e3⟩ := e'
    split at e3
    · next hr =>
      cases e3
      have ew := asInt_of e2
      simp only at ew
      subst ew
      exact ⟨r, η, S, _, _, hS, hE, e1, fun r1 v H1 g1 hS1 hw => ⟨i, rw_int hw, k' r1 H1 0 i g1 hS1 rfl hr⟩⟩
    · cases e3
theorem pl_rg2 (hg : Gl X "range") (hm : X.mg "range" = none) (hns : notStar a = true) (hns2 : notStar b = true) (ha : PE X a (LEx X.K Γ ia)) (hb : PE X b (LEx X.K Γ ib)) : PRg X (.Call (.Name "range" p) [a, b] [] pos) (LRz X.K Γ (.rng2 ia ib)) :=
  prg_imp (prg_2 hg hm ha hb (star_cons hns _ _) (star_cons hns2 _ _) (by rw [star_cons hns2]; rfl)) fun σ H R q => by
    obtain ⟨r, η, S, src, S', hS, hE, e', k'⟩ := q
    simp only [evI, Option.bind_eq_bind, Option.bind_eq_some_iff] at e'
    obtain ⟨⟨w1, S1⟩, e1, ⟨w2, S2⟩, e2, i, e3, j, e4, e5⟩ := e'
    split at e5
    · next hr =>
      cases e5
      have ew := asInt_of e3
      have ew2 := asInt_of e4
      simp only at ew ew2
      subst ew ew2
      exact ⟨r, η, S, _, S1, hS, hE, e1, fun r1 v H1 g1 hS1 hw => ⟨r1, η, S1, _, _, hS1, hE.gr g1, e2, fun r2 v2 H2 g2 hS2 hw2 => ⟨i, j, rw_int hw, rw_int hw2, k' r2 H2 i j (g1.trans g2) hS2 rfl hr⟩⟩⟩
    · cases e5
def isRng : Iy → Bool
  | .rng1 _ => true
  | .rng2 _ _ => true
  | _ => false
theorem rng_items {it : Iy} (h : isRng it = true) {η : En} {S S' : Sto} {src : Src} (e : evI Γ η it S = some (src, S')) : ∃ i j, src = .items (rngL i j) ∧ rngOk i j = true := by
  cases it with
  | rng1 x =>
    simp only [evI, Option.bind_eq_bind, Option.bind_eq_some_iff] at e
    obtain ⟨⟨w1, S1⟩, e1, i, e2, e3⟩ := e
    split at e3
    · next hr => cases e3; exact ⟨0, i, rfl, hr⟩
    · cases e3
  | rng2 x y =>
    simp only [evI, Option.bind_eq_bind, Option.bind_eq_some_iff] at e
    obtain ⟨⟨w1, S1⟩, e1, ⟨w2, S2⟩, e2, i, e3, j, e4, e5⟩ := e
    split at e5
    · next hr => cases e5; exact ⟨i, j, rfl, hr⟩
    · cases e5
  | seq _ => cases h
  | enum _ => cases h
  | rngd _ _ => cases h
  | zip _ _ => cases h
  | zip3 _ _ _ => cases h
  | keys _ => cases h
theorem pe_tupRgF {te : L2.St → Hp → (Int → Int → Hp → Prop) → Prop} (hc : X.calm = true) (hg : Gl X "tuple") (hm : X.mg "tuple" = none) (he : PRg X e te) (na : starEach [e] X.env = (false, eval e X.env) :: starEach [] X.env) :
    PE X (.Call (.Name "tuple" p) [e] [] pos) (fun σ H Q => te σ H fun a b H1 => RgOk a b ∧ ∀ q o, H1 q = none → o.dict = none → Q (.ref q) (upd H1 q (.frz o (.tup (rgV a b))))) := by
  refine ⟨fun pins s σ H Q I h => ?_⟩
  refine Call_ (ld_blt I hg hm PyProof.Rows.boot_tuple (PyProof.Rows.callWith_type1 (args_cons (thn (he pins s σ H _ I h) fun x s1 ⟨r, a, b, t, u, v, H1, ex, hr, I1, ok, q⟩ => args_nil ?_) na) na))
  subst ex
  obtain ⟨b1, b2, b3, b4, b5⟩ := ok
  refine call_tuple_range (n := (b - a).toNat) (I1.ok.hd hc) hr (small_one b1 b2 b3 b4) (rangeSize_nat a b) b5 fun h' tk acc hk hi => ?_
  have I2 : Inv X pins σ H1 { s1 with heap := h', toks := tk } := I1.kept hk
  have hz : (rgV a b).length ≤ sizeLine := by rw [rgV_length, sizeLine_eq]; omega
  have L := laidT I2 (vals_rg hi) hz tk
  have ea : tob acc.toList = { cls := .type "tuple", data := .seq acc } := by unfold tob; rw [Array.toArray_toList]
  rw [ea] at L
  exact ⟨.ref h'.objs.size, _, L, rfl, q _ _ (I2.hok.fresh (Nat.le_refl _)) rfl⟩
theorem pl_lrngF {it : Iy} (hi : isRng it = true) (hc : X.calm = true) (hg : Gl X "list") (hm : X.mg "list" = none) (hns : notStar e = true) (he : PRg X e (LRz X.K Γ it)) : PE X (.Call (.Name "list" p) [e] [] pos) (LFx X.K Γ (.lrng false it)) :=
  pe_imp (pe_listRg hc hg hm he (star_cons hns _ _)) fun σ H Q q => by
    obtain ⟨r, η, S, ds0, S', hS, hE, e', k'⟩ := q
    simp only [evE, Option.bind_eq_bind, Option.bind_eq_some_iff] at e'
    obtain ⟨⟨src, S1⟩, e1, e2⟩ := e'
    obtain ⟨i0, j0, rfl, h0⟩ := rng_items hi e1
    split at e2
    · next ds hd =>
      have hd : Src.items (rngL i0 j0) = .items ds := hd
      cases hd
      split at e2
      · cases e2
        refine ⟨r, η, S, _, _, hS, hE, e1, fun r' H' i j g hS' hs hr => ⟨rgOk_of hr, fun p hp => k' r' H' p _ g hS' hp ?_⟩⟩
        have hs : rngL i0 j0 = rngL i j := by injection hs
        rw [hs]
        exact rgV_eq i j
      · cases e2
    · cases e2
theorem lrng_val {it : Iy} : ∀ η S w S', evE Γ η (.lrng false it) S = some (w, S') → ∃ ds, w = .v (.list ds) := fun η S w S' e => by
  simp only [evE, Option.bind_eq_bind, Option.bind_eq_some_iff] at e
  obtain ⟨⟨ws, S1⟩, e1, e2⟩ := e
  split at e2
  · split at e2
    · cases e2
      exact ⟨_, rfl⟩
    · cases e2
  · cases e2
theorem pl_lrngT {it : Iy} (hi : isRng it = true) (hc : X.calm = true) (hg : Gl X "tuple") (hm : X.mg "tuple" = none) (hns : notStar e = true) (he : PRg X e (LRz X.K Γ it)) : PE X (.Call (.Name "tuple" p) [e] [] pos) (LEx X.K Γ (.lrng true it)) :=
  pe_imp (pe_tupRgF hc hg hm he (star_cons hns _ _)) fun σ H Q q => by
    obtain ⟨r, η, S, w, S', hS, hE, e', k'⟩ := q
    simp only [evE, Option.bind_eq_bind, Option.bind_eq_some_iff] at e'
    obtain ⟨⟨src, S1⟩, e1, e2⟩ := e'
    obtain ⟨i0, j0, rfl, h0⟩ := rng_items hi e1
    split at e2
    · next ds hd =>
      have hd : Src.items (rngL i0 j0) = .items ds := hd
      cases hd
      split at e2
      · cases e2
        refine ⟨r, η, S, _, _, hS, hE, e1, fun r' H' i j g hS' hs hr => ⟨rgOk_of hr, fun p o hp ho => ?_⟩⟩
        have hs : rngL i0 j0 = rngL i j := by injection hs
        refine k' r' _ _ (g.trans (Gr.upd_new hS' hp)) (hS'.upd_new hp) (.tup ⟨o, ho, upd_same⟩ (hS'.none_of hp) ?_)
        rw [hs]
        exact rgV_eq i j
      · cases e2
    · cases e2
def tyG (K : PySem.W.Frag) (T : String) (x : V) (H : Hp) : Prop := (T = "list" ∧ ∃ a vs, x = .ref a ∧ H a = some (.lst vs)) ∨ (T = "tuple" ∧ ∃ a vs, x = .ref a ∧ Ft H a vs)
def notBare : Expr → Bool
  | .Call (.Name _ _) [] [] _ => false
  | _ => true
theorem notBare_ok {o : Expr} (h : notBare o = true) (name : Str) (env : Env) (whole : Sem Value) : attributeBase o name env whole = whole := by
  unfold attributeBase
  split
  · cases h
  · rfl
theorem tyG_is {pins : List (Addr × Obj)} {s : Shared} {σ : L2.St} {H : Hp} {T : String} {x : V} {v : Value} (I : Inv X pins σ H s) (rx : RelV x v) (ty : tyG X.K T x H) : s.TypeIs v T ∧ ∀ a, v = .ref a → ∃ ob, s.heap.get? a = some ob ∧ ob.dict = none := by
  rcases ty with ⟨rfl, a, vs, rfl, h⟩ | ⟨rfl, a, vs, rfl, o, ho, h⟩
  · exact tyV_is I rx (.inl ⟨rfl, vs, .inl (.inl h)⟩)
  · cases rx
    obtain ⟨h0, _, its, _, o', h1, hc, _⟩ := (show ObjOk X.prog X.w H s.heap a (.frz o (.tup vs)) from I.hok a _ h)
    exact ⟨⟨_, h1, hc⟩, fun b e => by cases e; exact ⟨_, h0, ho⟩⟩
end
end Pl


namespace Pl
open PySem PySem.Spec PyProof.Rows L2
section
variable {X : Cx} {Γ : Fns} {pos p p2 : Pos} {a b c : Expr} {ia ib ic : Ex}
theorem con_pe {d : PyData} {e : Expr} (h : conE d e = true) : ∃ v, PE X e (tC v) ∧ ∀ H r, Rp H r v d := by
  unfold conE at h
  split at h
  · cases of_decide_eq_true h
    exact ⟨_, pe_int, fun _ _ => .int _⟩
  · cases eq_of_beq h
    exact ⟨_, pe_bl, fun _ _ => .bl _⟩
  · exact ⟨_, pe_non, fun _ _ => .non⟩
  · cases of_decide_eq_true h
    exact ⟨_, pe_str, fun _ _ => .str _⟩
  · cases h
theorem key_pe {d : PyData} {e : Expr} {k : Key} (h : conE d e = true) (hk : kO d = some k) : PE X e (tC (kV k)) := by
  obtain ⟨v, h1, h2⟩ := con_pe (X := X) h
  have := rq_key (h2 (fun _ => none) ⟨[], []⟩).rq hk
  rw [← this]
  exact h1
def dcnE : List (PyData × PyData) → List (Option Expr) → List Expr → Bool
  | [], [], [] => true
  | (k, v) :: r, some a :: as, b :: bs => conE k a && conE v b && dcnE r as bs
  | _, _, _ => false
abbrev Key2 := Key × V
theorem pps_con : ∀ {kvs : List (PyData × PyData)} {keys : List (Option Expr)} {vals : List Expr}, dcnE kvs keys vals = true → kvs.all (fun p => (kO p.1).isSome) = true →
    ∃ ps : List Key2, PPs X pos keys vals (ps.map fun p => (tC (kV p.1), tC p.2)) ∧ ps.map (fun p => kD p.1) = kvs.map (·.1) ∧ (∀ H r, Rps H r (ps.map (·.2)) (kvs.map (·.2))) ∧ keys.all (·.isSome) = true ∧ keys.length = vals.length ∧ keys.length = kvs.length
  | [], [], [], _, _ => ⟨[], pps_nil, rfl, fun _ _ => .nil, rfl, rfl, rfl⟩
  | (k, v) :: r, some a :: as, b :: bs, h, h2 => by
    simp only [dcnE, Bool.and_eq_true] at h
    obtain ⟨⟨h3, h4⟩, h5⟩ := h
    simp only [List.all_cons, Bool.and_eq_true] at h2
    obtain ⟨h6, h7⟩ := h2
    obtain ⟨j, hj⟩ := Option.isSome_iff_exists.mp h6
    obtain ⟨ps, q1, q2, q3, q4, q5, q6⟩ := pps_con h5 h7
    obtain ⟨u, hu1, hu2⟩ := con_pe (X := X) h4
    refine ⟨(j, u) :: ps, pps_cons (key_pe h3 hj) hu1 q1, ?_, fun H r => .cons (hu2 H r) (q3 H r), by simpa using q4, by simpa using q5, by simpa using q6⟩
    rw [List.map_cons, List.map_cons, q2]
    show kD j :: _ = k :: _
    rw [← kO_some hj]
  | [], some _ :: _, _, h, _ => by simp [dcnE] at h
  | [], none :: _, _, h, _ => by simp [dcnE] at h
  | [], [], _ :: _, h, _ => by simp [dcnE] at h
  | (_, _) :: _, [], _, h, _ => by simp [dcnE] at h
  | (_, _) :: _, none :: _, _, h, _ => by simp [dcnE] at h
  | (_, _) :: _, some _ :: _, [], h, _ => by simp [dcnE] at h
theorem tPairs_con {ps : List Key2} {σ : L2.St} {H : Hp} : ∀ {Q : List (V × V) → Hp → Prop}, Q (ps.map fun p => (kV p.1, p.2)) H → tPairs (ps.map fun p => (tC (kV p.1), tC p.2)) σ H Q := by
  induction ps with
  | nil => exact fun h => h
  | cons p ps ih => exact fun {Q} h => ih (Q := fun l H3 => Q ((kV p.1, p.2) :: l) H3) h
theorem putK_fresh {κ : Type} [DecidableEq κ] {kvs : List (κ × V)} {k : κ} {v : V} (h : k ∉ kvs.map (·.1)) : putK kvs k v = kvs ++ [(k, v)] := by
  unfold putK
  rw [if_neg]
  simp only [Bool.not_eq_true, List.any_eq_false, decide_eq_true_eq]
  exact fun p hp e => h (List.mem_map.mpr ⟨p, hp, e⟩)
theorem mergeK_nd : ∀ {more kvs : List Key2}, ((kvs ++ more).map (·.1)).Nodup → mergeK kvs more = kvs ++ more
  | [], kvs, _ => (List.append_nil _).symm
  | p :: r, kvs, h => by
    show mergeK (putK kvs p.1 p.2) r = _
    have hn : p.1 ∉ kvs.map (·.1) := by
      rw [List.map_append, List.map_cons, List.nodup_append] at h
      exact fun hm => h.2.2 _ hm _ List.mem_cons_self rfl
    rw [putK_fresh hn, mergeK_nd (by simpa using h), List.append_assoc]
    rfl
theorem okK_parts {kvs : List (PyData × PyData)} (h : okK kvs = true) : kvs.all (fun p => (kO p.1).isSome) = true ∧ (kvs.map fun p => kO p.1).Nodup := by
  unfold okK at h
  rw [Bool.and_eq_true, decide_eq_true_eq] at h
  exact h
theorem nd_of {ps : List Key2} {kvs : List (PyData × PyData)} (h : ps.map (fun p => kD p.1) = kvs.map (·.1)) (hn : (kvs.map fun p => kO p.1).Nodup) : (ps.map (·.1)).Nodup := by
  have e : (kvs.map fun p => kO p.1) = (ps.map (·.1)).map some := by
    have h1 : (kvs.map fun p => kO p.1) = (kvs.map (·.1)).map kO := by rw [List.map_map]; rfl
    rw [h1, ← h, List.map_map, List.map_map]
    refine List.map_congr_left fun p _ => ?_
    exact kO_kD p.1
  rw [e] at hn
  exact (List.pairwise_map.mp hn).imp fun h e => h (congrArg some e)
theorem pl_dcn {kvs : List (PyData × PyData)} {keys : List (Option Expr)} {vals : List Expr} (h : dcnE kvs keys vals = true) : PE X (.Dict keys vals pos) (LEx X.K Γ (.dcn kvs)) := by
  by_cases h0 : okK kvs = true ∧ kvs.length ≤ 15
  · obtain ⟨h1, h2⟩ := okK_parts h0.1
    obtain ⟨ps, q1, q2, q3, q4, q5, q6⟩ := pps_con (X := X) (pos := pos) h h1
    have hlen : ps.length = kvs.length := by simpa using congrArg List.length q2
    by_cases hk : keys = []
    · subst hk
      have hv : vals = [] := by
        cases vals with
        | nil => rfl
        | cons _ _ => cases q5
      subst hv
      have hkv : kvs = [] := by
        cases kvs with
        | nil => rfl
        | cons _ _ => cases q6
      subst hkv
      refine pe_imp pe_dnewK fun σ H Q q => ?_
      obtain ⟨r, η, S, w, S', hS, hE, e, k⟩ := q
      simp only [evE] at e
      split at e
      · cases e
        intro p hp
        exact k r _ _ (Gr.upd_new hS hp) (hS.upd_new hp) (.dic (kvs := []) (.inl upd_same) (hS.none_of hp) rfl .nil)
      · cases e
    · refine pe_imp (pe_disp q1 q4 q5 hk (by omega)) fun σ H Q q => ?_
      obtain ⟨r, η, S, w, S', hS, hE, e, k⟩ := q
      simp only [evE] at e
      split at e
      · cases e
        intro p hp
        refine tPairs_con ⟨upd_same, ps, rfl, by omega, ?_⟩
        rw [upd_upd, mergeK_nd (kvs := []) (nd_of q2 h2), List.nil_append]
        exact k r _ _ (Gr.upd_new hS hp) (hS.upd_new hp) (.dic (.inl upd_same) (hS.none_of hp) q2 (q3 _ _))
      · cases e
  · refine ⟨fun pins s σ H Q I q => ?_⟩
    obtain ⟨r, η, S, w, S', hS, hE, e, k⟩ := q
    simp only [evE] at e
    rw [if_neg (by simpa using h0)] at e
    cases e
theorem pairs_rp {H : Hp} {r : Rho} : ∀ {xs : List PyData} {vs : List V} {kvs : List (PyData × PyData)}, Rps H r vs xs → pairsD xs = some kvs → kvs.all (fun p => (kO p.1).isSome) = true →
    ∃ (as : List Addr) (ps : List Key2), vs = as.map V.ref ∧ Paired (fun p kv => Ft H p [kV kv.1, kv.2]) as ps ∧ ps.map (fun p => kD p.1) = kvs.map (·.1) ∧ Rps H r (ps.map (·.2)) (kvs.map (·.2))
  | [], _, _, .nil, e, _ => by
    cases e
    exact ⟨[], [], rfl, .nil, rfl, .nil⟩
  | .tuple [k, v] :: xs, _, kvs, .cons h t, e, ha => by
    simp only [pairsD, Option.map_eq_some_iff] at e
    obtain ⟨m, e1, rfl⟩ := e
    simp only [List.all_cons, Bool.and_eq_true] at ha
    obtain ⟨as, ps, q1, q2, q3, q4⟩ := pairs_rp t e1 ha.2
    obtain ⟨j, hj⟩ := Option.isSome_iff_exists.mp ha.1
    obtain ⟨x, us, rfl, h1, _, h3⟩ := rp_tup h.rq
    cases h3 with
    | cons h4 h5 =>
      cases h5 with
      | cons h6 h7 =>
        cases h7
        have e2 := rq_key h4.rq hj
        subst e2
        refine ⟨x :: as, (j, _) :: ps, by rw [q1]; rfl, .cons h1 q2, ?_, .cons h6 q4⟩
        rw [List.map_cons, List.map_cons, q3]
        show kD j :: _ = k :: _
        rw [← kO_some hj]
  | .none :: _, _, _, _, e, _ => by simp [pairsD] at e
  | .bool _ :: _, _, _, _, e, _ => by simp [pairsD] at e
  | .int _ :: _, _, _, _, e, _ => by simp [pairsD] at e
  | .str _ :: _, _, _, _, e, _ => by simp [pairsD] at e
  | .list _ :: _, _, _, _, e, _ => by simp [pairsD] at e
  | .dict _ :: _, _, _, _, e, _ => by simp [pairsD] at e
  | .tuple [] :: _, _, _, _, e, _ => by simp [pairsD] at e
  | .tuple [_] :: _, _, _, _, e, _ => by simp [pairsD] at e
  | .tuple (_ :: _ :: _ :: _) :: _, _, _, _, e, _ => by simp [pairsD] at e
theorem dct_parts {d z : PyData} (h : dctD d = some z) : ∃ xs kvs, d = .list xs ∧ pairsD xs = some kvs ∧ okK kvs = true ∧ z = .dict kvs := by
  unfold dctD at h
  split at h
  · simp only [Option.bind_eq_bind, Option.bind_eq_some_iff] at h
    obtain ⟨kvs, h1, h⟩ := h
    split at h
    · next hl =>
      cases h
      exact ⟨_, kvs, rfl, h1, hl, rfl⟩
    · cases h
  · cases h
theorem pl_dct (hc : X.calm = true) (hg : Gl X "dict") (hm : X.mg "dict" = none) (hs : notStar a = true) (ha : PE X a (LEx X.K Γ ia)) : PE X (.Call (.Name "dict" p) [a] [] pos) (LEx X.K Γ (.dct ia)) := by
  have hA : PA X [a] (tCons (LEx X.K Γ ia) tNil) := pa_cons ha pa_nil (star_cons hs _ _)
  refine pe_imp (pe_callTy (call_dictP hc) hg hm PyProof.Rows.boot_dict hA (by decide) (by decide) (star_cons hs _ _) rfl) fun σ H Q q => ?_
  obtain ⟨r, η, S, w, S', hS, hE, e', k'⟩ := q
  simp only [evE, Option.bind_eq_bind, Option.bind_eq_some_iff] at e'
  obtain ⟨⟨w1, S1⟩, e1, d, e2, z, e3, e4⟩ := e'
  cases e4
  obtain ⟨xs, kvs, rfl, h1, h2, rfl⟩ := dct_parts e3
  obtain ⟨h3, h4⟩ := okK_parts h2
  refine ⟨r, η, S, w1, _, hS, hE, e1, fun r1 v1 H1 g1 hS1 hw1 => ?_⟩
  obtain ⟨x, vs, rfl, ha, hv⟩ := rp_list (deref_rq hS1 hw1 e2)
  obtain ⟨as, ps, rfl, q2, q3, q4⟩ := pairs_rp hv h1 h3
  refine ⟨x, as, ps, rfl, .inl (.inl ha), L2.Paired.mapP q2 fun _ _ h => h.sq, fun p hp => ?_⟩
  rw [mergeK_nd (kvs := []) (nd_of q3 h4), List.nil_append]
  exact k' r1 _ _ (g1.trans (Gr.upd_new hS1 hp)) (hS1.upd_new hp) (.dic (.inl upd_same) (hS1.none_of hp) q3 (q4.upd hp))
theorem rw_newCell {K : PySem.W.Frag} {r : Rho} {H : Hp} {S : Sto} {p : Addr} {o : HO} (hS : SR S r H) : Rw K (upd H p o) (r.add p) (.r S.length) (.ref p) := by
  have hl := hS.len
  refine ⟨?_, fun a ea => ?_⟩
  · show S.length < (r.c ++ [some p]).length
    simp [hl]
  · have : (r.c ++ [some p])[S.length]? = some (some a) := ea
    rw [← hl, List.getElem?_append_right (Nat.le_refl _), Nat.sub_self] at this
    cases this
    rfl
theorem pl_dnw : PE X (.Dict [] [] pos) (LEx X.K Γ .dnw) := by
  refine pe_imp pe_dnewK fun σ H Q q => ?_
  obtain ⟨r, η, S, w, S', hS, hE, e, k⟩ := q
  simp only [evE] at e
  cases e
  intro p hp
  exact k (r.add p) _ _ (gr_cell hS hp) (hS.cellC hp ⟨[], upd_same, rfl, .nil⟩) (rw_newCell hS)
theorem get_dic : ∀ {kvs : List (Key × V)} {ds : List (PyData × PyData)} (k : Key) {H : Hp} {r : Rho} {x : V} {y : PyData}, kvs.map (fun p => kD p.1) = ds.map (·.1) → Rps H r (kvs.map (·.2)) (ds.map (·.2)) → Rp H r x y →
    Rp H r ((valV kvs k).getD x) (((ds.find? fun p => decide (kO p.1 = some k)).map (·.2)).getD y)
  | [], [], _, _, _, _, _, _, _, h => h
  | [], _ :: _, _, _, _, _, _, e, _, _ => by simp at e
  | _ :: _, [], _, _, _, _, _, e, _, _ => by simp at e
  | p :: kvs, q :: ds, k, H, r, x, y, e, t, h => by
    simp only [List.map_cons, List.cons.injEq] at e
    cases t with
    | cons t1 t2 =>
      have hq : kO q.1 = some p.1 := by rw [← e.1]; exact kO_kD p.1
      by_cases hk : p.1 = k
      · rw [List.find?_cons_of_pos (by simp [hq, hk]), valV_pos hk]
        exact t1
      · rw [List.find?_cons_of_neg (by simp [hq, hk]), valV_neg hk]
        exact get_dic k e.2 t2 h
theorem asDct_of {d : PyData} {u : Unit} (h : asDct d = some u) : ∃ kvs, d = .dict kvs := by
  cases d <;> first | exact ⟨_, rfl⟩ | cases h
theorem getD1_of {x d k z : PyData} (h : getD1 x d k = some z) : ∃ kvs j, d = .dict kvs ∧ kO k = some j ∧ z = ((kvs.find? fun p => decide (kO p.1 = some j)).map (·.2)).getD x := by
  cases d with
  | dict kvs =>
    simp only [getD1, Option.bind_eq_bind, Option.bind_eq_some_iff] at h
    obtain ⟨j, hj, h⟩ := h
    cases h
    refine ⟨kvs, j, rfl, hj, ?_⟩
    unfold lookD
    rw [hj]
    rfl
  | _ => simp [getD1] at h
theorem isD_of {H : Hp} {r : Rho} {v : V} {kvs : List (PyData × PyData)} (h : Rq H r v (.dict kvs)) : ∃ a, v = .ref a ∧ IsD H a := by
  obtain ⟨a, ps, rfl, ha, _⟩ := rp_dic h
  exact ⟨a, rfl, .inl ⟨ps, ha⟩⟩
theorem m1_of {o e : Expr} {m : Str} {apos cpos : Pos} (hb : notBare o = true) (hl : (apos.endLine == cpos.line) = true) (hs : notStar e = true) : M1 X o m apos e cpos where
  base := notBare_ok hb m X.env _
  few := by rw [star_cons hs]; rfl
  line := hl
  trees := by rw [star_cons hs]; rfl
theorem m2_of {o e f : Expr} {m : Str} {apos cpos : Pos} (hb : notBare o = true) (hl : (apos.endLine == cpos.line) = true) (hs : notStar e = true) (hs2 : notStar f = true) : M2 X o m apos e f cpos where
  base := notBare_ok hb m X.env _
  few := by rw [star_cons hs, star_cons hs2]; rfl
  line := hl
  trees := by rw [star_cons hs, star_cons hs2]; rfl
theorem pl_dgt {apos cpos : Pos} (hu : X.A.units + 200 < cLine) (hb : notBare a = true) (hl : (apos.endLine == cpos.line) = true) (hns : notStar b = true) (ha : PE X a (LEx X.K Γ ia)) (hk : PE X b (LEx X.K Γ ib)) :
    PE X (.Call (.Attribute a "get" apos) [b] [] cpos) (LEx X.K Γ (.dgt ia ib)) := by
  refine pe_imp (pe_dget1 (by omega) ha hk (m1_of hb hl hns)) fun σ H Q q => ?_
  obtain ⟨r, η, S, w, S', hS, hE, e, k⟩ := q
  simp only [evE, Option.bind_eq_bind, Option.bind_eq_some_iff] at e
  obtain ⟨⟨w1, S1⟩, e1, d0, e2, u, e3, ⟨w2, S2⟩, e4, d, e5, kd, e6, z, e7, e8⟩ := e
  cases e8
  obtain ⟨kv0, rfl⟩ := asDct_of e3
  obtain ⟨kvs, j, rfl, hj, rfl⟩ := getD1_of e7
  refine ⟨r, η, S, w1, S1, hS, hE, e1, fun r1 v1 H1 g1 hS1 hw1 => ?_⟩
  obtain ⟨x, rfl, hd⟩ := isD_of (deref_rq hS1 hw1 e2)
  refine ⟨x, rfl, hd, r1, η, S1, w2, S2, hS1, hE.gr g1, e4, fun r2 v2 H2 g2 hS2 hw2 => ?_⟩
  obtain ⟨x', ps, ex, ha, hkv, hv⟩ := rp_dic (deref_rq hS2 (hw1.gr g2) e5)
  cases ex
  cases rq_key (deref_rq hS2 hw2 e6) hj
  exact ⟨_, .inl ⟨ps, j, ha, rfl, rfl⟩, k r2 _ H2 (g1.trans g2) hS2 (get_dic j hkv hv .non)⟩
theorem pl_dgx {apos cpos : Pos} (hu : X.A.units + 200 < cLine) (hb : notBare a = true) (hl : (apos.endLine == cpos.line) = true) (hns : notStar b = true) (hns2 : notStar c = true) (ha : PE X a (LEx X.K Γ ia)) (hk : PE X b (LEx X.K Γ ib)) (hx : PE X c (LEx X.K Γ ic)) :
    PE X (.Call (.Attribute a "get" apos) [b, c] [] cpos) (LEx X.K Γ (.dgx ia ib ic)) := by
  refine pe_imp (pe_dget2 (by omega) ha hk hx (m2_of hb hl hns hns2)) fun σ H Q q => ?_
  obtain ⟨r, η, S, w, S', hS, hE, e, k⟩ := q
  simp only [evE, Option.bind_eq_bind, Option.bind_eq_some_iff] at e
  obtain ⟨⟨w1, S1⟩, e1, d0, e2, u, e3, ⟨w2, S2⟩, e4, ⟨w3, S3⟩, e9, d, e5, kd, e6, e7⟩ := e
  split at e7
  · next y hy =>
    cases (show w3 = .v y from hy)
    simp only [Option.bind_eq_some_iff] at e7
    obtain ⟨z, e7, e8⟩ := e7
    cases e8
    obtain ⟨kv0, rfl⟩ := asDct_of e3
    obtain ⟨kvs, j, rfl, hj, rfl⟩ := getD1_of e7
    refine ⟨r, η, S, w1, S1, hS, hE, e1, fun r1 v1 H1 g1 hS1 hw1 => ?_⟩
    obtain ⟨x, rfl, hd⟩ := isD_of (deref_rq hS1 hw1 e2)
    refine ⟨x, rfl, hd, r1, η, S1, w2, S2, hS1, hE.gr g1, e4, fun r2 v2 H2 g2 hS2 hw2 => ⟨r2, η, S2, _, _, hS2, (hE.gr g1).gr g2, e9, fun r3 v3 H3 g3 hS3 hw3 => ?_⟩⟩
    obtain ⟨x', ps, ex, ha, hkv, hv⟩ := rp_dic (deref_rq hS3 ((hw1.gr g2).gr g3) e5)
    cases ex
    cases rq_key (deref_rq hS3 (hw2.gr g3) e6) hj
    exact ⟨_, .inl ⟨ps, j, ha, rfl, rfl⟩, k r3 _ H3 ((g1.trans g2).trans g3) hS3 (get_dic j hkv hv hw3)⟩
  · cases e7
end
end Pl


namespace Pl
open PySem PySem.Spec PyProof.Rows L2
section
variable {X : Cx} {Γ : Fns} {K : PySem.W.Frag} {pos p p2 apos cpos : Pos} {a b c e o : Expr} {es : List Expr} {ia ib ic : Ex} {name : Str} {T id : String} {r0 : V → List V → Hp → VK → Prop} {to : TE} {t : TA}
def tBG (K : PySem.W.Frag) (T : String) (r : V → List V → Hp → VK → Prop) (to : TE) (t : TA) : TE := fun σ H Q => to σ H fun x H1 => tyG K T x H1 ∧ t σ H1 fun xs H2 => r x xs H2 Q
theorem pe_bmG (pa : PlainAttrs T) (slot : Slot T name id) (hty : typeOf (.builtin id) = pure (.type "method_descriptor")) (hm : MtR X id r0) (ho : PE X o to) (ha : PA X [e] t)
    (hbase : notBare o = true) (hline : (apos.endLine == cpos.line) = true) (hns : notStar e = true) : PE X (.Call (.Attribute o name apos) [e] [] cpos) (tBG X.K T r0 to t) := by
  have hs := star_cons hns [] X.env
  refine ⟨fun pins s σ H Q I h => ?_⟩
  refine wpAny_Call_method_late (notBare_ok hbase _ _ _) (by rw [hs]; rfl) hline rfl (thn (ho.run pins s σ H _ I h) fun v s1 ⟨x, H1, I1, r1, ty, q1⟩ => ?_)
  obtain ⟨h1, h2⟩ := tyG_is I1 r1 ty
  refine ⟨T, id, pa, slot, hty, h1, h2, ?_⟩
  have hA := ha.run cpos pins s1 σ H1 _ I1 q1
  rw [hs] at hA ⊢
  refine Calls.callWith_builtin rfl (Calls.evalArgs_plain ?_)
  exact thn hA fun us s2 ⟨vs, H2, I2, r2, q2⟩ => hm pins s2 σ H2 x vs v us Q I2 r1 r2 q2
theorem pe_bmG0 (pa : PlainAttrs T) (slot : Slot T name id) (hty : typeOf (.builtin id) = pure (.type "method_descriptor")) (hm : MtR X id r0) (ho : PE X o to)
    (hbase : notBare o = true) (hline : (apos.endLine == cpos.line) = true) : PE X (.Call (.Attribute o name apos) [] [] cpos) (fun σ H Q => to σ H fun x H1 => tyG X.K T x H1 ∧ r0 x [] H1 Q) := by
  refine ⟨fun pins s σ H Q I h => ?_⟩
  refine wpAny_Call_method0_late (notBare_ok hbase _ _ _) hline (thn (ho.run pins s σ H _ I h) fun v s1 ⟨x, H1, I1, r1, ty, q1⟩ => ?_)
  obtain ⟨h1, h2⟩ := tyG_is I1 r1 ty
  exact ⟨T, id, pa, slot, hty, h1, h2, Calls.callWith_builtin rfl (PySem.evalArgs_none (hm pins s1 σ H1 x [] v [] Q I1 r1 .nil q1))⟩
/-- the receiver's kind -/
theorem recv_ty {r1 : Rho} {H1 : Hp} {S1 : Sto} {w : W} {v : V} {d : PyData} (hS1 : SR S1 r1 H1) (hw : Rw K H1 r1 w v) (hd : deref S1 w = some d) (hx : (itemsOf d).isSome = true) : tyG K (seqTy d) v H1 := by
  have hq := deref_rq hS1 hw hd
  cases d with
  | list ds =>
    obtain ⟨a, vs, rfl, h1, _⟩ := rp_list hq
    exact .inl ⟨rfl, a, vs, rfl, h1⟩
  | tuple ds =>
    obtain ⟨a, vs, rfl, h1, _⟩ := rp_tup hq
    exact .inr ⟨rfl, a, vs, rfl, h1⟩
  | none => cases hx
  | bool _ => cases hx
  | int _ => cases hx
  | str _ => cases hx
  | dict _ => cases hx
theorem deref0_of {S : Sto} {w : W} {d : PyData} (h : deref0 S w = some d) : deref S w = some d := by
  cases w with
  | v x => exact h
  | r n =>
    obtain ⟨xs, h1, rfl⟩ := Option.map_eq_some_iff.mp (show (look S n).map _ = some d from h)
    simp only [deref, h1]
    rfl
  | s ns => cases h
theorem deref_two {S S' : Sto} {w : W} {d d' : PyData} (h : deref0 S w = some d) (h' : deref S' w = some d') (hx : (itemsOf d').isSome = true) : seqTy d' = seqTy d ∧ (itemsOf d).isSome = true := by
  cases w with
  | v x =>
    cases h
    cases h'
    exact ⟨rfl, hx⟩
  | r n =>
    obtain ⟨xs, _, rfl⟩ := Option.map_eq_some_iff.mp (show (look S n).map _ = some d from h)
    rcases deref_cases h' with ⟨ys, _, rfl⟩ | ⟨ys, _, rfl⟩
    · exact ⟨rfl, rfl⟩
    · cases hx
  | s ns => cases h
theorem items_some {d : PyData} {xs : List PyData} (h : itemsOf d = some xs) : (itemsOf d).isSome = true := by rw [h]; rfl
theorem seq_two {d : PyData} {xs : List PyData} (h : itemsOf d = some xs) : seqTy d = "list" ∨ seqTy d = "tuple" := by
  cases d <;> first | (exact .inl rfl) | (exact .inr rfl) | cases h
theorem rws1 {H : Hp} {r : Rho} {w : W} {vs : List V} (h : Rws K H r [w] vs) : ∃ v, vs = [v] ∧ Rw K H r w v := by
  cases h with
  | cons h t =>
    cases t
    exact ⟨_, rfl, h⟩
theorem le_mt {op : PyData → PyData → Option PyData} {rr : String → V → List V → Hp → VK → Prop} {f : En → Sto → Option (W × Sto)}
    (hf : ∀ η S, f η S = (do let p ← evE Γ η ia S; let _ ← deref0 p.2 p.1; let q ← evE Γ η ib p.2; let d ← deref q.2 p.1; let e ← deref q.2 q.1; let z ← op d e; some (.v z, q.2)))
    (hx : ∀ d e z, op d e = some z → ∃ xs, itemsOf d = some xs)
    (hr : ∀ r d e z x y H Q, Rq H r x d → Rq H r y e → op d e = some z → (∀ v, Rp H r v z → Q v H) → rr (seqTy d) x [y] H Q) :
    ∀ σ H Q, LE K f σ H Q → tBG K "list" (rr "list") (LEx K Γ ia) (LAx K Γ (.cons ib .nil)) σ H Q ∨ tBG K "tuple" (rr "tuple") (LEx K Γ ia) (LAx K Γ (.cons ib .nil)) σ H Q := fun σ H Q q => by
  obtain ⟨r, η, S, w, S', hS, hE, e', k'⟩ := q
  rw [hf] at e'
  simp only [Option.bind_eq_bind, Option.bind_eq_some_iff] at e'
  obtain ⟨⟨w1, S1⟩, e1, d0, e0, ⟨w2, S2⟩, e2, d, e3, d', e4, z, e5, e6⟩ := e'
  cases e6
  obtain ⟨xs, hx⟩ := hx _ _ _ e5
  obtain ⟨ht, hx0⟩ := deref_two e0 e3 (items_some hx)
  have e2' : evEs Γ η (.cons ib .nil) S1 = some ([w2], S2) := by
    simp only [evEs, Option.bind_eq_bind]
    rw [show evE Γ η ib S1 = some (w2, S2) from e2]
    rfl
  have go : ∀ T, seqTy d = T → tBG K T (rr T) (LEx K Γ ia) (LAx K Γ (.cons ib .nil)) σ H Q := by
    intro T hT
    refine ⟨r, η, S, w1, S1, hS, hE, e1, fun r1 v1 H1 g1 hS1 hw1 => ⟨?_, r1, η, S1, _, _, hS1, hE.gr g1, e2', fun r2 vs H2 g2 hS2 hw2 => ?_⟩⟩
    · rw [← hT, ht]
      exact recv_ty hS1 hw1 (deref0_of e0) hx0
    · obtain ⟨y, rfl, hw⟩ := rws1 hw2
      subst hT
      exact hr r2 d d' z v1 y H2 Q (deref_rq hS2 (hw1.gr g2) e3) (deref_rq hS2 hw e4) e5 fun v hv => k' r2 v H2 (g1.trans g2) hS2 hv
  rcases seq_two hx with h | h
  · exact .inl (go _ h)
  · exact .inr (go _ h)
theorem pl_idx (hu : X.A.units + 200 < cLine) (hb : notBare a = true) (hl : (apos.endLine == cpos.line) = true) (hns : notStar b = true) (ha : PE X a (LEx X.K Γ ia)) (hA : PA X [b] (LAx X.K Γ (.cons ib .nil))) :
    PE X (.Call (.Attribute a "index" apos) [b] [] cpos) (LEx X.K Γ (.idx ia ib)) :=
  pe_imp (pe_or (pe_bmG PySem.F.plainAttrs_list PySem.F.slot_list_index PySem.F.type_list_index (mt_idxL hu) ha hA hb hl hns) (pe_bmG PySem.F.plainAttrs_tuple PySem.F.slot_tuple_index PySem.F.type_tuple_index (mt_idxT hu) ha hA hb hl hns))
    (le_mt (op := idxD) (rr := rIdx) (fun _ _ => rfl) (fun d e z h => by
      unfold idxD at h
      simp only [Option.bind_eq_bind, Option.bind_eq_some_iff] at h
      obtain ⟨xs, h, _⟩ := h
      exact ⟨xs, h⟩) fun r d e z x y H Q h1 h2 h3 k => ⟨r, d, e, z, y, rfl, h1, h2, rfl, h3, k⟩)
theorem pl_cnt (hu : X.A.units + 200 < cLine) (hb : notBare a = true) (hl : (apos.endLine == cpos.line) = true) (hns : notStar b = true) (ha : PE X a (LEx X.K Γ ia)) (hA : PA X [b] (LAx X.K Γ (.cons ib .nil))) :
    PE X (.Call (.Attribute a "count" apos) [b] [] cpos) (LEx X.K Γ (.cnt ia ib)) :=
  pe_imp (pe_or (pe_bmG PySem.F.plainAttrs_list PySem.F.slot_list_count PySem.F.type_list_count (mt_cntL hu) ha hA hb hl hns) (pe_bmG PySem.F.plainAttrs_tuple PySem.F.slot_tuple_count PySem.F.type_tuple_count (mt_cntT hu) ha hA hb hl hns))
    (le_mt (op := cntD) (rr := rCnt) (fun _ _ => rfl) (fun d e z h => by
      unfold cntD at h
      simp only [Option.bind_eq_bind, Option.bind_eq_some_iff] at h
      obtain ⟨xs, h, _⟩ := h
      exact ⟨xs, h⟩) fun r d e z x y H Q h1 h2 h3 k => ⟨r, d, e, z, y, rfl, h1, h2, rfl, h3, k⟩)
theorem seqIndex_of {i : Int} {n k : Nat} (h : ixN n i = some k) : seqIndex? i n = some k := by
  have e : seqIndex? i n = if (decide (0 ≤ (if i < 0 then i + (n : Int) else i)) && decide ((if i < 0 then i + (n : Int) else i) < (n : Int))) = true then some (if i < 0 then i + (n : Int) else i).toNat else none := rfl
  rw [e]
  unfold ixN at h
  split at h
  · next h0 =>
    split at h
    · next h1 =>
      cases h
      have e0 : (if i < 0 then i + (n : Int) else i) = i := if_neg (by omega)
      rw [e0, if_pos (by simp [h0, h1])]
    · cases h
  · next h0 =>
    split at h
    · next h1 =>
      cases h
      have e0 : (if i < 0 then i + (n : Int) else i) = i + n := if_pos (by omega)
      rw [e0, if_pos (by simp only [Bool.and_eq_true, decide_eq_true_eq]; omega)]
    · cases h
theorem ixS_of {i : Int} {n k : Nat} (h : ixS n i = some k) : ixN n i = some k ∧ n ≤ lim := by
  unfold ixS at h
  split at h
  · exact ⟨h, by assumption⟩
  · cases h
theorem ixN_lt {i : Int} {n k : Nat} (h : ixN n i = some k) : k < n ∧ -(n : Int) ≤ i ∧ i < n := by
  unfold ixN at h
  split at h
  · split at h
    · cases h; omega
    · cases h
  · split at h
    · cases h; omega
    · cases h
/-- the cell at w, read -/
theorem cell_get {r : Rho} {H : Hp} {S : Sto} {n : Nat} {v : V} {xs : List PyData} (hS : SR S r H) (hw : Rw K H r (.r n) v) (h : look S n = some xs) : ∃ a vs, v = .ref a ∧ r.c[n]? = some (some a) ∧ H a = some (.lst vs) ∧ Rps H r vs xs := by
  obtain ⟨a, vs, h1, h2, h3⟩ := hS.cel n xs (look_some h)
  exact ⟨a, vs, hw.2 a h1, h1, h2, h3⟩
theorem deref_r {S : Sto} {n : Nat} {d : PyData} (h : deref0 S (.r n) = some d) : ∃ xs, look S n = some xs ∧ d = .list xs := by
  simp only [deref0, Option.map_eq_some_iff] at h
  obtain ⟨xs, h1, h2⟩ := h
  exact ⟨xs, h1, h2.symm⟩
theorem pl_pop0 {i : Nat} {x : Str} (hN : X.N[i]? = some x) (hv : Vis X.env.scope x) (hd : (x == ("__debug__" : Str)) = false) (hcd : (x == ("__classdict__" : Str)) = false) (hl : (apos.endLine == cpos.line) = true) :
    PE X (.Call (.Attribute (.Name x p) "pop" apos) [] [] cpos) (LEx X.K Γ (.pop i .nop)) :=
  pe_imp (pe_bmG0 PySem.F.plainAttrs_list PySem.F.slot_list_pop PySem.F.type_list_pop mt_pop (pl_var hN hv hd hcd (Γ := Γ)) rfl hl) fun σ H Q q => by
    obtain ⟨r, η, S, w, S', hS, hE, e', k'⟩ := q
    simp only [evE, Option.bind_eq_bind, Option.bind_eq_some_iff] at e'
    obtain ⟨w1, e1, d, e2, ⟨o, S1⟩, e3, e4⟩ := e'
    cases e3
    refine ⟨r, η, S, w1, S, hS, hE, by show (lkup η i).map (·, S) = some (w1, S); rw [e1]; rfl, fun r1 v1 H1 g1 hS1 hw1 => ?_⟩
    cases w1 with
    | r n =>
      simp only [Option.bind_eq_some_iff] at e4
      obtain ⟨xs, e5, k, e6, x1, e7, e8⟩ := e4
      cases e8
      obtain ⟨a, vs, rfl, h1, h2, h3⟩ := cell_get hS1 hw1 e5
      have hk : k = xs.length - 1 ∧ 0 < xs.length := by
        obtain ⟨e6, _⟩ := ixS_of e6
        unfold ixN at e6
        split at e6
        · next h0 => exact absurd h0 (by decide)
        · split at e6
          · cases e6; omega
          · cases e6
      obtain ⟨y, hy, hyr⟩ := h3.get e7
      refine ⟨.inl ⟨rfl, a, vs, rfl, h2⟩, a, vs, y, rfl, rfl, h2, by rw [h3.length, ← hk.1]; exact hy, ?_⟩
      have hdl : vs.dropLast = vs.eraseIdx k := by
        rw [hk.1, ← h3.length, ← PyProof.Rows.Copied.eraseIdx_last]
      rw [hdl]
      exact k' r1 y _ (g1.trans (gr_put h1)) (hS1.put h1 (h3.erase k)) (hyr.gr (gr_put h1))
    | v d' => cases e4
    | s ns => cases e4
theorem pl_pop {i : Nat} {x : Str} (hN : X.N[i]? = some x) (hv : Vis X.env.scope x) (hd : (x == ("__debug__" : Str)) = false) (hcd : (x == ("__classdict__" : Str)) = false) (hl : (apos.endLine == cpos.line) = true) (hns : notStar b = true) (hn : isNop ib = false) (hA : PA X [b] (LAx X.K Γ (.cons ib .nil))) :
    PE X (.Call (.Attribute (.Name x p) "pop" apos) [b] [] cpos) (LEx X.K Γ (.pop i ib)) :=
  pe_imp (pe_bmG PySem.F.plainAttrs_list PySem.F.slot_list_pop PySem.F.type_list_pop mt_popAt (pl_var hN hv hd hcd (Γ := Γ)) hA rfl hl hns) fun σ H Q q => by
    obtain ⟨r, η, S, w, S', hS, hE, e', k'⟩ := q
    simp only [evE, Option.bind_eq_bind, Option.bind_eq_some_iff] at e'
    obtain ⟨w1, e1, d, e2, ⟨o, S1⟩, e3, e4⟩ := e'
    rw [hn] at e3
    obtain ⟨j, rfl, e30⟩ := toI_of (show toI (evE Γ η ib S) = some (o, S1) from e3)
    refine ⟨r, η, S, w1, S, hS, hE, by show (lkup η i).map (·, S) = some (w1, S); rw [e1]; rfl, fun r1 v1 H1 g1 hS1 hw1 => ?_⟩
    cases w1 with
    | r n =>
      simp only [Option.bind_eq_some_iff] at e4
      obtain ⟨xs, e5, k, e6, x1, e7, e8⟩ := e4
      cases e8
      obtain ⟨xs0, e9, _⟩ := deref_r e2
      obtain ⟨a, vs0, rfl, c1, c2, _⟩ := cell_get hS1 hw1 e9
      have e3' : evEs Γ η (.cons ib .nil) S = some ([.v (.int j)], S1) := by
        simp only [evEs, Option.bind_eq_bind]
        rw [e30]
        rfl
      refine ⟨.inl ⟨rfl, a, vs0, rfl, c2⟩, r1, η, S, _, _, hS1, hE.gr g1, e3', fun r2 us H2 g2 hS2 hw2 => ?_⟩
      obtain ⟨y, rfl, hy⟩ := rws1 hw2
      cases rw_int hy
      obtain ⟨a', vs, ea, h1, h2, h3⟩ := cell_get hS2 (hw1.gr g2) e5
      cases ea
      obtain ⟨y, hy, hyr⟩ := h3.get e7
      obtain ⟨e6, hz⟩ := ixS_of e6
      have hb := ixN_lt e6
      have hz : xs.length ≤ 1000000 := hz
      refine ⟨a, vs, j, k, y, rfl, rfl, h2, by omega, by omega, by rw [h3.length]; exact seqIndex_of e6, hy, ?_⟩
      exact k' r2 y _ ((g1.trans g2).trans (gr_put h1)) (hS2.put h1 (h3.erase k)) (hyr.gr (gr_put h1))
    | v d' => cases e4
    | s ns => cases e4
end
end Pl


namespace Pl
open PySem PySem.Spec PyProof.Rows L2
structure Ctx where
  N : List Str
  sc : Scope
  fn : Str → Bool
  bl : List Str
  gl : List (Str × Int)
  fs : List (Nat × Str × Nat)
def Ctx.vis (c : Ctx) (i : Nat) (x : Str) : Bool := decide (c.N[i]? = some x) && (decide (c.sc.names.lookup x = some .local) || decide (c.sc.names.lookup x = some .cell) || decide (c.sc.names.lookup x = some .free)) && !(x == ("__debug__" : Str)) && !(x == ("__classdict__" : Str))
def Ctx.glob (c : Ctx) (x : Str) : Bool := decide (c.sc.names.lookup x = some .globalImplicit) && !(x == ("__debug__" : Str))
def Ctx.own (c : Ctx) (i : Nat) (x : Str) : Bool := decide (c.N[i]? = some x) && (decide (c.sc.names.lookup x = some .local) || (decide (c.sc.names.lookup x = some .cell) && c.fn x))
def Ctx.bg (c : Ctx) (x : Str) : Bool := c.glob x && decide (x ∈ c.bl)
def Ctx.inn (c : Ctx) (scope : Scope) : Ctx := { c with sc := relS scope c.sc, fn := fun x => scope.names.lookup x == some .cell }
def opOk : Bo → Operator → Bool
  | .add, .Add => true
  | .sub, .Sub => true
  | .mul, .Mult => true
  | .fdv, .FloorDiv => true
  | .mod, .Mod => true
  | .pow, .Pow => true
  | _, _ => false
theorem opOk_eq {b : Bo} {o : Operator} (h : opOk b o = true) : o = opB b := by
  cases b <;> cases o <;> first | rfl | cases h
def coOk : Co → CmpOp → Bool
  | .eq, .Eq => true
  | .ne, .NotEq => true
  | .lt, .Lt => true
  | .le, .LtE => true
  | .gt, .Gt => true
  | .ge, .GtE => true
  | .isin, .In => true
  | .nin, .NotIn => true
  | _, _ => false
theorem coOk_eq {b : Co} {o : CmpOp} (h : coOk b o = true) : o = opC b := by
  cases b <;> cases o <;> first | rfl | cases h
def isOk : Bool → CmpOp → Bool
  | false, .Is => true
  | true, .IsNot => true
  | _, _ => false
theorem isOk_eq {b : Bool} {o : CmpOp} (h : isOk b o = true) : o = if b then .IsNot else .Is := by
  cases b <;> cases o <;> first | rfl | cases h
/-- may stand where a test stands -/
def okT : Ex → Bool
  | .ife _ _ _ => false
  | .not a => okT a
  | .and a b => okT a && okT b
  | .or a b => okT a && okT b
  | .cell _ => false
  | _ => true
/-- makes a list -/
def okF : Ex → Bool
  | .lst _ => true
  | .blt .list (.cons _ .nil) => true
  | .bin .mul _ _ => true
  | .bin .add _ _ => true
  | .lrng false _ => true
  | .lc _ _ _ _ _ => true
  | _ => false
def ckNames (c : Ctx) : List Nat → List Expr → Bool
  | [], [] => true
  | i :: is, .Name x _ :: es => c.own i x && ckNames c is es
  | _, _ => false
def ckTg (c : Ctx) (tg : List Nat) (many : Bool) (e : Expr) : Bool := match many, tg, e with
  | false, [i], .Name x _ => c.own i x
  | true, is, .Tuple es _ _ => ckNames c is es
  | _, _, _ => false
def pairs : Iy → Bool
  | .enum _ => true
  | .zip _ _ => true
  | .zip3 _ _ _ => true
  | _ => false
/-- the keys of a dict that a name holds, as a comprehension's source -/
def ckK (c : Ctx) : Iy → Expr → Bool → Bool
  | .keys i, .Name y _, many => c.vis i y && !many
  | _, _, _ => false
def isTrueC : Ex → Bool
  | .con (.bool true) => true
  | _ => false
def bltN : Bl → Option (String × Bool)
  | .len => some ("len", true)
  | .list => some ("list", false)
  | .tuple => some ("tuple", false)
  | .int => some ("int", false)
  | .abs => some ("abs", true)
  | .str => some ("str", false)
  | .repr => some ("repr", true)
  | .sorted => some ("sorted", true)
  | .sum => some ("sum", true)
  | .max => some ("max", true)
  | .min => some ("min", true)
  | .max2 => some ("max", true)
  | .min2 => some ("min", true)
  | .any => some ("any", true)
  | .all => some ("all", true)
  | _ => none
def isiN : Bl → Option String
  | .isint => some "int"
  | .isbool => some "bool"
  | .istup => some "tuple"
  | .isstr => some "str"
  | .islst => some "list"
  | _ => none
def owns (c : Ctx) (tg : List Nat) : List (Str × Nat) := tg.map fun i => (c.N.getD i default, i)
theorem owns_snd (c : Ctx) (tg : List Nat) : (owns c tg).map (·.2) = tg := by
  unfold owns
  rw [List.map_map]
  exact List.map_id tg
/-- the clauses behind the first: targets and the names they walk -/
def ckGs (c : Ctx) : List (Nat × Nat) → List Comprehension → Bool
  | [], [] => true
  | p :: cl, ⟨.Name y _, .Name x _, [], .ofNat 0⟩ :: gs => c.own p.1 y && c.vis p.2 x && ckGs c cl gs
  | _, _ => false
def ckVs (c : Ctx) : List Nat → List Expr → Bool
  | [], [] => true
  | t :: ts, .Name x _ :: es => c.vis t x && ckVs c ts es
  | _, _ => false
mutual
def ckE : Ex → Ctx → Expr → Bool
  | .var i, c, e => match e with
    | .Name x _ => c.vis i x
    | _ => false
  | .frz i, c, e => match e with
    | .Name x _ => c.vis i x
    | _ => false
  | .con d, _, e => conE d e
  | .glb x d, c, e => match e with
    | .Name y _ => c.glob y && decide (x = y) && (match d, c.gl.lookup y with
      | .int i, some j => decide (i = j)
      | _, _ => false)
    | _ => false
  | .bin op a b, c, e => match e with
    | .BinOp l o r _ => opOk op o && ckE a c l && ckE b c r
    | _ => false
  | .neg a, c, e => match e with
    | .UnaryOp .USub l _ => ckE a c l
    | _ => false
  | .cmp op a b, c, e => match e with
    | .Compare l [o] [r] _ => coOk op o && notSet r && ckE a c l && ckE b c r
    | _ => false
  | .chain o1 o2 a b d, c, e => match e with
    | .Compare l [p1, p2] [m, r] _ => coOk o1 p1 && coOk o2 p2 && notSet r && ckE a c l && ckE b c m && ckE d c r
    | _ => false
  | .isn ng a, c, e => match e with
    | .Compare l [o] [.Constant .none _ _] _ => isOk ng o && ckE a c l
    | _ => false
  | .ist ng k a, c, e => match e with
    | .Compare l [o] [.Constant (.bool k') _ _] _ => isOk ng o && (k == k') && ckE a c l
    | _ => false
  | .and a b, c, e => match e with
    | .BoolOp .And [x, y] _ => ckE a c x && ckE b c y
    | .BoolOp .And (x :: y :: z :: r) p => ckE a c x && ckE b c (.BoolOp .And (y :: z :: r) p)
    | _ => false
  | .or a b, c, e => match e with
    | .BoolOp .Or [x, y] _ => ckE a c x && ckE b c y
    | .BoolOp .Or (x :: y :: z :: r) p => ckE a c x && ckE b c (.BoolOp .Or (y :: z :: r) p)
    | _ => false
  | .not a, c, e => match e with
    | .UnaryOp .Not l _ => ckE a c l
    | _ => false
  | .ife d a b, c, e => match e with
    | .IfExp t x y _ => okT d && ckE d c t && ckE a c x && ckE b c y
    | _ => false
  | .tup es, c, e => match e with
    | .Tuple l _ _ => ckEs es c l
    | _ => false
  | .lst es, c, e => match e with
    | .List l _ => ckEs es c l
    | _ => false
  | .ix a i, c, e => match e with
    | .Subscript l r _ => notSlice r && ckE a c l && ckE i c r
    | _ => false
  | .sl a lo hi, c, e => match e with
    | .Subscript l (.Slice l1 h1 none _) _ => ckE a c l && (match l1 with
      | none => (match lo with | .nop => true | _ => false)
      | some x => !isNop lo && ckE lo c x) && (match h1 with
      | none => (match hi with | .nop => true | _ => false)
      | some x => !isNop hi && ckE hi c x)
    | _ => false
  | .rev a, c, e => match e with
    | .Subscript l (.Slice none none (some (.UnaryOp .USub (.Constant (.int i) _ _) _)) _) _ => decide (i = 1) && ckE a c l
    | _ => false
  | .dcn kvs, c, e => match e with
    | .Dict ks vs _ => dcnE kvs ks vs
    | _ => false
  | .dct a, c, e => match e with
    | .Call (.Name x _) [l] [] _ => decide (x = ("dict" : Str)) && c.bg x && notStar l && ckE a c l
    | _ => false
  | .dnw, _, e => match e with
    | .Dict [] [] _ => true
    | _ => false
  | .dgt a b, c, e => match e with
    | .Call (.Attribute o nm ap) [r] [] cp => decide (nm = ("get" : Str)) && notBare o && (ap.endLine == cp.line) && notStar r && ckE a c o && ckE b c r
    | _ => false
  | .dgx a b x, c, e => match e with
    | .Call (.Attribute o nm ap) [r, y] [] cp => decide (nm = ("get" : Str)) && notBare o && (ap.endLine == cp.line) && notStar r && notStar y && ckE a c o && ckE b c r && ckE x c y
    | _ => false
  | .lset b a, c, e => match e with
    | .Call (.Name x _) [.Call (.Name y _) [l] [] _] [] _ => decide (x = (if b then "sorted" else "len" : Str)) && c.bg x && decide (y = ("set" : Str)) && c.bg y && notStar l && ckE a c l
    | _ => false
  | .nop, _, _ => false
  | .call f es, c, e => match e with
    | .Call (.Name x _) l [] _ => (match c.fs.lookup f with
      | some (y, m) => decide (x = y) && decide (exsLen es = m)
      | none => false) && c.glob x && l.all notStar && ckEs es c l
    | _ => false
  | .blt b es, c, e => match e with
    | .Call (.Name x _) [l] [] _ => (match isiN b with | some _ => false | none => true) && c.bg x && notStar l && decide (some x = (bltN b).map fun n => Str.ofString n.1) && ckEs es c [l]
    | .Call (.Name x _) [l, .Name T q] [] _ => (match isiN b with
      | some t => c.bg x && decide (x = ("isinstance" : Str)) && c.bg T && decide (T = Str.ofString t) && ckEs es c [l]
      | none => c.bg x && notStar l && decide (some x = (bltN b).map fun n => Str.ofString n.1) && ckEs es c [l, .Name T q])
    | .Call (.Name x _) (l :: l2 :: r) [] _ => (match isiN b with | some _ => false | none => true) && c.bg x && (l :: l2 :: r).all notStar && decide (some x = (bltN b).map fun n => Str.ofString n.1) && ckEs es c (l :: l2 :: r)
    | _ => false
  | .lrng tup it, c, e => match e with
    | .Call (.Name x _) [r] [] _ => decide (x = if tup then ("tuple" : Str) else ("list" : Str)) && c.bg x && notStar r && isRng it && ckI it c r
    | _ => false
  | .idx a b, c, e => match e with
    | .Call (.Attribute o nm ap) [r] [] cp => decide (nm = ("index" : Str)) && notBare o && (ap.endLine == cp.line) && notStar r && ckE a c o && ckE b c r
    | _ => false
  | .cnt a b, c, e => match e with
    | .Call (.Attribute o nm ap) [r] [] cp => decide (nm = ("count" : Str)) && notBare o && (ap.endLine == cp.line) && notStar r && ckE a c o && ckE b c r
    | _ => false
  | .pop i k, c, e => match e with
    | .Call (.Attribute (.Name x _) nm ap) [] [] cp => decide (nm = ("pop" : Str)) && c.vis i x && (ap.endLine == cp.line) && (match k with | .nop => true | _ => false)
    | .Call (.Attribute (.Name x _) nm ap) [r] [] cp => decide (nm = ("pop" : Str)) && c.vis i x && (ap.endLine == cp.line) && !isNop k && notStar r && ckE k c r
    | _ => false
  | .lc elt tg many it cnd, c, e => match e with
    | .ListComp e0 [⟨t, iter, ifs, .ofNat 0⟩] scope _ => (ckK c it iter many || ckI it c iter) && (!pairs it || many) && notSet iter && ckTg (c.inn scope) tg many t && blkC c.N c.sc scope (owns c tg) && (match ifs with
      | [] => isTrueC cnd
      | [q] => okT cnd && ckE cnd (c.inn scope) q
      | _ => false) && ckE elt (c.inn scope) e0
    | _ => false
  | .lcp cl, c, e => match e with
    | .ListComp (.Tuple es _ _) (⟨.Name y _, .Name x _, [], .ofNat 0⟩ :: gs) scope _ => (match cl with
      | p0 :: cl1 => (c.inn scope).own p0.1 y && c.vis p0.2 x && ckGs (c.inn scope) cl1 gs
      | [] => false) && ckVs (c.inn scope) (cl.map (·.1)) es && blkC c.N c.sc scope (owns c (cl.map (·.1))) && decide ((cl.map (·.1)).Nodup) && decide ((cl.map (·.1)).length ≤ 15) && cl.all fun p => decide (p.2 ∉ cl.map (·.1))
    | _ => false
  | .cell a, c, e => okF a && ckE a c e
termination_by structural x => x
def ckEs : Exs → Ctx → List Expr → Bool
  | .nil, _, l => match l with
    | [] => true
    | _ => false
  | .cons x xs, c, l => match l with
    | e :: es => notStar e && ckE x c e && ckEs xs c es
    | [] => false
termination_by structural x => x
def ckI : Iy → Ctx → Expr → Bool
  | .seq x, c, e => ckE x c e
  | .rng1 x, c, e => match e with
    | .Call (.Name r _) [a] [] _ => decide (r = ("range" : Str)) && c.bg r && notStar a && ckE x c a
    | _ => false
  | .rng2 x y, c, e => match e with
    | .Call (.Name r _) [a, b] [] _ => decide (r = ("range" : Str)) && c.bg r && notStar a && notStar b && ckE x c a && ckE y c b
    | _ => false
  | .rngd x y, c, e => match e with
    | .Call (.Name r _) [a, b, .UnaryOp .USub (.Constant (.int i) _ _) _] [] _ => decide (r = ("range" : Str)) && c.bg r && notStar a && notStar b && decide (i = 1) && ckE x c a && ckE y c b
    | _ => false
  | .enum x, c, e => match e with
    | .Call (.Name r _) [a] [] _ => decide (r = ("enumerate" : Str)) && c.bg r && notStar a && ckE x c a
    | _ => false
  | .zip x y, c, e => match e with
    | .Call (.Name r _) [a, b] [] _ => decide (r = ("zip" : Str)) && c.bg r && notStar a && notStar b && ckE x c a && ckE y c b
    | _ => false
  | .zip3 x y z, c, e => match e with
    | .Call (.Name r _) [a, b, g] [] _ => decide (r = ("zip" : Str)) && c.bg r && notStar a && notStar b && notStar g && ckE x c a && ckE y c b && ckE z c g
    | _ => false
  | .keys _, _, _ => false
termination_by structural x => x
end
/-- what the context says of the machine -/
structure Good (Γ : Fns) (c : Ctx) (X : Cx) : Prop where
  nod : c.N.Nodup
  N : X.N = c.N
  sc : X.env.scope = c.sc
  fn : X.fn = c.fn
  calm : X.calm = true
  un : X.A.units + 200 < cLine
  gd : X.A.guards = some []
  bl : ∀ x, x ∈ c.bl → X.mg x = none
  gl : ∀ x i, c.gl.lookup x = some i → ∃ t, X.mg x = some (.int i t)
  fs : ∀ i x m, c.fs.lookup i = some (x, m) → ∃ k f fd ps, X.mg x = some (.ref f) ∧ PySem.W.keepIn X.K (.ref f) = true ∧ L2.Binds X.K fd ps [] ∧ Room k X.A ∧ FnG X.prog X.w X.K X.mg X.base k f fd ps (SpF X.K m (Γ i))
section
variable {Γ : Fns} {c : Ctx} {X : Cx} {pos p : Pos}
theorem Good.inn (G : Good Γ c X) (s : Shared) (H : Hp) (C : Addr) (cl : List (Str × Addr)) (fp : List Addr) (scope : Scope) : Good Γ (c.inn scope) (X.blk s H scope (compEnvC scope cl C X.env) fp) := by
  refine ⟨G.nod, G.N, ?_, rfl, G.calm, G.un, G.gd, G.bl, G.gl, G.fs⟩
  show relS scope X.env.scope = relS scope c.sc
  rw [G.sc]
theorem Good.vis (G : Good Γ c X) {i : Nat} {x : Str} (h : c.vis i x = true) : X.N[i]? = some x ∧ Vis X.env.scope x ∧ (x == ("__debug__" : Str)) = false ∧ (x == ("__classdict__" : Str)) = false := by
  unfold Ctx.vis at h
  simp only [Bool.and_eq_true, Bool.or_eq_true, decide_eq_true_eq, Bool.not_eq_true'] at h
  obtain ⟨⟨⟨h1, h2⟩, h3⟩, h4⟩ := h
  refine ⟨by rw [G.N]; exact h1, ?_, h3, h4⟩
  rw [G.sc]
  rcases h2 with (h2 | h2) | h2
  · exact .inl h2
  · exact .inr (.inl h2)
  · exact .inr (.inr h2)
theorem Good.glob (G : Good Γ c X) {x : Str} (h : c.glob x = true) : Gl X x ∧ (x == ("__debug__" : Str)) = false := by
  unfold Ctx.glob at h
  simp only [Bool.and_eq_true, decide_eq_true_eq, Bool.not_eq_true'] at h
  refine ⟨?_, h.2⟩
  show X.env.scope.names.lookup x = some .globalImplicit
  rw [G.sc]
  exact h.1
theorem Good.bg (G : Good Γ c X) {x : Str} (h : c.bg x = true) : Gl X x ∧ X.mg x = none ∧ (x == ("__debug__" : Str)) = false := by
  unfold Ctx.bg at h
  simp only [Bool.and_eq_true, decide_eq_true_eq] at h
  exact ⟨(G.glob h.1).1, G.bl x h.2, (G.glob h.1).2⟩
theorem Good.own (G : Good Γ c X) {i : Nat} {x : Str} (h : c.own i x = true) : PG X (.Name x p) (gName i) := by
  unfold Ctx.own at h
  simp only [Bool.and_eq_true, Bool.or_eq_true, decide_eq_true_eq] at h
  obtain ⟨h1, h2⟩ := h
  refine pg_name (by rw [G.N]; exact G.nod) (by rw [G.N]; exact h1) ?_ ?_
  · show X.env.scope.names.lookup x = _ ∨ X.env.scope.names.lookup x = _
    rw [G.sc]
    exact h2.imp id (·.1)
  · rw [G.sc, G.fn]
    exact h2.elim .inr fun z => .inl z.2
def tgG (K : PySem.W.Frag) (tg : List Nat) (many : Bool) : TG := if many then gMany K tg.length (gNames tg) else gName (tg.headD 0)
theorem names_ok (G : Good Γ c X) : ∀ {is : List Nat} {es : List Expr}, ckNames c is es = true → PGs X es (gNames is) ∧ (assignEach es X.env).length = is.length ∧ (assignEach es X.env).findIdx? (·.1) = none
  | [], [], _ => ⟨pgs_nil, rfl, rfl⟩
  | [], _ :: _, h => by simp [ckNames] at h
  | _ :: _, [], h => by simp [ckNames] at h
  | i :: is, e :: es, h => by
    unfold ckNames at h
    split at h
    · next h1 h2 => cases h1
    · next i' is' x p es' h1 h2 =>
      cases h1
      cases h2
      simp only [Bool.and_eq_true] at h
      obtain ⟨q1, q2, q3⟩ := names_ok G h.2
      refine ⟨pgs_cons (G.own h.1) q1, ?_, ?_⟩
      · show (assignEach es X.env).length + 1 = is.length + 1
        rw [q2]
      · show List.findIdx? (·.1) ((false, assign (.Name x p) X.env) :: assignEach es X.env) = none
        rw [List.findIdx?_cons]
        simp only [Bool.false_eq_true, if_false]
        rw [q3]
        rfl
    · cases h
theorem tg_ok (G : Good Γ c X) {tg : List Nat} {many : Bool} {e : Expr} (h : ckTg c tg many e = true) : PG X e (tgG X.K tg many) := by
  unfold ckTg at h
  split at h
  · exact G.own h
  · obtain ⟨q1, q2, q3⟩ := names_ok G h
    exact pg_many G.calm q1 q2 q3
  · cases h
theorem tg_tgt {K : PySem.W.Frag} {tg : List Nat} {many : Bool} {e : Expr} (h : ckTg c tg many e = true) : TgtOk K tg many (tgG K tg many) := by
  unfold ckTg at h
  split at h
  · exact tgt_one _
  · exact tgt_many _
  · cases h
theorem tg_tuple {tg : List Nat} {e : Expr} (h : ckTg c tg true e = true) : ∃ elts kk tpos, e = .Tuple elts kk tpos := by
  unfold ckTg at h
  split at h
  all_goals first | contradiction | exact ⟨_, _, _, rfl⟩ | cases h
theorem folded_ok {iter : Expr} (h : notSet iter = true) (env : Env) (x : Value) : foldedSetIterable iter env x = pure x := by
  cases iter <;> first | rfl | cases h
/-- built-in functions by their names -/
theorem blt_ok (G : Good Γ c X) {b : Bl} {x : Str} {e : Expr} {es : List Expr} {xs : Exs} (hx : some x = (bltN b).map fun n => Str.ofString n.1) (hb : c.bg x = true) (hns : (e :: es).all notStar = true) (ha : PA X (e :: es) (LAx X.K Γ xs)) :
    PE X (.Call (.Name x p) (e :: es) [] pos) (LEx X.K Γ (.blt b xs)) := by
  obtain ⟨hg, hm, hd⟩ := G.bg hb
  cases b <;> first | (cases hx; done) | skip
  all_goals (cases hx)
  · exact pl_fn cb_len boot_len (by decide) hd hg hm ha hns
  · exact pl_ty cb_list PyProof.Rows.boot_list (by decide) hd hg hm ha hns
  · exact pl_ty cb_tuple PyProof.Rows.boot_tuple (by decide) hd hg hm ha hns
  · exact pl_ty cb_int PyProof.Rows.boot_int (by decide) hd hg hm ha hns
  · exact pl_fn cb_abs PyProof.Rows.boot_abs (by decide) hd hg hm ha hns
  · exact pl_ty cb_str PyProof.Rows.boot_str (by decide) hd hg hm ha hns
  · exact pl_fn (cb_repr G.gd G.un) PyProof.Rows.boot_repr (by decide) hd hg hm ha hns
  · exact pl_fn (cb_sorted G.calm G.un) PyProof.Rows.boot_sorted (by decide) hd hg hm ha hns
  · exact pl_fn (cb_sum G.calm) PyProof.Rows.boot_sum (by decide) hd hg hm ha hns
  · exact pl_fn (cb_max G.calm) PyProof.Rows.boot_max (by decide) hd hg hm ha hns
  · exact pl_fn (cb_min G.calm) PyProof.Rows.boot_min (by decide) hd hg hm ha hns
  · exact pl_fn (cb_max2 G.calm) PyProof.Rows.boot_max (by decide) hd hg hm ha hns
  · exact pl_fn (cb_min2 G.calm) PyProof.Rows.boot_min (by decide) hd hg hm ha hns
  · exact pl_fn (cb_any G.calm) PyProof.Rows.boot_any (by decide) hd hg hm ha hns
  · exact pl_fn (cb_all G.calm) PyProof.Rows.boot_all (by decide) hd hg hm ha hns
end
end Pl


namespace Pl
open PySem PySem.Spec PyProof.Rows L2
/-- clauses: target and source -/
def gensOf (cs : List (Expr × Expr)) : List Comprehension := cs.map fun c => ⟨c.1, c.2, [], 0⟩
abbrev lcE (elt : Expr) (cs : List (Expr × Expr)) (scope : Scope) (pos : Pos) : Expr := .ListComp elt (gensOf cs) scope pos
theorem gens_get {cs : List (Expr × Expr)} {i : Nat} {c : Expr × Expr} (h : cs[i]? = some c) : (gensOf cs)[i]? = some ⟨c.1, c.2, [], 0⟩ := by
  unfold gensOf
  rw [List.getElem?_map, h]
  rfl
theorem gens_none {cs : List (Expr × Expr)} {i : Nat} (h : cs[i]? = none) : (gensOf cs)[i]? = none := by
  unfold gensOf
  rw [List.getElem?_map, h]
  rfl
section
variable {elt : Expr} {cs : List (Expr × Expr)} {scope : Scope} {pos : Pos} {i : Nat} {it acc : Value} {env : Env} {c c2 : Expr × Expr}
theorem turn_more (h : cs[i]? = some c) (h2 : cs[i + 1]? = some c2) :
    compTurn (lcE elt cs scope pos) i it acc env = (do
      standAt c.2.pos
      match ← pyNext it with
      | none => pure (.done .next)
      | some v => do
        letOwnedTupleGo c.1 it v
        assign c.1 env v
        let x ← eval c2.2 env
        standAt c2.2.pos
        let x ← foldedSetIterable c2.2 env x
        let _ ← runOwn (.compStart (lcE elt cs scope pos) (i + 1) (← holding [x] (pyIter x)) acc env) env
        again (.compLoop (lcE elt cs scope pos) i it acc env)) := by
  have h1 := gens_get h
  have h3 := gens_get h2
  unfold compTurn
  simp only [h1, h3]
  rfl
theorem turn_last (h : cs[i]? = some c) (h2 : cs[i + 1]? = none) :
    compTurn (lcE elt cs scope pos) i it acc env = (do
      standAt c.2.pos
      match ← pyNext it with
      | none => pure (.done .next)
      | some v => do
        letOwnedTupleGo c.1 it v
        assign c.1 env v
        (do let _ ← call (.builtin "list.append") [acc, ← eval elt env])
        again (.compLoop (lcE elt cs scope pos) i it acc env)) := by
  have h1 := gens_get h
  have h3 := gens_none h2
  unfold compTurn
  simp only [h1, h3]
  rfl
section
variable {prog : Program} {w : World} {A : Around} {R : Result → Shared → Prop} {s : Shared}
/-- what is done behind the store of the clause ahead of i -/
def Nxt (prog : Program) (w : World) (A : Around) (elt : Expr) (cs : List (Expr × Expr)) (scope : Scope) (pos : Pos) (acc : Value) (env : Env) (i : Nat) (P : Shared → Prop) (E : Value → Shared → Prop) (s : Shared) : Prop := match cs[i]? with
  | some c => wpAny (model prog w) A (eval c.2 env) (fun x s1 => wpAny (model prog w) A (pyIter x) (fun j s2 =>
      codeAny (model prog w) A (.compStart (lcE elt cs scope pos) i j acc env) (fun r s3 => match r with
        | .ok _ => P s3
        | .error _ => False) s2) E s1) E s
  | none => wpAny (model prog w) A (eval elt env) (fun x s1 => wpAny (model prog w) A (call (.builtin "list.append") [acc, x]) (fun _ s2 => P s2) E s1) E s
theorem loop_any (h : cs[i]? = some c) (hs : ∀ c2, cs[i + 1]? = some c2 → ∀ x, foldedSetIterable c2.2 env x = pure x) (I : Nat → Shared → Prop)
    (turn : ∀ n s, I n s → wpAny (model prog w) A (pyNext it) (fun r s1 => match r with
      | none => R (.ok .next) s1
      | some v => wpAny (model prog w) A (letOwnedTupleGo c.1 it v) (fun _ s2 => wpAny (model prog w) A (assign c.1 env v) (fun _ s3 =>
          Nxt prog w A elt cs scope pos acc env (i + 1) (fun s4 => ∃ m, m < n ∧ I m s4) (notedBy (model prog w) A env fun e s' => R (.error e) s') s3)
          (notedBy (model prog w) A env fun e s' => R (.error e) s') s2) (notedBy (model prog w) A env fun e s' => R (.error e) s') s1) (notedBy (model prog w) A env fun e s' => R (.error e) s') s)
    (n : Nat) (h0 : I n s) : codeAny (model prog w) A (.compLoop (lcE elt cs scope pos) i it acc env) R s := by
  refine codeAny_loop rfl I (fun n s hI => ?_) n h0
  show wpAny _ A ((compTurn (lcE elt cs scope pos) i it acc env).onRaise (fun x => do noteFrame x env; theTreesLotGoes x)) _ _ s
  refine wpAny_noted ?_
  have t := turn n s hI
  unfold Nxt at t
  cases h2 : cs[i + 1]? with
  | some c2 =>
    rw [turn_more h h2]
    rw [h2] at t
    refine wpAny_bind (wpAny_standAt (wpAny_bind (wpAny_mono t (fun r s1 k1 => ?_) fun _ _ z => z)))
    cases r with
    | none => exact wpAny_pure k1
    | some v =>
      refine wpAny_bind (wpAny_mono k1 (fun _ s2 k2 => ?_) fun _ _ z => z)
      refine wpAny_bind (wpAny_mono k2 (fun _ s3 k3 => ?_) fun _ _ z => z)
      refine wpAny_bind (wpAny_mono k3 (fun x s4 k4 => ?_) fun _ _ z => z)
      refine wpAny_bind (wpAny_standAt (wpAny_bind (wpAny_of_eq (hs c2 h2 x) (wpAny_bind (wpAny_holding (wpAny_mono k4 (fun j s5 k5 => ?_) fun _ _ z => z))))))
      refine wpAny_bind (wpAny_runOwn ?_)
      rw [Around.mark_none]
      refine codeAny_mono k5 fun r s6 k6 => ?_
      cases r with
      | ok f =>
        first
          | exact wpAny_pure ⟨rfl, k6⟩
          | exact wpAny_bind (wpAny_pure (wpAny_pure ⟨rfl, k6⟩))
      | error e => exact k6.elim
  | none =>
    rw [turn_last h h2]
    rw [h2] at t
    refine wpAny_bind (wpAny_standAt (wpAny_bind (wpAny_mono t (fun r s1 k1 => ?_) fun _ _ z => z)))
    cases r with
    | none => exact wpAny_pure k1
    | some v =>
      refine wpAny_bind (wpAny_mono k1 (fun _ s2 k2 => ?_) fun _ _ z => z)
      refine wpAny_bind (wpAny_mono k2 (fun _ s3 k3 => ?_) fun _ _ z => z)
      exact wpAny_bind (wpAny_bind (wpAny_mono k3 (fun x s4 k4 => wpAny_bind (wpAny_mono k4 (fun _ s5 k5 => wpAny_pure (wpAny_pure ⟨rfl, k5⟩)) fun _ _ z => z)) fun _ _ z => z))
theorem start_any (h : cs[i]? = some c) (h0 : codeAny (model prog w) A (.compLoop (lcE elt cs scope pos) i it acc env) R s)
    (h1 : wpAny (model prog w) A (pyIter it) (fun j s' => codeAny (model prog w) A (.compLoop (lcE elt cs scope pos) i j acc env) R s') (notedBy (model prog w) A env fun x s' => R (.error x) s') s) :
    codeAny (model prog w) A (.compStart (lcE elt cs scope pos) i it acc env) R s := by
  refine codeAny_of_tree ?_
  show wpAny _ _ ((compStart (lcE elt cs scope pos) i it acc env).onRaise (fun x => do noteFrame x env; standAt theWindowsPlace)) _ _ s
  refine wpAny_notedAt ?_
  have hg : (clausesOf (lcE elt cs scope pos))[i]? = some ⟨c.1, c.2, [], 0⟩ := gens_get h
  unfold compStart
  simp only [hg]
  show wpAny _ _ (ask >>= _) _ _ s
  refine wpAny_bind (wpAny_askSetting (wpAny_ite ?_))
  split
  · first
      | exact wpAny_bind (wpAny_pure (wpAny_pure (And.intro rfl h0)))
      | exact wpAny_pure (And.intro rfl h0)
  · first
      | exact wpAny_bind (wpAny_rule (wpAny_bind (wpAny_standAt (wpAny_bind (wpAny_mono h1 (fun j s' k => wpAny_pure (And.intro rfl k)) fun _ _ z => z)))))
      | (refine wpAny_bind (wpAny_rule ?_); show wpAny _ _ (standAt c.2.pos >>= _) _ _ s; exact wpAny_bind (wpAny_standAt (wpAny_bind (wpAny_mono h1 (fun j s' k => wpAny_pure (And.intro rfl k)) fun _ _ z => z))))
end
end
/-- behind a store: the clauses to come, one within the other; D is the list that is made -/
def tNx (te : TE) (D : Addr) : List (TI × TG × Nat) → L2.St → Hp → (Hp → Prop) → Prop
  | [], σ, H, Nx => te σ H fun y H1 => ∃ acc, H1 D = some (.lst acc) ∧ acc.length < sizeLine ∧ Nx (upd H1 D (.lst (acc ++ [y])))
  | z :: zs, σ, H, Nx => z.1 σ H fun J H1 => ∃ W : Nat → Nat → Hp → Prop, (∃ m, W 0 m H1) ∧ ∀ j k H2, W j k H2 → (J.stop j H2 ∧ Nx H2) ∨
      (J.go j H2 ∧ ∃ Nx1 : Hp → Prop, (∀ H3, Nx1 H3 → ∃ k', k' < k ∧ W (j + 1) k' H3) ∧ ∀ x H3, J.yld j H2 x H3 → z.2.1 x (L2.wipe σ [z.2.2]) H3 fun σ4 H4 => L2.wipe σ4 [z.2.2] = L2.wipe σ [z.2.2] ∧ tNx te D zs σ4 H4 Nx1)
def Unk (σ : L2.St) (zs : List (TI × TG × Nat)) : Prop := ∀ z ∈ zs, ∀ x, σ[z.2.2]? ≠ some (some x)
def Al (X : Cx) (cs : List (Expr × Expr)) : Nat → List (TI × TG × Nat) → Prop
  | i, [] => cs[i]? = none
  | i, z :: zs => ∃ c, cs[i]? = some c ∧ PI X c.1 c.2 z.1 ∧ PG X c.1 z.2.1 ∧ (∀ x, foldedSetIterable c.2 X.env x = pure x) ∧ Al X cs (i + 1) zs
theorem Al.folded {X : Cx} {cs : List (Expr × Expr)} {i : Nat} {zs : List (TI × TG × Nat)} (h : Al X cs i zs) : ∀ c, cs[i]? = some c → ∀ x, foldedSetIterable c.2 X.env x = pure x := fun c hc => by
  cases zs with
  | nil =>
    have h : cs[i]? = none := h
    rw [h] at hc
    cases hc
  | cons z zs =>
    obtain ⟨c', h1, _, _, h2, _⟩ := h
    rw [h1] at hc
    cases hc
    exact h2
theorem Nxt_mono {prog : Program} {w : World} {A : Around} {elt : Expr} {cs : List (Expr × Expr)} {scope : Scope} {pos : Pos} {acc : Value} {env : Env} {i : Nat} {P P' : Shared → Prop} {E : Value → Shared → Prop} {s : Shared}
    (h : Nxt prog w A elt cs scope pos acc env i P (fun _ _ => False) s) (hP : ∀ s, P s → P' s) : Nxt prog w A elt cs scope pos acc env i P' E s := by
  unfold Nxt at h ⊢
  cases hc : cs[i]? with
  | some c =>
    rw [hc] at h
    refine thnF h fun x s1 h1 => thnF h1 fun j s2 h2 => codeAny_mono h2 fun r s3 h3 => ?_
    cases r with
    | ok f => exact hP s3 h3
    | error e => exact h3
  | none =>
    rw [hc] at h
    exact thnF h fun x s1 h1 => thnF h1 fun _ s2 h2 => hP s2 h2
theorem unk_weak {σ : L2.St} {v : Nat} (h : ∀ x, σ[v]? ≠ some (some x)) {j : Nat} {x : V} (e : σ[j]? = some (some x)) : (L2.wipe σ [v])[j]? = some (some x) := by
  have hj : j ∉ [v] := fun m => by
    rw [List.mem_singleton.mp m] at e
    exact h x e
  rw [wipe_out hj]
  exact e
theorem inner {X : Cx} {elt : Expr} {cs : List (Expr × Expr)} {scope : Scope} {pos : Pos} {D : Addr} {te : TE} (hc : X.calm = true) (hx : X.xe = fun _ _ => False) (pe : PE X elt te) :
    ∀ (zs : List (TI × TG × Nat)) (i : Nat) (pins : List (Addr × Obj)) (σ : L2.St) (H : Hp) (s : Shared) (Nx : Hp → Prop), Al X cs i zs → (zs.map (·.2.2)).Nodup → Unk σ zs → Inv X pins σ H s → tNx te D zs σ H Nx →
      Nxt X.prog X.w X.A elt cs scope pos (.ref D) X.env i (fun s' => ∃ H', Inv X pins σ H' s' ∧ Nx H') (fun _ _ => False) s
  | [], i, pins, σ, H, s, Nx, al, _, _, I, hw => by
    have al : cs[i]? = none := al
    unfold Nxt
    rw [al]
    have h := pe.run pins s σ H _ I hw
    rw [hx] at h
    refine thnF h fun y s1 ⟨yv, H1, I1, r1, acc, hD, hz, nx⟩ => ?_
    exact app_ok I1 hD hz r1 fun s2 I2 => ⟨_, I2, nx⟩
  | z :: zs, i, pins, σ, H, s, Nx, al, hnd, hu, I, hw => by
    obtain ⟨c, hci, pi, pg, hf, al'⟩ := al
    obtain ⟨wi, g, v⟩ := z
    have hnd' := List.nodup_cons.mp hnd
    have hv : ∀ x, σ[v]? ≠ some (some x) := hu (wi, g, v) List.mem_cons_self
    unfold Nxt
    rw [hci]
    have h := pi.run pins s σ H _ I hw
    rw [hx] at h
    refine thnF h fun x s1 h1 => thnF h1 fun jv s2 h2 => ?_
    obtain ⟨it1, fp, tn, J, H1, e1, I1, T, st1, f1, W, ⟨m1, w1⟩, turn⟩ := h2
    subst e1
    have fpk : ∀ {H' : Hp}, (∀ b ∈ fp, H' b = none) → ∀ b ∈ fp, FpOk X pins H' b := fun k b hb => ⟨k b hb, (f1 b hb).2⟩
    have lp : codeAny (model X.prog X.w) X.A (.compLoop (lcE elt cs scope pos) i (.ref it1) (.ref D) X.env) (fun r s3 => match r with
        | .ok _ => ∃ H', Inv X pins σ H' s3 ∧ Nx H'
        | .error _ => False) s2 := by
      refine loop_any hci (fun c2 h2 => al'.folded c2 h2) (fun k s' => ∃ j H', Inv X pins (L2.wipe σ [v]) H' s' ∧ tn j s'.heap ∧ (∀ b ∈ fp, H' b = none) ∧ W j k H') ?_ m1
        ⟨0, H1, I1.weak (wipe_length _ _) fun j y e => (wipe_some e).1, st1, fun b hb => (f1 b hb).1, w1⟩
      rintro k s3 ⟨j, H3, I3, st3, n3, w3⟩
      rcases turn j k H3 w3 with ⟨stop, nx⟩ | ⟨go, Nx1, hNx1, step⟩
      · refine thnF (T.done X rfl rfl rfl hc j _ s3 _ H3 (fun _ _ => False) I3 (fpk n3) st3 stop) fun r s4 ⟨hr, I4⟩ => ?_
        subst hr
        exact ⟨H3, I4.weak (wipe_length _ _).symm fun j y e => unk_weak hv e, nx⟩
      · refine thnF (T.item X rfl rfl rfl hc j _ s3 _ H3 (fun _ _ => False) I3 (fpk n3) st3 go) fun r s4 ⟨u, hr, h4⟩ => ?_
        subst hr
        refine thnF h4 fun _ s5 ⟨x5, H5, I5, r5, y5, st5, n5⟩ => ?_
        have I5' := I5.pinned (fpk n5) (T.obj _ _ st5)
        have hg := pg.run _ s5 _ H5 x5 u _ I5' r5 (step x5 H5 y5)
        rw [hx] at hg
        refine thnF hg fun _ s6 ⟨σ6, H6, I6, hw6, q6⟩ => ?_
        have hw6 : L2.wipe σ6 [v] = L2.wipe σ [v] := hw6
        refine Nxt_mono (inner hc hx pe zs (i + 1) _ σ6 H6 s6 Nx1 al' hnd'.2 (fun z hz y e => ?_) I6 q6) fun s7 ⟨H7, I7, nx⟩ => ?_
        · have hne : z.2.2 ∉ [v] := fun m => hnd'.1 (by rw [← List.mem_singleton.mp m]; exact List.mem_map.mpr ⟨z, hz, rfl⟩)
          have e2 := wipe_out (σ := σ6) hne
          rw [hw6, wipe_out hne] at e2
          exact hu z (List.mem_cons_of_mem _ hz) y (e2.trans e)
        · obtain ⟨k', hk, w7⟩ := hNx1 H7 nx
          have pin : ∀ b ∈ fp, ∀ o, s5.heap.get? b = some o → s7.heap.get? b = some o ∧ H7 b = none := fun b hb o e =>
            let q := I7.pin (b, o) (List.mem_append_right _ (List.mem_append_right _ (mem_pinsAt hb e)))
            ⟨q.1, q.2.1⟩
          refine ⟨k', hk, j + 1, H7, I7.unpinned.weak (by rw [← hw6, wipe_length]) (fun j y e => by rw [← hw6] at e; exact (wipe_some e).1), T.keep _ _ _ st5 fun b hb o e => (pin b hb o e).1, fun b hb => ?_, w7⟩
          obtain ⟨o, e, _⟩ := T.obj _ _ st5 b hb
          exact (pin b hb o e).2
    exact start_any hci lp (T.self X.A 0 _ _ _ st1 lp)
end Pl


namespace Pl
open PySem PySem.Spec PyProof.Rows L2
section
variable {X : Cx}
/-- v: the first clause's name, zs: the clauses to come, vs: all the block's names -/
def tLcN (wi : TI) (g : TG) (v : Nat) (zs : List (TI × TG × Nat)) (te : TE) (vs : List Nat) : TE := fun σ H Q => wi σ H fun J H1 => ∀ D, H1 D = none → ∃ W : Nat → Nat → Hp → Prop, (∃ m, W 0 m (upd H1 D (.lst []))) ∧ ∀ i m H, W i m H →
  (J.stop i H ∧ Q (.ref D) H) ∨ (J.go i H ∧ ∃ Nx : Hp → Prop, (∀ H', Nx H' → ∃ m', m' < m ∧ W (i + 1) m' H') ∧ ∀ x H', J.yld i H x H' → g x (L2.wipe σ vs) H' fun σ2 H2 => L2.wipe σ2 [v] = L2.wipe (L2.wipe σ vs) [v] ∧ tNx te D zs σ2 H2 Nx)
theorem lcn_core {pins : List (Addr × Obj)} {s : Shared} {σ : L2.St} {H : Hp} {Q : VK} {elt : Expr} {c0 : Expr × Expr} {cs : List (Expr × Expr)} {scope : Scope} {own : List (Str × Nat)} {pos pos' : Pos} {wi : TI} {g : TG} {v : Nat} {zs : List (TI × TG × Nat)} {te : TE} {use : Option (Value → Sem Unit)} {Qf : Value → Shared → Prop}
    (calm : X.calm = true) (nod : X.N.Nodup) (I : Inv X pins σ H s) (hi : PI X c0.1 c0.2 wi) (ok : BlkOk X.N X.env.scope scope own) (hvn : (v :: zs.map (·.2.2)).Nodup) (hvs : ∀ z ∈ zs, z.2.2 ∈ own.map (·.2)) (hv0 : v ∈ own.map (·.2))
    (hg : ∀ (s : Shared) (H : Hp) (C : Addr) (cl : List (Str × Addr)) (fp : List Addr), PG (X.blk s H scope (compEnvC scope cl C X.env) fp) c0.1 g)
    (hz : ∀ (s : Shared) (H : Hp) (C : Addr) (cl : List (Str × Addr)) (fp : List Addr), Al (X.blk s H scope (compEnvC scope cl C X.env) fp) (c0 :: cs) 1 zs)
    (he : ∀ (s : Shared) (H : Hp) (C : Addr) (cl : List (Str × Addr)) (fp : List Addr), PE (X.blk s H scope (compEnvC scope cl C X.env) fp) elt te) (hs : ∀ x, foldedSetIterable c0.2 X.env x = pure x)
    (h : tLcN wi g v zs te (own.map (·.2)) σ H Q)
    (out : ∀ D C s' m H', Inv X pins σ H' s' → Q (.ref D) H' → s'.heap.Ns C m → FpOk X pins H' C → compPost (model X.prog X.w) X.A X.xe use Qf (.ref D) C (.ok .next) s') :
    wpAny (model X.prog X.w) X.A (comprehension (lcE elt (c0 :: cs) scope pos) scope X.env pos' (newList []) false (eval c0.2 X.env) use) Qf X.xe s := by
  have free : ∀ y ∈ scope.names, y.2 = .free → ∃ c, X.env.cells.lookup y.1 = some c := fun y hy e =>
    (ok.free y hy e).elim (fun k => I.ok.has _ (.inl k)) fun k => I.ok.has _ (.inr k)
  refine wpAny_comprehension_free (g := ⟨c0.1, c0.2, [], 0⟩) (gs := gensOf cs) (use := use) rfl hs (closure_ok free) ok.kind (fun y hy e => (ok.uniq y hy).trans (congrArg some e))
    (thn (hi.run pins s σ H _ I h) fun xv sa ha => thn ha fun itv sb hb => ?_)
  obtain ⟨it, fp, tn, J, Hb, e, Ib, T, stb, fb, q⟩ := hb
  subst e
  refine wpAny_newObj_type (newEnv_comp ?_) (by show 0 ≤ sizeLine; decide)
  generalize hD : sb.heap.objs.size = D
  obtain ⟨W, ⟨m0, w0⟩, turn⟩ := q D (Ib.hok.fresh (Nat.le_of_eq hD))
  generalize hsc : ({ sb with heap := sb.heap.push { cls := .type "list", data := .seq ([] : List Value).toArray } } : Shared) = sc
  have hch : sc.heap = sb.heap.push { cls := .type "list", data := .seq ([] : List Value).toArray } := by rw [← hsc]
  have Ic : Inv X pins σ (upd Hb D (.lst [])) sc := by
    rw [← hsc]
    exact Ib.laid (t' := sb.toks) (fun _ _ k => Heap.get?_push_of_some _ k) (Nat.le_of_eq hD) ⟨Nat.zero_le _, [], 0, .nil, hD ▸ Heap.get?_push_size _ rfl⟩
  have szb : ∀ b ∈ fp, b < sb.heap.objs.size := fun b hb => let ⟨_, k, _⟩ := T.obj _ _ stb b hb; Heap.lt_size k
  have fc : ∀ b ∈ fp, FpOk X pins (upd Hb D (.lst [])) b ∧ b < sc.heap.objs.size := fun b hb =>
    ⟨⟨(upd_ne (hD ▸ Nat.ne_of_lt (szb b hb))).trans (fb b hb).1, (fb b hb).2⟩, by rw [hch, Heap.size_push]; exact Nat.lt_succ_of_lt (szb b hb)⟩
  have stc : tn 0 sc.heap := T.keep _ _ _ stb fun _ _ _ k => hch ▸ Heap.get?_push_of_some _ k
  have Id := block_start Ic ok nod fc
  have pg := hg sc (upd Hb D (.lst [])) sc.heap.objs.size (cellsFrom (sc.heap.objs.size + 1) scope.names (cloFrom X.env.cells scope.names [])) fp
  have pz := hz sc (upd Hb D (.lst [])) sc.heap.objs.size (cellsFrom (sc.heap.objs.size + 1) scope.names (cloFrom X.env.cells scope.names [])) fp
  have pe := he sc (upd Hb D (.lst [])) sc.heap.objs.size (cellsFrom (sc.heap.objs.size + 1) scope.names (cloFrom X.env.cells scope.names [])) fp
  have nfp : ∀ b ∈ fp, (upd Hb D (.lst [])) b = none := fun b hb => (fc b hb).1.1
  show codeAny _ _ (.compStart (lcE elt (c0 :: cs) scope pos) 0 (.ref it) (.ref D) (compEnvC scope (cellsFrom (sc.heap.objs.size + 1) scope.names (cloFrom X.env.cells scope.names [])) sc.heap.objs.size X.env)) (compPost (model X.prog X.w) X.A X.xe use Qf (.ref D) sc.heap.objs.size)
    { sc with heap := pushCells (sc.heap.push { cls := .type "dict", data := .dict #[] }) scope.names }
  generalize hce : compEnvC scope (cellsFrom (sc.heap.objs.size + 1) scope.names (cloFrom X.env.cells scope.names [])) sc.heap.objs.size X.env = ce at Id pg pz pe ⊢
  have hloc : ce.locals = sc.heap.objs.size := hce ▸ rfl
  generalize hHc : upd Hb D (.lst []) = Hc at Ic Id pg pz pe w0 nfp fc
  generalize hsd : ({ sc with heap := pushCells (sc.heap.push { cls := .type "dict", data := .dict #[] }) scope.names } : Shared) = sd at Id ⊢
  have std : tn 0 sd.heap := T.keep _ _ _ stc fun _ _ _ k => hsd ▸ pushCells_keeps _ _ _ _ (Heap.get?_push_of_some _ k)
  have fpk : ∀ {τ : L2.St} {K : Hp} {t : Shared}, Inv (X.blk sc Hc scope ce fp) [] τ K t → (∀ b ∈ fp, K b = none) → ∀ b ∈ fp, FpOk (X.blk sc Hc scope ce fp) [] K b := fun {τ K t} J hn b hb =>
    ⟨hn b hb, (J.ok.exf b hb).1, J.ok.exfs b hb, .inl hb, fun y c k => (J.ok.exf b hb).2 y c k, fun p hp => absurd (show p ∈ ([] : List (Addr × Obj)) ++ [] from hp) (by simp)⟩
  have hc0 : (c0 :: cs)[0]? = some c0 := rfl
  have lp : codeAny (model X.prog X.w) X.A (.compLoop (lcE elt (c0 :: cs) scope pos) 0 (.ref it) (.ref D) ce) (compPost (model X.prog X.w) X.A X.xe use Qf (.ref D) sc.heap.objs.size) sd := by
    refine loop_any hc0 (fun c2 k2 => pz.folded c2 k2) (fun n t => ∃ i K, Inv (X.blk sc Hc scope ce fp) [] (L2.wipe σ (own.map (·.2))) K t ∧ tn i t.heap ∧ (∀ b ∈ fp, K b = none) ∧ W i n K) ?_ m0 ⟨0, Hc, Id, std, nfp, w0⟩
    rintro n t5 ⟨i, K5, I5, st5, n5, w5⟩
    rcases turn i n K5 w5 with ⟨stop, qq⟩ | ⟨go, Nx, hNx, step⟩
    · refine thnF (T.done (X.blk sc Hc scope ce fp) rfl rfl rfl calm i [] t5 _ K5 (fun _ _ => False) I5 (fpk I5 n5) st5 stop) fun r t6 ⟨hr, I6⟩ => ?_
      subst hr
      have I7 : Inv X pins σ K5 t6 := Ic.call' (ch := fp) I6.os I6.base I6.hok I6.bare fun b hb => let f := (fc b hb).1.2; ⟨f.2.2.1, f.1, f.2.2.2.1, f.2.2.2.2⟩
      have nC : K5 sc.heap.objs.size = none := hloc ▸ (show K5 ce.locals = none from I6.free)
      obtain ⟨m, hn, _⟩ := I6.loc
      exact out D sc.heap.objs.size t6 m K5 I7 qq (hloc ▸ (show t6.heap.Ns ce.locals m from hn)) (Ic.fpOk (Nat.le_refl _) nC)
    · refine thnF (T.item (X.blk sc Hc scope ce fp) rfl rfl rfl calm i [] t5 _ K5 (fun _ _ => False) I5 (fpk I5 n5) st5 go) fun r t6 ⟨u, hr, k6⟩ => ?_
      subst hr
      refine thnF k6 fun _ t7 ⟨x7, K7, I7, r7, y7, st7, n7⟩ => ?_
      refine thnF (pg.run _ t7 _ K7 x7 u _ (I7.pinned (fpk I7 n7) (T.obj _ _ st7)) r7 (step x7 K7 y7)) fun _ t8 ⟨σ8, K8, I8, hw8, q8⟩ => ?_
      have know : ∀ (j : Nat) y, (L2.wipe σ (own.map (·.2)))[j]? = some (some y) → σ8[j]? = some (some y) := fun j y k => by
        have hj : j ∉ [v] := fun m => (wipe_some k).2 (by rw [List.mem_singleton.mp m]; exact hv0)
        have k2 := wipe_out (σ := σ8) hj
        rw [hw8, wipe_out hj, k] at k2
        exact k2.symm
      have unk : Unk σ8 zs := fun z hz y k => by
        have hne : z.2.2 ∉ [v] := fun m => (List.nodup_cons.mp hvn).1 (by rw [← List.mem_singleton.mp m]; exact List.mem_map.mpr ⟨z, hz, rfl⟩)
        have k2 := wipe_out (σ := σ8) hne
        rw [hw8, wipe_out hne, k] at k2
        exact (wipe_some k2).2 (hvs z hz)
      refine Nxt_mono (inner (X := X.blk sc Hc scope ce fp) calm rfl pe zs 1 _ σ8 K8 t8 Nx pz (List.nodup_cons.mp hvn).2 unk I8 q8) fun t9 ⟨K9, I9, nx⟩ => ?_
      obtain ⟨m', hm, w'⟩ := hNx K9 nx
      have pin : ∀ b ∈ fp, ∀ o, t7.heap.get? b = some o → t9.heap.get? b = some o ∧ K9 b = none := fun b hb o k =>
        let z := I9.pin (b, o) (List.mem_append_right _ (List.mem_append_right _ (mem_pinsAt hb k)))
        ⟨z.1, z.2.1⟩
      have hl8 : (L2.wipe σ (own.map (·.2))).length = σ8.length := by
        have := congrArg List.length hw8
        rw [wipe_length, wipe_length] at this
        exact this.symm
      exact ⟨m', hm, i + 1, K9, (I9.unpinned (pins := [])).weak hl8 know, T.keep _ _ _ st7 fun b hb o k => (pin b hb o k).1, fun b hb => let ⟨o, k, _⟩ := T.obj _ _ st7 b hb; (pin b hb o k).2, w'⟩
  exact start_any hc0 lp (T.self X.A 0 _ _ _ std lp)
theorem pe_lcn {elt : Expr} {c0 : Expr × Expr} {cs : List (Expr × Expr)} {scope : Scope} {own : List (Str × Nat)} {pos : Pos} {wi : TI} {g : TG} {v : Nat} {zs : List (TI × TG × Nat)} {te : TE}
    (calm : X.calm = true) (nod : X.N.Nodup) (hi : PI X c0.1 c0.2 wi) (ok : BlkOk X.N X.env.scope scope own) (hvn : (v :: zs.map (·.2.2)).Nodup) (hvs : ∀ z ∈ zs, z.2.2 ∈ own.map (·.2)) (hv0 : v ∈ own.map (·.2))
    (hg : ∀ (s : Shared) (H : Hp) (C : Addr) (cl : List (Str × Addr)) (fp : List Addr), PG (X.blk s H scope (compEnvC scope cl C X.env) fp) c0.1 g)
    (hz : ∀ (s : Shared) (H : Hp) (C : Addr) (cl : List (Str × Addr)) (fp : List Addr), Al (X.blk s H scope (compEnvC scope cl C X.env) fp) (c0 :: cs) 1 zs)
    (he : ∀ (s : Shared) (H : Hp) (C : Addr) (cl : List (Str × Addr)) (fp : List Addr), PE (X.blk s H scope (compEnvC scope cl C X.env) fp) elt te) (hs : ∀ x, foldedSetIterable c0.2 X.env x = pure x) :
    PE X (lcE elt (c0 :: cs) scope pos) (tLcN wi g v zs te (own.map (·.2))) := by
  refine ⟨fun pins s σ H Q I h => ?_⟩
  rw [eval_ListComp]
  refine lcn_core calm nod I hi ok hvn hvs hv0 hg hz he hs h fun D C s' m H' I' q hn f => ⟨m, hn, fun h'' sb => ?_⟩
  obtain ⟨f0, f1, f2, f3, f4, f5⟩ := f
  exact ⟨.ref D, H', I'.turned (t' := s'.toks) (fun b o hb e => (sb.2 b hb).trans e) f0 f1 f3 f4 f5, rfl, q⟩
end
end Pl


namespace Pl
open PySem PySem.Spec PyProof.Rows L2
/-- as Gr, but for what stands at D -/
structure Gd (D : Addr) (r : Rho) (H : Hp) (r' : Rho) (H' : Hp) : Prop where
  keep : ∀ a o, a ≠ D → H a = some o → some a ∉ r.c → H' a = some o ∧ some a ∉ r'.c
  len : r.c.length ≤ r'.c.length
  old : ∀ (n : Nat) a, n < r.c.length → r'.c[n]? = some (some a) → r.c[n]? = some (some a)
  prt : r'.p = r.p
theorem Gd.refl (D : Addr) (r : Rho) (H : Hp) : Gd D r H r H := ⟨fun _ _ _ h k => ⟨h, k⟩, Nat.le_refl _, fun _ _ _ h => h, rfl⟩
theorem Gd.trans {D : Addr} {r r1 r2 : Rho} {H H1 H2 : Hp} (a : Gd D r H r1 H1) (b : Gd D r1 H1 r2 H2) : Gd D r H r2 H2 :=
  ⟨fun x o hx h k => let ⟨h1, k1⟩ := a.keep x o hx h k; b.keep x o hx h1 k1, Nat.le_trans a.len b.len, fun n x hn h => a.old n x hn (b.old n x (Nat.lt_of_lt_of_le hn a.len) h), b.prt.trans a.prt⟩
theorem Gr.gd {D : Addr} {r r' : Rho} {H H' : Hp} (g : Gr r H r' H') : Gd D r H r' H' := ⟨fun a o _ h k => g.keep a o h k, g.len, g.old, g.prt⟩
theorem Gd.upd {D : Addr} {r : Rho} {H : Hp} {o : HO} : Gd D r H r (L2.upd H D o) := ⟨fun a u hn h k => ⟨by rw [upd_ne hn]; exact h, k⟩, Nat.le_refl _, fun _ _ _ h => h, rfl⟩
theorem Gd.gr {D : Addr} {r r' : Rho} {H H' : Hp} (g : Gd D r H r' H') (hD : H D = none) : Gr r H r' H' := ⟨fun a o h k => g.keep a o (ne_of_none h hD) h k, g.len, g.old, g.prt⟩
theorem hide_ne {D a : Addr} {r : Rho} (k : (r.hide D).No a) : a ≠ D := fun e => k.2 (by rw [e]; exact List.mem_cons_self)
theorem Gd.no {D : Addr} {r r' : Rho} {H H' : Hp} (g : Gd D r H r' H') {a : Addr} {o : HO} (h : H a = some o) (k : (r.hide D).No a) : (r'.hide D).No a :=
  ⟨(g.keep a o (hide_ne k) h k.1).2, fun m => k.2 (by show a ∈ D :: r.p; rw [← g.prt]; exact m)⟩
theorem Gd.keepR {D : Addr} {r r' : Rho} {H H' : Hp} (g : Gd D r H r' H') {a : Addr} {u : HO} (h : Rd H a u) (k : (r.hide D).No a) : Rd H' a u ∧ (r'.hide D).No a :=
  h.elim (fun e => ⟨.inl (g.keep a _ (hide_ne k) e k.1).1, g.no e k⟩) fun ⟨o, e⟩ => ⟨.inr ⟨o, (g.keep a _ (hide_ne k) e k.1).1⟩, g.no e k⟩
mutual
theorem Rp.gd {D : Addr} {r r' : Rho} {H H' : Hp} (g : Gd D r H r' H') : ∀ {v : V} {d : PyData}, Rp H (r.hide D) v d → Rp H' (r'.hide D) v d
  | _, _, .non => .non
  | _, _, .bl b => .bl b
  | _, _, .int i => .int i
  | _, _, .str x => .str x
  | _, _, .lst h k t => .lst (g.keep _ _ (hide_ne k) h k.1).1 (g.no h k) (Rps.gd g t)
  | _, _, .tup h k t => .tup (let ⟨o, d, e⟩ := h; ⟨o, d, (g.keep _ _ (hide_ne k) e k.1).1⟩) (let ⟨_, _, e⟩ := h; g.no e k) (Rps.gd g t)
  | _, _, .dic h k e t => .dic (g.keepR h k).1 (g.keepR h k).2 e (Rps.gd g t)
theorem Rps.gd {D : Addr} {r r' : Rho} {H H' : Hp} (g : Gd D r H r' H') : ∀ {vs : List V} {ds : List PyData}, Rps H (r.hide D) vs ds → Rps H' (r'.hide D) vs ds
  | _, _, .nil => .nil
  | _, _, .cons h t => .cons (Rp.gd g h) (Rps.gd g t)
end
section
variable {K : PySem.W.Frag} {D : Addr} {r r' : Rho} {H H' : Hp}
theorem Rw.gd {acc : List V} (g : Gd D r H r' H') (hD : H D = some (.lst acc)) {w : W} {v : V} (h : Rw K H (r.hide D) w v) : Rw K H' (r'.hide D) w v := by
  cases w with
  | v d => exact Rp.gd g h
  | r n => exact ⟨Nat.lt_of_lt_of_le h.1 g.len, fun a ha => h.2 a (g.old n a h.1 ha)⟩
  | s ns =>
    obtain ⟨a, e, h⟩ := h
    refine ⟨a, e, ?_⟩
    rcases h with ⟨o, h, k⟩ | h
    · have hne : a ≠ D := fun z => by rw [z, hD] at h; cases h
      exact .inl ⟨o, (g.keep a _ hne h k).1, (g.keep a _ hne h k).2⟩
    · exact .inr h
theorem ER.gd {acc : List V} {η : En} {σ : L2.St} (g : Gd D r H r' H') (hD : H D = some (.lst acc)) (h : ER K η σ H (r.hide D)) : ER K η σ H' (r'.hide D) :=
  ⟨h.1, fun i w e => let ⟨v, h1, h2⟩ := h.2 i w e; ⟨v, h1, h2.gd g hD⟩⟩
def JO (K : PySem.W.Frag) (J : L2.It) (v : V) (d : PyData) : Prop := ∃ a, v = .ref a ∧ match d with
  | .list _ => J = Itl K a
  | .tuple _ => J = Itt K a
  | _ => False
def LV (K : PySem.W.Frag) (i : Nat) : TI := fun σ H R => ∃ r v d ds, σ[i]? = some (some v) ∧ Rp H r v d ∧ itemsOf d = some ds ∧ ∀ J, JO K J v d → R J H
theorem pi_val {X : Cx} {tg : Expr} {i : Nat} {x : Str} {pos : Pos} (hN : X.N[i]? = some x) (hv : Vis X.env.scope x) (hd : (x == ("__debug__" : Str)) = false) (hcd : (x == ("__classdict__" : Str)) = false) : PI X tg (.Name x pos) (LV X.K i) := by
  refine pi_imp (pi_or (pi_list (pe_var hN hv hd hcd)) (pi_tup (pe_var hN hv hd hcd))) fun σ H R q => ?_
  obtain ⟨r, v, d, ds, h1, h2, h3, k⟩ := q
  cases h2 with
  | lst a b c => exact .inl ⟨_, h1, _, rfl, ⟨_, .inl (.inl a)⟩, k _ ⟨_, rfl, rfl⟩⟩
  | tup a b c => exact .inr ⟨_, h1, _, rfl, ⟨_, a.sq⟩, k _ ⟨_, rfl, rfl⟩⟩
  | non => cases h3
  | bl _ => cases h3
  | int _ => cases h3
  | str _ => cases h3
  | dic _ _ _ _ => cases h3
theorem jo_steps {J : L2.It} {v : V} {d : PyData} {ds : List PyData} {S : Sto} (hj : JO K J v d) (hp : Rp H r v d) (hi : itemsOf d = some ds) (hS : SR S r H) :
    (∀ i, i < ds.length → J.go i H) ∧ (∀ i x H' e, ds[i]? = some e → J.yld i H x H' → (∀ a o, H a = some o → H' a = some o) ∧ Bz false H' r x e) ∧ (∀ i, ds.length ≤ i → J.stop i H) := by
  obtain ⟨a, e, hj⟩ := hj
  subst e
  cases hp with
  | lst h1 h2 h3 =>
    cases hi
    have hj : J = Itl K a := hj
    subst hj
    exact wk_list false h1 h2 h3 r H S (Gr.refl _ _).gp hS
  | tup h1 h2 h3 =>
    cases hi
    have hj : J = Itt K a := hj
    subst hj
    exact wk_tup false h1 h2 h3 r H S (Gr.refl _ _).gp hS
  | dic _ _ _ _ => cases hi
def varsX : List Nat → Exs
  | [] => .nil
  | t :: ts => .cons (.var t) (varsX ts)
theorem varsX_ev {Γ : Fns} {η : En} {S : Sto} : ∀ {ts : List Nat} {p : List PyData}, (∀ (j t : Nat), ts[j]? = some t → ∃ d : PyData, p[j]? = some d ∧ lkup η t = some (.v d)) → ts.length = p.length → evEs Γ η (varsX ts) S = some (p.map .v, S)
  | [], [], _, _ => rfl
  | [], _ :: _, _, h => by simp at h
  | _ :: _, [], _, h => by simp at h
  | t :: ts, d :: p, h, hl => by
    obtain ⟨d', h1, h2⟩ := h 0 t rfl
    cases h1
    have ih := varsX_ev (Γ := Γ) (η := η) (S := S) (ts := ts) (p := p) (fun j t' ht => h (j + 1) t' ht) (by simpa using hl)
    unfold varsX
    simp only [evEs, evE, h2, ih, Option.map_some, Option.bind_eq_bind, Option.bind_some]
    rfl
theorem datas_map : ∀ p : List PyData, datas (p.map .v) = some p
  | [] => rfl
  | d :: p => by
    have := datas_map p
    simp [datas, this]
theorem tupX_ev {Γ : Fns} {η : En} {S : Sto} {ts : List Nat} {p : List PyData} (h : ∀ (j t : Nat), ts[j]? = some t → ∃ d : PyData, p[j]? = some d ∧ lkup η t = some (.v d)) (hl : ts.length = p.length) (h15 : p.length ≤ lim) : evE Γ η (.tup (varsX ts)) S = some (.v (.tuple p), S) := by
  simp only [evE, varsX_ev h hl, datas_map, Option.bind_eq_bind, Option.bind_some, h15, if_true]
def SrcOk (η : En) : List (Nat × Nat) → List (List PyData) → Prop
  | [], [] => True
  | c :: cl, ds :: dss => (∃ d, lkup η c.2 = some (.v d) ∧ itemsOf d = some ds) ∧ SrcOk η cl dss
  | _, _ => False
theorem srcL_ok {η : En} : ∀ {cl : List (Nat × Nat)} {dss : List (List PyData)}, srcL η cl = some dss → SrcOk η cl dss
  | [], dss, h => by cases h; trivial
  | c :: cl, dss, h => by
    unfold srcL at h
    cases e : lkup η c.2 with
    | none => rw [e] at h; cases h
    | some w =>
      rw [e] at h
      cases w with
      | v d =>
        simp only at h
        cases e1 : itemsOf d with
        | none => rw [e1] at h; cases h
        | some ds =>
          cases e2 : srcL η cl with
          | none => rw [e1, e2] at h; cases h
          | some r =>
            rw [e1, e2] at h
            cases h
            exact ⟨⟨d, e, e1⟩, srcL_ok e2⟩
      | r n => cases h
      | s ns => cases h
theorem SrcOk.same {η η' : En} : ∀ {cl : List (Nat × Nat)} {dss : List (List PyData)}, SrcOk η cl dss → (∀ c ∈ cl, lkup η' c.2 = lkup η c.2) → SrcOk η' cl dss
  | [], [], _, _ => trivial
  | [], _ :: _, h, _ => h.elim
  | _ :: _, [], h, _ => h.elim
  | c :: cl, ds :: dss, ⟨⟨d, h1, h2⟩, h3⟩, h => ⟨⟨d, (h c List.mem_cons_self).trans h1, h2⟩, h3.same fun c' hc => h c' (List.mem_cons_of_mem _ hc)⟩
def zsOf (K : PySem.W.Frag) (cl : List (Nat × Nat)) : List (TI × TG × Nat) := cl.map fun c => (LV K c.2, gName c.1, c.1)
theorem lkup_setE {η : En} {i j : Nat} {w : Option W} (h : i ≠ j) : lkup (η.set i w) j = lkup η j := by
  unfold lkup
  rw [List.getElem?_set_ne h]
theorem lkup_self {η : En} {i : Nat} {w : W} (h : i < η.length) : lkup (η.set i (some w)) i = some w := by
  unfold lkup
  rw [List.getElem?_set_self h]
  rfl
theorem gensOf_inj : ∀ {a b : List (Expr × Expr)}, gensOf a = gensOf b → a = b
  | [], [], _ => rfl
  | [], _ :: _, h => by cases h
  | _ :: _, [], h => by cases h
  | (x, y) :: a, (x', y') :: b, h => by
    unfold gensOf at h
    simp only [List.map_cons, List.cons.injEq, Comprehension.mk.injEq] at h
    obtain ⟨⟨rfl, rfl, _⟩, h⟩ := h
    rw [gensOf_inj h]
theorem flatN_len {α β : Type _} (f : α → List β) : ∀ (l : List α) (n : Nat), (∀ e, (f e).length = n) → (l.flatMap f).length = l.length * n
  | [], n, _ => by simp
  | e :: l, n, h => by
    rw [List.flatMap_cons, List.length_append, h e, flatN_len f l n h, List.length_cons, Nat.succ_mul]
    omega
theorem nest {Γ : Fns} {D : Addr} {S : Sto} {all : List Nat} (h15 : all.length ≤ 15) : ∀ (cl : List (Nat × Nat)) (dss : List (List PyData)) (tp : List Nat) (p : List PyData) (r : Rho) (H : Hp) (σ : L2.St) (η : En) (acc : List V) (xs : List PyData) (Nx : Hp → Prop),
    all = tp ++ cl.map (·.1) → all.Nodup → (∀ t ∈ all, t < η.length) → (∀ c ∈ cl, c.2 ∉ all) → SrcOk η cl dss → tp.length = p.length → (∀ (j t : Nat), tp[j]? = some t → ∃ d : PyData, p[j]? = some d ∧ lkup η t = some (.v d)) →
    SR S (r.hide D) H → ER K η σ H (r.hide D) → H D = some (.lst acc) → Rps H (r.hide D) acc xs → xs.length + (prodL dss).length ≤ lim →
    (∀ r' H' acc', Gd D r H r' H' → SR S (r'.hide D) H' → H' D = some (.lst acc') → Rps H' (r'.hide D) acc' (xs ++ (prodL dss).map fun row => .tuple (p ++ row)) → Nx H') →
    tNx (LE K fun η S => evE Γ η (.tup (varsX all)) S) D (zsOf K cl) σ H Nx
  | [], [], tp, p, r, H, σ, η, acc, xs, Nx, ha, hnd, hlt, _, _, hl, hp, hS, hE, hD, hR, hlen, nx => by
    have ha : all = tp := by rw [ha]; simp
    have h1 := tupX_ev (Γ := Γ) (S := S) hp hl (by rw [← hl, ← ha]; exact Nat.le_trans h15 (by decide))
    rw [← ha] at h1
    refine ⟨_, η, S, _, S, hS, hE, h1, fun r6 y H6 g6 hS6 hy => ?_⟩
    obtain ⟨r7, rfl, g7⟩ := g6.unhide
    have hDc := (hS.prt D List.mem_cons_self).2
    have hD6 := (g6.keep D _ hD hDc).1
    have hR6 := hR.gr g6
    have hl6 := hR6.length
    refine ⟨acc, hD6, ?_, ?_⟩
    · have := lim_line
      simp [prodL] at hlen
      omega
    · refine nx r7 _ (acc ++ [y]) (g7.gd.trans Gd.upd) hS6.over upd_same ?_
      have h2 : (prodL []).map (fun row => PyData.tuple (p ++ row)) = [.tuple p] := by simp [prodL]
      rw [h2]
      exact (hR6.append (.cons hy .nil)).over
  | [], _ :: _, _, _, _, _, _, _, _, _, _, _, _, _, _, h, _, _, _, _, _, _, _, _ => h.elim
  | _ :: _, [], _, _, _, _, _, _, _, _, _, _, _, _, _, h, _, _, _, _, _, _, _, _ => h.elim
  | c :: cl, ds :: dss, tp, p, r, H, σ, η, acc, xs, Nx, ha, hnd, hlt, hns, hsrc, hl, hp, hS, hE, hD, hR, hlen, nx => by
    obtain ⟨⟨d, hk, hi⟩, hsrc'⟩ := hsrc
    obtain ⟨t, a⟩ := c
    have hta : t ∈ all := by rw [ha]; simp
    have hat : a ≠ t := fun e => hns (t, a) List.mem_cons_self (by rw [show (t, a).2 = t from e]; exact hta)
    have htl := hlt t hta
    obtain ⟨v, hv, hw⟩ := hE.2 a _ hk
    show LV K a σ H (fun J H0 => _)
    refine ⟨r.hide D, v, d, ds, hv, hw, hi, fun J hJ => ?_⟩
    refine ⟨fun j k H3 => ∃ r3 acc3, Gd D r H r3 H3 ∧ SR S (r3.hide D) H3 ∧ H3 D = some (.lst acc3) ∧ Rps H3 (r3.hide D) acc3 (xs ++ (ds.take j).flatMap fun e => (prodL dss).map fun row => .tuple (p ++ e :: row)) ∧ k = ds.length - j,
      ⟨ds.length, r, acc, Gd.refl _ _ _, hS, hD, by simpa using hR, rfl⟩, ?_⟩
    rintro j k H3 ⟨r3, acc3, g3, hS3, hD3, hR3, rfl⟩
    have hE3 := hE.gd g3 hD
    have hw3 : Rp H3 (r3.hide D) v d := Rp.gd g3 hw
    obtain ⟨jgo, jyl, jst⟩ := jo_steps hJ hw3 hi hS3
    by_cases hj : j < ds.length
    · have hd : ds[j]? = some ds[j] := List.getElem?_eq_getElem hj
      refine .inr ⟨jgo j hj, fun H5 => ∃ r5 acc5, Gd D r H r5 H5 ∧ SR S (r5.hide D) H5 ∧ H5 D = some (.lst acc5) ∧ Rps H5 (r5.hide D) acc5 (xs ++ (ds.take (j + 1)).flatMap fun e => (prodL dss).map fun row => .tuple (p ++ e :: row)),
        fun H5 ⟨r5, acc5, a1, a2, a3, a4⟩ => ⟨ds.length - (j + 1), by omega, r5, acc5, a1, a2, a3, a4, rfl⟩, fun x H4 hy => ?_⟩
      obtain ⟨hkp, hz⟩ := jyl j x H4 _ hd hy
      have gk : Gr r3 H3 r3 H4 := gr_same hkp
      have gk' : Gr (r3.hide D) H3 (r3.hide D) H4 := gr_same hkp
      have hE4 : ER K (wipeE η [t]) (L2.wipe σ [t]) H4 (r3.hide D) := (hE3.gr gk').wipe [t]
      have hwl : (wipeE η [t]).length = η.length := by simp [wipeE]
      have hq : bindT (wipeE η [t]) [t] false ds[j] = some ((wipeE η [t]).set t (some (.v ds[j]))) := by simp [bindT, setAll, wipeE, htl]
      show gName t x (L2.wipe σ [t]) H4 fun σ4 H4 => L2.wipe σ4 [t] = L2.wipe σ [t] ∧ tNx (LE K fun η S => evE Γ η (.tup (varsX all)) S) D (zsOf K cl) σ4 H4 _
      refine tgt_one t false _ x ds[j] _ _ _ H4 _ (fun k => nomatch k) hE4 hz hq fun σ2 hE5 hw5 => ⟨by rw [hw5 [t] (fun i hi => hi), wipe_idem], ?_⟩
      have hset : (wipeE η [t]).set t (some (.v ds[j])) = η.set t (some (.v ds[j])) := by simp [wipeE, List.set_set]
      rw [hset] at hE5
      have htp : ∀ u ∈ tp, u ≠ t := fun u hu e => by
        rw [ha] at hnd
        exact (List.nodup_append.mp hnd).2.2 u hu t (by simp) e
      have htake : ds.take (j + 1) = ds.take j ++ [ds[j]] := List.take_succ_eq_append_getElem hj
      refine nest h15 cl dss (tp ++ [t]) (p ++ [ds[j]]) r3 H4 σ2 (η.set t (some (.v ds[j]))) acc3 _ _ (by rw [ha]; simp) hnd (fun u hu => by rw [List.length_set]; exact hlt u hu) (fun c hc => hns c (List.mem_cons_of_mem _ hc))
        (hsrc'.same fun c hc => lkup_setE fun e => hns c (List.mem_cons_of_mem _ hc) (by rw [← e]; exact hta)) (by simp [hl]) (fun i u hu => ?_) (hS3.of_same hkp) hE5 (hkp D _ hD3) (hR3.gr gk') ?_ (fun r5 H5 acc5 g5 hS5 hD5 hR5 => ⟨r5, acc5, (g3.trans gk.gd).trans g5, hS5, hD5, ?_⟩)
      · by_cases hi2 : i < tp.length
        · rw [List.getElem?_append_left hi2] at hu
          obtain ⟨e, h1, h2⟩ := hp i u hu
          refine ⟨e, by rw [List.getElem?_append_left (by omega)]; exact h1, ?_⟩
          rw [lkup_setE fun z => htp u (List.mem_of_getElem? hu) z.symm]
          exact h2
        · rw [List.getElem?_append_right (by omega)] at hu
          have hi3 : i = tp.length := by
            rcases Nat.lt_or_ge (i - tp.length) 1 with h | h
            · omega
            · rw [List.getElem?_eq_none (by simpa using h)] at hu; cases hu
          subst hi3
          simp at hu
          subst hu
          refine ⟨ds[j], by rw [hl]; simp, lkup_self htl⟩
      · have h1 : (prodL (ds :: dss)).length = ds.length * (prodL dss).length := by
          show (ds.flatMap fun d => (prodL dss).map fun row => d :: row).length = _
          exact flatN_len _ _ _ fun e => List.length_map ..
        have h2 : ((ds.take j).flatMap fun e => (prodL dss).map fun row => PyData.tuple (p ++ e :: row)).length = j * (prodL dss).length := by
          rw [flatN_len _ _ (prodL dss).length fun e => List.length_map .., List.length_take, Nat.min_eq_left (Nat.le_of_lt hj)]
        rw [h1] at hlen
        rw [List.length_append, h2]
        have h3 : (j + 1) * (prodL dss).length ≤ ds.length * (prodL dss).length := Nat.mul_le_mul_right _ hj
        rw [Nat.add_mul, Nat.one_mul] at h3
        omega
      · rw [htake, List.flatMap_append]
        simp only [List.flatMap_cons, List.flatMap_nil, List.append_nil]
        rw [← List.append_assoc]
        have hm : (prodL dss).map (fun row => PyData.tuple (p ++ [ds[j]] ++ row)) = (prodL dss).map fun row => .tuple (p ++ ds[j] :: row) := List.map_congr_left fun row _ => by simp
        rw [hm] at hR5
        exact hR5
    · refine .inl ⟨jst j (by omega), nx r3 H3 acc3 g3 hS3 hD3 ?_⟩
      rw [List.take_of_length_le (by omega)] at hR3
      have hm : (prodL (ds :: dss)).map (fun row => PyData.tuple (p ++ row)) = ds.flatMap fun e => (prodL dss).map fun row => .tuple (p ++ e :: row) := by
        show (ds.flatMap fun d => (prodL dss).map fun row => d :: row).map _ = _
        rw [List.map_flatMap]
        refine congrArg (fun g => ds.flatMap g) (funext fun e => ?_)
        rw [List.map_map]
        rfl
      rw [hm]
      exact hR3
theorem lkup_wipe {η : En} : ∀ {vs : List Nat} {j : Nat}, j ∉ vs → lkup (wipeE η vs) j = lkup η j
  | [], _, _ => rfl
  | v :: vs, j, h => by
    show lkup ((wipeE η vs).set v none) j = _
    rw [lkup_setE fun e => h (by rw [e]; exact List.mem_cons_self)]
    exact lkup_wipe fun m => h (List.mem_cons_of_mem _ m)
theorem wipeE_len {η : En} : ∀ vs : List Nat, (wipeE η vs).length = η.length
  | [] => rfl
  | v :: vs => by
    show ((wipeE η vs).set v none).length = _
    rw [List.length_set]
    exact wipeE_len vs
theorem le_lcp {Γ : Fns} {c0 : Nat × Nat} {cl : List (Nat × Nat)} {all : List Nat} (ha : all = (c0 :: cl).map (·.1)) (h15 : all.length ≤ 15) (hnd : all.Nodup) (hns : ∀ c ∈ c0 :: cl, c.2 ∉ all) :
    ∀ σ H Q, LE K (lcpF (c0 :: cl)) σ H Q → tLcN (LV K c0.2) (gName c0.1) c0.1 (zsOf K cl) (LE K fun η S => evE Γ η (.tup (varsX all)) S) all σ H Q := by
  intro σ H Q q
  obtain ⟨r, η, S, w, S', hS, hE, hf, k⟩ := q
  unfold lcpF at hf
  split at hf
  · next dss0 hsrc =>
    split at hf
    · next hc =>
      cases hf
      rw [Bool.and_eq_true, List.all_eq_true, decide_eq_true_eq] at hc
      obtain ⟨hlt0, hlen⟩ := hc
      have hlt : ∀ t ∈ all, t < η.length := fun t ht => by
        rw [ha] at ht
        obtain ⟨c, hc, rfl⟩ := List.mem_map.mp ht
        exact of_decide_eq_true (hlt0 c hc)
      have hsrc := srcL_ok hsrc
      match dss0, hsrc, hlen, k with
      | ds :: dss, ⟨⟨d, hk, hi⟩, hsrc'⟩, hlen, k =>
      obtain ⟨t, a⟩ := c0
      have hta : t ∈ all := by rw [ha]; simp
      obtain ⟨v, hv, hw⟩ := hE.2 a _ hk
      show LV K a σ H (fun J H1 => _)
      refine ⟨r, v, d, ds, hv, hw, hi, fun J hJ D hD => ?_⟩
      have hS0 : SR S (r.hide D) (upd H D (.lst [])) := hS.hide hD
      have hE0 : ER K (wipeE η all) (L2.wipe σ all) (upd H D (.lst [])) (r.hide D) := (hE.wipe all).hideN hD
      have hw0 : Rp (upd H D (.lst [])) (r.hide D) v d := (Rw.hideN (K := K) (w := .v d) hD hw).upd hD
      have hD0 : (upd H D (.lst [])) D = some (.lst []) := upd_same
      have g0 : Gd D r H r (upd H D (.lst [])) := Gd.upd
      generalize upd H D (.lst []) = H0 at hS0 hE0 hw0 hD0 g0
      refine ⟨fun j k H3 => ∃ r3 acc3, Gd D r H0 r3 H3 ∧ SR S (r3.hide D) H3 ∧ H3 D = some (.lst acc3) ∧ Rps H3 (r3.hide D) acc3 ((ds.take j).flatMap fun e => (prodL dss).map fun row => .tuple (e :: row)) ∧ k = ds.length - j,
        ⟨ds.length, r, [], Gd.refl _ _ _, hS0, hD0, .nil, rfl⟩, ?_⟩
      rintro j kk H3 ⟨r3, acc3, g3, hS3, hD3, hR3, rfl⟩
      have hE3 := hE0.gd g3 hD0
      have hw3 : Rp H3 (r3.hide D) v d := Rp.gd g3 hw0
      obtain ⟨jgo, jyl, jst⟩ := jo_steps hJ hw3 hi hS3
      by_cases hj : j < ds.length
      · have hd : ds[j]? = some ds[j] := List.getElem?_eq_getElem hj
        refine .inr ⟨jgo j hj, fun H5 => ∃ r5 acc5, Gd D r H0 r5 H5 ∧ SR S (r5.hide D) H5 ∧ H5 D = some (.lst acc5) ∧ Rps H5 (r5.hide D) acc5 ((ds.take (j + 1)).flatMap fun e => (prodL dss).map fun row => .tuple (e :: row)),
          fun H5 ⟨r5, acc5, a1, a2, a3, a4⟩ => ⟨ds.length - (j + 1), by omega, r5, acc5, a1, a2, a3, a4, rfl⟩, fun x H4 hy => ?_⟩
        obtain ⟨hkp, hz⟩ := jyl j x H4 _ hd hy
        have gk : Gr r3 H3 r3 H4 := gr_same hkp
        have gk' : Gr (r3.hide D) H3 (r3.hide D) H4 := gr_same hkp
        have hE4 := hE3.gr gk'
        have hq : bindT (wipeE η all) [t] false ds[j] = some ((wipeE η all).set t (some (.v ds[j]))) := by simp [bindT, setAll]
        show gName t x (L2.wipe σ all) H4 fun σ4 H4 => L2.wipe σ4 [t] = L2.wipe (L2.wipe σ all) [t] ∧ tNx (LE K fun η S => evE Γ η (.tup (varsX all)) S) D (zsOf K cl) σ4 H4 _
        refine tgt_one t false _ x ds[j] _ _ _ H4 _ (fun k => nomatch k) hE4 hz hq fun σ2 hE5 hw5 => ⟨hw5 [t] (fun i hi => hi), ?_⟩
        have htake : ds.take (j + 1) = ds.take j ++ [ds[j]] := List.take_succ_eq_append_getElem hj
        refine nest h15 cl dss [t] [ds[j]] r3 H4 σ2 ((wipeE η all).set t (some (.v ds[j]))) acc3 _ _ (by rw [ha]; simp) hnd (fun u hu => by rw [List.length_set, wipeE_len]; exact hlt u hu) (fun c hc => hns c (List.mem_cons_of_mem _ hc))
          (hsrc'.same fun c hc => (lkup_setE fun e => hns c (List.mem_cons_of_mem _ hc) (by rw [← e]; exact hta)).trans (lkup_wipe (hns c (List.mem_cons_of_mem _ hc)))) rfl (fun i u hu => ?_) (hS3.of_same hkp) hE5 (hkp D _ hD3) (hR3.gr gk') ?_ (fun r5 H5 acc5 g5 hS5 hD5 hR5 => ⟨r5, acc5, (g3.trans gk.gd).trans g5, hS5, hD5, ?_⟩)
        · have hi3 : i = 0 := by
            rcases Nat.lt_or_ge i 1 with h | h
            · omega
            · rw [List.getElem?_eq_none (by simpa using h)] at hu; cases hu
          subst hi3
          simp at hu
          subst hu
          exact ⟨ds[j], rfl, lkup_self (by rw [wipeE_len]; exact hlt t hta)⟩
        · have h1 : (prodL (ds :: dss)).length = ds.length * (prodL dss).length := by
            show (ds.flatMap fun d => (prodL dss).map fun row => d :: row).length = _
            exact flatN_len _ _ _ fun e => List.length_map ..
          have h2 : ((ds.take j).flatMap fun e => (prodL dss).map fun row => PyData.tuple (e :: row)).length = j * (prodL dss).length := by
            rw [flatN_len _ _ (prodL dss).length fun e => List.length_map .., List.length_take, Nat.min_eq_left (Nat.le_of_lt hj)]
          rw [h1] at hlen
          rw [h2]
          have h3 : (j + 1) * (prodL dss).length ≤ ds.length * (prodL dss).length := Nat.mul_le_mul_right _ hj
          rw [Nat.add_mul, Nat.one_mul] at h3
          omega
        · rw [htake, List.flatMap_append]
          simp only [List.flatMap_cons, List.flatMap_nil, List.append_nil]
          exact hR5
      · refine .inl ⟨jst j (by omega), ?_⟩
        rw [List.take_of_length_le (by omega)] at hR3
        have hm : (prodL (ds :: dss)).map PyData.tuple = ds.flatMap fun e => (prodL dss).map fun row => .tuple (e :: row) := by
          show (ds.flatMap fun d => (prodL dss).map fun row => d :: row).map _ = _
          rw [List.map_flatMap]
          refine congrArg (fun g => ds.flatMap g) (funext fun e => ?_)
          rw [List.map_map]
          rfl
        refine k r3 (.ref D) H3 ((g0.trans g3).gr hD) hS3.unhide ?_
        rw [hm]
        refine .lst hD3 ⟨(hS3.prt D List.mem_cons_self).2, fun m => ?_⟩ hR3.unhide
        rw [g3.prt] at m
        exact (hS.prt D m).1 hD
    · cases hf
  · cases hf
end
end Pl


namespace Pl
open PySem PySem.Spec PyProof.Rows L2
/-- a dict is locked, or no more so -/
structure Tr (d : Addr) (H H' : Hp) : Prop where
  ne : ∀ a, a ≠ d → H' a = H a
  at' : ∃ ps : List (Key × V), H d = some (.dK ps) ∨ ∃ o, H d = some (.frz o (.dK ps))
  rd : ∀ ps : List (Key × V), Rd H d (.dK ps) → Rd H' d (.dK ps)
  so : H' d ≠ none
theorem Tr.lock {d : Addr} {H : Hp} {ps : List (Key × V)} {od : Obj} (h : H d = some (.dK ps)) : Tr d H (upd H d (.frz od (.dK ps))) where
  ne := fun a ha => upd_ne ha
  at' := ⟨ps, .inl h⟩
  rd := fun qs q => by
    rcases q with q | ⟨o, q⟩
    · rw [h] at q; cases q; exact .inr ⟨od, upd_same⟩
    · rw [h] at q; cases q
  so := by rw [upd_same]; exact fun e => nomatch e
theorem Tr.unlock {d : Addr} {H : Hp} {ps : List (Key × V)} {od : Obj} (h : H d = some (.frz od (.dK ps))) : Tr d H (upd H d (.dK ps)) where
  ne := fun a ha => upd_ne ha
  at' := ⟨ps, .inr ⟨od, h⟩⟩
  rd := fun qs q => by
    rcases q with q | ⟨o, q⟩
    · rw [h] at q; cases q
    · rw [h] at q; cases q; exact .inl upd_same
  so := by rw [upd_same]; exact fun e => nomatch e
section
variable {K : PySem.W.Frag} {d : Addr} {H H' : Hp} {r : Rho}
theorem Tr.ne_lst (T : Tr d H H') {a : Addr} {xs : List V} (h : H a = some (.lst xs)) : a ≠ d := fun e => by
  obtain ⟨ps, q | ⟨o, q⟩⟩ := T.at' <;> (rw [e, q] at h; cases h)
theorem Tr.ne_frz (T : Tr d H H') {a : Addr} {o : Obj} {u : HO} (h : H a = some (.frz o u)) (hu : ∀ ps, u ≠ .dK ps) : a ≠ d := fun e => by
  obtain ⟨ps, q | ⟨o', q⟩⟩ := T.at'
  · rw [e, q] at h; cases h
  · rw [e, q] at h; cases h; exact hu ps rfl
mutual
theorem Rp.tr (T : Tr d H H') : ∀ {v : V} {x : PyData}, Rp H r v x → Rp H' r v x
  | _, _, .non => .non
  | _, _, .bl b => .bl b
  | _, _, .int i => .int i
  | _, _, .str x => .str x
  | _, _, .lst h k t => .lst ((T.ne _ (T.ne_lst h)).trans h) k (Rps.tr T t)
  | _, _, .tup h k t => .tup (let ⟨o, e, q⟩ := h; ⟨o, e, (T.ne _ (T.ne_frz q fun _ z => nomatch z)).trans q⟩) k (Rps.tr T t)
  | _, _, .dic (a := a) h k e t => .dic (by
      by_cases ha : a = d
      · subst ha; exact T.rd _ h
      · rcases h with h | ⟨o, h⟩
        · exact .inl ((T.ne _ ha).trans h)
        · exact .inr ⟨o, (T.ne _ ha).trans h⟩) k e (Rps.tr T t)
theorem Rps.tr (T : Tr d H H') : ∀ {vs : List V} {ds : List PyData}, Rps H r vs ds → Rps H' r vs ds
  | _, _, .nil => .nil
  | _, _, .cons h t => .cons (Rp.tr T h) (Rps.tr T t)
end
theorem CellR.tr (T : Tr d H H') {a : Addr} (ha : a ≠ d) : ∀ {c : Cell}, CellR H r a c → CellR H' r a c
  | .lst xs, h => let ⟨vs, h1, h2⟩ := h; ⟨vs, (T.ne _ ha).trans h1, h2.tr T⟩
  | .dct kvs, h => let ⟨ps, h1, h2, h3⟩ := h; ⟨ps, (T.ne _ ha).trans h1, h2, h3.tr T⟩
  | .gone, h => h
theorem SR.tr {S : Sto} (T : Tr d H H') (hd : some d ∉ r.c) (h : SR S r H) : SR S r H' := by
  refine ⟨h.len, h.inj, fun n c e hc => ?_, h.trk, fun a ha => ⟨?_, (h.prt a ha).2⟩⟩
  · obtain ⟨a, h1, h2⟩ := h.cels n c e hc
    have hne : a ≠ d := fun e => hd (by rw [← e]; exact List.mem_of_getElem? h1)
    exact ⟨a, h1, h2.tr T hne⟩
  · by_cases e : a = d
    · rw [e]; exact T.so
    · rw [T.ne _ e]; exact (h.prt a ha).1
theorem Rw.tr (T : Tr d H H') : ∀ {w : W} {v : V}, Rw K H r w v → Rw K H' r w v
  | .v _, _, h => Rp.tr T h
  | .r _, _, h => h
  | .s ns, _, h => by
    obtain ⟨a, e, k⟩ := h
    refine ⟨a, e, ?_⟩
    rcases k with ⟨o, k, z⟩ | k
    · exact .inl ⟨o, (T.ne _ (T.ne_frz k fun _ z => nomatch z)).trans k, z⟩
    · exact .inr k
theorem ER.tr {e : En} {s : L2.St} (T : Tr d H H') (h : ER K e s H r) : ER K e s H' r :=
  ⟨h.1, fun i w q => let ⟨v, h1, h2⟩ := h.2 i w q; ⟨v, h1, h2.tr T⟩⟩
theorem Gr.lock {r r' : Rho} {H H' : Hp} {ps : List (Key × V)} {od : Obj} (h : H d = some (.dK ps)) (g : Gr r (upd H d (.frz od (.dK ps))) r' H') : Gr r H r' (upd H' d (.dK ps)) :=
  ⟨fun a o ha hc => by
    by_cases e : a = d
    · subst e
      rw [h] at ha
      cases ha
      exact ⟨upd_same, (g.keep a _ upd_same hc).2⟩
    · have := g.keep a o (by rw [upd_ne e]; exact ha) hc
      exact ⟨by rw [upd_ne e]; exact this.1, this.2⟩, g.len, g.old, g.prt⟩
theorem Gr.unl {r r' : Rho} {H H' : Hp} {ps : List (Key × V)} {od : Obj} (h : H d = some (.frz od (.dK ps))) (hc : some d ∉ r.c) (g : Gr r H r' H') : Gr r (upd H d (.dK ps)) r' (upd H' d (.dK ps)) :=
  ⟨fun a o ha hc' => by
    by_cases e : a = d
    · subst e
      rw [upd_same] at ha
      cases ha
      exact ⟨upd_same, (g.keep a _ h hc).2⟩
    · have := g.keep a o (by rw [upd_ne e] at ha; exact ha) hc'
      exact ⟨by rw [upd_ne e]; exact this.1, this.2⟩, g.len, g.old, g.prt⟩
theorem dic_ref {v : V} {kvs : List (PyData × PyData)} (h : Rp H r v (.dict kvs)) : ∃ a, v = .ref a := by
  cases h with
  | dic _ _ _ _ => exact ⟨_, rfl⟩
theorem dic_parts {a : Addr} {kvs : List (PyData × PyData)} (h : Rp H r (.ref a) (.dict kvs)) : r.No a ∧ ∃ ps : List (Key × V), Rd H a (.dK ps) ∧ ps.map (fun p => kD p.1) = kvs.map (·.1) := by
  cases h with
  | dic h k e t => exact ⟨k, _, h, e⟩
/-- the keys, one after another -/
theorem wk_keys {ps : List (Key × V)} {od : Obj} {ks : List PyData} (h : H d = some (.frz od (.dK ps))) (hc : some d ∉ r.c) (hk : ps.map (fun p => kD p.1) = ks) : WkI (Itk d od ps) r H false ks := by
  intro r1 H1 S1 g hS
  have h1 := (g.keep d _ h hc).1
  have hl : ks.length = ps.length := by rw [← hk, List.length_map]
  refine ⟨fun i hi => ⟨h1, by omega⟩, fun i x H2 y hy hyl => ?_, fun i hi => ⟨h1, by omega⟩⟩
  obtain ⟨rfl, k, v, e, rfl⟩ := hyl
  refine ⟨fun _ _ q => q, .inl ?_⟩
  rw [← hk, List.getElem?_map, e] at hy
  cases hy
  cases k with
  | inl i => exact .int i
  | inr x => exact .str x
theorem lh_keys {i : Nat} {g : TG} {tt : TT} {te : TE} {tg : List Nat} {fc fe : En → Sto → Option (W × Sto)}
    (core : ∀ σ H Q, LH K (lcF tg false (keysF i) fc fe) σ H Q → tLc (LI K false (keysF i)) g tt te tg σ H Q) :
    ∀ σ H Q, LH K (lcF tg false (keysF i) fc fe) σ H Q → tLockE (tLc (iKeys (tVar i)) g tt te tg) σ H Q ∨ tLc (iKeys (tVar i)) g tt te tg σ H Q := by
  -- where the dict is locked
  have locked : ∀ σ H Q (d : Addr) (od : Obj) (ps : List (Key × V)), σ[i]? = some (some (.ref d)) → H d = some (.frz od (.dK ps)) → LH K (lcF tg false (keysF i) fc fe) σ H Q → tLc (iKeys (tVar i)) g tt te tg σ H Q := by
    intro σ H Q d od ps hσ hd q
    have q := core σ H Q q
    obtain ⟨r, e, S, src, S', hS, hE, hf, k⟩ := q
    unfold keysF at hf
    simp only [Option.bind_eq_bind, Option.bind_eq_some_iff] at hf
    obtain ⟨w, e1, hf⟩ := hf
    split at hf
    · next kvs =>
      cases hf
      obtain ⟨v, h1, h2⟩ := hE.2 i _ e1
      rw [hσ] at h1
      cases h1
      have h2 : Rp H r (.ref d) (.dict kvs) := h2
      obtain ⟨hno, qs, ha, hk⟩ := dic_parts h2
      have : qs = ps := by
        rcases ha with ha | ⟨o, ha⟩
        · rw [hd] at ha; cases ha
        · rw [hd] at ha; cases ha; rfl
      subst this
      refine ⟨_, hσ, d, od, rfl, .inl ⟨qs, hd, k r _ H (Gr.refl _ _) hS (wk_keys hd hno.1 hk)⟩⟩
    · cases hf
  intro σ H Q q
  obtain ⟨r, e, S, ds, S', hS, hE, hf, k⟩ := id q
  have hf0 := hf
  unfold lcF at hf
  simp only [Option.bind_eq_bind] at hf
  rw [Option.bind_eq_some_iff] at hf
  obtain ⟨⟨src, S1⟩, e1, hf⟩ := hf
  unfold keysF at e1
  simp only [Option.bind_eq_bind, Option.bind_eq_some_iff] at e1
  obtain ⟨w, e1, e2⟩ := e1
  split at e2
  rotate_left
  · cases e2
  next kvs =>
  obtain ⟨v, h1, h2⟩ := hE.2 i _ e1
  have h2 : Rp H r v (.dict kvs) := h2
  obtain ⟨a, rfl⟩ := dic_ref h2
  obtain ⟨hno, ps, ha, hk⟩ := dic_parts h2
  rcases ha with ha | ⟨o, ha⟩
  rotate_left
  · exact .inr (locked σ H Q a o ps h1 ha q)
  refine .inl ⟨a, .dK ps, ha, trivial, fun od => locked σ _ _ a od ps h1 upd_same ?_⟩
  have T := Tr.lock (od := od) ha
  refine ⟨r, e, S, ds, S', hS.tr T hno.1, hE.tr T, hf0, fun r1 H1 S1 r' H' D acc g1 hS1 hD g2 hS2 hDa hR => ?_⟩
  have hl1 := g1.keep a _ upd_same hno.1
  have hl2 := g2.keep a _ hl1.1 hl1.2
  have hDa' : D ≠ a := fun e => by rw [e, hl1.1] at hD; cases hD
  refine ⟨hl2.1, k r1 (upd H1 a (.dK ps)) S1 r' (upd H' a (.dK ps)) D acc (g1.lock ha) (hS1.tr (Tr.unlock hl1.1) hl1.2) (by rw [upd_ne hDa']; exact hD) (g2.unl hl1.1 hl1.2) (hS2.tr (Tr.unlock hl2.1) ?_) (by rw [upd_ne hDa']; exact hDa) (hR.tr (Tr.unlock hl2.1))⟩
  exact hl2.2
end
end Pl


namespace Pl
open PySem PySem.Spec PyProof.Rows L2
def ItzM3 (K : PySem.W.Frag) (b1 b2 b3 : Bool) (a b c : Addr) (xs ys zs : List V) : It :=
  ⟨fun i H => (SqB K b1 H a xs ∧ SqB K b2 H b ys ∧ SqB K b3 H c zs) ∧ i < xs.length ∧ i < ys.length ∧ i < zs.length,
    fun i H v H' => ∃ T x y z, v = .ref T ∧ H T = none ∧ H' = upd H T (.tup [x, y, z]) ∧ xs[i]? = some x ∧ ys[i]? = some y ∧ zs[i]? = some z,
    fun i H => (SqB K b1 H a xs ∧ SqB K b2 H b ys ∧ SqB K b3 H c zs) ∧ (xs.length ≤ i ∨ ys.length ≤ i ∨ zs.length ≤ i)⟩
theorem turn_zipM3 {P : Program} {w : World} {K : PySem.W.Frag} {elts : List Expr} {kk : Nat} {tpos : Pos} {b1 b2 b3 : Bool} {a b c z TI TO i1 i2 i3 : Addr} {xs ys zs : List V} (D : ZipSep3 z TI TO i1 i2 i3 [i1, a] [i2, b] [i3, c]) (ha : a ≠ i1) (hb : b ≠ i2) (hc3 : c ≠ i3) :
    Turn P w K (.Tuple elts kk tpos) (ItzM3 K b1 b2 b3 a b c xs ys zs) [z, TI, TO, i1, i2, i3] z (fun i h => IsZip h z TI TO .none ∧ IsTupOf3 h TI (.ref i1) (.ref i2) (.ref i3) ∧ (∃ x y u, IsTupOf3 h TO x y u) ∧ (IsIB b1 h i1 a i ∧ IsIB b2 h i2 b i ∧ IsIB b3 h i3 c i) ∧ i ≤ xs.length ∧ i ≤ ys.length ∧ i ≤ zs.length) where
  mem := by simp
  obj := fun i h st c hc => by
    obtain ⟨hz, hTI, ⟨x, y, u, hTO⟩, ⟨h1, h2, h3⟩, _⟩ := st
    have e' : c = z ∨ c = TI ∨ c = TO ∨ c = i1 ∨ c = i2 ∨ c = i3 := by simpa using hc
    rcases e' with q | q | q | q | q | q
    · rw [q]; exact ⟨_, hz, fun v q => nomatch q⟩
    · rw [q]; exact ⟨_, hTI, fun v q => nomatch q⟩
    · rw [q]; exact ⟨_, hTO, fun v q => nomatch q⟩
    · rw [q]; exact isIB_obj h1
    · rw [q]; exact isIB_obj h2
    · rw [q]; exact isIB_obj h3
  keep := fun i h h' st k => by
    obtain ⟨hz, hTI, ⟨x, y, u, hTO⟩, ⟨h1, h2, h3⟩, h4⟩ := st
    exact ⟨k z (by simp) _ hz, k TI (by simp) _ hTI, ⟨x, y, u, k TO (by simp) _ hTO⟩, ⟨isIB_at (fun o q => k i1 (by simp) o q) h1, isIB_at (fun o q => k i2 (by simp) o q) h2, isIB_at (fun o q => k i3 (by simp) o q) h3⟩, h4⟩
  item := by
    intro X hP hw hK hc i pins s σ H E I hf st hg
    subst hP hw hK
    obtain ⟨hz, hTI, ⟨x0, y0, u0, hTO⟩, ⟨h1, h2, h3⟩, _⟩ := st
    obtain ⟨⟨hqx, hqy, hqz⟩, hix, hiy, hiz⟩ := hg
    obtain ⟨its, rv, p, _⟩ := seq_sqb I hqx
    obtain ⟨its2, rv2, p2, _⟩ := seq_sqb I hqy
    obtain ⟨its3, rv3, p3, _⟩ := seq_sqb I hqz
    have l1 := rv.length
    have l2 := rv2.length
    have l3 := rv3.length
    have hx : xs[i]? = some xs[i] := List.getElem?_eq_getElem hix
    have hy : ys[i]? = some ys[i] := List.getElem?_eq_getElem hiy
    have hzz : zs[i]? = some zs[i] := List.getElem?_eq_getElem hiz
    obtain ⟨u, hu, ru⟩ := rv.get hx
    obtain ⟨u2, hu2, ru2⟩ := rv2.get hy
    obtain ⟨u3, hu3, ru3⟩ := rv3.get hzz
    have hzl : z < s.heap.objs.size := Heap.lt_size hz
    refine wpAny_pyNext_zipD3_item D (drawsB (A := X.A.in1) (show X.A.in1.handled = none from I.ok.hd hc) i1 a ha its.toArray b1) (drawsB (A := X.A.in1) (show X.A.in1.handled = none from I.ok.hd hc) i2 b hb its2.toArray b2) (drawsB (A := X.A.in1) (show X.A.in1.handled = none from I.ok.hd hc) i3 c hc3 its3.toArray b3) hz hTI hTO ⟨h1, p⟩ ⟨h2, p2⟩ ⟨h3, p3⟩ (by simp; omega) (by simp; omega) (by simp; omega) fun x1 x2 x3 h' tk y1 y2 y3 z' TO' s1 s2 s3 hT hsz hk => ?_
    have e1 : x1 = u := by
      have y1 : its.toArray[i]? = some x1 := y1
      rw [List.getElem?_toArray, hu] at y1
      exact (Option.some.inj y1).symm
    have e2 : x2 = u2 := by
      have y2 : its2.toArray[i]? = some x2 := y2
      rw [List.getElem?_toArray, hu2] at y2
      exact (Option.some.inj y2).symm
    have e3 : x3 = u3 := by
      have y3 : its3.toArray[i]? = some x3 := y3
      rw [List.getElem?_toArray, hu3] at y3
      exact (Option.some.inj y3).symm
    subst e1 e2 e3
    refine ⟨_, rfl, wpAny_letOwnedTupleGo_zip (s := { s with heap := h', toks := tk }) z' fun h'' z'' sb => ?_⟩
    have hT2 : h''.get? s.heap.objs.size = some { cls := .type "tuple", data := .seq #[x1, x2, x3] } := (sb.2 _ (Nat.ne_of_gt hzl)).trans hT
    have new : ObjOk X.prog X.w (upd H s.heap.objs.size (.tup [xs[i], ys[i], zs[i]])) h'' s.heap.objs.size (.tup [xs[i], ys[i], zs[i]]) :=
      ⟨by show 3 ≤ sizeLine; decide, [x1, x2, x3], .cons ru (.cons ru2 (.cons ru3 .nil)), ⟨_, hT2, rfl, _, rfl⟩⟩
    have I1 : Inv X pins σ (upd H s.heap.objs.size (.tup [xs[i], ys[i], zs[i]])) { s with heap := h'', toks := tk } :=
      I.turnedNew (t' := tk) (ch := [z, TI, TO, i1, i2, i3]) (fun c o hb q => (sb.2 c (fun q' => hb (by simp [q']))).trans (hk c o (fun q' => hb (by simp [q'])) (fun q' => hb (by simp [q'])) (fun q' => hb (by simp [q'])) (fun q' => hb (by simp [q'])) (fun q' => hb (by simp [q'])) q)) hf (Nat.le_refl _) new
    refine ⟨.ref s.heap.objs.size, _, I1, rfl, ⟨_, _, _, _, rfl, I.hok.fresh (Nat.le_refl _), rfl, hx, hy, hzz⟩, ⟨z'', ?_, ⟨x1, x2, x3, ?_⟩, ⟨?_, ?_, ?_⟩, hix, hiy, hiz⟩, fun c hcm => ?_⟩
    · exact (sb.2 _ D.TIz).trans (hk _ _ D.TIz D.TITO D.TIi1 D.TIi2 D.TIi3 hTI)
    · exact (sb.2 _ D.TOz).trans TO'
    · exact isIB_at (fun o q => (sb.2 _ D.zi1.symm).trans q) s1.1
    · exact isIB_at (fun o q => (sb.2 _ D.zi2.symm).trans q) s2.1
    · exact isIB_at (fun o q => (sb.2 _ D.zi3.symm).trans q) s3.1
    · have hlt : c < s.heap.objs.size := by
        have e' : c = z ∨ c = TI ∨ c = TO ∨ c = i1 ∨ c = i2 ∨ c = i3 := by simpa using hcm
        rcases e' with q | q | q | q | q | q
        · rw [q]; exact hzl
        · rw [q]; exact Heap.lt_size hTI
        · rw [q]; exact Heap.lt_size hTO
        · rw [q]; obtain ⟨_, e1, _⟩ := isIB_obj h1; exact Heap.lt_size e1
        · rw [q]; obtain ⟨_, e2, _⟩ := isIB_obj h2; exact Heap.lt_size e2
        · rw [q]; obtain ⟨_, e3, _⟩ := isIB_obj h3; exact Heap.lt_size e3
      rw [upd_ne (Nat.ne_of_lt hlt)]
      exact (hf c hcm).1
  done := by
    intro X hP hw hK hc i pins s σ H E I hf st hg
    subst hP hw hK
    obtain ⟨hz, hTI, ⟨x0, y0, u0, hTO⟩, ⟨h1, h2, h3⟩, hix, hiy, hiz⟩ := st
    obtain ⟨⟨hqx, hqy, hqz⟩, hend⟩ := hg
    obtain ⟨its, rv, p, _⟩ := seq_sqb I hqx
    obtain ⟨its2, rv2, p2, _⟩ := seq_sqb I hqy
    obtain ⟨its3, rv3, p3, _⟩ := seq_sqb I hqz
    have l1 := rv.length
    have l2 := rv2.length
    have l3 := rv3.length
    exact wpAny_pyNext_zipD3_end D (drawsB (A := X.A.in1) (show X.A.in1.handled = none from I.ok.hd hc) i1 a ha its.toArray b1) (drawsB (A := X.A.in1) (show X.A.in1.handled = none from I.ok.hd hc) i2 b hb its2.toArray b2) (drawsB (A := X.A.in1) (show X.A.in1.handled = none from I.ok.hd hc) i3 c hc3 its3.toArray b3) hz hTI hTO ⟨h1, p⟩ ⟨h2, p2⟩ ⟨h3, p3⟩ (by simp; omega) (by simp; omega) (by simp; omega) (by simp; omega) fun h' tk hk => ⟨rfl, I.turnedL (t' := tk) (ch := [z, TI, TO, i1, i2, i3]) (fun c o hb q =>
      hk c o (fun q' => hb (by simp [q'])) (fun q' => hb (by simp [q'])) (fun q' => hb (by simp [q'])) (fun q' => hb (by simp [q'])) (fun q' => hb (by simp [q'])) q) hf⟩
  self := fun A i s Q E st h => wpAny_pyIter_zip st.1 h
def iZipM3 (K : PySem.W.Frag) (ta : TA) : TI := fun σ H R => ta σ H fun vs H1 => ∃ b1 b2 b3 a b c xs ys zs, vs = [.ref a, .ref b, .ref c] ∧ SqB K b1 H1 a xs ∧ SqB K b2 H1 b ys ∧ SqB K b3 H1 c zs ∧ R (ItzM3 K b1 b2 b3 a b c xs ys zs) H1
theorem pi_zipM3 {X : Cx} {e e2 e3 : Expr} {ta : TA} {p pos tpos : Pos} {elts : List Expr} {kk : Nat} (hg : Gl X "zip") (hm : X.mg "zip" = none) (ha : PA X [e, e2, e3] ta)
    (hs : starEach [e, e2, e3] X.env = (false, eval e X.env) :: starEach [e2, e3] X.env) (hpl : (backTo pos (starEach [e2, e3] X.env)).any (·.1) = false) :
    PI X (.Tuple elts kk tpos) (.Call (.Name "zip" p) [e, e2, e3] [] pos) (iZipM3 X.K ta) := by
  refine ⟨fun pins s σ H R I h => ?_⟩
  refine Call_ (ld_blt I hg hm PyProof.Rows.boot_zip (PyProof.Rows.callWith_type1 (thn (ha.run pos pins s σ H _ I h) fun us s1 ⟨vs, H1, I1, r1, q1⟩ => ?_) hs hpl))
  obtain ⟨b1, b2, b3, a, b, c, xs, ys, zs, ex, hqx, hqy, hqz, q⟩ := q1
  subst ex
  cases r1 with
  | cons r rr =>
    cases rr with
    | cons r' rr =>
      cases rr with
      | cons r'' rr =>
        cases rr
        cases r
        cases r'
        cases r''
        have fresh6 : ∀ c, c ∈ [s1.heap.objs.size + 5, s1.heap.objs.size + 3, s1.heap.objs.size + 4, s1.heap.objs.size, s1.heap.objs.size + 1, s1.heap.objs.size + 2] → FpOk X pins H1 c := fun c hcm => by
          have e' : c = s1.heap.objs.size + 5 ∨ c = s1.heap.objs.size + 3 ∨ c = s1.heap.objs.size + 4 ∨ c = s1.heap.objs.size ∨ c = s1.heap.objs.size + 1 ∨ c = s1.heap.objs.size + 2 := by simpa using hcm
          have hle : s1.heap.objs.size ≤ c := by
            rcases e' with z | z | z | z | z | z
            · rw [z]; exact Nat.le_add_right _ _
            · rw [z]; exact Nat.le_add_right _ _
            · rw [z]; exact Nat.le_add_right _ _
            · rw [z]; exact Nat.le_refl _
            · rw [z]; exact Nat.le_add_right _ _
            · rw [z]; exact Nat.le_add_right _ _
          exact I1.fpOk hle (I1.hok.fresh hle)
        obtain ⟨its, rv, p1, la⟩ := seq_sqb I1 hqx
        obtain ⟨its2, rv2, p2, lb⟩ := seq_sqb I1 hqy
        obtain ⟨its3, rv3, p3, lc⟩ := seq_sqb I1 hqz
        obtain ⟨o1, B1, k1⟩ := beginsB a its.toArray b1
        obtain ⟨o2, B2, k2⟩ := beginsB b its2.toArray b2
        obtain ⟨o3, B3, k3⟩ := beginsB c its3.toArray b3
        refine zip_begins3 B1 B2 B3 p1 p2 p3 fun h' hz hTI hTO h1 h2 h3 hsz hk => wpAny_pyIter_zip hz ?_
        have I2 : Inv X pins σ H1 { s1 with heap := h' } := I1.kept (t' := s1.toks) hk
        exact ⟨s1.heap.objs.size + 5, [s1.heap.objs.size + 5, s1.heap.objs.size + 3, s1.heap.objs.size + 4, s1.heap.objs.size, s1.heap.objs.size + 1, s1.heap.objs.size + 2], _, _, H1, rfl, I2,
          turn_zipM3 (zip_sep3 (fp1 := [a]) (fp2 := [b]) (fp3 := [c]) (fun c hc => by rw [List.mem_singleton.mp hc]; exact la) (fun c hc => by rw [List.mem_singleton.mp hc]; exact lb) (fun c hc => by rw [List.mem_singleton.mp hc]; exact lc)) (Nat.ne_of_lt la) (Nat.ne_of_lt (Nat.lt_succ_of_lt lb)) (Nat.ne_of_lt (Nat.lt_succ_of_lt (Nat.lt_succ_of_lt lc))),
          ⟨hz, hTI, ⟨_, _, _, hTO⟩, ⟨k1 _ _ h1, k2 _ _ h2, k3 _ _ h3⟩, Nat.zero_le _, Nat.zero_le _, Nat.zero_le _⟩, fresh6, q⟩
theorem new_trip {H H' : Hp} {r : Rho} {T : Addr} {x y z : V} {d e f : PyData} (h : H T = none) (e' : H' = upd H T (.tup [x, y, z])) (hx : Rp H r x d) (hy : Rp H r y e) (hz : Rp H r z f) : (∀ a o, H a = some o → H' a = some o) ∧ Bz true H' r (.ref T) (.tuple [d, e, f]) := by
  subst e'
  have hs : ∀ a o, H a = some o → upd H T (.tup [x, y, z]) a = some o := fun a o q => by rw [upd_ne (ne_of_none q h)]; exact q
  exact ⟨hs, .inr ⟨rfl, T, [x, y, z], [d, e, f], rfl, rfl, upd_same, .cons (hx.gr (gr_same hs)) (.cons (hy.gr (gr_same hs)) (.cons (hz.gr (gr_same hs)) .nil))⟩⟩
variable {X : Cx}
theorem pi_zip3B {a c g : Expr} {f f2 f3 : En → Sto → Option (W × Sto)} {p pos tpos : Pos} {elts : List Expr} {kk : Nat} (hg : Gl X "zip") (hm : X.mg "zip" = none) (hs : notStar a = true) (hs2 : notStar c = true) (hs3 : notStar g = true) (h : PE X a (LE X.K f)) (h2 : PE X c (LE X.K f2)) (h3 : PE X g (LE X.K f3)) :
    PI X (.Tuple elts kk tpos) (.Call (.Name "zip" p) [a, c, g] [] pos) (LI X.K true fun e S => do
      let p ← f e S
      let q ← f2 e p.2
      let r ← f3 e q.2
      match p.1, q.1, r.1 with
      | .v d, .v e, .v f =>
        let xs ← itemsOf d
        let ys ← itemsOf e
        let zs ← itemsOf f
        some (.items (List.zipWith (fun x (y : PyData × PyData) => .tuple [x, y.1, y.2]) xs (ys.zip zs)), r.2)
      | _, _, _ => none) := by
  refine pi_imp (pi_zipM3 hg hm (pa_cons h (pa_cons h2 (pa_cons h3 pa_nil (star_cons hs3 [] X.env)) (star_cons hs2 _ X.env)) (star_cons hs _ X.env)) (star_cons hs _ X.env) (by rw [star_cons hs2, star_cons hs3]; rfl)) fun σ H R q => ?_
  obtain ⟨r, e, S, src, S', hS, hE, hf, k⟩ := q
  simp only [Option.bind_eq_bind, Option.bind_eq_some_iff] at hf
  obtain ⟨⟨w, S1⟩, e1, ⟨w2, S2⟩, e2, ⟨w3, S3⟩, e3, hf⟩ := hf
  refine ⟨r, e, S, w, S1, hS, hE, e1, fun r1 v1 H1 g1 hS1 hw1 => ⟨r1, e, S1, w2, S2, hS1, hE.gr g1, e2, fun r2 v2 H2 g2 hS2 hw2 => ⟨r2, e, S2, w3, S3, hS2, (hE.gr g1).gr g2, e3, fun r3 v3 H3 g3 hS3 hw3 => ?_⟩⟩⟩
  have hw1 := (hw1.gr g2).gr g3
  have hw2 := hw2.gr g3
  have g := (g1.trans g2).trans g3
  split at hf
  · next d d2 d3 q1 q2 q3 =>
    simp only [Option.bind_eq_some_iff] at hf
    obtain ⟨xs, x1, ys, x2, zs, x3, hf⟩ := hf
    cases hf
    cases (show w = .v d from q1)
    cases (show w2 = .v d2 from q2)
    cases (show w3 = .v d3 from q3)
    obtain ⟨a, vs, b1, rfl, a3, ka⟩ := rp_seqB (K := X.K) (show Rp H3 r3 v1 d from hw1) x1
    obtain ⟨b, us, b2, rfl, b3, kb⟩ := rp_seqB (K := X.K) (show Rp H3 r3 v2 d2 from hw2) x2
    obtain ⟨c, ws, b4, rfl, c3, kc⟩ := rp_seqB (K := X.K) (show Rp H3 r3 v3 d3 from hw3) x3
    have la := a3.length
    have lb := b3.length
    have lc := c3.length
    refine ⟨b1, b2, b4, a, b, c, vs, us, ws, rfl, ka r3 H3 (.refl _ _), kb r3 H3 (.refl _ _), kc r3 H3 (.refl _ _), k r3 _ H3 g hS3 fun r4 H4 S4 g4 hS4 => ?_⟩
    have a3' := a3.gp g4
    have b3' := b3.gp g4
    have c3' := c3.gp g4
    have a1' := ka r4 H4 g4
    have b1' := kb r4 H4 g4
    have c1' := kc r4 H4 g4
    refine ⟨fun i hi => ?_, fun i x H5 d hd hy => ?_, fun i hi => ⟨⟨a1', b1', c1'⟩, by simp at hi; omega⟩⟩
    · have hi' : i < xs.length ∧ i < ys.length ∧ i < zs.length := by simp at hi; omega
      exact ⟨⟨a1', b1', c1'⟩, by omega, by omega, by omega⟩
    · obtain ⟨x0, y0, hx, hy0, rfl⟩ := zipWith_get hd
      obtain ⟨hyy, hzz⟩ : ys[i]? = some y0.1 ∧ zs[i]? = some y0.2 := by
        obtain ⟨y1, z1, q1, q2, q3⟩ := zipWith_get (f := Prod.mk) (xs := ys) (ys := zs) (i := i) (d := y0) hy0
        subst q3
        exact ⟨q1, q2⟩
      obtain ⟨T, z, z2, z3, rfl, hT, rfl, hz, hz2, hz3⟩ := hy
      obtain ⟨v, k1, k2⟩ := a3'.get hx
      obtain ⟨u, k3, k4⟩ := b3'.get hyy
      obtain ⟨u5, k5, k6⟩ := c3'.get hzz
      rw [k1] at hz
      cases hz
      rw [k3] at hz2
      cases hz2
      rw [k5] at hz3
      cases hz3
      exact new_trip hT rfl k2 k4 k6
  · cases hf
end Pl


namespace Pl
open PySem PySem.Spec PyProof.Rows L2
def SndE (Γ : Fns) (x : Ex) (X : Cx) (e : Expr) : Prop :=
  PE X e (LEx X.K Γ x) ∧ (okT x = true → PT X e (LTx X.K Γ x) ∧ (∀ op l p, e = .BoolOp op l p → PW X e (LTx X.K Γ x))) ∧ (okF x = true → PE X e (LHx X.K Γ x))
section
variable {Γ : Fns} {c : Ctx} {X : Cx} {e : Expr} {x : Ex}
theorem SndE.pl (h : PE X e (LEx X.K Γ x)) (hp : plainT e = true) (hf : okF x = false) : SndE Γ x X e :=
  ⟨h, fun _ => ⟨pl_T h hp, fun op l p q => by subst q; cases hp⟩, fun q => by rw [hf] at q; cases q⟩
theorem SndE.plF (h : PE X e (LEx X.K Γ x)) (hp : plainT e = true) (hf : PE X e (LFx X.K Γ x)) : SndE Γ x X e :=
  ⟨h, fun _ => ⟨pl_T h hp, fun op l p q => by subst q; cases hp⟩, fun _ => pe_imp hf lh_lf⟩
theorem SndE.test (h : PE X e (LEx X.K Γ x)) (ht : okT x = true → PT X e (LTx X.K Γ x)) (hp : ∀ op l p, e ≠ .BoolOp op l p) (hf : okF x = false) : SndE Γ x X e :=
  ⟨h, fun q => ⟨ht q, fun op l p q => absurd q (hp op l p)⟩, fun q => by rw [hf] at q; cases q⟩
theorem SndE.pe (h : SndE Γ x X e) : PE X e (LEx X.K Γ x) := h.1
theorem SndE.pt (h : SndE Γ x X e) (k : okT x = true) : PT X e (LTx X.K Γ x) := (h.2.1 k).1
theorem SndE.pw {op : BoolOp} {l : List Expr} {p : Pos} (h : SndE Γ x X (.BoolOp op l p)) (k : okT x = true) : PW X (.BoolOp op l p) (LTx X.K Γ x) := (h.2.1 k).2 _ _ _ rfl
theorem conE_plain {d : PyData} (h : conE d e = true) : plainT e = true := by
  unfold conE at h
  split at h <;> first | rfl | cases h
theorem mul_F {a b : Ex} {l r : Expr} {pos : Pos} (ha : PE X l (LEx X.K Γ a)) (hb : PE X r (LEx X.K Γ b)) (op : Bo) : okF (.bin op a b) = true → PE X (.BinOp l (opB op) r pos) (LHx X.K Γ (.bin op a b)) := fun k => by
  cases op <;> first | (cases k; done) | skip
  · exact pe_imp (pl_addF ha hb) lh_lf
  · exact pe_imp (pl_mulF ha hb) lh_lf
end
variable {Γ : Fns}
/-- what is known of a part: below in the recursion -/
abbrev IhE (Γ : Fns) (x : Ex) : Prop := ∀ (c : Ctx) (X : Cx) (e : Expr), Good Γ c X → ckE x c e = true → SndE Γ x X e
abbrev IhA (Γ : Fns) (x : Exs) : Prop := ∀ (c : Ctx) (X : Cx) (es : List Expr), Good Γ c X → ckEs x c es = true → PA X es (LAx X.K Γ x)
abbrev IhI (Γ : Fns) (x : Iy) : Prop := ∀ (c : Ctx) (X : Cx) (e : Expr), Good Γ c X → ckI x c e = true →
  (∀ tg : Expr, (pairs x = true → ∃ elts kk tpos, tg = .Tuple elts kk tpos) → PI X tg e (LIx X.K Γ (pairs x) x)) ∧ (isRng x = true → PRg X e (LRz X.K Γ x))
theorem s_var (i : Nat) : IhE Γ (.var i) := by
  intro c X e G h
  rw [ckE.eq_def] at h
  dsimp only at h
  split at h
  · obtain ⟨h1, h2, h3, h4⟩ := G.vis h
    exact .pl (pl_var h1 h2 h3 h4) rfl rfl
  · cases h
theorem s_frz (i : Nat) : IhE Γ (.frz i) := by
  intro c X e G h
  rw [ckE.eq_def] at h
  dsimp only at h
  split at h
  · obtain ⟨h1, h2, h3, h4⟩ := G.vis h
    exact .pl (pl_frz h1 h2 h3 h4) rfl rfl
  · cases h
theorem s_con (d : PyData) : IhE Γ (.con d) := by
  intro c X e G h
  rw [ckE.eq_def] at h
  dsimp only at h
  exact .pl (pl_con h) (conE_plain h) rfl
theorem s_glb (x : Str) (d : PyData) : IhE Γ (.glb x d) := by
  intro c X e G h
  rw [ckE.eq_def] at h
  dsimp only at h
  split at h
  · simp only [Bool.and_eq_true, decide_eq_true_eq] at h
    obtain ⟨⟨h1, h2⟩, h3⟩ := h
    split at h3
    · next i j hl =>
      cases of_decide_eq_true h3
      obtain ⟨t, ht⟩ := G.gl _ _ hl
      obtain ⟨g1, g2⟩ := G.glob h1
      exact .pl (pl_glb (v := .int _) g1 ht ⟨t, rfl⟩ g2 fun _ _ => .int _) rfl rfl
    · cases h3
  · cases h
theorem s_bin (op : Bo) {a b : Ex} (iha : IhE Γ a) (ihb : IhE Γ b) : IhE Γ (.bin op a b) := by
  intro c X e G h
  rw [ckE.eq_def] at h
  dsimp only at h
  split at h
  · simp only [Bool.and_eq_true] at h
    obtain ⟨⟨h1, h2⟩, h3⟩ := h
    cases opOk_eq h1
    have ha := (iha c X _ G h2).pe
    have hb := (ihb c X _ G h3).pe
    exact ⟨pl_bin op ha hb, fun _ => ⟨pl_T (pl_bin op ha hb) rfl, fun _ _ _ q => nomatch q⟩, mul_F ha hb op⟩
  · cases h
theorem s_neg {a : Ex} (iha : IhE Γ a) : IhE Γ (.neg a) := by
  intro c X e G h
  rw [ckE.eq_def] at h
  dsimp only at h
  split at h
  · exact .pl (pl_neg (iha c X _ G h).pe) rfl rfl
  · cases h
theorem s_cmp (op : Co) {a b : Ex} (iha : IhE Γ a) (ihb : IhE Γ b) : IhE Γ (.cmp op a b) := by
  intro c X e G h
  rw [ckE.eq_def] at h
  dsimp only at h
  split at h
  · simp only [Bool.and_eq_true] at h
    obtain ⟨⟨⟨h1, h2⟩, h3⟩, h4⟩ := h
    cases coOk_eq h1
    have ha := (iha c X _ G h3).pe
    have hb := (ihb c X _ G h4).pe
    exact .test (pl_cmp op G.un h2 ha hb) (fun _ => pl_cmpT op G.un h2 ha hb) (fun _ _ _ q => nomatch q) rfl
  · cases h
theorem s_chain (o1 o2 : Co) {a b d : Ex} (iha : IhE Γ a) (ihb : IhE Γ b) (ihd : IhE Γ d) : IhE Γ (.chain o1 o2 a b d) := by
  intro c X e G h
  rw [ckE.eq_def] at h
  dsimp only at h
  split at h
  · simp only [Bool.and_eq_true] at h
    obtain ⟨⟨⟨⟨⟨h1, h2⟩, h3⟩, h4⟩, h5⟩, h6⟩ := h
    cases coOk_eq h1
    cases coOk_eq h2
    have ha := (iha c X _ G h4).pe
    have hb := (ihb c X _ G h5).pe
    have hd := (ihd c X _ G h6).pe
    exact .test (pl_chain o1 o2 G.un h3 ha hb hd) (fun _ => pl_chainT o1 o2 G.un h3 ha hb hd) (fun _ _ _ q => nomatch q) rfl
  · cases h
theorem s_isn (ng : Bool) {a : Ex} (iha : IhE Γ a) : IhE Γ (.isn ng a) := by
  intro c X e G h
  rw [ckE.eq_def] at h
  dsimp only at h
  split at h
  · simp only [Bool.and_eq_true] at h
    cases isOk_eq h.1
    have ha := (iha c X _ G h.2).pe
    exact .test (pl_isn ng ha) (fun _ => pl_isnT ng ha) (fun _ _ _ q => nomatch q) rfl
  · cases h
theorem s_ist (ng k : Bool) {a : Ex} (iha : IhE Γ a) : IhE Γ (.ist ng k a) := by
  intro c X e G h
  rw [ckE.eq_def] at h
  dsimp only at h
  split at h
  · simp only [Bool.and_eq_true] at h
    cases isOk_eq h.1.1
    cases eq_of_beq h.1.2
    have ha := (iha c X _ G h.2).pe
    exact .test (pl_ist ng _ ha) (fun _ => pl_istT ng _ ha) (fun _ _ _ q => nomatch q) rfl
  · cases h
theorem s_and {a b : Ex} (iha : IhE Γ a) (ihb : IhE Γ b) : IhE Γ (.and a b) := by
  intro c X e G h
  rw [ckE.eq_def] at h
  dsimp only at h
  have okT2 : okT (.and a b) = true → okT a = true ∧ okT b = true := fun k => by simpa [okT] using k
  split at h
  · next x y p =>
    simp only [Bool.and_eq_true] at h
    have ha := iha c X _ G h.1
    have hb := ihb c X _ G h.2
    have hw : ∀ k : okT (.and a b) = true, PW X (.BoolOp .And [x, y] p) (LTx X.K Γ (.and a b)) := fun k => pw_imp (pw_and (ha.pt (okT2 k).1) (pw_and1 (hb.pt (okT2 k).2))) lt_and
    exact ⟨pl_and ha.pe (pe_one hb.pe), fun k => ⟨(hw k).pt, fun _ _ _ q => by cases q; exact hw k⟩, fun k => nomatch k⟩
  · next x y z r p =>
    simp only [Bool.and_eq_true] at h
    have ha := iha c X _ G h.1
    have hb := ihb c X _ G h.2
    have hw : ∀ k : okT (.and a b) = true, PW X (.BoolOp .And (x :: y :: z :: r) p) (LTx X.K Γ (.and a b)) := fun k => pw_imp (pw_and (ha.pt (okT2 k).1) (hb.pw (okT2 k).2)) lt_and
    exact ⟨pl_and ha.pe hb.pe, fun k => ⟨(hw k).pt, fun _ _ _ q => by cases q; exact hw k⟩, fun k => nomatch k⟩
  · cases h
theorem s_or {a b : Ex} (iha : IhE Γ a) (ihb : IhE Γ b) : IhE Γ (.or a b) := by
  intro c X e G h
  rw [ckE.eq_def] at h
  dsimp only at h
  have okT2 : okT (.or a b) = true → okT a = true ∧ okT b = true := fun k => by simpa [okT] using k
  split at h
  · next x y p =>
    simp only [Bool.and_eq_true] at h
    have ha := iha c X _ G h.1
    have hb := ihb c X _ G h.2
    have hw : ∀ k : okT (.or a b) = true, PW X (.BoolOp .Or [x, y] p) (LTx X.K Γ (.or a b)) := fun k => pw_imp (pw_or (ha.pt (okT2 k).1) (pw_or1 (hb.pt (okT2 k).2))) lt_or
    exact ⟨pl_or ha.pe (pe_one hb.pe), fun k => ⟨(hw k).pt, fun _ _ _ q => by cases q; exact hw k⟩, fun k => nomatch k⟩
  · next x y z r p =>
    simp only [Bool.and_eq_true] at h
    have ha := iha c X _ G h.1
    have hb := ihb c X _ G h.2
    have hw : ∀ k : okT (.or a b) = true, PW X (.BoolOp .Or (x :: y :: z :: r) p) (LTx X.K Γ (.or a b)) := fun k => pw_imp (pw_or (ha.pt (okT2 k).1) (hb.pw (okT2 k).2)) lt_or
    exact ⟨pl_or ha.pe hb.pe, fun k => ⟨(hw k).pt, fun _ _ _ q => by cases q; exact hw k⟩, fun k => nomatch k⟩
  · cases h
theorem s_not {a : Ex} (iha : IhE Γ a) : IhE Γ (.not a) := by
  intro c X e G h
  rw [ckE.eq_def] at h
  dsimp only at h
  split at h
  · have ha := iha c X _ G h
    exact .test (pl_not ha.pe) (fun k => pl_notT (ha.pt (by simpa [okT] using k))) (fun _ _ _ q => nomatch q) rfl
  · cases h
theorem s_ife {d a b : Ex} (ihd : IhE Γ d) (iha : IhE Γ a) (ihb : IhE Γ b) : IhE Γ (.ife d a b) := by
  intro c X e G h
  rw [ckE.eq_def] at h
  dsimp only at h
  split at h
  · simp only [Bool.and_eq_true] at h
    obtain ⟨⟨⟨h1, h2⟩, h3⟩, h4⟩ := h
    exact .test (pl_ife ((ihd c X _ G h2).pt h1) (iha c X _ G h3).pe (ihb c X _ G h4).pe) (fun k => nomatch k) (fun _ _ _ q => nomatch q) rfl
  · cases h
theorem s_tup {es : Exs} (ih : IhA Γ es) : IhE Γ (.tup es) := by
  intro c X e G h
  rw [ckE.eq_def] at h
  dsimp only at h
  split at h
  · exact .pl (pl_tup (ih c X _ G h)) rfl rfl
  · cases h
theorem s_lst {es : Exs} (ih : IhA Γ es) : IhE Γ (.lst es) := by
  intro c X e G h
  rw [ckE.eq_def] at h
  dsimp only at h
  split at h
  · exact .plF (pl_lst (ih c X _ G h)) rfl (pl_lstF (ih c X _ G h))
  · cases h
theorem s_ix {a i : Ex} (iha : IhE Γ a) (ihi : IhE Γ i) : IhE Γ (.ix a i) := by
  intro c X e G h
  rw [ckE.eq_def] at h
  dsimp only at h
  split at h
  · simp only [Bool.and_eq_true] at h
    obtain ⟨⟨h1, h2⟩, h3⟩ := h
    exact .pl (pl_ix G.un h1 (iha c X _ G h2).pe (ihi c X _ G h3).pe) rfl rfl
  · cases h
theorem s_sl {a lo hi : Ex} (iha : IhE Γ a) (ihl : IhE Γ lo) (ihh : IhE Γ hi) : IhE Γ (.sl a lo hi) := by
  intro c X e G h
  rw [ckE.eq_def] at h
  dsimp only at h
  split at h
  · next l l1 h1 p1 p2 =>
    simp only [Bool.and_eq_true] at h
    obtain ⟨⟨q1, q2⟩, q3⟩ := h
    have hl : PO X l1 (LOx X.K Γ lo) := by
      cases l1 with
      | none =>
        cases lo <;> first | (cases q2; done) | skip
        exact pl_noPart
      | some x =>
        simp only [Bool.and_eq_true, Bool.not_eq_true'] at q2
        exact pl_part (ihl c X _ G q2.2).pe q2.1
    have hh : PO X h1 (LOx X.K Γ hi) := by
      cases h1 with
      | none =>
        cases hi <;> first | (cases q3; done) | skip
        exact pl_noPart
      | some x =>
        simp only [Bool.and_eq_true, Bool.not_eq_true'] at q3
        exact pl_part (ihh c X _ G q3.2).pe q3.1
    exact .pl (pl_sl (iha c X _ G q1).pe hl hh) rfl rfl
  · cases h
theorem s_rev {a : Ex} (iha : IhE Γ a) : IhE Γ (.rev a) := by
  intro c X e G h
  rw [ckE.eq_def] at h
  dsimp only at h
  split at h
  · simp only [Bool.and_eq_true, decide_eq_true_eq] at h
    obtain ⟨h1, h2⟩ := h
    subst h1
    exact .pl (pl_rev (iha c X _ G h2).pe) rfl rfl
  · cases h
theorem s_dcn (kvs : List (PyData × PyData)) : IhE Γ (.dcn kvs) := by
  intro c X e G h
  rw [ckE.eq_def] at h
  dsimp only at h
  split at h
  · exact .pl (pl_dcn h) rfl rfl
  · cases h
theorem s_dct {a : Ex} (iha : IhE Γ a) : IhE Γ (.dct a) := by
  intro c X e G h
  rw [ckE.eq_def] at h
  dsimp only at h
  split at h
  · simp only [Bool.and_eq_true, decide_eq_true_eq] at h
    obtain ⟨⟨⟨h1, h2⟩, h3⟩, h4⟩ := h
    subst h1
    obtain ⟨g1, g2, _⟩ := G.bg h2
    exact .pl (pl_dct G.calm g1 g2 h3 (iha c X _ G h4).pe) rfl rfl
  · cases h
theorem s_dnw : IhE Γ .dnw := by
  intro c X e G h
  rw [ckE.eq_def] at h
  dsimp only at h
  split at h
  · exact .pl pl_dnw rfl rfl
  · cases h
theorem s_dgt {a b : Ex} (iha : IhE Γ a) (ihb : IhE Γ b) : IhE Γ (.dgt a b) := by
  intro c X e G h
  rw [ckE.eq_def] at h
  dsimp only at h
  split at h
  · simp only [Bool.and_eq_true, decide_eq_true_eq] at h
    obtain ⟨⟨⟨⟨⟨h0, h1⟩, h2⟩, h3⟩, h4⟩, h5⟩ := h
    subst h0
    exact .pl (pl_dgt G.un h1 h2 h3 (iha c X _ G h4).pe (ihb c X _ G h5).pe) rfl rfl
  · cases h
theorem s_dgx {a b x : Ex} (iha : IhE Γ a) (ihb : IhE Γ b) (ihx : IhE Γ x) : IhE Γ (.dgx a b x) := by
  intro c X e G h
  rw [ckE.eq_def] at h
  dsimp only at h
  split at h
  · simp only [Bool.and_eq_true, decide_eq_true_eq] at h
    obtain ⟨⟨⟨⟨⟨⟨⟨h0, h1⟩, h2⟩, h3⟩, h3'⟩, h4⟩, h5⟩, h6⟩ := h
    subst h0
    exact .pl (pl_dgx G.un h1 h2 h3 h3' (iha c X _ G h4).pe (ihb c X _ G h5).pe (ihx c X _ G h6).pe) rfl rfl
  · cases h
theorem s_lset (b : Bool) {a : Ex} (iha : IhE Γ a) : IhE Γ (.lset b a) := by
  intro c X e G h
  rw [ckE.eq_def] at h
  dsimp only at h
  split at h
  · simp only [Bool.and_eq_true, decide_eq_true_eq] at h
    obtain ⟨⟨⟨⟨⟨h1, h2⟩, h3⟩, h4⟩, h5⟩, h6⟩ := h
    subst h1 h3
    obtain ⟨g1, g2, _⟩ := G.bg h2
    obtain ⟨g3, g4, _⟩ := G.bg h4
    cases b with
    | false => exact .pl (pl_lenSet g1 g2 g3 g4 G.calm h5 (iha c X _ G h6).pe) rfl rfl
    | true => exact .pl (pl_srtSet g1 g2 g3 g4 G.calm h5 (iha c X _ G h6).pe) rfl rfl
  · cases h
theorem s_call (f : Nat) {es : Exs} (ih : IhA Γ es) : IhE Γ (.call f es) := by
  intro c X e G h
  rw [ckE.eq_def] at h
  dsimp only at h
  split at h
  · next x p l p2 =>
    simp only [Bool.and_eq_true] at h
    obtain ⟨⟨⟨h1, h2⟩, h3⟩, h4⟩ := h
    split at h1
    · next y m hl =>
      simp only [Bool.and_eq_true, decide_eq_true_eq] at h1
      obtain ⟨rfl, hm⟩ := h1
      obtain ⟨g1, g2⟩ := G.glob h2
      obtain ⟨k, a, fd, ps, q1, q2, q3, q4, q5⟩ := G.fs _ _ _ hl
      cases l with
      | nil =>
        cases es with
        | nil =>
          cases hm
          exact .pl (pl_callG0 q5 q4 G.gd g1 q1 q2 q3 g2) rfl rfl
        | cons a b => (rw [ckEs.eq_def] at h4; cases h4)
      | cons a r => exact .pl (pl_callG q5 q4 G.gd g1 q1 q2 q3 hm (ih c X _ G h4) g2 h3) rfl rfl
    · cases h1
  · cases h
theorem isiB_of {b : Bl} {t : String} (h : isiN b = some t) : isiB t = some b := by
  cases b <;> cases h <;> rfl
theorem s_blt (b : Bl) {es : Exs} (ih : IhA Γ es) (ih1 : ∀ a, es = .cons a .nil → IhE Γ a) : IhE Γ (.blt b es) := by
  intro c X e G h
  rw [ckE.eq_def] at h
  dsimp only at h
  have fin : ∀ {x : Str} {p p2 : Pos} {l : Expr} {r : List Expr}, c.bg x = true → (l :: r).all notStar = true → some x = ((bltN b).map fun n => Str.ofString n.1) → ckEs es c (l :: r) = true → SndE Γ (.blt b es) X (.Call (.Name x p) (l :: r) [] p2) := by
    intro x p p2 l r h1 h2 h3 h4
    have hA := ih c X _ G h4
    refine ⟨blt_ok G h3 h1 h2 hA, fun _ => ⟨pl_T (blt_ok G h3 h1 h2 hA) rfl, fun _ _ _ q => nomatch q⟩, fun k => ?_⟩
    cases b <;> first | (cases k; done) | skip
    cases es with
    | nil => cases k
    | cons a t =>
      cases t with
      | cons _ _ => cases k
      | nil =>
        cases r with
        | cons _ _ => (rw [ckEs.eq_def] at h4; simp only [Bool.and_eq_true] at h4; obtain ⟨_, h5⟩ := h4; rw [ckEs.eq_def] at h5; cases h5)
        | nil =>
          cases h3
          obtain ⟨g1, g2, g3⟩ := G.bg h1
          simp only [List.all_cons, List.all_nil, Bool.and_true] at h2
          exact pe_imp (pl_listF g1 g2 hA h2) lh_lf
  split at h
  · simp only [Bool.and_eq_true, decide_eq_true_eq] at h
    obtain ⟨⟨⟨⟨h0, h1⟩, h2⟩, h3⟩, h4⟩ := h
    exact fin h1 (by rw [List.all_cons, h2]; rfl) h3 h4
  · split at h
    · next t hb =>
      simp only [Bool.and_eq_true, decide_eq_true_eq] at h
      obtain ⟨⟨⟨⟨h0, h1⟩, h2⟩, h3⟩, h4⟩ := h
      subst h1
      obtain ⟨g1, g2, g3⟩ := G.bg h0
      obtain ⟨k1, k2, k3⟩ := G.bg h2
      have one : ∃ a, es = .cons a .nil := by
        rw [ckEs.eq_def] at h4
        cases es with
        | nil => cases h4
        | cons a r =>
          simp only [Bool.and_eq_true] at h4
          have h5 := h4.2
          rw [ckEs.eq_def] at h5
          cases r with
          | nil => exact ⟨a, rfl⟩
          | cons _ _ => cases h5
      obtain ⟨a, rfl⟩ := one
      rw [ckEs.eq_def] at h4
      simp only [Bool.and_eq_true] at h4
      have hk : okF (.blt b (.cons a .nil)) = false := by cases b <;> first | rfl | cases hb
      exact .pl (pl_isi (isiB_of hb) h3 g1 g2 k1 k2 h4.1.1 (ih1 a rfl c X _ G h4.1.2).pe) rfl hk
    · simp only [Bool.and_eq_true, decide_eq_true_eq] at h
      obtain ⟨⟨⟨h1, h2⟩, h3⟩, h4⟩ := h
      exact fin h1 (by rw [List.all_cons, h2]; rfl) h3 h4
  · simp only [Bool.and_eq_true, decide_eq_true_eq] at h
    obtain ⟨⟨⟨⟨h0, h1⟩, h2⟩, h3⟩, h4⟩ := h
    exact fin h1 h2 h3 h4
  · cases h
theorem s_lrng (tup : Bool) {it : Iy} (ih : IhI Γ it) : IhE Γ (.lrng tup it) := by
  intro c X e G h
  rw [ckE.eq_def] at h
  dsimp only at h
  split at h
  · next x p r p2 =>
    simp only [Bool.and_eq_true, decide_eq_true_eq] at h
    obtain ⟨⟨⟨⟨h0, h1⟩, h2⟩, h3⟩, h4⟩ := h
    subst h0
    obtain ⟨g1, g2, g3⟩ := G.bg h1
    have hr := (ih c X _ G h4).2 h3
    cases tup with
    | true => exact .pl (pl_lrngT h3 G.calm g1 g2 h2 hr) rfl rfl
    | false =>
      have hf : PE X (.Call (.Name ("list" : Str) p) [r] [] p2) (LFx X.K Γ (.lrng false it)) := pl_lrngF h3 G.calm g1 g2 h2 hr
      exact .plF (pe_imp hf (lf_of lrng_val)) rfl hf
  · cases h
theorem s_idx {a b : Ex} (iha : IhE Γ a) (ihb : IhE Γ b) : IhE Γ (.idx a b) := by
  intro c X e G h
  rw [ckE.eq_def] at h
  dsimp only at h
  split at h
  · simp only [Bool.and_eq_true, decide_eq_true_eq] at h
    obtain ⟨⟨⟨⟨⟨h0, h1⟩, h2⟩, h3⟩, h4⟩, h5⟩ := h
    subst h0
    exact .pl (pl_idx G.un h1 h2 h3 (iha c X _ G h4).pe (pl_cons h3 (ihb c X _ G h5).pe pl_nil)) rfl rfl
  · cases h
theorem s_cnt {a b : Ex} (iha : IhE Γ a) (ihb : IhE Γ b) : IhE Γ (.cnt a b) := by
  intro c X e G h
  rw [ckE.eq_def] at h
  dsimp only at h
  split at h
  · simp only [Bool.and_eq_true, decide_eq_true_eq] at h
    obtain ⟨⟨⟨⟨⟨h0, h1⟩, h2⟩, h3⟩, h4⟩, h5⟩ := h
    subst h0
    exact .pl (pl_cnt G.un h1 h2 h3 (iha c X _ G h4).pe (pl_cons h3 (ihb c X _ G h5).pe pl_nil)) rfl rfl
  · cases h
theorem s_pop (i : Nat) {k : Ex} (ih : IhE Γ k) : IhE Γ (.pop i k) := by
  intro c X e G h
  rw [ckE.eq_def] at h
  dsimp only at h
  split at h
  · simp only [Bool.and_eq_true, decide_eq_true_eq] at h
    obtain ⟨⟨⟨h0, h1⟩, h2⟩, h3⟩ := h
    subst h0
    obtain ⟨q1, q2, q3, q4⟩ := G.vis h1
    cases k <;> first | (cases h3; done) | skip
    exact .pl (pl_pop0 q1 q2 q3 q4 h2) rfl rfl
  · simp only [Bool.and_eq_true, decide_eq_true_eq, Bool.not_eq_true'] at h
    obtain ⟨⟨⟨⟨⟨h0, h1⟩, h2⟩, h3⟩, h4⟩, h5⟩ := h
    subst h0
    obtain ⟨q1, q2, q3, q4⟩ := G.vis h1
    exact .pl (pl_pop q1 q2 q3 q4 h2 h4 h3 (pl_cons h4 (ih c X _ G h5).pe pl_nil)) rfl rfl
  · cases h
theorem lc_parts {elt cnd : Ex} {tg : List Nat} {many : Bool} {it : Iy} (ihe : IhE Γ elt) (ihi : IhI Γ it) (ihc : IhE Γ cnd) {c : Ctx} {X : Cx} {e : Expr} (G : Good Γ c X) (hK2 : ∀ e b, ckK c it e b = false) (h : ckE (.lc elt tg many it cnd) c e = true) :
    ∃ (e0 t iter : Expr) (ifs : List Expr) (scope : Scope) (p : Pos) (own : List (Str × Nat)) (wi : TI) (g : TG) (tt : TT) (te : TE), e = .ListComp e0 [⟨t, iter, ifs, 0⟩] scope p ∧ own.map (·.2) = tg ∧ PI X t iter wi ∧ BlkOk X.N X.env.scope scope own ∧
      (∀ (s : Shared) (H : Hp) (C : Addr) (cl : List (Str × Addr)) (fp : List Addr), PG (X.blk s H scope (compEnvC scope cl C X.env) fp) t g) ∧
      (∀ (s : Shared) (H : Hp) (C : Addr) (cl : List (Str × Addr)) (fp : List Addr), PTs (X.blk s H scope (compEnvC scope cl C X.env) fp) ifs tt) ∧
      (∀ (s : Shared) (H : Hp) (C : Addr) (cl : List (Str × Addr)) (fp : List Addr), PE (X.blk s H scope (compEnvC scope cl C X.env) fp) e0 te) ∧
      (∀ x, foldedSetIterable iter X.env x = pure x) ∧ ∀ σ H Q, LHx X.K Γ (.lc elt tg many it cnd) σ H Q → tLc wi g tt te tg σ H Q := by
  rw [ckE.eq_def] at h
  dsimp only at h
  split at h
  · next e0 t iter ifs scope p =>
    simp only [Bool.and_eq_true] at h
    obtain ⟨⟨⟨⟨⟨⟨h1, h2⟩, h3⟩, h4⟩, h5⟩, h6⟩, h7⟩ := h
    rw [hK2, Bool.false_or] at h1
    have hbm : pairs it = true → many = true := fun k => by
      rw [k] at h2
      simpa using h2
    have ok := blkOk_by h5
    rw [← G.N, ← G.sc] at ok
    have hi := (ihi c X _ G h1).1 t fun k => by
      cases hbm k
      exact tg_tuple h4
    have hT : ∀ (s : Shared) (H : Hp) (C : Addr) (cl : List (Str × Addr)) (fp : List Addr), PTs (X.blk s H scope (compEnvC scope cl C X.env) fp) ifs (LTx X.K Γ cnd) := by
      intro s H C cl fp
      have G' := G.inn s H C cl fp scope
      split at h6
      · unfold isTrueC at h6
        split at h6
        · exact pts_yes
        · cases h6
      · simp only [Bool.and_eq_true] at h6
        exact pts_one ((ihc _ _ _ G' h6.2).pt h6.1)
      · cases h6
    have hE : ∀ (s : Shared) (H : Hp) (C : Addr) (cl : List (Str × Addr)) (fp : List Addr), PE (X.blk s H scope (compEnvC scope cl C X.env) fp) e0 (LEx X.K Γ elt) := fun s H C cl fp => (ihe _ _ _ (G.inn s H C cl fp scope) h7).pe
    have hG : ∀ (s : Shared) (H : Hp) (C : Addr) (cl : List (Str × Addr)) (fp : List Addr), PG (X.blk s H scope (compEnvC scope cl C X.env) fp) t (tgG X.K tg many) := fun s H C cl fp => tg_ok (G.inn s H C cl fp scope) h4
    exact ⟨e0, t, iter, ifs, scope, p, owns c tg, LIx X.K Γ (pairs it) it, tgG X.K tg many, LTx X.K Γ cnd, LEx X.K Γ elt, rfl, owns_snd c tg, hi, ok, hG, hT, hE, folded_ok h3 X.env,
      le_lcH (fi := fun η S => evI Γ η it S) (fc := fun η S => evE Γ η cnd S) (fe := fun η S => evE Γ η elt S) (tg_tgt h4) hbm (fun _ _ _ q => q) (fun _ _ _ q => q)⟩
  · cases h
theorem lc_val {elt cnd : Ex} {tg : List Nat} {many : Bool} {it : Iy} : ∀ η S w S', evE Γ η (.lc elt tg many it cnd) S = some (w, S') → ∃ ds, w = .v (.list ds) :=
  lcF_val (fi := fun η S => evI Γ η it S) (fc := fun η S => evE Γ η cnd S) (fe := fun η S => evE Γ η elt S)
theorem ckK_keys {c : Ctx} {i : Nat} {e : Expr} {many : Bool} (h : ckK c (.keys i) e many = true) : ∃ y p, e = .Name y p ∧ c.vis i y = true ∧ many = false := by
  cases e with
  | Name y p =>
    have h : (c.vis i y && !many) = true := h
    rw [Bool.and_eq_true, Bool.not_eq_true'] at h
    exact ⟨y, p, rfl, h.1, h.2⟩
  | _ => cases h
theorem lcK_parts {elt cnd : Ex} {tg : List Nat} {many : Bool} {i : Nat} (ihe : IhE Γ elt) (ihc : IhE Γ cnd) {c : Ctx} {X : Cx} {e : Expr} (G : Good Γ c X) (h : ckE (.lc elt tg many (.keys i) cnd) c e = true) :
    ∃ (e0 t iter : Expr) (ifs : List Expr) (scope : Scope) (p : Pos) (own : List (Str × Nat)) (wi : TI) (g : TG) (tt : TT) (te : TE), e = .ListComp e0 [⟨t, iter, ifs, 0⟩] scope p ∧ own.map (·.2) = tg ∧ PI X t iter wi ∧ BlkOk X.N X.env.scope scope own ∧
      (∀ (s : Shared) (H : Hp) (C : Addr) (cl : List (Str × Addr)) (fp : List Addr), PG (X.blk s H scope (compEnvC scope cl C X.env) fp) t g) ∧
      (∀ (s : Shared) (H : Hp) (C : Addr) (cl : List (Str × Addr)) (fp : List Addr), PTs (X.blk s H scope (compEnvC scope cl C X.env) fp) ifs tt) ∧
      (∀ (s : Shared) (H : Hp) (C : Addr) (cl : List (Str × Addr)) (fp : List Addr), PE (X.blk s H scope (compEnvC scope cl C X.env) fp) e0 te) ∧
      (∀ x, foldedSetIterable iter X.env x = pure x) ∧ ∀ σ H Q, LHx X.K Γ (.lc elt tg many (.keys i) cnd) σ H Q → tLockE (tLc wi g tt te tg) σ H Q ∨ tLc wi g tt te tg σ H Q := by
  rw [ckE.eq_def] at h
  dsimp only at h
  split at h
  · next e0 t iter ifs scope p =>
    simp only [Bool.and_eq_true] at h
    obtain ⟨⟨⟨⟨⟨⟨h1, h2⟩, h3⟩, h4⟩, h5⟩, h6⟩, h7⟩ := h
    have hk : ckI (.keys i) c iter = false := by rw [ckI.eq_def]
    rw [hk, Bool.or_false] at h1
    obtain ⟨y, q, rfl, hv, rfl⟩ := ckK_keys h1
    obtain ⟨q1, q2, q3, q4⟩ := G.vis hv
    have ok := blkOk_by h5
    rw [← G.N, ← G.sc] at ok
    have hT : ∀ (s : Shared) (H : Hp) (C : Addr) (cl : List (Str × Addr)) (fp : List Addr), PTs (X.blk s H scope (compEnvC scope cl C X.env) fp) ifs (LTx X.K Γ cnd) := by
      intro s H C cl fp
      have G' := G.inn s H C cl fp scope
      split at h6
      · unfold isTrueC at h6
        split at h6
        · exact pts_yes
        · cases h6
      · simp only [Bool.and_eq_true] at h6
        exact pts_one ((ihc _ _ _ G' h6.2).pt h6.1)
      · cases h6
    have hE : ∀ (s : Shared) (H : Hp) (C : Addr) (cl : List (Str × Addr)) (fp : List Addr), PE (X.blk s H scope (compEnvC scope cl C X.env) fp) e0 (LEx X.K Γ elt) := fun s H C cl fp => (ihe _ _ _ (G.inn s H C cl fp scope) h7).pe
    have hG : ∀ (s : Shared) (H : Hp) (C : Addr) (cl : List (Str × Addr)) (fp : List Addr), PG (X.blk s H scope (compEnvC scope cl C X.env) fp) t (tgG X.K tg false) := fun s H C cl fp => tg_ok (G.inn s H C cl fp scope) h4
    exact ⟨e0, t, .Name y q, ifs, scope, p, owns c tg, iKeys (tVar i), tgG X.K tg false, LTx X.K Γ cnd, LEx X.K Γ elt, rfl, owns_snd c tg, pi_keys (td := tVar i) (pe_var q1 q2 q3 q4), ok, hG, hT, hE, folded_ok h3 X.env,
      lh_keys (le_lcH (b := false) (fi := keysF i) (fc := fun η S => evE Γ η cnd S) (fe := fun η S => evE Γ η elt S) (tg_tgt h4) (fun k => nomatch k) (fun _ _ _ q => q) (fun _ _ _ q => q))⟩
  · cases h
theorem s_lcK {elt cnd : Ex} {tg : List Nat} {many : Bool} {i : Nat} (ihe : IhE Γ elt) (ihc : IhE Γ cnd) : IhE Γ (.lc elt tg many (.keys i) cnd) := by
  intro c X e G h
  obtain ⟨e0, t, iter, ifs, scope, p, own, wi, g, tt, te, rfl, ho, hi, ok, hG, hT, hE, hs, hl⟩ := lcK_parts ihe ihc G h
  have core := pe_lc (X := X) (pos := p) (own := own) G.calm (by rw [G.N]; exact G.nod) hi ok hG hT hE hs
  rw [ho] at core
  have hg := pe_imp (pe_or (pe_lock core) core) hl
  exact ⟨pe_imp hg (lh_of lc_val), fun _ => ⟨pl_T (pe_imp hg (lh_of lc_val)) rfl, fun _ _ _ q => nomatch q⟩, fun _ => hg⟩
theorem ckK_no {c : Ctx} {it : Iy} (h : ∀ i, it ≠ .keys i) : ∀ e b, ckK c it e b = false := fun e b => by
  cases it with
  | keys i => exact absurd rfl (h i)
  | _ => rfl
theorem s_lc {elt cnd : Ex} {tg : List Nat} {many : Bool} {it : Iy} (ihe : IhE Γ elt) (ihi : IhI Γ it) (ihc : IhE Γ cnd) : IhE Γ (.lc elt tg many it cnd) := by
  by_cases hk : ∃ i, it = .keys i
  · obtain ⟨i, rfl⟩ := hk
    exact s_lcK ihe ihc
  · intro c X e G h
    obtain ⟨e0, t, iter, ifs, scope, p, own, wi, g, tt, te, rfl, ho, hi, ok, hG, hT, hE, hs, hl⟩ := lc_parts ihe ihi ihc G (ckK_no fun i e => hk ⟨i, e⟩) h
    have core := pe_lc (X := X) (pos := p) (own := own) G.calm (by rw [G.N]; exact G.nod) hi ok hG hT hE hs
    rw [ho] at core
    have hg := pe_imp core hl
    exact ⟨pe_imp hg (lh_of lc_val), fun _ => ⟨pl_T (pe_imp hg (lh_of lc_val)) rfl, fun _ _ _ q => nomatch q⟩, fun _ => hg⟩
theorem s_cell {a : Ex} (ih : IhE Γ a) : IhE Γ (.cell a) := by
  intro c X e G h
  rw [ckE.eq_def] at h
  simp only [Bool.and_eq_true] at h
  exact ⟨pl_cell ((ih c X _ G h.2).2.2 h.1), (fun (k : false = true) => nomatch k), (fun (k : false = true) => nomatch k)⟩
theorem s_seq {a : Ex} (ih : IhE Γ a) : IhI Γ (.seq a) := by
  intro c X e G h
  rw [ckI.eq_def] at h
  dsimp only at h
  exact ⟨fun tg _ => pi_seq false (ih c X _ G h).pe, fun k => nomatch k⟩
theorem s_rng1 {a : Ex} (ih : IhE Γ a) : IhI Γ (.rng1 a) := by
  intro c X e G h
  rw [ckI.eq_def] at h
  dsimp only at h
  split at h
  · simp only [Bool.and_eq_true, decide_eq_true_eq] at h
    obtain ⟨⟨⟨h0, h1⟩, h2⟩, h3⟩ := h
    subst h0
    obtain ⟨g1, g2, g3⟩ := G.bg h1
    exact ⟨fun tg _ => pi_rng1 false g1 g2 h2 (ih c X _ G h3).pe, fun _ => pl_rg1 g1 g2 h2 (ih c X _ G h3).pe⟩
  · cases h
theorem s_rng2 {a b : Ex} (iha : IhE Γ a) (ihb : IhE Γ b) : IhI Γ (.rng2 a b) := by
  intro c X e G h
  rw [ckI.eq_def] at h
  dsimp only at h
  split at h
  · simp only [Bool.and_eq_true, decide_eq_true_eq] at h
    obtain ⟨⟨⟨⟨⟨h0, h1⟩, h2⟩, h3⟩, h4⟩, h5⟩ := h
    subst h0
    obtain ⟨g1, g2, g3⟩ := G.bg h1
    exact ⟨fun tg _ => pi_rng2 false g1 g2 h2 h3 (iha c X _ G h4).pe (ihb c X _ G h5).pe, fun _ => pl_rg2 g1 g2 h2 h3 (iha c X _ G h4).pe (ihb c X _ G h5).pe⟩
  · cases h
theorem s_rngd {a b : Ex} (iha : IhE Γ a) (ihb : IhE Γ b) : IhI Γ (.rngd a b) := by
  intro c X e G h
  rw [ckI.eq_def] at h
  dsimp only at h
  split at h
  · simp only [Bool.and_eq_true, decide_eq_true_eq] at h
    obtain ⟨⟨⟨⟨⟨⟨h0, h1⟩, h2⟩, h3⟩, hi⟩, h4⟩, h5⟩ := h
    subst h0 hi
    obtain ⟨g1, g2, g3⟩ := G.bg h1
    refine ⟨fun tg _ => pi_rngd false g1 g2 h2 h3 rfl (iha c X _ G h4).pe (ihb c X _ G h5).pe ?_, fun k => nomatch k⟩
    refine pe_imp (pl_neg (Γ := Γ) (pl_con (d := .int 1) (by unfold conE; exact decide_eq_true rfl))) fun σ H Q q => ?_
    obtain ⟨r, η, S, w, S', hS, hE, e, k⟩ := q
    exact ⟨r, η, S, w, S', hS, hE, by rw [← e]; simp [evE, asInt], k⟩
  · cases h
theorem s_enum {a : Ex} (ih : IhE Γ a) : IhI Γ (.enum a) := by
  intro c X e G h
  rw [ckI.eq_def] at h
  dsimp only at h
  split at h
  · simp only [Bool.and_eq_true, decide_eq_true_eq] at h
    obtain ⟨⟨⟨h0, h1⟩, h2⟩, h3⟩ := h
    subst h0
    obtain ⟨g1, g2, g3⟩ := G.bg h1
    refine ⟨fun tg k => ?_, fun k => nomatch k⟩
    obtain ⟨elts, kk, tpos, rfl⟩ := k rfl
    exact pi_enumA g1 g2 h2 (ih c X _ G h3).pe
  · cases h
theorem s_zip {a b : Ex} (iha : IhE Γ a) (ihb : IhE Γ b) : IhI Γ (.zip a b) := by
  intro c X e G h
  rw [ckI.eq_def] at h
  dsimp only at h
  split at h
  · simp only [Bool.and_eq_true, decide_eq_true_eq] at h
    obtain ⟨⟨⟨⟨⟨h0, h1⟩, h2⟩, h3⟩, h4⟩, h5⟩ := h
    subst h0
    obtain ⟨g1, g2, g3⟩ := G.bg h1
    refine ⟨fun tg k => ?_, fun k => nomatch k⟩
    obtain ⟨elts, kk, tpos, rfl⟩ := k rfl
    exact pi_zipB g1 g2 h2 h3 (iha c X _ G h4).pe (ihb c X _ G h5).pe
  · cases h
theorem s_zip3 {a b d : Ex} (iha : IhE Γ a) (ihb : IhE Γ b) (ihd : IhE Γ d) : IhI Γ (.zip3 a b d) := by
  intro c X e G h
  rw [ckI.eq_def] at h
  dsimp only at h
  split at h
  · simp only [Bool.and_eq_true, decide_eq_true_eq] at h
    obtain ⟨⟨⟨⟨⟨⟨⟨h0, h1⟩, h2⟩, h3⟩, h3'⟩, h4⟩, h5⟩, h6⟩ := h
    subst h0
    obtain ⟨g1, g2, g3⟩ := G.bg h1
    refine ⟨fun tg k => ?_, fun k => nomatch k⟩
    obtain ⟨elts, kk, tpos, rfl⟩ := k rfl
    exact pi_zip3B g1 g2 h2 h3 h3' (iha c X _ G h4).pe (ihb c X _ G h5).pe (ihd c X _ G h6).pe
  · cases h
theorem s_keys (i : Nat) : IhI Γ (.keys i) := by
  intro c X e G h
  rw [ckI.eq_def] at h
  cases h
theorem s_nil : IhA Γ .nil := by
  intro c X es G h
  rw [ckEs.eq_def] at h
  dsimp only at h
  split at h
  · exact pl_nil
  · cases h
theorem s_cons {a : Ex} {as : Exs} (iha : IhE Γ a) (ihs : IhA Γ as) : IhA Γ (.cons a as) := by
  intro c X es G h
  rw [ckEs.eq_def] at h
  dsimp only at h
  split at h
  · simp only [Bool.and_eq_true] at h
    exact pl_cons h.1.1 (iha c X _ G h.1.2).pe (ihs c X _ G h.2)
  · cases h
theorem varsX_all : ∀ ts : List Nat, IhA Γ (varsX ts)
  | [] => s_nil
  | t :: ts => s_cons (s_var t) (varsX_all ts)
theorem ckVs_tup {c : Ctx} : ∀ {ts : List Nat} {es : List Expr}, ckVs c ts es = true → ckEs (varsX ts) c es = true
  | [], [], _ => rfl
  | [], _ :: _, h => by simp [ckVs] at h
  | _ :: _, [], h => by simp [ckVs] at h
  | t :: ts, e :: es, h => by
    unfold ckVs at h
    split at h
    · next h1 h2 => cases h1
    · next t' ts' x p es' h1 h2 =>
      cases h1
      cases h2
      rw [Bool.and_eq_true] at h
      have h3 := ckVs_tup h.2
      show (ckEs (.cons (.var t) (varsX ts)) c (.Name x p :: es)) = true
      rw [ckEs.eq_def]
      simp only [ckE, notStar, h.1, h3, Bool.and_true]
    · cases h
theorem al_of {X : Cx} {c : Ctx} (G : Good Γ c X) : ∀ {cl : List (Nat × Nat)} {gs : List Comprehension}, ckGs c cl gs = true → ∃ cs, gs = gensOf cs ∧ ∀ (pre : List (Expr × Expr)), Al X (pre ++ cs) pre.length (zsOf X.K cl)
  | [], [], _ => ⟨[], rfl, fun pre => by show (pre ++ [])[pre.length]? = none; rw [List.append_nil]; exact List.getElem?_eq_none (Nat.le_refl _)⟩
  | [], _ :: _, h => by simp [ckGs] at h
  | _ :: _, [], h => by simp [ckGs] at h
  | p :: cl, g :: gs, h => by
    unfold ckGs at h
    split at h
    · next h1 h2 => cases h1
    · next p' cl' y py x px gs' h1 h2 =>
      cases h1
      cases h2
      simp only [Bool.and_eq_true] at h
      obtain ⟨⟨h1, h2⟩, h3⟩ := h
      obtain ⟨cs, rfl, ih⟩ := al_of G h3
      refine ⟨(.Name y py, .Name x px) :: cs, rfl, fun pre => ⟨(.Name y py, .Name x px), ?_, ?_, G.own h1, folded_ok rfl X.env, ?_⟩⟩
      · rw [List.getElem?_append_right (Nat.le_refl _), Nat.sub_self]
        rfl
      · obtain ⟨q1, q2, q3, q4⟩ := G.vis h2
        exact pi_val q1 q2 q3 q4
      · have := ih (pre ++ [(.Name y py, .Name x px)])
        rw [List.append_assoc, List.length_append] at this
        exact this
    · cases h
theorem gens_of {c : Ctx} : ∀ {cl : List (Nat × Nat)} {gs : List Comprehension}, ckGs c cl gs = true → ∃ cs, gs = gensOf cs
  | [], [], _ => ⟨[], rfl⟩
  | [], _ :: _, h => by simp [ckGs] at h
  | _ :: _, [], h => by simp [ckGs] at h
  | p :: cl, g :: gs, h => by
    unfold ckGs at h
    split at h
    · next h1 h2 => cases h1
    · next p' cl' y py x px gs' h1 h2 =>
      cases h1
      cases h2
      simp only [Bool.and_eq_true] at h
      obtain ⟨cs, rfl⟩ := gens_of h.2
      exact ⟨(.Name y py, .Name x px) :: cs, rfl⟩
    · cases h
theorem s_lcp (cl : List (Nat × Nat)) : IhE Γ (.lcp cl) := by
  intro c X e G h
  rw [ckE.eq_def] at h
  dsimp only at h
  split at h
  · next es k1 k2 y py x px gs scope p =>
    simp only [Bool.and_eq_true, decide_eq_true_eq] at h
    obtain ⟨⟨⟨⟨⟨h1, h2⟩, h3⟩, h4⟩, h5⟩, h6⟩ := h
    split at h1
    · next p0 cl1 =>
      simp only [Bool.and_eq_true] at h1
      obtain ⟨⟨a1, a2⟩, a3⟩ := h1
      have ok := blkOk_by h3
      rw [← G.N, ← G.sc] at ok
      obtain ⟨q1, q2, q3, q4⟩ := G.vis a2
      have ho := owns_snd c ((p0 :: cl1).map (·.1))
      have hns : ∀ b ∈ p0 :: cl1, b.2 ∉ (p0 :: cl1).map (·.1) := fun b hb => of_decide_eq_true (List.all_eq_true.mp h6 b hb)
      obtain ⟨cs, rfl⟩ := gens_of a3
      have hz : ∀ (s : Shared) (H : Hp) (C : Addr) (cl : List (Str × Addr)) (fp : List Addr), Al (X.blk s H scope (compEnvC scope cl C X.env) fp) ((.Name y py, .Name x px) :: cs) 1 (zsOf X.K cl1) := fun s H C cl fp => by
        obtain ⟨cs', e, ih⟩ := al_of (G.inn s H C cl fp scope) a3
        have : cs = cs' := gensOf_inj e
        subst this
        exact ih [(.Name y py, .Name x px)]
      have hv : p0.1 :: (zsOf X.K cl1).map (·.2.2) = (p0 :: cl1).map (·.1) := by simp [zsOf]
      have core := pe_lcn (X := X) (pos := p) (own := owns c ((p0 :: cl1).map (·.1))) (c0 := (.Name y py, .Name x px)) (cs := cs) (elt := .Tuple es k1 k2) (v := p0.1) (zs := zsOf X.K cl1) (g := gName p0.1) (wi := LV X.K p0.2)
        (te := LE X.K fun η S => evE Γ η (.tup (varsX ((p0 :: cl1).map (·.1)))) S) G.calm (by rw [G.N]; exact G.nod) (pi_val q1 q2 q3 q4) ok (by rw [hv]; exact h4) (fun z hz => by
          rw [ho]
          obtain ⟨b, hb, rfl⟩ := List.mem_map.mp hz
          exact List.mem_map.mpr ⟨b, List.mem_cons_of_mem _ hb, rfl⟩) (by rw [ho]; exact List.mem_cons_self) (fun s H C cl fp => (G.inn s H C cl fp scope).own a1) hz
        (fun s H C cl fp => (s_tup (varsX_all _) _ _ _ (G.inn s H C cl fp scope) (by rw [ckE.eq_def]; exact ckVs_tup h2)).pe) (folded_ok rfl X.env)
      rw [ho] at core
      exact .pl (pe_imp core (le_lcp rfl h5 h4 hns)) rfl rfl
    · cases h1
  · cases h
mutual
theorem snd_e : ∀ x : Ex, IhE Γ x
  | .var i => s_var i
  | .frz i => s_frz i
  | .con d => s_con d
  | .glb x d => s_glb x d
  | .bin op a b => s_bin op (snd_e a) (snd_e b)
  | .neg a => s_neg (snd_e a)
  | .cmp op a b => s_cmp op (snd_e a) (snd_e b)
  | .chain o1 o2 a b d => s_chain o1 o2 (snd_e a) (snd_e b) (snd_e d)
  | .isn ng a => s_isn ng (snd_e a)
  | .ist ng k a => s_ist ng k (snd_e a)
  | .and a b => s_and (snd_e a) (snd_e b)
  | .or a b => s_or (snd_e a) (snd_e b)
  | .not a => s_not (snd_e a)
  | .ife d a b => s_ife (snd_e d) (snd_e a) (snd_e b)
  | .tup es => s_tup (snd_a es)
  | .lst es => s_lst (snd_a es)
  | .ix a i => s_ix (snd_e a) (snd_e i)
  | .sl a lo hi => s_sl (snd_e a) (snd_e lo) (snd_e hi)
  | .rev a => s_rev (snd_e a)
  | .dcn kvs => s_dcn kvs
  | .dct a => s_dct (snd_e a)
  | .dnw => s_dnw
  | .dgt a b => s_dgt (snd_e a) (snd_e b)
  | .dgx a b x => s_dgx (snd_e a) (snd_e b) (snd_e x)
  | .lset b a => s_lset b (snd_e a)
  | .nop => fun _ _ _ _ h => by rw [ckE.eq_def] at h; cases h
  | .call f es => s_call f (snd_a es)
  | .blt b .nil => s_blt b (snd_a .nil) (fun _ q => nomatch q)
  | .blt b (.cons a .nil) => s_blt b (s_cons (snd_e a) s_nil) (fun _ q => by cases q; exact snd_e a)
  | .blt b (.cons a (.cons a2 r)) => s_blt b (s_cons (snd_e a) (s_cons (snd_e a2) (snd_a r))) (fun _ q => nomatch q)
  | .lrng tup it => s_lrng tup (snd_i it)
  | .idx a b => s_idx (snd_e a) (snd_e b)
  | .cnt a b => s_cnt (snd_e a) (snd_e b)
  | .pop i k => s_pop i (snd_e k)
  | .lc elt tg many it cnd => s_lc (snd_e elt) (snd_i it) (snd_e cnd)
  | .lcp cl => s_lcp cl
  | .cell a => s_cell (snd_e a)
theorem snd_a : ∀ x : Exs, IhA Γ x
  | .nil => s_nil
  | .cons a as => s_cons (snd_e a) (snd_a as)
theorem snd_i : ∀ x : Iy, IhI Γ x
  | .seq a => s_seq (snd_e a)
  | .rng1 a => s_rng1 (snd_e a)
  | .rng2 a b => s_rng2 (snd_e a) (snd_e b)
  | .rngd a b => s_rngd (snd_e a) (snd_e b)
  | .enum a => s_enum (snd_e a)
  | .zip a b => s_zip (snd_e a) (snd_e b)
  | .zip3 a b d => s_zip3 (snd_e a) (snd_e b) (snd_e d)
  | .keys i => s_keys i
end
end Pl


namespace Pl
open PySem PySem.Spec PyProof.Rows L2
def swapNames (sc : Scope) (ts : List Expr) : List Str := ts.filterMap fun
  | .Name id pos => if sc.names.lookup id == some .local && pos.line == (ts.head?.map (·.pos.line)).getD 0 then some id else none
  | _ => none
def starred : Expr → Bool
  | .Starred .. => true
  | _ => false
def swapV (sc : Scope) (ts vs : List Expr) : Option (Option (List Str)) :=
  if !(ts.length == 2 || ts.length == 3) || vs.length != ts.length then some none else
  if vs.any starred then some none else
  if (swapNames sc ts).length != ts.length || (swapNames sc ts).eraseDups.length != (swapNames sc ts).length then some none else
  if vs.all (foldedForSure 8) then some none else
  if vs.all (constantsAlone 8) then none else some (some (swapNames sc ts))
theorem blockKind_of {env : Env} (h : env.scope.kind = .function) : env.blockKind = .function := by
  unfold Env.blockKind
  rw [h]
  rfl
theorem swapV_ok {env : Env} {ts vs : List Expr} {k k2 : Nat} {p p2 : Pos} {r : Option (List Str)} (hk : env.scope.kind = .function) (h : swapV env.scope ts vs = some r) : swappedStores [.Tuple ts k p] (.Tuple vs k2 p2) env = pure r := by
  unfold swapV at h
  unfold swappedStores
  simp only [blockKind_of hk]
  have e0 : ((ScopeKind.function != ScopeKind.function) : Bool) = false := rfl
  rw [e0, Bool.or_false]
  split at h
  · next h1 =>
    cases h
    rw [if_pos h1]
  · next h1 =>
    rw [if_neg h1]
    split at h
    · next h2 =>
      cases h
      exact if_pos h2
    · next h2 =>
      refine (if_neg h2).trans ?_
      split at h
      · next h3 =>
        cases h
        exact if_pos h3
      · next h3 =>
        refine (if_neg h3).trans ?_
        split at h
        · next h4 =>
          cases h
          exact if_pos h4
        · next h4 =>
          refine (if_neg h4).trans ?_
          split at h
          · cases h
          · next h5 =>
            cases h
            exact if_neg h5
def notComp : Expr → Bool
  | .ListComp _ _ _ _ => false
  | .SetComp _ _ _ _ => false
  | .DictComp _ _ _ _ _ => false
  | _ => true
theorem notComp_ok {e : Expr} (h : notComp e = true) (t : Option Expr) (n : Nat) (env : Env) : swapsWith e t n env = pure false := by
  cases e <;> first | rfl | cases h
/-- a comprehension that is stored at once -/
def swapC (sc scope : Scope) (x : Str) (px pe : Pos) : Bool := decide (sc.names.lookup x = some .local) && (px.line == pe.line) && !(scope.names.any fun (n, k) => n == x && (k == .local || k == .cell))
theorem swapC_ok {env : Env} {x : Str} {px pe : Pos} {elt : Expr} {gs : List Comprehension} {scope : Scope} (hk : env.scope.kind = .function) (n : Nat) : swapsWith (.ListComp elt gs scope pe) (some (.Name x px)) n env = pure (swapC env.scope scope x px pe) := by
  unfold swapsWith swapC
  simp only [blockKind_of hk]
  show pure _ = _
  congr 1
  have e0 : ((ScopeKind.function == ScopeKind.function) : Bool) = true := rfl
  rw [e0, Bool.true_and]
  congr 1
  congr 1
  show (env.scope.names.lookup x == some .local) = _
  by_cases h : env.scope.names.lookup x = some .local
  · rw [h]
    rfl
  · rw [decide_eq_false h]
    exact beq_eq_false_iff_ne.mpr h
structure GoodS (Γ : Fns) (c : Ctx) (X : Cx) : Prop extends Good Γ c X where
  kind : X.env.scope.kind = .function
  pass : PassesOwn (model X.prog X.w) X.A X.env X.xe
/-- the reading of a statement, a block -/
abbrev LSx (K : PySem.W.Frag) (Γ : Fns) (x : St) : TS := LS K fun η S => evS Γ x η S
abbrev LBx (K : PySem.W.Frag) (Γ : Fns) (x : Bk) : TS := LS K fun η S => evB Γ x η S
/-- .. of a store -/
def LG (K : PySem.W.Frag) (f : W → En → Sto → Option (En × Sto)) : TG := fun v σ H Q => ∃ r η S w η' S', SR S r H ∧ ER K η σ H r ∧ Rw K H r w v ∧ f w η S = some (η', S') ∧ ∀ r' σ' H', Gr r H r' H' → SR S' r' H' → ER K η' σ' H' r' → Q σ' H'
def LGs (K : PySem.W.Frag) (f : List W → En → Sto → Option (En × Sto)) : TGs := fun vs σ H Q => ∃ r η S ws η' S', SR S r H ∧ ER K η σ H r ∧ Rws K H r ws vs ∧ f ws η S = some (η', S') ∧ ∀ r' σ' H', Gr r H r' H' → SR S' r' H' → ER K η' σ' H' r' → Q σ' H'
section
variable {Γ : Fns} {c : Ctx} {X : Cx} {K : PySem.W.Frag} {pos p p1 p2 : Pos} {e : Expr} {x : Ex}
theorem pg_imp {t t' : TG} (h : PG X e t) (k : ∀ v σ H Q, t' v σ H Q → t v σ H Q) : PG X e t' := ⟨fun pins s σ H v u Q I r q => h.run pins s σ H v u Q I r (k v σ H Q q)⟩
theorem pgs_imp {es : List Expr} {t t' : TGs} (h : PGs X es t) (k : ∀ v σ H Q, t' v σ H Q → t v σ H Q) : PGs X es t' := ⟨fun pins s σ H v u Q I r q => h.run pins s σ H v u Q I r (k v σ H Q q)⟩
theorem Good.own2 (G : Good Γ c X) {i : Nat} {y : Str} (h : c.own i y = true) : X.N[i]? = some y ∧ L2.Loc X.env.scope y ∧ (X.fn y = true ∨ X.env.scope.names.lookup y = some .local) := by
  unfold Ctx.own at h
  simp only [Bool.and_eq_true, Bool.or_eq_true, decide_eq_true_eq] at h
  obtain ⟨h1, h2⟩ := h
  refine ⟨by rw [G.N]; exact h1, ?_, ?_⟩
  · show X.env.scope.names.lookup y = _ ∨ X.env.scope.names.lookup y = _
    rw [G.sc]
    exact h2.imp id (·.1)
  · rw [G.sc, G.fn]
    exact h2.elim .inr fun z => .inl z.2
theorem Good.nodup (G : Good Γ c X) : X.N.Nodup := by rw [G.N]; exact G.nod
theorem sg_nm (G : Good Γ c X) {i : Nat} {y : Str} (h : c.own i y = true) : PG X (.Name y p) (LG X.K fun w η S => storeT Γ w (.nm i) η S) :=
  pg_imp (G.own h) fun v σ H Q q => by
    obtain ⟨r, η, S, w, η', S', hS, hE, hw, hf, k⟩ := q
    simp only [storeT] at hf
    split at hf
    · cases hf
      exact k r _ H (Gr.refl _ _) hS (hE.set hw)
    · cases hf
theorem sg_at (G : Good Γ c X) {i : Nat} {y : Str} {b : Expr} {ib : Ex} (h : c.vis i y = true) (hs : notSlice b = true) (hb : PE X b (LEx X.K Γ ib)) : PG X (.Subscript (.Name y p1) b p) (LG X.K fun w η S => storeT Γ w (.at i ib) η S) := by
  obtain ⟨h1, h2, h3, h4⟩ := G.vis h
  refine pg_imp (pg_sub (pl_var h1 h2 h3 h4 (Γ := Γ)) hb set_list (by intro v; cases b <;> first | rfl | cases hs)) fun v σ H Q q => ?_
  obtain ⟨r, η, S, w, η', S', hS, hE, hw, hf, k⟩ := q
  simp only [storeT, Option.bind_eq_bind, Option.bind_eq_some_iff] at hf
  obtain ⟨o, e1, ⟨wi, S1⟩, e2, j, e3, e4⟩ := hf
  have ew := asInt_of e3
  simp only at ew
  subst ew
  refine ⟨r, η, S, o, S, hS, hE, by show (lkup η i).map (·, S) = some (o, S); rw [e1]; rfl, fun r1 v1 H1 g1 hS1 hw1 => ?_⟩
  refine ⟨r1, η, S, _, S1, hS1, hE.gr g1, e2, fun r2 v2 H2 g2 hS2 hw2 => ?_⟩
  split at e4
  · next n d =>
    simp only [Option.bind_eq_some_iff] at e4
    obtain ⟨xs, e5, m, e6, e7⟩ := e4
    cases e7
    obtain ⟨a, vs, rfl, q1, q2, q3⟩ := cell_get hS2 (hw1.gr g2) e5
    obtain ⟨e6, hz⟩ := ixS_of e6
    have hv : Rp H2 r2 v d := (hw.gr g1).gr g2
    refine ⟨a, vs, j, m, rfl, rw_int hw2, q2, by rw [q3.length, ← ixN_eq]; exact e6, ?_⟩
    exact k r2 σ _ ((g1.trans g2).trans (gr_put q1)) (hS2.put q1 (q3.set hv m)) (((hE.gr g1).gr g2).gr (gr_put q1))
  · cases e4
theorem sgs_nil : PGs X [] (LGs X.K fun ws η S => storeAll Γ [] ws η S) := pgs_imp pgs_nil fun v σ H Q q => by
  obtain ⟨r, η, S, ws, η', S', hS, hE, hw, hf, k⟩ := q
  cases hw with
  | nil => cases hf; exact ⟨rfl, k r σ H (Gr.refl _ _) hS hE⟩
  | cons _ _ => cases hf
theorem asEach_cons (h : notStar e = true) (es : List Expr) (env : Env) : assignEach (e :: es) env = (false, assign e env) :: assignEach es env := by
  cases e <;> first | rfl | cases h
theorem sgs_cons {es : List Expr} {t : Tg} {ts : List Tg} (hns : notStar e = true) (h : PG X e (LG X.K fun w η S => storeT Γ w t η S)) (hs : PGs X es (LGs X.K fun ws η S => storeAll Γ ts ws η S)) : PGs X (e :: es) (LGs X.K fun ws η S => storeAll Γ (t :: ts) ws η S) :=
  pgs_imp (pgs_cons h hs (by rw [asEach_cons hns]; rfl)) fun v σ H Q q => by
    obtain ⟨r, η, S, ws, η', S', hS, hE, hw, hf, k⟩ := q
    cases hw with
    | nil => cases hf
    | @cons w v ws vs a b =>
      simp only [storeAll, Option.bind_eq_bind, Option.bind_eq_some_iff] at hf
      obtain ⟨⟨η1, S1⟩, e1, e2⟩ := hf
      exact ⟨v, vs, rfl, r, η, S, w, η1, S1, hS, hE, a, e1, fun r1 σ1 H1 g1 hS1 hE1 => ⟨r1, η1, S1, ws, η', S', hS1, hE1, b.gr g1, e2, fun r2 σ2 H2 g2 => k r2 σ2 H2 (g1.trans g2)⟩⟩
theorem st_pass : PS X (.Pass pos) (LSx X.K Γ .pass) := ps_imp ps_pass fun D σ H q => by
  obtain ⟨r, η, S, o, hS, hE, e, k⟩ := q
  cases e
  exact k r σ H (Gr.refl _ _) hS hE
theorem st_brk : PS X (.Break pos) (LSx X.K Γ .brk) := ps_imp ps_break fun D σ H q => by
  obtain ⟨r, η, S, o, hS, hE, e, k⟩ := q
  cases e
  exact k r σ H (Gr.refl _ _) hS hE
theorem st_cont : PS X (.Continue pos) (LSx X.K Γ .cont) := ps_imp ps_continue fun D σ H q => by
  obtain ⟨r, η, S, o, hS, hE, e, k⟩ := q
  cases e
  exact k r σ H (Gr.refl _ _) hS hE
theorem st_retN : PS X (.Return none pos) (LSx X.K Γ .retN) := ps_imp ps_retN fun D σ H q => by
  obtain ⟨r, η, S, o, hS, hE, e, k⟩ := q
  cases e
  exact k r .non H (Gr.refl _ _) hS .non
theorem st_ret (h : PE X e (LEx X.K Γ x)) : PS X (.Return (some e) pos) (LSx X.K Γ (.ret x)) := ps_imp (ps_ret h) fun D σ H q => by
  obtain ⟨r, η, S, o, hS, hE, e, k⟩ := q
  simp only [evS, Option.bind_eq_bind, Option.bind_eq_some_iff] at e
  obtain ⟨⟨w, S1⟩, e1, e2⟩ := e
  cases e2
  exact ⟨r, η, S, w, S1, hS, hE, e1, fun r' v H' g hS' hw => k r' v H' g hS' hw⟩
theorem st_exp (hn : notComp e = true) (h : PE X e (LEx X.K Γ x)) : PS X (.Expr e pos) (LSx X.K Γ (.exp x)) := ps_imp (ps_expr h (notComp_ok hn _ _ _)) fun D σ H q => by
  obtain ⟨r, η, S, o, hS, hE, e, k⟩ := q
  simp only [evS, Option.bind_eq_bind, Option.bind_eq_some_iff] at e
  obtain ⟨⟨w, S1⟩, e1, e2⟩ := e
  cases e2
  exact ⟨r, η, S, w, S1, hS, hE, e1, fun r' v H' g hS' hw => k r' σ H' g hS' (hE.gr g)⟩
theorem le_asg {i : Nat} : ∀ D σ H, LSx K Γ (.asg i x) D σ H → tAsg (LEx K Γ x) (gName i) D σ H := fun D σ H q => by
  obtain ⟨r, η, S, o, hS, hE, e, k⟩ := q
  simp only [evS, storeT, Option.bind_eq_bind, Option.bind_eq_some_iff] at e
  obtain ⟨⟨w, S1⟩, e1, ⟨η1, S2⟩, e2, e3⟩ := e
  cases e3
  split at e2
  · cases e2
    exact ⟨r, η, S, w, S1, hS, hE, e1, fun r' v H' g hS' hw => k r' _ H' g hS' ((hE.gr g).set hw)⟩
  · cases e2
theorem st_asg (G : GoodS Γ c X) {i : Nat} {y : Str} (ho : c.own i y = true) (hn : swapsWith e (some (.Name y p)) pos.line X.env = pure false) (h : PE X e (LEx X.K Γ x)) : PS X (.Assign [.Name y p] e pos) (LSx X.K Γ (.asg i x)) := by
  obtain ⟨h1, h2, h3⟩ := G.own2 ho
  exact ps_imp (ps_set G.nodup h1 h2 h hn h3) le_asg
theorem st_seti (G : GoodS Γ c X) {i : Nat} {y : Str} {b : Expr} {ib : Ex} (hv : c.vis i y = true) (hs : notSlice b = true) (hb : PE X b (LEx X.K Γ ib)) (hn : notComp e = true) (h : PE X e (LEx X.K Γ x)) : PS X (.Assign [.Subscript (.Name y p1) b p] e pos) (LSx X.K Γ (.seti i ib x)) :=
  ps_imp (ps_asg h (sg_at G.toGood hv hs hb) (show swapsWith e (some (.Subscript (.Name y p1) b p)) pos.line X.env = pure false from notComp_ok hn _ _ _) (by unfold swappedStores; rfl) rfl) fun D σ H q => by
    obtain ⟨r, η, S, o, hS, hE, e, k⟩ := q
    simp only [evS, Option.bind_eq_bind, Option.bind_eq_some_iff] at e
    obtain ⟨⟨w, S1⟩, e1, ⟨η1, S2⟩, e2, e3⟩ := e
    cases e3
    exact ⟨r, η, S, w, S1, hS, hE, e1, fun r' v H' g hS' hw => ⟨r', η, S1, w, η1, S2, hS', hE.gr g, hw, e2, fun r2 σ2 H2 g2 => k r2 σ2 H2 (g.trans g2)⟩⟩
theorem st_aug (G : GoodS Γ c X) {i : Nat} {y : Str} {op : Bo} {o : Operator} (ho : c.own i y = true) (hop : (op = .add ∧ o = .Add) ∨ (op = .sub ∧ o = .Sub)) (h : PE X e (LEx X.K Γ x)) : PS X (.AugAssign (.Name y p) o e pos) (LSx X.K Γ (.aug i op x)) := by
  obtain ⟨h1, h2, h3⟩ := G.own2 ho
  have go : ∀ (f : Int → Int → Int), (∀ η S, evS Γ (.aug i op x) η S = (do
      let w ← lkup η i
      let p ← evE Γ η x S
      match w, p.1 with
      | .v (.int a), .v (.int b) => some (.nx (η.set i (some (.v (.int (f a b))))) p.2)
      | _, _ => none)) → ∀ D σ H, LSx X.K Γ (.aug i op x) D σ H → tAug i (LEx X.K Γ x) (ipI f) D σ H := fun f hf D σ H q => by
    obtain ⟨r, η, S, o, hS, hE, e, k⟩ := q
    have e : evS Γ (.aug i op x) η S = some o := e
    rw [hf] at e
    simp only [Option.bind_eq_bind, Option.bind_eq_some_iff] at e
    obtain ⟨w, e1, ⟨w2, S1⟩, e2, e3⟩ := e
    split at e3
    · next a b q1 =>
      cases e3
      obtain ⟨v, q2, q3⟩ := hE.2 i _ e1
      refine ⟨v, q2, r, η, S, _, S1, hS, hE, e2, fun r' v2 H' g hS' hw => ?_⟩
      have q1 : w2 = .v (.int b) := q1
      subst q1
      exact ⟨a, b, rw_int q3, rw_int hw, k r' _ H' g hS' ((hE.gr g).set (w := .v (.int (f a b))) (.int _))⟩
    · cases e3
  rcases hop with ⟨rfl, rfl⟩ | ⟨rfl, rfl⟩
  · refine ps_imp (ps_aug G.nodup h1 h2 h ip_add h3) (go (fun i j => i + j) fun η S => ?_)
    simp only [evS]
    congr 1
    funext w
    congr 1
    funext q
    obtain ⟨w2, S2⟩ := q
    cases w <;> cases w2 <;> first | rfl | skip
    next d d2 => cases d <;> cases d2 <;> rfl
    next d n => cases d <;> rfl
    next d n => cases d <;> rfl
  · refine ps_imp (ps_aug G.nodup h1 h2 h ip_sub h3) (go (fun i j => i - j) fun η S => ?_)
    simp only [evS]
    congr 1
    funext w
    congr 1
    funext q
    obtain ⟨w2, S2⟩ := q
    cases w <;> cases w2 <;> first | rfl | skip
    next d d2 => cases d <;> cases d2 <;> rfl
    next d n => cases d <;> rfl
    next d n => cases d <;> rfl
end
end Pl


namespace Pl
open PySem PySem.Spec PyProof.Rows L2
section
variable {Γ : Fns} {c : Ctx} {X : Cx} {K : PySem.W.Frag} {pos p p1 p2 apos cpos : Pos} {e : Expr} {x : Ex}
theorem storeAll_len {Γ : Fns} : ∀ {ts : List Tg} {ws : List W} {η η' : En} {S S' : Sto}, storeAll Γ ts ws η S = some (η', S') → ws.length = ts.length
  | [], [], _, _, _, _, _ => rfl
  | [], _ :: _, _, _, _, _, h => by cases h
  | _ :: _, [], _, _, _, _, h => by cases h
  | t :: ts, w :: ws, η, η', S, S', h => by
    simp only [storeAll, Option.bind_eq_bind, Option.bind_eq_some_iff] at h
    obtain ⟨⟨η1, S1⟩, e1, e2⟩ := h
    exact congrArg (· + 1) (storeAll_len e2)
theorem asEach_len : ∀ {es : List Expr}, es.all notStar = true → ∀ env : Env, (assignEach es env).length = es.length ∧ (assignEach es env).findIdx? (·.1) = none
  | [], _, _ => ⟨rfl, rfl⟩
  | e :: es, h, env => by
    rw [List.all_cons, Bool.and_eq_true] at h
    obtain ⟨h1, h2⟩ := asEach_len h.2 env
    rw [asEach_cons h.1]
    refine ⟨congrArg (· + 1) h1, ?_⟩
    rw [List.findIdx?_cons]
    simp only [Bool.false_eq_true, if_false]
    rw [h2]
    rfl
theorem st_parB (G : GoodS Γ c X) {ts : List Tg} {tes es : List Expr} {xs : Exs} {k k2 : Nat} (hl : tes.length = ts.length) (hns : tes.all notStar = true) (hlim : exsLen xs ≤ 1000) (hg : PGs X tes (LGs X.K fun ws η S => storeAll Γ ts ws η S)) (ha : PA X es (LAx X.K Γ xs))
    (hw : swappedStores [.Tuple tes k p1] (.Tuple es k2 p2) X.env = pure none) : PS X (.Assign [.Tuple tes k p1] (.Tuple es k2 p2) pos) (LSx X.K Γ (.par ts xs)) :=
  ps_imp (ps_asg (pe_tup ha) (pg_tup (n := ts.length) G.calm hg (by rw [(asEach_len hns _).1, hl]) (asEach_len hns _).2) rfl hw rfl) fun D σ H q => by
    obtain ⟨r, η, S, o, hS, hE, e, k⟩ := q
    simp only [evS, Option.bind_eq_bind, Option.bind_eq_some_iff] at e
    obtain ⟨⟨ws, S1⟩, e1, ⟨η1, S2⟩, e2, e3⟩ := e
    cases e3
    refine ⟨r, η, S, ws, S1, hS, hE, e1, fun r1 vs H1 g1 hS1 hw1 => ⟨?_, fun a ha => ?_⟩⟩
    · rw [← hw1.length, evEs_len e1, sizeLine_eq]
      exact Nat.le_trans hlim (by decide)
    · have g2 : Gr r1 H1 r1 (L2.upd H1 a (.tup vs)) := Gr.upd_new hS1 ha
      refine ⟨a, vs, rfl, .inl (.inl upd_same), by rw [← hw1.length, storeAll_len e2], r1, η, S1, ws, η1, S2, hS1.upd_new ha, (hE.gr g1).gr g2, hw1.gr g2, e2, fun r2 σ2 H2 g3 => k r2 σ2 H2 ((g1.trans g2).trans g3)⟩
theorem nm_two {i j : Nat} {ws : List W} {η η' : En} {S S' : Sto} (h : storeAll Γ [.nm i, .nm j] ws η S = some (η', S')) : ∃ w1 w2, ws = [w1, w2] ∧ η' = (η.set i (some w1)).set j (some w2) ∧ S' = S := by
  have hl := storeAll_len h
  match ws, hl with
  | [w1, w2], _ =>
    simp only [storeAll, storeT, Option.bind_eq_bind, Option.bind_eq_some_iff] at h
    obtain ⟨⟨η1, S1⟩, e1, ⟨η2, S2⟩, e2, e3⟩ := h
    cases e3
    split at e1
    · cases e1
      split at e2
      · cases e2
        exact ⟨w1, w2, rfl, rfl, rfl⟩
      · cases e2
    · cases e1
theorem nm_three {i j l : Nat} {ws : List W} {η η' : En} {S S' : Sto} (h : storeAll Γ [.nm i, .nm j, .nm l] ws η S = some (η', S')) : ∃ w1 w2 w3, ws = [w1, w2, w3] ∧ η' = ((η.set i (some w1)).set j (some w2)).set l (some w3) ∧ S' = S := by
  have hl := storeAll_len h
  match ws, hl with
  | [w1, w2, w3], _ =>
    simp only [storeAll, storeT, Option.bind_eq_bind, Option.bind_eq_some_iff] at h
    obtain ⟨⟨η1, S1⟩, e1, ⟨η2, S2⟩, e2, ⟨η3, S3⟩, e3, e4⟩ := h
    cases e4
    split at e1
    · cases e1
      split at e2
      · cases e2
        split at e3
        · cases e3
          exact ⟨w1, w2, w3, rfl, rfl, rfl⟩
        · cases e3
      · cases e2
    · cases e1
theorem rws_two {H : Hp} {r : Rho} {w1 w2 : W} {vs : List V} (h : Rws K H r [w1, w2] vs) : ∃ v1 v2, vs = [v1, v2] ∧ Rw K H r w1 v1 ∧ Rw K H r w2 v2 := by
  cases h with
  | cons a t =>
    obtain ⟨v, rfl, b⟩ := rws1 t
    exact ⟨_, _, rfl, a, b⟩
theorem rws_three {H : Hp} {r : Rho} {w1 w2 w3 : W} {vs : List V} (h : Rws K H r [w1, w2, w3] vs) : ∃ v1 v2 v3, vs = [v1, v2, v3] ∧ Rw K H r w1 v1 ∧ Rw K H r w2 v2 ∧ Rw K H r w3 v3 := by
  cases h with
  | cons a t =>
    obtain ⟨v, u, rfl, b, d⟩ := rws_two t
    exact ⟨_, _, _, rfl, a, b, d⟩
theorem st_par2 (G : GoodS Γ c X) {i j : Nat} {y z : Str} {a b : Expr} {xs : Exs} {k k2 : Nat} {py pz : Pos} (hi : X.N[i]? = some y) (hj : X.N[j]? = some z) (hij : i ≠ j) (hy : X.env.scope.names.lookup y = some .local) (hz : X.env.scope.names.lookup z = some .local) (ha : PA X [a, b] (LAx X.K Γ xs))
    (hw : swappedStores [.Tuple [.Name y py, .Name z pz] k p1] (.Tuple [a, b] k2 p2) X.env = pure (some [y, z])) : PS X (.Assign [.Tuple [.Name y py, .Name z pz] k p1] (.Tuple [a, b] k2 p2) pos) (LSx X.K Γ (.par [.nm i, .nm j] xs)) :=
  ps_imp (ps_par G.calm G.nodup hi hj hij hy hz ha hw) fun D σ H q => by
    obtain ⟨r, η, S, o, hS, hE, e, k⟩ := q
    simp only [evS, Option.bind_eq_bind, Option.bind_eq_some_iff] at e
    obtain ⟨⟨ws, S1⟩, e1, ⟨η1, S2⟩, e2, e3⟩ := e
    cases e3
    refine ⟨r, η, S, ws, S1, hS, hE, e1, fun r1 vs H1 g1 hS1 hw1 => ?_⟩
    obtain ⟨w1, w2, rfl, rfl, rfl⟩ := nm_two e2
    obtain ⟨v1, v2, rfl, q1, q2⟩ := rws_two hw1
    exact ⟨v1, v2, rfl, k r1 _ H1 g1 hS1 (((hE.gr g1).set q1).set q2)⟩
theorem st_par3 (G : GoodS Γ c X) {i j l : Nat} {y z y3 : Str} {a b d : Expr} {xs : Exs} {k k2 : Nat} {py pz p3 : Pos} (hi : X.N[i]? = some y) (hj : X.N[j]? = some z) (hl : X.N[l]? = some y3) (hij : i ≠ j) (hil : i ≠ l) (hjl : j ≠ l) (hy : X.env.scope.names.lookup y = some .local) (hz : X.env.scope.names.lookup z = some .local) (h3 : X.env.scope.names.lookup y3 = some .local) (ha : PA X [a, b, d] (LAx X.K Γ xs))
    (hw : swappedStores [.Tuple [.Name y py, .Name z pz, .Name y3 p3] k p1] (.Tuple [a, b, d] k2 p2) X.env = pure (some [y, z, y3])) : PS X (.Assign [.Tuple [.Name y py, .Name z pz, .Name y3 p3] k p1] (.Tuple [a, b, d] k2 p2) pos) (LSx X.K Γ (.par [.nm i, .nm j, .nm l] xs)) :=
  ps_imp (ps_par3 G.calm G.nodup hi hj hl hij hil hjl hy hz h3 ha hw) fun D σ H q => by
    obtain ⟨r, η, S, o, hS, hE, e, k⟩ := q
    simp only [evS, Option.bind_eq_bind, Option.bind_eq_some_iff] at e
    obtain ⟨⟨ws, S1⟩, e1, ⟨η1, S2⟩, e2, e3⟩ := e
    cases e3
    refine ⟨r, η, S, ws, S1, hS, hE, e1, fun r1 vs H1 g1 hS1 hw1 => ?_⟩
    obtain ⟨w1, w2, w3, rfl, rfl, rfl⟩ := nm_three e2
    obtain ⟨v1, v2, v3, rfl, q1, q2, q3⟩ := rws_three hw1
    exact ⟨v1, v2, v3, rfl, k r1 _ H1 g1 hS1 ((((hE.gr g1).set q1).set q2).set q3)⟩
theorem rws_vals {H : Hp} {r : Rho} : ∀ {vs : List V} {ds : List PyData}, Rps H r vs ds → Rws K H r (ds.map .v) vs
  | _, _, .nil => .nil
  | _, _, .cons h t => .cons h (rws_vals t)
def notTup : Expr → Bool
  | .Tuple _ _ _ => false
  | _ => true
theorem st_unp (G : GoodS Γ c X) {ts : List Tg} {tes : List Expr} {k : Nat} (hl : tes.length = ts.length) (hns : tes.all notStar = true) (hg : PGs X tes (LGs X.K fun ws η S => storeAll Γ ts ws η S)) (hn : notComp e = true) (ht : notTup e = true) (h : PE X e (LEx X.K Γ x)) :
    PS X (.Assign [.Tuple tes k p1] e pos) (LSx X.K Γ (.unp ts x)) :=
  ps_imp (ps_asg h (pg_tup (n := ts.length) G.calm hg (by rw [(asEach_len hns _).1, hl]) (asEach_len hns _).2) (show swapsWith e (some (.Tuple tes k p1)) pos.line X.env = pure false from notComp_ok hn _ _ _) (by unfold swappedStores; cases e <;> first | rfl | cases ht) rfl) fun D σ H q => by
    obtain ⟨r, η, S, o, hS, hE, e, k⟩ := q
    simp only [evS, Option.bind_eq_bind, Option.bind_eq_some_iff] at e
    obtain ⟨⟨w, S1⟩, e1, e2⟩ := e
    split at e2
    · next ds ew =>
      have ew : w = .v (.tuple ds) := ew
      subst ew
      simp only [Option.bind_eq_some_iff] at e2
      obtain ⟨⟨η1, S2⟩, e3, e4⟩ := e2
      cases e4
      refine ⟨r, η, S, _, S1, hS, hE, e1, fun r1 v H1 g1 hS1 hw1 => ?_⟩
      obtain ⟨a, vs, rfl, q1, q2, q3⟩ := rp_tup (Rp.rq hw1)
      refine ⟨a, vs, rfl, q1.sq, by rw [q3.length, ← storeAll_len e3, List.length_map], r1, η, S1, _, η1, S2, hS1, hE.gr g1, rws_vals q3, e3, fun r2 σ2 H2 g2 => k r2 σ2 H2 (g1.trans g2)⟩
    · cases e2
theorem st_app (G : GoodS Γ c X) {i : Nat} {y : Str} (hv : c.vis i y = true) (hl : (apos.endLine == cpos.line) = true) (hns : notStar e = true) (hA : PA X [e] (LAx X.K Γ (.cons x .nil))) :
    PS X (.Expr (.Call (.Attribute (.Name y p) "append" apos) [e] [] cpos) pos) (LSx X.K Γ (.app i x)) := by
  obtain ⟨h1, h2, h3, h4⟩ := G.vis hv
  refine ps_imp (ps_expr (pe_bmG PySem.F.plainAttrs_list PySem.F.slot_list_append PySem.F.type_list_append mt_append (pl_var h1 h2 h3 h4 (Γ := Γ)) hA rfl hl hns) rfl) fun D σ H q => ?_
  obtain ⟨r, η, S, o, hS, hE, e, k⟩ := q
  simp only [evS, Option.bind_eq_bind, Option.bind_eq_some_iff] at e
  obtain ⟨w, e1, d0, e2, ⟨w2, S1⟩, e3, e4⟩ := e
  refine ⟨r, η, S, w, S, hS, hE, by show (lkup η i).map (·, S) = some (w, S); rw [e1]; rfl, fun r1 v1 H1 g1 hS1 hw1 => ?_⟩
  split at e4
  · next n d q1 =>
    have q1 : w2 = .v d := q1
    subst q1
    simp only [Option.bind_eq_some_iff] at e4
    obtain ⟨xs, e5, e6⟩ := e4
    split at e6
    · next hlt =>
      cases e6
      obtain ⟨xs0, e9, _⟩ := deref_r e2
      obtain ⟨a, vs0, rfl, c1, c2, _⟩ := cell_get hS1 hw1 e9
      have e3' : evEs Γ η (.cons x .nil) S = some ([.v d], S1) := by
        simp only [evEs, Option.bind_eq_bind]
        rw [e3]
        rfl
      refine ⟨.inl ⟨rfl, a, vs0, rfl, c2⟩, r1, η, S, _, _, hS1, hE.gr g1, e3', fun r2 us H2 g2 hS2 hw2 => ?_⟩
      obtain ⟨u, rfl, hu⟩ := rws1 hw2
      obtain ⟨a', vs, ea, q1, q2, q3⟩ := cell_get hS2 (hw1.gr g2) e5
      cases ea
      have hu : Rp H2 r2 u d := hu
      refine ⟨a, vs, u, rfl, rfl, q2, by rw [q3.length]; exact Nat.lt_of_lt_of_le hlt lim_line, ?_⟩
      exact k r2 σ _ ((g1.trans g2).trans (gr_put q1)) (hS2.put q1 (q3.append (.cons hu .nil))) (((hE.gr g1).gr g2).gr (gr_put q1))
    · cases e6
  · cases e4
theorem any_dic : ∀ {ps : List (Key × V)} {kvs : List (PyData × PyData)} {j : Key} {kd : PyData}, ps.map (fun p => kD p.1) = kvs.map (·.1) → kO kd = some j → (ps.any fun kv => decide (kv.1 = j)) = kvs.any fun p => decide (kO p.1 = kO kd)
  | [], [], _, _, _, _ => rfl
  | [], _ :: _, _, _, e, _ => by simp at e
  | _ :: _, [], _, _, e, _ => by simp at e
  | p :: ps, q :: kvs, j, kd, e, hk => by
    simp only [List.map_cons, List.cons.injEq] at e
    have hq : kO q.1 = some p.1 := by rw [← e.1]; exact kO_kD p.1
    rw [List.any_cons, List.any_cons, any_dic e.2 hk, hq, hk]
    simp
theorem repl_dic : ∀ {ps : List (Key × V)} {kvs : List (PyData × PyData)} {j : Key} {kd x : PyData} {v : V} {H : Hp} {r : Rho}, ps.map (fun p => kD p.1) = kvs.map (·.1) → Rps H r (ps.map (·.2)) (kvs.map (·.2)) → kO kd = some j → Rp H r v x →
    (ps.map fun kv => if kv.1 = j then (kv.1, v) else kv).map (fun p => kD p.1) = (kvs.map fun p => if kO p.1 = kO kd then (p.1, x) else p).map (·.1) ∧
    Rps H r ((ps.map fun kv => if kv.1 = j then (kv.1, v) else kv).map (·.2)) ((kvs.map fun p => if kO p.1 = kO kd then (p.1, x) else p).map (·.2))
  | [], [], _, _, _, _, _, _, _, h, _, _ => ⟨rfl, h⟩
  | [], _ :: _, _, _, _, _, _, _, e, _, _, _ => by simp at e
  | _ :: _, [], _, _, _, _, _, _, e, _, _, _ => by simp at e
  | p :: ps, q :: kvs, j, kd, x, v, H, r, e, h, hk, hx => by
    simp only [List.map_cons, List.cons.injEq] at e
    have hq : kO q.1 = some p.1 := by rw [← e.1]; exact kO_kD p.1
    cases h with
    | cons h1 h2 =>
      obtain ⟨a1, a2⟩ := repl_dic (v := v) (x := x) e.2 h2 hk hx
      by_cases hj : p.1 = j
      · have hc : kO q.1 = kO kd := by rw [hq, hk, hj]
        simp only [List.map_cons, if_pos hj, if_pos hc]
        exact ⟨by rw [a1, e.1], .cons hx a2⟩
      · have hc : ¬ kO q.1 = kO kd := by rw [hq, hk]; exact fun e => hj (Option.some.inj e)
        simp only [List.map_cons, if_neg hj, if_neg hc]
        exact ⟨by rw [a1, e.1], .cons h1 a2⟩
theorem put_dic {ps : List (Key × V)} {kvs : List (PyData × PyData)} {j : Key} {kd x : PyData} {v : V} {H : Hp} {r : Rho} (h1 : ps.map (fun p => kD p.1) = kvs.map (·.1)) (h2 : Rps H r (ps.map (·.2)) (kvs.map (·.2))) (hk : kO kd = some j) (hx : Rp H r v x) :
    (putK ps j v).map (fun p => kD p.1) = (putD kvs kd x).map (·.1) ∧ Rps H r ((putK ps j v).map (·.2)) ((putD kvs kd x).map (·.2)) := by
  unfold putK putD
  rw [any_dic h1 hk]
  split
  · exact repl_dic h1 h2 hk hx
  · refine ⟨?_, ?_⟩
    · rw [List.map_append, List.map_append, h1]
      show _ ++ [kD j] = _ ++ [kd]
      rw [← kO_some hk]
    · rw [List.map_append, List.map_append]
      exact h2.append (.cons hx .nil)
theorem st_dput (G : GoodS Γ c X) {i : Nat} {y : Str} {b : Expr} {ib : Ex} (hv : c.vis i y = true) (hb : PE X b (LEx X.K Γ ib)) (hn : notComp e = true) (h : PE X e (LEx X.K Γ x)) : PS X (.Assign [.Subscript (.Name y p1) b p] e pos) (LSx X.K Γ (.dput i ib x)) := by
  obtain ⟨h1, h2, h3, h4⟩ := G.vis hv
  refine ps_imp (ps_dput (by have := G.un; omega) (pl_var h1 h2 h3 h4 (Γ := Γ)) hb h (notComp_ok hn _ _ _)) fun D σ H q => ?_
  obtain ⟨r, η, S, o, hS, hE, e, k⟩ := q
  simp only [evS, Option.bind_eq_bind, Option.bind_eq_some_iff] at e
  obtain ⟨⟨w, S1⟩, e1, w2, e2, ⟨w3, S3⟩, e3, kd, e4, j, e5, e6⟩ := e
  split at e6
  · next n d q1 =>
    have q1 : w = .v d := q1
    subst q1
    simp only [Option.bind_eq_some_iff] at e6
    obtain ⟨kvs, e7, e8⟩ := e6
    split at e8
    · next hlt =>
      cases e8
      refine ⟨r, η, S, _, S1, hS, hE, e1, fun r1 v1 H1 g1 hS1 hw1 => ⟨r1, η, S1, _, S1, hS1, hE.gr g1, by show (lkup η i).map (·, S1) = some (.r n, S1); rw [e2]; rfl, fun r2 v2 H2 g2 hS2 hw2 => ⟨r2, η, S1, w3, S3, hS2, (hE.gr g1).gr g2, e3, fun r3 v3 H3 g3 hS3 hw3 => ?_⟩⟩⟩
      obtain ⟨a, ps, q1, q2, q3, q4⟩ := hS3.dic n kvs (lookK_some e7)
      have ev : v2 = .ref a := (hw2.gr g3).2 a q1
      subst ev
      cases rq_key (deref_rq hS3 hw3 e4) e5
      have hv : Rp H3 r3 v1 d := (hw1.gr g2).gr g3
      have hl : ps.length = kvs.length := by simpa using congrArg List.length q3
      obtain ⟨a1, a2⟩ := put_dic q3 q4 e5 hv
      refine ⟨a, _, rfl, .inl ⟨ps, j, q2, rfl, by rw [hl]; exact Nat.lt_of_lt_of_le hlt lim_line, rfl⟩, ?_⟩
      have g := (g1.trans g2).trans g3
      exact k r3 σ _ (g.trans (gr_put q1)) (hS3.putC q1 ⟨_, upd_same, a1, a2.gr (gr_put q1)⟩) ((hE.gr g).gr (gr_put q1))
    · cases e8
  · cases e6
theorem ext_tup (l : Addr) (items : Array Value) (n : Nat) (b : Addr) (o : Obj) (items2 : Array Value) (n2 : Nat)
    (hs0 : ¬(!items.isEmpty && Builtin.List.listTooLong (items.size + items2.size)) = true) (hs1 : items.size ≤ sizeLine)
    (hs2 : items.size + items2.size ≤ sizeLine + 1) (oc : o.cls = .type "tuple") (od : o.data = .seq items2 n2) :
    Meets (Builtin.«list.extend» ⟨[.ref l, .ref b], []⟩) (fun _ R s => s.heap.get? l = some { cls := .type "list", dict := none, data := .seq items n, slots := #[] } ∧ s.heap.get? b = some o ∧
      R (.ok (.ret Value.none)) { s with heap := s.heap.update l (Obj.mapSeq fun x => x ++ items2), toks := s.toks }) := by
  refine .of_wp fun prog w A R s h => ?_
  obtain ⟨c0, d0, a0, s0⟩ := o
  obtain ⟨hp, gs, dr, tk, os⟩ := s
  cases oc
  cases od
  obtain ⟨hl, hb, h⟩ := h
  have q1 := AutoSeq1.idx_int
  have q2 := AutoSeq1.sub_tuple_tuple
  have q3 := AutoSeq1.sub_list_list
  have q4 := AutoSeq1.sub_tuple_list
  have q5 := AutoSeq1.sub_list_tuple
  have hz : (items ++ items2).size ≤ sizeLine + 1 := Nat.le_trans (Nat.le_of_eq Array.size_append) hs2
  wp_walk using (wpAny_updateSeq hl rfl (hz := hs1) (_hz' := hz)), AutoSeq1.wpAny_loadPart' hl, AutoSeq1.wpAny_loadPart' hb
  refine ⟨_, rfl, ?_⟩
  exact h
def rExtA (K : PySem.W.Frag) : V → List V → Hp → VK → Prop := fun x vs H Q => ∃ l b xs zs, x = .ref l ∧ vs = [.ref b] ∧ H l = some (.lst xs) ∧ (H b = some (.lst zs) ∨ SqT K H b zs) ∧
  xs.length + zs.length ≤ sizeLine ∧ Q .non (upd H l (.lst (xs ++ zs)))
theorem mt_extA : MtM X "list.extend" (rExtA X.K) := by
  intro pins s σ H x vs v us Q I rx rv h
  obtain ⟨l, b, xs, zs, ex, ev, hH, hB, hz, q⟩ := h
  rcases hB with hB | hB
  · exact mt_extend pins s σ H x vs v us Q I rx rv ⟨l, b, xs, zs, ex, ev, hH, hB, hz, q⟩
  · subst ex
    subst ev
    cases rx
    obtain ⟨u, eu, ru⟩ := rv.one
    subst eu
    cases ru
    obtain ⟨z1, its, n, r1, l1, e1⟩ := I.lstM hH
    obtain ⟨its2, r2, ⟨o2, e2, c2, n2, d2⟩, z2⟩ := I.tuple hB
    have l2 := r2.length
    have sz : its.toArray.size + its2.toArray.size ≤ sizeLine := by
      rw [List.size_toArray, List.size_toArray, ← l1, ← l2]
      exact hz
    refine call_meets F.slot_list_extend ⟨_, e1, rfl⟩ F.entry_list_extend (F.args_list_extend_2 _ _)
      (ext_tup l its.toArray n b o2 its2.toArray n2 ?_ (Nat.le_trans (Nat.le_add_right _ _) sz) (Nat.le_succ_of_le sz) c2 d2) ⟨e1, e2, ?_⟩
    · rw [notLongL sz, Bool.and_false]
      exact Bool.false_ne_true
    · refine ⟨.non, _, I.lset (its' := its ++ its2) hH e1 (by simp) (r1.append r2) ?_, rfl, q⟩
      rw [List.length_append]
      exact hz
theorem st_ext (G : GoodS Γ c X) {i : Nat} {y : Str} (hv : c.vis i y = true) (hl : (apos.endLine == cpos.line) = true) (hns : notStar e = true) (hA : PA X [e] (LAx X.K Γ (.cons x .nil))) :
    PS X (.Expr (.Call (.Attribute (.Name y p) "extend" apos) [e] [] cpos) pos) (LSx X.K Γ (.ext i x)) := by
  obtain ⟨h1, h2, h3, h4⟩ := G.vis hv
  refine ps_imp (ps_expr (pe_bmG PySem.F.plainAttrs_list PySem.F.slot_list_extend PySem.F.type_list_extend mt_extA (pl_var h1 h2 h3 h4 (Γ := Γ)) hA rfl hl hns) rfl) fun D σ H q => ?_
  obtain ⟨r, η, S, o, hS, hE, e, k⟩ := q
  simp only [evS, Option.bind_eq_bind, Option.bind_eq_some_iff] at e
  obtain ⟨w, e1, d0, e2, ⟨w2, S1⟩, e3, e4⟩ := e
  refine ⟨r, η, S, w, S, hS, hE, by show (lkup η i).map (·, S) = some (w, S); rw [e1]; rfl, fun r1 v1 H1 g1 hS1 hw1 => ?_⟩
  split at e4
  · next n d q1 =>
    have q1 : w2 = .v d := q1
    subst q1
    simp only [Option.bind_eq_some_iff] at e4
    obtain ⟨ys, e45, xs, e5, e6⟩ := e4
    split at e6
    · next hlt =>
      cases e6
      obtain ⟨xs0, e9, _⟩ := deref_r e2
      obtain ⟨a, vs0, rfl, c1, c2, _⟩ := cell_get hS1 hw1 e9
      have e3' : evEs Γ η (.cons x .nil) S = some ([.v d], S1) := by
        simp only [evEs, Option.bind_eq_bind]
        rw [e3]
        rfl
      refine ⟨.inl ⟨rfl, a, vs0, rfl, c2⟩, r1, η, S, _, _, hS1, hE.gr g1, e3', fun r2 us H2 g2 hS2 hw2 => ?_⟩
      obtain ⟨u, rfl, hu⟩ := rws1 hw2
      obtain ⟨a', vs, ea, q1, q2, q3⟩ := cell_get hS2 (hw1.gr g2) e5
      cases ea
      have hit : ∃ b us, u = .ref b ∧ (H2 b = some (.lst us) ∨ SqT X.K H2 b us) ∧ Rps H2 r2 us ys := by
        have hq : Rq H2 r2 u d := Rp.rq (show Rp H2 r2 u d from hu)
        unfold itemsOf at e45
        split at e45
        · cases e45
          obtain ⟨b, us, eu, b1, b2⟩ := rp_list hq
          exact ⟨b, us, eu, .inl b1, b2⟩
        · cases e45
          obtain ⟨b, us, eu, b1, _, b2⟩ := rp_tup hq
          exact ⟨b, us, eu, .inr b1.sq, b2⟩
        · cases e45
      obtain ⟨b, us, rfl, b1, b2⟩ := hit
      refine ⟨a, b, vs, us, rfl, rfl, q2, b1, by rw [q3.length, b2.length]; exact Nat.le_trans hlt lim_line, ?_⟩
      exact k r2 σ _ ((g1.trans g2).trans (gr_put q1)) (hS2.put q1 (q3.append b2)) (((hE.gr g1).gr g2).gr (gr_put q1))
    · cases e6
  · cases e4
theorem st_ite {a b : List Stmt} {ba bb : Bk} (hc : PT X e (LTx X.K Γ x)) (ha : PSs X a (LBx X.K Γ ba)) (hb : PSs X b (LBx X.K Γ bb)) : PS X (.If e a b pos) (LSx X.K Γ (.ite x ba bb)) :=
  ps_imp (ps_if hc ha hb) fun D σ H q => by
    obtain ⟨r, η, S, o, hS, hE, e, k⟩ := q
    simp only [evS, Option.bind_eq_bind, Option.bind_eq_some_iff] at e
    obtain ⟨⟨w, S1⟩, e1, z, e2, e3⟩ := e
    have ew := asBool_of e2
    simp only at ew
    subst ew
    refine ⟨r, η, S, z, S1, hS, hE, e1, fun r' H' g hS' => ?_⟩
    cases z with
    | true =>
      simp only [if_true] at e3 ⊢
      exact ⟨r', η, S1, o, hS', hE.gr g, e3, k.gr g⟩
    | false =>
      simp only [Bool.false_eq_true, if_false] at e3 ⊢
      exact ⟨r', η, S1, o, hS', hE.gr g, e3, k.gr g⟩
theorem sb_nil : PSs X [] (LBx X.K Γ .nil) := ls_nil
theorem sb_cons {st : Stmt} {rest : List Stmt} {s : St} {b : Bk} (h1 : PS X st (LSx X.K Γ s)) (h2 : PSs X rest (LBx X.K Γ b)) : PSs X (st :: rest) (LBx X.K Γ (.cons s b)) :=
  pss_imp (ls_cons h1 h2) fun D σ H q => by
    obtain ⟨r, η, S, o, hS, hE, e, k⟩ := q
    refine ⟨r, η, S, o, hS, hE, ?_, k⟩
    rw [← e]
    simp only [evB]
    all_goals congr 1
/-- a cell becomes a value; no statement of the text -/
theorem sb_fz {rest : List Stmt} {i : Nat} {b : Bk} (h2 : PSs X rest (LBx X.K Γ b)) : PSs X rest (LBx X.K Γ (.cons (.fz i) b)) :=
  pss_imp h2 fun D σ H q => by
    obtain ⟨r, η, S, o, hS, hE, e, k⟩ := q
    simp only [evB, evS, Option.bind_eq_bind, Option.bind_eq_some_iff] at e
    obtain ⟨o1, ⟨w, e1, e2⟩, e3⟩ := e
    cases w with
    | r n =>
      simp only [Option.bind_eq_some_iff] at e2
      obtain ⟨xs, e4, e5⟩ := e2
      cases e5
      obtain ⟨v, h1, h3⟩ := hE.2 i _ e1
      obtain ⟨a, q1, q2⟩ := hS.gone_val (look_some e4)
      have := h3.2 a q1
      subst this
      have hE' := (hE.gr (gr_gone (n := n))).set (i := i) (w := .v (.list xs)) (v := .ref a) q2
      have es : σ.set i (some (.ref a)) = σ := by
        refine List.ext_getElem? fun j => ?_
        rw [List.getElem?_set]
        split
        · next hij =>
          subst hij
          split
          · exact h1.symm
          · next hlt =>
            have := (List.getElem?_eq_some_iff.mp h1).1
            exact absurd this hlt
        · rfl
      rw [es] at hE'
      exact ⟨r.kill n, _, _, o, hS.gone, hE', e3, k.gr gr_gone⟩
    | v d => cases e2
    | s ns => cases e2
end
end Pl


namespace Pl
open PySem PySem.Spec PyProof.Rows L2
def isList : Ex → Bool
  | .lc _ _ _ _ _ => true
  | .cell _ => true
  | _ => false
def isLc : Ex → Bool
  | .lc _ _ _ _ _ => true
  | .cell (.lc _ _ _ _ _) => true
  | _ => false
def ckTg1 (c : Ctx) : Tg → Expr → Bool
  | .nm i, e => match e with
    | .Name x _ => c.own i x
    | _ => false
  | .at i a, e => match e with
    | .Subscript (.Name x _) b _ => c.vis i x && notSlice b && ckE a c b
    | _ => false
  | .tp is, e => match e with
    | .Tuple es _ _ => ckNames c is es
    | _ => false
def ckTgs (c : Ctx) : List Tg → List Expr → Bool
  | [], [] => true
  | t :: ts, e :: es => notStar e && ckTg1 c t e && ckTgs c ts es
  | _, _ => false
def loc (c : Ctx) (i : Nat) (x : Str) : Bool := decide (c.N[i]? = some x) && decide (c.sc.names.lookup x = some .local)
/-- `x = e`: by the kind of e -/
def ckSwap (c : Ctx) (x : Str) (px : Pos) (e : Expr) : Bool := match e with
  | .ListComp _ _ scope pe => !(swapC c.sc scope x px pe)
  | _ => notComp e
mutual
def ckS : St → Ctx → Stmt → Bool
  | .pass, _, s => match s with
    | .Pass _ => true
    | _ => false
  | .fz _, _, _ => false
  | .asg i x, c, s => match s with
    | .Assign [.Name y p] e _ => c.own i y && ckE x c e && (ckSwap c y p e || (loc c i y && isLc x))
    | _ => false
  | .par ts xs, c, s => match s with
    | .Assign [.Tuple tes _ _] (.Tuple es _ _) _ => ckEs xs c es && (match swapV c.sc tes es with
      | some none => decide (tes.length = ts.length) && tes.all notStar && decide (exsLen xs ≤ 1000) && ckTgs c ts tes
      | some (some ns) => (match ts, tes, es with
        | [.nm i, .nm j], [.Name y _, .Name z _], [_, _] => decide (ns = [y, z]) && decide (i ≠ j) && loc c i y && loc c j z
        | [.nm i, .nm j, .nm l], [.Name y _, .Name z _, .Name w _], [_, _, _] => decide (ns = [y, z, w]) && decide (i ≠ j) && decide (i ≠ l) && decide (j ≠ l) && loc c i y && loc c j z && loc c l w
        | _, _, _ => false)
      | none => false)
    | _ => false
  | .unp ts x, c, s => match s with
    | .Assign [.Tuple tes _ _] e _ => decide (tes.length = ts.length) && tes.all notStar && ckTgs c ts tes && notComp e && notTup e && ckE x c e
    | _ => false
  | .seti i ix x, c, s => match s with
    | .Assign [.Subscript (.Name y _) b _] e _ => c.vis i y && notSlice b && ckE ix c b && notComp e && ckE x c e
    | _ => false
  | .dput i ix x, c, s => match s with
    | .Assign [.Subscript (.Name y _) b _] e _ => c.vis i y && ckE ix c b && notComp e && ckE x c e
    | _ => false
  | .aug i op x, c, s => match s with
    | .AugAssign (.Name y _) o e _ => c.own i y && (match op, o with
      | .add, .Add => true
      | .sub, .Sub => true
      | _, _ => false) && ckE x c e
    | _ => false
  | .app i x, c, s => match s with
    | .Expr (.Call (.Attribute (.Name y _) nm ap) [e] [] cp) _ => decide (nm = ("append" : Str)) && c.vis i y && (ap.endLine == cp.line) && notStar e && ckE x c e
    | _ => false
  | .ext i x, c, s => match s with
    | .Expr (.Call (.Attribute (.Name y _) nm ap) [e] [] cp) _ => decide (nm = ("extend" : Str)) && c.vis i y && (ap.endLine == cp.line) && notStar e && ckE x c e
    | _ => false
  | .exp x, c, s => match s with
    | .Expr e _ => notComp e && ckE x c e
    | _ => false
  | .ite x a b, c, s => match s with
    | .If e l r _ => okT x && ckE x c e && ckB a c l && ckB b c r
    | _ => false
  | .loop tg many it b, c, s => match s with
    | .For t iter body [] _ => ckI it c iter && (!pairs it || many) && notSet iter && ckTg c tg many t && ckB b c body
    | _ => false
  | .whl x b, c, s => match s with
    | .While e body [] _ => okT x && ckE x c e && ckB b c body
    | _ => false
  | .ret x, c, s => match s with
    | .Return (some e) _ => ckE x c e
    | _ => false
  | .retN, _, s => match s with
    | .Return none _ => true
    | _ => false
  | .brk, _, s => match s with
    | .Break _ => true
    | _ => false
  | .cont, _, s => match s with
    | .Continue _ => true
    | _ => false
  | .bad, _, _ => true
termination_by structural x => x
def ckB : Bk → Ctx → List Stmt → Bool
  | .nil, _, l => match l with
    | [] => true
    | _ => false
  | .cons s b, c, l => match s with
    | .fz _ => ckB b c l
    | s => match l with
      | st :: rest => ckS s c st && ckB b c rest
      | [] => false
termination_by structural x => x
end
section
variable {Γ : Fns} {c : Ctx} {X : Cx}
theorem loc_ok (G : Good Γ c X) {i : Nat} {x : Str} (h : loc c i x = true) : X.N[i]? = some x ∧ X.env.scope.names.lookup x = some .local := by
  unfold loc at h
  simp only [Bool.and_eq_true, decide_eq_true_eq] at h
  rw [G.N, G.sc]
  exact h
theorem store_nms {Γ : Fns} : ∀ {is : List Nat} {ds : List PyData} {η η1 : En} {S : Sto}, nmAll is ds η = some η1 → storeAll Γ (is.map .nm) (ds.map .v) η S = some (η1, S)
  | [], [], _, _, _, h => by cases h; rfl
  | [], _ :: _, _, _, _, h => by cases h
  | _ :: _, [], _, _, _, h => by cases h
  | i :: is, d :: ds, η, η1, S, h => by
    unfold nmAll at h
    split at h
    · next hi =>
      show (storeT Γ (.v d) (.nm i) η S).bind (fun p => storeAll Γ (is.map .nm) (ds.map .v) p.1 p.2) = _
      simp only [storeT, if_pos hi, Option.bind_some]
      exact store_nms h
    · cases h
theorem nms_ok (G : Good Γ c X) : ∀ {is : List Nat} {es : List Expr}, ckNames c is es = true → PGs X es (LGs X.K fun ws η S => storeAll Γ (is.map .nm) ws η S)
  | [], [], _ => sgs_nil
  | [], _ :: _, h => by simp [ckNames] at h
  | _ :: _, [], h => by simp [ckNames] at h
  | i :: is, e :: es, h => by
    unfold ckNames at h
    split at h
    · next h1 h2 => cases h1
    · next i' is' x p es' h1 h2 =>
      cases h1
      cases h2
      simp only [Bool.and_eq_true] at h
      exact sgs_cons rfl (sg_nm G h.1) (nms_ok G h.2)
    · cases h
theorem nmAll_len : ∀ {is : List Nat} {ds : List PyData} {η η1 : En}, nmAll is ds η = some η1 → ds.length = is.length
  | [], [], _, _, _ => rfl
  | [], _ :: _, _, _, h => by cases h
  | _ :: _, [], _, _, h => by cases h
  | i :: is, d :: ds, η, η1, h => by
    unfold nmAll at h
    split at h
    · exact congrArg (· + 1) (nmAll_len h)
    · cases h
theorem sg_tp (G : Good Γ c X) {is : List Nat} {es : List Expr} {k : Nat} {p : Pos} (h : ckNames c is es = true) : PG X (.Tuple es k p) (LG X.K fun w η S => storeT Γ w (.tp is) η S) :=
  pg_imp (pg_tup (n := is.length) G.calm (nms_ok G h) (names_ok G h).2.1 (names_ok G h).2.2) fun v σ H Q q => by
    obtain ⟨r, η, S, w, η', S', hS, hE, hw, hf, k⟩ := q
    simp only [storeT] at hf
    split at hf
    · next ds =>
      obtain ⟨η1, e1, e2⟩ := Option.map_eq_some_iff.mp hf
      cases e2
      obtain ⟨a, vs, rfl, q1, q2, q3⟩ := rp_tup (Rp.rq hw)
      exact ⟨a, vs, rfl, q1.sq, by rw [q3.length, nmAll_len e1], r, η, S, ds.map .v, _, S, hS, hE, rws_vals q3, store_nms e1, k⟩
    · cases hf
theorem tg1_ok (G : Good Γ c X) {t : Tg} {e : Expr} (h : ckTg1 c t e = true) : PG X e (LG X.K fun w η S => storeT Γ w t η S) := by
  rw [ckTg1.eq_def] at h
  cases t with
  | nm i =>
    dsimp only at h
    split at h
    · exact sg_nm G h
    · cases h
  | «at» i a =>
    dsimp only at h
    split at h
    · simp only [Bool.and_eq_true] at h
      exact sg_at G h.1.1 h.1.2 (snd_e a c X _ G h.2).pe
    · cases h
  | tp is =>
    dsimp only at h
    split at h
    · exact sg_tp G h
    · cases h
theorem tgs_ok (G : Good Γ c X) : ∀ {ts : List Tg} {es : List Expr}, ckTgs c ts es = true → PGs X es (LGs X.K fun ws η S => storeAll Γ ts ws η S)
  | [], [], _ => sgs_nil
  | [], _ :: _, h => by cases h
  | _ :: _, [], h => by cases h
  | t :: ts, e :: es, h => by
    simp only [ckTgs, Bool.and_eq_true] at h
    exact sgs_cons h.1.1 (tg1_ok G h.1.2) (tgs_ok G h.2)
theorem swap_ok (G : GoodS Γ c X) {x : Str} {px : Pos} {e : Expr} (h : ckSwap c x px e = true) (n : Nat) : swapsWith e (some (.Name x px)) n X.env = pure false := by
  unfold ckSwap at h
  split at h
  · simp only [Bool.not_eq_true'] at h
    rw [swapC_ok G.kind, G.sc, h]
  · exact notComp_ok h _ _ _
end
abbrev IhS (Γ : Fns) (s : St) : Prop := ∀ (c : Ctx) (X : Cx) (st : Stmt), GoodS Γ c X → ckS s c st = true → PS X st (LSx X.K Γ s)
abbrev IhB (Γ : Fns) (b : Bk) : Prop := ∀ (c : Ctx) (X : Cx) (l : List Stmt), GoodS Γ c X → ckB b c l = true → PSs X l (LBx X.K Γ b)
section
variable {Γ : Fns}
theorem ps_or {X : Cx} {st : Stmt} {t t' : TS} (h : PS X st t) (h' : PS X st t') : PS X st (fun D σ H => t D σ H ∨ t' D σ H) := ⟨fun pins s σ H D I q => q.elim (h.run pins s σ H D I) (h'.run pins s σ H D I)⟩
theorem t_asg (i : Nat) (x : Ex) : IhS Γ (.asg i x) := by
  intro c X st G h
  rw [ckS.eq_def] at h
  dsimp only at h
  split at h
  · next y p e q =>
    simp only [Bool.and_eq_true] at h
    obtain ⟨⟨h1, h2⟩, h3⟩ := h
    cases hk : ckSwap c y p e with
    | true => exact st_asg G h1 (swap_ok G hk _) (snd_e x c X _ G.toGood h2).pe
    | false =>
      rw [hk, Bool.false_or, Bool.and_eq_true] at h3
      obtain ⟨h3, h4⟩ := h3
      obtain ⟨n1, n2⟩ := loc_ok G.toGood h3
      have go : ∀ {elt cnd : Ex} {tg : List Nat} {many : Bool} {it : Iy}, ckE (.lc elt tg many it cnd) c e = true → (∀ σ H Q, LEx X.K Γ x σ H Q → LHx X.K Γ (.lc elt tg many it cnd) σ H Q) → PS X (.Assign [.Name y p] e q) (LSx X.K Γ (.asg i x)) := by
        intro elt cnd tg many it hc hx
        by_cases hkey : ∃ i, it = .keys i
        · obtain ⟨i0, rfl⟩ := hkey
          obtain ⟨e0, t, iter, ifs, scope, pe, own, wi, g, tt, te, rfl, ho, hi, ok, hG, hT, hE, hs, hl⟩ := lcK_parts (snd_e elt) (snd_e cnd) G.toGood hc
          have hsw : swapsWith (.ListComp e0 [⟨t, iter, ifs, 0⟩] scope pe) (some (.Name y p)) q.line X.env = pure true := by
            have hk : (!(swapC c.sc scope y p pe)) = false := hk
            rw [Bool.not_eq_false'] at hk
            rw [swapC_ok G.kind, G.sc, hk]
          have core := ps_setLc (spos := q) G.calm G.nodup n1 n2 hsw hi ok hG hT hE hs
          rw [ho] at core
          exact ps_imp (ps_or (ps_lock core) core) fun D σ H z => hl σ H _ (hx σ H _ (le_asg D σ H z))
        obtain ⟨e0, t, iter, ifs, scope, pe, own, wi, g, tt, te, rfl, ho, hi, ok, hG, hT, hE, hs, hl⟩ := lc_parts (snd_e elt) (snd_i it) (snd_e cnd) G.toGood (ckK_no fun i e => hkey ⟨i, e⟩) hc
        have hsw : swapsWith (.ListComp e0 [⟨t, iter, ifs, 0⟩] scope pe) (some (.Name y p)) q.line X.env = pure true := by
          have hk : (!(swapC c.sc scope y p pe)) = false := hk
          rw [Bool.not_eq_false'] at hk
          rw [swapC_ok G.kind, G.sc, hk]
        have core := ps_setLc (spos := q) G.calm G.nodup n1 n2 hsw hi ok hG hT hE hs
        rw [ho] at core
        exact ps_imp core fun D σ H z => hl σ H _ (hx σ H _ (le_asg D σ H z))
      cases x <;> first | (cases h4; done) | skip
      · exact go h2 (lh_of lc_val)
      · next a =>
        cases a <;> first | (cases h4; done) | skip
        rw [ckE.eq_def] at h2
        simp only [Bool.and_eq_true] at h2
        exact go h2.2 (lh_cell)
  · cases h
theorem t_par (ts : List Tg) (xs : Exs) : IhS Γ (.par ts xs) := by
  intro c X st G h
  rw [ckS.eq_def] at h
  dsimp only at h
  split at h
  · simp only [Bool.and_eq_true] at h
    obtain ⟨h1, h2⟩ := h
    have hA := snd_a xs c X _ G.toGood h1
    split at h2
    · next hs =>
      simp only [Bool.and_eq_true, decide_eq_true_eq] at h2
      obtain ⟨⟨⟨q1, q2⟩, q3⟩, q4⟩ := h2
      rw [← G.sc] at hs
      exact st_parB G q1 q2 q3 (tgs_ok G.toGood q4) hA (swapV_ok G.kind hs)
    · next ns hs =>
      rw [← G.sc] at hs
      split at h2
      · simp only [Bool.and_eq_true, decide_eq_true_eq] at h2
        obtain ⟨⟨⟨q1, q2⟩, q3⟩, q4⟩ := h2
        subst q1
        obtain ⟨a1, a2⟩ := loc_ok G.toGood q3
        obtain ⟨b1, b2⟩ := loc_ok G.toGood q4
        exact st_par2 G a1 b1 q2 a2 b2 hA (swapV_ok G.kind hs)
      · simp only [Bool.and_eq_true, decide_eq_true_eq] at h2
        obtain ⟨⟨⟨⟨⟨⟨q1, q2⟩, q3⟩, q4⟩, q5⟩, q6⟩, q7⟩ := h2
        subst q1
        obtain ⟨a1, a2⟩ := loc_ok G.toGood q5
        obtain ⟨b1, b2⟩ := loc_ok G.toGood q6
        obtain ⟨d1, d2⟩ := loc_ok G.toGood q7
        exact st_par3 G a1 b1 d1 q2 q3 q4 a2 b2 d2 hA (swapV_ok G.kind hs)
      · cases h2
    · cases h2
  · cases h
theorem t_unp (ts : List Tg) (x : Ex) : IhS Γ (.unp ts x) := by
  intro c X st G h
  rw [ckS.eq_def] at h
  dsimp only at h
  split at h
  · simp only [Bool.and_eq_true, decide_eq_true_eq] at h
    obtain ⟨⟨⟨⟨⟨q1, q2⟩, q3⟩, q4⟩, q5⟩, q6⟩ := h
    exact st_unp G q1 q2 (tgs_ok G.toGood q3) q4 q5 (snd_e x c X _ G.toGood q6).pe
  · cases h
theorem t_seti (i : Nat) (ix x : Ex) : IhS Γ (.seti i ix x) := by
  intro c X st G h
  rw [ckS.eq_def] at h
  dsimp only at h
  split at h
  · simp only [Bool.and_eq_true] at h
    obtain ⟨⟨⟨⟨q1, q2⟩, q3⟩, q4⟩, q5⟩ := h
    exact st_seti G q1 q2 (snd_e ix c X _ G.toGood q3).pe q4 (snd_e x c X _ G.toGood q5).pe
  · cases h
theorem t_dput (i : Nat) (ix x : Ex) : IhS Γ (.dput i ix x) := by
  intro c X st G h
  rw [ckS.eq_def] at h
  dsimp only at h
  split at h
  · simp only [Bool.and_eq_true] at h
    obtain ⟨⟨⟨q1, q3⟩, q4⟩, q5⟩ := h
    exact st_dput G q1 (snd_e ix c X _ G.toGood q3).pe q4 (snd_e x c X _ G.toGood q5).pe
  · cases h
theorem t_aug (i : Nat) (op : Bo) (x : Ex) : IhS Γ (.aug i op x) := by
  intro c X st G h
  rw [ckS.eq_def] at h
  dsimp only at h
  split at h
  · simp only [Bool.and_eq_true] at h
    obtain ⟨⟨q1, q2⟩, q3⟩ := h
    refine st_aug G q1 ?_ (snd_e x c X _ G.toGood q3).pe
    split at q2
    · exact .inl ⟨rfl, rfl⟩
    · exact .inr ⟨rfl, rfl⟩
    · cases q2
  · cases h
theorem t_app (i : Nat) (x : Ex) : IhS Γ (.app i x) := by
  intro c X st G h
  rw [ckS.eq_def] at h
  dsimp only at h
  split at h
  · simp only [Bool.and_eq_true, decide_eq_true_eq] at h
    obtain ⟨⟨⟨⟨q1, q2⟩, q3⟩, q4⟩, q5⟩ := h
    subst q1
    exact st_app G q2 q3 q4 (pl_cons q4 (snd_e x c X _ G.toGood q5).pe pl_nil)
  · cases h
theorem t_ext (i : Nat) (x : Ex) : IhS Γ (.ext i x) := by
  intro c X st G h
  rw [ckS.eq_def] at h
  dsimp only at h
  split at h
  · simp only [Bool.and_eq_true, decide_eq_true_eq] at h
    obtain ⟨⟨⟨⟨q1, q2⟩, q3⟩, q4⟩, q5⟩ := h
    subst q1
    exact st_ext G q2 q3 q4 (pl_cons q4 (snd_e x c X _ G.toGood q5).pe pl_nil)
  · cases h
theorem t_exp (x : Ex) : IhS Γ (.exp x) := by
  intro c X st G h
  rw [ckS.eq_def] at h
  dsimp only at h
  split at h
  · simp only [Bool.and_eq_true] at h
    exact st_exp h.1 (snd_e x c X _ G.toGood h.2).pe
  · cases h
theorem t_ite (x : Ex) {a b : Bk} (iha : IhB Γ a) (ihb : IhB Γ b) : IhS Γ (.ite x a b) := by
  intro c X st G h
  rw [ckS.eq_def] at h
  dsimp only at h
  split at h
  · simp only [Bool.and_eq_true] at h
    obtain ⟨⟨⟨q1, q2⟩, q3⟩, q4⟩ := h
    exact st_ite ((snd_e x c X _ G.toGood q2).pt q1) (iha c X _ G q3) (ihb c X _ G q4)
  · cases h
theorem t_loop (tg : List Nat) (many : Bool) (it : Iy) {b : Bk} (ih : IhB Γ b) : IhS Γ (.loop tg many it b) := by
  intro c X st G h
  rw [ckS.eq_def] at h
  dsimp only at h
  split at h
  · simp only [Bool.and_eq_true] at h
    obtain ⟨⟨⟨⟨q1, q2⟩, q3⟩, q4⟩, q5⟩ := h
    have hbm : pairs it = true → many = true := fun k => by
      rw [k] at q2
      simpa using q2
    have hi := (snd_i it c X _ G.toGood q1).1 _ fun k => by
      cases hbm k
      exact tg_tuple q4
    exact ps_imp (ls_for G.pass G.calm hi (tg_ok G.toGood q4) (tg_tgt q4) hbm (ih c X _ G q5) (folded_ok q3 X.env)) fun D σ H q => q
  · cases h
theorem t_whl (x : Ex) {b : Bk} (ih : IhB Γ b) : IhS Γ (.whl x b) := by
  intro c X st G h
  rw [ckS.eq_def] at h
  dsimp only at h
  split at h
  · simp only [Bool.and_eq_true] at h
    obtain ⟨⟨q1, q2⟩, q3⟩ := h
    exact ps_imp (ls_while G.pass ((snd_e x c X _ G.toGood q2).pt q1) (ih c X _ G q3)) fun D σ H q => q
  · cases h
theorem t_ret (x : Ex) : IhS Γ (.ret x) := by
  intro c X st G h
  rw [ckS.eq_def] at h
  dsimp only at h
  split at h
  · exact st_ret (snd_e x c X _ G.toGood h).pe
  · cases h
theorem t_pass : IhS Γ .pass := by
  intro c X st G h
  rw [ckS.eq_def] at h
  dsimp only at h
  split at h
  · exact st_pass
  · cases h
theorem t_retN : IhS Γ .retN := by
  intro c X st G h
  rw [ckS.eq_def] at h
  dsimp only at h
  split at h
  · exact st_retN
  · cases h
theorem t_brk : IhS Γ .brk := by
  intro c X st G h
  rw [ckS.eq_def] at h
  dsimp only at h
  split at h
  · exact st_brk
  · cases h
theorem t_cont : IhS Γ .cont := by
  intro c X st G h
  rw [ckS.eq_def] at h
  dsimp only at h
  split at h
  · exact st_cont
  · cases h
theorem t_bad : IhS Γ .bad := fun c X st G h => ⟨fun pins s σ H D I q => by
  obtain ⟨r, η, S, o, hS, hE, e, k⟩ := q
  cases e⟩
theorem t_nil : IhB Γ .nil := by
  intro c X l G h
  rw [ckB.eq_def] at h
  dsimp only at h
  split at h
  · exact sb_nil
  · cases h
theorem t_cons {s : St} {b : Bk} (ihs : IhS Γ s) (ihb : IhB Γ b) : IhB Γ (.cons s b) := by
  intro c X l G h
  rw [ckB.eq_def] at h
  dsimp only at h
  split at h
  · exact sb_fz (ihb c X _ G h)
  · split at h
    · simp only [Bool.and_eq_true] at h
      exact sb_cons (ihs c X _ G h.1) (ihb c X _ G h.2)
    · cases h
mutual
theorem snd_s : ∀ s : St, IhS Γ s
  | .pass => t_pass
  | .fz _ => fun _ _ _ _ h => by rw [ckS.eq_def] at h; cases h
  | .asg i x => t_asg i x
  | .par ts xs => t_par ts xs
  | .unp ts x => t_unp ts x
  | .seti i ix x => t_seti i ix x
  | .dput i ix x => t_dput i ix x
  | .aug i op x => t_aug i op x
  | .app i x => t_app i x
  | .ext i x => t_ext i x
  | .exp x => t_exp x
  | .ite x a b => t_ite x (snd_b a) (snd_b b)
  | .loop tg many it b => t_loop tg many it (snd_b b)
  | .whl x b => t_whl x (snd_b b)
  | .ret x => t_ret x
  | .retN => t_retN
  | .brk => t_brk
  | .cont => t_cont
  | .bad => t_bad
theorem snd_b : ∀ b : Bk, IhB Γ b
  | .nil => t_nil
  | .cons s b => t_cons (snd_s s) (snd_b b)
end
end
end Pl


namespace Pl
open PySem PySem.Spec PyProof.Rows L2
section
variable {K : PySem.W.Frag} {r r' : Rho} {H H' : Hp} {S S' : Sto}
mutual
theorem Rp.sub {r2 : Rho} (hc : ∀ a, some a ∈ r2.c → some a ∈ r.c) (hp : r2.p = r.p) : ∀ {v : V} {d : PyData}, Rp H r v d → Rp H r2 v d
  | _, _, .non => .non
  | _, _, .bl b => .bl b
  | _, _, .int i => .int i
  | _, _, .str x => .str x
  | _, _, .lst h k t => .lst h ⟨fun m => k.1 (hc _ m), by rw [hp]; exact k.2⟩ (Rps.sub hc hp t)
  | _, _, .tup h k t => .tup h ⟨fun m => k.1 (hc _ m), by rw [hp]; exact k.2⟩ (Rps.sub hc hp t)
  | _, _, .dic h k e t => .dic h ⟨fun m => k.1 (hc _ m), by rw [hp]; exact k.2⟩ e (Rps.sub hc hp t)
theorem Rps.sub {r2 : Rho} (hc : ∀ a, some a ∈ r2.c → some a ∈ r.c) (hp : r2.p = r.p) : ∀ {vs : List V} {ds : List PyData}, Rps H r vs ds → Rps H r2 vs ds
  | _, _, .nil => .nil
  | _, _, .cons h t => .cons (Rp.sub hc hp h) (Rps.sub hc hp t)
end
/-- what leaves a def -/
theorem fin_ok {n : Nat} {fr : Bool} {o : Out} {w : W} {S0 : Sto} {Q : VK} (hS : SR S0 r H) (hn : S0.length = n) (h : fin n fr o = some (w, S')) (k : ∀ r' v H', Gr r H r' H' → SR S' r' H' → Rw K H' r' w v → Q v H') :
    After K r H o { nx := fun _ H' => Q .non H', rt := Q } := by
  cases o with
  | nx η S1 =>
    cases h
    exact fun r1 σ1 H1 g1 hS1 _ => k (r1.cut n) .non H1 (gr_take g1 hS hn) hS1.take .non
  | bk η S1 => cases h
  | ct η S1 => cases h
  | rt w1 S1 =>
    intro r1 v H1 g1 hS1 hw
    cases w1 with
    | v d =>
      cases h
      exact k (r1.cut n) v H1 (gr_take g1 hS hn) hS1.take (Rp.take hw)
    | s ns => cases h
    | r m =>
      have hln : r.c.length = n := by rw [hS.len, hn]
      simp only [fin] at h
      split at h
      · next hm =>
        cases h
        refine k (r1.cut n) v H1 (gr_take g1 hS hn) hS1.take ⟨?_, fun a e => hw.2 a (cut_at e).2⟩
        show m < (r1.c.take n).length
        rw [List.length_take]
        have := g1.len
        omega
      · next hm =>
        cases hl0 : look S1 m with
        | none =>
          rw [hl0] at h
          have h : ((lookK S1 m).bind fun kvs => if fr = true then none else some (W.v (.dict kvs), S1.take n)) = some _ := h
          rw [Option.bind_eq_some_iff] at h
          obtain ⟨kvs, hx, e⟩ := h
          obtain ⟨a, ps, e1, e2, e3, e4⟩ := hS1.dic m kvs (lookK_some hx)
          have ev := hw.2 a e1
          subst ev
          have hna : some a ∉ (r1.cut n).c := fun hm2 => by
            obtain ⟨j, hj⟩ := List.mem_iff_getElem?.mp hm2
            obtain ⟨j1, j2⟩ := cut_at hj
            have := hS1.inj j m a j2 e1
            omega
          have hnp : a ∉ r1.p := fun hm2 => (hS1.prt a hm2).2 (List.mem_of_getElem? e1)
          cases fr with
          | false =>
            cases e
            exact k (r1.cut n) (.ref a) H1 (gr_take g1 hS hn) hS1.take (Rp.dic (.inl e2) ⟨hna, hnp⟩ e3 e4.takeR)
          | true => cases e
        | some xs =>
        rw [hl0] at h
        have e := Option.some.inj h
        have hx : look S1 m = some xs := hl0
        obtain ⟨a, vs, e1, e2, e3⟩ := hS1.cel m xs (look_some hx)
        have ev := hw.2 a e1
        subst ev
        have hna : some a ∉ (r1.cut n).c := fun hm2 => by
          obtain ⟨j, hj⟩ := List.mem_iff_getElem?.mp hm2
          obtain ⟨j1, j2⟩ := cut_at hj
          have := hS1.inj j m a j2 e1
          omega
        have hnp : a ∉ r1.p := fun hm2 => (hS1.prt a hm2).2 (List.mem_of_getElem? e1)
        cases fr with
        | false =>
          cases e
          exact k (r1.cut n) (.ref a) H1 (gr_take g1 hS hn) hS1.take (Rp.lst e2 ⟨hna, hnp⟩ e3.takeR)
        | true =>
          cases e
          have hlen : (r1.c.take n).length = n := by
            rw [List.length_take]
            have := g1.len
            omega
          have hsub : ∀ b, some b ∈ ((r1.cut n).add a).c → some b ∈ r1.c := fun b hb => by
            have hb : some b ∈ r1.c.take n ++ [some a] := hb
            rcases List.mem_append.mp hb with z | z
            · exact List.mem_of_mem_take z
            · rw [List.mem_singleton.mp z]
              exact List.mem_of_getElem? e1
          have hat : ∀ j b, ((r1.cut n).add a).c[j]? = some (some b) → (j < n ∧ r1.c[j]? = some (some b)) ∨ (j = n ∧ b = a) := fun j b hj => by
            rcases last_cell (show (r1.c.take n ++ [some a])[j]? = some (some b) from hj) with z | ⟨z1, z2⟩
            · exact .inl (cut_at z)
            · exact .inr ⟨by rw [z1, hlen], z2⟩
          have gt := gr_take g1 hS hn
          refine k ((r1.cut n).add a) (.ref a) H1 ⟨fun b o hb hnb => ⟨(g1.keep b o hb hnb).1, fun z => (g1.keep b o hb hnb).2 (hsub b z)⟩, ?_, fun j b hj hjb => ?_, g1.prt⟩ ?_ ⟨?_, fun b hb => ?_⟩
          · show r.c.length ≤ (r1.c.take n ++ [some a]).length
            rw [List.length_append, hlen, hln]
            exact Nat.le_succ _
          · rcases hat j b hjb with ⟨_, z⟩ | ⟨z, _⟩
            · exact g1.old j b hj z
            · omega
          · have hsl : (S1.take n).length = n := by
              rw [List.length_take]
              have := hS1.len
              have := g1.len
              omega
            refine ⟨?_, fun i j b hi hj => ?_, fun j ys hj hc => ?_, fun j b hj => ?_, fun b hb => ⟨(hS1.prt b hb).1, fun z => (hS1.prt b hb).2 (hsub b z)⟩⟩
            · show (r1.c.take n ++ [some a]).length = (S1.take n ++ [Cell.lst xs]).length
              rw [List.length_append, List.length_append, hlen, hsl]
              rfl
            · rcases hat i b hi with ⟨i1, i2⟩ | ⟨i1, i2⟩
              · rcases hat j b hj with ⟨j1, j2⟩ | ⟨j1, j2⟩
                · exact hS1.inj i j b i2 j2
                · rw [j2] at i2
                  have := hS1.inj i m a i2 e1
                  omega
              · rcases hat j b hj with ⟨j1, j2⟩ | ⟨j1, j2⟩
                · rw [i2] at j2
                  have := hS1.inj j m a j2 e1
                  omega
                · omega
            · by_cases hjn : j < n
              · rw [List.getElem?_append_left (by rw [hsl]; exact hjn), List.getElem?_take_of_lt hjn] at hj
                obtain ⟨b, b1, b2⟩ := hS1.cels j ys hj hc
                refine ⟨b, ?_, b2.map (fun _ q => q) fun us ds q => q.sub hsub rfl⟩
                show (r1.c.take n ++ [some a])[j]? = _
                rw [List.getElem?_append_left (by rw [hlen]; exact hjn), List.getElem?_take_of_lt hjn]
                exact b1
              · rw [List.getElem?_append_right (by rw [hsl]; omega), hsl] at hj
                have hj0 : j - n = 0 := by
                  cases hk : j - n with
                  | zero => rfl
                  | succ q => rw [hk] at hj; simp at hj
                rw [hj0] at hj
                have hj : some (Cell.lst xs) = some ys := hj
                cases hj
                refine ⟨a, ?_, vs, e2, e3.sub hsub rfl⟩
                show (r1.c.take n ++ [some a])[j]? = _
                rw [List.getElem?_append_right (by rw [hlen]; omega), hlen, hj0]
                rfl
            · rcases hat j b hj with ⟨j1, j2⟩ | ⟨j1, j2⟩
              · obtain ⟨ys, q, qc⟩ := hS1.trk j b j2
                refine ⟨ys, ?_, qc⟩
                rw [List.getElem?_append_left (by rw [hsl]; exact j1), List.getElem?_take_of_lt j1]
                exact q
              · refine ⟨.lst xs, ?_, fun e => nomatch e⟩
                rw [j1, List.getElem?_append_right (by rw [hsl]; exact Nat.le_refl _), hsl, Nat.sub_self]
                rfl
          · show n < (r1.c.take n ++ [some a]).length
            rw [List.length_append, hlen]
            exact Nat.lt_succ_self _
          · rcases hat n b hb with ⟨z, _⟩ | ⟨_, z⟩
            · omega
            · rw [z]
theorem rws_get {ws : List W} {vs : List V} (h : Rws K H r ws vs) : ∀ {i : Nat} {w : W}, ws[i]? = some w → ∃ v, vs[i]? = some v ∧ Rw K H r w v := by
  induction h with
  | nil => intro i w e; simp at e
  | cons a t ih =>
    intro i w e
    cases i with
    | zero => simp at e; subst e; exact ⟨_, rfl, a⟩
    | succ i => simpa using ih (i := i) (by simpa using e)
theorem er_start {N : List Str} {ws : List W} {vs : List V} (h : Rws K H r ws vs) : ER K (ws.map some ++ List.replicate (N.length - ws.length) none) (L2.start N vs) H r := by
  have hl := h.length
  refine ⟨by simp [L2.start, hl], fun i w e => ?_⟩
  unfold lkup at e
  by_cases hi : i < ws.length
  · rw [List.getElem?_append_left (by simpa using hi), List.getElem?_map] at e
    cases q : ws[i]? with
    | none => rw [q] at e; simp at e
    | some w' =>
      rw [q] at e
      have e : w' = w := by simpa using e
      subst e
      obtain ⟨v, h1, h2⟩ := rws_get h q
      refine ⟨v, ?_, h2⟩
      unfold L2.start
      rw [List.getElem?_append_left (by rw [List.length_map, ← hl]; exact hi), List.getElem?_map, h1]
      rfl
  · rw [List.getElem?_append_right (by simpa using hi), List.getElem?_replicate] at e
    split at e <;> simp at e
end
def fsOf (T : List (Nat × Fd)) : List (Nat × Str × Nat) := T.map fun e => (e.1, e.2.name, e.2.ps.length)
def ctxD (T : List (Nat × Fd)) (bl : List Str) (gl : List (Str × Int)) (fd : Fd) (st : Stmt) : Ctx := ⟨fd.ns, defScope st, fun _ => true, bl, gl, fsOf T⟩
def scOk (N P : List Str) (sc : Scope) : Bool :=
  decide (sc.kind = .function) && !sc.isCoroutine && !sc.isGenerator && decide N.Nodup && decide (N.take P.length = P) && (P.all fun x => decide (sc.names.lookup x = some .local) || decide (sc.names.lookup x = some .cell)) && (sc.names.all fun y => decide (y.2 ≠ .free))
theorem scOk_ok {N P : List Str} {sc : Scope} (h : scOk N P sc = true) : FnScope N P sc := by
  unfold scOk at h
  simp only [Bool.and_eq_true, Bool.not_eq_true', decide_eq_true_eq, List.all_eq_true, Bool.or_eq_true] at h
  obtain ⟨⟨⟨⟨⟨⟨h1, h2⟩, h3⟩, h4⟩, h5⟩, h6⟩, h7⟩ := h
  exact ⟨h1, h2, h3, h4, h5, h6, h7⟩
def ckD (T : List (Nat × Fd)) (bl : List Str) (gl : List (Str × Int)) (fd : Fd) (st : Stmt) : Bool := scOk fd.ns fd.ps (defScope st) && ckB fd.body (ctxD T bl gl fd st) (defBody st)
section
variable {P : Program} {w : World} {K : PySem.W.Frag} {mg : Str → Option Value} {base : Heap} {T : List (Nat × Fd)} {bl : List Str} {gl : List (Str × Int)} {k : Nat} {Γ : Fns} {fd : Fd} {st : Stmt} {f : Addr} {fdd : FuncData}
theorem fn_G (F : L2.Fun K fd.name fd.name st f fdd) (hck : ckD T bl gl fd st = true) (hbl : ∀ x, x ∈ bl → mg x = none) (hgl : ∀ x i, gl.lookup x = some i → ∃ t, mg x = some (.int i t))
    (hfs : ∀ i x m, (fsOf T).lookup i = some (x, m) → ∃ f fd ps, mg x = some (.ref f) ∧ PySem.W.keepIn K (.ref f) = true ∧ L2.Binds K fd ps [] ∧ FnG P w K mg base k f fd ps (SpF K m (Γ i))) :
    FnG P w K mg base (k + 1) f fdd fd.ps (SpF K fd.ps.length (runF Γ fd)) := by
  unfold ckD at hck
  rw [Bool.and_eq_true] at hck
  have Sc := scOk_ok hck.1
  obtain ⟨oc, od, kV, doc, pm, an, cdv, ct, osl, rfl, lk, hcd⟩ := F.ex
  refine ⟨fun vs H Q E h => h.1, fun A outer s H args us vs Q E hr hg e0 hb rv h => ?_⟩
  obtain ⟨hl, r, S, ws, w', S', hS, hw, hf, q⟩ := h
  have KX : K.In s.heap := e0.mod.kin.keeps fun b o e => (e0.bs b o e).1
  have lim : s.heap.NoLimit := e0.mod.nolimit.keeps fun b o e => (e0.bs b o e).1
  have hkind : ∀ y ∈ fd.ps.zip us, (defScope st).names.lookup y.1 = some .local ∨ ((defScope st).names.lookup y.1 = some .cell ∧ ((cellsFrom (s.heap.objs.size + 1) (defScope st).names []).lookup y.1).isSome = true) := by
    rintro ⟨n, v⟩ hy
    have hn := (List.of_mem_zip hy).1
    exact (Sc.par n hn).imp id fun z => ⟨z, PySem.W.cellsFrom_some _ _ _ (.inl z)⟩
  refine codeAny_call_function hr.depth (KX _ _ lk) rfl Sc.co Sc.gen rfl (PySem.W.codeRec_of KX hcd) (hb _ _ _ _ ?_)
  refine wpAny_newFunctionEnv_cells Sc.kind hkind fun env he s1 x => ?_
  subst he
  refine ⟨lim.keeps x.toInCall.keep, codeAny_func ?_⟩
  have hrd := hr.deeper (envOfC fd.name (defScope st) s.heap.objs.size f cdv)
  have G : GoodS Γ (ctxD T bl gl fd st) (cxOf CX0 P w K mg base fd.ns fd.name (defScope st) f cdv A outer s H E).nox := by
    refine ⟨⟨Sc.nd, rfl, rfl, rfl, rfl, ?_, hg, hbl, hgl, fun i x m hi => ?_⟩, Sc.kind, PassesOwn.never⟩
    · have := hrd.un
      have q : (A.deeper (envOfC fd.name (defScope st) s.heap.objs.size f cdv)).units + 200 < cLine := by omega
      exact q
    · obtain ⟨f', fd', ps', z1, z2, z3, z4⟩ := hfs i x m hi
      exact ⟨k, f', fd', ps', z1, z2, z3, hrd, z4⟩
  have body := (snd_b fd.body (ctxD T bl gl fd st) _ (defBody st) G hck.2).nox
  have I : Inv (cxOf CX0 P w K mg base fd.ns fd.name (defScope st) f cdv A outer s H E) [] (L2.start fd.ns vs) H s1 := inv_start Sc hr.hd e0 hl rv x
  have hD : LBx K Γ fd.body { nx := fun _ H' => Q .non H', rt := Q } (L2.start fd.ns vs) H := by
    unfold runF at hf
    split at hf
    · rw [Option.bind_eq_some_iff] at hf
      obtain ⟨o, ho, hfin⟩ := hf
      exact ⟨r, _, S, o, hS, er_start hw, ho, fin_ok hS rfl hfin q⟩
    · cases hf
  refine wpAny_mono (body.run [] s1 (L2.start fd.ns vs) H _ I hD) (fun fl s' hs => ?_) fun e s' hs => hs
  have out : ∀ {σ' : L2.St} {H' : Hp} {v : V} {u : Value}, Inv (cxOf CX0 P w K mg base fd.ns fd.name (defScope st) f cdv A outer s H E) [] σ' H' s' → RelV v u → Q v H' → CE outer P w H s Q u s' :=
    fun {σ' H' v u} J rv' qv => ⟨v, H', J.os, J.bare, J.base, J.hok, rv', qv⟩
  cases fl with
  | next =>
    obtain ⟨σ', H', J, qv⟩ := hs
    exact out (v := V.non) (u := Value.none) J rfl qv
  | ret u =>
    obtain ⟨v, σ', H', J, rv', qv⟩ := hs
    exact out J rv' qv
  | brk =>
    obtain ⟨_, _, _, qv⟩ := hs
    exact False.elim qv
  | cont =>
    obtain ⟨_, _, _, qv⟩ := hs
    exact False.elim qv
/-- a def of the text, as it stands behind the top -/
def DefIn (K : PySem.W.Frag) (mg : Str → Option Value) (T : List (Nat × Fd)) (bl : List Str) (gl : List (Str × Int)) (fd : Fd) : Prop :=
  ∃ st f fdd, mg fd.name = some (.ref f) ∧ L2.Fun K fd.name fd.name st f fdd ∧ L2.Binds K fdd fd.ps [] ∧ ckD T bl gl fd st = true
theorem fs_lookup {i : Nat} {x : Str} {m : Nat} : ∀ {T : List (Nat × Fd)}, (fsOf T).lookup i = some (x, m) → ∃ fd, T.lookup i = some fd ∧ fd.name = x ∧ fd.ps.length = m
  | [], h => by simp [fsOf] at h
  | (j, fd) :: T, h => by
    have h' : List.lookup i ((j, fd.name, fd.ps.length) :: fsOf T) = some (x, m) := h
    rw [List.lookup_cons] at h' ⊢
    split at h'
    · cases h'
      exact ⟨fd, rfl, rfl, rfl⟩
    · exact fs_lookup h'
theorem mem_of_lk {i : Nat} {fd : Fd} : ∀ {T : List (Nat × Fd)}, T.lookup i = some fd → (i, fd) ∈ T
  | [], h => by simp at h
  | (j, fd') :: T, h => by
    rw [List.lookup_cons] at h
    split at h
    · next e =>
      cases h
      rw [eq_of_beq e]
      exact List.mem_cons_self
    · exact List.mem_cons_of_mem _ (mem_of_lk h)
theorem all_G (hT : ∀ e ∈ T, DefIn K mg T bl gl e.2) (hbl : ∀ x, x ∈ bl → mg x = none) (hgl : ∀ x i, gl.lookup x = some i → ∃ t, mg x = some (.int i t)) :
    ∀ k i fd, T.lookup i = some fd → ∃ f fdd, mg fd.name = some (.ref f) ∧ PySem.W.keepIn K (.ref f) = true ∧ L2.Binds K fdd fd.ps [] ∧ FnG P w K mg base k f fdd fd.ps (SpF K fd.ps.length (evF T k i))
  | 0, i, fd, hi => by
    obtain ⟨st, f, fdd, h1, h2, h3, h4⟩ := hT _ (mem_of_lk hi)
    refine ⟨f, fdd, h1, h2.kp, h3, fun vs H Q E h => h.1, fun A outer s H args us vs Q E _ _ _ _ _ h => ?_⟩
    obtain ⟨_, r, S, ws, w', S', _, _, hf, _⟩ := h
    cases hf
  | k + 1, i, fd, hi => by
    obtain ⟨st, f, fdd, h1, h2, h3, h4⟩ := hT _ (mem_of_lk hi)
    have hr : evF T (k + 1) i = runF (evF T k) fd := by
      funext ws S
      show (T.lookup i).bind _ = _
      rw [hi]
      rfl
    rw [hr]
    refine ⟨f, fdd, h1, h2.kp, h3, fn_G h2 h4 hbl hgl fun j x m hj => ?_⟩
    obtain ⟨fd', q1, rfl, rfl⟩ := fs_lookup hj
    obtain ⟨f', fdd', z1, z2, z3, z4⟩ := all_G hT hbl hgl k j fd' q1
    exact ⟨f', fdd', fd'.ps, z1, z2, z3, z4⟩
end
end Pl


namespace Pl
open PySem PySem.Spec PyProof.Rows L2
section
variable {P : Program} {w : World} {K : PySem.W.Frag} {mg mb : Str → Option Value} {T : List (Nat × Fd)} {bl : List Str} {gl : List (Str × Int)} {k : Nat}
/-- the law's def answers True at a script that lies in H -/
theorem law_at {base : Heap} {li : Nat} {fd : Fd} {sh : Shared} {H : Hp} {fa a : Addr} {ns : List Int} {S' : Sto} (hk : Room k callerA)
    (hT : ∀ e ∈ T, DefIn K mg T bl gl e.2) (hbl : ∀ x, x ∈ bl → mg x = none) (hgl : ∀ x i, gl.lookup x = some i → ∃ t, mg x = some (.int i t)) (hl : T.lookup li = some fd) (hfa : mg fd.name = some (.ref fa)) (h1 : fd.ps.length = 1)
    (env : Env0 P w K mg base callerA [] sh H) (hs : Scr K H ⟨[], []⟩ a ns) (ev : evF T k li [.s ns] [] = some (.v (.bool true), S')) :
    codeAny (model P w) callerA (.call (.ref fa) ⟨[.ref a], []⟩) (CR CX0 [] P w H sh (fun v _ => v = .bl true) E0) sh := by
  obtain ⟨f, fdd, q1, q2, q3, q4⟩ := all_G (P := P) (w := w) (base := base) hT hbl hgl k li fd hl
  rw [hfa] at q1
  cases q1
  have KX : K.In sh.heap := env.mod.kin.keeps fun b o e => (env.bs b o e).1
  have hb := q3 sh [.ref a] KX (by rw [List.append_nil, h1]; rfl)
  rw [List.append_nil] at hb
  refine q4.run callerA [] sh H ⟨[.ref a], []⟩ [.ref a] [.ref a] _ E0 hk rfl env hb (.cons rfl .nil) ⟨h1.symm, ⟨[], []⟩, [], [.s ns], _, S', ?_, .cons ⟨a, rfl, hs⟩ .nil, ev, fun r' v H' _ _ hv => rw_bool hv⟩
  exact ⟨rfl, fun i j a e => by simp at e, fun n xs e => by simp at e, fun n a e => by simp at e, fun a m => by simp at m⟩
/-- nothing is tracked but the script -/
def hAt (a : Addr) (o : Obj) (vs : List V) : Hp := fun b => if b = a then some (.frz o (.lst vs)) else none
theorem hAt_ne {a b : Addr} {o : Obj} {vs : List V} (h : b ≠ a) : hAt a o vs b = none := if_neg h
theorem hAt_eq {a : Addr} {o : Obj} {vs : List V} : hAt a o vs a = some (.frz o (.lst vs)) := if_pos rfl
theorem hAt_some {a b : Addr} {o : Obj} {vs : List V} {u : HO} (h : hAt a o vs b = some u) : b = a ∧ u = .frz o (.lst vs) := by
  by_cases e : b = a
  · subst e
    rw [hAt_eq] at h
    cases h
    exact ⟨rfl, rfl⟩
  · rw [hAt_ne e] at h
    cases h
theorem law_end {li : Nat} {fd : Fd} {sh : Shared} {fa a : Addr} {us : List Value} {ns : List Int} (hk : Room k callerA) (hT : ∀ e ∈ T, DefIn K mg T bl gl e.2) (hbl : ∀ x, x ∈ bl → mg x = none) (hgl : ∀ x i, gl.lookup x = some i → ∃ t, mg x = some (.int i t))
    (hl : T.lookup li = some fd) (hfa : mg fd.name = some (.ref fa)) (h1 : fd.ps.length = 1) (kin : K.In sh.heap) (nsG : sh.heap.Ns mainGlobals mg) (nsB : sh.heap.Ns builtinsNs mb) (boot : ∀ x : Str, x ≠ "__name__" → mb x = bootBuiltins x) (nolim : sh.heap.NoLimit) (gens : sh.gens = #[])
    (obj : sh.heap.get? a = some { cls := .type "list", data := .seq us.toArray }) (ivs : IntsAre us ns) (len : ns.length ≤ sizeLine) (ev : ∃ S', evF T k li [.s ns] [] = some (.v (.bool true), S')) :
    codeAny (model P w) callerA (.call (.ref fa) ⟨[.ref a], []⟩) (fun res t => res = .ok (.ret (.bool true)) ∧ OldK sh.heap t.heap ∧ t.os = sh.os ∧ AllBare t.gens) sh := by
  obtain ⟨S', ev⟩ := ev
  have vals := vals_ints ivs
  -- the two cases at once: H tracks the script, or nothing
  suffices main : ∀ H : Hp, (∀ b u, H b = some u → b = a ∧ ∃ o, u = .frz o (.lst (ns.map V.int))) → (H a ≠ none → K.lookup a = none) → Scr K H ⟨[], []⟩ a ns → HOk P w H sh.heap →
      codeAny (model P w) callerA (.call (.ref fa) ⟨[.ref a], []⟩) (fun res t => res = .ok (.ret (.bool true)) ∧ OldK sh.heap t.heap ∧ t.os = sh.os ∧ AllBare t.gens) sh by
    cases own : K.lookup a with
    | none =>
      refine main (hAt a { cls := .type "list", data := .seq us.toArray } (ns.map V.int)) (fun b u e => ?_) (fun _ => own) (.inl ⟨_, hAt_eq, by simp⟩) fun b u e => ?_
      · obtain ⟨e1, e2⟩ := hAt_some e
        exact ⟨e1, _, e2⟩
      · obtain ⟨e1, e2⟩ := hAt_some e
        subst e1 e2
        exact ⟨obj, by rw [List.length_map]; exact len, us, _, vals, obj⟩
    | some o =>
      have same := kin a o own
      rw [obj] at same
      cases same
      refine main (fun _ => none) (fun b u e => by cases e) (fun z => absurd rfl z) (.inr fun H' => .inr ⟨_, us.toArray, _, own, rfl, rfl, rfl, ?_, ?_⟩) fun b u e => by cases e
      · rw [List.size_toArray, ivs.length]
        exact len
      · simpa using vals
  intro H only fresh scr ok
  -- what is not tracked stands in the heap that the frame keeps
  have keeps : ∀ {b : Addr} {o : Obj}, sh.heap.get? b = some o → H b = none → (hidT sh.heap H).get? b = some o := fun e n => hidT_get e n
  have dictFree : ∀ {b : Addr} {o : Obj} {es : Array DictEntry} {ep : Nat}, sh.heap.get? b = some o → o.data = .dict es ep → H b = none := by
    intro b o es ep e d
    cases q : H b with
    | none => rfl
    | some u =>
      obtain ⟨rfl, _⟩ := only b u q
      rw [obj] at e
      cases e
      cases (show Data.seq us.toArray _ = Data.dict es ep from d)
  have nsKeep : ∀ {b : Addr} {m : Str → Option Value}, sh.heap.Ns b m → (hidT sh.heap H).Ns b m := by
    rintro b m ⟨o, es, ep, e, d, rr⟩
    exact ⟨o, es, ep, keeps e (dictFree e d), d, rr⟩
  have kin' : K.In (hidT sh.heap H) := by
    intro b o e
    refine keeps (kin b o e) ?_
    cases q : H b with
    | none => rfl
    | some u =>
      obtain ⟨rfl, _⟩ := only b u q
      rw [fresh (by rw [q]; exact fun z => nomatch z)] at e
      cases e
  have modu : Mod K mg (hidT sh.heap H) := ⟨kin', nsKeep nsG, ⟨mb, nsKeep nsB, boot⟩, let ⟨mc, z1, z2⟩ := nolim; ⟨mc, nsKeep z1, z2⟩⟩
  have env : Env0 P w K mg (hidT sh.heap H) callerA [] sh H := ⟨rfl, modu, fun b o e => of_hidT e, Nat.le_of_eq (hidT_size _ _), trivial, fun b m => by simp [frs] at m, ok, .of_eq gens⟩
  refine codeAny_mono (law_at hk hT hbl hgl hl hfa h1 env scr ev) fun res t h => ?_
  cases res with
  | error e => exact False.elim h
  | ok fl =>
    cases fl with
    | next => exact False.elim h
    | brk => exact False.elim h
    | cont => exact False.elim h
    | ret u =>
      obtain ⟨v, H', hos, hbare, hun, hok, hv, hq⟩ := h
      have hq : v = .bl true := hq
      subst hq
      cases (show u = Value.bool true from hv)
      refine ⟨rfl, OldK.of_keep fun b o e => ?_, hos, hbare⟩
      cases q : H b with
      | none => exact hun.keep b o e q (by simp [frs]) (by simp)
      | some u =>
        obtain ⟨rfl, o', rfl⟩ := only b u q
        obtain ⟨e1, _⟩ := ok b _ q
        obtain ⟨e2, _⟩ := hok b _ (hun.frzs b o' _ q)
        rw [e] at e1
        cases e1
        exact e2
end
theorem def_mk {K : PySem.W.Frag} {h : Heap} {mg : Str → Option Value} {T : List (Nat × Fd)} {bl : List Str} {gl : List (Str × Int)} {fd : Fd} {st : Stmt} {f : Addr} {oc kV doc pm cdv ct : Value} {od an : Option Addr} {osl : Array (Option Value)} (X : K.In h) (G : h.Ns mainGlobals mg)
    (a : PySem.W.nsIn K mainGlobals fd.name = some (some (.ref f))) (l : K.lookup f = some ⟨oc, od, .func (PySem.W.fnOf fd.name fd.name (defArgs st) (defBody st) (defScope st) .none kV doc pm an cdv ct), osl⟩)
    (c : PySem.W.codeIn K cdv fd.name = true) (k : PySem.W.keepIn K (.ref f) = true)
    (b : ∀ (kV doc pm : Value) (an : Option Addr) (cdv ct : Value) (us : List Value), us.length = fd.ps.length → bindArgs (PySem.W.fnOf fd.name fd.name (defArgs st) (defBody st) (defScope st) .none kV doc pm an cdv ct) ⟨us, []⟩ = pure (fd.ps.zip us)) (ck : ckD T bl gl fd st = true) : DefIn K mg T bl gl fd :=
  ⟨st, f, _, PySem.W.mg_of X G a, fun_mk l c k, L2.Binds.all (b kV doc pm an cdv ct), ck⟩
/-- the row, from the evaluator's answer -/
theorem walk_pl {l : PySem.W.OpenLaw} {n k : Nat} {q : Program} {loose : List Str} {XP : (Str → Option Value) → Heap → Prop} {YP : World → Heap → Prop} {d : DefRec} {K : Params → PySem.W.Frag} {T : List (Nat × Fd)} {bl : List Str} {gl : List (Str × Int)} {li : Nat} {fd : Fd}
    (most : l.most = some n) (small : n ≤ sizeLine) (plain : d.params.defaults = []) (room : Room k callerA) (part : ∀ (w : World) (h : Heap), YP w h → (K w.params).In h) (at1 : T.lookup li = some fd) (nm : d.name = fd.name) (one : fd.ps.length = 1)
    (F : ∀ (w : World) (mg : Str → Option Value) (h : Heap), (K w.params).In h → h.Ns mainGlobals mg → (∀ e ∈ T, DefIn (K w.params) mg T bl gl e.2) ∧ (∀ x, x ∈ bl → mg x = none) ∧ (∀ x i, gl.lookup x = some i → ∃ t, mg x = some (.int i t)))
    (ev : ∀ ns : List Int, ns.length ≤ n → (∀ z ∈ ns, Builtin.Int.intBits z ≤ 1048576) → ∃ S', evF T k li [.s ns] [] = some (.v (.bool true), S')) :
    PySem.W.WalkO q loose XP YP l.row.toRowW d [] (fun f vs => PySem.call f vs) := by
  refine Att.attach_callB most plain fun w s₀ s₁ mg mb fa o pm cd doc a vs ns G Y ho hd hcd hmg hobj hints hlen hbits hg => ?_
  have kin := part w _ Y
  obtain ⟨f1, f2, f3⟩ := F w mg _ kin G.T.g
  exact law_end room f1 f2 f3 at1 (by rw [← nm]; exact hmg) one kin G.T.g G.T.b G.T.builtins G.T.nolimit hg hobj hints (Nat.le_trans hlen small) (ev ns hlen hbits)
end Pl


namespace Pl
open PySem
def Ok {α : Type} (x : Option α) (Q : α → Prop) : Prop := ∃ a, x = some a ∧ Q a
theorem ok_some {α : Type} {a : α} {Q : α → Prop} (h : Q a) : Ok (some a) Q := ⟨a, rfl, h⟩
theorem ok_bind {α β : Type} {x : Option α} {f : α → Option β} {Q : β → Prop} (h : Ok x fun a => Ok (f a) Q) : Ok (x.bind f) Q := by
  obtain ⟨a, rfl, b, h1, h2⟩ := h
  exact ⟨b, h1, h2⟩
theorem ok_mono {α : Type} {x : Option α} {Q R : α → Prop} (h : Ok x Q) (k : ∀ a, Q a → R a) : Ok x R := let ⟨a, e, q⟩ := h; ⟨a, e, k a q⟩
theorem ok_eq {α : Type} {x y : Option α} {Q : α → Prop} (e : x = y) (h : Ok y Q) : Ok x Q := by rw [e]; exact h
theorem ok_cons {Γ : Fns} {s : St} {b : Bk} {η : En} {S : Sto} {Q : Out → Prop} (h : Ok (evS Γ s η S) fun o => match o with | .nx η' S' => Ok (evB Γ b η' S') Q | o => Q o) : Ok (evB Γ (.cons s b) η S) Q := by
  obtain ⟨o, e, q⟩ := h
  rw [evB, e]
  cases o with
  | nx η' S' => exact q
  | rt w S' => exact ok_some q
  | bk η' S' => exact ok_some q
  | ct η' S' => exact ok_some q
theorem ok_nil {Γ : Fns} {η : En} {S : Sto} {Q : Out → Prop} (h : Q (.nx η S)) : Ok (evB Γ .nil η S) Q := ok_some h
theorem ok_some_iff {α : Type} {a : α} {Q : α → Prop} : Ok (some a) Q ↔ Q a := ⟨fun ⟨_, e, q⟩ => by cases e; exact q, ok_some⟩
/-- what follows a statement -/
def nextB (Γ : Fns) (b : Bk) (Q : Out → Prop) : Out → Prop
  | .nx η' S' => Ok (evB Γ b η' S') Q
  | o => Q o
theorem ok_cons_iff {Γ : Fns} {s : St} {b : Bk} {η : En} {S : Sto} {Q : Out → Prop} : Ok (evB Γ (.cons s b) η S) Q ↔ Ok (evS Γ s η S) (nextB Γ b Q) := by
  constructor
  · rintro ⟨o, e, q⟩
    rw [evB] at e
    obtain ⟨o1, e1, e2⟩ := Option.bind_eq_some_iff.mp e
    refine ⟨o1, e1, ?_⟩
    cases o1 with
    | nx η' S' => exact ⟨o, e2, q⟩
    | rt w S' => cases e2; exact q
    | bk η' S' => cases e2; exact q
    | ct η' S' => cases e2; exact q
  · rintro ⟨o, e, q⟩
    refine ok_cons ⟨o, e, ?_⟩
    cases o <;> exact q
theorem ok_nil_iff {Γ : Fns} {η : En} {S : Sto} {Q : Out → Prop} : Ok (evB Γ .nil η S) Q ↔ Q (.nx η S) := by
  show Ok (some _) Q ↔ _
  exact ok_some_iff
theorem step {Γ : Fns} {s : St} {b : Bk} {η η' : En} {S S' : Sto} {Q : Out → Prop} (h : evS Γ s η S = some (.nx η' S')) (k : Ok (evB Γ b η' S') Q) : Ok (evB Γ (.cons s b) η S) Q := ok_cons ⟨_, h, k⟩
theorem stop {Γ : Fns} {s : St} {b : Bk} {η : En} {S S' : Sto} {w : W} {Q : Out → Prop} (h : evS Γ s η S = some (.rt w S')) (k : Q (.rt w S')) : Ok (evB Γ (.cons s b) η S) Q := ok_cons ⟨_, h, k⟩
theorem run_ok {Γ : Fns} {fd : Fd} {ws : List W} {S : Sto} {Q : W × Sto → Prop} (hl : ws.length = fd.ps.length) (h : Ok (evB Γ fd.body (ws.map some ++ List.replicate (fd.ns.length - ws.length) none) S) fun o => Ok (fin S.length fd.fr o) Q) : Ok (runF Γ fd ws S) Q := by
  unfold runF
  rw [if_pos hl]
  exact ok_bind h
theorem fin_v {n : Nat} {fr : Bool} {d : PyData} {S : Sto} {Q : W × Sto → Prop} (h : Q (.v d, S.take n)) : Ok (fin n fr (.rt (.v d) S)) Q := ok_some h
theorem take_set {S : Sto} {n : Nat} {c : Cell} : (S.set n c).take S.length = S.set n c := List.take_of_length_le (by simp)
theorem bo_mul {i j : Int} (h : -(18446744073709551616) < i ∧ i < 18446744073709551616) : boD .mul (.int i) (.int j) = some (.int (i * j)) := if_pos (.inl h)
theorem bo_pow {i j : Int} (h0 : 0 ≤ j) (h1 : j ≤ 1000000) (h : i.natAbs < 18446744073709551616) : boD .pow (.int i) (.int j) = some (.int (i ^ j.toNat)) := if_pos ⟨h0, h1, h⟩
theorem bo_mod {i j : Int} (h : 0 < j) : boD .mod (.int i) (.int j) = some (.int (i % j)) := if_pos h
theorem bo_fdv {i j : Int} (h : 0 < j) (h1 : j < 1073741824) : boD .fdv (.int i) (.int j) = some (.int (i / j)) := if_pos ⟨h, h1⟩
theorem look_lt {S : Sto} {n : Nat} {xs : List PyData} (h : look S n = some xs) : n < S.length := by
  unfold look at h
  split at h
  · next e => exact (List.getElem?_eq_some_iff.mp e).1
  · cases h
theorem deref_look {S : Sto} {n : Nat} {xs : List PyData} (h : look S n = some xs) : deref S (.r n) = some (.list xs) := by
  simp only [deref, h]
  rfl
theorem look_set {S : Sto} {n : Nat} {xs : List PyData} (h : n < S.length) : look (S.set n (.lst xs)) n = some xs := by
  unfold look
  rw [List.getElem?_set_self h]
theorem look_ne {S : Sto} {n m : Nat} {c : Cell} (h : n ≠ m) : look (S.set n c) m = look S m := by
  unfold look
  rw [List.getElem?_set_ne h]
theorem look_app {S R : Sto} {n : Nat} (h : n < S.length) : look (S ++ R) n = look S n := by
  unfold look
  rw [List.getElem?_append_left h]
theorem look_new {S R : Sto} {i : Nat} : look (S ++ R) (S.length + i) = look R i := by
  unfold look
  rw [List.getElem?_append_right (Nat.le_add_right _ _), Nat.add_sub_cancel_left]
theorem set_app {S R : Sto} {n : Nat} {c : Cell} (h : n < S.length) : (S ++ R).set n c = S.set n c ++ R := List.set_append_left _ _ h
theorem set_new {S R : Sto} {i : Nat} {c : Cell} : (S ++ R).set (S.length + i) c = S ++ R.set i c := by
  rw [List.set_append_right _ _ (Nat.le_add_right _ _), Nat.add_sub_cancel_left]
end Pl


namespace Pl
open PySem
abbrev f_Ldeck : Nat := 100
abbrev f_Ldraw : Nat := 101
abbrev f_Lone : Nat := 102
abbrev f_Lmixed : Nat := 103
abbrev f_Lnear : Nat := 104
abbrev f_Lboard : Nat := 105
abbrev f_rank : Nat := 109
abbrev f_one_asks : Nat := 115
abbrev f_people_of : Nat := 112
abbrev f_is_integer : Nat := 114
abbrev f_posts_of : Nat := 113
abbrev f_Lsmall_board : Nat := 145
abbrev f_Lwhole : Nat := 126
def s_Ldeck_0 : Pl.St := .ret (.cell (.lst (.cons (.blt .list (.cons (.sl (.var 0) .nop (.con (.int 63))) .nil)) (.cons (.con (.int 0)) (.cons (.con (.int 0)) (.cons (.con (.int 0)) .nil))))))
def b_Ldeck : Pl.Bk := (.cons s_Ldeck_0 .nil)
def d_Ldeck : Pl.Fd := { name := (Str.ofString "_law_deck"), ps := [(Str.ofString "_law_script")], ns := [(Str.ofString "_law_script")], fr := true, body := b_Ldeck }
def s_Ldraw_0 : Pl.St := .seti 0 (.con (.int 2)) (.bin .fdv (.ix (.var 0) (.con (.int 2))) (.var 1))
def s_Ldraw_1 : Pl.St := .asg 2 (.bin .mod (.blt .int (.cons (.ix (.var 0) (.con (.int 2))) .nil)) (.var 1))
def s_Ldraw_2 : Pl.St := .asg 3 (.ix (.ix (.var 0) (.con (.int 0))) (.bin .mod (.blt .int (.cons (.ix (.var 0) (.con (.int 1))) .nil)) (.blt .len (.cons (.ix (.var 0) (.con (.int 0))) .nil))))
def s_Ldraw_3 : Pl.St := .ret (.bin .mod (.blt .int (.cons (.blt .abs (.cons (.var 3) .nil)) .nil)) (.var 1))
def s_Ldraw_4 : Pl.St := .seti 0 (.con (.int 2)) (.bin .fdv (.blt .abs (.cons (.var 3) .nil)) (.var 1))
def s_Ldraw_5 : Pl.St := .ret (.bin .mod (.bin .fdv (.var 4) (.con (.int 32))) (.var 1))
def s_Ldraw_6 : Pl.St := .asg 4 (.bin .mod (.bin .pow (.blt .int (.cons (.bin .add (.bin .mul (.var 4) (.bin .add (.bin .mul (.con (.int 2)) (.ix (.var 0) (.con (.int 3)))) (.con (.int 7)))) (.con (.int 7013))) .nil)) (.con (.int 3))) (.con (.int 2147483647)))
def s_Ldraw_7 : Pl.St := .asg 4 (.bin .mod (.bin .pow (.blt .int (.cons (.bin .add (.bin .mod (.blt .int (.cons (.var 3) .nil)) (.con (.int 2147483497))) (.bin .mul (.con (.int 49979687)) (.ix (.var 0) (.con (.int 3))))) .nil)) (.con (.int 5))) (.con (.int 2147483563)))
def s_Ldraw_8 : Pl.St := .ite (.and (.cmp .ge (.blt .abs (.cons (.var 3) .nil)) (.bin .pow (.con (.int 10)) (.con (.int 18)))) (.cmp .le (.ix (.var 0) (.con (.int 1))) (.blt .len (.cons (.ix (.var 0) (.con (.int 0))) .nil)))) (.cons s_Ldraw_4 (.cons s_Ldraw_3 .nil)) .nil
def s_Ldraw_9 : Pl.St := .seti 0 (.con (.int 1)) (.bin .add (.ix (.var 0) (.con (.int 1))) (.con (.int 1)))
def s_Ldraw_10 : Pl.St := .ite (.cmp .ne (.ix (.var 0) (.con (.int 0))) (.lst .nil)) (.cons s_Ldraw_2 .nil) .nil
def s_Ldraw_11 : Pl.St := .ite (.cmp .gt (.ix (.var 0) (.con (.int 2))) (.con (.int 0))) (.cons s_Ldraw_1 (.cons s_Ldraw_0 (.cons (.ret (.var 2)) .nil))) .nil
def s_Ldraw_12 : Pl.St := .seti 0 (.con (.int 3)) (.bin .add (.ix (.var 0) (.con (.int 3))) (.con (.int 1)))
def b_Ldraw : Pl.Bk := (.cons s_Ldraw_12 (.cons s_Ldraw_11 (.cons (.asg 3 (.con (.int 71))) (.cons s_Ldraw_10 (.cons s_Ldraw_9 (.cons s_Ldraw_8 (.cons s_Ldraw_7 (.cons s_Ldraw_6 (.cons s_Ldraw_5 .nil)))))))))
def d_Ldraw : Pl.Fd := { name := (Str.ofString "_law_draw"), ps := [(Str.ofString "_law_deck_here"), (Str.ofString "_law_many")], ns := [(Str.ofString "_law_deck_here"), (Str.ofString "_law_many"), (Str.ofString "_law_found"), (Str.ofString "_law_cell"), (Str.ofString "_law_mixed_here")], fr := false, body := b_Ldraw }
def s_Lone_0 : Pl.St := .ret (.ix (.var 1) (.call f_Ldraw (.cons (.var 0) (.cons (.blt .len (.cons (.var 1) .nil)) .nil))))
def b_Lone : Pl.Bk := (.cons s_Lone_0 .nil)
def d_Lone : Pl.Fd := { name := (Str.ofString "_law_one"), ps := [(Str.ofString "_law_deck_here"), (Str.ofString "_law_items")], ns := [(Str.ofString "_law_deck_here"), (Str.ofString "_law_items")], fr := false, body := b_Lone }
def s_Lmixed_0 : Pl.St := .app 3 (.pop 2 (.call f_Ldraw (.cons (.var 0) (.cons (.blt .len (.cons (.var 2) .nil)) .nil))))
def s_Lmixed_1 : Pl.St := .ret (.blt .tuple (.cons (.var 3) .nil))
def s_Lmixed_2 : Pl.St := .loop [4] false (.rng1 (.blt .len (.cons (.var 2) .nil))) (.cons s_Lmixed_0 .nil)
def s_Lmixed_3 : Pl.St := .par [.nm 2, .nm 3] (.cons (.cell (.blt .list (.cons (.var 1) .nil))) (.cons (.cell (.lst .nil)) .nil))
def b_Lmixed : Pl.Bk := (.cons s_Lmixed_3 (.cons s_Lmixed_2 (.cons (.fz 3) (.cons s_Lmixed_1 .nil))))
def d_Lmixed : Pl.Fd := { name := (Str.ofString "_law_mixed"), ps := [(Str.ofString "_law_deck_here"), (Str.ofString "_law_items")], ns := [(Str.ofString "_law_deck_here"), (Str.ofString "_law_items"), (Str.ofString "_law_left"), (Str.ofString "_law_found"), (Str.ofString "_law_turn")], fr := false, body := b_Lmixed }
def s_Lnear_0 : Pl.St := .par [.at 2 (.bin .sub (.var 4) (.con (.int 1))), .at 2 (.var 4)] (.cons (.ix (.var 2) (.var 4)) (.cons (.ix (.var 2) (.bin .sub (.var 4) (.con (.int 1)))) .nil))
def s_Lnear_1 : Pl.St := .ite (.cmp .gt (.var 4) (.con (.int 0))) (.cons s_Lnear_0 .nil) .nil
def s_Lnear_2 : Pl.St := .asg 4 (.call f_Ldraw (.cons (.var 0) (.cons (.blt .len (.cons (.var 2) .nil)) .nil)))
def s_Lnear_3 : Pl.St := .ret (.blt .tuple (.cons (.var 2) .nil))
def s_Lnear_4 : Pl.St := .loop [3] false (.rng1 (.call f_Ldraw (.cons (.var 0) (.cons (.con (.int 4)) .nil)))) (.cons s_Lnear_2 (.cons s_Lnear_1 .nil))
def s_Lnear_5 : Pl.St := .asg 2 (.cell (.blt .list (.cons (.var 1) .nil)))
def b_Lnear : Pl.Bk := (.cons s_Lnear_5 (.cons s_Lnear_4 (.cons (.fz 2) (.cons s_Lnear_3 .nil))))
def d_Lnear : Pl.Fd := { name := (Str.ofString "_law_near"), ps := [(Str.ofString "_law_deck_here"), (Str.ofString "_law_order")], ns := [(Str.ofString "_law_deck_here"), (Str.ofString "_law_order"), (Str.ofString "_law_found"), (Str.ofString "_law_turn"), (Str.ofString "_law_at")], fr := false, body := b_Lnear }
def s_Lboard_0 : Pl.St := .app 3 (.ife (.cmp .eq (.call f_Ldraw (.cons (.var 0) (.cons (.con (.int 3)) .nil))) (.con (.int 0))) (.var 5) (.call f_Lmixed (.cons (.var 0) (.cons (.lrng false (.rng1 (.var 1))) .nil))))
def s_Lboard_1 : Pl.St := .asg 5 (.call f_Lnear (.cons (.var 0) (.cons (.call f_Lone (.cons (.var 0) (.cons (.var 3) .nil))) .nil)))
def s_Lboard_2 : Pl.St := .ret (.tup (.cons (.blt .tuple (.cons (.lc (.call f_Lone (.cons (.var 0) (.cons (.var 6) .nil))) [4] false (.rng1 (.var 2)) (.con (.bool true))) .nil)) (.cons (.call f_Lmixed (.cons (.var 0) (.cons (.var 3) .nil))) .nil)))
def s_Lboard_3 : Pl.St := .asg 6 (.call f_Lone (.cons (.var 0) (.cons (.lst (.cons (.lst (.cons (.con (.int 1)) .nil)) (.cons (.lst (.cons (.con (.int 1)) (.cons (.con (.int 1)) (.cons (.con (.int 2)) .nil)))) (.cons (.lst (.cons (.con (.int 1)) (.cons (.con (.int 1)) (.cons (.con (.int 2)) (.cons (.con (.int 2)) (.cons (.con (.int 3)) .nil)))))) (.cons (.lst (.cons (.con (.int 0)) (.cons (.con (.int 1)) (.cons (.con (.int 1)) (.cons (.con (.int 2)) (.cons (.var 1) (.cons (.con (.int 7)) .nil))))))) .nil))))) .nil)))
def s_Lboard_4 : Pl.St := .loop [4] false (.rng1 (.bin .sub (.var 2) (.con (.int 1)))) (.cons s_Lboard_1 (.cons s_Lboard_0 .nil))
def s_Lboard_5 : Pl.St := .asg 3 (.cell (.lst (.cons (.call f_Lmixed (.cons (.var 0) (.cons (.lrng false (.rng1 (.var 1))) .nil))) .nil)))
def b_Lboard : Pl.Bk := (.cons s_Lboard_5 (.cons s_Lboard_4 (.cons (.fz 3) (.cons s_Lboard_3 (.cons s_Lboard_2 .nil)))))
def d_Lboard : Pl.Fd := { name := (Str.ofString "_law_board"), ps := [(Str.ofString "_law_deck_here"), (Str.ofString "_law_people"), (Str.ofString "_law_posts")], ns := [(Str.ofString "_law_deck_here"), (Str.ofString "_law_people"), (Str.ofString "_law_posts"), (Str.ofString "_law_orders"), (Str.ofString "_law_post"), (Str.ofString "_law_near_here"), (Str.ofString "_law_wide")], fr := false, body := b_Lboard }
def s_rank_0 : Pl.St := .ret (.bin .add (.idx (.ix (.ix (.var 0) (.con (.int 1))) (.var 1)) (.var 2)) (.con (.int 1)))
def b_rank : Pl.Bk := (.cons s_rank_0 .nil)
def d_rank : Pl.Fd := { name := (Str.ofString "rank"), ps := [(Str.ofString "board"), (Str.ofString "post"), (Str.ofString "person")], ns := [(Str.ofString "board"), (Str.ofString "post"), (Str.ofString "person")], fr := false, body := b_rank }
def x_one_asks_0 : Pl.Ex := .lc (.var 5) [5, 6] true (.enum (.var 1)) (.and (.isn false (.ix (.var 2) (.var 5))) (.cmp .lt (.ix (.var 3) (.var 5)) (.blt .len (.cons (.var 6) .nil))))
def x_one_asks_1 : Pl.Ex := .lc (.bin .add (.var 9) (.blt .int (.cons (.cmp .eq (.var 5) (.ix (.var 4) (.con (.int 0)))) .nil))) [5, 9] true (.enum (.var 3)) (.con (.bool true))
def x_one_asks_2 : Pl.Ex := .lc (.var 5) [5] false (.seq (.ix (.ix (.var 0) (.con (.int 1))) (.var 7))) (.or (.cmp .eq (.ix (.var 2) (.var 5)) (.var 7)) (.cmp .eq (.var 5) (.ix (.var 4) (.con (.int 0)))))
def x_one_asks_3 : Pl.Ex := .lc (.ife (.cmp .isin (.var 5) (.var 11)) (.var 7) (.ife (.cmp .isin (.var 5) (.var 10)) (.con .none) (.var 6))) [5, 6] true (.enum (.var 2)) (.con (.bool true))
def s_one_asks_0 : Pl.St := .ret (.tup (.cons (.var 12) (.cons (.var 8) .nil)))
def s_one_asks_1 : Pl.St := .asg 11 (.sl (.var 10) .nop (.ix (.ix (.var 0) (.con (.int 0))) (.var 7)))
def s_one_asks_2 : Pl.St := .asg 7 (.ix (.ix (.var 1) (.ix (.var 4) (.con (.int 0)))) (.ix (.var 3) (.ix (.var 4) (.con (.int 0)))))
def s_one_asks_3 : Pl.St := .ite (.cmp .eq (.var 4) (.lst .nil)) (.cons (.ret (.con .none)) .nil) .nil
def b_one_asks : Pl.Bk := (.cons (.asg 4 x_one_asks_0) (.cons s_one_asks_3 (.cons s_one_asks_2 (.cons (.asg 8 x_one_asks_1) (.cons (.asg 10 x_one_asks_2) (.cons s_one_asks_1 (.cons (.asg 12 x_one_asks_3) (.cons s_one_asks_0 .nil))))))))
def d_one_asks : Pl.Fd := { name := (Str.ofString "one_asks"), ps := [(Str.ofString "board"), (Str.ofString "wishes"), (Str.ofString "have"), (Str.ofString "steps")], ns := [(Str.ofString "board"), (Str.ofString "wishes"), (Str.ofString "have"), (Str.ofString "steps"), (Str.ofString "free"), (Str.ofString "person"), (Str.ofString "own"), (Str.ofString "post"), (Str.ofString "asked_now"), (Str.ofString "step"), (Str.ofString "asking"), (Str.ofString "kept"), (Str.ofString "after")], fr := false, body := b_one_asks }
def s_gone_through_0 : Pl.St := .asg 3 (.call f_one_asks (.cons (.var 0) (.cons (.var 1) (.cons (.ix (.var 2) (.con (.int 0))) (.cons (.ix (.var 2) (.con (.int 1))) .nil)))))
def s_gone_through_1 : Pl.St := .whl (.isn true (.var 3)) (.cons (.asg 2 (.var 3)) (.cons s_gone_through_0 .nil))
def s_gone_through_2 : Pl.St := .asg 3 (.call f_one_asks (.cons (.var 0) (.cons (.var 1) (.cons (.ix (.var 2) (.con (.int 0))) (.cons (.ix (.var 2) (.con (.int 1))) .nil)))))
def s_gone_through_3 : Pl.St := .asg 2 (.tup (.cons (.bin .mul (.lst (.cons (.con .none) .nil)) (.blt .len (.cons (.var 1) .nil))) (.cons (.bin .mul (.lst (.cons (.con (.int 0)) .nil)) (.blt .len (.cons (.var 1) .nil))) .nil)))
def b_gone_through : Pl.Bk := (.cons s_gone_through_3 (.cons s_gone_through_2 (.cons s_gone_through_1 (.cons (.ret (.var 2)) .nil))))
def d_gone_through : Pl.Fd := { name := (Str.ofString "gone_through"), ps := [(Str.ofString "board"), (Str.ofString "wishes")], ns := [(Str.ofString "board"), (Str.ofString "wishes"), (Str.ofString "now"), (Str.ofString "later")], fr := false, body := b_gone_through }
def s_people_of_0 : Pl.St := .ret (.blt .len (.cons (.ix (.ix (.var 0) (.con (.int 1))) (.con (.int 0))) .nil))
def b_people_of : Pl.Bk := (.cons s_people_of_0 .nil)
def d_people_of : Pl.Fd := { name := (Str.ofString "people_of"), ps := [(Str.ofString "board")], ns := [(Str.ofString "board")], fr := false, body := b_people_of }
def s_is_integer_0 : Pl.St := .ret (.and (.blt .isint (.cons (.var 0) .nil)) (.and (.not (.blt .isbool (.cons (.var 0) .nil))) (.chain .le .le (.var 1) (.var 0) (.var 2))))
def b_is_integer : Pl.Bk := (.cons s_is_integer_0 .nil)
def d_is_integer : Pl.Fd := { name := (Str.ofString "is_integer"), ps := [(Str.ofString "value"), (Str.ofString "low"), (Str.ofString "high")], ns := [(Str.ofString "value"), (Str.ofString "low"), (Str.ofString "high")], fr := false, body := b_is_integer }
def s_posts_of_0 : Pl.St := .ret (.blt .len (.cons (.ix (.var 0) (.con (.int 0))) .nil))
def b_posts_of : Pl.Bk := (.cons s_posts_of_0 .nil)
def d_posts_of : Pl.Fd := { name := (Str.ofString "posts_of"), ps := [(Str.ofString "board")], ns := [(Str.ofString "board")], fr := false, body := b_posts_of }
def s_Lsmall_board_0 : Pl.St := .ret (.call f_Lboard (.cons (.var 0) (.cons (.var 2) (.cons (.var 3) .nil))))
def s_Lsmall_board_1 : Pl.St := .unp [.nm 2, .nm 3] (.call f_Lone (.cons (.var 0) (.cons (.var 1) .nil)))
def s_Lsmall_board_2 : Pl.St := .asg 1 (.lst (.cons (.tup (.cons (.con (.int 2)) (.cons (.con (.int 2)) .nil))) (.cons (.tup (.cons (.con (.int 3)) (.cons (.con (.int 2)) .nil))) (.cons (.tup (.cons (.con (.int 3)) (.cons (.con (.int 2)) .nil))) (.cons (.tup (.cons (.con (.int 3)) (.cons (.con (.int 3)) .nil))) (.cons (.tup (.cons (.con (.int 4)) (.cons (.con (.int 2)) .nil))) (.cons (.tup (.cons (.con (.int 4)) (.cons (.con (.int 3)) .nil))) (.cons (.tup (.cons (.con (.int 4)) (.cons (.con (.int 4)) .nil))) (.cons (.tup (.cons (.con (.int 5)) (.cons (.con (.int 3)) .nil))) (.cons (.tup (.cons (.con (.int 5)) (.cons (.con (.int 2)) .nil))) .nil))))))))))
def b_Lsmall_board : Pl.Bk := (.cons s_Lsmall_board_2 (.cons s_Lsmall_board_1 (.cons s_Lsmall_board_0 .nil)))
def d_Lsmall_board : Pl.Fd := { name := (Str.ofString "_law_small_board"), ps := [(Str.ofString "_law_deck_here")], ns := [(Str.ofString "_law_deck_here"), (Str.ofString "_law_sizes"), (Str.ofString "_law_people"), (Str.ofString "_law_posts")], fr := false, body := b_Lsmall_board }
def s_Lwhole_0 : Pl.St := .ret (.and (.blt .isint (.cons (.var 0) .nil)) (.and (.not (.blt .isbool (.cons (.var 0) .nil))) (.chain .le .le (.var 1) (.var 0) (.var 2))))
def b_Lwhole : Pl.Bk := (.cons s_Lwhole_0 .nil)
def d_Lwhole : Pl.Fd := { name := (Str.ofString "_law_whole"), ps := [(Str.ofString "_law_value"), (Str.ofString "_law_low"), (Str.ofString "_law_high")], ns := [(Str.ofString "_law_value"), (Str.ofString "_law_low"), (Str.ofString "_law_high")], fr := false, body := b_Lwhole }
end Pl


namespace Pl
open PySem
abbrev f_above : Nat := 118
abbrev f_is_lot : Nat := 195
abbrev f_Labove : Nat := 132
abbrev f_Lare_lots : Nat := 198
def s_above_0 : Pl.St := .ret (.blt .tuple (.cons (.blt .sorted (.cons (.sl (.var 3) .nop (.idx (.var 3) (.var 2))) .nil)) .nil))
def s_above_1 : Pl.St := .asg 3 (.ix (.ix (.var 0) (.con (.int 1))) (.var 1))
def b_above : Pl.Bk := (.cons s_above_1 (.cons s_above_0 .nil))
def d_above : Pl.Fd := { name := (Str.ofString "above"), ps := [(Str.ofString "board"), (Str.ofString "post"), (Str.ofString "person")], ns := [(Str.ofString "board"), (Str.ofString "post"), (Str.ofString "person"), (Str.ofString "order")], fr := false, body := b_above }
def x_is_lot_0 : Pl.Ex := .lc (.call f_is_integer (.cons (.var 4) (.cons (.con (.int 0)) (.cons (.bin .sub (.call f_people_of (.cons (.var 0) .nil)) (.con (.int 1))) .nil)))) [4] false (.seq (.var 3)) (.con (.bool true))
def x_is_lot_1 : Pl.Ex := .lc (.cmp .isin (.var 4) (.call f_above (.cons (.var 0) (.cons (.var 2) (.cons (.var 1) .nil))))) [4] false (.seq (.var 3)) (.con (.bool true))
def s_is_lot_0 : Pl.St := .ret (.and (.cmp .eq (.lset true (.var 3)) (.blt .list (.cons (.var 3) .nil))) (.blt .all (.cons x_is_lot_1 .nil)))
def s_is_lot_1 : Pl.St := .ite (.not (.blt .all (.cons x_is_lot_0 .nil))) (.cons (.ret (.con (.bool false))) .nil) .nil
def s_is_lot_2 : Pl.St := .ite (.or (.not (.blt .istup (.cons (.var 3) .nil))) (.cmp .ne (.blt .len (.cons (.var 3) .nil)) (.ix (.ix (.var 0) (.con (.int 0))) (.var 2)))) (.cons (.ret (.con (.bool false))) .nil) .nil
def b_is_lot : Pl.Bk := (.cons s_is_lot_2 (.cons s_is_lot_1 (.cons s_is_lot_0 .nil)))
def d_is_lot : Pl.Fd := { name := (Str.ofString "is_lot"), ps := [(Str.ofString "board"), (Str.ofString "person"), (Str.ofString "post"), (Str.ofString "value")], ns := [(Str.ofString "board"), (Str.ofString "person"), (Str.ofString "post"), (Str.ofString "value"), (Str.ofString "own")], fr := false, body := b_is_lot }
def s_Labove_0 : Pl.St := .ret (.sl (.var 3) .nop (.idx (.var 3) (.var 2)))
def s_Labove_1 : Pl.St := .asg 3 (.blt .list (.cons (.ix (.ix (.var 0) (.con (.int 1))) (.var 1)) .nil))
def b_Labove : Pl.Bk := (.cons s_Labove_1 (.cons s_Labove_0 .nil))
def d_Labove : Pl.Fd := { name := (Str.ofString "_law_above"), ps := [(Str.ofString "_law_board_here"), (Str.ofString "_law_post"), (Str.ofString "_law_person")], ns := [(Str.ofString "_law_board_here"), (Str.ofString "_law_post"), (Str.ofString "_law_person"), (Str.ofString "_law_order")], fr := false, body := b_Labove }
def x_Lare_lots_0 : Pl.Ex := .lc (.con (.int 1)) [7] false (.seq (.var 6)) (.or (.not (.blt .isint (.cons (.var 7) .nil))) (.blt .isbool (.cons (.var 7) .nil)))
def x_Lare_lots_1 : Pl.Ex := .lc (.blt .int (.cons (.var 7) .nil)) [7] false (.seq (.var 6)) (.con (.bool true))
def x_Lare_lots_2 : Pl.Ex := .lc (.con (.int 1)) [7] false (.seq (.var 6)) (.or (.cmp .isin (.var 7) (.var 4)) (.cmp .nin (.var 7) (.call f_Labove (.cons (.var 0) (.cons (.var 5) (.cons (.var 1) .nil))))))
def s_Lare_lots_0 : Pl.St := .ite (.cmp .ne x_Lare_lots_2 (.lst .nil)) (.cons (.ret (.con (.bool false))) .nil) .nil
def s_Lare_lots_1 : Pl.St := .ite (.cmp .ne (.blt .list (.cons (.var 6) .nil)) (.lset true x_Lare_lots_1)) (.cons (.ret (.con (.bool false))) .nil) .nil
def s_Lare_lots_2 : Pl.St := .ite (.cmp .ne x_Lare_lots_0 (.lst .nil)) (.cons (.ret (.con (.bool false))) .nil) .nil
def s_Lare_lots_3 : Pl.St := .ite (.or (.not (.blt .istup (.cons (.var 6) .nil))) (.cmp .ne (.blt .len (.cons (.var 6) .nil)) (.ix (.ix (.var 0) (.con (.int 0))) (.var 5)))) (.cons (.ret (.con (.bool false))) .nil) .nil
def s_Lare_lots_4 : Pl.St := .loop [5, 6] true (.zip (.var 2) (.var 3)) (.cons s_Lare_lots_3 (.cons s_Lare_lots_2 (.cons s_Lare_lots_1 (.cons s_Lare_lots_0 (.cons (.ext 4 (.var 6)) .nil)))))
def s_Lare_lots_5 : Pl.St := .ite (.or (.not (.blt .istup (.cons (.var 3) .nil))) (.cmp .ne (.blt .len (.cons (.var 3) .nil)) (.blt .len (.cons (.var 2) .nil)))) (.cons (.ret (.con (.bool false))) .nil) .nil
def b_Lare_lots : Pl.Bk := (.cons s_Lare_lots_5 (.cons (.asg 4 (.cell (.lst .nil))) (.cons s_Lare_lots_4 (.cons (.ret (.con (.bool true))) .nil))))
def d_Lare_lots : Pl.Fd := { name := (Str.ofString "_law_are_lots"), ps := [(Str.ofString "_law_board_here"), (Str.ofString "_law_person"), (Str.ofString "_law_posts"), (Str.ofString "_law_value")], ns := [(Str.ofString "_law_board_here"), (Str.ofString "_law_person"), (Str.ofString "_law_posts"), (Str.ofString "_law_value"), (Str.ofString "_law_seen"), (Str.ofString "_law_post"), (Str.ofString "_law_lot"), (Str.ofString "_law_own")], fr := false, body := b_Lare_lots }
end Pl


namespace Pl
open PySem
abbrev f_Ltriples : Nat := 219
abbrev f_are_unlike : Nat := 121
abbrev f_is_triple : Nat := 122
abbrev f_pools : Nat := 123
abbrev f_lots_of : Nat := 124
abbrev f_quarrel : Nat := 125
abbrev f_is_calm : Nat := 128
def x_Ltriples_0 : Pl.Ex := .lc (.tup (.cons (.var 2) (.cons (.var 3) (.cons (.var 4) .nil)))) [4] false (.rng1 (.var 0)) (.cmp .eq (.lset false (.lst (.cons (.var 2) (.cons (.var 3) (.cons (.var 4) .nil))))) (.con (.int 3)))
def s_Ltriples_0 : Pl.St := .loop [3] false (.rng1 (.var 0)) (.cons (.ext 1 x_Ltriples_0) .nil)
def s_Ltriples_1 : Pl.St := .loop [2] false (.rng1 (.var 0)) (.cons s_Ltriples_0 .nil)
def b_Ltriples : Pl.Bk := (.cons (.asg 1 (.cell (.lst .nil))) (.cons s_Ltriples_1 (.cons (.fz 1) (.cons (.ret (.var 1)) .nil))))
def d_Ltriples : Pl.Fd := { name := (Str.ofString "_law_triples"), ps := [(Str.ofString "_law_people")], ns := [(Str.ofString "_law_people"), (Str.ofString "_law_found"), (Str.ofString "_law_i"), (Str.ofString "_law_j"), (Str.ofString "_law_k")], fr := false, body := b_Ltriples }
def s_are_unlike_0 : Pl.St := .ret (.cmp .eq (.lset false (.var 0)) (.blt .len (.cons (.var 0) .nil)))
def b_are_unlike : Pl.Bk := (.cons s_are_unlike_0 .nil)
def d_are_unlike : Pl.Fd := { name := (Str.ofString "are_unlike"), ps := [(Str.ofString "items")], ns := [(Str.ofString "items")], fr := false, body := b_are_unlike }
def s_is_triple_0 : Pl.St := .ret (.and (.chain .lt .lt (.call f_rank (.cons (.var 0) (.cons (.var 6) (.cons (.var 3) .nil)))) (.call f_rank (.cons (.var 0) (.cons (.var 6) (.cons (.var 4) .nil)))) (.call f_rank (.cons (.var 0) (.cons (.var 6) (.cons (.var 5) .nil))))) (.cmp .lt (.call f_rank (.cons (.var 0) (.cons (.var 7) (.cons (.var 5) .nil)))) (.call f_rank (.cons (.var 0) (.cons (.var 7) (.cons (.var 3) .nil))))))
def s_is_triple_1 : Pl.St := .ite (.or (.not (.call f_are_unlike (.cons (.var 1) .nil))) (.or (.cmp .eq (.var 6) (.var 7)) (.or (.cmp .lt (.ix (.ix (.var 0) (.con (.int 0))) (.var 6)) (.con (.int 1))) (.cmp .lt (.ix (.ix (.var 0) (.con (.int 0))) (.var 7)) (.con (.int 1)))))) (.cons (.ret (.con (.bool false))) .nil) .nil
def s_is_triple_2 : Pl.St := .par [.tp [3, 4, 5], .tp [6, 7]] (.cons (.var 1) (.cons (.var 2) .nil))
def b_is_triple : Pl.Bk := (.cons s_is_triple_2 (.cons s_is_triple_1 (.cons s_is_triple_0 .nil)))
def d_is_triple : Pl.Fd := { name := (Str.ofString "is_triple"), ps := [(Str.ofString "board"), (Str.ofString "people"), (Str.ofString "posts")], ns := [(Str.ofString "board"), (Str.ofString "people"), (Str.ofString "posts"), (Str.ofString "i"), (Str.ofString "j"), (Str.ofString "k"), (Str.ofString "a"), (Str.ofString "b")], fr := false, body := b_is_triple }
def x_pools_0 : Pl.Ex := .lc (.var 9) [9] false (.seq (.call f_above (.cons (.var 0) (.cons (.var 6) (.cons (.var 4) .nil))))) (.cmp .nin (.var 9) (.var 1))
def x_pools_1 : Pl.Ex := .lc (.var 9) [9] false (.seq (.call f_above (.cons (.var 0) (.cons (.var 7) (.cons (.var 3) .nil))))) (.cmp .nin (.var 9) (.var 1))
def s_pools_0 : Pl.St := .ret (.tup (.cons (.var 8) (.cons x_pools_1 .nil)))
def s_pools_1 : Pl.St := .par [.tp [3, 4, 5], .tp [6, 7]] (.cons (.var 1) (.cons (.var 2) .nil))
def b_pools : Pl.Bk := (.cons s_pools_1 (.cons (.asg 8 x_pools_0) (.cons s_pools_0 .nil)))
def d_pools : Pl.Fd := { name := (Str.ofString "pools"), ps := [(Str.ofString "board"), (Str.ofString "people"), (Str.ofString "posts")], ns := [(Str.ofString "board"), (Str.ofString "people"), (Str.ofString "posts"), (Str.ofString "i"), (Str.ofString "j"), (Str.ofString "k"), (Str.ofString "a"), (Str.ofString "b"), (Str.ofString "first"), (Str.ofString "person")], fr := false, body := b_pools }
def x_lots_of_0 : Pl.Ex := .lc (.var 8) [8] false (.seq (.var 5)) (.cmp .nin (.var 8) (.var 6))
def x_lots_of_1 : Pl.Ex := .lc (.var 8) [8] false (.seq (.var 5)) (.cmp .isin (.var 8) (.var 6))
def x_lots_of_2 : Pl.Ex := .lc (.var 8) [8] false (.seq (.var 6)) (.cmp .nin (.var 8) (.var 9))
def s_lots_of_0 : Pl.St := .ret (.tup (.cons (.blt .tuple (.cons (.blt .sorted (.cons (.var 9) .nil)) .nil)) (.cons (.blt .tuple (.cons (.var 10) .nil)) .nil)))
def s_lots_of_1 : Pl.St := .ite (.or (.cmp .lt (.blt .len (.cons (.var 9) .nil)) (.bin .sub (.ix (.ix (.var 0) (.con (.int 0))) (.var 3)) (.con (.int 1)))) (.cmp .lt (.blt .len (.cons (.var 10) .nil)) (.bin .sub (.ix (.ix (.var 0) (.con (.int 0))) (.var 4)) (.con (.int 1))))) (.cons (.ret (.con .none)) .nil) .nil
def s_lots_of_2 : Pl.St := .asg 10 (.sl x_lots_of_2 .nop (.bin .sub (.ix (.ix (.var 0) (.con (.int 0))) (.var 4)) (.con (.int 1))))
def s_lots_of_3 : Pl.St := .asg 9 (.sl (.bin .add (.var 7) x_lots_of_1) .nop (.bin .sub (.ix (.ix (.var 0) (.con (.int 0))) (.var 3)) (.con (.int 1))))
def s_lots_of_4 : Pl.St := .unp [.nm 5, .nm 6] (.call f_pools (.cons (.var 0) (.cons (.var 1) (.cons (.var 2) .nil))))
def b_lots_of : Pl.Bk := (.cons (.unp [.nm 3, .nm 4] (.var 2)) (.cons s_lots_of_4 (.cons (.asg 7 x_lots_of_0) (.cons s_lots_of_3 (.cons s_lots_of_2 (.cons s_lots_of_1 (.cons s_lots_of_0 .nil)))))))
def d_lots_of : Pl.Fd := { name := (Str.ofString "lots_of"), ps := [(Str.ofString "board"), (Str.ofString "people"), (Str.ofString "posts")], ns := [(Str.ofString "board"), (Str.ofString "people"), (Str.ofString "posts"), (Str.ofString "a"), (Str.ofString "b"), (Str.ofString "first"), (Str.ofString "second"), (Str.ofString "alone"), (Str.ofString "person"), (Str.ofString "lot"), (Str.ofString "other")], fr := false, body := b_lots_of }
def x_quarrel_0 : Pl.Ex := .lcp [(4, 1), (5, 1), (6, 1)]
def x_quarrel_1 : Pl.Ex := .lcp [(8, 2), (9, 2)]
def s_quarrel_0 : Pl.St := .ret (.bin .add (.bin .add (.var 3) (.var 7)) (.var 10))
def s_quarrel_1 : Pl.St := .ite (.isn true (.var 10)) (.cons s_quarrel_0 .nil) .nil
def s_quarrel_2 : Pl.St := .asg 10 (.call f_lots_of (.cons (.var 0) (.cons (.var 3) (.cons (.var 7) .nil))))
def s_quarrel_3 : Pl.St := .ite (.call f_is_triple (.cons (.var 0) (.cons (.var 3) (.cons (.var 7) .nil)))) (.cons s_quarrel_2 (.cons s_quarrel_1 .nil)) .nil
def s_quarrel_4 : Pl.St := .loop [7] false (.seq x_quarrel_1) (.cons s_quarrel_3 .nil)
def s_quarrel_5 : Pl.St := .loop [3] false (.seq x_quarrel_0) (.cons s_quarrel_4 .nil)
def s_quarrel_6 : Pl.St := .par [.nm 1, .nm 2] (.cons (.lrng false (.rng1 (.call f_people_of (.cons (.var 0) .nil)))) (.cons (.lrng false (.rng1 (.call f_posts_of (.cons (.var 0) .nil)))) .nil))
def b_quarrel : Pl.Bk := (.cons s_quarrel_6 (.cons s_quarrel_5 (.cons (.ret (.con .none)) .nil)))
def d_quarrel : Pl.Fd := { name := (Str.ofString "quarrel"), ps := [(Str.ofString "board")], ns := [(Str.ofString "board"), (Str.ofString "everybody"), (Str.ofString "posts"), (Str.ofString "people"), (Str.ofString "i"), (Str.ofString "j"), (Str.ofString "k"), (Str.ofString "pair"), (Str.ofString "a"), (Str.ofString "b"), (Str.ofString "lots")], fr := false, body := b_quarrel }
def s_is_calm_0 : Pl.St := .ret (.isn false (.call f_quarrel (.cons (.var 0) .nil)))
def b_is_calm : Pl.Bk := (.cons s_is_calm_0 .nil)
def d_is_calm : Pl.Fd := { name := (Str.ofString "is_calm"), ps := [(Str.ofString "board")], ns := [(Str.ofString "board")], fr := false, body := b_is_calm }
end Pl


namespace Pl
open PySem
abbrev f_Lis_crossed : Nat := 263
abbrev f_Lhas_lots : Nat := 264
abbrev f_Lcalm : Nat := 265
def s_Lis_crossed_0 : Pl.St := .ret (.and (.chain .lt .lt (.idx (.var 3) (.var 5)) (.idx (.var 3) (.var 6)) (.idx (.var 3) (.var 7))) (.cmp .lt (.idx (.var 4) (.var 7)) (.idx (.var 4) (.var 5))))
def s_Lis_crossed_1 : Pl.St := .unp [.nm 5, .nm 6, .nm 7] (.var 1)
def s_Lis_crossed_2 : Pl.St := .par [.nm 3, .nm 4] (.cons (.blt .list (.cons (.ix (.ix (.var 0) (.con (.int 1))) (.ix (.var 2) (.con (.int 0)))) .nil)) (.cons (.blt .list (.cons (.ix (.ix (.var 0) (.con (.int 1))) (.ix (.var 2) (.con (.int 1)))) .nil)) .nil))
def s_Lis_crossed_3 : Pl.St := .ite (.or (.cmp .lt (.lset false (.var 1)) (.con (.int 3))) (.or (.cmp .eq (.ix (.var 2) (.con (.int 0))) (.ix (.var 2) (.con (.int 1)))) (.cmp .lt (.blt .min2 (.cons (.ix (.ix (.var 0) (.con (.int 0))) (.ix (.var 2) (.con (.int 0)))) (.cons (.ix (.ix (.var 0) (.con (.int 0))) (.ix (.var 2) (.con (.int 1)))) .nil))) (.con (.int 1))))) (.cons (.ret (.con (.bool false))) .nil) .nil
def b_Lis_crossed : Pl.Bk := (.cons s_Lis_crossed_3 (.cons s_Lis_crossed_2 (.cons s_Lis_crossed_1 (.cons s_Lis_crossed_0 .nil))))
def d_Lis_crossed : Pl.Fd := { name := (Str.ofString "_law_is_crossed"), ps := [(Str.ofString "_law_board_here"), (Str.ofString "_law_people"), (Str.ofString "_law_posts")], ns := [(Str.ofString "_law_board_here"), (Str.ofString "_law_people"), (Str.ofString "_law_posts"), (Str.ofString "_law_first"), (Str.ofString "_law_second"), (Str.ofString "_law_i"), (Str.ofString "_law_j"), (Str.ofString "_law_k")], fr := false, body := b_Lis_crossed }
def x_Lhas_lots_0 : Pl.Ex := .lc (.bin .sub (.ix (.ix (.var 0) (.con (.int 0))) (.var 5)) (.con (.int 1))) [5] false (.seq (.var 2)) (.con (.bool true))
def x_Lhas_lots_1 : Pl.Ex := .lc (.var 7) [7] false (.seq (.call f_Labove (.cons (.var 0) (.cons (.var 5) (.cons (.var 6) .nil))))) (.cmp .nin (.var 7) (.var 1))
def s_Lhas_lots_0 : Pl.St := .ret (.cmp .ge (.lset false (.bin .add (.ix (.var 3) (.con (.int 0))) (.ix (.var 3) (.con (.int 1))))) (.blt .sum (.cons (.var 4) .nil)))
def s_Lhas_lots_1 : Pl.St := .ite (.or (.cmp .lt (.blt .len (.cons (.ix (.var 3) (.con (.int 0))) .nil)) (.ix (.var 4) (.con (.int 0)))) (.cmp .lt (.blt .len (.cons (.ix (.var 3) (.con (.int 1))) .nil)) (.ix (.var 4) (.con (.int 1))))) (.cons (.ret (.con (.bool false))) .nil) .nil
def s_Lhas_lots_2 : Pl.St := .loop [5, 6] true (.zip (.var 2) (.lst (.cons (.ix (.var 1) (.con (.int 1))) (.cons (.ix (.var 1) (.con (.int 0))) .nil)))) (.cons (.app 3 x_Lhas_lots_1) .nil)
def s_Lhas_lots_3 : Pl.St := .par [.nm 3, .nm 4] (.cons (.cell (.lst .nil)) (.cons x_Lhas_lots_0 .nil))
def b_Lhas_lots : Pl.Bk := (.cons s_Lhas_lots_3 (.cons s_Lhas_lots_2 (.cons (.fz 3) (.cons s_Lhas_lots_1 (.cons s_Lhas_lots_0 .nil)))))
def d_Lhas_lots : Pl.Fd := { name := (Str.ofString "_law_has_lots"), ps := [(Str.ofString "_law_board_here"), (Str.ofString "_law_people"), (Str.ofString "_law_posts")], ns := [(Str.ofString "_law_board_here"), (Str.ofString "_law_people"), (Str.ofString "_law_posts"), (Str.ofString "_law_pools"), (Str.ofString "_law_wants"), (Str.ofString "_law_post"), (Str.ofString "_law_person"), (Str.ofString "_law_one_here")], fr := false, body := b_Lhas_lots }
def s_Lcalm_0 : Pl.St := .ite (.and (.call f_Lis_crossed (.cons (.var 0) (.cons (.var 3) (.cons (.tup (.cons (.var 1) (.cons (.var 2) .nil))) .nil)))) (.call f_Lhas_lots (.cons (.var 0) (.cons (.var 3) (.cons (.tup (.cons (.var 1) (.cons (.var 2) .nil))) .nil))))) (.cons (.ret (.con (.bool false))) .nil) .nil
def s_Lcalm_1 : Pl.St := .loop [3] false (.seq (.call f_Ltriples (.cons (.blt .len (.cons (.ix (.ix (.var 0) (.con (.int 1))) (.con (.int 0))) .nil)) .nil))) (.cons s_Lcalm_0 .nil)
def s_Lcalm_2 : Pl.St := .loop [2] false (.rng1 (.blt .len (.cons (.ix (.var 0) (.con (.int 0))) .nil))) (.cons s_Lcalm_1 .nil)
def s_Lcalm_3 : Pl.St := .loop [1] false (.rng1 (.blt .len (.cons (.ix (.var 0) (.con (.int 0))) .nil))) (.cons s_Lcalm_2 .nil)
def b_Lcalm : Pl.Bk := (.cons s_Lcalm_3 (.cons (.ret (.con (.bool true))) .nil))
def d_Lcalm : Pl.Fd := { name := (Str.ofString "_law_calm"), ps := [(Str.ofString "_law_board_here")], ns := [(Str.ofString "_law_board_here"), (Str.ofString "_law_a"), (Str.ofString "_law_b"), (Str.ofString "_law_people")], fr := false, body := b_Lcalm }
end Pl


namespace K07
open PySem Pl
abbrev f_quarrel_holds : Nat := 11
abbrev f_Lis_quarrel : Nat := 267
abbrev f_law : Nat := 28
def x_is_lot_0 : Pl.Ex := .lc (.and (.call f_is_integer (.cons (.var 3) (.cons (.con (.int 0)) (.cons (.con (.int 99)) .nil)))) (.cmp .isin (.var 3) (.var 1))) [3] false (.seq (.var 0)) (.con (.bool true))
def s_is_lot_0 : Pl.St := .ret (.cmp .eq (.var 0) (.blt .tuple (.cons (.lset true (.var 0)) .nil)))
def s_is_lot_1 : Pl.St := .ite (.not (.blt .all (.cons x_is_lot_0 .nil))) (.cons (.ret (.con (.bool false))) .nil) .nil
def s_is_lot_2 : Pl.St := .ite (.or (.not (.blt .istup (.cons (.var 0) .nil))) (.cmp .ne (.blt .len (.cons (.var 0) .nil)) (.var 2))) (.cons (.ret (.con (.bool false))) .nil) .nil
def b_is_lot : Pl.Bk := (.cons s_is_lot_2 (.cons s_is_lot_1 (.cons s_is_lot_0 .nil)))
def d_is_lot : Pl.Fd := { name := (Str.ofString "is_lot"), ps := [(Str.ofString "value"), (Str.ofString "pool"), (Str.ofString "many")], ns := [(Str.ofString "value"), (Str.ofString "pool"), (Str.ofString "many"), (Str.ofString "person")], fr := false, body := b_is_lot }
def x_quarrel_holds_0 : Pl.Ex := .lc (.call f_is_integer (.cons (.var 2) (.cons (.con (.int 0)) (.cons (.bin .sub (.call f_people_of (.cons (.var 0) .nil)) (.con (.int 1))) .nil)))) [2] false (.seq (.sl (.var 1) .nop (.con (.int 3)))) (.con (.bool true))
def x_quarrel_holds_1 : Pl.Ex := .lc (.call f_is_integer (.cons (.var 3) (.cons (.con (.int 0)) (.cons (.bin .sub (.call f_posts_of (.cons (.var 0) .nil)) (.con (.int 1))) .nil)))) [3] false (.seq (.sl (.var 1) (.con (.int 3)) (.con (.int 5)))) (.con (.bool true))
def x_quarrel_holds_2 : Pl.Ex := .lc (.var 2) [2] false (.seq (.ix (.var 1) (.con (.int 5)))) (.cmp .isin (.var 2) (.ix (.var 1) (.con (.int 6))))
def s_quarrel_holds_0 : Pl.St := .ret (.cmp .eq x_quarrel_holds_2 (.lst .nil))
def s_quarrel_holds_1 : Pl.St := .ite (.not (.call f_is_lot (.cons (.ix (.var 1) (.con (.int 6))) (.cons (.var 7) (.cons (.bin .sub (.ix (.ix (.var 0) (.con (.int 0))) (.ix (.var 5) (.con (.int 1)))) (.con (.int 1))) .nil))))) (.cons (.ret (.con (.bool false))) .nil) .nil
def s_quarrel_holds_2 : Pl.St := .ite (.not (.call f_is_lot (.cons (.ix (.var 1) (.con (.int 5))) (.cons (.var 6) (.cons (.bin .sub (.ix (.ix (.var 0) (.con (.int 0))) (.ix (.var 5) (.con (.int 0)))) (.con (.int 1))) .nil))))) (.cons (.ret (.con (.bool false))) .nil) .nil
def s_quarrel_holds_3 : Pl.St := .unp [.nm 6, .nm 7] (.call f_pools (.cons (.var 0) (.cons (.var 4) (.cons (.var 5) .nil))))
def s_quarrel_holds_4 : Pl.St := .ite (.not (.call f_is_triple (.cons (.var 0) (.cons (.var 4) (.cons (.var 5) .nil))))) (.cons (.ret (.con (.bool false))) .nil) .nil
def s_quarrel_holds_5 : Pl.St := .par [.nm 4, .nm 5] (.cons (.sl (.var 1) .nop (.con (.int 3))) (.cons (.sl (.var 1) (.con (.int 3)) (.con (.int 5))) .nil))
def s_quarrel_holds_6 : Pl.St := .ite (.not (.blt .all (.cons x_quarrel_holds_1 .nil))) (.cons (.ret (.con (.bool false))) .nil) .nil
def s_quarrel_holds_7 : Pl.St := .ite (.not (.blt .all (.cons x_quarrel_holds_0 .nil))) (.cons (.ret (.con (.bool false))) .nil) .nil
def s_quarrel_holds_8 : Pl.St := .ite (.or (.not (.blt .istup (.cons (.var 1) .nil))) (.cmp .ne (.blt .len (.cons (.var 1) .nil)) (.con (.int 7)))) (.cons (.ret (.con (.bool false))) .nil) .nil
def b_quarrel_holds : Pl.Bk := (.cons s_quarrel_holds_8 (.cons s_quarrel_holds_7 (.cons s_quarrel_holds_6 (.cons s_quarrel_holds_5 (.cons s_quarrel_holds_4 (.cons s_quarrel_holds_3 (.cons s_quarrel_holds_2 (.cons s_quarrel_holds_1 (.cons s_quarrel_holds_0 .nil)))))))))
def d_quarrel_holds : Pl.Fd := { name := (Str.ofString "quarrel_holds"), ps := [(Str.ofString "board"), (Str.ofString "value")], ns := [(Str.ofString "board"), (Str.ofString "value"), (Str.ofString "person"), (Str.ofString "post"), (Str.ofString "people"), (Str.ofString "posts"), (Str.ofString "first"), (Str.ofString "second")], fr := false, body := b_quarrel_holds }
def x_Lare_lots_0 : Pl.Ex := .lc (.var 8) [8] false (.seq (.call f_Labove (.cons (.var 0) (.cons (.var 4) (.cons (.var 5) .nil))))) (.cmp .nin (.var 8) (.var 1))
def x_Lare_lots_1 : Pl.Ex := .lc (.var 8) [8] false (.seq (.var 6)) (.or (.not (.call f_Lwhole (.cons (.var 8) (.cons (.con (.int 0)) (.cons (.con (.int 6)) .nil))))) (.cmp .nin (.var 8) (.var 7)))
def s_Lare_lots_0 : Pl.St := .ite (.cmp .ne (.blt .list (.cons (.var 6) .nil)) (.lset true (.var 6))) (.cons (.ret (.con (.bool false))) .nil) .nil
def s_Lare_lots_1 : Pl.St := .ite (.cmp .ne x_Lare_lots_1 (.lst .nil)) (.cons (.ret (.con (.bool false))) .nil) .nil
def s_Lare_lots_2 : Pl.St := .ite (.or (.not (.blt .istup (.cons (.var 6) .nil))) (.cmp .ne (.blt .len (.cons (.var 6) .nil)) (.bin .sub (.ix (.ix (.var 0) (.con (.int 0))) (.var 4)) (.con (.int 1))))) (.cons (.ret (.con (.bool false))) .nil) .nil
def x_Lare_lots_2 : Pl.Ex := .lc (.var 8) [8] false (.seq (.ix (.var 3) (.con (.int 0)))) (.cmp .isin (.var 8) (.ix (.var 3) (.con (.int 1))))
def s_Lare_lots_3 : Pl.St := .ret (.cmp .eq x_Lare_lots_2 (.lst .nil))
def s_Lare_lots_4 : Pl.St := .loop [4, 5, 6] true (.zip3 (.var 2) (.lst (.cons (.ix (.var 1) (.con (.int 1))) (.cons (.ix (.var 1) (.con (.int 0))) .nil))) (.var 3)) (.cons s_Lare_lots_2 (.cons (.asg 7 x_Lare_lots_0) (.cons s_Lare_lots_1 (.cons s_Lare_lots_0 .nil))))
def b_Lare_lots : Pl.Bk := (.cons s_Lare_lots_4 (.cons s_Lare_lots_3 .nil))
def d_Lare_lots : Pl.Fd := { name := (Str.ofString "_law_are_lots"), ps := [(Str.ofString "_law_board_here"), (Str.ofString "_law_people"), (Str.ofString "_law_posts"), (Str.ofString "_law_lots")], ns := [(Str.ofString "_law_board_here"), (Str.ofString "_law_people"), (Str.ofString "_law_posts"), (Str.ofString "_law_lots"), (Str.ofString "_law_post"), (Str.ofString "_law_person"), (Str.ofString "_law_lot"), (Str.ofString "_law_pool"), (Str.ofString "_law_one_here")], fr := false, body := b_Lare_lots }
def x_Lis_quarrel_0 : Pl.Ex := .lc (.var 2) [2] false (.seq (.sl (.var 1) .nop (.con (.int 3)))) (.not (.call f_Lwhole (.cons (.var 2) (.cons (.con (.int 0)) (.cons (.bin .sub (.blt .len (.cons (.ix (.ix (.var 0) (.con (.int 1))) (.con (.int 0))) .nil)) (.con (.int 1))) .nil)))))
def x_Lis_quarrel_1 : Pl.Ex := .lc (.var 2) [2] false (.seq (.sl (.var 1) (.con (.int 3)) (.con (.int 5)))) (.not (.call f_Lwhole (.cons (.var 2) (.cons (.con (.int 0)) (.cons (.bin .sub (.blt .len (.cons (.ix (.var 0) (.con (.int 0))) .nil)) (.con (.int 1))) .nil)))))
def s_Lis_quarrel_0 : Pl.St := .ret (.and (.call f_Lis_crossed (.cons (.var 0) (.cons (.sl (.var 1) .nop (.con (.int 3))) (.cons (.sl (.var 1) (.con (.int 3)) (.con (.int 5))) .nil)))) (.call f_Lare_lots (.cons (.var 0) (.cons (.sl (.var 1) .nop (.con (.int 3))) (.cons (.sl (.var 1) (.con (.int 3)) (.con (.int 5))) (.cons (.sl (.var 1) (.con (.int 5)) .nop) .nil))))))
def s_Lis_quarrel_1 : Pl.St := .ite (.cmp .ne x_Lis_quarrel_1 (.lst .nil)) (.cons (.ret (.con (.bool false))) .nil) .nil
def s_Lis_quarrel_2 : Pl.St := .ite (.cmp .ne x_Lis_quarrel_0 (.lst .nil)) (.cons (.ret (.con (.bool false))) .nil) .nil
def s_Lis_quarrel_3 : Pl.St := .ite (.or (.not (.blt .istup (.cons (.var 1) .nil))) (.cmp .ne (.blt .len (.cons (.var 1) .nil)) (.con (.int 7)))) (.cons (.ret (.con (.bool false))) .nil) .nil
def b_Lis_quarrel : Pl.Bk := (.cons s_Lis_quarrel_3 (.cons s_Lis_quarrel_2 (.cons s_Lis_quarrel_1 (.cons s_Lis_quarrel_0 .nil))))
def d_Lis_quarrel : Pl.Fd := { name := (Str.ofString "_law_is_quarrel"), ps := [(Str.ofString "_law_board_here"), (Str.ofString "_law_value")], ns := [(Str.ofString "_law_board_here"), (Str.ofString "_law_value"), (Str.ofString "_law_one_here")], fr := false, body := b_Lis_quarrel }
def x_Ltriples_0 : Pl.Ex := .lc (.tup (.cons (.var 2) (.cons (.var 3) (.cons (.var 4) .nil)))) [4] false (.rng1 (.var 0)) (.con (.bool true))
def s_Ltriples_0 : Pl.St := .loop [3] false (.rng1 (.var 0)) (.cons (.ext 1 x_Ltriples_0) .nil)
def s_Ltriples_1 : Pl.St := .loop [2] false (.rng1 (.var 0)) (.cons s_Ltriples_0 .nil)
def b_Ltriples : Pl.Bk := (.cons (.asg 1 (.cell (.lst .nil))) (.cons s_Ltriples_1 (.cons (.fz 1) (.cons (.ret (.var 1)) .nil))))
def d_Ltriples : Pl.Fd := { name := (Str.ofString "_law_triples"), ps := [(Str.ofString "_law_many")], ns := [(Str.ofString "_law_many"), (Str.ofString "_law_found"), (Str.ofString "_law_i"), (Str.ofString "_law_j"), (Str.ofString "_law_k")], fr := false, body := b_Ltriples }
def x_law_0 : Pl.Ex := .lc (.call f_Lnear (.cons (.var 1) (.cons (.ix (.ix (.var 4) (.con (.int 1))) (.con (.int 0))) .nil))) [6] false (.seq (.ix (.var 4) (.con (.int 1)))) (.con (.bool true))
def x_law_1 : Pl.Ex := .lc (.bin .add (.var 8) (.con (.int 1))) [8] false (.seq (.ix (.var 4) (.con (.int 0)))) (.cmp .lt (.var 8) (.con (.int 7)))
def s_law_0 : Pl.St := .app 2 (.tup (.cons (.var 7) (.cons (.blt .repr (.cons (.var 9) .nil)) .nil)))
def s_law_1 : Pl.St := .ite (.and (.isn true (.var 9)) (.or (.not (.call f_Lis_quarrel (.cons (.var 7) (.cons (.var 9) .nil)))) (.ist true true (.call f_quarrel_holds (.cons (.var 7) (.cons (.var 9) .nil)))))) (.cons (.ret (.con (.bool false))) .nil) .nil
def s_law_2 : Pl.St := .ite (.or (.cmp .ne (.blt .repr (.cons (.call f_is_calm (.cons (.var 7) .nil)) .nil)) (.blt .repr (.cons (.var 10) .nil))) (.cmp .ne (.isn false (.var 9)) (.var 10))) (.cons (.ret (.con (.bool false))) .nil) .nil
def s_law_3 : Pl.St := .par [.nm 9, .nm 10] (.cons (.call f_quarrel (.cons (.var 7) .nil)) (.cons (.call f_Lcalm (.cons (.var 7) .nil)) .nil))
def s_law_4 : Pl.St := .ite (.cmp .eq (.blt .len (.cons (.ix (.var 7) (.con (.int 0))) .nil)) (.blt .len (.cons (.ix (.var 7) (.con (.int 1))) .nil))) (.cons s_law_3 (.cons s_law_2 (.cons s_law_1 (.cons s_law_0 .nil)))) .nil
def s_law_5 : Pl.St := .loop [7] false (.seq (.lst (.cons (.var 4) (.cons (.var 5) (.cons (.tup (.cons (.blt .tuple (.cons x_law_1 .nil)) (.cons (.ix (.var 4) (.con (.int 1))) .nil))) .nil))))) (.cons s_law_4 .nil)
def s_law_6 : Pl.St := .asg 5 (.tup (.cons (.ix (.var 4) (.con (.int 0))) (.cons (.blt .tuple (.cons x_law_0 .nil)) .nil)))
def s_law_7 : Pl.St := .asg 4 (.call f_Lsmall_board (.cons (.var 1) .nil))
def x_law_2 : Pl.Ex := .lc (.var 7) [7, 9] true (.seq (.rev (.var 2))) (.cmp .ne (.blt .repr (.cons (.call f_quarrel (.cons (.var 7) .nil)) .nil)) (.var 9))
def s_law_8 : Pl.St := .ret (.cmp .eq x_law_2 (.lst .nil))
def s_law_9 : Pl.St := .loop [3] false (.rng1 (.con (.int 6))) (.cons s_law_7 (.cons s_law_6 (.cons s_law_5 .nil)))
def s_law_10 : Pl.St := .par [.nm 1, .nm 2] (.cons (.call f_Ldeck (.cons (.var 0) .nil)) (.cons (.cell (.lst .nil)) .nil))
def b_law : Pl.Bk := (.cons s_law_10 (.cons s_law_9 (.cons (.fz 2) (.cons s_law_8 .nil))))
def d_law : Pl.Fd := { name := (Str.ofString "law"), ps := [(Str.ofString "_law_script")], ns := [(Str.ofString "_law_script"), (Str.ofString "_law_deck_here"), (Str.ofString "_law_kept"), (Str.ofString "_law_turn"), (Str.ofString "_law_board_here"), (Str.ofString "_law_near_here"), (Str.ofString "_law_order"), (Str.ofString "_law_own"), (Str.ofString "_law_room"), (Str.ofString "_law_told"), (Str.ofString "_law_due")], fr := false, body := b_law }
def T : List (Nat × Fd) := [(f_is_integer, d_is_integer), (f_people_of, d_people_of), (f_posts_of, d_posts_of), (f_rank, d_rank), (f_above, d_above), (f_are_unlike, d_are_unlike), (f_is_triple, d_is_triple), (f_pools, d_pools), (f_lots_of, d_lots_of), (f_quarrel, d_quarrel), (f_is_lot, d_is_lot), (f_quarrel_holds, d_quarrel_holds), (f_is_calm, d_is_calm), (f_Ldeck, d_Ldeck), (f_Ldraw, d_Ldraw), (f_Lone, d_Lone), (f_Lmixed, d_Lmixed), (f_Lnear, d_Lnear), (f_Lboard, d_Lboard), (f_Lwhole, d_Lwhole), (f_Labove, d_Labove), (f_Lare_lots, d_Lare_lots), (f_Lis_crossed, d_Lis_crossed), (f_Lis_quarrel, d_Lis_quarrel), (f_Lhas_lots, d_Lhas_lots), (f_Ltriples, d_Ltriples), (f_Lcalm, d_Lcalm), (f_Lsmall_board, d_Lsmall_board), (f_law, d_law)]
end K07


namespace Pl
open PySem
/-- the deck at cell n: the script, the place, what is left of a huge number, the count -/
def Dk (S : Sto) (n : Nat) (B : Int) : Prop := ∃ (xs : List Int) (a b c : Int), look S n = some [.list (xs.map .int), .int a, .int b, .int c] ∧ xs.length ≤ 63 ∧ 0 ≤ c ∧ c ≤ B
/-- nothing but the deck has changed -/
def Nx (n : Nat) (S S' : Sto) (B : Int) : Prop := ∃ deck, S' = S.set n (.lst deck) ∧ Dk S' n B
theorem shp_ints : ∀ xs : List Int, shp (.list (xs.map .int)) = true := by
  intro xs
  have h1 : PyData.canLayAll0 (xs.map .int) = true := by
    induction xs with
    | nil => rfl
    | cons x xs ih => simp [PyData.canLayAll0, PyData.canLay0, ih]
  have h2 : PyData.depthAll (xs.map .int) ≤ 1 := by
    induction xs with
    | nil => simp [PyData.depthAll]
    | cons x xs ih =>
      simp only [List.map_cons, PyData.canLayAll0, Bool.and_eq_true] at h1
      simp [PyData.depthAll, PyData.depth, ih h1.2]
  unfold shp SeqAt.shaped
  simp [PyData.canLay0, h1, PyData.depth]
  omega
theorem look_some' {S : Sto} {n : Nat} {xs : List PyData} (h : look S n = some xs) : S[n]? = some (.lst xs) := by
  unfold look at h
  split at h
  · next e => cases h; exact e
  · cases h
theorem draw_cell {Γ : Fns} {S : Sto} {n : Nat} {xs : List Int} {a b c m : Int} (hx : xs.length ≤ 63) (hl : look S n = some [.list (xs.map .int), .int a, .int b, .int c]) :
    ∃ z : Int, evS Γ s_Ldraw_10 [some (.r n), some (.v (.int m)), none, some (.v (.int 71)), none] S = some (.nx [some (.r n), some (.v (.int m)), none, some (.v (.int z)), none] S) := by
  have hs := shp_ints xs
  have he : shp (.list []) = true := by decide
  cases xs with
  | nil =>
    refine ⟨71, ?_⟩
    simp [s_Ldraw_10, evB, evS, evE, evEs, lkup, asBool, deref, deref0, datas, coD, atD, ixN, hl, he]
    simp [PyData.eqv, PyData.eqvAll]
  | cons x xs =>
    have hlen : (0 : Int) < (x :: xs).length := by rw [List.length_cons]; omega
    have h0 : 0 ≤ a % ((x :: xs).length : Int) := Int.emod_nonneg _ (by omega)
    have h1 : a % ((x :: xs).length : Int) < ((x :: xs).length : Int) := Int.emod_lt_of_pos _ hlen
    generalize hk : a % ((x :: xs).length : Int) = k at h0 h1
    have hkl : k.toNat < (x :: xs).length := by omega
    refine ⟨(x :: xs)[k.toNat], ?_⟩
    have hne : PyData.eqv (.list ((x :: xs).map .int)) (.list []) = false := by simp [PyData.eqv, PyData.eqvAll]
    have hat : atD (.list ((x :: xs).map .int)) (.int k) = some (.int (x :: xs)[k.toNat]) := by
      show (ixN _ _).bind _ = _
      unfold ixN
      rw [if_pos h0, if_pos (by rw [List.length_map]; exact h1)]
      show ((x :: xs).map PyData.int)[k.toNat]? = _
      rw [List.getElem?_map, List.getElem?_eq_getElem hkl]
      rfl
    have hlz : blD .len [.list ((x :: xs).map .int)] = some (.int ((x :: xs).length : Nat)) := by simp [blD]
    have hmod : boD .mod (.int a) (.int ((x :: xs).length : Nat)) = some (.int k) := by rw [bo_mod hlen, hk]
    generalize (x :: xs)[k.toNat] = z at hat ⊢
    generalize PyData.list ((x :: xs).map .int) = L at *
    generalize (((x :: xs).length : Nat) : Int) = len at *
    have hne2 : coD .ne L (.list []) = some true := by simp [coD, hs, he, hne]
    have h2 : evS Γ s_Ldraw_2 [some (.r n), some (.v (.int m)), none, some (.v (.int 71)), none] S = some (.nx [some (.r n), some (.v (.int m)), none, some (.v (.int z)), none] S) := by
      have ha0 : atD (.list [L, .int a, .int b, .int c]) (.int 0) = some L := rfl
      have ha1 : atD (.list [L, .int a, .int b, .int c]) (.int 1) = some (.int a) := rfl
      have hi : blD .int [.int a] = some (.int a) := rfl
      simp [s_Ldraw_2, evS, evE, evEs, storeT, lkup, deref, deref0, derefs, hl, ha0, ha1, hi, hlz, hmod, hat]
    have ha0 : atD (.list [L, .int a, .int b, .int c]) (.int 0) = some L := rfl
    simp [s_Ldraw_10, evB, evS, evE, evEs, lkup, asBool, deref, deref0, datas, hl, ha0, hne2, lim]
    simp [h2]
theorem draw_ok {Γ : Fns} {S : Sto} {n : Nat} {B many : Int} (hD : Dk S n B) (hB : B < 1000000000) (h0 : 0 < many) (h1 : many ≤ 1000000) :
    Ok (runF Γ d_Ldraw [.r n, .v (.int many)] S) fun p => ∃ v : Int, p.1 = .v (.int v) ∧ 0 ≤ v ∧ v < many ∧ Nx n S p.2 (B + 1) := by
  obtain ⟨xs, a, b, c, hl, hx, hc0, hcB⟩ := hD
  have hn := look_lt hl
  have hset : ∀ ys, look (S.set n (.lst ys)) n = some ys := fun ys => look_set hn
  have nx : ∀ (a b c : Int), 0 ≤ c → c ≤ B + 1 → Nx n S (S.set n (.lst [.list (xs.map .int), .int a, .int b, .int c])) (B + 1) := fun a b c h1 h2 => ⟨_, rfl, xs, a, b, c, hset _, hx, h1, h2⟩
  have hm : many < 1073741824 := by omega
  have done : ∀ (i a b c : Int), 0 ≤ i → i < many → 0 ≤ c → c ≤ B + 1 → Ok (fin S.length d_Ldraw.fr (.rt (.v (.int i)) (S.set n (.lst [.list (xs.map .int), .int a, .int b, .int c])))) fun p => ∃ v : Int, p.1 = .v (.int v) ∧ 0 ≤ v ∧ v < many ∧ Nx n S p.2 (B + 1) :=
    fun i a b c h1 h2 h3 h4 => fin_v ⟨i, rfl, h1, h2, by rw [take_set]; exact nx a b c h3 h4⟩
  refine run_ok rfl ?_
  show Ok (evB Γ b_Ldraw [some (.r n), some (.v (.int many)), none, none, none] S) _
  unfold b_Ldraw
  refine step (η' := [some (.r n), some (.v (.int many)), none, none, none]) (S' := S.set n (.lst [.list (xs.map .int), .int a, .int b, .int (c + 1)])) ?_ ?_
  · simp [s_Ldraw_12, evS, evE, storeT, lkup, asInt, deref, deref0, boD, atD, ixN, ixS, hl, lim]
  by_cases hb : 0 < b
  · refine stop (w := .v (.int (b % many))) (S' := S.set n (.lst [.list (xs.map .int), .int a, .int (b / many), .int (c + 1)])) ?_ (done _ _ _ _ (Int.emod_nonneg _ (by omega)) (Int.emod_lt_of_pos _ h0) (by omega) (by omega))
    simp [s_Ldraw_11, s_Ldraw_0, s_Ldraw_1, evB, evS, evE, evEs, storeT, lkup, asInt, asBool, deref, deref0, derefs, boD, coD, blD, atD, ixN, ixS, hset, lim, hb, h0, hm]
  refine step (η' := [some (.r n), some (.v (.int many)), none, none, none]) (S' := S.set n (.lst [.list (xs.map .int), .int a, .int b, .int (c + 1)])) ?_ ?_
  · simp [s_Ldraw_11, evB, evS, evE, lkup, asInt, asBool, deref, deref0, derefs, coD, atD, ixN, hset, hb]
  refine step (η' := [some (.r n), some (.v (.int many)), none, some (.v (.int 71)), none]) rfl ?_
  obtain ⟨z, hz⟩ := draw_cell (Γ := Γ) (m := many) hx (hset [.list (xs.map .int), .int a, .int b, .int (c + 1)])
  refine step hz ?_
  refine step (η' := [some (.r n), some (.v (.int many)), none, some (.v (.int z)), none]) (S' := S.set n (.lst [.list (xs.map .int), .int (a + 1), .int b, .int (c + 1)])) ?_ ?_
  · simp [s_Ldraw_9, evS, evE, storeT, lkup, asInt, deref, deref0, boD, atD, ixN, ixS, hset, lim]
  have hw : ∃ w : Int, w = if z < 0 then -z else z := ⟨_, rfl⟩
  obtain ⟨w, hw⟩ := hw
  have habs : blD .abs [.int z] = some (.int w) := by rw [hw]; rfl
  have hp18 : boD .pow (.int 10) (.int 18) = some (.int 1000000000000000000) := by
    rw [bo_pow (by decide) (by decide) (by decide)]
    rfl
  have hlen : blD .len [.list (xs.map .int)] = some (.int (xs.length : Nat)) := by simp [blD]
  by_cases hh : 1000000000000000000 ≤ w ∧ a + 1 ≤ (xs.length : Int)
  · refine stop (w := .v (.int (w % many))) (S' := S.set n (.lst [.list (xs.map .int), .int (a + 1), .int (w / many), .int (c + 1)])) ?_ (done _ _ _ _ (Int.emod_nonneg _ (by omega)) (Int.emod_lt_of_pos _ h0) (by omega) (by omega))
    have h8 : coD .le (.int (a + 1)) (.int (xs.length : Nat)) = some true := by show some (decide _) = _; rw [decide_eq_true hh.2]
    have h9 : coD .ge (.int w) (.int 1000000000000000000) = some true := by show some (decide _) = _; rw [decide_eq_true hh.1]
    have hi : ∀ j : Int, blD .int [.int j] = some (.int j) := fun _ => rfl
    simp [s_Ldraw_8, s_Ldraw_3, s_Ldraw_4, evB, evS, evE, evEs, storeT, lkup, asInt, asBool, deref, deref0, derefs, atD, ixN, ixS, hset, lim, habs, hp18, hlen, h8, h9, hi, bo_mod h0, bo_fdv h0 hm]
  refine step (η' := [some (.r n), some (.v (.int many)), none, some (.v (.int z)), none]) (S' := S.set n (.lst [.list (xs.map .int), .int (a + 1), .int b, .int (c + 1)])) ?_ ?_
  · by_cases h9 : 1000000000000000000 ≤ w
    · have h8 : coD .le (.int (a + 1)) (.int (xs.length : Nat)) = some false := by show some (decide _) = _; rw [decide_eq_false (fun q => hh ⟨h9, q⟩)]
      have h9 : coD .ge (.int w) (.int 1000000000000000000) = some true := by show some (decide _) = _; rw [decide_eq_true h9]
      simp [s_Ldraw_8, evB, evS, evE, evEs, lkup, asBool, deref, deref0, derefs, atD, ixN, hset, habs, hp18, hlen, h8, h9]
    · have h9 : coD .ge (.int w) (.int 1000000000000000000) = some false := by show some (decide _) = _; rw [decide_eq_false h9]
      simp [s_Ldraw_8, evB, evS, evE, evEs, lkup, asBool, deref, deref0, derefs, habs, hp18, h9]
  -- the mixing
  have hi : ∀ j : Int, blD .int [.int j] = some (.int j) := fun _ => rfl
  have z1 : 0 ≤ z % 2147483497 := Int.emod_nonneg _ (by decide)
  have z2 : z % 2147483497 < 2147483497 := Int.emod_lt_of_pos _ (by decide)
  obtain ⟨v, hv⟩ : ∃ v : Int, v = z % 2147483497 + 49979687 * (c + 1) := ⟨_, rfl⟩
  have v1 : v.natAbs < 18446744073709551616 := by omega
  obtain ⟨m1, hm1⟩ : ∃ m1 : Int, m1 = v ^ 5 % 2147483563 := ⟨_, rfl⟩
  have m2 : 0 ≤ m1 := by rw [hm1]; exact Int.emod_nonneg _ (by decide)
  have m3 : m1 < 2147483563 := by rw [hm1]; exact Int.emod_lt_of_pos _ (by decide)
  refine step (η' := [some (.r n), some (.v (.int many)), none, some (.v (.int z)), some (.v (.int m1))]) (S' := S.set n (.lst [.list (xs.map .int), .int (a + 1), .int b, .int (c + 1)])) ?_ ?_
  · have q1 : boD .mul (.int 49979687) (.int (c + 1)) = some (.int (49979687 * (c + 1))) := bo_mul (by decide)
    have q2 : boD .mod (.int z) (.int 2147483497) = some (.int (z % 2147483497)) := bo_mod (by decide)
    have q3 : boD .add (.int (z % 2147483497)) (.int (49979687 * (c + 1))) = some (.int v) := by rw [hv]; rfl
    have q4 : boD .pow (.int v) (.int 5) = some (.int (v ^ 5)) := bo_pow (by decide) (by decide) v1
    have q5 : boD .mod (.int (v ^ 5)) (.int 2147483563) = some (.int m1) := by rw [hm1]; exact bo_mod (by decide)
    simp [s_Ldraw_7, evS, evE, evEs, storeT, lkup, deref, deref0, derefs, atD, ixN, hset, q1, q2, q3, hi, q4, q5]
  obtain ⟨u, hu⟩ : ∃ u : Int, u = m1 * (2 * (c + 1) + 7) + 7013 := ⟨_, rfl⟩
  have u1 : u.natAbs < 18446744073709551616 := by
    have k1 : m1 * (2 * (c + 1) + 7) ≤ 2147483563 * (2 * (c + 1) + 7) := Int.mul_le_mul_of_nonneg_right (by omega) (by omega)
    have k2 : 0 ≤ m1 * (2 * (c + 1) + 7) := Int.mul_nonneg m2 (by omega)
    omega
  obtain ⟨t, ht⟩ : ∃ t : Int, t = u ^ 3 % 2147483647 := ⟨_, rfl⟩
  have t0 : 0 ≤ t := by rw [ht]; exact Int.emod_nonneg _ (by decide)
  refine step (η' := [some (.r n), some (.v (.int many)), none, some (.v (.int z)), some (.v (.int t))]) (S' := S.set n (.lst [.list (xs.map .int), .int (a + 1), .int b, .int (c + 1)])) ?_ ?_
  · have q1 : boD .mul (.int 2) (.int (c + 1)) = some (.int (2 * (c + 1))) := bo_mul (by decide)
    have q2 : boD .add (.int (2 * (c + 1))) (.int 7) = some (.int (2 * (c + 1) + 7)) := rfl
    have q3 : boD .mul (.int m1) (.int (2 * (c + 1) + 7)) = some (.int (m1 * (2 * (c + 1) + 7))) := bo_mul (by omega)
    have q4 : boD .add (.int (m1 * (2 * (c + 1) + 7))) (.int 7013) = some (.int u) := by rw [hu]; rfl
    have q5 : boD .pow (.int u) (.int 3) = some (.int (u ^ 3)) := bo_pow (by decide) (by decide) u1
    have q6 : boD .mod (.int (u ^ 3)) (.int 2147483647) = some (.int t) := by rw [ht]; exact bo_mod (by decide)
    simp [s_Ldraw_6, evS, evE, evEs, storeT, lkup, deref, deref0, derefs, atD, ixN, hset, q1, q2, q3, q4, hi, q5, q6]
  refine stop (w := .v (.int (t / 32 % many))) (S' := S.set n (.lst [.list (xs.map .int), .int (a + 1), .int b, .int (c + 1)])) ?_ (done _ _ _ _ (Int.emod_nonneg _ (by omega)) (Int.emod_lt_of_pos _ h0) (by omega) (by omega))
  have q1 : boD .fdv (.int t) (.int 32) = some (.int (t / 32)) := bo_fdv (by decide) (by decide)
  simp [s_Ldraw_5, evS, evE, lkup, deref, deref0, q1, bo_mod h0]
end Pl


namespace Pl
open PySem
theorem evF_of {T : List (Nat × Fd)} {i k : Nat} {fd : Fd} (h : T.lookup i = some fd) (ws : List W) (S : Sto) : evF T (k + 1) i ws S = runF (evF T k) fd ws S := by
  show (T.lookup i).bind _ = _
  rw [h]
  rfl
/-- what a draw does -/
def DrawF (g : List W → Sto → Option (W × Sto)) : Prop := ∀ (S : Sto) (n : Nat) (B many : Int), Dk S n B → B < 1000000000 → 0 < many → many ≤ 1000000 →
  Ok (g [.r n, .v (.int many)] S) fun p => ∃ v : Int, p.1 = .v (.int v) ∧ 0 ≤ v ∧ v < many ∧ Nx n S p.2 (B + 1)
theorem drawF {T : List (Nat × Fd)} {k : Nat} (h : T.lookup f_Ldraw = some d_Ldraw) : DrawF (evF T (k + 1) f_Ldraw) := fun S n B many hD hB h0 h1 => by
  rw [evF_of h]
  exact draw_ok hD hB h0 h1
theorem Dk.mono {S : Sto} {n : Nat} {B C : Int} (h : Dk S n B) (hc : B ≤ C) : Dk S n C := let ⟨xs, a, b, c, h1, h2, h3, h4⟩ := h; ⟨xs, a, b, c, h1, h2, h3, Int.le_trans h4 hc⟩
theorem Dk.lt {S : Sto} {n : Nat} {B : Int} (h : Dk S n B) : n < S.length := let ⟨_, _, _, _, h1, _⟩ := h; look_lt h1
theorem Dk.app {S R : Sto} {n : Nat} {B : Int} (h : Dk S n B) : Dk (S ++ R) n B := by
  have hn := h.lt
  obtain ⟨xs, a, b, c, h1, h2⟩ := h
  exact ⟨xs, a, b, c, by rw [look_app hn]; exact h1, h2⟩
theorem Dk.of_app {S R : Sto} {n : Nat} {B : Int} (hn : n < S.length) (h : Dk (S ++ R) n B) : Dk S n B := by
  obtain ⟨xs, a, b, c, h1, h2⟩ := h
  exact ⟨xs, a, b, c, by rw [look_app hn] at h1; exact h1, h2⟩
theorem Nx.dk {S S' : Sto} {n : Nat} {B : Int} (h : Nx n S S' B) : Dk S' n B := let ⟨_, _, h⟩ := h; h
theorem Nx.trans {S S1 S2 : Sto} {n : Nat} {B C : Int} (h : Nx n S S1 B) (k : Nx n S1 S2 C) : Nx n S S2 C := by
  obtain ⟨d, rfl, _⟩ := h
  obtain ⟨e, rfl, k2⟩ := k
  rw [List.set_set] at k2 ⊢
  exact ⟨e, rfl, k2⟩
theorem Nx.refl {S : Sto} {n : Nat} {B : Int} (h : Dk S n B) : Nx n S S B := by
  obtain ⟨xs, a, b, c, h1, h2⟩ := h
  have hn := look_lt h1
  refine ⟨[.list (xs.map .int), .int a, .int b, .int c], ?_, xs, a, b, c, h1, h2⟩
  refine (List.ext_getElem? fun i => ?_)
  rw [List.getElem?_set]
  split
  · next e =>
    subst e
    exact look_some' h1
  · rfl
theorem Nx.mono {S S' : Sto} {n : Nat} {B C : Int} (h : Nx n S S' B) (hc : B ≤ C) : Nx n S S' C := let ⟨d, e, k⟩ := h; ⟨d, e, k.mono hc⟩
theorem Nx.len {S S' : Sto} {n : Nat} {B : Int} (h : Nx n S S' B) : S'.length = S.length := by
  obtain ⟨d, rfl, _⟩ := h
  simp
theorem Nx.look {S S' : Sto} {n m : Nat} {B : Int} (h : Nx n S S' B) (hm : n ≠ m) : look S' m = look S m := by
  obtain ⟨d, rfl, _⟩ := h
  exact look_ne hm
/-- in a store with own cells behind -/
theorem Nx.app {S R S' : Sto} {n : Nat} {B : Int} (hn : n < S.length) (h : Nx n (S ++ R) S' B) : ∃ S1, S' = S1 ++ R ∧ Nx n S S1 B ∧ S1.length = S.length := by
  obtain ⟨d, rfl, k⟩ := h
  rw [set_app hn] at k ⊢
  exact ⟨_, rfl, ⟨d, rfl, k.of_app (by simpa using hn)⟩, by simp⟩
def OneF (g : List W → Sto → Option (W × Sto)) : Prop := ∀ (S : Sto) (n : Nat) (B : Int) (w : W) (d : PyData) (ys : List PyData), Dk S n B → B < 1000000000 → deref S w = some d → w ≠ .r n → itemsOf d = some ys → 0 < ys.length → ys.length ≤ 1000 →
  Ok (g [.r n, w] S) fun p => ∃ z, z ∈ ys ∧ p.1 = .v z ∧ Nx n S p.2 (B + 1)
theorem bl_len {d : PyData} {ys : List PyData} (h : itemsOf d = some ys) : blD .len [d] = some (.int (ys.length : Nat)) := by
  cases d <;> cases h <;> rfl
theorem at_items {d : PyData} {ys : List PyData} (h : itemsOf d = some ys) {v : Int} (h0 : 0 ≤ v) (h1 : v < ys.length) : ∃ z, z ∈ ys ∧ ys[v.toNat]? = some z ∧ atD d (.int v) = some z := by
  have hl : v.toNat < ys.length := by omega
  refine ⟨ys[v.toNat], List.getElem_mem hl, List.getElem?_eq_getElem hl, ?_⟩
  have e : (ixN ys.length v).bind (ys[·]?) = some ys[v.toNat] := by
    unfold ixN
    rw [if_pos h0, if_pos h1]
    exact List.getElem?_eq_getElem hl
  cases d <;> cases h <;> exact e
theorem Nx.deref {S S' : Sto} {n : Nat} {B : Int} (h : Nx n S S' B) {w : W} (hw : w ≠ .r n) : deref S' w = Pl.deref S w := by
  cases w with
  | v d => rfl
  | s ns => rfl
  | r m =>
    have hm : n ≠ m := fun e => hw (by rw [e])
    have h2 : Pl.lookK S' m = Pl.lookK S m := by
      obtain ⟨d, rfl, _⟩ := h
      unfold Pl.lookK
      rw [List.getElem?_set_ne hm]
    simp only [Pl.deref, h.look hm, h2]
theorem one_ok {Γ : Fns} (hd : DrawF (Γ f_Ldraw)) : OneF (runF Γ d_Lone) := by
  intro S n B w d ys hD hB hw hne hy h0 h1
  obtain ⟨⟨wv, S1⟩, e1, v, rfl, v0, v1, hN⟩ := hd S n B ys.length hD hB (by omega) (by omega)
  obtain ⟨z, hz, _, hat⟩ := at_items hy v0 v1
  have hn := hD.lt
  refine run_ok rfl ?_
  show Ok (evB Γ b_Lone [some (.r n), some w] S) _
  unfold b_Lone
  refine stop (w := .v z) (S' := S1) ?_ (fin_v ⟨z, hz, rfl, ?_⟩)
  · have hw1 : deref S1 w = some d := by rw [hN.deref hne]; exact hw
    simp [s_Lone_0, evS, evE, evEs, lkup, derefs, hw, bl_len hy, e1, hw1, hat]
    simp [deref, deref0, hat]
  · obtain ⟨dk, rfl, k⟩ := hN
    rw [take_set]
    exact ⟨dk, rfl, k⟩
theorem oneF {T : List (Nat × Fd)} {k : Nat} (h : T.lookup f_Ldraw = some d_Ldraw) (h2 : T.lookup f_Lone = some d_Lone) : OneF (evF T (k + 2) f_Lone) := by
  intro S n B w d ys
  rw [evF_of h2]
  exact one_ok (drawF h) S n B w d ys
def loopP (Q : Out → Prop) (I : En → Sto → Prop) : Out → Prop
  | .nx η S => I η S
  | .ct η S => I η S
  | .bk η S => Q (.nx η S)
  | .rt w S => Q (.rt w S)
theorem forL_ok {f : PyData → En → Sto → Option Out} {Q : Out → Prop} (I : Nat → En → Sto → Prop) : ∀ (ds : List PyData) (i0 : Nat) (η : En) (S : Sto), I i0 η S → (∀ i d η S, ds[i]? = some d → I (i0 + i) η S → Ok (f d η S) (loopP Q (I (i0 + i + 1)))) → (∀ η S, I (i0 + ds.length) η S → Q (.nx η S)) → Ok (forL f ds η S) Q
  | [], i0, η, S, h0, _, he => ok_some (he η S h0)
  | d :: ds, i0, η, S, h0, hs, he => by
    obtain ⟨o, e, q⟩ := hs 0 d η S rfl h0
    have go : ∀ η' S', I (i0 + 1) η' S' → Ok (forL f ds η' S') Q := fun η' S' hI => forL_ok I ds (i0 + 1) η' S' hI (fun i d' η2 S2 hd hI2 => by
      have := hs (i + 1) d' η2 S2 hd (by rw [show i0 + (i + 1) = i0 + 1 + i by omega]; exact hI2)
      rw [show i0 + (i + 1) + 1 = i0 + 1 + i + 1 by omega] at this
      exact this) fun η2 S2 hI2 => he η2 S2 (by rw [List.length_cons, show i0 + (ds.length + 1) = i0 + 1 + ds.length by omega]; exact hI2)
    rw [forL, e]
    cases o with
    | nx η' S' => exact go η' S' q
    | ct η' S' => exact go η' S' q
    | bk η' S' => exact ok_some q
    | rt w S' => exact ok_some q
theorem rngL_len (j : Int) : (rngL 0 j).length = j.toNat := by simp [rngL]
theorem rngL_get {j : Int} {i : Nat} {d : PyData} (h : (rngL 0 j)[i]? = some d) : d = .int i ∧ (i : Int) < j := by
  unfold rngL at h
  rw [List.getElem?_map] at h
  obtain ⟨m, h1, rfl⟩ := Option.map_eq_some_iff.mp h
  have hi : i < (j - 0).toNat := by
    have := (List.getElem?_eq_some_iff.mp h1).1
    simpa using this
  rw [List.getElem?_range hi] at h1
  cases h1
  exact ⟨by simp, by omega⟩
/-- `for x in range(e)`: e is a small number -/
theorem loop_rng {Γ : Fns} {e : Ex} {b : Bk} {η : En} {S S1 : Sto} {j : Int} {i : Nat} {Q : Out → Prop} (I : Nat → En → Sto → Prop) (he : evE Γ η e S = some (.v (.int j), S1)) (hj : -1000000 ≤ j) (hj2 : j ≤ 1000000) (h0 : I 0 η S1)
    (hs : ∀ (m : Nat) η S, (m : Int) < j → I m η S → Ok (evB Γ b (η.set i (some (.v (.int m)))) S) (loopP Q (I (m + 1)))) (hend : ∀ η S, I j.toNat η S → Q (.nx η S)) : Ok (evS Γ (.loop [i] false (.rng1 e) b) η S) Q := by
  have hr : rngOk 0 j = true := by unfold rngOk; simp; omega
  have e1 : evI Γ η (.rng1 e) S = some (.items (rngL 0 j), S1) := by simp [evI, he, asInt, hr]
  have e2 : evS Γ (.loop [i] false (.rng1 e) b) η S = forL (fun d η1 S2 => do let η2 ← bindT η1 [i] false d; evB Γ b η2 S2) (rngL 0 j) η S1 := by
    rw [evS, e1]
    rfl
  rw [e2]
  refine forL_ok I (rngL 0 j) 0 η S1 h0 (fun m d η2 S2 hd hI => ?_) fun η2 S2 hI => hend η2 S2 (by rw [rngL_len, Nat.zero_add] at hI; exact hI)
  obtain ⟨rfl, hm⟩ := rngL_get hd
  rw [Nat.zero_add] at hI ⊢
  exact hs m η2 S2 hm hI
def MixF (g : List W → Sto → Option (W × Sto)) : Prop := ∀ (S : Sto) (n : Nat) (B : Int) (d : PyData) (ys : List PyData), Dk S n B → B + 1000 < 1000000000 → itemsOf d = some ys → ys.length ≤ 1000 →
  Ok (g [.r n, .v d] S) fun p => ∃ zs, p.1 = .v (.tuple zs) ∧ zs.Perm ys ∧ Nx n S p.2 (B + ys.length)
theorem erase_perm {α : Type} : ∀ {l : List α} {i : Nat} (h : i < l.length), (l[i] :: l.eraseIdx i).Perm l
  | x :: l, 0, _ => .refl _
  | x :: l, i + 1, h => by
    have hi : i < l.length := by simpa using h
    have := erase_perm (l := l) (i := i) hi
    exact (List.Perm.swap x l[i] (l.eraseIdx i)).trans (this.cons x)
theorem two_cells {S1 : Sto} {m : Nat} (h : S1.length = m) (l r : List PyData) : look (S1 ++ [Cell.lst l, Cell.lst r]) m = some l ∧ look (S1 ++ [Cell.lst l, Cell.lst r]) (m + 1) = some r ∧
    (∀ c, (S1 ++ [Cell.lst l, Cell.lst r]).set m c = S1 ++ [c, Cell.lst r]) ∧ (∀ c, (S1 ++ [Cell.lst l, Cell.lst r]).set (m + 1) c = S1 ++ [Cell.lst l, c]) := by
  subst h
  exact ⟨look_new (i := 0), look_new (i := 1), fun c => set_new (i := 0), fun c => set_new (i := 1)⟩
theorem mixed_ok {Γ : Fns} (hd : DrawF (Γ f_Ldraw)) : MixF (runF Γ d_Lmixed) := by
  intro S n B d ys hD hB hy h1
  have hn := hD.lt
  refine run_ok rfl ?_
  show Ok (evB Γ b_Lmixed [some (.r n), some (.v d), none, none, none] S) _
  unfold b_Lmixed
  have hl : blD .list [d] = some (.list ys) := by cases d <;> cases hy <;> rfl
  refine step (η' := [some (.r n), some (.v d), some (.r S.length), some (.r (S.length + 1)), none]) (S' := S ++ [.lst ys, .lst []]) ?_ ?_
  · simp [s_Lmixed_3, evS, evE, evEs, storeAll, storeT, lkup, deref, deref0, derefs, hl, datas, lim]
  refine ok_cons_iff.mpr ?_
  unfold s_Lmixed_2
  refine loop_rng (fun m η S' => ∃ S1 l r, S' = S1 ++ [.lst l, .lst r] ∧ Nx n S S1 (B + m) ∧ (r ++ l).Perm ys ∧ r.length = m ∧ ∃ y, η = [some (.r n), some (.v d), some (.r S.length), some (.r (S.length + 1)), y]) (j := (ys.length : Nat)) (S1 := S ++ [.lst ys, .lst []]) ?_ (by omega) (by omega) ?_ ?_ ?_
  · obtain ⟨c1, c2, c3, c4⟩ := two_cells (rfl : S.length = S.length) ys []
    simp [evE, evEs, lkup, derefs, deref, deref0, c1, blD]
  · exact ⟨S, ys, [], rfl, by simpa using Nx.refl hD, by simp, rfl, none, rfl⟩
  · rintro m η S' hm ⟨S1, l, r, rfl, hN, hp, hr, y, rfl⟩
    have hlen := hN.len
    obtain ⟨c1, c2, c3, c4⟩ := two_cells hlen l r
    have hll : r.length + l.length = ys.length := by have := hp.length_eq; rwa [List.length_append] at this
    have hD1 : Dk (S1 ++ [.lst l, .lst r]) n (B + m) := hN.dk.app
    obtain ⟨⟨wv, S2⟩, e1, v, rfl, v0, v1, hN2⟩ := hd (S1 ++ [.lst l, .lst r]) n (B + m) l.length hD1 (by omega) (by omega) (by omega)
    obtain ⟨S3, e3, hN3, hl3⟩ := Nx.app (by rw [hlen]; exact hn) hN2
    have e3 : S2 = S3 ++ [.lst l, .lst r] := e3
    subst e3
    obtain ⟨a1, a2, a3, a4⟩ := two_cells (hl3.trans hlen) l r
    obtain ⟨b1, b2, b3, b4⟩ := two_cells (hl3.trans hlen) (l.eraseIdx v.toNat) r
    have hv : v.toNat < l.length := by omega
    have hix : ixS l.length v = some v.toNat := by
      unfold ixS ixN
      rw [if_pos (show l.length ≤ lim from Nat.le_trans (by omega : l.length ≤ 1000) (by decide)), if_pos v0, if_pos v1]
    have hpop : evE Γ [some (.r n), some (.v d), some (.r S.length), some (.r (S.length + 1)), some (.v (.int m))] (.pop 2 (.call f_Ldraw (.cons (.var 0) (.cons (.blt .len (.cons (.var 2) .nil)) .nil)))) (S1 ++ [.lst l, .lst r]) = some (.v l[v.toNat], S3 ++ [.lst (l.eraseIdx v.toNat), .lst r]) := by
      simp [evE, evEs, lkup, deref, deref0, derefs, c1, blD, optI, isNop, toI, e1, a1, hix, List.getElem?_eq_getElem hv, a3]
    refine ok_cons_iff.mpr (ok_eq (y := some (.nx [some (.r n), some (.v d), some (.r S.length), some (.r (S.length + 1)), some (.v (.int m))] (S3 ++ [.lst (l.eraseIdx v.toNat), .lst (r ++ [l[v.toNat]])]))) ?_ (ok_some ?_))
    · have hlt : r.length < lim := Nat.lt_of_lt_of_le (by omega : r.length < 1000) (by decide)
      simp [s_Lmixed_0, evS, lkup, deref, deref0, c2, hpop, b2, hlt, b4]
    · refine ok_nil_iff.mpr ⟨S3, l.eraseIdx v.toNat, r ++ [l[v.toNat]], rfl, ?_, ?_, by simp [hr], _, rfl⟩
      · have := hN.trans hN3
        rwa [show B + (m : Int) + 1 = B + ((m + 1 : Nat) : Int) by omega] at this
      · rw [List.append_assoc]
        refine List.Perm.trans (List.Perm.append_left r ?_) hp
        exact erase_perm hv
  · rintro η S' ⟨S1, l, r, rfl, hN, hp, hr, y, rfl⟩
    have hlen := hN.len
    obtain ⟨c1, c2, c3, c4⟩ := two_cells hlen l r
    have hll : r.length + l.length = ys.length := by have := hp.length_eq; rwa [List.length_append] at this
    have hle : l = [] := List.eq_nil_of_length_eq_zero (by omega)
    subst hle
    rw [List.append_nil] at hp
    show Ok (evB Γ _ _ _) _
    refine step (η' := [some (.r n), some (.v d), some (.r S.length), some (.v (.list r)), y]) (S' := S1 ++ [.lst [], .gone]) ?_ ?_
    · simp [evS, lkup, c2, c4]
    refine stop (w := .v (.tuple r)) (S' := S1 ++ [.lst [], .gone]) ?_ (fin_v ⟨r, rfl, hp, ?_⟩)
    · simp [s_Lmixed_1, evS, evE, evEs, lkup, derefs, deref, deref0, blD, itemsOf]
    · show Nx n S ((S1 ++ [Cell.lst [], Cell.gone]).take S.length) _
      rw [← hlen, List.take_left]
      have e : ((ys.length : Nat) : Int).toNat = ys.length := by simp
      rw [e] at hN
      exact hN
theorem mixF {T : List (Nat × Fd)} {k : Nat} (h : T.lookup f_Ldraw = some d_Ldraw) (h2 : T.lookup f_Lmixed = some d_Lmixed) : MixF (evF T (k + 2) f_Lmixed) := by
  intro S n B d ys
  rw [evF_of h2]
  exact mixed_ok (drawF h) S n B d ys
end Pl


namespace Pl
open PySem
def NearF (g : List W → Sto → Option (W × Sto)) : Prop := ∀ (S : Sto) (n : Nat) (B : Int) (d : PyData) (ys : List PyData), Dk S n B → B + 1000 < 1000000000 → itemsOf d = some ys → 0 < ys.length → ys.length ≤ 1000 →
  Ok (g [.r n, .v d] S) fun p => ∃ zs, p.1 = .v (.tuple zs) ∧ zs.Perm ys ∧ Nx n S p.2 (B + 5)
theorem one_cell {S1 : Sto} {m : Nat} (h : S1.length = m) (l : List PyData) : look (S1 ++ [Cell.lst l]) m = some l ∧ (∀ c, (S1 ++ [Cell.lst l]).set m c = S1 ++ [c]) := by
  subst h
  exact ⟨look_new (i := 0), fun c => set_new (i := 0)⟩
theorem ixS_nat {n : Nat} {v : Int} (h0 : 0 ≤ v) (h1 : v < n) (h2 : n ≤ 1000) : ixS n v = some v.toNat := by
  unfold ixS ixN
  rw [if_pos (show n ≤ lim from Nat.le_trans h2 (by decide)), if_pos h0, if_pos h1]
theorem ixN_nat {n : Nat} {v : Int} (h0 : 0 ≤ v) (h1 : v < n) : ixN n v = some v.toNat := by
  unfold ixN
  rw [if_pos h0, if_pos h1]
theorem near_ok {Γ : Fns} (hd : DrawF (Γ f_Ldraw)) : NearF (runF Γ d_Lnear) := by
  intro S n B d ys hD hB hy hpos h1
  have hn := hD.lt
  refine run_ok rfl ?_
  show Ok (evB Γ b_Lnear [some (.r n), some (.v d), none, none, none] S) _
  unfold b_Lnear
  have hl : blD .list [d] = some (.list ys) := by cases d <;> cases hy <;> rfl
  refine step (η' := [some (.r n), some (.v d), some (.r S.length), none, none]) (S' := S ++ [Cell.lst ys]) ?_ ?_
  · simp [s_Lnear_5, evS, evE, evEs, storeT, lkup, deref, deref0, derefs, hl]
  refine ok_cons_iff.mpr ?_
  unfold s_Lnear_4
  obtain ⟨⟨wv, S2⟩, e1, j, rfl, j0, j1, hN2⟩ := hd (S ++ [Cell.lst ys]) n B 4 hD.app (by omega) (by omega) (by omega)
  obtain ⟨S3, e3, hN3, hl3⟩ := Nx.app hn hN2
  have e3 : S2 = S3 ++ [Cell.lst ys] := e3
  subst e3
  refine loop_rng (fun m η S' => ∃ S1 l, S' = S1 ++ [Cell.lst l] ∧ Nx n S S1 (B + 1 + m) ∧ l.Perm ys ∧ ∃ y z, η = [some (.r n), some (.v d), some (.r S.length), y, z]) (j := j) (S1 := S3 ++ [Cell.lst ys]) ?_ (by omega) (by omega) ?_ ?_ ?_
  · simp [evE, evEs, lkup, e1]
  · exact ⟨S3, ys, rfl, by simpa using hN3, .refl _, none, none, rfl⟩
  · rintro m η S' hm ⟨S1, l, rfl, hN, hp, y, z, rfl⟩
    have hlen := hN.len
    have hll := hp.length_eq
    obtain ⟨c1, c2⟩ := one_cell hlen l
    obtain ⟨⟨wv, S5⟩, e5, v, rfl, v0, v1, hN5⟩ := hd (S1 ++ [Cell.lst l]) n (B + 1 + m) l.length hN.dk.app (by omega) (by omega) (by omega)
    obtain ⟨S6, e6, hN6, hl6⟩ := Nx.app (by rw [hlen]; exact hn) hN5
    have e6 : S5 = S6 ++ [Cell.lst l] := e6
    subst e6
    obtain ⟨b1, b2⟩ := one_cell (hl6.trans hlen) l
    have hN7 : Nx n S S6 (B + 1 + ((m + 1 : Nat) : Int)) := by
      have := hN.trans hN6
      rwa [show B + 1 + (m : Int) + 1 = B + 1 + ((m + 1 : Nat) : Int) by omega] at this
    refine step (η' := [some (.r n), some (.v d), some (.r S.length), some (.v (.int m)), some (.v (.int v))]) (S' := S6 ++ [Cell.lst l]) ?_ ?_
    · simp [s_Lnear_2, evS, evE, evEs, storeT, lkup, deref, deref0, derefs, c1, blD, e5]
    by_cases hv : 0 < v
    · obtain ⟨i1, hi1⟩ : ∃ i1, i1 = v.toNat := ⟨_, rfl⟩
      obtain ⟨i2, hi2⟩ : ∃ i2, i2 = (v - 1).toNat := ⟨_, rfl⟩
      have hv1 : i1 < l.length := by omega
      have hv2 : i2 < l.length := by omega
      have k1 : ixN l.length v = some i1 := by rw [hi1]; exact ixN_nat v0 v1
      have k2 : ixN l.length (v - 1) = some i2 := by rw [hi2]; exact ixN_nat (by omega) (by omega)
      have k3 : ixS l.length v = some i1 := by rw [hi1]; exact ixS_nat v0 v1 (by omega)
      have k4 : ixS l.length (v - 1) = some i2 := by rw [hi2]; exact ixS_nat (by omega) (by omega) (by omega)
      have g1 : atD (.list l) (.int v) = some l[i1] := by show (ixN _ _).bind _ = _; rw [k1]; exact List.getElem?_eq_getElem hv1
      have g2 : atD (.list l) (.int (v - 1)) = some l[i2] := by show (ixN _ _).bind _ = _; rw [k2]; exact List.getElem?_eq_getElem hv2
      have hperm := (List.set_set_perm hv2 hv1).trans hp
      generalize l[i1] = x1 at g1 hperm
      generalize l[i2] = x2 at g2 hperm
      obtain ⟨d1, d2⟩ := one_cell (hl6.trans hlen) (l.set i2 x1)
      refine step (η' := [some (.r n), some (.v d), some (.r S.length), some (.v (.int m)), some (.v (.int v))]) (S' := S6 ++ [Cell.lst ((l.set i2 x1).set i1 x2)]) ?_ (ok_nil ⟨S6, _, rfl, hN7, hperm, _, _, rfl⟩)
      have g3 : coD .gt (.int v) (.int 0) = some true := by show some (decide _) = _; rw [decide_eq_true hv]
      have g4 : boD .sub (.int v) (.int 1) = some (.int (v - 1)) := rfl
      simp [s_Lnear_1, s_Lnear_0, evB, evS, evE, evEs, storeAll, storeT, lkup, deref, deref0, asBool, asInt, g3, g4, b1, g1, g2, k4, b2, d1, k3, d2]
    · refine step (η' := [some (.r n), some (.v d), some (.r S.length), some (.v (.int m)), some (.v (.int v))]) (S' := S6 ++ [Cell.lst l]) ?_ (ok_nil ⟨S6, l, rfl, hN7, hp, _, _, rfl⟩)
      have g3 : coD .gt (.int v) (.int 0) = some false := by show some (decide _) = _; rw [decide_eq_false hv]
      simp [s_Lnear_1, evB, evS, evE, lkup, deref, deref0, asBool, g3]
  · rintro η S' ⟨S1, l, rfl, hN, hp, y, z, rfl⟩
    have hlen := hN.len
    obtain ⟨c1, c2⟩ := one_cell hlen l
    show Ok (evB Γ _ _ _) _
    refine step (η' := [some (.r n), some (.v d), some (.v (.list l)), y, z]) (S' := S1 ++ [Cell.gone]) ?_ ?_
    · simp [evS, lkup, c1, c2]
    refine stop (w := .v (.tuple l)) (S' := S1 ++ [Cell.gone]) ?_ (fin_v ⟨l, rfl, hp, ?_⟩)
    · simp [s_Lnear_3, evS, evE, evEs, lkup, derefs, deref, deref0, blD, itemsOf]
    · show Nx n S ((S1 ++ [Cell.gone]).take S.length) _
      rw [← hlen, List.take_left]
      exact hN.mono (by omega)
theorem nearF {T : List (Nat × Fd)} {k : Nat} (h : T.lookup f_Ldraw = some d_Ldraw) (h2 : T.lookup f_Lnear = some d_Lnear) : NearF (evF T (k + 2) f_Lnear) := by
  intro S n B d ys
  rw [evF_of h2]
  exact near_ok (drawF h) S n B d ys
end Pl


namespace Pl
open PySem
def optL : Option PyData → List PyData
  | some x => [x]
  | none => []
theorem lcL_ok {f : PyData → Sto → Option (Option PyData × Sto)} (I : Nat → List PyData → Sto → Prop) : ∀ (ds : List PyData) (i0 : Nat) (acc : List PyData) (S : Sto), I i0 acc S → (∀ i d acc S, ds[i]? = some d → I (i0 + i) acc S → Ok (f d S) fun p => I (i0 + i + 1) (acc ++ optL p.1) p.2) →
    Ok (lcL f ds S) fun q => I (i0 + ds.length) (acc ++ q.1) q.2
  | [], i0, acc, S, h0, _ => ok_some (by simpa using h0)
  | d :: ds, i0, acc, S, h0, hs => by
    obtain ⟨⟨o, S1⟩, e, q⟩ := hs 0 d acc S rfl h0
    obtain ⟨⟨l, S2⟩, e2, q2⟩ := lcL_ok I ds (i0 + 1) (acc ++ optL o) S1 q fun i d' acc2 S2 hd hI => by
      have := hs (i + 1) d' acc2 S2 hd (by rw [show i0 + (i + 1) = i0 + 1 + i by omega]; exact hI)
      rw [show i0 + (i + 1) + 1 = i0 + 1 + i + 1 by omega] at this
      exact this
    refine ⟨(optL o ++ l, S2), ?_, ?_⟩
    · simp only [lcL, Option.bind_eq_bind]
      rw [e]
      show (lcL f ds S1).bind _ = _
      rw [e2]
      cases o <;> rfl
    · show I _ (acc ++ (optL o ++ l)) S2
      rw [← List.append_assoc, List.length_cons, show i0 + (ds.length + 1) = i0 + 1 + ds.length by omega]
      exact q2
def lcT (Γ : Fns) (η : En) (x : Ex) (i : Nat) (d : PyData) (S1 : Sto) : Option (Option PyData × Sto) := do
  let η1 ← bindT (wipeE η [i]) [i] false d
  let b ← evE Γ η1 (.con (.bool true)) S1
  let z ← asBool b.1
  if z then
    let e ← evE Γ η1 x b.2
    match e.1 with
    | .v x => some (some x, e.2)
    | _ => none
  else some (none, b.2)
/-- `[e for x in range(k)]` -/
theorem lc_rng {Γ : Fns} {e x : Ex} {η : En} {S S1 : Sto} {j : Int} {i : Nat} {Q : W × Sto → Prop} (I : Nat → List PyData → Sto → Prop) (he : evE Γ η e S = some (.v (.int j), S1)) (hj : -1000000 ≤ j) (hj2 : j ≤ 1000) (h0 : I 0 [] S1)
    (hs : ∀ (m : Nat) acc S, (m : Int) < j → I m acc S → Ok (evE Γ ((wipeE η [i]).set i (some (.v (.int m)))) x S) fun p => ∃ d, p.1 = .v d ∧ I (m + 1) (acc ++ [d]) p.2) (hl : ∀ m acc S, I m acc S → acc.length ≤ m)
    (hend : ∀ acc S, I j.toNat acc S → Q (.v (.list acc), S)) : Ok (evE Γ η (.lc x [i] false (.rng1 e) (.con (.bool true))) S) Q := by
  have hr : rngOk 0 j = true := by unfold rngOk; simp; omega
  have e1 : evI Γ η (.rng1 e) S = some (.items (rngL 0 j), S1) := by simp [evI, he, asInt, hr]
  obtain ⟨⟨l, S2⟩, e2, q⟩ := lcL_ok (f := lcT Γ η x i) I (rngL 0 j) 0 [] S1 h0 fun m d acc S hd hI => by
    obtain ⟨rfl, hm⟩ := rngL_get hd
    rw [Nat.zero_add] at hI ⊢
    obtain ⟨⟨w, S3⟩, e3, d, rfl, hI2⟩ := hs m acc S hm hI
    refine ⟨(some d, S3), ?_, hI2⟩
    simp [lcT, bindT, setAll, evE, asBool, e3]
  rw [rngL_len, Nat.zero_add, List.nil_append] at q
  have hlen : l.length ≤ lim := Nat.le_trans (hl _ _ _ q) (Nat.le_trans (by omega : j.toNat ≤ 1000) (by decide))
  refine ⟨(.v (.list l), S2), ?_, hend l S2 q⟩
  have e3 : evE Γ η (.lc x [i] false (.rng1 e) (.con (.bool true))) S = (lcL (lcT Γ η x i) (rngL 0 j) S1).bind fun q => if q.1.length ≤ lim then some (.v (.list q.1), q.2) else none := by
    rw [evE, e1]
    rfl
  rw [e3, e2]
  show (if l.length ≤ lim then _ else _) = _
  rw [if_pos hlen]
def Ord (people : Nat) (d : PyData) : Prop := ∃ zs, d = .tuple zs ∧ zs.Perm (rngL 0 people)
/-- a board: rooms from 0 to 7, orders of all people -/
def Brd (people posts : Nat) (d : PyData) : Prop := ∃ (rs : List Int) (os : List PyData), d = .tuple [.tuple (rs.map .int), .tuple os] ∧ rs.length = posts ∧ (∀ r ∈ rs, 0 ≤ r ∧ r ≤ 7) ∧ os.length = posts ∧ ∀ o ∈ os, Ord people o
theorem ev_lrng {Γ : Fns} {η : En} {S : Sto} {e : Ex} {j : Nat} (h : evE Γ η e S = some (.v (.int (j : Nat)), S)) (hj : j ≤ 1000) : evE Γ η (.lrng false (.rng1 e)) S = some (.v (.list (rngL 0 (j : Nat))), S) := by
  have hr : rngOk 0 (j : Nat) = true := by unfold rngOk; simp; omega
  have hl : (rngL 0 (j : Nat)).length ≤ lim := by
    rw [rngL_len]
    exact Nat.le_trans (by omega : ((j : Nat) : Int).toNat ≤ 1000) (by decide)
  simp [evE, evI, h, asInt, hr, hl]
theorem ev_mix {Γ : Fns} {η : En} {S : Sto} {n i j : Nat} (h0 : lkup η 0 = some (.r n)) (hi : lkup η i = some (.v (.int (j : Nat)))) (hj : j ≤ 1000) : evE Γ η (.call f_Lmixed (.cons (.var 0) (.cons (.lrng false (.rng1 (.var i))) .nil))) S = Γ f_Lmixed [.r n, .v (.list (rngL 0 (j : Nat)))] S := by
  have hr := ev_lrng (Γ := Γ) (η := η) (S := S) (e := .var i) (j := j) (by simp [evE, hi]) hj
  generalize Ex.lrng false (.rng1 (.var i)) = a at hr ⊢
  simp [evE, evEs, h0, hr]
def BoardF (g : List W → Sto → Option (W × Sto)) : Prop := ∀ (S : Sto) (n : Nat) (B : Int) (people posts : Nat), Dk S n B → B + 100000 < 1000000000 → 0 < people → people ≤ 7 → 0 < posts → posts ≤ 7 →
  Ok (g [.r n, .v (.int (people : Nat)), .v (.int (posts : Nat))] S) fun p => ∃ d, p.1 = .v d ∧ Brd people posts d ∧ Nx n S p.2 (B + 1000)
theorem board_ok {Γ : Fns} (hd : DrawF (Γ f_Ldraw)) (ho : OneF (Γ f_Lone)) (hm : MixF (Γ f_Lmixed)) (hn : NearF (Γ f_Lnear)) : BoardF (runF Γ d_Lboard) := by
  intro S n B people posts hD hB p0 p1 q0 q1
  have hlt := hD.lt
  refine run_ok rfl ?_
  show Ok (evB Γ b_Lboard [some (.r n), some (.v (.int (people : Nat))), some (.v (.int (posts : Nat))), none, none, none, none] S) _
  unfold b_Lboard
  have hrl : (rngL 0 (people : Nat)).length = people := by rw [rngL_len]; omega
  -- the first order
  obtain ⟨⟨w0, S0⟩, e0, zs0, rfl, hz0, hN0⟩ := hm S n B (.list (rngL 0 (people : Nat))) _ hD (by omega) rfl (by omega)
  refine step (η' := [some (.r n), some (.v (.int (people : Nat))), some (.v (.int (posts : Nat))), some (.r S.length), none, none, none]) (S' := S0 ++ [Cell.lst [.tuple zs0]]) ?_ ?_
  · have hr := ev_mix (Γ := Γ) (η := [some (.r n), some (.v (.int (people : Nat))), some (.v (.int (posts : Nat))), none, none, none, none]) (S := S) (n := n) (i := 1) (j := people) rfl rfl (by omega)
    rw [e0] at hr
    have hl0 : (1 : Nat) ≤ lim := by decide
    have hl1 : List.length S0 = List.length S := hN0.len
    unfold s_Lboard_5
    generalize Ex.call f_Lmixed (.cons (.var 0) (.cons (.lrng false (.rng1 (.var 1))) .nil)) = a at hr ⊢
    simp [evS, evE, evEs, hr, datas, hl0, storeT, hl1]
  refine ok_cons_iff.mpr ?_
  unfold s_Lboard_4
  refine loop_rng (fun m η S' => ∃ S1 os, S' = S1 ++ [Cell.lst os] ∧ Nx n S S1 (B + 10 + 20 * m) ∧ os.length = m + 1 ∧ (∀ o ∈ os, Ord people o) ∧ ∃ y z, η = [some (.r n), some (.v (.int (people : Nat))), some (.v (.int (posts : Nat))), some (.r S.length), y, z, none]) (j := (posts : Int) - 1) (S1 := S0 ++ [Cell.lst [.tuple zs0]]) ?_ (by omega) (by omega) ?_ ?_ ?_
  · simp [evE, lkup, deref, deref0, boD]
  · refine ⟨S0, _, rfl, hN0.mono (by rw [hrl]; omega), rfl, fun o ho => ?_, none, none, rfl⟩
    rw [List.mem_singleton.mp ho]
    exact ⟨zs0, rfl, hz0⟩
  · rintro m η S' hmj ⟨S1, os, rfl, hN, hlen, hos, y, z, rfl⟩
    have hl1 := hN.len
    obtain ⟨c1, c2⟩ := one_cell hl1 os
    have hDk : Dk (S1 ++ [Cell.lst os]) n (B + 10 + 20 * m) := hN.dk.app
    obtain ⟨⟨w1, S2⟩, e1, z1, hz1, rfl, hN1⟩ := ho (S1 ++ [Cell.lst os]) n (B + 10 + 20 * m) (.r S.length) (.list os) os hDk (by omega) (deref_look c1) (by intro e; injection e with e; omega) rfl (by omega) (by omega)
    obtain ⟨S3, e3, hN3, hl3⟩ := Nx.app (by rw [hl1]; exact hlt) hN1
    have e3 : S2 = S3 ++ [Cell.lst os] := e3
    subst e3
    obtain ⟨zs, rfl, hzs⟩ := hos z1 hz1
    have hzl : zs.length = people := by rw [hzs.length_eq, hrl]
    obtain ⟨⟨w2, S4⟩, e2, us, rfl, hus, hN2⟩ := hn (S3 ++ [Cell.lst os]) n _ (.tuple zs) zs hN3.dk.app (by omega) rfl (by omega) (by omega)
    obtain ⟨S5, e5, hN5, hl5⟩ := Nx.app (by rw [hl3, hl1]; exact hlt) hN2
    have e5 : S4 = S5 ++ [Cell.lst os] := e5
    subst e5
    refine step (η' := [some (.r n), some (.v (.int (people : Nat))), some (.v (.int (posts : Nat))), some (.r S.length), some (.v (.int m)), some (.v (.tuple us)), none]) (S' := S5 ++ [Cell.lst os]) ?_ ?_
    · simp [s_Lboard_1, evS, evE, evEs, storeT, lkup, e1, e2]
    obtain ⟨⟨w3, S6⟩, e6, v, rfl, v0, v1, hN6⟩ := hd (S5 ++ [Cell.lst os]) n _ 3 hN5.dk.app (by omega) (by omega) (by omega)
    obtain ⟨S7, e7, hN7, hl7⟩ := Nx.app (by rw [hl5, hl3, hl1]; exact hlt) hN6
    have e7 : S6 = S7 ++ [Cell.lst os] := e7
    subst e7
    have hlS : S7.length = S.length := by rw [hl7, hl5, hl3, hl1]
    obtain ⟨b1, b2⟩ := one_cell (hl5.trans (hl3.trans hl1)) os
    have tot : Nx n S S7 (B + 10 + 20 * m + 7) := (((hN.trans hN3).trans hN5).trans hN7).mono (by omega)
    have hlim : os.length < lim := Nat.lt_of_lt_of_le (by omega : os.length < 1000) (by decide)
    by_cases hv : v = 0
    · obtain ⟨d1, d2⟩ := one_cell hlS os
      refine step (η' := [some (.r n), some (.v (.int (people : Nat))), some (.v (.int (posts : Nat))), some (.r S.length), some (.v (.int m)), some (.v (.tuple us)), none]) (S' := S7 ++ [Cell.lst (os ++ [.tuple us])]) ?_ (ok_nil ⟨S7, _, rfl, tot.mono (by omega), by simp [hlen], fun o ho' => ?_, _, _, rfl⟩)
      · have hc : coD .eq (.int v) (.int 0) = some true := by subst hv; simp [coD, shp, SeqAt.shaped, PyData.canLay0, PyData.depth, PyData.eqv]
        simp [s_Lboard_0, evS, evE, evEs, lkup, deref, deref0, asBool, b1, e6, hc, d1, hlim, d2]
      · rcases List.mem_append.mp ho' with h | h
        · exact hos o h
        · rw [List.mem_singleton.mp h]
          exact ⟨us, rfl, hus.trans hzs⟩
    · obtain ⟨⟨w4, S8⟩, e8, ts, rfl, hts, hN8⟩ := hm (S7 ++ [Cell.lst os]) n _ (.list (rngL 0 (people : Nat))) _ hN7.dk.app (by omega) rfl (by omega)
      obtain ⟨S9, e9, hN9, hl9⟩ := Nx.app (by rw [hlS]; exact hlt) hN8
      have e9 : S8 = S9 ++ [Cell.lst os] := e9
      subst e9
      obtain ⟨d1, d2⟩ := one_cell (hl9.trans hlS) os
      refine step (η' := [some (.r n), some (.v (.int (people : Nat))), some (.v (.int (posts : Nat))), some (.r S.length), some (.v (.int m)), some (.v (.tuple us)), none]) (S' := S9 ++ [Cell.lst (os ++ [.tuple ts])]) ?_ (ok_nil ⟨S9, _, rfl, (tot.trans hN9).mono (by rw [hrl]; omega), by simp [hlen], fun o ho' => ?_, _, _, rfl⟩)
      · have hc : coD .eq (.int v) (.int 0) = some false := by
          simp [coD, shp, SeqAt.shaped, PyData.canLay0, PyData.depth, PyData.eqv, hv]
        have hr := ev_mix (Γ := Γ) (η := [some (.r n), some (.v (.int (people : Nat))), some (.v (.int (posts : Nat))), some (.r S.length), some (.v (.int m)), some (.v (.tuple us)), none]) (S := S7 ++ [Cell.lst os]) (n := n) (i := 1) (j := people) rfl rfl (by omega)
        rw [e8] at hr
        unfold s_Lboard_0
        generalize Ex.call f_Lmixed (.cons (.var 0) (.cons (.lrng false (.rng1 (.var 1))) .nil)) = a at hr ⊢
        simp [evS, evE, evEs, lkup, deref, deref0, asBool, b1, e6, hc, hr, d1, hlim, d2]
      · rcases List.mem_append.mp ho' with h | h
        · exact hos o h
        · rw [List.mem_singleton.mp h]
          exact ⟨ts, rfl, hts⟩
  · rintro η S' ⟨S1, os, rfl, hN, hlen, hos, y, z, rfl⟩
    have hl1 := hN.len
    obtain ⟨c1, c2⟩ := one_cell hl1 os
    have hol : os.length = posts := by omega
    show Ok (evB Γ _ _ _) _
    refine step (η' := [some (.r n), some (.v (.int (people : Nat))), some (.v (.int (posts : Nat))), some (.v (.list os)), y, z, none]) (S' := S1 ++ [Cell.gone]) ?_ ?_
    · simp [evS, lkup, c1, c2]
    have hDk : Dk (S1 ++ [Cell.gone]) n _ := hN.dk.app
    -- the room sizes
    have hwide : evE Γ [some (.r n), some (.v (.int (people : Nat))), some (.v (.int (posts : Nat))), some (.v (.list os)), y, z, none] (.lst (.cons (.lst (.cons (.con (.int 1)) .nil)) (.cons (.lst (.cons (.con (.int 1)) (.cons (.con (.int 1)) (.cons (.con (.int 2)) .nil)))) (.cons (.lst (.cons (.con (.int 1)) (.cons (.con (.int 1)) (.cons (.con (.int 2)) (.cons (.con (.int 2)) (.cons (.con (.int 3)) .nil)))))) (.cons (.lst (.cons (.con (.int 0)) (.cons (.con (.int 1)) (.cons (.con (.int 1)) (.cons (.con (.int 2)) (.cons (.var 1) (.cons (.con (.int 7)) .nil))))))) .nil))))) (S1 ++ [Cell.gone]) =
        some (.v (.list [.list ([1].map .int), .list ([1, 1, 2].map .int), .list ([1, 1, 2, 2, 3].map .int), .list ([0, 1, 1, 2, (people : Int), 7].map .int)]), S1 ++ [Cell.gone]) := by
      simp [evE, evEs, lkup, datas, lim]
    obtain ⟨⟨w1, S2⟩, e1, z1, hz1, rfl, hN1⟩ := ho (S1 ++ [Cell.gone]) n _ (.v (.list [.list ([1].map .int), .list ([1, 1, 2].map .int), .list ([1, 1, 2, 2, 3].map .int), .list ([0, 1, 1, 2, (people : Int), 7].map .int)])) _ _ hDk (by omega) rfl (by intro e; cases e) rfl (by simp) (by simp)
    obtain ⟨S3, e3, hN3, hl3⟩ := Nx.app (by rw [hl1]; exact hlt) hN1
    have e3 : S2 = S3 ++ [Cell.gone] := e3
    subst e3
    have hws : ∃ ws : List Int, z1 = .list (ws.map .int) ∧ 0 < ws.length ∧ ws.length ≤ 6 ∧ ∀ r ∈ ws, 0 ≤ r ∧ r ≤ 7 := by
      simp only [List.mem_cons, List.not_mem_nil, or_false] at hz1
      rcases hz1 with h | h | h | h
      · exact ⟨_, h, by simp, by simp, by simp⟩
      · exact ⟨_, h, by simp, by simp, by simp⟩
      · exact ⟨_, h, by simp, by simp, by simp⟩
      · exact ⟨_, h, by simp, by simp, by simp; omega⟩
    obtain ⟨ws, rfl, hw0, hw1, hw2⟩ := hws
    refine step (η' := [some (.r n), some (.v (.int (people : Nat))), some (.v (.int (posts : Nat))), some (.v (.list os)), y, z, some (.v (.list (ws.map .int)))]) (S' := S3 ++ [Cell.gone]) ?_ ?_
    · unfold s_Lboard_3
      generalize (Ex.lst (.cons (.lst (.cons (.con (.int 1)) .nil)) (.cons (.lst (.cons (.con (.int 1)) (.cons (.con (.int 1)) (.cons (.con (.int 2)) .nil)))) (.cons (.lst (.cons (.con (.int 1)) (.cons (.con (.int 1)) (.cons (.con (.int 2)) (.cons (.con (.int 2)) (.cons (.con (.int 3)) .nil)))))) (.cons (.lst (.cons (.con (.int 0)) (.cons (.con (.int 1)) (.cons (.con (.int 1)) (.cons (.con (.int 2)) (.cons (.var 1) (.cons (.con (.int 7)) .nil))))))) .nil))))) = a at hwide ⊢
      generalize (PyData.list [.list ([1].map .int), .list ([1, 1, 2].map .int), .list ([1, 1, 2, 2, 3].map .int), .list ([0, 1, 1, 2, (people : Int), 7].map .int)]) = L at hwide e1
      simp [evS, evE, evEs, lkup, hwide, storeT, e1]
    -- the rooms
    have rooms : Ok (evE Γ [some (.r n), some (.v (.int (people : Nat))), some (.v (.int (posts : Nat))), some (.v (.list os)), y, z, some (.v (.list (ws.map .int)))] (.lc (.call f_Lone (.cons (.var 0) (.cons (.var 6) .nil))) [4] false (.rng1 (.var 2)) (.con (.bool true))) (S3 ++ [Cell.gone])) fun p => ∃ rs : List Int, p.1 = .v (.list (rs.map .int)) ∧ rs.length = posts ∧ (∀ r ∈ rs, 0 ≤ r ∧ r ≤ 7) ∧ ∃ S4, p.2 = S4 ++ [Cell.gone] ∧ Nx n S3 S4 (B + 10 + 20 * ((posts : Int) - 1).toNat + 1 + posts) := by
      refine lc_rng (j := (posts : Nat)) (S1 := S3 ++ [Cell.gone]) (fun m acc S' => ∃ rs : List Int, acc = rs.map .int ∧ rs.length = m ∧ (∀ r ∈ rs, 0 ≤ r ∧ r ≤ 7) ∧ ∃ S4, S' = S4 ++ [Cell.gone] ∧ Nx n S3 S4 (B + 10 + 20 * ((posts : Int) - 1).toNat + 1 + m)) (by simp [evE, lkup]) (by omega) (by omega) ⟨[], rfl, rfl, by simp, S3, rfl, by simpa using Nx.refl hN3.dk⟩ ?_ ?_ ?_
      · rintro m acc S' hmj ⟨rs, rfl, hrl', hrs, S4, rfl, hN4⟩
        obtain ⟨⟨w5, S5⟩, e5, z5, hz5, rfl, hN5⟩ := ho (S4 ++ [Cell.gone]) n _ (.v (.list (ws.map .int))) _ _ hN4.dk.app (by omega) rfl (by intro e; cases e) rfl (by simpa using hw0) (by simp; omega)
        obtain ⟨S6, e6, hN6, hl6⟩ := Nx.app (by rw [hN4.len, hl3, hl1]; exact hlt) hN5
        have e6 : S5 = S6 ++ [Cell.gone] := e6
        subst e6
        obtain ⟨r, hr, rfl⟩ := List.mem_map.mp hz5
        refine ⟨(.v (.int r), S6 ++ [Cell.gone]), ?_, .int r, rfl, rs ++ [r], by simp, by simp [hrl'], fun q hq => ?_, S6, rfl, (hN4.trans hN6).mono (by omega)⟩
        · simp [wipeE, evE, evEs, lkup, e5]
        · rcases List.mem_append.mp hq with h | h
          · exact hrs q h
          · rw [List.mem_singleton.mp h]
            exact hw2 r hr
      · rintro m acc S' ⟨rs, rfl, h, _⟩
        simp [h]
      · rintro acc S' ⟨rs, rfl, h, hrs, S4, rfl, hN4⟩
        have e : ((posts : Nat) : Int).toNat = posts := by simp
        rw [e] at h hN4
        exact ⟨rs, rfl, h, hrs, S4, rfl, hN4⟩
    obtain ⟨⟨w6, S7⟩, e6, rs, rfl, hr1, hr2, S8, e8, hN8⟩ := rooms
    have e8 : S7 = S8 ++ [Cell.gone] := e8
    subst e8
    obtain ⟨⟨w9, S9⟩, e9, ps, rfl, hps, hN9⟩ := hm (S8 ++ [Cell.gone]) n _ (.list os) os hN8.dk.app (by omega) rfl (by omega)
    obtain ⟨S10, e10, hN10, hl10⟩ := Nx.app (by rw [hN8.len, hl3, hl1]; exact hlt) hN9
    have e10 : S9 = S10 ++ [Cell.gone] := e10
    subst e10
    refine stop (w := .v (.tuple [.tuple (rs.map .int), .tuple ps])) (S' := S10 ++ [Cell.gone]) ?_ (fin_v ⟨_, rfl, ⟨rs, ps, rfl, hr1, hr2, by rw [hps.length_eq, hol], fun o ho' => hos o (hps.mem_iff.mp ho')⟩, ?_⟩)
    · unfold s_Lboard_2
      generalize (Ex.lc (.call f_Lone (.cons (.var 0) (.cons (.var 6) .nil))) [4] false (.rng1 (.var 2)) (.con (.bool true))) = a at e6 ⊢
      simp [evS, evE, evEs, lkup, e6, derefs, deref, deref0, blD, itemsOf, e9, datas, lim]
    · show Nx n S ((S10 ++ [Cell.gone]).take S.length) _
      have hlen' : S.length = S10.length := by rw [hl10, hN8.len, hl3, hl1]
      rw [hlen', List.take_left]
      exact (((hN.trans hN3).trans hN8).trans hN10).mono (by omega)
theorem boardF {T : List (Nat × Fd)} {k : Nat} (h1 : T.lookup f_Ldraw = some d_Ldraw) (h2 : T.lookup f_Lone = some d_Lone) (h3 : T.lookup f_Lmixed = some d_Lmixed) (h4 : T.lookup f_Lnear = some d_Lnear) (h5 : T.lookup f_Lboard = some d_Lboard) : BoardF (evF T (k + 3) f_Lboard) := by
  intro S n B people posts
  rw [evF_of h5]
  exact board_ok (drawF h1) (oneF h1 h2) (mixF h1 h3) (nearF h1 h4) S n B people posts
end Pl


namespace Pl
open PySem
/-- a list of some posts, none twice -/
def Lst (posts : Nat) (d : PyData) : Prop := ∃ zs ts, d = .tuple zs ∧ (zs ++ ts).Perm (rngL 0 posts)
theorem cut_to {α : Type} (xs : List α) (k : Nat) : cut xs none (some (k : Int)) = xs.take k := by
  unfold cut sIx
  have h : ¬ ((k : Int) < 0) := by omega
  simp only [List.drop_zero, Nat.sub_zero, if_neg h]
  show xs.take (min (Int.toNat k) xs.length) = xs.take k
  rw [Int.toNat_natCast]
  by_cases hk : k ≤ xs.length
  · rw [Nat.min_eq_left hk]
  · rw [Nat.min_eq_right (by omega), List.take_length, List.take_of_length_le (by omega)]
end Pl


namespace Pl
open PySem
theorem deck_ok {Γ : Fns} {S : Sto} {ns : List Int} : ∃ xs : List Int, xs.length ≤ 63 ∧ runF Γ d_Ldeck [.s ns] S = some (.r S.length, S ++ [Cell.lst [.list (xs.map .int), .int 0, .int 0, .int 0]]) := by
  refine ⟨cut ns none (some 63), ?_, ?_⟩
  · rw [show (63 : Int) = ((63 : Nat) : Int) from rfl, cut_to]
    simp
    omega
  have e : evS Γ s_Ldeck_0 [some (.s ns)] S = some (.rt (.r S.length) (S ++ [Cell.lst [.list ((cut ns none (some 63)).map .int), .int 0, .int 0, .int 0]])) := by
    simp [s_Ldeck_0, evS, evE, evEs, lkup, optI, isNop, toI, derefs, deref, deref0, blD, itemsOf, datas, lim]
  have hb : evB Γ b_Ldeck [some (.s ns)] S = some (.rt (.r S.length) (S ++ [Cell.lst [.list ((cut ns none (some 63)).map .int), .int 0, .int 0, .int 0]])) := by
    unfold b_Ldeck
    rw [evB, e]
    rfl
  unfold runF
  refine (if_pos rfl).trans ?_
  show (evB Γ b_Ldeck [some (.s ns)] S).bind _ = _
  rw [hb]
  have hl : look (S ++ [Cell.lst [.list ((cut ns none (some 63)).map .int), .int 0, .int 0, .int 0]]) S.length = some [.list ((cut ns none (some 63)).map .int), .int 0, .int 0, .int 0] := look_new (i := 0)
  rw [Option.bind_some]
  have hf : d_Ldeck.fr = true := rfl
  rw [hf]
  simp [fin, hl]
theorem ne_str {s : Str} : coD .ne (.str s) (.str s) = some false := by simp [coD]
end Pl


namespace Pl
open PySem
abbrev nt (n : Nat) : PyData := .int (n : Int)
def mp {α : Type} (f : α → PyData) (xs : List α) : List PyData := xs.map f
def tu {α : Type} (f : α → PyData) (xs : List α) : PyData := .tuple (mp f xs)
def li {α : Type} (f : α → PyData) (xs : List α) : PyData := .list (mp f xs)
def oN : Option Nat → PyData
  | none => .none
  | some n => nt n
def p2 {α β : Type} (f : α → PyData) (g : β → PyData) (p : α × β) : PyData := .tuple [f p.1, g p.2]
def p3 {α β γ : Type} (f : α → PyData) (g : β → PyData) (h : γ → PyData) (p : α × β × γ) : PyData := .tuple [f p.1, g p.2.1, h p.2.2]
abbrev bo (b : Bool) : PyData := .bool b
@[simp] theorem oN_none : oN none = .none := rfl
@[simp] theorem oN_some (n : Nat) : oN (some n) = nt n := rfl
class Enc {α : Type} (f : α → PyData) (D : outParam Nat) : Prop where
  lay : ∀ a, (f a).canLay0 = true
  dep : ∀ a, (f a).depth ≤ D
class Inj {α : Type} (f : α → PyData) : Prop where
  inj : ∀ a b, PyData.eqv (f a) (f b) = true ↔ a = b
theorem layAll {α : Type} {f : α → PyData} (h : ∀ a, (f a).canLay0 = true) : ∀ xs : List α, PyData.canLayAll0 (xs.map f) = true
  | [] => rfl
  | x :: xs => by simp [PyData.canLayAll0, h x, layAll h xs]
theorem depAll {α : Type} {f : α → PyData} {D : Nat} (h : ∀ a, (f a).depth ≤ D) : ∀ xs : List α, PyData.depthAll (xs.map f) ≤ D
  | [] => by simp [PyData.depthAll]
  | x :: xs => by
    have := h x
    have := depAll h xs
    simp only [List.map_cons, PyData.depthAll]
    omega
instance : Enc PyData.int 0 := ⟨fun _ => rfl, fun _ => by simp [PyData.depth]⟩
instance : Enc nt 0 := ⟨fun _ => rfl, fun _ => by simp [PyData.depth]⟩
instance : Enc bo 0 := ⟨fun _ => rfl, fun _ => by simp [PyData.depth]⟩
instance : Enc oN 0 := ⟨fun a => by cases a <;> rfl, fun a => by cases a <;> simp [PyData.depth]⟩
instance {α : Type} {f : α → PyData} {D : Nat} [h : Enc f D] : Enc (tu f) (D + 1) := ⟨fun a => by simp [tu, mp, PyData.canLay0, layAll h.lay], fun a => by
  have := depAll h.dep a
  simp only [tu, mp, PyData.depth]
  omega⟩
instance {α : Type} {f : α → PyData} {D : Nat} [h : Enc f D] : Enc (li f) (D + 1) := ⟨fun a => by simp [li, mp, PyData.canLay0, layAll h.lay], fun a => by
  have := depAll h.dep a
  simp only [li, mp, PyData.depth]
  omega⟩
instance {α β : Type} {f : α → PyData} {g : β → PyData} {D E : Nat} [h : Enc f D] [k : Enc g E] : Enc (p2 f g) (max D E + 1) := ⟨fun a => by simp [p2, PyData.canLay0, PyData.canLayAll0, h.lay, k.lay], fun a => by
  have := h.dep a.1
  have := k.dep a.2
  simp only [p2, PyData.depth, PyData.depthAll]
  omega⟩
instance {α β γ : Type} {f : α → PyData} {g : β → PyData} {g2 : γ → PyData} {D E F : Nat} [h : Enc f D] [k : Enc g E] [l : Enc g2 F] : Enc (p3 f g g2) (max D (max E F) + 1) := ⟨fun a => by simp [p3, PyData.canLay0, PyData.canLayAll0, h.lay, k.lay, l.lay], fun a => by
  have := h.dep a.1
  have := k.dep a.2.1
  have := l.dep a.2.2
  simp only [p3, PyData.depth, PyData.depthAll]
  omega⟩
theorem eqvAll_map {α : Type} {f : α → PyData} [h : Inj f] : ∀ xs ys : List α, PyData.eqvAll (xs.map f) (ys.map f) = true ↔ xs = ys
  | [], [] => by simp [PyData.eqvAll]
  | [], _ :: _ => by simp [PyData.eqvAll]
  | _ :: _, [] => by simp [PyData.eqvAll]
  | x :: xs, y :: ys => by
    simp only [List.map_cons, PyData.eqvAll, Bool.and_eq_true, h.inj, eqvAll_map xs ys, List.cons.injEq]
instance : Inj PyData.int := ⟨fun a b => by simp [PyData.eqv]⟩
instance : Inj nt := ⟨fun a b => by simp [PyData.eqv]; omega⟩
instance : Inj bo := ⟨fun a b => by simp [PyData.eqv]⟩
instance : Inj oN := ⟨fun a b => by cases a <;> cases b <;> simp [PyData.eqv] <;> omega⟩
instance {α : Type} {f : α → PyData} [h : Inj f] : Inj (tu f) := ⟨fun a b => by simp [tu, mp, PyData.eqv, eqvAll_map]⟩
instance {α : Type} {f : α → PyData} [h : Inj f] : Inj (li f) := ⟨fun a b => by simp [li, mp, PyData.eqv, eqvAll_map]⟩
instance {α β : Type} {f : α → PyData} {g : β → PyData} [h : Inj f] [k : Inj g] : Inj (p2 f g) := ⟨fun a b => by
  obtain ⟨a1, a2⟩ := a
  obtain ⟨b1, b2⟩ := b
  simp [p2, PyData.eqv, PyData.eqvAll, h.inj, k.inj]⟩
instance {α β γ : Type} {f : α → PyData} {g : β → PyData} {g2 : γ → PyData} [h : Inj f] [k : Inj g] [l : Inj g2] : Inj (p3 f g g2) := ⟨fun a b => by
  obtain ⟨a1, a2, a3⟩ := a
  obtain ⟨b1, b2, b3⟩ := b
  simp [p3, PyData.eqv, PyData.eqvAll, h.inj, k.inj, l.inj]⟩
theorem shp_enc {α : Type} {f : α → PyData} {D : Nat} [h : Enc f D] (hd : D ≤ 64) (a : α) : shp (f a) = true := by
  unfold shp SeqAt.shaped
  have := h.dep a
  simp [h.lay]
  omega
theorem eqv_enc {α : Type} [DecidableEq α] {f : α → PyData} [h : Inj f] (a b : α) : PyData.eqv (f a) (f b) = decide (a = b) := by
  have := h.inj a b
  by_cases e : a = b
  · rw [decide_eq_true e, this.mpr e]
  · rw [decide_eq_false e, Bool.eq_false_iff]
    exact fun q => e (this.mp q)
theorem any_enc {α : Type} [DecidableEq α] {f : α → PyData} [h : Inj f] (a : α) (xs : List α) : ((xs.map f).any fun z => PyData.eqv z (f a)) = decide (a ∈ xs) := by
  induction xs with
  | nil => rfl
  | cons x xs ih =>
    rw [List.map_cons, List.any_cons, ih, eqv_enc]
    by_cases e : x = a
    · simp [e]
    · have : ¬ a = x := fun q => e q.symm
      simp [e, this]
theorem co_eqD {d e : PyData} (h1 : shp d = true) (h2 : shp e = true) : coD .eq d e = some (PyData.eqv d e) := by
  cases d <;> cases e <;> simp [coD, h1, h2, PyData.eqv]
theorem co_neD {d e : PyData} (h1 : shp d = true) (h2 : shp e = true) : coD .ne d e = some (!PyData.eqv d e) := by
  cases d <;> cases e <;> simp [coD, h1, h2, PyData.eqv, bne]
section
variable {α β : Type} {f : α → PyData} {g : β → PyData}
theorem co_eq [DecidableEq α] [Inj f] {D : Nat} [Enc f D] (a b : α) (hd : D ≤ 64) : coD .eq (f a) (f b) = some (decide (a = b)) := by
  rw [co_eqD (shp_enc hd a) (shp_enc hd b), eqv_enc]
theorem co_ne [DecidableEq α] [Inj f] {D : Nat} [Enc f D] (a b : α) (hd : D ≤ 64) : coD .ne (f a) (f b) = some (!decide (a = b)) := by
  rw [co_neD (shp_enc hd a) (shp_enc hd b), eqv_enc]
theorem isin_seq {d e : PyData} {xs : List PyData} (h : itemsOf e = some xs) : coD .isin d e = if shp d && shp e then some (xs.any fun z => PyData.eqv z d) else none := by
  cases e <;> cases h <;> rfl
theorem nin_seq {d e : PyData} {xs : List PyData} (h : itemsOf e = some xs) : coD .nin d e = if shp d && shp e then some (!xs.any fun z => PyData.eqv z d) else none := by
  cases e <;> cases h <;> rfl
theorem items_tu (xs : List α) : itemsOf (tu f xs) = some (xs.map f) := rfl
theorem items_li (xs : List α) : itemsOf (li f xs) = some (xs.map f) := rfl
theorem co_in [DecidableEq α] [Inj f] {D : Nat} [Enc f D] (a : α) (xs : List α) (hd : D < 64) : coD .isin (f a) (tu f xs) = some (decide (a ∈ xs)) := by
  rw [isin_seq (items_tu xs)]
  simp [shp_enc (f := f) (Nat.le_of_lt hd), shp_enc (f := tu f) (show D + 1 ≤ 64 from hd), ← any_enc (f := f)]
theorem co_inL [DecidableEq α] [Inj f] {D : Nat} [Enc f D] (a : α) (xs : List α) (hd : D < 64) : coD .isin (f a) (li f xs) = some (decide (a ∈ xs)) := by
  rw [isin_seq (items_li xs)]
  simp [shp_enc (f := f) (Nat.le_of_lt hd), shp_enc (f := li f) (show D + 1 ≤ 64 from hd), ← any_enc (f := f)]
theorem co_nin [DecidableEq α] [Inj f] {D : Nat} [Enc f D] (a : α) (xs : List α) (hd : D < 64) : coD .nin (f a) (tu f xs) = some (!decide (a ∈ xs)) := by
  rw [nin_seq (items_tu xs)]
  simp [shp_enc (f := f) (Nat.le_of_lt hd), shp_enc (f := tu f) (show D + 1 ≤ 64 from hd), ← any_enc (f := f)]
theorem co_ninL [DecidableEq α] [Inj f] {D : Nat} [Enc f D] (a : α) (xs : List α) (hd : D < 64) : coD .nin (f a) (li f xs) = some (!decide (a ∈ xs)) := by
  rw [nin_seq (items_li xs)]
  simp [shp_enc (f := f) (Nat.le_of_lt hd), shp_enc (f := li f) (show D + 1 ≤ 64 from hd), ← any_enc (f := f)]
theorem ixN_nt (n i : Nat) : ixN n (i : Int) = if i < n then some i else none := by
  unfold ixN
  rw [if_pos (Int.natCast_nonneg i)]
  by_cases h : i < n
  · rw [if_pos h, if_pos (by omega)]
    simp
  · rw [if_neg h, if_neg (by omega)]
@[simp] theorem at_tu (xs : List α) (i : Nat) : atD (tu f xs) (.int (i : Int)) = xs[i]?.map f := by
  show (ixN (xs.map f).length (i : Int)).bind ((xs.map f)[·]?) = _
  rw [ixN_nt]
  split
  · simp
  · next h =>
    rw [List.length_map] at h
    rw [List.getElem?_eq_none (by omega)]
    rfl
@[simp] theorem at_li (xs : List α) (i : Nat) : atD (li f xs) (.int (i : Int)) = xs[i]?.map f := at_tu xs i
@[simp] theorem at_tu0 (xs : List α) : atD (tu f xs) (.int 0) = xs[0]?.map f := at_tu xs 0
@[simp] theorem at_li0 (xs : List α) : atD (li f xs) (.int 0) = xs[0]?.map f := at_tu xs 0
@[simp] theorem at_tu1 (xs : List α) : atD (tu f xs) (.int 1) = xs[1]?.map f := at_tu xs 1
@[simp] theorem at_li1 (xs : List α) : atD (li f xs) (.int 1) = xs[1]?.map f := at_tu xs 1
@[simp] theorem at_p20 (p : α × β) : atD (p2 f g p) (.int 0) = some (f p.1) := rfl
@[simp] theorem at_p21 (p : α × β) : atD (p2 f g p) (.int 1) = some (g p.2) := rfl
theorem at_t (xs : List PyData) (i : Nat) : atD (.tuple xs) (.int (i : Int)) = xs[i]? := by
  have := at_tu (f := id) xs i
  simpa [tu, mp] using this
theorem at_l (xs : List PyData) (i : Nat) : atD (.list xs) (.int (i : Int)) = xs[i]? := by
  have := at_li (f := id) xs i
  simpa [li, mp] using this
@[simp] theorem at_c0 (x : PyData) (xs : List PyData) : atD (.tuple (x :: xs)) (.int 0) = some x := at_t _ 0
@[simp] theorem at_c1 (x y : PyData) (xs : List PyData) : atD (.tuple (x :: y :: xs)) (.int 1) = some y := at_t _ 1
@[simp] theorem at_c2 (x y z : PyData) (xs : List PyData) : atD (.tuple (x :: y :: z :: xs)) (.int 2) = some z := at_t _ 2
@[simp] theorem at_l0 (x : PyData) (xs : List PyData) : atD (.list (x :: xs)) (.int 0) = some x := at_l _ 0
@[simp] theorem at_l1 (x y : PyData) (xs : List PyData) : atD (.list (x :: y :: xs)) (.int 1) = some y := at_l _ 1
@[simp] theorem deref_v (S : Sto) (d : PyData) : deref S (.v d) = some d := rfl
@[simp] theorem deref_c (S : Sto) (n : Nat) : deref S (.r n) = ((look S n).map .list).or ((lookK S n).map .dict) := rfl
@[simp] theorem deref0_v (S : Sto) (d : PyData) : deref0 S (.v d) = some d := rfl
@[simp] theorem deref0_c (S : Sto) (n : Nat) : deref0 S (.r n) = (look S n).map .list := rfl
section
@[simp] theorem mp_nil : mp f [] = [] := rfl
@[simp] theorem mp_len (xs : List α) : (mp f xs).length = xs.length := List.length_map _
@[simp] theorem mp_get (xs : List α) (i : Nat) : (mp f xs)[i]? = xs[i]?.map f := List.getElem?_map
theorem mp_set (xs : List α) (i : Nat) (a : α) : (mp f xs).set i (f a) = mp f (xs.set i a) := (List.map_set ..).symm
theorem mp_app (xs : List α) (a : α) : mp f xs ++ [f a] = mp f (xs ++ [a]) := by simp [mp]
@[simp] theorem mp_app2 (xs ys : List α) : mp f xs ++ mp f ys = mp f (xs ++ ys) := by simp [mp]
@[simp] theorem mp_setN (xs : List Nat) (i a : Nat) : (mp nt xs).set i (.int (a : Int)) = mp nt (xs.set i a) := mp_set xs i a
@[simp] theorem mp_setO (xs : List (Option Nat)) (i : Nat) (a : Option Nat) : (mp oN xs).set i (oN a) = mp oN (xs.set i a) := mp_set xs i a
@[simp] theorem mp_setO1 (xs : List (Option Nat)) (i : Nat) : (mp oN xs).set i .none = mp oN (xs.set i none) := mp_set xs i none
@[simp] theorem mp_setO2 (xs : List (Option Nat)) (i a : Nat) : (mp oN xs).set i (.int (a : Int)) = mp oN (xs.set i (some a)) := mp_set xs i (some a)
@[simp] theorem mp_appN (xs : List Nat) (a : Nat) : mp nt xs ++ [.int (a : Int)] = mp nt (xs ++ [a]) := mp_app xs a
@[simp] theorem mp_appT {α : Type} {f : α → PyData} (xs : List (List α)) (a : List α) : mp (tu f) xs ++ [tu f a] = mp (tu f) (xs ++ [a]) := mp_app xs a
@[simp] theorem li_fold (xs : List α) : PyData.list (mp f xs) = li f xs := rfl
@[simp] theorem tu_fold (xs : List α) : PyData.tuple (mp f xs) = tu f xs := rfl
end
@[simp] theorem len_tu (xs : List α) : blD .len [tu f xs] = some (nt xs.length) := by simp [blD, tu, mp]
@[simp] theorem len_li (xs : List α) : blD .len [li f xs] = some (nt xs.length) := by simp [blD, li, mp]
@[simp] theorem list_tu (xs : List α) : blD .list [tu f xs] = some (li f xs) := rfl
@[simp] theorem list_li (xs : List α) : blD .list [li f xs] = some (li f xs) := rfl
@[simp] theorem tuple_tu (xs : List α) : blD .tuple [tu f xs] = some (tu f xs) := rfl
@[simp] theorem tuple_li (xs : List α) : blD .tuple [li f xs] = some (tu f xs) := rfl
@[simp] theorem int_int (i : Int) : blD .int [.int i] = some (.int i) := rfl
@[simp] theorem int_bool (b : Bool) : blD .int [.bool b] = some (nt b.toNat) := by cases b <;> rfl
@[simp] theorem bo_addN (a b : Nat) : boD .add (.int (a : Int)) (.int (b : Int)) = some (nt (a + b)) := by simp [boD]
@[simp] theorem bo_add1 (a : Nat) : boD .add (.int (a : Int)) (.int 1) = some (nt (a + 1)) := by simp [boD]
@[simp] theorem co_eqI (a b : Int) : coD .eq (.int a) (.int b) = some (decide (a = b)) := co_eq (f := PyData.int) a b (by decide)
@[simp] theorem co_neI (a b : Int) : coD .ne (.int a) (.int b) = some (!decide (a = b)) := co_ne (f := PyData.int) a b (by decide)
@[simp] theorem co_ltI (a b : Int) : coD .lt (.int a) (.int b) = some (decide (a < b)) := rfl
@[simp] theorem co_leI (a b : Int) : coD .le (.int a) (.int b) = some (decide (a ≤ b)) := rfl
@[simp] theorem co_gtI (a b : Int) : coD .gt (.int a) (.int b) = some (decide (b < a)) := rfl
@[simp] theorem co_geI (a b : Int) : coD .ge (.int a) (.int b) = some (decide (b ≤ a)) := rfl
@[simp high] theorem co_eqNN (a b : Nat) : coD .eq (.int (a : Int)) (.int (b : Int)) = some (decide (a = b)) := co_eq (f := nt) a b (by decide)
@[simp high] theorem co_neNN (a b : Nat) : coD .ne (.int (a : Int)) (.int (b : Int)) = some (!decide (a = b)) := co_ne (f := nt) a b (by decide)
@[simp high] theorem co_ltNN (a b : Nat) : coD .lt (.int (a : Int)) (.int (b : Int)) = some (decide (a < b)) := by show some (decide _) = _; simp
@[simp high] theorem co_leNN (a b : Nat) : coD .le (.int (a : Int)) (.int (b : Int)) = some (decide (a ≤ b)) := by show some (decide _) = _; simp
@[simp high] theorem co_gtNN (a b : Nat) : coD .gt (.int (a : Int)) (.int (b : Int)) = some (decide (b < a)) := by show some (decide _) = _; simp
@[simp high] theorem co_geNN (a b : Nat) : coD .ge (.int (a : Int)) (.int (b : Int)) = some (decide (b ≤ a)) := by show some (decide _) = _; simp
@[simp high] theorem co_eqN0 (a : Nat) : coD .eq (.int (a : Int)) (.int 0) = some (decide (a = 0)) := co_eqNN a 0
@[simp high] theorem co_neN0 (a : Nat) : coD .ne (.int (a : Int)) (.int 0) = some (!decide (a = 0)) := co_neNN a 0
@[simp] theorem co_eqO (a b : Option Nat) : coD .eq (oN a) (oN b) = some (decide (a = b)) := co_eq (f := oN) a b (by decide)
@[simp] theorem co_eqON (a : Option Nat) (b : Nat) : coD .eq (oN a) (.int (b : Int)) = some (decide (a = some b)) := co_eq (f := oN) a (some b) (by decide)
@[simp] theorem co_eqNO (a : Nat) (b : Option Nat) : coD .eq (.int (a : Int)) (oN b) = some (decide (some a = b)) := co_eq (f := oN) (some a) b (by decide)
@[simp] theorem co_neO (a b : Option Nat) : coD .ne (oN a) (oN b) = some (!decide (a = b)) := co_ne (f := oN) a b (by decide)
@[simp] theorem co_inN (a : Nat) (xs : List Nat) : coD .isin (.int (a : Int)) (tu nt xs) = some (decide (a ∈ xs)) := co_in (f := nt) a xs (by decide)
@[simp] theorem co_inNL (a : Nat) (xs : List Nat) : coD .isin (.int (a : Int)) (li nt xs) = some (decide (a ∈ xs)) := co_inL (f := nt) a xs (by decide)
@[simp] theorem co_ninN (a : Nat) (xs : List Nat) : coD .nin (.int (a : Int)) (tu nt xs) = some (!decide (a ∈ xs)) := co_nin (f := nt) a xs (by decide)
@[simp] theorem co_ninNL (a : Nat) (xs : List Nat) : coD .nin (.int (a : Int)) (li nt xs) = some (!decide (a ∈ xs)) := co_ninL (f := nt) a xs (by decide)
@[simp] theorem none_oN (a : Option Nat) : isNoneD (oN a) = a.isNone := by cases a <;> rfl
@[simp] theorem none_int (a : Int) : isNoneD (.int a) = false := rfl
@[simp] theorem none_none : isNoneD .none = true := rfl
@[simp] theorem none_tu (xs : List α) : isNoneD (tu f xs) = false := rfl
@[simp] theorem none_li (xs : List α) : isNoneD (li f xs) = false := rfl
theorem shp_li [h : Enc f n] (hd : n < 64) (xs : List α) : shp (li f xs) = true := shp_enc (f := li f) (show n + 1 ≤ 64 from hd) xs
@[simp] theorem co_eqE [h : Enc f n] (xs : List α) (hd : n < 64) : coD .eq (li f xs) (.list []) = some xs.isEmpty := by
  have h1 : shp (.list []) = true := by decide
  have h2 : PyData.eqv (li f xs) (.list []) = xs.isEmpty := by cases xs <;> simp [li, mp, PyData.eqv, PyData.eqvAll]
  simp [coD, shp_li hd, h1, h2]
@[simp] theorem co_neE [h : Enc f n] (xs : List α) (hd : n < 64) : coD .ne (li f xs) (.list []) = some (!xs.isEmpty) := by
  have h1 : shp (.list []) = true := by decide
  have h2 : PyData.eqv (li f xs) (.list []) = xs.isEmpty := by cases xs <;> simp [li, mp, PyData.eqv, PyData.eqvAll]
  simp [coD, shp_li hd, h1, h2]
theorem mul_list {d : PyData} {n : Nat} (h : n ≤ 1000) : boD .mul (.list [d]) (.int (n : Int)) = some (.list (List.replicate n d)) := by
  have e : (List.replicate n [d]).flatten = List.replicate n d := by
    clear h
    induction n with
    | zero => rfl
    | succ n ih => rw [List.replicate_succ, List.flatten_cons, ih]; rfl
  show (if _ then _ else _) = _
  rw [if_pos ⟨by omega, by omega, by simp⟩]
  simp [e]
theorem mul_none {n : Nat} (h : n ≤ 1000) : boD .mul (.list [.none]) (.int (n : Int)) = some (li oN (List.replicate n none)) := by
  rw [mul_list h]
  simp [li, mp]
theorem mul_zero {n : Nat} (h : n ≤ 1000) : boD .mul (.list [.int 0]) (.int (n : Int)) = some (li nt (List.replicate n 0)) := by
  rw [mul_list h]
  simp [li, mp]
@[simp] theorem sub1 {n : Nat} (h : 0 < n) : boD .sub (.int (n : Int)) (.int 1) = some (nt (n - 1)) := by
  show some (PyData.int _) = some (PyData.int _)
  congr 2
  omega
theorem cut_from (xs : List α) (k : Nat) : cut xs (some (k : Int)) none = xs.drop k := by
  have e : sIx xs.length 0 (some (k : Int)) = min k xs.length := by
    show (if (k : Int) < 0 then ((k : Int) + xs.length).toNat else min (k : Int).toNat xs.length) = _
    rw [if_neg (by omega), Int.toNat_natCast]
  unfold cut
  rw [e]
  show (xs.drop (min k xs.length)).take (xs.length - min k xs.length) = _
  by_cases h : k ≤ xs.length
  · rw [Nat.min_eq_left h]
    exact List.take_of_length_le (by rw [List.length_drop]; omega)
  · rw [Nat.min_eq_right (by omega), List.drop_of_length_le (Nat.le_refl _), List.drop_of_length_le (by omega)]
    simp
theorem cut_both (xs : List α) (j k : Nat) : cut xs (some (j : Int)) (some (k : Int)) = (xs.drop j).take (k - j) := by
  have e : ∀ d i : Nat, sIx xs.length d (some (i : Int)) = min i xs.length := fun d i => by
    show (if (i : Int) < 0 then ((i : Int) + xs.length).toNat else min (i : Int).toNat xs.length) = _
    rw [if_neg (by omega), Int.toNat_natCast]
  unfold cut
  rw [e, e]
  by_cases h : j ≤ xs.length
  · rw [Nat.min_eq_left h]
    by_cases h2 : k ≤ xs.length
    · rw [Nat.min_eq_left h2]
    · rw [Nat.min_eq_right (by omega), List.take_of_length_le (by rw [List.length_drop]; omega), List.take_of_length_le (by rw [List.length_drop]; omega)]
  · rw [show min j xs.length = xs.length by omega, List.drop_of_length_le (Nat.le_refl _), List.drop_of_length_le (by omega)]
    simp
theorem mp_cut (xs : List α) (lo hi : Option Int) : cut (mp f xs) lo hi = mp f (cut xs lo hi) := by
  unfold cut
  rw [mp_len]
  simp [mp, List.map_take, List.map_drop]
@[simp] theorem sl_tu_to (xs : List α) (k : Nat) : slD (tu f xs) none (some (k : Int)) = some (tu f (xs.take k)) := by
  show some (PyData.tuple (cut (mp f xs) _ _)) = _
  rw [mp_cut, cut_to]; rfl
@[simp] theorem sl_li_to (xs : List α) (k : Nat) : slD (li f xs) none (some (k : Int)) = some (li f (xs.take k)) := by
  show some (PyData.list (cut (mp f xs) _ _)) = _
  rw [mp_cut, cut_to]; rfl
@[simp] theorem sl_tu_from (xs : List α) (k : Nat) : slD (tu f xs) (some (k : Int)) none = some (tu f (xs.drop k)) := by
  show some (PyData.tuple (cut (mp f xs) _ _)) = _
  rw [mp_cut, cut_from]; rfl
@[simp] theorem sl_li_from (xs : List α) (k : Nat) : slD (li f xs) (some (k : Int)) none = some (li f (xs.drop k)) := by
  show some (PyData.list (cut (mp f xs) _ _)) = _
  rw [mp_cut, cut_from]; rfl
@[simp] theorem sl_tu_both (xs : List α) (j k : Nat) : slD (tu f xs) (some (j : Int)) (some (k : Int)) = some (tu f ((xs.drop j).take (k - j))) := by
  show some (PyData.tuple (cut (mp f xs) _ _)) = _
  rw [mp_cut, cut_both]; rfl
@[simp] theorem sl_li_both (xs : List α) (j k : Nat) : slD (li f xs) (some (j : Int)) (some (k : Int)) = some (li f ((xs.drop j).take (k - j))) := by
  show some (PyData.list (cut (mp f xs) _ _)) = _
  rw [mp_cut, cut_both]; rfl
@[simp] theorem sl_tu_1 (xs : List α) : slD (tu f xs) (some 1) none = some (tu f (xs.drop 1)) := sl_tu_from xs 1
@[simp] theorem sl_li_1 (xs : List α) : slD (li f xs) (some 1) none = some (li f (xs.drop 1)) := sl_li_from xs 1
@[simp] theorem sl_tu_t1 (xs : List α) : slD (tu f xs) none (some 1) = some (tu f (xs.take 1)) := sl_tu_to xs 1
@[simp] theorem sl_li_t1 (xs : List α) : slD (li f xs) none (some 1) = some (li f (xs.take 1)) := sl_li_to xs 1
@[simp] theorem add_tu {xs ys : List α} (h : xs.length + ys.length ≤ lim) : boD .add (tu f xs) (tu f ys) = some (tu f (xs ++ ys)) := by
  show (if (mp f xs).length + (mp f ys).length ≤ lim then some (PyData.tuple (mp f xs ++ mp f ys)) else none) = _
  rw [mp_len, mp_len, if_pos h, mp_app2]; rfl
@[simp] theorem add_li {xs ys : List α} (h : xs.length + ys.length ≤ lim) : boD .add (li f xs) (li f ys) = some (li f (xs ++ ys)) := by
  show (if (mp f xs).length + (mp f ys).length ≤ lim then some (PyData.list (mp f xs ++ mp f ys)) else none) = _
  rw [mp_len, mp_len, if_pos h, mp_app2]; rfl
end
end Pl


namespace Pl
open PySem
variable {Γ : Fns} {η : En} {S : Sto}
@[simp] theorem lkup_eq (η : En) (i : Nat) : lkup η i = (η[i]?).join := rfl
@[simp] theorem asBool_b (b : Bool) : asBool (.v (.bool b)) = some b := rfl
@[simp] theorem asInt_i (S : Sto) (i : Int) : asInt S (.v (.int i)) = some i := rfl
def asV : W → Option PyData
  | .v d => some d
  | _ => none
@[simp] theorem asV_v (d : PyData) : asV (.v d) = some d := rfl
def asLst : PyData → Option (List PyData)
  | .list xs => some xs
  | _ => none
@[simp] theorem asLst_list (xs : List PyData) : asLst (.list xs) = some xs := rfl
@[simp] theorem asLst_li {α : Type} (f : α → PyData) (xs : List α) : asLst (li f xs) = some (mp f xs) := rfl
def asTup : PyData → Option (List PyData)
  | .tuple xs => some xs
  | _ => none
@[simp] theorem asTup_tuple (xs : List PyData) : asTup (.tuple xs) = some xs := rfl
@[simp] theorem asTup_tu {α : Type} (f : α → PyData) (xs : List α) : asTup (tu f xs) = some (mp f xs) := rfl
@[simp] theorem datas_nil : datas [] = some [] := rfl
@[simp] theorem datas_v (d : PyData) (r : List W) : datas (.v d :: r) = (datas r).map (d :: ·) := rfl
@[simp] theorem derefs_nil (S : Sto) : derefs S [] = some [] := rfl
@[simp] theorem derefs_cons (S : Sto) (w : W) (r : List W) : derefs S (w :: r) = (deref S w).bind fun d => (derefs S r).map fun ds => d :: ds := by
  simp only [derefs, Option.bind_eq_bind]
  cases deref S w <;> simp [Option.map_eq_bind, Function.comp_def]
theorem bm {α β : Type} (o : Option α) (f : α → β) : (o.bind fun a => some (f a)) = o.map f := by cases o <;> rfl
@[simp] theorem ev_var (i : Nat) : evE Γ η (.var i) S = (lkup η i).map fun w => (w, S) := rfl
@[simp] theorem ev_con (d : PyData) : evE Γ η (.con d) S = some (.v d, S) := rfl
@[simp] theorem ev_glb (x : Str) (d : PyData) : evE Γ η (.glb x d) S = some (.v d, S) := rfl
@[simp] theorem ev_bin (op : Bo) (a b : Ex) : evE Γ η (.bin op a b) S = (evE Γ η a S).bind fun p => (evE Γ η b p.2).bind fun q => (deref q.2 p.1).bind fun d => (deref q.2 q.1).bind fun e => (boD op d e).map fun z => (.v z, q.2) := by
  simp only [evE, Option.bind_eq_bind, bm]
@[simp] theorem ev_neg (a : Ex) : evE Γ η (.neg a) S = (evE Γ η a S).bind fun p => (asInt p.2 p.1).map fun i => (.v (.int (-i)), p.2) := by
  simp only [evE, Option.bind_eq_bind, bm]
@[simp] theorem ev_cmp (op : Co) (a b : Ex) : evE Γ η (.cmp op a b) S = (evE Γ η a S).bind fun p => (evE Γ η b p.2).bind fun q => (deref q.2 p.1).bind fun d => (deref q.2 q.1).bind fun e => (coD op d e).map fun z => (.v (.bool z), q.2) := by
  simp only [evE, Option.bind_eq_bind, bm]
@[simp] theorem ev_chain (o1 o2 : Co) (a b c : Ex) : evE Γ η (.chain o1 o2 a b c) S = (evE Γ η a S).bind fun p => (evE Γ η b p.2).bind fun q => (deref q.2 p.1).bind fun d => (deref q.2 q.1).bind fun e => (coD o1 d e).bind fun z =>
    if z then (evE Γ η c q.2).bind fun r => (deref r.2 q.1).bind fun e' => (deref r.2 r.1).bind fun f => (coD o2 e' f).map fun y => (.v (.bool y), r.2) else some (.v (.bool false), q.2) := by
  simp only [evE, Option.bind_eq_bind, bm]
@[simp] theorem ev_isn (ng : Bool) (a : Ex) : evE Γ η (.isn ng a) S = (evE Γ η a S).bind fun p => (asV p.1).map fun d => (.v (.bool (isNoneD d != ng)), p.2) := by
  simp only [evE, Option.bind_eq_bind]
  congr 1
  funext p
  cases p.1 <;> rfl
@[simp] theorem ev_ist (ng k : Bool) (a : Ex) : evE Γ η (.ist ng k a) S = (evE Γ η a S).bind fun p => (asBool p.1).map fun b => (.v (.bool ((b == k) != ng)), p.2) := by
  simp only [evE, Option.bind_eq_bind, bm]
@[simp] theorem ev_and (a b : Ex) : evE Γ η (.and a b) S = (evE Γ η a S).bind fun p => (asBool p.1).bind fun c => if c then evE Γ η b p.2 else some (.v (.bool false), p.2) := by
  simp only [evE, Option.bind_eq_bind]
@[simp] theorem ev_or (a b : Ex) : evE Γ η (.or a b) S = (evE Γ η a S).bind fun p => (asBool p.1).bind fun c => if c then some (.v (.bool true), p.2) else evE Γ η b p.2 := by
  simp only [evE, Option.bind_eq_bind]
@[simp] theorem ev_not (a : Ex) : evE Γ η (.not a) S = (evE Γ η a S).bind fun p => (asBool p.1).map fun c => (.v (.bool (!c)), p.2) := by
  simp only [evE, Option.bind_eq_bind, bm]
@[simp] theorem ev_ife (c a b : Ex) : evE Γ η (.ife c a b) S = (evE Γ η c S).bind fun p => (asBool p.1).bind fun z => if z then evE Γ η a p.2 else evE Γ η b p.2 := by
  simp only [evE, Option.bind_eq_bind]
def short (ds : List PyData) : Bool := decide (ds.length ≤ lim)
@[simp] theorem short_nil : short [] = true := rfl
@[simp] theorem short_1 (a : PyData) : short [a] = true := rfl
@[simp] theorem short_2 (a b : PyData) : short [a, b] = true := rfl
@[simp] theorem short_3 (a b c : PyData) : short [a, b, c] = true := rfl
@[simp] theorem short_4 (a b c d : PyData) : short [a, b, c, d] = true := rfl
@[simp] theorem short_5 (a b c d e : PyData) : short [a, b, c, d, e] = true := rfl
@[simp] theorem short_6 (a b c d e f : PyData) : short [a, b, c, d, e, f] = true := rfl
@[simp] theorem short_7 (a b c d e f g : PyData) : short [a, b, c, d, e, f, g] = true := rfl
@[simp] theorem short_8 (a b c d e f g h : PyData) : short [a, b, c, d, e, f, g, h] = true := rfl
theorem ev_tup' (es : Exs) : evE Γ η (.tup es) S = (evEs Γ η es S).bind fun p => (datas p.1).bind fun ds => if short ds then some (.v (.tuple ds), p.2) else none := by
  simp only [evE, Option.bind_eq_bind, short, decide_eq_true_eq]
theorem ev_lst' (es : Exs) : evE Γ η (.lst es) S = (evEs Γ η es S).bind fun p => (datas p.1).bind fun ds => if short ds then some (.v (.list ds), p.2) else none := by
  simp only [evE, Option.bind_eq_bind, short, decide_eq_true_eq]
@[simp] theorem ev_tup (es : Exs) : evE Γ η (.tup es) S = (evEs Γ η es S).bind fun p => (datas p.1).bind fun ds => if short ds then some (.v (.tuple ds), p.2) else none := ev_tup' es
@[simp] theorem ev_lst (es : Exs) : evE Γ η (.lst es) S = (evEs Γ η es S).bind fun p => (datas p.1).bind fun ds => if short ds then some (.v (.list ds), p.2) else none := ev_lst' es
@[simp] theorem ev_ix (a i : Ex) : evE Γ η (.ix a i) S = (evE Γ η a S).bind fun p => (evE Γ η i p.2).bind fun q => (deref q.2 p.1).bind fun d => (deref q.2 q.1).bind fun e => (atD d e).map fun z => (.v z, q.2) := by
  simp only [evE, Option.bind_eq_bind, bm]
def slW (S : Sto) (w : W) (lo hi : Option Int) : Option PyData := match w with
  | .s ns => some (.list ((cut ns lo hi).map .int))
  | w => (deref S w).bind fun d => slD d lo hi
@[simp] theorem slW_v (d : PyData) (lo hi : Option Int) : slW S (.v d) lo hi = slD d lo hi := rfl
@[simp] theorem slW_r (n : Nat) (lo hi : Option Int) : slW S (.r n) lo hi = (look S n).bind fun xs => slD (.list xs) lo hi := by
  show (deref S (.r n)).bind _ = _
  simp only [deref]
  cases look S n <;> cases lookK S n <;> rfl
@[simp] theorem optI_t (f : Sto → Option (W × Sto)) : optI true f S = some (none, S) := rfl
@[simp] theorem optI_f (f : Sto → Option (W × Sto)) : optI false f S = toI (f S) := rfl
@[simp] theorem toI_i (i : Int) : toI (some (.v (.int i), S)) = some (some i, S) := rfl
@[simp] theorem nop_nop : isNop .nop = true := rfl
@[simp] theorem nop_con (d : PyData) : isNop (.con d) = false := rfl
@[simp] theorem nop_var (d : Nat) : isNop (.var d) = false := rfl
@[simp] theorem nop_ix (a b : Ex) : isNop (.ix a b) = false := rfl
@[simp] theorem nop_bin (o : Bo) (a b : Ex) : isNop (.bin o a b) = false := rfl
@[simp] theorem nop_call (o : Nat) (a : Exs) : isNop (.call o a) = false := rfl
@[simp] theorem nop_blt (o : Bl) (a : Exs) : isNop (.blt o a) = false := rfl
@[simp] theorem nop_neg (a : Ex) : isNop (.neg a) = false := rfl
@[simp] theorem nop_idx (a b : Ex) : isNop (.idx a b) = false := rfl
@[simp] theorem ev_sl (a lo hi : Ex) : evE Γ η (.sl a lo hi) S = (evE Γ η a S).bind fun p => (optI (isNop lo) (evE Γ η lo) p.2).bind fun q => (optI (isNop hi) (evE Γ η hi) q.2).bind fun r => (slW r.2 p.1 q.1 r.1).map fun z => (.v z, r.2) := by
  simp only [evE, Option.bind_eq_bind]
  congr 1
  funext p
  congr 1
  funext q
  congr 1
  funext r
  cases p.1 <;> simp [slW, Option.map_eq_bind, Option.bind_assoc, Function.comp_def]
@[simp] theorem ev_rev (a : Ex) : evE Γ η (.rev a) S = (evE Γ η a S).bind fun p => (deref p.2 p.1).bind fun d => (revD d).map fun z => (.v z, p.2) := by
  simp only [evE, Option.bind_eq_bind, bm]
@[simp] theorem ev_dcn (kvs : List (PyData × PyData)) : evE Γ η (.dcn kvs) S = if okK kvs && decide (kvs.length ≤ 15) then some (.v (.dict kvs), S) else none := by rw [evE]
@[simp] theorem ev_dct (a : Ex) : evE Γ η (.dct a) S = (evE Γ η a S).bind fun p => (deref p.2 p.1).bind fun d => (dctD d).map fun z => (.v z, p.2) := by
  simp only [evE, Option.bind_eq_bind, bm]
@[simp] theorem ev_dnw : evE Γ η .dnw S = some (.r S.length, S ++ [.dct []]) := rfl
@[simp] theorem ev_dgt (a k : Ex) : evE Γ η (.dgt a k) S = (evE Γ η a S).bind fun p => (deref p.2 p.1).bind fun d0 => (asDct d0).bind fun _ => (evE Γ η k p.2).bind fun q => (deref q.2 p.1).bind fun d => (deref q.2 q.1).bind fun e => (getD1 .none d e).map fun z => (.v z, q.2) := by
  simp only [evE, Option.bind_eq_bind, bm]
@[simp] theorem ev_dgx (a k x : Ex) : evE Γ η (.dgx a k x) S = (evE Γ η a S).bind fun p => (deref p.2 p.1).bind fun d0 => (asDct d0).bind fun _ => (evE Γ η k p.2).bind fun q => (evE Γ η x q.2).bind fun r => (deref r.2 p.1).bind fun d => (deref r.2 q.1).bind fun e => (asV r.1).bind fun y => (getD1 y d e).map fun z => (.v z, r.2) := by
  simp only [evE, Option.bind_eq_bind]
  congr 1
  funext p
  congr 1
  funext d0
  congr 1
  funext _
  congr 1
  funext q
  congr 1
  funext r
  congr 1
  funext d
  congr 1
  funext e
  cases r.1 with
  | v y => simp [asV, bm]
  | r n => rfl
  | s ns => rfl
@[simp] theorem asDct_d (kvs : List (PyData × PyData)) : asDct (.dict kvs) = some () := rfl
@[simp] theorem ev_lset (b : Bool) (a : Ex) : evE Γ η (.lset b a) S = (evE Γ η a S).bind fun p => (deref p.2 p.1).bind fun d => (setD b d).map fun z => (.v z, p.2) := by
  simp only [evE, Option.bind_eq_bind, bm]
@[simp] theorem ev_call (f : Nat) (es : Exs) : evE Γ η (.call f es) S = (evEs Γ η es S).bind fun p => Γ f p.1 p.2 := by
  simp only [evE, Option.bind_eq_bind]
@[simp] theorem ev_blt (b : Bl) (es : Exs) : evE Γ η (.blt b es) S = (evEs Γ η es S).bind fun p => (derefs p.2 p.1).bind fun ds => (blD b ds).map fun z => (.v z, p.2) := by
  simp only [evE, Option.bind_eq_bind, bm]
@[simp] theorem ev_idx (a b : Ex) : evE Γ η (.idx a b) S = (evE Γ η a S).bind fun p => (deref0 p.2 p.1).bind fun _ => (evE Γ η b p.2).bind fun q => (deref q.2 p.1).bind fun d => (deref q.2 q.1).bind fun e => (idxD d e).map fun z => (.v z, q.2) := by
  simp only [evE, Option.bind_eq_bind, bm]
@[simp] theorem ev_cnt (a b : Ex) : evE Γ η (.cnt a b) S = (evE Γ η a S).bind fun p => (deref0 p.2 p.1).bind fun _ => (evE Γ η b p.2).bind fun q => (deref q.2 p.1).bind fun d => (deref q.2 q.1).bind fun e => (cntD d e).map fun z => (.v z, q.2) := by
  simp only [evE, Option.bind_eq_bind, bm]
def popW (w : W) (i : Int) (S : Sto) : Option (W × Sto) := match w with
  | .r n => (look S n).bind fun xs => (ixS xs.length i).bind fun k => (xs[k]?).map fun x => (.v x, S.set n (.lst (xs.eraseIdx k)))
  | _ => none
@[simp] theorem popW_r (n : Nat) (i : Int) : popW (.r n) i S = (look S n).bind fun xs => (ixS xs.length i).bind fun k => (xs[k]?).map fun x => (.v x, S.set n (.lst (xs.eraseIdx k))) := rfl
@[simp] theorem ev_pop (i : Nat) (e : Ex) : evE Γ η (.pop i e) S = (lkup η i).bind fun w => (deref0 S w).bind fun _ => (optI (isNop e) (evE Γ η e) S).bind fun q => popW w (q.1.getD (-1)) q.2 := by
  simp only [evE, Option.bind_eq_bind]
  congr 1
  funext w
  congr 1
  funext d
  congr 1
  funext q
  cases w <;> simp [popW, bm]
  cases q.1 <;> rfl
@[simp] theorem ev_cell (e : Ex) : evE Γ η (.cell e) S = (evE Γ η e S).bind fun p => (asV p.1).bind fun d => (asLst d).map fun xs => (.r p.2.length, p.2 ++ [.lst xs]) := by
  simp only [evE, Option.bind_eq_bind]
  congr 1
  funext p
  cases p.1 with
  | v d => cases d <;> rfl
  | r n => rfl
  | s ns => rfl
@[simp] theorem evs_nil : evEs Γ η .nil S = some ([], S) := rfl
@[simp] theorem evs_cons (e : Ex) (es : Exs) : evEs Γ η (.cons e es) S = (evE Γ η e S).bind fun p => (evEs Γ η es p.2).map fun q => (p.1 :: q.1, q.2) := by
  simp only [evEs, Option.bind_eq_bind, bm]
@[simp] theorem sT_nm (w : W) (i : Nat) : storeT Γ w (.nm i) η S = if i < η.length then some (η.set i (some w), S) else none := rfl
def setW (o w : W) (S : Sto) (k : Int) : Option Sto := match o, w with
  | .r n, .v x => (look S n).bind fun xs => (ixS xs.length k).map fun j => S.set n (.lst (xs.set j x))
  | _, _ => none
@[simp] theorem setW_r (n : Nat) (x : PyData) (k : Int) : setW (.r n) (.v x) S k = (look S n).bind fun xs => (ixS xs.length k).map fun j => S.set n (.lst (xs.set j x)) := rfl
@[simp] theorem sT_at (w : W) (i : Nat) (e : Ex) : storeT Γ w (.at i e) η S = (lkup η i).bind fun o => (evE Γ η e S).bind fun q => (asInt q.2 q.1).bind fun k => (setW o w q.2 k).map fun S' => (η, S') := by
  simp only [storeT, Option.bind_eq_bind]
  congr 1
  funext o
  congr 1
  funext q
  congr 1
  funext k
  cases o <;> cases w <;> simp [setW, Option.map_eq_bind, Option.bind_assoc, Function.comp_def]
@[simp] theorem sA_nil : Pl.storeAll Γ [] [] η S = some (η, S) := rfl
@[simp] theorem sA_cons (t : Tg) (ts : List Tg) (w : W) (ws : List W) : Pl.storeAll Γ (t :: ts) (w :: ws) η S = (storeT Γ w t η S).bind fun p => Pl.storeAll Γ ts ws p.1 p.2 := by
  simp only [Pl.storeAll, Option.bind_eq_bind]
@[simp] theorem es_pass : evS Γ .pass η S = some (.nx η S) := rfl
@[simp] theorem es_asg (i : Nat) (e : Ex) : evS Γ (.asg i e) η S = (evE Γ η e S).bind fun p => if i < η.length then some (.nx (η.set i (some p.1)) p.2) else none := by
  simp only [evS, Option.bind_eq_bind, sT_nm]
  congr 1
  funext p
  split <;> rfl
@[simp] theorem es_par (ts : List Tg) (es : Exs) : evS Γ (.par ts es) η S = (evEs Γ η es S).bind fun p => (Pl.storeAll Γ ts p.1 η p.2).map fun q => .nx q.1 q.2 := by
  simp only [evS, Option.bind_eq_bind, bm]
@[simp] theorem es_unp (ts : List Tg) (e : Ex) : evS Γ (.unp ts e) η S = (evE Γ η e S).bind fun p => (asV p.1).bind fun d => (asTup d).bind fun xs => (Pl.storeAll Γ ts (xs.map .v) η p.2).map fun q => .nx q.1 q.2 := by
  simp only [evS, Option.bind_eq_bind]
  congr 1
  funext p
  cases p.1 with
  | v d => cases d <;> simp [asTup, bm]
  | r n => rfl
  | s ns => rfl
@[simp] theorem es_seti (i : Nat) (e x : Ex) : evS Γ (.seti i e x) η S = (evE Γ η x S).bind fun p => (storeT Γ p.1 (.at i e) η p.2).map fun q => .nx q.1 q.2 := by
  simp only [evS, Option.bind_eq_bind, bm]
def dputW (o w : W) (kd : PyData) (S : Sto) : Option Sto := match o, w with
  | .r n, .v x => (lookK S n).bind fun kvs => if kvs.length < lim then some (S.set n (.dct (putD kvs kd x))) else none
  | _, _ => none
@[simp] theorem dputW_r (n : Nat) (x kd : PyData) : dputW (.r n) (.v x) kd S = (lookK S n).bind fun kvs => if kvs.length < lim then some (S.set n (.dct (putD kvs kd x))) else none := rfl
@[simp] theorem es_dput (i : Nat) (k e : Ex) : evS Γ (.dput i k e) η S = (evE Γ η e S).bind fun p => (lkup η i).bind fun o => (evE Γ η k p.2).bind fun q => (deref q.2 q.1).bind fun kd => (kO kd).bind fun _ => (dputW o p.1 kd q.2).map fun S' => .nx η S' := by
  simp only [evS, Option.bind_eq_bind]
  congr 1
  funext p
  congr 1
  funext o
  congr 1
  funext q
  congr 1
  funext kd
  congr 1
  funext _
  cases o <;> cases p.1 <;> simp [dputW]
  cases lookK q.2 _ <;> simp
  all_goals (split <;> rfl)
@[simp] theorem kO_i (i : Int) : kO (.int i) = some (.inl i) := rfl
def augW (op : Bo) (w v : W) : Option Int := match op, w, v with
  | .add, .v (.int a), .v (.int b) => some (a + b)
  | .sub, .v (.int a), .v (.int b) => some (a - b)
  | _, _, _ => none
@[simp] theorem augW_add (a b : Int) : augW .add (.v (.int a)) (.v (.int b)) = some (a + b) := rfl
@[simp] theorem augW_sub (a b : Int) : augW .sub (.v (.int a)) (.v (.int b)) = some (a - b) := rfl
@[simp] theorem es_aug (i : Nat) (op : Bo) (e : Ex) : evS Γ (.aug i op e) η S = (lkup η i).bind fun w => (evE Γ η e S).bind fun p => (augW op w p.1).map fun z => .nx (η.set i (some (.v (.int z)))) p.2 := by
  simp only [evS, Option.bind_eq_bind]
  congr 1
  funext w
  congr 1
  funext p
  unfold augW
  split <;> first | rfl | (split <;> simp_all)
def appW (w v : W) (S : Sto) : Option Sto := match w, v with
  | .r n, .v x => (look S n).bind fun xs => if xs.length < lim then some (S.set n (.lst (xs ++ [x]))) else none
  | _, _ => none
@[simp] theorem appW_r (n : Nat) (x : PyData) : appW (.r n) (.v x) S = (look S n).bind fun xs => if xs.length < lim then some (S.set n (.lst (xs ++ [x]))) else none := rfl
@[simp] theorem es_app (i : Nat) (e : Ex) : evS Γ (.app i e) η S = (lkup η i).bind fun w => (deref0 S w).bind fun _ => (evE Γ η e S).bind fun p => (appW w p.1 p.2).map fun S' => .nx η S' := by
  simp only [evS, Option.bind_eq_bind]
  congr 1
  funext w
  congr 1
  funext d
  congr 1
  funext p
  cases w <;> cases p.1 <;> simp [appW]
  cases look p.2 _ <;> simp
  all_goals (split <;> rfl)
def asSeq (d : PyData) : Option (List PyData) := itemsOf d
@[simp] theorem asSeq_list (xs : List PyData) : asSeq (.list xs) = some xs := rfl
@[simp] theorem asSeq_tuple (xs : List PyData) : asSeq (.tuple xs) = some xs := rfl
@[simp] theorem asSeq_li {α : Type} (f : α → PyData) (xs : List α) : asSeq (li f xs) = some (mp f xs) := rfl
@[simp] theorem asSeq_tu {α : Type} (f : α → PyData) (xs : List α) : asSeq (tu f xs) = some (mp f xs) := rfl
def extW (w : W) (d : PyData) (S : Sto) : Option Sto := match w with
  | .r n => (asSeq d).bind fun ys => (look S n).bind fun xs => if xs.length + ys.length ≤ lim then some (S.set n (.lst (xs ++ ys))) else none
  | _ => none
@[simp] theorem extW_r (n : Nat) (d : PyData) : extW (.r n) d S = (asSeq d).bind fun ys => (look S n).bind fun xs => if xs.length + ys.length ≤ lim then some (S.set n (.lst (xs ++ ys))) else none := rfl
@[simp] theorem es_ext (i : Nat) (e : Ex) : evS Γ (.ext i e) η S = (lkup η i).bind fun w => (deref0 S w).bind fun _ => (evE Γ η e S).bind fun p => (asV p.1).bind fun d => (extW w d p.2).map fun S' => .nx η S' := by
  simp only [evS, Option.bind_eq_bind]
  congr 1
  funext w
  congr 1
  funext d
  congr 1
  funext p
  cases w with
  | r n =>
    cases p.1 with
    | v d =>
      simp only [extW, asSeq, asV_v, Option.bind_some]
      cases itemsOf d with
      | none => rfl
      | some ys =>
        simp only [Option.bind_some]
        cases look p.2 n with
        | none => rfl
        | some xs =>
          simp only [Option.bind_some]
          split <;> rfl
    | r n => rfl
    | s n => rfl
  | v d => cases p.1 <;> rfl
  | s d => cases p.1 <;> rfl
@[simp] theorem es_exp (e : Ex) : evS Γ (.exp e) η S = (evE Γ η e S).map fun p => .nx η p.2 := by
  simp only [evS, Option.bind_eq_bind, bm]
@[simp] theorem es_ite (c : Ex) (a b : Bk) : evS Γ (.ite c a b) η S = (evE Γ η c S).bind fun p => (asBool p.1).bind fun z => if z then evB Γ a η p.2 else evB Γ b η p.2 := by
  simp only [evS, Option.bind_eq_bind]
@[simp] theorem es_ret (e : Ex) : evS Γ (.ret e) η S = (evE Γ η e S).map fun p => .rt p.1 p.2 := by
  simp only [evS, Option.bind_eq_bind, bm]
@[simp] theorem es_retN : evS Γ .retN η S = some (.rt (.v .none) S) := rfl
@[simp] theorem es_brk : evS Γ .brk η S = some (.bk η S) := rfl
@[simp] theorem es_cont : evS Γ .cont η S = some (.ct η S) := rfl
@[simp] theorem es_fz (i : Nat) : evS Γ (.fz i) η S = (lkup η i).bind fun w => match w with
    | .r n => (look S n).map fun xs => .nx (η.set i (some (.v (.list xs)))) (S.set n .gone)
    | _ => none := by
  simp only [evS, Option.bind_eq_bind, bm]
  all_goals rfl
def seqB (Γ : Fns) (b : Bk) : Out → Option Out
  | .nx η S => evB Γ b η S
  | o => some o
@[simp] theorem seqB_nx (b : Bk) : seqB Γ b (.nx η S) = evB Γ b η S := rfl
@[simp] theorem seqB_rt (b : Bk) (w : W) : seqB Γ b (.rt w S) = some (.rt w S) := rfl
@[simp] theorem seqB_bk (b : Bk) : seqB Γ b (.bk η S) = some (.bk η S) := rfl
@[simp] theorem seqB_ct (b : Bk) : seqB Γ b (.ct η S) = some (.ct η S) := rfl
@[simp] theorem eb_nil : evB Γ .nil η S = some (.nx η S) := rfl
@[simp] theorem eb_cons (s : St) (b : Bk) : evB Γ (.cons s b) η S = (evS Γ s η S).bind (seqB Γ b) := by
  cases h : evS Γ s η S with
  | none => simp [evB, h]
  | some o => cases o <;> simp [evB, h, seqB]
theorem ok_seq {s : St} {b : Bk} {Q : Out → Prop} (h : Ok (evS Γ s η S) (nextB Γ b Q)) : Ok ((evS Γ s η S).bind (seqB Γ b)) Q := by
  obtain ⟨o, e, q⟩ := h
  rw [e]
  cases o <;> first | exact ok_some q | exact q
theorem lookK_new {R : Sto} {i : Nat} : lookK (S ++ R) (S.length + i) = lookK R i := by
  unfold lookK
  rw [List.getElem?_append_right (Nat.le_add_right _ _), Nat.add_sub_cancel_left]
@[simp] theorem lookK0 {R : Sto} : lookK (S ++ R) S.length = lookK R 0 := lookK_new (i := 0)
@[simp] theorem lookK1 {R : Sto} {i : Nat} : lookK (S ++ R) (S.length + i) = lookK R i := lookK_new
@[simp] theorem lookKc0 {c : List (PyData × PyData)} {R : Sto} : lookK (.dct c :: R) 0 = some c := rfl
@[simp] theorem lookKl0 {c : List PyData} {R : Sto} : lookK (.lst c :: R) 0 = none := rfl
@[simp] theorem lookd0 {c : List (PyData × PyData)} {R : Sto} : look (.dct c :: R) 0 = none := rfl
@[simp] theorem lookKc1 {c : Cell} {R : Sto} {i : Nat} : lookK (c :: R) (i + 1) = lookK R i := rfl
@[simp] theorem lookK_1 {c : Cell} {R : Sto} : lookK (c :: R) 1 = lookK R 0 := rfl
@[simp] theorem lookK_2 {c c2 : Cell} {R : Sto} : lookK (c :: c2 :: R) 2 = lookK R 0 := rfl
@[simp] theorem lookK_3 {c c2 c3 : Cell} {R : Sto} : lookK (c :: c2 :: c3 :: R) 3 = lookK R 0 := rfl
@[simp] theorem look0 {R : Sto} : look (S ++ R) S.length = look R 0 := look_new (i := 0)
@[simp] theorem look1 {R : Sto} {i : Nat} : look (S ++ R) (S.length + i) = look R i := look_new
@[simp] theorem lookc0 {c : List PyData} {R : Sto} : look (.lst c :: R) 0 = some c := rfl
@[simp] theorem lookc1 {c : Cell} {R : Sto} {i : Nat} : look (c :: R) (i + 1) = look R i := rfl
@[simp] theorem look_1 {c : Cell} {R : Sto} : look (c :: R) 1 = look R 0 := rfl
@[simp] theorem look_2 {c c2 : Cell} {R : Sto} : look (c :: c2 :: R) 2 = look R 0 := rfl
@[simp] theorem look_3 {c c2 c3 : Cell} {R : Sto} : look (c :: c2 :: c3 :: R) 3 = look R 0 := rfl
@[simp] theorem sets0 {R : Sto} {c : Cell} : (S ++ R).set S.length c = S ++ R.set 0 c := set_new (i := 0)
@[simp] theorem sets1 {R : Sto} {c : Cell} {i : Nat} : (S ++ R).set (S.length + i) c = S ++ R.set i c := set_new
@[simp] theorem out_v {α : Type} {a : α} {Q : α → Prop} : Ok (some a) Q ↔ Q a := ok_some_iff
end Pl


namespace Pl
open PySem
variable {α β : Type} {Γ : Fns} {η : En} {S S' : Sto}
theorem it_seq {e : Ex} {d : PyData} {xs : List PyData} (h : evE Γ η e S = some (.v d, S')) (k : itemsOf d = some xs) : evI Γ η (.seq e) S = some (.items xs, S') := by
  simp [evI, h, srcOf, k]
theorem it_tu {e : Ex} {f : α → PyData} {xs : List α} (h : evE Γ η e S = some (.v (tu f xs), S')) : evI Γ η (.seq e) S = some (.items (xs.map f), S') := it_seq h rfl
theorem it_li {e : Ex} {f : α → PyData} {xs : List α} (h : evE Γ η e S = some (.v (li f xs), S')) : evI Γ η (.seq e) S = some (.items (xs.map f), S') := it_seq h rfl
theorem rngL_nt (n : Nat) : rngL 0 (n : Int) = (List.range n).map nt := by
  simp [rngL, Function.comp_def]
theorem it_rng {e : Ex} {n : Nat} (h : evE Γ η e S = some (.v (nt n), S')) (hn : n ≤ 1000000) : evI Γ η (.rng1 e) S = some (.items ((List.range n).map nt), S') := by
  have hr : rngOk 0 (n : Int) = true := by unfold rngOk; simp; omega
  simp [evI, h, asInt, hr, rngL_nt]
theorem it_enum {e : Ex} {f : α → PyData} {xs : List α} (h : evE Γ η e S = some (.v (tu f xs), S')) : evI Γ η (.enum e) S = some (.items (xs.zipIdx.map fun p => .tuple [nt p.2, f p.1]), S') := by
  have : (xs.map f).mapIdx (fun i x => PyData.tuple [.int (i : Nat), x]) = xs.zipIdx.map fun p => .tuple [nt p.2, f p.1] := by
    rw [List.mapIdx_eq_zipIdx_map, List.zipIdx_map, List.map_map]
    rfl
  simp only [evI, h, Option.bind_eq_bind, Option.bind_some]
  show (itemsOf (tu f xs)).bind _ = _
  rw [items_tu, Option.bind_some, this]
theorem it_enumL {e : Ex} {f : α → PyData} {xs : List α} (h : evE Γ η e S = some (.v (li f xs), S')) : evI Γ η (.enum e) S = some (.items (xs.zipIdx.map fun p => .tuple [nt p.2, f p.1]), S') := by
  have : (xs.map f).mapIdx (fun i x => PyData.tuple [.int (i : Nat), x]) = xs.zipIdx.map fun p => .tuple [nt p.2, f p.1] := by
    rw [List.mapIdx_eq_zipIdx_map, List.zipIdx_map, List.map_map]
    rfl
  simp only [evI, h, Option.bind_eq_bind, Option.bind_some]
  show (itemsOf (li f xs)).bind _ = _
  rw [items_li, Option.bind_some, this]
theorem it_zipX {e1 e2 : Ex} {d1 d2 : PyData} {f : α → PyData} {g : β → PyData} {xs : List α} {ys : List β} {S1 : Sto} (h : evE Γ η e1 S = some (.v d1, S1)) (h2 : evE Γ η e2 S1 = some (.v d2, S')) (k1 : itemsOf d1 = some (xs.map f)) (k2 : itemsOf d2 = some (ys.map g)) :
    evI Γ η (.zip e1 e2) S = some (.items ((xs.zip ys).map fun p => .tuple [f p.1, g p.2]), S') := by
  have : List.zipWith (fun x y => PyData.tuple [x, y]) (xs.map f) (ys.map g) = (xs.zip ys).map fun p => .tuple [f p.1, g p.2] := by
    rw [List.zipWith_map, List.zip, List.map_zipWith]
  simp only [evI, h, h2, k1, k2, Option.bind_eq_bind, Option.bind_some]
  rw [this]
theorem lcL_pure {f : PyData → Sto → Option (Option PyData × Sto)} {g : α → PyData} {p : α → Bool} {k : α → PyData} : ∀ {xs : List α}, (∀ a ∈ xs, f (g a) S = some (if p a then some (k a) else none, S)) → lcL f (xs.map g) S = some ((xs.filter p).map k, S)
  | [], _ => rfl
  | x :: xs, h => by
    have e := h x List.mem_cons_self
    have ih := lcL_pure (f := f) (g := g) (p := p) (k := k) (xs := xs) fun a ha => h a (List.mem_cons_of_mem _ ha)
    simp only [List.map_cons, lcL, e, Option.bind_eq_bind, Option.bind_some, ih]
    cases hp : p x <;> simp [hp]
theorem lc_core {elt c : Ex} {tg : List Nat} {many : Bool} {it : Iy} {xs : List α} {f : α → PyData} (p : α → Bool) (k : α → β) (kk : β → PyData) (env : α → En)
    (hit : evI Γ η it S = some (.items (xs.map f), S')) (hb : ∀ a ∈ xs, bindT (wipeE η tg) tg many (f a) = some (env a))
    (hc : ∀ a ∈ xs, evE Γ (env a) c S' = some (.v (.bool (p a)), S')) (he : ∀ a ∈ xs, p a = true → evE Γ (env a) elt S' = some (.v (kk (k a)), S')) (hl : xs.length ≤ lim) :
    evE Γ η (.lc elt tg many it c) S = some (.v (li kk ((xs.filter p).map k)), S') := by
  rw [evE, hit]
  simp only [Option.bind_eq_bind, Option.bind_some]
  show (lcL _ (xs.map f) S').bind _ = _
  rw [lcL_pure (p := p) (k := fun a => kk (k a)) fun a ha => ?_]
  · rw [Option.bind_some]
    have : ((xs.filter p).map fun a => kk (k a)).length ≤ lim := by
      rw [List.length_map]
      exact Nat.le_trans (List.length_filter_le _ _) hl
    simp only [this, if_true, li, mp, List.map_map]
    rfl
  · simp only [hb a ha, Option.bind_some, hc a ha, asBool]
    cases hp : p a with
    | false => simp
    | true => simp [he a ha hp]
/-- one name -/
theorem lc1 {elt c : Ex} {i : Nat} {it : Iy} {xs : List α} {f : α → PyData} (p : α → Bool) (k : α → β) (kk : β → PyData)
    (hit : evI Γ η it S = some (.items (xs.map f), S'))
    (hc : ∀ a ∈ xs, evE Γ (η.set i (some (.v (f a)))) c S' = some (.v (.bool (p a)), S')) (he : ∀ a ∈ xs, p a = true → evE Γ (η.set i (some (.v (f a)))) elt S' = some (.v (kk (k a)), S')) (hl : xs.length ≤ lim) :
    evE Γ η (.lc elt [i] false it c) S = some (.v (li kk ((xs.filter p).map k)), S') :=
  lc_core p k kk (fun a => η.set i (some (.v (f a)))) hit (fun a _ => by simp [bindT, wipeE, setAll, List.set_set]) hc he hl
/-- .. without a test -/
theorem lc1m {elt : Ex} {i : Nat} {it : Iy} {xs : List α} {f : α → PyData} (k : α → β) (kk : β → PyData)
    (hit : evI Γ η it S = some (.items (xs.map f), S'))
    (he : ∀ a ∈ xs, evE Γ (η.set i (some (.v (f a)))) elt S' = some (.v (kk (k a)), S')) (hl : xs.length ≤ lim) :
    evE Γ η (.lc elt [i] false it (.con (.bool true))) S = some (.v (li kk (xs.map k)), S') := by
  have := lc1 (c := .con (.bool true)) (fun _ => true) k kk hit (fun _ _ => rfl) (fun a ha _ => he a ha) hl
  rwa [List.filter_eq_self.mpr (fun _ _ => rfl)] at this
/-- two names -/
theorem lc2 {elt c : Ex} {i j : Nat} {it : Iy} {xs : List α} {f g : α → PyData} (p : α → Bool) (k : α → β) (kk : β → PyData)
    (hit : evI Γ η it S = some (.items (xs.map fun a => .tuple [f a, g a]), S'))
    (hc : ∀ a ∈ xs, evE Γ ((((η.set j none).set i none).set i (some (.v (f a)))).set j (some (.v (g a)))) c S' = some (.v (.bool (p a)), S')) (he : ∀ a ∈ xs, p a = true → evE Γ ((((η.set j none).set i none).set i (some (.v (f a)))).set j (some (.v (g a)))) elt S' = some (.v (kk (k a)), S')) (hl : xs.length ≤ lim) :
    evE Γ η (.lc elt [i, j] true it c) S = some (.v (li kk ((xs.filter p).map k)), S') :=
  lc_core p k kk (fun a => (((η.set j none).set i none).set i (some (.v (f a)))).set j (some (.v (g a)))) hit (fun a _ => by simp [bindT, wipeE, setAll]) hc he hl
theorem lc2m {elt : Ex} {i j : Nat} {it : Iy} {xs : List α} {f g : α → PyData} (k : α → β) (kk : β → PyData)
    (hit : evI Γ η it S = some (.items (xs.map fun a => .tuple [f a, g a]), S'))
    (he : ∀ a ∈ xs, evE Γ ((((η.set j none).set i none).set i (some (.v (f a)))).set j (some (.v (g a)))) elt S' = some (.v (kk (k a)), S')) (hl : xs.length ≤ lim) :
    evE Γ η (.lc elt [i, j] true it (.con (.bool true))) S = some (.v (li kk (xs.map k)), S') := by
  have := lc2 (c := .con (.bool true)) (fun _ => true) k kk hit (fun _ _ => rfl) (fun a ha _ => he a ha) hl
  rwa [List.filter_eq_self.mpr (fun _ _ => rfl)] at this
theorem for_core {b : Bk} {tg : List Nat} {many : Bool} {it : Iy} {xs : List α} {f : α → PyData} {Q : Out → Prop} (I : List α → En → Sto → Prop)
    (hit : evI Γ η it S = some (.items (xs.map f), S')) (h0 : I [] η S')
    (hs : ∀ pre a post η S, xs = pre ++ a :: post → I pre η S → Ok ((bindT η tg many (f a)).bind fun η1 => evB Γ b η1 S) (loopP Q (I (pre ++ [a]))))
    (he : ∀ η S, I xs η S → Q (.nx η S)) : Ok (evS Γ (.loop tg many it b) η S) Q := by
  have e2 : evS Γ (.loop tg many it b) η S = forL (fun d η1 S2 => do let η2 ← bindT η1 tg many d; evB Γ b η2 S2) (xs.map f) η S' := by
    rw [evS, hit]
    rfl
  rw [e2]
  refine forL_ok (fun i η S => I (xs.take i) η S) (xs.map f) 0 η S' h0 (fun m x η2 S2 hd hI => ?_) fun η2 S2 hI => he η2 S2 (by rw [Nat.zero_add, List.length_map, List.take_length] at hI; exact hI)
  rw [Nat.zero_add] at hI ⊢
  rw [List.getElem?_map, Option.map_eq_some_iff] at hd
  obtain ⟨a, ha, rfl⟩ := hd
  have hm := (List.getElem?_eq_some_iff.mp ha).1
  have hx : xs[m] = a := (List.getElem?_eq_some_iff.mp ha).2
  have h1 : xs = xs.take m ++ a :: xs.drop (m + 1) := by
    rw [← hx, ← List.drop_eq_getElem_cons hm, List.take_append_drop]
  have h2 : xs.take (m + 1) = xs.take m ++ [a] := by
    rw [List.take_succ_eq_append_getElem hm, hx]
  rw [h2]
  exact hs _ a _ η2 S2 h1 hI
theorem for1 {b : Bk} {i : Nat} {it : Iy} {xs : List α} {f : α → PyData} {Q : Out → Prop} (I : List α → En → Sto → Prop)
    (hit : evI Γ η it S = some (.items (xs.map f), S')) (h0 : I [] η S')
    (hs : ∀ pre a post η S, xs = pre ++ a :: post → I pre η S → Ok (evB Γ b (η.set i (some (.v (f a)))) S) (loopP Q (I (pre ++ [a]))))
    (he : ∀ η S, I xs η S → Q (.nx η S)) : Ok (evS Γ (.loop [i] false it b) η S) Q :=
  for_core I hit h0 (fun pre a post η S h1 h2 => by simpa [bindT, setAll] using hs pre a post η S h1 h2) he
theorem for2 {b : Bk} {i j : Nat} {it : Iy} {xs : List α} {f g : α → PyData} {Q : Out → Prop} (I : List α → En → Sto → Prop)
    (hit : evI Γ η it S = some (.items (xs.map fun a => .tuple [f a, g a]), S')) (h0 : I [] η S')
    (hs : ∀ pre a post η S, xs = pre ++ a :: post → I pre η S → Ok (evB Γ b ((η.set i (some (.v (f a)))).set j (some (.v (g a)))) S) (loopP Q (I (pre ++ [a]))))
    (he : ∀ η S, I xs η S → Q (.nx η S)) : Ok (evS Γ (.loop [i, j] true it b) η S) Q :=
  for_core I hit h0 (fun pre a post η S h1 h2 => by simpa [bindT, setAll] using hs pre a post η S h1 h2) he
/-- while: I says where it stands, m falls -/
theorem whl_core {c : Ex} {b : Bk} {Q : Out → Prop} (I : Nat → En → Sto → Prop) (B : Nat) (hB : B < lim) (h0 : I B η S)
    (hs : ∀ m η S, I m η S → Ok (evE Γ η c S) fun p => (p.1 = .v (.bool false) ∧ Q (.nx η p.2)) ∨ (p.1 = .v (.bool true) ∧ 0 < m ∧ Ok (evB Γ b η p.2) (loopP Q (fun η' S' => ∃ m', m' < m ∧ I m' η' S')))) : Ok (evS Γ (.whl c b) η S) Q := by
  rw [evS]
  have key : ∀ n m η S, m < n → I m η S → Ok (whlL (fun η1 S1 => do let p ← evE Γ η1 c S1; let z ← asBool p.1; some (z, p.2)) (fun η1 S1 => evB Γ b η1 S1) n η S) Q := by
    intro n
    induction n with
    | zero => intro m _ _ h; omega
    | succ n ih =>
      intro m η S hm hI
      obtain ⟨⟨w, S1⟩, e1, h⟩ := hs m η S hI
      rw [whlL, e1]
      rcases h with ⟨h1, h2⟩ | ⟨h1, h2, h3⟩
      · have h1 : w = .v (.bool false) := h1
        subst h1
        exact ⟨_, rfl, h2⟩
      · have h1 : w = .v (.bool true) := h1
        subst h1
        obtain ⟨o, e2, q⟩ := h3
        have e2 : evB Γ b η S1 = some o := e2
        simp only [Option.bind_eq_bind, Option.bind_some, asBool, if_true, e2]
        cases o with
        | nx η' S' => obtain ⟨m', hm', hI'⟩ := q; exact ih m' η' S' (by omega) hI'
        | ct η' S' => obtain ⟨m', hm', hI'⟩ := q; exact ih m' η' S' (by omega) hI'
        | bk η' S' => exact ok_some q
        | rt w S' => exact ok_some q
  exact key lim B η S hB h0
theorem run_v {fd : Fd} {ws : List W} {d : PyData} {R : Sto} (hl : ws.length = fd.ps.length) (h : evB Γ fd.body (ws.map some ++ List.replicate (fd.ns.length - ws.length) none) S = some (.rt (.v d) (S ++ R))) : runF Γ fd ws S = some (.v d, S) := by
  unfold runF
  rw [if_pos hl, h, Option.bind_some]
  show some (W.v d, (S ++ R).take S.length) = _
  rw [List.take_left]
theorem run_v0 {fd : Fd} {ws : List W} {d : PyData} (hl : ws.length = fd.ps.length) (h : evB Γ fd.body (ws.map some ++ List.replicate (fd.ns.length - ws.length) none) S = some (.rt (.v d) S)) : runF Γ fd ws S = some (.v d, S) := by
  refine run_v (R := []) hl ?_
  rw [List.append_nil]
  exact h
theorem run_q {fd : Fd} {ws : List W} {d : PyData} (hl : ws.length = fd.ps.length) (h : Ok (evB Γ fd.body (ws.map some ++ List.replicate (fd.ns.length - ws.length) none) S) fun o => ∃ R, o = .rt (.v d) (S ++ R)) : runF Γ fd ws S = some (.v d, S) := by
  obtain ⟨o, e, R, rfl⟩ := h
  exact run_v hl e
end Pl


namespace Pl
open PySem
structure Bd where
  rooms : List Nat
  orders : List (List Nat)
def Bd.e (b : Bd) : PyData := .tuple [tu nt b.rooms, tu (tu nt) b.orders]
structure Bd.Ok (b : Bd) (n m : Nat) : Prop where
  rl : b.rooms.length = m
  r7 : ∀ r ∈ b.rooms, r ≤ 7
  ol : b.orders.length = m
  op : ∀ o ∈ b.orders, o.Perm (List.range n)
/-- a list of posts -/
def LOk (m : Nat) (w : List Nat) : Prop := w.Nodup ∧ ∀ x ∈ w, x < m
structure WOk (n m : Nat) (ws : List (List Nat)) : Prop where
  len : ws.length = n
  ok : ∀ w ∈ ws, LOk m w
abbrev eW : List (List Nat) → PyData := tu (tu nt)
@[simp] theorem at_bd0 (b : Bd) : atD b.e (.int 0) = some (tu nt b.rooms) := at_c0 _ _
@[simp] theorem at_bd1 (b : Bd) : atD b.e (.int 1) = some (tu (tu nt) b.orders) := at_c1 _ _ _
@[simp] theorem none_bd (b : Bd) : isNoneD b.e = false := rfl
instance : Enc Bd.e 3 := ⟨fun b => by
    have h1 := Enc.lay (f := tu nt) b.rooms
    have h2 := Enc.lay (f := tu (tu nt)) b.orders
    simp [Bd.e, PyData.canLay0, PyData.canLayAll0, h1, h2], fun b => by
    have h1 := Enc.dep (f := tu nt) b.rooms
    have h2 := Enc.dep (f := tu (tu nt)) b.orders
    simp only [Bd.e, PyData.depth, PyData.depthAll]
    omega⟩
instance : Inj Bd.e := ⟨fun a b => by
  obtain ⟨a1, a2⟩ := a
  obtain ⟨b1, b2⟩ := b
  have h1 := Inj.inj (f := tu nt) a1 b1
  have h2 := Inj.inj (f := tu (tu nt)) a2 b2
  simp [Bd.e, PyData.eqv, PyData.eqvAll, h1, h2]⟩
theorem perm_nts {n : Nat} {zs : List PyData} (h : zs.Perm ((List.range n).map nt)) : ∃ l : List Nat, zs = l.map nt ∧ l.Perm (List.range n) := by
  have hm : ∀ z ∈ zs, ∃ i : Nat, z = nt i := fun z hz => by
    obtain ⟨i, _, e⟩ := List.mem_map.mp (h.mem_iff.mp hz)
    exact ⟨i, e.symm⟩
  have : ∃ l : List Nat, zs = l.map nt := by
    clear h
    induction zs with
    | nil => exact ⟨[], rfl⟩
    | cons z zs ih =>
      obtain ⟨i, rfl⟩ := hm z List.mem_cons_self
      obtain ⟨l, rfl⟩ := ih fun w hw => hm w (List.mem_cons_of_mem _ hw)
      exact ⟨i :: l, rfl⟩
  obtain ⟨l, rfl⟩ := this
  refine ⟨l, rfl, ?_⟩
  have h2 := h.map (fun d => match d with | .int i => i.toNat | _ => 0)
  simpa [List.map_map, Function.comp_def] using h2
theorem Ord.nts {n : Nat} {d : PyData} (h : Ord n d) : ∃ l : List Nat, d = tu nt l ∧ l.Perm (List.range n) := by
  obtain ⟨zs, rfl, h⟩ := h
  rw [rngL_nt] at h
  obtain ⟨l, rfl, h'⟩ := perm_nts h
  exact ⟨l, rfl, h'⟩
theorem all_map {α β : Type} {f : β → α} {P : β → Prop} : ∀ {xs : List α}, (∀ x ∈ xs, ∃ y, x = f y ∧ P y) → ∃ ys : List β, xs = ys.map f ∧ ∀ y ∈ ys, P y
  | [], _ => ⟨[], rfl, fun y h => by simp at h⟩
  | x :: xs, h => by
    obtain ⟨y, rfl, hy⟩ := h x List.mem_cons_self
    obtain ⟨ys, rfl, h2⟩ := all_map (xs := xs) fun z hz => h z (List.mem_cons_of_mem _ hz)
    exact ⟨y :: ys, rfl, fun z hz => (List.mem_cons.mp hz).elim (fun e => by rw [e]; exact hy) (h2 z)⟩
theorem Brd.bd {n m : Nat} {d : PyData} (h : Brd n m d) : ∃ b : Bd, d = b.e ∧ b.Ok n m := by
  obtain ⟨rs, os, rfl, h1, h2, h3, h4⟩ := h
  obtain ⟨l, rfl, h5⟩ := all_map (f := fun i : Nat => (i : Int)) (P := fun i => i ≤ 7) (xs := rs) fun x hx => ⟨x.toNat, by have := h2 x hx; omega, by have := h2 x hx; omega⟩
  obtain ⟨os, rfl, h6⟩ := all_map (f := tu nt) (P := fun o => o.Perm (List.range n)) (xs := os) fun x hx => (h4 x hx).nts
  refine ⟨⟨l, os⟩, ?_, by simpa using h1, h5, by simpa using h3, h6⟩
  show PyData.tuple [.tuple _, .tuple _] = PyData.tuple [.tuple _, .tuple _]; simp [mp, Function.comp_def]
theorem Lst.nts {m : Nat} {d : PyData} (h : Lst m d) : ∃ l : List Nat, d = tu nt l ∧ LOk m l := by
  obtain ⟨zs, ts, rfl, h⟩ := h
  rw [rngL_nt] at h
  obtain ⟨l, e, h'⟩ := perm_nts h
  obtain ⟨l1, l2, rfl, e1, e2⟩ := List.map_eq_append_iff.mp e.symm
  subst e1
  refine ⟨l1, rfl, ?_, fun x hx => ?_⟩
  · have := h'.nodup_iff.mpr List.nodup_range
    exact (List.nodup_append.mp this).1
  · exact List.mem_range.mp (h'.mem_iff.mp (List.mem_append_left _ hx))
theorem Ord.mem {n : Nat} {o : List Nat} (h : o.Perm (List.range n)) (x : Nat) : x ∈ o ↔ x < n := by rw [h.mem_iff, List.mem_range]
theorem Ord.len {n : Nat} {o : List Nat} (h : o.Perm (List.range n)) : o.length = n := by rw [h.length_eq, List.length_range]
theorem Ord.nodup {n : Nat} {o : List Nat} (h : o.Perm (List.range n)) : o.Nodup := h.nodup_iff.mpr List.nodup_range
theorem nodup_len : ∀ (m : Nat) (l : List Nat), l.Nodup → (∀ x ∈ l, x < m) → l.length ≤ m
  | 0, [], _, _ => Nat.le_refl _
  | 0, x :: l, _, h => absurd (h x List.mem_cons_self) (Nat.not_lt_zero _)
  | m + 1, l, hn, h => by
    have ih := nodup_len m (l.erase m) (hn.erase m) fun x hx => by
      have h1 := h x (List.mem_of_mem_erase hx)
      have h2 := (hn.mem_erase_iff.mp hx).1
      omega
    by_cases hm : m ∈ l
    · rw [List.length_erase_of_mem hm] at ih
      omega
    · rw [List.erase_of_not_mem hm] at ih
      omega
theorem LOk.len {m : Nat} {w : List Nat} (h : LOk m w) : w.length ≤ m := nodup_len m w h.1 h.2
def Dk0 (dk : List PyData) (B : Nat) : Prop := ∃ (xs : List Int) (a b c : Int), dk = [.list (xs.map .int), .int a, .int b, .int c] ∧ xs.length ≤ 63 ∧ 0 ≤ c ∧ c ≤ (B : Int)
theorem Dk0.mono {dk : List PyData} {B C : Nat} (h : Dk0 dk B) (k : B ≤ C) : Dk0 dk C := by
  obtain ⟨xs, a, b, c, h1, h2, h3, h4⟩ := h
  exact ⟨xs, a, b, c, h1, h2, h3, by omega⟩
theorem Dk0.dk {dk : List PyData} {B : Nat} {R : Sto} (h : Dk0 dk B) : Dk (.lst dk :: R) 0 (B : Int) := by
  obtain ⟨xs, a, b, c, rfl, h2, h3, h4⟩ := h
  exact ⟨xs, a, b, c, rfl, h2, h3, h4⟩
theorem Nx.dk0 {dk : List PyData} {R S' : Sto} {B : Int} {C : Nat} (h : Nx 0 (.lst dk :: R) S' B) (hC : B ≤ (C : Int)) : ∃ dk', S' = .lst dk' :: R ∧ Dk0 dk' C := by
  obtain ⟨d, rfl, xs, a, b, c, h1, h2, h3, h4⟩ := h
  refine ⟨d, rfl, xs, a, b, c, ?_, h2, h3, by omega⟩
  have h1 : some d = some _ := h1
  exact Option.some.inj h1
abbrev mxB : Nat := 900000000
/-- a draw with a result in P, at most c draws -/
def Dr (g : List W → Sto → Option (W × Sto)) (ws : List W) (c : Nat) (P : PyData → Prop) : Prop :=
  ∀ dk R B, Dk0 dk B → B + c < mxB → ∃ d dk', g (.r 0 :: ws) (.lst dk :: R) = some (.v d, .lst dk' :: R) ∧ P d ∧ Dk0 dk' (B + c)
abbrev AnyP (d : PyData) : Prop := ∃ (b : Bd) (n m : Nat), 0 < n ∧ n ≤ 7 ∧ 0 < m ∧ m ≤ 4 ∧ b.Ok n m ∧ d = b.e
abbrev BrdP (n m : Nat) (d : PyData) : Prop := ∃ b : Bd, b.Ok n m ∧ d = b.e
section
variable {T : List (Nat × Fd)} {k : Nat}
theorem dr_one (h : T.lookup f_Ldraw = some d_Ldraw) (h2 : T.lookup f_Lone = some d_Lone) {α : Type} {f : α → PyData} {xs : List α} {d : PyData} (hd : itemsOf d = some (xs.map f)) (h0 : 0 < xs.length) (h1 : xs.length ≤ 1000) :
    Dr (evF T (k + 2) f_Lone) [.v d] 1 fun d => ∃ x, x ∈ xs ∧ d = f x := fun dk R B hD hB => by
  obtain ⟨⟨w, S'⟩, e, z, hz, rfl, hN⟩ := oneF h h2 (.lst dk :: R) 0 B (.v d) d _ hD.dk (by unfold mxB at hB; omega) rfl (by intro q; cases q) hd (by simpa using h0) (by simpa using h1)
  obtain ⟨dk', rfl, hD'⟩ := hN.dk0 (C := B + 1) (by omega)
  obtain ⟨x, hx, rfl⟩ := List.mem_map.mp hz
  exact ⟨_, dk', e, ⟨x, hx, rfl⟩, hD'⟩
theorem dr_one_li (h : T.lookup f_Ldraw = some d_Ldraw) (h2 : T.lookup f_Lone = some d_Lone) {α : Type} {f : α → PyData} {xs : List α} (h0 : 0 < xs.length) (h1 : xs.length ≤ 1000) :
    Dr (evF T (k + 2) f_Lone) [.v (li f xs)] 1 fun d => ∃ x, x ∈ xs ∧ d = f x := dr_one h h2 rfl h0 h1
theorem perm_map {α : Type} {f : α → PyData} {xs : List α} {zs : List PyData} (h : zs.Perm (xs.map f)) : ∃ ys : List α, zs = ys.map f ∧ ys.Perm xs := by
  induction xs generalizing zs with
  | nil => exact ⟨[], by simpa using h, .refl _⟩
  | cons x xs ih =>
    have hm : f x ∈ zs := h.mem_iff.mpr List.mem_cons_self
    obtain ⟨a, b, rfl⟩ := List.append_of_mem hm
    have h2 : (a ++ b).Perm (xs.map f) := (List.perm_middle.symm.trans h).cons_inv
    obtain ⟨ys, e, hp⟩ := ih h2
    obtain ⟨y1, y2, rfl, e1, e2⟩ := List.map_eq_append_iff.mp e.symm
    refine ⟨y1 ++ x :: y2, by simp [e1, e2], List.perm_middle.trans (hp.cons x)⟩
theorem dr_near (h : T.lookup f_Ldraw = some d_Ldraw) (h2 : T.lookup f_Lnear = some d_Lnear) {α : Type} {f : α → PyData} {xs : List α} {d : PyData} (hd : itemsOf d = some (xs.map f)) (h0 : 0 < xs.length) (h1 : xs.length ≤ 1000) :
    Dr (evF T (k + 2) f_Lnear) [.v d] 5 fun d => ∃ ys : List α, ys.Perm xs ∧ d = tu f ys := fun dk R B hD hB => by
  obtain ⟨⟨w, S'⟩, e, zs, rfl, hz, hN⟩ := nearF h h2 (.lst dk :: R) 0 B d _ hD.dk (by unfold mxB at hB; omega) hd (by simpa using h0) (by simpa using h1)
  obtain ⟨dk', rfl, hD'⟩ := hN.dk0 (C := B + 5) (by omega)
  obtain ⟨ys, rfl, hp⟩ := perm_map hz
  exact ⟨_, dk', e, ⟨ys, hp, rfl⟩, hD'⟩
theorem dr_board (h1 : T.lookup f_Ldraw = some d_Ldraw) (h2 : T.lookup f_Lone = some d_Lone) (h3 : T.lookup f_Lmixed = some d_Lmixed) (h4 : T.lookup f_Lnear = some d_Lnear) (h5 : T.lookup f_Lboard = some d_Lboard) {n m : Nat} (n0 : 0 < n) (n7 : n ≤ 7) (m0 : 0 < m) (m7 : m ≤ 7) :
    Dr (evF T (k + 3) f_Lboard) [.v (nt n), .v (nt m)] 1000 (BrdP n m) := fun dk R B hD hB => by
  obtain ⟨⟨w, S'⟩, e, d, rfl, hb, hN⟩ := boardF h1 h2 h3 h4 h5 (.lst dk :: R) 0 B n m hD.dk (by unfold mxB at hB; omega) n0 n7 m0 m7
  obtain ⟨dk', rfl, hD'⟩ := hN.dk0 (C := B + 1000) (by omega)
  obtain ⟨b, rfl, hb'⟩ := hb.bd
  exact ⟨_, dk', e, ⟨b, hb', rfl⟩, hD'⟩
end
end Pl


namespace Pl
open PySem
structure Sm (d : PyData) (D N : Nat) : Prop where
  dep : d.depth ≤ D
  sho : d.showable = true
  sh : d.leavesShort 8 = true
  bu : d.bulk ≤ N
structure Sms (ds : List PyData) (D N : Nat) : Prop where
  dep : PyData.depthAll ds ≤ D
  sho : PyData.showableAll ds = true
  sh : PyData.leavesShortAll 8 ds = true
  bu : PyData.bulkAll ds ≤ N
theorem Sm.mono {d : PyData} {D N E M : Nat} (h : Sm d D N) (h1 : D ≤ E) (h2 : N ≤ M) : Sm d E M := ⟨Nat.le_trans h.dep h1, h.sho, h.sh, Nat.le_trans h.bu h2⟩
theorem sms_nil (D : Nat) : Sms [] D 0 := ⟨by simp [PyData.depthAll], rfl, rfl, by simp [PyData.bulkAll]⟩
theorem sms_cons {d : PyData} {ds : List PyData} {D N D2 N2 : Nat} (h : Sm d D N) (k : Sms ds D2 N2) : Sms (d :: ds) (max D D2) (N + 1 + N2) := by
  obtain ⟨h2, h3, h4, h5⟩ := h
  obtain ⟨k2, k3, k4, k5⟩ := k
  refine ⟨?_, by simp [PyData.showableAll, h3, k3], by simp [PyData.leavesShortAll, h4, k4], ?_⟩
  · simp only [PyData.depthAll]; omega
  · simp only [PyData.bulkAll]; omega
theorem sm_tup {ds : List PyData} {D N : Nat} (h : Sms ds D N) : Sm (.tuple ds) (D + 1) N := by
  obtain ⟨h2, h3, h4, h5⟩ := h
  refine ⟨?_, by simp [PyData.showable, h3], by simp [PyData.leavesShort, h4], by simp only [PyData.bulk]; exact h5⟩
  simp only [PyData.depth]; omega
theorem sm_none : Sm .none 0 0 := ⟨by simp [PyData.depth], rfl, rfl, by simp [PyData.bulk]⟩
theorem sm_bool (b : Bool) : Sm (.bool b) 0 0 := ⟨by simp [PyData.depth], rfl, rfl, by simp [PyData.bulk]⟩
theorem short_nat : ∀ n : Fin 256, ((nt n.val).leavesShort 8 && (nt n.val).showable) = true := by decide +kernel
theorem sm_nt {n : Nat} (h : n < 256) : Sm (nt n) 0 0 := by
  have := short_nat ⟨n, h⟩
  rw [Bool.and_eq_true] at this
  exact ⟨by simp [PyData.depth], this.2, this.1, by simp [PyData.bulk]⟩
theorem sm_oN {n : Option Nat} (h : ∀ k, n = some k → k < 256) : Sm (oN n) 0 0 := by
  cases n with
  | none => exact sm_none
  | some k => exact sm_nt (h k rfl)
theorem sms_map {α : Type} {f : α → PyData} {D N : Nat} : ∀ {xs : List α}, (∀ x ∈ xs, Sm (f x) D N) → Sms (xs.map f) D (xs.length * (N + 1))
  | [], _ => ⟨by simp [PyData.depthAll], rfl, rfl, by simp [PyData.bulkAll]⟩
  | x :: xs, h => by
    have h1 := sms_cons (h x List.mem_cons_self) (sms_map (xs := xs) fun y hy => h y (List.mem_cons_of_mem _ hy))
    rw [Nat.max_self] at h1
    have e : N + 1 + xs.length * (N + 1) = (x :: xs).length * (N + 1) := by
      rw [List.length_cons, Nat.add_mul, Nat.one_mul, Nat.add_comm]
    rw [e] at h1
    exact h1
theorem sm_tu {α : Type} {f : α → PyData} {D N M : Nat} {xs : List α} (h : ∀ x ∈ xs, Sm (f x) D N) (hl : xs.length ≤ M) : Sm (tu f xs) (D + 1) (M * (N + 1)) :=
  (sm_tup (sms_map h)).mono (Nat.le_refl _) (Nat.mul_le_mul_right _ hl)
theorem Sm.repr {d : PyData} {D N : Nat} (h : Sm d D N) (hD : D ≤ 64) (hN : N ≤ 90000) : blD .repr [d] = some (.str d.shown) := by
  obtain ⟨h2, h3, h4, h5⟩ := h
  have hs : d.depth ≤ 64 := by omega
  have hl : d.shown.length ≤ lim := by
    have := PyData.shown_le_bulk 8 (by decide) d h4
    have e : lim = 1000000 := rfl
    omega
  show (if (d.showable && decide (d.depth ≤ 64) && decide (d.shown.length ≤ lim)) = true then some (PyData.str d.shown) else none) = _
  rw [if_pos (by simp [h3, hs, hl])]
@[simp] theorem co_neS (a b : Str) : coD .ne (.str a) (.str b) = some (a != b) := rfl
@[simp] theorem co_eqS (a b : Str) : coD .eq (.str a) (.str b) = some (a == b) := rfl
theorem Bd.Ok.sm {b : Bd} {n m : Nat} (h : b.Ok n m) (hn : n ≤ 7) (hm : m ≤ 7) : Sm b.e 3 70 := by
  have h1 := sm_tu (f := nt) (M := 7) (xs := b.rooms) (fun r hr => sm_nt (by have := h.r7 r hr; omega)) (by rw [h.rl]; exact hm)
  have h2 := sm_tu (f := tu nt) (M := 7) (xs := b.orders) (fun o ho => sm_tu (f := nt) (M := 7) (fun x hx => sm_nt (by have := (Ord.mem (h.op o ho) x).mp hx; omega)) (by rw [Ord.len (h.op o ho)]; exact hn)) (by rw [h.ol]; exact hm)
  exact (sm_tup (sms_cons h1 (sms_cons h2 (sms_nil 0)))).mono (by decide) (by decide)
theorem LOk.sm {m : Nat} {w : List Nat} (h : LOk m w) (hm : m ≤ 7) : Sm (tu nt w) 1 7 :=
  (sm_tu (f := nt) (M := 7) (fun x hx => sm_nt (by have := h.2 x hx; omega)) (Nat.le_trans h.len hm)).mono (by decide) (by decide)
theorem WOk.sm {n m : Nat} {ws : List (List Nat)} (h : WOk n m ws) (hn : n ≤ 7) (hm : m ≤ 7) : Sm (eW ws) 2 56 :=
  (sm_tu (f := tu nt) (M := 7) (fun w hw => (h.ok w hw).sm hm) (by rw [h.len]; exact hn)).mono (by decide) (by decide)
end Pl


namespace Pl
open PySem
variable {α β : Type}
inductive F2 (P : α → β → Prop) : List α → List β → Prop
  | nil : F2 P [] []
  | cons {a : α} {b : β} {as : List α} {bs : List β} : P a b → F2 P as bs → F2 P (a :: as) (b :: bs)
theorem F2.length_eq {P : α → β → Prop} : ∀ {as : List α} {bs : List β}, F2 P as bs → as.length = bs.length
  | _, _, .nil => rfl
  | _, _, .cons _ h => congrArg (· + 1) h.length_eq
theorem F2.mem {P : α → β → Prop} : ∀ {as : List α} {bs : List β}, F2 P as bs → ∀ b ∈ bs, ∃ a ∈ as, P a b
  | _, _, .nil, b, h => by simp at h
  | _, _, .cons p h, b, hb => (List.mem_cons.mp hb).elim (fun e => ⟨_, List.mem_cons_self, by rw [e]; exact p⟩) fun hb => let ⟨a, h1, h2⟩ := h.mem b hb; ⟨a, List.mem_cons_of_mem _ h1, h2⟩
/-- an expression that draws -/
def DrE (Γ : Fns) (η : En) (e : Ex) (R : Sto) (c : Nat) (P : PyData → Prop) : Prop :=
  ∀ dk B, Dk0 dk B → B + c < mxB → ∃ d dk', evE Γ η e (.lst dk :: R) = some (.v d, .lst dk' :: R) ∧ P d ∧ Dk0 dk' (B + c)
theorem lcL_dr {f : PyData → Sto → Option (Option PyData × Sto)} {g : α → PyData} {k : β → PyData} {P : α → β → Prop} {R : Sto} {c : Nat} : ∀ {xs : List α} {dk : List PyData} {B : Nat}, Dk0 dk B → B + xs.length * c < mxB →
    (∀ a ∈ xs, ∀ dk B, Dk0 dk B → B + c < mxB → ∃ y dk', f (g a) (.lst dk :: R) = some (some (k y), .lst dk' :: R) ∧ P a y ∧ Dk0 dk' (B + c)) →
    ∃ ys dk', lcL f (xs.map g) (.lst dk :: R) = some (mp k ys, .lst dk' :: R) ∧ F2 P xs ys ∧ Dk0 dk' (B + xs.length * c)
  | [], dk, B, hD, hB, h => ⟨[], dk, rfl, .nil, by simpa using hD⟩
  | x :: xs, dk, B, hD, hB, h => by
    have e : (x :: xs).length * c = c + xs.length * c := by rw [List.length_cons, Nat.add_mul, Nat.one_mul, Nat.add_comm]
    rw [e] at hB ⊢
    obtain ⟨y, dk1, e1, p1, hD1⟩ := h x List.mem_cons_self dk B hD (by omega)
    obtain ⟨ys, dk2, e2, p2, hD2⟩ := lcL_dr (f := f) (g := g) (k := k) (P := P) (R := R) (c := c) (xs := xs) hD1 (by omega) fun a ha => h a (List.mem_cons_of_mem _ ha)
    refine ⟨y :: ys, dk2, ?_, .cons p1 p2, by rw [show B + (c + xs.length * c) = B + c + xs.length * c by omega]; exact hD2⟩
    simp only [List.map_cons, lcL, e1, Option.bind_eq_bind, Option.bind_some, e2]
    rfl
theorem lc_dr {Γ : Fns} {η : En} {R : Sto} {elt : Ex} {i : Nat} {it : Iy} {xs : List α} {f : α → PyData} {c : Nat} (k : β → PyData) (P : α → β → Prop)
    (hit : ∀ dk, evI Γ η it (.lst dk :: R) = some (.items (xs.map f), .lst dk :: R)) (hl : xs.length ≤ 1000) (hc : xs.length * c < 100000000)
    (he : ∀ a ∈ xs, DrE Γ (η.set i (some (.v (f a)))) elt R c fun d => ∃ y, P a y ∧ d = k y) :
    ∀ dk B, Dk0 dk B → B + xs.length * c < mxB → ∃ d dk', evE Γ η (.lc elt [i] false it (.con (.bool true))) (.lst dk :: R) = some (.v d, .lst dk' :: R) ∧ (∃ ys, F2 P xs ys ∧ d = li k ys) ∧ Dk0 dk' (B + xs.length * c) := by
  intro dk B hD hB
  rw [evE, hit]
  simp only [Option.bind_eq_bind, Option.bind_some]
  obtain ⟨ys, dk', e, hp, hD'⟩ := lcL_dr (f := fun d S1 => (bindT (wipeE η [i]) [i] false d).bind fun η1 => (evE Γ η1 (.con (.bool true)) S1).bind fun b => (asBool b.1).bind fun z => if z = true then (evE Γ η1 elt b.2).bind fun e => match e.1 with
        | .v x => some (some x, e.2)
        | _ => none else some (none, b.2)) (g := f) (k := k) (P := P) (R := R) (c := c) hD hB fun a ha dk B hD hB => by
    obtain ⟨d, dk', e, ⟨y, hp, rfl⟩, hD'⟩ := he a ha dk B hD hB
    refine ⟨y, dk', ?_, hp, hD'⟩
    simp [bindT, wipeE, setAll, List.set_set, e]
  refine ⟨li k ys, dk', ?_, ⟨ys, hp, rfl⟩, hD'⟩
  show (lcL _ (xs.map f) (.lst dk :: R)).bind _ = _
  refine (congrArg (fun z => Option.bind z _) e).trans ?_
  rw [Option.bind_some]
  have hlen : (mp k ys).length ≤ lim := by
    rw [mp_len, ← hp.length_eq]
    exact Nat.le_trans hl (by decide)
  simp only [hlen, if_true]
  rfl
theorem list7 {l : List α} (h : l.length = 7) : ∃ a0 a1 a2 a3 a4 a5 a6, l = [a0, a1, a2, a3, a4, a5, a6] := match l, h with
  | [a0, a1, a2, a3, a4, a5, a6], _ => ⟨a0, a1, a2, a3, a4, a5, a6, rfl⟩
end Pl


namespace Mt
open Pl
theorem idx_lt_of_split {α : Type} [DecidableEq α] {l a b : List α} {f : α → Bool} (hn : l.Nodup) (h : l.filter f = a ++ b) {x y : α} (hy : y ∈ a) (hx : x ∈ b) : l.idxOf y < l.idxOf x := by
  have key : ∀ l : List α, l.Nodup → l.Pairwise fun u v => l.idxOf u < l.idxOf v := by
    intro l
    induction l with
    | nil => intro _; exact .nil
    | cons z l ih =>
      intro hn
      have hz := (List.nodup_cons.mp hn).1
      refine List.pairwise_cons.mpr ⟨fun w hw => ?_, ?_⟩
      · have : ¬ z = w := fun e => hz (by rw [e]; exact hw)
        rw [List.idxOf_cons_self, List.idxOf_cons, cond_eq_ite, if_neg (by simpa using this)]
        omega
      · refine (ih (List.nodup_cons.mp hn).2).imp_of_mem fun {u v} hu hv huv => ?_
        have h1 : ¬ z = u := fun e => hz (by rw [e]; exact hu)
        have h2 : ¬ z = v := fun e => hz (by rw [e]; exact hv)
        rw [List.idxOf_cons, List.idxOf_cons, cond_eq_ite, cond_eq_ite, if_neg (by simpa using h1), if_neg (by simpa using h2)]
        omega
  have h1 := ((key l hn).filter f)
  rw [h] at h1
  exact (List.pairwise_append.mp h1).2.2 y hy x hx
theorem idx_inj {α : Type} [DecidableEq α] {l : List α} {x y : α} (hx : x ∈ l) (h : l.idxOf x = l.idxOf y) : x = y := by
  have h1 : l[l.idxOf x]'(List.idxOf_lt_length_iff.mpr hx) = x := List.getElem_idxOf _
  have hy : l.idxOf y < l.length := by rw [← h]; exact List.idxOf_lt_length_iff.mpr hx
  have h2 : l[l.idxOf y]'hy = y := List.getElem_idxOf _
  rw [← h1, ← h2]
  congr 1
theorem idx_get {α : Type} [DecidableEq α] {l : List α} (hn : l.Nodup) {i : Nat} (hi : i < l.length) : l.idxOf l[i] = i := hn.idxOf_getElem i hi
/-- how many below n -/
def cnt (n : Nat) (f : Nat → Bool) : Nat := ((List.range n).filter f).length
theorem cnt_perm {n : Nat} {o : List Nat} (ho : o.Perm (List.range n)) (f : Nat → Bool) : (o.filter f).length = cnt n f := (ho.filter f).length_eq
theorem cnt_le {n : Nat} {f g : Nat → Bool} (h : ∀ k, k < n → f k = true → g k = true) : cnt n f ≤ cnt n g := by
  unfold cnt
  induction n with
  | zero => exact Nat.le_refl _
  | succ n ih =>
    have ih := ih fun k hk => h k (by omega)
    have hn := h n (by omega)
    rw [List.range_succ, List.filter_append, List.filter_append, List.length_append, List.length_append]
    cases hf : f n <;> cases hg : g n <;> simp [hf, hg] at hn ⊢ <;> omega
theorem cnt_lt {n : Nat} {f g : Nat → Bool} (h : ∀ k, k < n → f k = true → g k = true) {x : Nat} (hx : x < n) (h1 : f x = false) (h2 : g x = true) : cnt n f < cnt n g := by
  unfold cnt
  induction n with
  | zero => omega
  | succ n ih =>
    rw [List.range_succ, List.filter_append, List.filter_append, List.length_append, List.length_append]
    by_cases e : x = n
    · subst e
      have := cnt_le (n := x) (f := f) (g := g) fun k hk => h k (by omega)
      unfold cnt at this
      simp [h1, h2]
      omega
    · have ih := ih (fun k hk => h k (by omega)) (by omega)
      have hn := h n (by omega)
      cases hf : f n <;> cases hg : g n <;> simp [hf, hg] at hn ⊢ <;> omega
theorem cnt_congr {n : Nat} {f g : Nat → Bool} (h : ∀ k, k < n → f k = g k) : cnt n f = cnt n g := by
  unfold cnt
  congr 1
  refine List.filter_congr fun k hk => ?_
  exact h k (List.mem_range.mp hk)
/-- the same number, and within one another -/
theorem cnt_eq_all {n : Nat} {f g : Nat → Bool} (h : ∀ k, k < n → f k = true → g k = true) (e : cnt n g ≤ cnt n f) : ∀ k, k < n → g k = true → f k = true := by
  intro k hk hg
  cases hf : f k with
  | true => rfl
  | false =>
    have := cnt_lt h hk hf hg
    omega
theorem cnt_mem {n : Nat} {l : List Nat} (hn : l.Nodup) (hl : ∀ x ∈ l, x < n) : cnt n (fun k => decide (k ∈ l)) = l.length := by
  have : ((List.range n).filter fun k => decide (k ∈ l)).Perm l := by
    refine (List.perm_ext_iff_of_nodup (List.nodup_range.filter _) hn).mpr fun a => ?_
    simp only [List.mem_filter, List.mem_range, decide_eq_true_eq]
    exact ⟨fun h => h.2, fun h => ⟨hl a h, h⟩⟩
  exact this.length_eq
def ord (b : Bd) (q : Nat) : List Nat := b.orders[q]?.getD []
def room (b : Bd) (q : Nat) : Nat := b.rooms[q]?.getD 0
def wl (ws : List (List Nat)) (p : Nat) : List Nat := ws[p]?.getD []
def rk (b : Bd) (q p : Nat) : Nat := (ord b q).idxOf p
/-- the place of a thing in the list of p -/
def pos (ws : List (List Nat)) (p : Nat) : Option Nat → Nat
  | none => (wl ws p).length
  | some q => (wl ws p).idxOf q
def hv (l : List (Option Nat)) (p : Nat) : Option Nat := l[p]?.join
/-- a dealing in which nobody has cause for envy; f tells what each has -/
structure Fair (b : Bd) (ws : List (List Nat)) (n : Nat) (f : Nat → Option Nat) : Prop where
  own : ∀ p q, p < n → f p = some q → q ∈ wl ws p
  cap : ∀ q, cnt n (fun k => f k == some q) ≤ room b q
  env : ∀ p k q, p < n → k < n → f p = some q → rk b q k < rk b q p → q ∈ wl ws k → pos ws k (f k) ≤ pos ws k (some q)
/-- no claims -/
structure Steady (b : Bd) (ws : List (List Nat)) (n : Nat) (f : Nat → Option Nat) : Prop extends Fair b ws n f where
  ful : ∀ k q, k < n → q ∈ wl ws k → pos ws k (some q) < pos ws k (f k) → cnt n (fun k => f k == some q) = room b q
structure Wf (b : Bd) (ws : List (List Nat)) (n m : Nat) : Prop where
  b : b.Ok n m
  w : WOk n m ws
section
variable {b : Bd} {ws : List (List Nat)} {n m : Nat}
theorem Wf.ord (h : Wf b ws n m) {q : Nat} (hq : q < m) : (Mt.ord b q).Perm (List.range n) := by
  have hl : q < b.orders.length := by rw [h.b.ol]; exact hq
  unfold Mt.ord
  rw [List.getElem?_eq_getElem hl]
  exact h.b.op _ (List.getElem_mem hl)
theorem Wf.wl (h : Wf b ws n m) {p : Nat} (hp : p < n) : LOk m (Mt.wl ws p) := by
  have hl : p < ws.length := by rw [h.w.len]; exact hp
  unfold Mt.wl
  rw [List.getElem?_eq_getElem hl]
  exact h.w.ok _ (List.getElem_mem hl)
theorem Wf.mem (h : Wf b ws n m) {p q : Nat} (hp : p < n) (hq : q ∈ Mt.wl ws p) : q < m := (h.wl hp).2 q hq
theorem pos_inj (h : Wf b ws n m) {p : Nat} (hp : p < n) {x y : Option Nat} (hx : ∀ q, x = some q → q ∈ wl ws p) (hy : ∀ q, y = some q → q ∈ wl ws p) (e : pos ws p x = pos ws p y) : x = y := by
  cases x with
  | none =>
    cases y with
    | none => rfl
    | some q =>
      have : (wl ws p).idxOf q < (wl ws p).length := List.idxOf_lt_length_iff.mpr (hy q rfl)
      have e : (wl ws p).length = (wl ws p).idxOf q := e
      omega
  | some r =>
    have h1 : (wl ws p).idxOf r < (wl ws p).length := List.idxOf_lt_length_iff.mpr (hx r rfl)
    cases y with
    | none =>
      have e : (wl ws p).idxOf r = (wl ws p).length := e
      omega
    | some q => rw [idx_inj (hx r rfl) e]
theorem pos_lt {p q : Nat} (h : q ∈ wl ws p) : pos ws p (some q) < (wl ws p).length := List.idxOf_lt_length_iff.mpr h
/-- what holds while people ask -/
structure Inv (b : Bd) (ws : List (List Nat)) (n : Nat) (h : Nat → Option Nat) (s : Nat → Nat) : Prop where
  le : ∀ p, p < n → s p ≤ (wl ws p).length
  at_ : ∀ p q, p < n → h p = some q → ∃ i, s p = i + 1 ∧ (wl ws p)[i]? = some q
  cap : ∀ q, cnt n (fun k => h k == some q) ≤ room b q
  ref : ∀ p i q, p < n → i < s p → (wl ws p)[i]? = some q → h p ≠ some q → cnt n (fun k => h k == some q) = room b q ∧ ∀ k, k < n → h k = some q → rk b q k < rk b q p
  opt : ∀ f, Fair b ws n f → ∀ p i q, p < n → i < s p → (wl ws p)[i]? = some q → h p ≠ some q → f p ≠ some q
theorem Inv.init (b : Bd) (ws : List (List Nat)) (n : Nat) : Inv b ws n (fun _ => none) (fun _ => 0) := by
  refine ⟨fun p _ => Nat.zero_le _, (fun p q _ h => (by cases h)), fun q => ?_, fun p i q _ h => absurd h (Nat.not_lt_zero _), fun f _ p i q _ h => absurd h (Nat.not_lt_zero _)⟩
  have : cnt n (fun k => (none : Option Nat) == some q) = 0 := by
    unfold cnt
    rw [List.filter_eq_nil_iff.mpr (by simp)]
    rfl
  show cnt n (fun k => (none : Option Nat) == some q) ≤ _
  omega
theorem Inv.congr {h h' : Nat → Option Nat} {s s' : Nat → Nat} (I : Inv b ws n h s) (e : ∀ k, k < n → h' k = h k) (e2 : ∀ k, k < n → s' k = s k) : Inv b ws n h' s' := by
  have ec : ∀ q, cnt n (fun k => h' k == some q) = cnt n (fun k => h k == some q) := fun q => cnt_congr fun k hk => by rw [e k hk]
  refine ⟨fun p hp => by rw [e2 p hp]; exact I.le p hp, fun p q hp hh => by rw [e2 p hp]; rw [e p hp] at hh; exact I.at_ p q hp hh, fun q => by rw [ec]; exact I.cap q, fun p i q hp hi hq hne => ?_, fun f F p i q hp hi hq hne => ?_⟩
  · rw [e2 p hp] at hi
    rw [e p hp] at hne
    rw [ec]
    obtain ⟨h1, h2⟩ := I.ref p i q hp hi hq hne
    exact ⟨h1, fun k hk hh => h2 k hk (by rw [e k hk] at hh; exact hh)⟩
  · rw [e2 p hp] at hi
    rw [e p hp] at hne
    exact I.opt f F p i q hp hi hq hne
/-- who asks q, with those who have it, best first -/
def asking (b : Bd) (h : Nat → Option Nat) (p q : Nat) : List Nat := (ord b q).filter fun k => h k == some q || k == p
def kept (b : Bd) (h : Nat → Option Nat) (p q : Nat) : List Nat := (asking b h p q).take (room b q)
def after (b : Bd) (h : Nat → Option Nat) (p q : Nat) (k : Nat) : Option Nat := if k ∈ kept b h p q then some q else if k ∈ asking b h p q then none else h k
theorem Inv.step (W : Wf b ws n m) {h : Nat → Option Nat} {s : Nat → Nat} (I : Inv b ws n h s) {p q : Nat} (hp : p < n) (hn : h p = none) (hq : (wl ws p)[s p]? = some q) :
    Inv b ws n (after b h p q) (fun k => if k = p then s p + 1 else s k) := by
  have hql : q ∈ wl ws p := List.mem_of_getElem? hq
  have hqm := W.mem hp hql
  have hord := W.ord hqm
  have hnd := Ord.nodup hord
  have hsl : s p < (wl ws p).length := (List.getElem?_eq_some_iff.mp hq).1
  -- who stands in asking
  have ma : ∀ k, k ∈ asking b h p q ↔ k < n ∧ (h k = some q ∨ k = p) := fun k => by
    simp [asking, Ord.mem hord]
  have hsub : ∀ k, k ∈ kept b h p q → k ∈ asking b h p q := fun k hk => List.mem_of_mem_take hk
  have split : asking b h p q = kept b h p q ++ (asking b h p q).drop (room b q) := (List.take_append_drop _ _).symm
  have higher : ∀ k x, k ∈ kept b h p q → x ∈ asking b h p q → x ∉ kept b h p q → rk b q k < rk b q x := fun k x hk hx hnx => by
    rw [split] at hx
    rcases List.mem_append.mp hx with h1 | h1
    · exact absurd h1 hnx
    · exact idx_lt_of_split hnd split hk h1
  have hp0 : ∀ z, z ≠ q → cnt n (fun k => after b h p q k == some z) = cnt n (fun k => h k == some z) := fun z hz => cnt_congr fun k hk => by
    unfold after
    split
    · next h1 =>
      have h2 := (ma k).mp (hsub k h1)
      rcases h2.2 with h3 | h3
      · rw [h3]
      · rw [h3, hn]
        simp
        exact fun e => hz e.symm
    · split
      · next h1 h2 =>
        have h2 := (ma k).mp h2
        rcases h2.2 with h3 | h3
        · rw [h3]
          simp
          exact fun e => hz e.symm
        · rw [h3, hn]
      · rfl
  have afz : ∀ k z, k < n → z ≠ q → (after b h p q k = some z ↔ h k = some z) := fun k z hk hz => by
    unfold after
    split
    · next h1 =>
      have h2 := (ma k).mp (hsub k h1)
      rcases h2.2 with h3 | h3
      · rw [h3]
      · rw [h3, hn]
        exact ⟨fun e => absurd (Option.some.inj e).symm hz, fun e => by cases e⟩
    · split
      · next h1 h2 =>
        have h2 := (ma k).mp h2
        rcases h2.2 with h3 | h3
        · rw [h3]
          exact ⟨fun e => (by cases e), fun e => absurd (Option.some.inj e).symm hz⟩
        · rw [h3, hn]
      · exact Iff.rfl
  have afq : ∀ k, k < n → (after b h p q k = some q ↔ k ∈ kept b h p q) := fun k hk => by
    unfold after
    split
    · next h1 => exact ⟨fun _ => h1, fun _ => rfl⟩
    · next h1 =>
      split
      · exact ⟨fun e => (by cases e), fun e => absurd e h1⟩
      · next h2 => exact ⟨fun e => absurd ((ma k).mpr ⟨hk, .inl e⟩) h2, fun e => absurd e h1⟩
  have knd : (kept b h p q).Nodup := by
    unfold kept asking
    exact (hnd.filter _).take
  have kcn : cnt n (fun k => decide (k ∈ kept b h p q)) = (kept b h p q).length := cnt_mem knd fun x hx => ((ma x).mp (hsub x hx)).1
  have cq : cnt n (fun k => after b h p q k == some q) = (kept b h p q).length := by
    rw [← kcn]
    refine cnt_congr fun k hk => ?_
    rw [Bool.eq_iff_iff]
    simp [afq k hk]
  have full : ∀ x, x ∈ asking b h p q → x ∉ kept b h p q → (kept b h p q).length = room b q := fun x h1 h2 => by
    unfold kept
    rw [List.length_take]
    by_cases hl : (asking b h p q).length ≤ room b q
    · exact absurd h1 (by
        have : kept b h p q = asking b h p q := List.take_of_length_le hl
        rw [← this]
        exact h2)
    · omega
  have wasked : ∀ k, k ∈ asking b h p q → ∃ i, (if k = p then s p + 1 else s k) = i + 1 ∧ (wl ws k)[i]? = some q ∧ i ≤ s k ∧ (k ≠ p → h k = some q) := fun k hk => by
    rcases ((ma k).mp hk).2 with h3 | h3
    · have hkp : k ≠ p := fun e => by rw [e, hn] at h3; cases h3
      obtain ⟨i, h4, h5⟩ := I.at_ k q ((ma k).mp hk).1 h3
      exact ⟨i, by rw [if_neg hkp]; exact h4, h5, by omega, fun _ => h3⟩
    · subst h3
      exact ⟨s k, by rw [if_pos rfl], hq, Nat.le_refl _, fun e => absurd rfl e⟩
  refine ⟨fun k hk => ?_, fun k z hk hz => ?_, fun z => ?_, fun k i z hk hi hz hne => ?_, fun f F k i z hk hi hz hne hf => ?_⟩
  · split
    · next e => rw [e]; exact hsl
    · exact I.le k hk
  · by_cases e : z = q
    · subst e
      obtain ⟨i, h1, h2, _⟩ := wasked k (hsub k ((afq k hk).mp hz))
      exact ⟨i, h1, h2⟩
    · have h1 := (afz k z hk e).mp hz
      have hkp : k ≠ p := fun e => by rw [e, hn] at h1; cases h1
      rw [if_neg hkp]
      exact I.at_ k z hk h1
  · by_cases e : z = q
    · subst e
      rw [cq]
      exact List.length_take_le _ _
    · rw [hp0 z e]
      exact I.cap z
  · by_cases e : z = q
    · subst e
      have hnk : k ∉ kept b h p z := fun q => hne ((afq k hk).mpr q)
      by_cases ha : k ∈ asking b h p z
      · refine ⟨by rw [cq]; exact full k ha hnk, fun j hj hjz => higher j k ((afq j hj).mp hjz) ha hnk⟩
      · have h1 : h k ≠ some z := fun e => ha ((ma k).mpr ⟨hk, .inl e⟩)
        have h2 : k ≠ p := fun e => ha ((ma k).mpr ⟨hk, .inr e⟩)
        rw [if_neg h2] at hi
        obtain ⟨f1, f2⟩ := I.ref k i z hk hi hz h1
        have hal : (asking b h p z).length = room b z + 1 := by
          unfold asking
          rw [cnt_perm hord, ← f1]
          unfold cnt
          have : ∀ l : List Nat, l.Nodup → p ∈ l → (l.filter fun k => h k == some z || k == p).length = (l.filter fun k => h k == some z).length + 1 := by
            intro l
            induction l with
            | nil => intro _ hm; simp at hm
            | cons x l ih =>
              intro hnd hm
              obtain ⟨n1, n2⟩ := List.nodup_cons.mp hnd
              rcases List.mem_cons.mp hm with e | e
              · subst e
                have : (l.filter fun k => h k == some z || k == p) = l.filter fun k => h k == some z := List.filter_congr fun y hy => by
                  have : ¬ y = p := fun e => n1 (by rw [← e]; exact hy)
                  simp [this]
                simp [hn, this]
              · have hx : ¬ x = p := fun e2 => n1 (by rw [e2]; exact e)
                have := ih n2 e
                rw [List.filter_cons, List.filter_cons]
                cases hv : h x == some z
                · simp [hx]
                  simpa using this
                · simp
                  simpa using this
          exact this _ List.nodup_range (List.mem_range.mpr hp)
        have hkl : (kept b h p z).length = room b z := by
          unfold kept
          rw [List.length_take, hal]
          omega
        refine ⟨by rw [cq]; exact hkl, fun j hj hjz => ?_⟩
        have hjk := (afq j hj).mp hjz
        rcases ((ma j).mp (hsub j hjk)).2 with h3 | h3
        · exact f2 j hj h3
        · subst h3
          obtain ⟨x, hx⟩ : ∃ x, x ∈ (asking b h j z).drop (room b z) := by
            cases hd : (asking b h j z).drop (room b z) with
            | nil =>
              have := congrArg List.length hd
              rw [List.length_drop, hal] at this
              simp at this
            | cons x l => exact ⟨x, List.mem_cons_self⟩
          have hxa : x ∈ asking b h j z := List.mem_of_mem_drop hx
          have hxk : x ∉ kept b h j z := fun hxk => by
            have hnd2 : (asking b h j z).Nodup := hnd.filter _
            rw [split] at hnd2
            exact (List.nodup_append.mp hnd2).2.2 x hxk x hx rfl
          have h4 := higher j x hjk hxa hxk
          have hxj : x ≠ j := fun e => hxk (by rw [e]; exact hjk)
          obtain ⟨h5, h6⟩ := (ma x).mp hxa
          have := f2 x h5 (h6.resolve_right hxj)
          omega
    · have h1 : h k ≠ some z := fun q => hne ((afz k z hk e).mpr q)
      have hi2 : i < s k := by
        split at hi
        · next e2 =>
          subst e2
          have : i ≠ s k := fun e3 => by
            rw [e3, hq] at hz
            exact e (Option.some.inj hz).symm
          omega
        · exact hi
      obtain ⟨f1, f2⟩ := I.ref k i z hk hi2 hz h1
      rw [hp0 z e]
      exact ⟨f1, fun j hj hjz => f2 j hj ((afz j z hj e).mp hjz)⟩
  · by_cases hold : i < s k ∧ h k ≠ some z
    · exact I.opt f F k i z hk hold.1 hz hold.2 hf
    · have hzq : z = q ∧ k ∈ asking b h p q := by
        by_cases h1 : h k = some z
        · have : z = q := Classical.byContradiction fun e => hne ((afz k z hk e).mpr h1)
          exact ⟨this, (ma k).mpr ⟨hk, .inl (by rw [h1, this])⟩⟩
        · have hi2 : ¬ i < s k := fun e => hold ⟨e, h1⟩
          split at hi
          · next e2 =>
            subst e2
            have : i = s k := by omega
            rw [this, hq] at hz
            exact ⟨(Option.some.inj hz).symm, (ma k).mpr ⟨hk, .inr rfl⟩⟩
          · exact absurd hi hi2
      obtain ⟨rfl, ha⟩ := hzq
      have hnk : k ∉ kept b h p z := fun q => hne ((afq k hk).mpr q)
      have hfl := full k ha hnk
      -- somebody who is kept has something else in f
      obtain ⟨x, hx, hfx⟩ : ∃ x, x ∈ kept b h p z ∧ f x ≠ some z := Classical.byContradiction fun hno => by
        have hall : ∀ x, x ∈ kept b h p z → f x = some z := fun x hx => Classical.byContradiction fun e => hno ⟨x, hx, e⟩
        have h1 : cnt n (fun j => decide (j ∈ kept b h p z)) < cnt n (fun j => f j == some z) :=
          cnt_lt (fun j hj hjk => by rw [hall j (by simpa using hjk)]; simp) hk (by simpa using hnk) (by rw [hf]; simp)
        rw [kcn] at h1
        have h2 := F.cap z
        omega
      have hxn := ((ma x).mp (hsub x hx)).1
      obtain ⟨j, _, hj2, hj3, hj4⟩ := wasked x (hsub x hx)
      have hzx : z ∈ wl ws x := List.mem_of_getElem? hj2
      have he := F.env k x z hk hxn hf (higher x k hx ha hnk) hzx
      have hposz : pos ws x (some z) = j := by
        show (wl ws x).idxOf z = j
        obtain ⟨g1, g2⟩ := List.getElem?_eq_some_iff.mp hj2
        rw [← g2]
        exact idx_get (W.wl hxn).1 g1
      cases hfx2 : f x with
      | none =>
        rw [hfx2, hposz] at he
        have h1 : j < (wl ws x).length := (List.getElem?_eq_some_iff.mp hj2).1
        have he : (wl ws x).length ≤ j := he
        omega
      | some y =>
        have hy := F.own x y hxn hfx2
        have hne2 : y ≠ z := fun e => hfx (by rw [hfx2, e])
        rw [hfx2, hposz] at he
        have he : (wl ws x).idxOf y ≤ j := he
        have hlt : (wl ws x).idxOf y ≠ j := fun e => by
          have : (wl ws x).idxOf y = (wl ws x).idxOf z := by rw [e]; exact hposz.symm
          exact hne2 (idx_inj hy this)
        have hyg : (wl ws x)[(wl ws x).idxOf y]? = some y := by
          rw [List.getElem?_eq_getElem (List.idxOf_lt_length_iff.mpr hy), List.getElem_idxOf]
        refine I.opt f F x _ y hxn (by omega) hyg (fun e => ?_) hfx2
        by_cases hxp : x = p
        · rw [hxp, hn] at e; cases e
        · rw [hj4 hxp] at e
          exact hne2 (Option.some.inj e).symm
/-- nobody asks any more -/
structure Done (b : Bd) (ws : List (List Nat)) (n : Nat) (h : Nat → Option Nat) (s : Nat → Nat) : Prop extends Inv b ws n h s where
  all : ∀ p, p < n → h p = none → s p = (wl ws p).length
/-- the best of all dealings without envy -/
structure Opt (b : Bd) (ws : List (List Nat)) (n : Nat) (f : Nat → Option Nat) : Prop extends Steady b ws n f where
  opt : ∀ g, Fair b ws n g → ∀ p, p < n → pos ws p (f p) ≤ pos ws p (g p)
theorem get_idx {l : List Nat} {q : Nat} (h : q ∈ l) : l[l.idxOf q]? = some q := by
  rw [List.getElem?_eq_getElem (List.idxOf_lt_length_iff.mpr h), List.getElem_idxOf]
theorem Inv.pos (W : Wf b ws n m) {h : Nat → Option Nat} {s : Nat → Nat} (I : Inv b ws n h s) {p q : Nat} (hp : p < n) (hq : h p = some q) : s p = Mt.pos ws p (some q) + 1 ∧ q ∈ wl ws p := by
  obtain ⟨i, h1, h2⟩ := I.at_ p q hp hq
  obtain ⟨g1, g2⟩ := List.getElem?_eq_some_iff.mp h2
  refine ⟨?_, List.mem_of_getElem? h2⟩
  show s p = (wl ws p).idxOf q + 1
  rw [← g2, idx_get (W.wl hp).1 g1, h1]
theorem Done.refd (W : Wf b ws n m) {h : Nat → Option Nat} {s : Nat → Nat} (I : Done b ws n h s) {k q : Nat} (hk : k < n) (hq : q ∈ wl ws k) (hlt : Mt.pos ws k (some q) < Mt.pos ws k (h k)) : (wl ws k).idxOf q < s k ∧ h k ≠ some q := by
  refine ⟨?_, fun e => by rw [e] at hlt; exact Nat.lt_irrefl _ hlt⟩
  cases hh : h k with
  | none => rw [I.all k hk hh]; exact List.idxOf_lt_length_iff.mpr hq
  | some z =>
    have := (I.toInv.pos W hk hh).1
    rw [hh] at hlt
    have hlt : (wl ws k).idxOf q < Mt.pos ws k (some z) := hlt
    omega
theorem Done.best (W : Wf b ws n m) {h : Nat → Option Nat} {s : Nat → Nat} (I : Done b ws n h s) : Opt b ws n h := by
  refine ⟨⟨⟨fun p q hp hq => (I.toInv.pos W hp hq).2, I.cap, fun p k q hp hk hf hr hq => Nat.le_of_not_lt fun hlt => ?_⟩, fun k q hk hq hlt => ?_⟩, fun g F p hp => Nat.le_of_not_lt fun hlt => ?_⟩
  · obtain ⟨h1, h2⟩ := I.refd W hk hq hlt
    have := (I.ref k _ q hk h1 (get_idx hq) h2).2 p hp hf
    omega
  · obtain ⟨h1, h2⟩ := I.refd W hk hq hlt
    exact (I.ref k _ q hk h1 (get_idx hq) h2).1
  · cases hg : g p with
    | none =>
      rw [hg] at hlt
      have hlt : (wl ws p).length < Mt.pos ws p (h p) := hlt
      cases hh : h p with
      | none => rw [hh] at hlt; exact Nat.lt_irrefl _ hlt
      | some z =>
        rw [hh] at hlt
        have := Mt.pos_lt (I.toInv.pos W hp hh).2
        omega
    | some q =>
      have hq := F.own p q hp hg
      rw [hg] at hlt
      obtain ⟨h1, h2⟩ := I.refd W hp hq hlt
      exact I.toInv.opt g F p _ q hp h1 (get_idx hq) h2 hg
end
end Mt


namespace Mt
open Pl
section
variable {b : Bd} {ws : List (List Nat)} {n m : Nat}
def taken (n : Nat) (f : Nat → Option Nat) (q : Nat) : Nat := cnt n fun k => f k == some q
theorem better_lt (W : Wf b ws n m) {f g : Nat → Option Nat} (hf : ∀ p q, p < n → f p = some q → q ∈ wl ws p) (hg : ∀ p q, p < n → g p = some q → q ∈ wl ws p) {p : Nat} (hp : p < n) (h : pos ws p (f p) ≤ pos ws p (g p)) (hne : f p ≠ g p) : pos ws p (f p) < pos ws p (g p) := by
  refine Nat.lt_of_le_of_ne h fun e => hne (pos_inj W hp (fun q => hf p q hp) (fun q => hg p q hp) e)
/-- the number of people with a post, by posts -/
theorem sum_taken {n m : Nat} {f : Nat → Option Nat} (h : ∀ p q, p < n → f p = some q → q < m) : ((List.range m).map (taken n f)).sum = cnt n fun k => (f k).isSome := by
  induction n with
  | zero =>
    have : ∀ l : List Nat, (l.map (taken 0 f)).sum = 0 := by
      intro l
      induction l with
      | nil => rfl
      | cons a l ih => rw [List.map_cons, List.sum_cons, ih]; rfl
    rw [this]
    rfl
  | succ n ih =>
    have ih := ih fun p q hp => h p q (by omega)
    have hs : ∀ q, taken (n + 1) f q = taken n f q + if f n = some q then 1 else 0 := fun q => by
      unfold taken cnt
      rw [List.range_succ, List.filter_append, List.length_append]
      congr 1
      by_cases e : f n = some q
      · simp [e]
      · simp [e]
    have hc : cnt (n + 1) (fun k => (f k).isSome) = cnt n (fun k => (f k).isSome) + if (f n).isSome then 1 else 0 := by
      unfold cnt
      rw [List.range_succ, List.filter_append, List.length_append]
      congr 1
      cases e : f n <;> simp [e]
    have hsum : ∀ l : List Nat, l.Nodup → (l.map (taken (n + 1) f)).sum = (l.map (taken n f)).sum + if ∃ q ∈ l, f n = some q then 1 else 0 := by
      intro l
      induction l with
      | nil => intro _; simp
      | cons a l ihl =>
        intro hnd
        obtain ⟨n1, n2⟩ := List.nodup_cons.mp hnd
        rw [List.map_cons, List.sum_cons, List.map_cons, List.sum_cons, ihl n2, hs a]
        by_cases e : f n = some a
        · have : ¬ ∃ q ∈ l, f n = some q := fun ⟨q, h1, h2⟩ => n1 (by rw [e] at h2; rw [Option.some.inj h2]; exact h1)
          rw [if_pos e, if_neg this, if_pos ⟨a, List.mem_cons_self, e⟩]
          omega
        · by_cases e2 : ∃ q ∈ l, f n = some q
          · obtain ⟨q, h1, h2⟩ := e2
            rw [if_neg e, if_pos ⟨q, h1, h2⟩, if_pos ⟨q, List.mem_cons_of_mem _ h1, h2⟩]
            omega
          · rw [if_neg e, if_neg e2, if_neg fun ⟨q, h1, h2⟩ => (List.mem_cons.mp h1).elim (fun h3 => e (by rw [h2, h3])) fun h3 => e2 ⟨q, h3, h2⟩]
            omega
    rw [hsum _ List.nodup_range, ih, hc]
    congr 1
    cases e : f n with
    | none => simp
    | some q => simp [h n q (by omega) e]
theorem sum_le_all {f g : Nat → Nat} : ∀ {l : List Nat}, (∀ x ∈ l, f x ≤ g x) → (l.map g).sum ≤ (l.map f).sum → ∀ x ∈ l, f x = g x
  | [], _, _, x, hx => by simp at hx
  | a :: l, h, hs, x, hx => by
    rw [List.map_cons, List.sum_cons, List.map_cons, List.sum_cons] at hs
    have ha := h a List.mem_cons_self
    have hl : (l.map f).sum ≤ (l.map g).sum := by
      clear hs hx ha
      have h2 := fun x hx => h x (List.mem_cons_of_mem a hx)
      clear h
      induction l with
      | nil => exact Nat.le_refl _
      | cons c l ih =>
        rw [List.map_cons, List.sum_cons, List.map_cons, List.sum_cons]
        have := h2 c List.mem_cons_self
        have := ih fun x hx => h2 x (List.mem_cons_of_mem _ hx)
        omega
    rcases List.mem_cons.mp hx with e | e
    · rw [e]; omega
    · exact sum_le_all (fun y hy => h y (List.mem_cons_of_mem _ hy)) (by omega) x e
/-- all steady dealings fill alike -/
theorem rural (W : Wf b ws n m) {f g : Nat → Option Nat} (hf : Opt b ws n f) (hg : Steady b ws n g) :
    (∀ q, q < m → taken n g q = taken n f q) ∧ (∀ p, p < n → ((g p).isSome = (f p).isSome)) ∧ ∀ q, q < m → taken n f q < room b q → ∀ p, p < n → (g p = some q ↔ f p = some q) := by
  have up := hf.opt g hg.toFair
  have mf : ∀ p q, p < n → f p = some q → q < m := fun p q hp e => W.mem hp (hf.own p q hp e)
  have mg : ∀ p q, p < n → g p = some q → q < m := fun p q hp e => W.mem hp (hg.own p q hp e)
  have le1 : ∀ q, taken n f q ≤ taken n g q := fun q => Classical.byContradiction fun hlt => by
    have hlt : taken n g q < taken n f q := Nat.lt_of_not_le hlt
    obtain ⟨p, hp, h1, h2⟩ : ∃ p, p < n ∧ f p = some q ∧ g p ≠ some q := Classical.byContradiction fun hno => by
      have : taken n f q ≤ taken n g q := cnt_le fun k hk e => by
        have e : f k = some q := by simpa using e
        simpa using Classical.byContradiction fun h2 => hno ⟨k, hk, e, h2⟩
      omega
    have hq := hf.own p q hp h1
    have h3 := better_lt W hf.own hg.own hp (up p hp) (by rw [h1]; exact fun e => h2 e.symm)
    rw [h1] at h3
    have h4 := hg.ful p q hp hq h3
    have h5 := hf.cap q
    have h4 : taken n g q = room b q := h4
    have h5 : taken n f q ≤ room b q := h5
    omega
  have le2 : ∀ p, p < n → (g p).isSome = true → (f p).isSome = true := fun p hp h => by
    cases hfp : f p with
    | some q => rfl
    | none =>
      cases hgp : g p with
      | none => rw [hgp] at h; cases h
      | some q =>
        have := up p hp
        rw [hfp, hgp] at this
        have h1 := pos_lt (hg.own p q hp hgp)
        have : (wl ws p).length ≤ pos ws p (some q) := this
        omega
  have hs : ((List.range m).map (taken n g)).sum ≤ ((List.range m).map (taken n f)).sum := by
    rw [sum_taken mf, sum_taken mg]
    exact cnt_le le2
  have eq1 : ∀ q, q < m → taken n g q = taken n f q := fun q hq => (sum_le_all (fun x _ => le1 x) hs q (List.mem_range.mpr hq)).symm
  have eq2 : ((List.range m).map (taken n g)).sum = ((List.range m).map (taken n f)).sum := by
    congr 1
    exact List.map_congr_left fun q hq => eq1 q (List.mem_range.mp hq)
  refine ⟨eq1, fun p hp => ?_, fun q hq hlt p hp => ?_⟩
  · rw [sum_taken mf, sum_taken mg] at eq2
    have := cnt_eq_all (f := fun k => (g k).isSome) (g := fun k => (f k).isSome) le2 (by omega) p hp
    cases h1 : (g p).isSome with
    | true => exact (le2 p hp h1).symm
    | false =>
      cases h2 : (f p).isSome with
      | false => rfl
      | true => rw [this h2] at h1; cases h1
  · have sub : ∀ k, k < n → (f k == some q) = true → (g k == some q) = true := fun k hk e => by
      have e : f k = some q := by simpa using e
      refine Classical.byContradiction fun h2 => ?_
      have h2 : g k ≠ some q := by simpa using h2
      have h3 := better_lt W hf.own hg.own hk (up k hk) (by rw [e]; exact fun e => h2 e.symm)
      rw [e] at h3
      have h4 : taken n g q = room b q := hg.ful k q hk (hf.own k q hk e) h3
      have := eq1 q hq
      omega
    have all := cnt_eq_all sub (by have := eq1 q hq; unfold taken at this; omega) p hp
    exact ⟨fun e => by simpa using all (by simpa using e), fun e => by simpa using sub p hp (by simpa using e)⟩
/-- a dealing that is without envy elsewhere, too -/
theorem Fair.of {b b' : Bd} {ws ws' : List (List Nat)} {f g : Nat → Option Nat} (h : Fair b ws n f) (hsub : ∀ p q, p < n → g p = some q → f p = some q) (own : ∀ p q, p < n → g p = some q → q ∈ wl ws' p) (hr : ∀ q, taken n g q ≤ room b' q)
    (env : ∀ p k q, p < n → k < n → g p = some q → rk b' q k < rk b' q p → q ∈ wl ws' k → pos ws' k (g k) ≤ pos ws' k (some q)) : Fair b' ws' n g := ⟨own, hr, env⟩
/-- somebody tells one post alone: who gets it in some dealing without envy, gets it -/
theorem truth (W : Wf b ws n m) {ws' : List (List Nat)} (W' : Wf b ws' n m) {g : Nat} (hgn : g < n) (hw : ∀ p, p < n → p ≠ g → wl ws' p = wl ws p) {f f' : Nat → Option Nat} (hf : Opt b ws n f) (hf' : Opt b ws' n f')
    (hex : ∀ l : List Nat, LOk m l → ∃ h, Opt b (ws.set g l) n h) {q : Nat} (hq : f' g = some q) (hqw : q ∈ wl ws g) : pos ws g (f g) ≤ pos ws g (some q) := by
  have hqm := W.mem hgn hqw
  have hgl : g < ws.length := by rw [W.w.len]; exact hgn
  have wls : ∀ l p, wl (ws.set g l) p = if p = g then l else wl ws p := fun l p => by
    unfold wl
    rw [List.getElem?_set]
    by_cases e : g = p
    · subst e
      simp [hgl]
    · have : ¬ p = g := fun h => e h.symm
      simp [e, this]
  have Wl : ∀ l, LOk m l → Wf b (ws.set g l) n m := fun l hl => ⟨W.b, ⟨by rw [List.length_set]; exact W.w.len, fun w hw => by
    rcases List.mem_or_eq_of_mem_set hw with h | h
    · exact W.w.ok w h
    · rw [h]; exact hl⟩⟩
  have posn : ∀ l p x, p ≠ g → pos (ws.set g l) p x = pos ws p x := fun l p x hp => by
    cases x <;> simp [pos, wls, hp]
  have pos' : ∀ p x, p < n → p ≠ g → pos ws' p x = pos ws p x := fun p x hp hne => by
    cases x <;> simp [pos, hw p hp hne]
  -- g tells q alone
  have l1 : LOk m [q] := ⟨by simp, by simpa using hqm⟩
  obtain ⟨h1, H1⟩ := hex [q] l1
  have F1 : Fair b (ws.set g [q]) n f' := by
    refine ⟨fun p z hp hz => ?_, hf'.cap, fun p k z hp hk hz hr hzk => ?_⟩
    · rw [wls]
      split
      · next e => subst e; rw [hq] at hz; cases hz; simp
      · next e => rw [← hw p hp e]; exact hf'.own p z hp hz
    · by_cases e : k = g
      · subst e
        rw [wls, if_pos rfl] at hzk
        have : z = q := by simpa using hzk
        rw [this, hq]
        exact Nat.le_refl _
      · rw [posn _ _ _ e, posn _ _ _ e, ← pos' k _ hk e, ← pos' k _ hk e]
        refine hf'.env p k z hp hk hz hr ?_
        rw [wls, if_neg e] at hzk
        rw [hw k hk e]
        exact hzk
  have h1g : h1 g = some q := by
    have := H1.opt f' F1 g hgn
    have e1 : pos (ws.set g [q]) g (f' g) = 0 := by rw [hq]; show (wl _ g).idxOf q = 0; rw [wls, if_pos rfl]; simp
    rw [e1] at this
    cases e : h1 g with
    | none =>
      rw [e] at this
      have : (wl (ws.set g [q]) g).length ≤ 0 := this
      rw [wls, if_pos rfl] at this
      simp at this
    | some z =>
      have := H1.own g z hgn e
      rw [wls, if_pos rfl] at this
      rw [show z = q by simpa using this]
  -- g tells the own list down to q
  have hcut : LOk m ((wl ws g).take ((wl ws g).idxOf q + 1)) := ⟨(W.wl hgn).1.take, fun x hx => (W.wl hgn).2 x (List.mem_of_mem_take hx)⟩
  obtain ⟨h2, H2⟩ := hex _ hcut
  generalize hL : (wl ws g).take ((wl ws g).idxOf q + 1) = L at *
  have hqi := List.idxOf_lt_length_iff.mpr hqw
  have hLq : q ∈ L := by
    rw [← hL, List.mem_take_iff_getElem]
    exact ⟨(wl ws g).idxOf q, by omega, List.getElem_idxOf _⟩
  have hLs : ∀ z ∈ L, z ∈ wl ws g := fun z hz => by rw [← hL] at hz; exact List.mem_of_mem_take hz
  have hLi : ∀ z ∈ L, L.idxOf z = (wl ws g).idxOf z := fun z hz => by
    have e : wl ws g = L ++ (wl ws g).drop ((wl ws g).idxOf q + 1) := by rw [← hL, List.take_append_drop]
    rw [e, List.idxOf_append, if_pos hz]
  have hLle : ∀ z ∈ L, (wl ws g).idxOf z ≤ (wl ws g).idxOf q := fun z hz => by
    have h3 := List.idxOf_lt_length_iff.mpr hz
    rw [hLi z hz, ← hL, List.length_take] at h3
    omega
  have h2g : ∃ z, h2 g = some z := by
    cases e : h2 g with
    | some z => exact ⟨z, rfl⟩
    | none =>
      exfalso
      -- then h2 is steady where g tells q alone
      have S : Steady b (ws.set g [q]) n h2 := by
        refine ⟨⟨fun p z hp hz => ?_, H2.cap, fun p k z hp hk hz hr hzk => ?_⟩, fun k z hk hz hlt => ?_⟩
        · rw [wls]
          split
          · next e2 => subst e2; rw [e] at hz; cases hz
          · next e2 => have := H2.own p z hp hz; rw [wls, if_neg e2] at this; exact this
        · by_cases e2 : k = g
          · subst e2
            rw [wls, if_pos rfl] at hzk
            have : z = q := by simpa using hzk
            subst this
            have := H2.env p k z hp hk hz hr (by rw [wls, if_pos rfl]; exact hLq)
            rw [e] at this
            have this : (wl (ws.set k L) k).length ≤ (wl (ws.set k L) k).idxOf z := this
            rw [wls, if_pos rfl] at this
            have := List.idxOf_lt_length_iff.mpr hLq
            omega
          · rw [posn _ _ _ e2, posn _ _ _ e2]
            have := H2.env p k z hp hk hz hr (by rw [wls, if_neg e2] at hzk ⊢; exact hzk)
            rw [posn _ _ _ e2, posn _ _ _ e2] at this
            exact this
        · by_cases e2 : k = g
          · subst e2
            rw [wls, if_pos rfl] at hz
            have : z = q := by simpa using hz
            subst this
            refine H2.ful k z hk (by rw [wls, if_pos rfl]; exact hLq) ?_
            rw [e]
            exact pos_lt (by rw [wls, if_pos rfl]; exact hLq)
          · refine H2.ful k z hk (by rw [wls, if_neg e2] at hz ⊢; exact hz) ?_
            rw [posn _ _ _ e2, posn _ _ _ e2] at hlt ⊢
            exact hlt
      have := (rural (Wl _ l1) H1 S).2.1 g hgn
      rw [e, h1g] at this
      cases this
  obtain ⟨z, hz⟩ := h2g
  have hzL : z ∈ L := by have := H2.own g z hgn hz; rw [wls, if_pos rfl] at this; exact this
  -- h2 is without envy by the own list
  have F2 : Fair b ws n h2 := by
    refine ⟨fun p y hp hy => ?_, H2.cap, fun p k y hp hk hy hr hyk => ?_⟩
    · by_cases e : p = g
      · subst e; rw [hz] at hy; cases hy; exact hLs z hzL
      · have := H2.own p y hp hy; rw [wls, if_neg e] at this; exact this
    · by_cases e : k = g
      · subst e
        rw [hz]
        show (wl ws k).idxOf z ≤ (wl ws k).idxOf y
        refine Nat.le_of_not_lt fun hlt => ?_
        have hyL : y ∈ L := by
          have h3 := hLle z hzL
          have h4 : (wl ws k).idxOf y < (wl ws k).length := List.idxOf_lt_length_iff.mpr hyk
          rw [← hL, List.mem_take_iff_getElem]
          exact ⟨(wl ws k).idxOf y, by omega, List.getElem_idxOf _⟩
        have := H2.env p k y hp hk hy hr (by rw [wls, if_pos rfl]; exact hyL)
        rw [hz] at this
        have this : (wl (ws.set k L) k).idxOf z ≤ (wl (ws.set k L) k).idxOf y := this
        rw [wls, if_pos rfl, hLi z hzL, hLi y hyL] at this
        omega
      · have := H2.env p k y hp hk hy hr (by rw [wls, if_neg e]; exact hyk)
        rw [posn _ _ _ e, posn _ _ _ e] at this
        exact this
  have h5 := hf.opt h2 F2 g hgn
  rw [hz] at h5
  exact Nat.le_trans h5 (hLle z hzL)
end
end Mt


namespace Pl
open PySem Mt
/-- what is at a place of a list, known to be there -/
theorem get_of {α : Type} {l : List α} {n i : Nat} (hl : l.length = n) (hi : i < n) : ∃ a, l[i]? = some a := ⟨_, List.getElem?_eq_getElem (by omega)⟩
def asPair (h : List (Option Nat)) (s : List Nat) : PyData := .tuple [li oN h, li nt s]
def Sp (s : List Nat) (p : Nat) : Nat := s[p]?.getD 0
structure St1 (b : Bd) (ws : List (List Nat)) (n : Nat) (h : List (Option Nat)) (s : List Nat) : Prop where
  hl : h.length = n
  sl : s.length = n
  inv : Inv b ws n (hv h) (Sp s)
theorem hv_get {h : List (Option Nat)} {p : Nat} {x : Option Nat} (e : h[p]? = some x) : hv h p = x := by unfold hv; rw [e]; rfl
theorem zipIdx_mem {α : Type} {l : List α} {x : α × Nat} (h : x ∈ l.zipIdx) : l[x.2]? = some x.1 := by
  have := List.mem_zipIdx_iff_getElem?.mp (show (x.1, x.2) ∈ l.zipIdx from h)
  exact this
section
variable {Γ : Fns} {S : Sto} {b : Bd} {ws : List (List Nat)} {n m : Nat}
/-- who may ask -/
def frees (ws : List (List Nat)) (n : Nat) (h : Nat → Option Nat) (s : Nat → Nat) : List Nat := (List.range n).filter fun p => (h p).isNone && decide (s p < (wl ws p).length)
theorem zip_map {α β : Type} {l : List α} {n : Nat} {g : α × Nat → β} {k : Nat → β} (hl : l.length = n) (h : ∀ i a, l[i]? = some a → g (a, i) = k i) : l.zipIdx.map g = (List.range n).map k := by
  subst hl
  refine List.ext_getElem? fun i => ?_
  rw [List.getElem?_map, List.getElem?_map, List.getElem?_zipIdx]
  by_cases hi : i < l.length
  · have e := List.getElem?_eq_getElem hi
    simp [e, List.getElem?_range hi]
    exact h i _ e
  · simp [List.getElem?_eq_none (Nat.le_of_not_lt hi)]
    rw [List.getElem?_eq_none (by simp; omega)]
    simp
theorem zip_filter {α : Type} {l : List α} {f : Nat → Bool} : ((l.zipIdx.filter fun x => f x.2).map fun x => x.2) = (List.range l.length).filter f := by
  have h1 : (l.zipIdx.filter fun x => f x.2).map (fun x => x.2) = ((l.zipIdx.map fun x => x.2).filter f) := by
    rw [List.filter_map]
    rfl
  rw [h1]
  congr 1
  rw [zip_map (g := fun x => x.2) (k := id) rfl fun i a _ => rfl, List.map_id]
theorem map_get {α : Type} {n : Nat} {k : Nat → α} {i : Nat} (hi : i < n) : ((List.range n).map k)[i]? = some (k i) := by
  rw [List.getElem?_map, List.getElem?_range hi]
  rfl
theorem one_asks_ev (W : Wf b ws n m) (hn : n ≤ 7) {h : List (Option Nat)} {s : List Nat} (I : St1 b ws n h s) :
    ((∀ p, p < n → hv h p = none → Sp s p = (wl ws p).length) ∧ runF Γ d_one_asks [.v b.e, .v (eW ws), .v (li oN h), .v (li nt s)] S = some (.v .none, S)) ∨
    (∃ h' s', St1 b ws n h' s' ∧ s'.sum = s.sum + 1 ∧ runF Γ d_one_asks [.v b.e, .v (eW ws), .v (li oN h), .v (li nt s)] S = some (.v (asPair h' s'), S)) := by
  have hwl := W.w.len
  have hlim : ∀ k, k ≤ 100 → k ≤ lim := fun k hk => Nat.le_trans hk (by decide)
  have e0 : evE Γ [some (.v b.e), some (.v (eW ws)), some (.v (li oN h)), some (.v (li nt s)), none, none, none, none, none, none, none, none, none] x_one_asks_0 S = some (.v (li nt (frees ws n (hv h) (Sp s))), S) := by
    have : frees ws n (hv h) (Sp s) = ((ws.zipIdx.filter fun x => (hv h x.2).isNone && decide (Sp s x.2 < (wl ws x.2).length)).map fun x => x.2) := by
      rw [zip_filter (f := fun p => (hv h p).isNone && decide (Sp s p < (wl ws p).length)), hwl]
      rfl
    rw [this]
    refine lc2 (f := fun x : List Nat × Nat => nt x.2) (g := fun x => tu nt x.1) _ (fun x => x.2) nt (it_enum (by simp)) (fun x hx => ?_) (fun x hx _ => by simp) (by rw [List.length_zipIdx]; exact hlim _ (by omega))
    have hx2 := zipIdx_mem hx
    have hx3 : x.2 < n := by have := (List.getElem?_eq_some_iff.mp hx2).1; omega
    obtain ⟨a, ha⟩ := get_of I.hl hx3
    obtain ⟨c, hc⟩ := get_of I.sl hx3
    have hwx : wl ws x.2 = x.1 := by unfold wl; rw [hx2]; rfl
    simp [ha, hc, hv_get ha, Sp, hwx]
    cases a <;> simp
  cases hf : frees ws n (hv h) (Sp s) with
  | nil =>
    left
    refine ⟨fun p hp hh => ?_, ?_⟩
    · have h1 : p ∉ frees ws n (hv h) (Sp s) := by rw [hf]; simp
      have h2 := I.inv.le p hp
      have h3 : ¬ Sp s p < (wl ws p).length := fun h4 => h1 (by simp [frees, hp, hh, h4])
      omega
    · rw [hf] at e0
      refine run_v0 rfl ?_
      show evB _ b_one_asks [some (.v b.e), some (.v (eW ws)), some (.v (li oN h)), some (.v (li nt s)), none, none, none, none, none, none, none, none, none] S = _
      simp [b_one_asks, e0, s_one_asks_3]
  | cons p rest =>
    right
    rw [hf] at e0
    have hpf : p ∈ frees ws n (hv h) (Sp s) := by rw [hf]; simp
    simp only [frees, List.mem_filter, List.mem_range, Bool.and_eq_true, Option.isNone_iff_eq_none, decide_eq_true_eq] at hpf
    obtain ⟨hp, hhp, hsp⟩ := hpf
    obtain ⟨q, hq⟩ : ∃ q, (wl ws p)[Sp s p]? = some q := ⟨_, List.getElem?_eq_getElem hsp⟩
    have hql := List.mem_of_getElem? hq
    have hqm := W.mem hp hql
    obtain ⟨own, hown⟩ := get_of hwl hp
    obtain ⟨c, hc⟩ := get_of I.sl hp
    obtain ⟨o, ho⟩ := get_of W.b.ol hqm
    obtain ⟨r, hr⟩ := get_of W.b.rl hqm
    have hwp : wl ws p = own := by unfold wl; rw [hown]; rfl
    have hsc : Sp s p = c := by unfold Sp; rw [hc]; rfl
    have hoq : ord b q = o := by unfold ord; rw [ho]; rfl
    have hrq : room b q = r := by unfold room; rw [hr]; rfl
    have hord := W.ord hqm
    have hq2 : own[c]? = some q := by rw [← hwp, ← hsc]; exact hq
    -- the steps
    have e1 : ∀ a8 a9, evE Γ [some (.v b.e), some (.v (eW ws)), some (.v (li oN h)), some (.v (li nt s)), some (.v (li nt (p :: rest))), none, none, some (.v (nt q)), a8, a9, none, none, none] x_one_asks_1 S = some (.v (li nt ((List.range n).map fun k => if k = p then Sp s p + 1 else Sp s k)), S) := fun a8 a9 => by
      rw [← zip_map (l := s) (g := fun x : Nat × Nat => x.1 + (decide (x.2 = p)).toNat) I.sl fun i a hi => ?_]
      · refine lc2m (f := fun x : Nat × Nat => nt x.2) (g := fun x => nt x.1) (fun x => x.1 + (decide (x.2 = p)).toNat) nt (it_enumL (by simp)) (fun x hx => ?_) (by rw [List.length_zipIdx]; exact hlim _ (by have := I.sl; omega))
        simp
      · have : Sp s i = a := by unfold Sp; rw [hi]; rfl
        by_cases e : i = p
        · subst e; simp [this]
        · simp [e, this]
    -- who asks
    have e2 : ∀ a8 a9, evE Γ [some (.v b.e), some (.v (eW ws)), some (.v (li oN h)), some (.v (li nt s)), some (.v (li nt (p :: rest))), none, none, some (.v (nt q)), a8, a9, none, none, none] x_one_asks_2 S = some (.v (li nt (asking b (hv h) p q)), S) := fun a8 a9 => by
      have : asking b (hv h) p q = (o.filter fun k => hv h k == some q || k == p).map id := by rw [List.map_id]; unfold asking; rw [hoq]
      rw [this]
      refine lc1 (f := nt) _ id nt (it_tu (by simp [ho])) (fun k hk => ?_) (fun k hk _ => by simp) (hlim _ (by rw [← hoq, Ord.len hord]; omega))
      have hkn : k < n := (Ord.mem hord k).mp (by rw [hoq]; exact hk)
      obtain ⟨a, ha⟩ := get_of I.hl hkn
      simp [ha, hv_get ha]
      by_cases e : a = some q <;> simp [e, Bool.beq_eq_decide_eq]
    have e3 : ∀ a8 a9, evE Γ [some (.v b.e), some (.v (eW ws)), some (.v (li oN h)), some (.v (li nt s)), some (.v (li nt (p :: rest))), none, none, some (.v (nt q)), a8, a9, some (.v (li nt (asking b (hv h) p q))), some (.v (li nt (kept b (hv h) p q))), none] x_one_asks_3 S = some (.v (li oN ((List.range n).map (after b (hv h) p q))), S) := fun a8 a9 => by
      rw [← zip_map (l := h) (g := fun x : Option Nat × Nat => if x.2 ∈ kept b (hv h) p q then some q else if x.2 ∈ asking b (hv h) p q then none else x.1) I.hl fun i a hi => by unfold after; rw [hv_get hi]]
      refine lc2m (f := fun x : Option Nat × Nat => nt x.2) (g := fun x => oN x.1) _ oN (it_enumL (by simp)) (fun x hx => ?_) (by rw [List.length_zipIdx]; exact hlim _ (by have := I.hl; omega))
      by_cases k1 : x.2 ∈ kept b (hv h) p q
      · simp [k1]
      · by_cases k2 : x.2 ∈ asking b (hv h) p q <;> simp [k1, k2]
    have hk : kept b (hv h) p q = (asking b (hv h) p q).take r := by unfold kept; rw [hrq]
    refine ⟨(List.range n).map (after b (hv h) p q), (List.range n).map (fun k => if k = p then Sp s p + 1 else Sp s k), ⟨by simp, by simp, ?_⟩, ?_, ?_⟩
    · have := I.inv.step W hp hhp hq
      have e1 : ∀ k, k < n → hv ((List.range n).map (after b (hv h) p q)) k = after b (hv h) p q k := fun k hk => hv_get (map_get hk)
      have e2 : ∀ k, k < n → Sp ((List.range n).map (fun k => if k = p then Sp s p + 1 else Sp s k)) k = if k = p then Sp s p + 1 else Sp s k := fun k hk => by unfold Sp; rw [map_get hk]; rfl
      exact this.congr e1 e2
    · have h1 : ∀ f : Nat → Nat, (∀ k, k < n → f k = Sp s k) → ((List.range n).map f).sum = s.sum := fun f hf => by
        congr 1
        refine List.ext_getElem? fun i => ?_
        by_cases hi : i < n
        · obtain ⟨a, ha⟩ := get_of I.sl hi
          rw [map_get hi, ha, hf i hi]
          unfold Sp
          rw [ha]
          rfl
        · rw [List.getElem?_eq_none (by simp; omega), List.getElem?_eq_none (by have := I.sl; omega)]
      have h2 : ∀ l : List Nat, l.Nodup → p ∈ l → (l.map fun k => if k = p then Sp s p + 1 else Sp s k).sum = (l.map (Sp s)).sum + 1 := by
        intro l
        induction l with
        | nil => intro _ hm; simp at hm
        | cons x l ih =>
          intro hnd hm
          obtain ⟨n1, n2⟩ := List.nodup_cons.mp hnd
          rw [List.map_cons, List.sum_cons, List.map_cons, List.sum_cons]
          by_cases e : x = p
          · subst e
            have : (l.map fun k => if k = x then Sp s x + 1 else Sp s k) = l.map (Sp s) := List.map_congr_left fun y hy => if_neg fun e => n1 (by rw [← e]; exact hy)
            rw [if_pos rfl, this]
            omega
          · rw [if_neg e, ih n2 ((List.mem_cons.mp hm).resolve_left fun q => e q.symm)]
            omega
      rw [h2 _ List.nodup_range (List.mem_range.mpr hp), h1 _ fun k _ => rfl]
    · refine run_v0 rfl ?_
      show evB _ b_one_asks [some (.v b.e), some (.v (eW ws)), some (.v (li oN h)), some (.v (li nt s)), none, none, none, none, none, none, none, none, none] S = _
      simp [b_one_asks, e0, s_one_asks_3, s_one_asks_2, hown, hc, hq2, e1, e2, s_one_asks_1, hr, ← hk, e3, s_one_asks_0, asPair]
theorem sum_le7 {k : Nat} : ∀ {s : List Nat}, (∀ x ∈ s, x ≤ k) → s.sum ≤ s.length * k
  | [], _ => by simp
  | x :: s, h => by
    have h1 := h x List.mem_cons_self
    have h2 := sum_le7 (s := s) fun y hy => h y (List.mem_cons_of_mem _ hy)
    rw [List.sum_cons, List.length_cons, Nat.add_mul, Nat.one_mul]
    omega
theorem St1.sum (W : Wf b ws n m) (hn : n ≤ 7) (hm : m ≤ 7) {h : List (Option Nat)} {s : List Nat} (I : St1 b ws n h s) : s.sum ≤ 49 := by
  have : ∀ x ∈ s, x ≤ 7 := fun x hx => by
    obtain ⟨i, hi⟩ := List.mem_iff_getElem?.mp hx
    have hin : i < n := by have := (List.getElem?_eq_some_iff.mp hi).1; have := I.sl; omega
    have h1 := I.inv.le i hin
    have h2 := (W.wl hin).len
    have : Sp s i = x := by unfold Sp; rw [hi]; rfl
    omega
  have h1 := sum_le7 this
  rw [I.sl] at h1
  have : n * 7 ≤ 7 * 7 := Nat.mul_le_mul_right _ hn
  omega
theorem st1_init (hl : ws.length = n) : St1 b ws n (List.replicate n none) (List.replicate n 0) := by
  refine ⟨by simp, by simp, (Inv.init b ws n).congr (fun k hk => ?_) fun k hk => ?_⟩
  · unfold hv; simp [hk]
  · unfold Sp; simp [hk]
def OneAsks (g : List Pl.W → Sto → Option (Pl.W × Sto)) (b : Bd) (ws : List (List Nat)) (n : Nat) : Prop := ∀ h s S, St1 b ws n h s →
  ((∀ p, p < n → hv h p = none → Sp s p = (wl ws p).length) ∧ g [.v b.e, .v (eW ws), .v (li oN h), .v (li nt s)] S = some (.v .none, S)) ∨
    (∃ h' s', St1 b ws n h' s' ∧ s'.sum = s.sum + 1 ∧ g [.v b.e, .v (eW ws), .v (li oN h), .v (li nt s)] S = some (.v (asPair h' s'), S))
structure Res (b : Bd) (ws : List (List Nat)) (n : Nat) (h : List (Option Nat)) (s : List Nat) : Prop where
  hl : h.length = n
  sl : s.length = n
  done : Done b ws n (hv h) (Sp s)
theorem gone_ev (W : Wf b ws n m) (hn : n ≤ 7) (hm : m ≤ 7) (ho : OneAsks (Γ f_one_asks) b ws n) : ∃ h s, Res b ws n h s ∧ runF Γ d_gone_through [.v b.e, .v (eW ws)] S = some (.v (asPair h s), S) := by
  have hwl := W.w.len
  suffices h : Ok (evB Γ b_gone_through [some (.v b.e), some (.v (eW ws)), none, none] S) fun o => ∃ h s, Res b ws n h s ∧ o = .rt (.v (asPair h s)) S by
    obtain ⟨o, e, h, s, R, rfl⟩ := h
    exact ⟨h, s, R, run_v0 rfl e⟩
  have m1 := mul_none (n := ws.length) (by omega)
  have m2 := mul_zero (n := ws.length) (by omega)
  have I0 : St1 b ws n (List.replicate ws.length none) (List.replicate ws.length 0) := by rw [hwl]; exact st1_init hwl
  have key : ∀ (m0 : Nat) η (S' : Sto), (S' = S ∧ ∃ h s, St1 b ws n h s ∧ ((η = [some (.v b.e), some (.v (eW ws)), some (.v (asPair h s)), some (.v .none)] ∧ ∀ p, p < n → hv h p = none → Sp s p = (wl ws p).length) ∨
      ∃ h' s', St1 b ws n h' s' ∧ η = [some (.v b.e), some (.v (eW ws)), some (.v (asPair h s)), some (.v (asPair h' s'))] ∧ m0 = 100 - s'.sum)) →
      Ok (evE Γ η (.isn true (.var 3)) S') fun p => (p.1 = .v (.bool false) ∧ nextB Γ (.cons (.ret (.var 2)) .nil) (fun o => ∃ h s, Res b ws n h s ∧ o = .rt (.v (asPair h s)) S) (.nx η p.2)) ∨
        (p.1 = .v (.bool true) ∧ 0 < m0 ∧ Ok (evB Γ (.cons (.asg 2 (.var 3)) (.cons s_gone_through_0 .nil)) η p.2) (loopP (nextB Γ (.cons (.ret (.var 2)) .nil) (fun o => ∃ h s, Res b ws n h s ∧ o = .rt (.v (asPair h s)) S)) fun η' S'' => ∃ m', m' < m0 ∧
          (S'' = S ∧ ∃ h s, St1 b ws n h s ∧ ((η' = [some (.v b.e), some (.v (eW ws)), some (.v (asPair h s)), some (.v .none)] ∧ ∀ p, p < n → hv h p = none → Sp s p = (wl ws p).length) ∨
      ∃ h' s', St1 b ws n h' s' ∧ η' = [some (.v b.e), some (.v (eW ws)), some (.v (asPair h s)), some (.v (asPair h' s'))] ∧ m' = 100 - s'.sum)))) := by
    rintro m0 η S' ⟨rfl, h, s, I, ⟨rfl, hfin⟩ | ⟨h', s', I', rfl, hm0⟩⟩
    · simp [nextB]
      exact ⟨h, s, ⟨I.hl, I.sl, ⟨I.inv, hfin⟩⟩, rfl⟩
    · have hs := I'.sum W hn hm
      have n0 : isNoneD (asPair h' s') = false := rfl
      have a0 : atD (asPair h' s') (.int 0) = some (li oN h') := at_c0 _ _
      have a1 : atD (asPair h' s') (.int 1) = some (li nt s') := at_c1 _ _ _
      rcases ho h' s' S' I' with ⟨hfin, e⟩ | ⟨h2, s2, I2, hsum, e⟩
      · simp [n0, s_gone_through_0, a0, a1, e, loopP]
        exact ⟨by omega, 0, by omega, h', s', I', .inl ⟨rfl, hfin⟩⟩
      · have hs2 := I2.sum W hn hm
        simp [n0, s_gone_through_0, a0, a1, e, loopP]
        exact ⟨by omega, 100 - s2.sum, by omega, h', s', I', .inr ⟨h2, s2, I2, ⟨rfl, rfl⟩, rfl⟩⟩
  have a0 : ∀ h s, atD (asPair h s) (.int 0) = some (li oN h) := fun h s => at_c0 _ _
  have a1 : ∀ h s, atD (asPair h s) (.int 1) = some (li nt s) := fun h s => at_c1 _ _ _
  have hp : PyData.tuple [li oN (List.replicate ws.length none), li nt (List.replicate ws.length 0)] = asPair (List.replicate ws.length none) (List.replicate ws.length 0) := rfl
  rcases ho _ _ S I0 with ⟨hfin, e⟩ | ⟨h2, s2, I2, hsum, e⟩
  · simp [b_gone_through, s_gone_through_3, m1, m2, hp, s_gone_through_2, a0, a1, e]
    refine ok_seq ?_
    unfold s_gone_through_1
    exact whl_core _ 0 (by decide) ⟨rfl, _, _, I0, .inl ⟨rfl, hfin⟩⟩ key
  · simp [b_gone_through, s_gone_through_3, m1, m2, hp, s_gone_through_2, a0, a1, e]
    refine ok_seq ?_
    unfold s_gone_through_1
    exact whl_core _ (100 - s2.sum) (Nat.lt_of_le_of_lt (Nat.sub_le _ _) (by decide)) ⟨rfl, _, _, I0, .inr ⟨_, _, I2, rfl, rfl⟩⟩ key
open Classical in
noncomputable def DP (b : Bd) (ws : List (List Nat)) : List (Option Nat) × List Nat := if h : ∃ p : List (Option Nat) × List Nat, Res b ws ws.length p.1 p.2 then choose h else ([], [])
/-- the dealing by asking, and how many posts each has asked -/
noncomputable def D (b : Bd) (ws : List (List Nat)) : List (Option Nat) := (DP b ws).1
noncomputable def DS (b : Bd) (ws : List (List Nat)) : List Nat := (DP b ws).2
open Classical in
theorem D_res (hl : ws.length = n) (h : ∃ h s, Res b ws n h s) : Res b ws n (D b ws) (DS b ws) := by
  obtain ⟨h, s, R⟩ := h
  subst hl
  have hex : ∃ p : List (Option Nat) × List Nat, Res b ws ws.length p.1 p.2 := ⟨(h, s), R⟩
  have e : DP b ws = choose hex := dif_pos hex
  unfold D DS
  rw [e]
  exact choose_spec hex
variable {T : List (Nat × Fd)} {k : Nat}
theorem oneAsks (h1 : T.lookup f_one_asks = some d_one_asks) (W : Wf b ws n m) (hn : n ≤ 7) : OneAsks (evF T (k + 1) f_one_asks) b ws n := fun h s S I => by
  rw [evF_of h1]
  exact one_asks_ev W hn I
/-- there is one, whatever the program -/
theorem D_ex (W : Wf b ws n m) (hn : n ≤ 7) (hm : m ≤ 7) : Res b ws n (D b ws) (DS b ws) := by
  refine D_res W.w.len ?_
  obtain ⟨h, s, R, _⟩ := gone_ev (Γ := evF [(f_one_asks, d_one_asks)] 1) (S := []) W hn hm (oneAsks rfl W hn)
  exact ⟨h, s, R⟩
theorem D_opt (W : Wf b ws n m) (hn : n ≤ 7) (hm : m ≤ 7) : Opt b ws n (hv (D b ws)) := (D_ex W hn hm).done.best W
end
end Pl


namespace Pl
open PySem Mt
section
variable {α : Type} {f : α → PyData} {D : Nat}
theorem fst_idx [BEq α] [LawfulBEq α] [DecidableEq α] [Inj f] (a : α) : ∀ xs : List α, fstIx (fun z => PyData.eqv z (f a)) (mp f xs) = if a ∈ xs then some (xs.idxOf a) else none
  | [] => rfl
  | x :: xs => by
    show (if PyData.eqv (f x) (f a) then some 0 else (fstIx _ (mp f xs)).map (· + 1)) = _
    rw [eqv_enc, fst_idx a xs]
    by_cases e : x = a
    · simp [e, List.idxOf_cons]
    · have e2 : ¬ a = x := fun q => e q.symm
      have e3 : (x == a) = false := by simp [e]
      by_cases h : a ∈ xs <;> simp [e, e2, h, List.idxOf_cons, e3]
theorem idx_li [BEq α] [LawfulBEq α] [DecidableEq α] [Inj f] [Enc f D] (hd : D < 64) (a : α) (xs : List α) : idxD (li f xs) (f a) = if a ∈ xs then some (nt (xs.idxOf a)) else none := by
  have h1 : shp (li f xs) = true := shp_enc (f := li f) (show D + 1 ≤ 64 from hd) xs
  have h2 : shp (f a) = true := shp_enc (f := f) (Nat.le_of_lt hd) a
  show (if shp (li f xs) && shp (f a) then (fstIx _ (mp f xs)).map _ else none) = _
  rw [h1, h2, fst_idx]
  by_cases h : a ∈ xs <;> simp [h]
theorem idx_tu [BEq α] [LawfulBEq α] [DecidableEq α] [Inj f] [Enc f D] (hd : D < 64) (a : α) (xs : List α) : idxD (tu f xs) (f a) = if a ∈ xs then some (nt (xs.idxOf a)) else none := by
  have h1 : shp (tu f xs) = true := shp_enc (f := tu f) (show D + 1 ≤ 64 from hd) xs
  have h2 : shp (f a) = true := shp_enc (f := f) (Nat.le_of_lt hd) a
  show (if shp (tu f xs) && shp (f a) then (fstIx _ (mp f xs)).map _ else none) = _
  rw [h1, h2, fst_idx]
  by_cases h : a ∈ xs <;> simp [h]
@[simp] theorem idx_liN (a : Nat) (xs : List Nat) : idxD (li nt xs) (.int (a : Int)) = if a ∈ xs then some (nt (xs.idxOf a)) else none := idx_li (f := nt) (by decide) a xs
@[simp] theorem idx_tuN (a : Nat) (xs : List Nat) : idxD (tu nt xs) (.int (a : Int)) = if a ∈ xs then some (nt (xs.idxOf a)) else none := idx_tu (f := nt) (by decide) a xs
@[simp] theorem idx_liO (a : Option Nat) (xs : List (Option Nat)) : idxD (li oN xs) (oN a) = if a ∈ xs then some (nt (xs.idxOf a)) else none := idx_li (f := oN) (by decide) a xs
@[simp] theorem co_ninO (a : Option Nat) (xs : List (Option Nat)) : coD .nin (oN a) (li oN xs) = some (!decide (a ∈ xs)) := by rw [co_ninL (f := oN) a xs (by decide)]; congr
@[simp] theorem co_inO (a : Option Nat) (xs : List (Option Nat)) : coD .isin (oN a) (li oN xs) = some (decide (a ∈ xs)) := by rw [co_inL (f := oN) a xs (by decide)]; congr
end
section
variable {α : Type} {f : α → PyData} {D : Nat}
@[simp] theorem co_neET [h : Enc f D] (xs : List α) (hd : D < 64) : coD .ne (tu f xs) (.tuple []) = some (!xs.isEmpty) := by
  have h1 : shp (.tuple []) = true := by decide
  have h2 : PyData.eqv (tu f xs) (.tuple []) = xs.isEmpty := by cases xs <;> simp [tu, mp, PyData.eqv, PyData.eqvAll]
  rw [co_neD (shp_enc (f := tu f) (show D + 1 ≤ 64 from hd) xs) h1, h2]
@[simp] theorem co_eqET [h : Enc f D] (xs : List α) (hd : D < 64) : coD .eq (tu f xs) (.tuple []) = some xs.isEmpty := by
  have h1 : shp (.tuple []) = true := by decide
  have h2 : PyData.eqv (tu f xs) (.tuple []) = xs.isEmpty := by cases xs <;> simp [tu, mp, PyData.eqv, PyData.eqvAll]
  rw [co_eqD (shp_enc (f := tu f) (show D + 1 ≤ 64 from hd) xs) h1, h2]
@[simp] theorem mp_setT (xs : List (List α)) (i : Nat) (a : List α) : (mp (tu f) xs).set i (tu f a) = mp (tu f) (xs.set i a) := mp_set xs i a
@[simp] theorem mp_setT0 (xs : List (List α)) (i : Nat) : (mp (tu f) xs).set i (.tuple []) = mp (tu f) (xs.set i []) := mp_set xs i []
@[simp] theorem co_neTuO (xs ys : List (Option Nat)) : coD .ne (tu oN xs) (tu oN ys) = some (!decide (xs = ys)) := by rw [co_ne (f := tu oN) xs ys (by decide)]
@[simp] theorem co_eqTuO (xs ys : List (Option Nat)) : coD .eq (tu oN xs) (tu oN ys) = some (decide (xs = ys)) := by rw [co_eq (f := tu oN) xs ys (by decide)]
end
def inl (ws : List (List Nat)) (p : Nat) : Option Nat → Bool
  | none => true
  | some q => decide (q ∈ wl ws p)
def lk (ws : List (List Nat)) (p : Nat) (x y : Option Nat) : Bool := inl ws p x && (!inl ws p y || decide (pos ws p x < pos ws p y))
section
variable {Γ : Fns} {S : Sto} {b : Bd} {ws : List (List Nat)} {n m : Nat}
theorem rank_ev {q p : Nat} {o : List Nat} (ho : b.orders[q]? = some o) (hp : p ∈ o) : runF Γ d_rank [.v b.e, .v (nt q), .v (nt p)] S = some (.v (nt (rk b q p + 1)), S) := by
  refine run_v0 rfl ?_
  show evB _ b_rank [some (.v b.e), some (.v (nt q)), some (.v (nt p))] S = _
  have : rk b q p = o.idxOf p := by unfold rk ord; rw [ho]; rfl
  simp [b_rank, s_rank_0, ho, hp, this]
variable {T : List (Nat × Fd)} {k : Nat}
theorem rank_all (h : T.lookup f_rank = some d_rank) (hb : b.Ok n m) {q p : Nat} (hq : q < m) (hp : p < n) (S : Sto) : evF T (k + 1) f_rank [.v b.e, .v (nt q), .v (nt p)] S = some (.v (nt (rk b q p + 1)), S) := by
  rw [evF_of h]
  obtain ⟨o, ho⟩ := get_of hb.ol hq
  exact rank_ev ho ((Ord.mem (hb.op o (List.mem_of_getElem? ho)) p).mpr hp)
end
end Pl


namespace Mt
open Pl
section
variable {b : Bd} {ws : List (List Nat)} {n m : Nat}
theorem wl_set {g p : Nat} {l : List Nat} (hg : g < ws.length) : wl (ws.set g l) p = if p = g then l else wl ws p := by
  unfold wl
  rw [List.getElem?_set]
  by_cases e : g = p
  · subst e
    simp [hg]
  · have : ¬ p = g := fun h => e h.symm
    simp [e, this]
theorem pos_set {g p : Nat} {l : List Nat} (hg : g < ws.length) (hp : p ≠ g) (x : Option Nat) : pos (ws.set g l) p x = pos ws p x := by
  cases x <;> simp [pos, wl_set hg, hp]
theorem set_wf (W : Wf b ws n m) {p : Nat} {l : List Nat} (hl : LOk m l) : Wf b (ws.set p l) n m :=
  ⟨W.b, by rw [List.length_set]; exact W.w.len, fun w hw => (List.mem_or_eq_of_mem_set hw).elim (W.w.ok w) fun e => by rw [e]; exact hl⟩
/-- one rank higher -/
theorem up {b' : Bd} (W : Wf b ws n m) (W' : Wf b' ws n m) (hn : n ≤ 7) (hm : m ≤ 7) {g : Nat} (hg : g < n) (hr : ∀ q, room b' q = room b q)
    (u1 : ∀ q p k, q < m → p < n → k < n → p ≠ g → k ≠ g → rk b' q k < rk b' q p → rk b q k < rk b q p) (u2 : ∀ q k, q < m → k < n → k ≠ g → rk b' q k < rk b' q g → rk b q k < rk b q g) :
    pos ws g (hv (D b' ws) g) ≤ pos ws g (hv (D b ws) g) := by
  have O := D_opt W hn hm
  have O' := D_opt W' hn hm
  have hgl : g < ws.length := by rw [W.w.len]; exact hg
  cases e : hv (D b ws) g with
  | none =>
    show _ ≤ (wl ws g).length
    cases e2 : hv (D b' ws) g with
    | none => exact Nat.le_refl _
    | some q => exact Nat.le_of_lt (pos_lt (O'.own g q hg e2))
  | some q =>
    have hq := O.own g q hg e
    have l1 : LOk m [q] := ⟨by simp, by simpa using W.mem hg hq⟩
    have W1 := set_wf (p := g) W' l1
    have O1 := D_opt W1 hn hm
    have F : Fair b' (ws.set g [q]) n (hv (D b ws)) := by
      refine ⟨fun p z hp hz => ?_, fun z => by rw [hr]; exact O.cap z, fun p k z hp hk hz hrk hzk => ?_⟩
      · rw [wl_set hgl]
        split
        · next e2 => subst e2; rw [e] at hz; cases hz; simp
        · exact O.own p z hp hz
      · by_cases e2 : k = g
        · subst e2
          rw [wl_set hgl, if_pos rfl] at hzk
          have : z = q := by simpa using hzk
          rw [this, e]
          exact Nat.le_refl _
        · rw [pos_set hgl e2, pos_set hgl e2]
          rw [wl_set hgl, if_neg e2] at hzk
          have hzm := W.mem hk hzk
          refine O.env p k z hp hk hz ?_ hzk
          by_cases e3 : p = g
          · subst e3; exact u2 z k hzm hk e2 hrk
          · exact u1 z p k hzm hp hk e3 e2 hrk
    have h1 : hv (D b' (ws.set g [q])) g = some q := by
      have := O1.opt _ F g hg
      rw [e] at this
      have e1 : pos (ws.set g [q]) g (some q) = 0 := by show (wl _ g).idxOf q = 0; rw [wl_set hgl, if_pos rfl]; simp
      rw [e1] at this
      cases e3 : hv (D b' (ws.set g [q])) g with
      | none =>
        rw [e3] at this
        have : (wl (ws.set g [q]) g).length ≤ 0 := this
        rw [wl_set hgl, if_pos rfl] at this
        simp at this
      | some z =>
        have := O1.own g z hg e3
        rw [wl_set hgl, if_pos rfl] at this
        rw [show z = q by simpa using this]
    exact truth W' W1 hg (fun p _ hpg => by rw [wl_set hgl, if_neg hpg]) O' O1 (fun l hl => ⟨_, D_opt (set_wf W' hl) hn hm⟩) h1 hq
end
end Mt


namespace Pl
open PySem Mt
theorem bools_mp : ∀ bs : List Bool, boolsOf (mp bo bs) = some bs
  | [] => rfl
  | b :: bs => by show (boolsOf (mp bo bs)).map (b :: ·) = _; rw [bools_mp bs]; rfl
@[simp] theorem any_li (bs : List Bool) : blD .any [li bo bs] = some (.bool (bs.any id)) := by
  show (boolsOf (mp bo bs)).bind _ = _
  rw [bools_mp]
  rfl
@[simp] theorem all_li (bs : List Bool) : blD .all [li bo bs] = some (.bool (bs.all id)) := by
  show (boolsOf (mp bo bs)).bind _ = _
  rw [bools_mp]
  rfl
theorem min2_ii (a b : Int) : blD .min2 [.int a, .int b] = some (.int (if b < a then b else a)) := rfl
theorem max2_ii (a b : Int) : blD .max2 [.int a, .int b] = some (.int (if b > a then b else a)) := rfl
@[simp] theorem min2_nn (a b : Nat) : blD .min2 [.int (a : Int), .int (b : Int)] = some (nt (min a b)) := by
  rw [min2_ii]
  congr 2
  split <;> omega
@[simp] theorem max2_nn (a b : Nat) : blD .max2 [.int (a : Int), .int (b : Int)] = some (nt (max a b)) := by
  rw [max2_ii]
  congr 2
  split <;> omega
end Pl


namespace Pl
open PySem Mt
theorem lm100 {k : Nat} (h : k ≤ 1000) : k ≤ lim := Nat.le_trans h (by decide)
theorem lt100 {k : Nat} (h : k < 1000) : k < lim := Nat.lt_of_lt_of_le h (by decide)
@[simp] theorem mp_appP (xs : List (Nat × Nat)) (a c : Nat) : mp (p2 nt nt) xs ++ [.tuple [.int (a : Int), .int (c : Int)]] = mp (p2 nt nt) (xs ++ [(a, c)]) := mp_app xs (a, c)
@[simp] theorem mp_appO (xs : List (Option Nat)) (a : Option Nat) : mp oN xs ++ [oN a] = mp oN (xs ++ [a]) := mp_app xs a
@[simp] theorem mp_appO1 (xs : List (Option Nat)) (a : Nat) : mp oN xs ++ [.int (a : Int)] = mp oN (xs ++ [some a]) := mp_app xs (some a)
@[simp] theorem mp_appO2 (xs : List (Option Nat)) : mp oN xs ++ [.none] = mp oN (xs ++ [none]) := mp_app xs none
theorem cnt_fold {α : Type} [BEq α] [LawfulBEq α] [DecidableEq α] {f : α → PyData} [Inj f] (a : α) (xs : List α) : ((mp f xs).filter fun z => PyData.eqv z (f a)).length = xs.count a := by
  induction xs with
  | nil => rfl
  | cons x xs ih =>
    show (List.filter _ (f x :: mp f xs)).length = _
    rw [List.filter_cons, eqv_enc, List.count_cons]
    by_cases e : x = a
    · subst e; simp [ih]
    · simp [e, ih]
@[simp] theorem cnt_tuO (a : Option Nat) (xs : List (Option Nat)) : cntD (tu oN xs) (oN a) = some (nt (xs.count a)) := by
  have h1 : shp (tu oN xs) = true := shp_enc (f := tu oN) (by decide) xs
  have h2 : shp (oN a) = true := shp_enc (f := oN) (by decide) a
  show (if shp (tu oN xs) && shp (oN a) then some (PyData.int (((mp oN xs).filter fun z => PyData.eqv z (oN a)).length : Nat)) else none) = _
  rw [h1, h2, cnt_fold]
  rfl
@[simp] theorem cnt_tuO1 (a : Nat) (xs : List (Option Nat)) : cntD (tu oN xs) (.int (a : Int)) = some (nt (xs.count (some a))) := cnt_tuO (some a) xs
section
variable {Γ : Fns} {S : Sto} {b : Bd} {ws : List (List Nat)} {n m : Nat}
theorem bd_get (hb : b.Ok n m) {q : Nat} (hq : q < m) : b.rooms[q]? = some (room b q) := by
  obtain ⟨r, hr⟩ := get_of hb.rl hq
  unfold room
  rw [hr]
  rfl
def Lranks (g : List Pl.W → Sto → Option (Pl.W × Sto)) (b : Bd) (n m : Nat) : Prop := ∀ p q S, p < n → q < m → g [.v b.e, .v (nt q), .v (nt p)] S = some (.v (nt (rk b q p + 1)), S)
theorem flat_len {α β : Type} {g : α → List β} {k : Nat} : ∀ {l : List α}, (∀ x ∈ l, (g x).length ≤ k) → (l.flatMap g).length ≤ l.length * k
  | [], _ => by simp
  | x :: l, h => by
    have := flat_len (l := l) fun y hy => h y (List.mem_cons_of_mem _ hy)
    have h1 := h x List.mem_cons_self
    rw [List.flatMap_cons, List.length_append, List.length_cons, Nat.add_mul]
    omega
end
end Pl


namespace Pl
open PySem Mt
theorem run_dr {Γ : Fns} {fd : Fd} {ws : List W} {d : PyData} {dk dk' : List PyData} {R R' : Sto} (hl : ws.length = fd.ps.length) (h : evB Γ fd.body (ws.map some ++ List.replicate (fd.ns.length - ws.length) none) (.lst dk :: R) = some (.rt (.v d) (.lst dk' :: (R ++ R')))) :
    runF Γ fd ws (.lst dk :: R) = some (.v d, .lst dk' :: R) := by
  unfold runF
  rw [if_pos hl, h, Option.bind_some]
  show some (W.v d, (Cell.lst dk' :: (R ++ R')).take (R.length + 1)) = _
  rw [List.take_succ_cons, List.take_left]
theorem run_dr0 {Γ : Fns} {fd : Fd} {ws : List W} {d : PyData} {dk dk' : List PyData} {R : Sto} (hl : ws.length = fd.ps.length) (h : evB Γ fd.body (ws.map some ++ List.replicate (fd.ns.length - ws.length) none) (.lst dk :: R) = some (.rt (.v d) (.lst dk' :: R))) :
    runF Γ fd ws (.lst dk :: R) = some (.v d, .lst dk' :: R) := by
  refine run_dr (R' := []) hl ?_
  rw [List.append_nil]
  exact h
@[simp] theorem co_ninTuO (a : List (Option Nat)) (xs : List (List (Option Nat))) : coD .nin (tu oN a) (li (tu oN) xs) = some (!decide (a ∈ xs)) := by rw [co_ninL (f := tu oN) a xs (by decide)]; congr
section
variable {b : Bd} {ws : List (List Nat)} {n m : Nat}
/-- a dealing -/
structure Dl (b : Bd) (ws : List (List Nat)) (n : Nat) (f : List (Option Nat)) : Prop where
  len : f.length = n
  own : ∀ p q, p < n → hv f p = some q → q ∈ wl ws p
  cap : ∀ q, taken n (hv f) q ≤ room b q
variable {T : List (Nat × Fd)} {k : Nat}
end
end Pl


namespace Pl
open PySem Mt
theorem ints_mp : ∀ xs : List Nat, intsOf (mp nt xs) = some (xs.map fun i : Nat => (i : Int))
  | [] => rfl
  | x :: xs => by show (intsOf (mp nt xs)).map _ = _; rw [ints_mp xs]; rfl
section
variable {Γ : Fns} {η : En} {S S' : Sto} {b : Bd} {ws : List (List Nat)} {n m : Nat}
theorem people_ev (hb : b.Ok n m) (m0 : 0 < m) : runF Γ d_people_of [.v b.e] S = some (.v (nt n), S) := by
  obtain ⟨o, ho⟩ := get_of hb.ol m0
  have hl := Ord.len (hb.op o (List.mem_of_getElem? ho))
  refine run_v0 rfl ?_
  show evB _ b_people_of [some (.v b.e)] S = _
  simp [b_people_of, s_people_of_0, ho, hl]
variable {T : List (Nat × Fd)} {k : Nat}
theorem people_all (h : T.lookup f_people_of = some d_people_of) (hb : b.Ok n m) (m0 : 0 < m) (S : Sto) : evF T (k + 1) f_people_of [.v b.e] S = some (.v (nt n), S) := by
  rw [evF_of h]
  exact people_ev hb m0
end
end Pl


namespace Pl
open PySem Mt
theorem hv_set {h : List (Option Nat)} {p : Nat} {x : Option Nat} (hp : p < h.length) (k : Nat) : hv (h.set p x) k = if k = p then x else hv h k := by
  unfold hv
  rw [List.getElem?_set]
  by_cases e : p = k
  · subst e; simp [hp]
  · have : ¬ k = p := fun q => e q.symm
    simp [e, this]
end Pl


namespace Pl
open PySem Mt
theorem ints_of_nts {zs : List Int} (h : ∀ z ∈ zs, ∃ n : Nat, z = (n : Int)) : ∃ ys : List Nat, zs = ys.map fun i : Nat => (i : Int) := by
  induction zs with
  | nil => exact ⟨[], rfl⟩
  | cons z zs ih =>
    obtain ⟨n, rfl⟩ := h z List.mem_cons_self
    obtain ⟨ys, rfl⟩ := ih fun w hw => h w (List.mem_cons_of_mem _ hw)
    exact ⟨n :: ys, rfl⟩
theorem sorted_core (xs : List Nat) : ∃ ys : List Nat, sortI (xs.map fun i : Nat => (i : Int)) = ys.map (fun i : Nat => (i : Int)) ∧ ys.Perm xs ∧ ys.Pairwise (· ≤ ·) := by
  have h1 : (sortI (xs.map fun i : Nat => (i : Int))).Perm (xs.map fun i : Nat => (i : Int)) := List.mergeSort_perm _ _
  have h2 : (sortI (xs.map fun i : Nat => (i : Int))).Pairwise (fun a b : Int => decide (a ≤ b) = true) := List.pairwise_mergeSort (fun a b c => by simp; omega) (fun a b => by simp; omega) _
  obtain ⟨ys, e⟩ := ints_of_nts (zs := sortI (xs.map fun i : Nat => (i : Int))) fun z hz => by
    obtain ⟨n, _, e⟩ := List.mem_map.mp (h1.mem_iff.mp hz)
    exact ⟨n, e.symm⟩
  refine ⟨ys, e, ?_, ?_⟩
  · rw [e] at h1
    have := h1.map Int.toNat
    simpa [List.map_map, Function.comp_def] using this
  · rw [e, List.pairwise_map] at h2
    exact h2.imp fun h => by simpa using h
theorem sorted_liA {xs : List Nat} (h : xs.length ≤ 1000000) : ∃ ys : List Nat, blD .sorted [li nt xs] = some (li nt ys) ∧ ys.Perm xs ∧ ys.Pairwise (· ≤ ·) := by
  obtain ⟨ys, e, h1, h2⟩ := sorted_core xs
  refine ⟨ys, ?_, h1, h2⟩
  show (match intsOf (mp nt xs) with | some ns => _ | none => _) = _
  rw [ints_mp]
  show (if (xs.map fun i : Nat => (i : Int)).length ≤ lim then some (PyData.list ((sortI (xs.map fun i : Nat => (i : Int))).map .int)) else none) = _
  rw [if_pos (by simpa using h), e, List.map_map]
  rfl
theorem sorted_tuA {xs : List Nat} (h : xs.length ≤ 1000000) : ∃ ys : List Nat, blD .sorted [tu nt xs] = some (li nt ys) ∧ ys.Perm xs ∧ ys.Pairwise (· ≤ ·) := by
  obtain ⟨ys, e, h1, h2⟩ := sorted_core xs
  refine ⟨ys, ?_, h1, h2⟩
  show (intsOf (mp nt xs)).bind _ = _
  rw [ints_mp]
  show (if (xs.map fun i : Nat => (i : Int)).length ≤ lim then some (PyData.list ((sortI (xs.map fun i : Nat => (i : Int))).map .int)) else none) = _
  rw [if_pos (by simpa using h), e, List.map_map]
  rfl
end Pl


namespace Pl
open PySem Mt
section
variable {Γ : Fns} {S : Sto} {T : List (Nat × Fd)} {k : Nat} {b : Bd} {ws : List (List Nat)} {n m : Nat}
theorem dr_small_board (h1 : T.lookup f_Ldraw = some d_Ldraw) (h2 : T.lookup f_Lone = some d_Lone) (h3 : T.lookup f_Lmixed = some d_Lmixed) (h4 : T.lookup f_Lnear = some d_Lnear) (h5 : T.lookup f_Lboard = some d_Lboard) (h6 : T.lookup f_Lsmall_board = some d_Lsmall_board) :
    Dr (evF T (k + 4) f_Lsmall_board) [] 2000 AnyP := fun dk R B hD hB => by
  have hli : PyData.list [.tuple [.int 2, .int 2], .tuple [.int 3, .int 2], .tuple [.int 3, .int 2], .tuple [.int 3, .int 3], .tuple [.int 4, .int 2], .tuple [.int 4, .int 3], .tuple [.int 4, .int 4], .tuple [.int 5, .int 3], .tuple [.int 5, .int 2]] = li (p2 nt nt) [(2, 2), (3, 2), (3, 2), (3, 3), (4, 2), (4, 3), (4, 4), (5, 3), (5, 2)] := rfl
  obtain ⟨_, dk1, e1, ⟨x, hx, rfl⟩, hD1⟩ := dr_one_li (T := T) (k := k + 1) h1 h2 (f := p2 nt nt) (xs := [(2, 2), (3, 2), (3, 2), (3, 3), (4, 2), (4, 3), (4, 4), (5, 3), (5, 2)]) (by decide) (by decide) dk R B hD (by omega)
  have hnm : 0 < x.1 ∧ x.1 ≤ 7 ∧ 0 < x.2 ∧ x.2 ≤ 4 := by
    have : ∀ x ∈ [(2, 2), (3, 2), (3, 2), (3, 3), (4, 2), (4, 3), (4, 4), (5, 3), (5, 2)], 0 < x.1 ∧ x.1 ≤ 7 ∧ 0 < x.2 ∧ x.2 ≤ 4 := by decide
    exact this x hx
  obtain ⟨n, m⟩ := x
  obtain ⟨n0, n4, m0, m3⟩ := hnm
  obtain ⟨_, dk2, e2, ⟨b, hb, rfl⟩, hD2⟩ := dr_board (T := T) (k := k) h1 h2 h3 h4 h5 n0 (show n ≤ 7 by omega) m0 (show m ≤ 7 by omega) dk1 R _ hD1 (by omega)
  have e1 : evF T (k + 3) f_Lone [.r 0, .v (li (p2 nt nt) [(2, 2), (3, 2), (3, 2), (3, 3), (4, 2), (4, 3), (4, 4), (5, 3), (5, 2)])] (.lst dk :: R) = some (.v (.tuple [nt n, nt m]), .lst dk1 :: R) := e1
  have e2 : evF T (k + 3) f_Lboard [.r 0, .v (nt n), .v (nt m)] (.lst dk1 :: R) = _ := e2
  refine ⟨_, dk2, ?_, ⟨b, n, m, n0, n4, m0, m3, hb, rfl⟩, hD2.mono (by omega)⟩
  rw [evF_of h6]
  refine run_dr0 rfl ?_
  show evB _ b_Lsmall_board [some (.r 0), none, none, none] (.lst dk :: R) = _
  simp [b_Lsmall_board, s_Lsmall_board_0, s_Lsmall_board_1, s_Lsmall_board_2, hli, e1, e2, short, lim]
end
end Pl


namespace Mt
open Pl
section
variable {b : Bd} {ws : List (List Nat)} {n m : Nat}
def gone (f : Nat → Option Nat) (people : List Nat) (q : Nat) : Nat := (people.map f).count (some q)
end
end Mt


namespace Pl
open PySem Mt
section
variable {Γ : Fns} {b : Bd} {ws : List (List Nat)} {n m : Nat}
theorem nd_sub : ∀ {l xs : List Nat}, l.Nodup → (∀ k ∈ l, k ∈ xs) → l.length ≤ xs.length
  | [], _, _, _ => Nat.zero_le _
  | x :: l, xs, h, hs => by
    obtain ⟨h1, h2⟩ := List.nodup_cons.mp h
    have hx := hs x List.mem_cons_self
    have ih := nd_sub (l := l) (xs := xs.erase x) h2 fun k hk => (List.mem_erase_of_ne (fun e => h1 (by rw [← e]; exact hk))).mpr (hs k (List.mem_cons_of_mem _ hk))
    have := List.length_erase_of_mem hx
    have := List.length_pos_of_mem hx
    simp only [List.length_cons]
    omega
/-- what is had: nothing, or a post of the own list -/
structure Hd (ws : List (List Nat)) (n : Nat) (h : List (Option Nat)) : Prop where
  len : h.length = n
  own : ∀ p q, p < n → hv h p = some q → q ∈ wl ws p
theorem Hd.set {h : List (Option Nat)} (H : Hd ws n h) {p q : Nat} (hp : p < n) (hq : q ∈ wl ws p) : Hd ws n (h.set p (some q)) := by
  have hl := H.len
  refine ⟨by rw [List.length_set]; exact hl, fun k z hk e => ?_⟩
  rw [hv_set (by omega)] at e
  by_cases h2 : k = p
  · rw [if_pos h2] at e
    cases e
    rw [h2]
    exact hq
  · rw [if_neg h2] at e
    exact H.own k z hk e
theorem Hd.sm (W : Wf b ws n m) (hn : n ≤ 7) (hm : m ≤ 7) {h : List (Option Nat)} (H : Hd ws n h) : Sm (tu oN h) (0 + 1) (7 * (0 + 1)) := sm_tu (f := oN) (M := 7) (fun x hx => sm_oN (by
  intro q hq
  subst hq
  obtain ⟨p, hp⟩ := List.mem_iff_getElem?.mp hx
  have hpl := (List.getElem?_eq_some_iff.mp hp).1
  rw [H.len] at hpl
  have := W.mem hpl (H.own p q hpl (by unfold hv; rw [hp]; rfl))
  omega)) (by rw [H.len]; exact hn)
end
end Pl


namespace Pl
open PySem
/-- loops of turns: one pattern of names, the deck goes on -/
theorem turns {Γ : Fns} {body : Bk} {Q : Out → Prop} {N c i : Nat} {η : En} {dk : List PyData} {R : Sto} {B : Nat} (E : En → Prop) (hN2 : N ≤ 1000) (hc : B + N * c ≤ mxB) (hE : E η) (hD : Dk0 dk B)
    (h : ∀ η dk R B' t, E η → Dk0 dk B' → B' + c ≤ B + N * c → t < N → Ok (evB Γ body (η.set i (some (.v (nt t)))) (.lst dk :: R)) fun o => ∃ η' dk' R', (o = .nx η' (.lst dk' :: R') ∨ o = .ct η' (.lst dk' :: R')) ∧ E η' ∧ Dk0 dk' (B' + c))
    (hi : ∀ η, E η → i < η.length)
    (k : ∀ η dk R, E η → Dk0 dk (B + N * c) → Q (.nx η (.lst dk :: R))) : Ok (evS Γ (.loop [i] false (.rng1 (.con (.int (N : Int)))) body) η (.lst dk :: R)) Q := by
  refine for1 (f := nt) (xs := List.range N) (fun pre η S => ∃ dk R, E η ∧ S = .lst dk :: R ∧ Dk0 dk (B + pre.length * c)) (it_rng (by simp) (by omega)) ⟨dk, R, hE, rfl, hD.mono (by omega)⟩ ?_ ?_
  · rintro pre t post η S hx ⟨dk, R, hE, rfl, hD⟩
    have hlen : pre.length < N := by
      have := congrArg List.length hx
      simp at this
      omega
    have hc : pre.length * c + c ≤ N * c := by
      have := Nat.mul_le_mul_right c (show pre.length + 1 ≤ N from hlen)
      rw [Nat.add_mul, Nat.one_mul] at this
      exact this
    refine ok_mono (h η dk R _ t hE hD (by omega) (List.mem_range.mp (by rw [hx]; simp))) fun o ⟨η', dk', R', ho, hE', hD'⟩ => ?_
    have e : (pre ++ [t]).length * c = pre.length * c + c := by simp [Nat.add_mul]
    rcases ho with rfl | rfl
    · exact ⟨dk', R', hE', rfl, hD'.mono (by omega)⟩
    · exact ⟨dk', R', hE', rfl, hD'.mono (by omega)⟩
  · rintro η S ⟨dk, R, hE, rfl, hD⟩
    rw [List.length_range] at hD
    exact k η dk R hE hD
end Pl


namespace Pl
open PySem Mt
structure Sz (d : PyData) (D N : Nat) : Prop where
  dep : d.depth ≤ D
  sho : d.showable = true
  sh : d.leavesShort 48 = true
  bu : d.bulk ≤ N
structure Szs (ds : List PyData) (D N : Nat) : Prop where
  dep : PyData.depthAll ds ≤ D
  sho : PyData.showableAll ds = true
  sh : PyData.leavesShortAll 48 ds = true
  bu : PyData.bulkAll ds ≤ N
theorem Sz.mono {d : PyData} {D N E M : Nat} (h : Sz d D N) (h1 : D ≤ E) (h2 : N ≤ M) : Sz d E M := ⟨Nat.le_trans h.dep h1, h.sho, h.sh, Nat.le_trans h.bu h2⟩
theorem Szs.mono {d : List PyData} {D N E M : Nat} (h : Szs d D N) (h1 : D ≤ E) (h2 : N ≤ M) : Szs d E M := ⟨Nat.le_trans h.dep h1, h.sho, h.sh, Nat.le_trans h.bu h2⟩
theorem szs_nil (D : Nat) : Szs [] D 0 := ⟨by simp [PyData.depthAll], rfl, rfl, by simp [PyData.bulkAll]⟩
theorem szs_cons {d : PyData} {ds : List PyData} {D N M : Nat} (h : Sz d D N) (k : Szs ds D M) : Szs (d :: ds) D (N + 1 + M) := by
  obtain ⟨h2, h3, h4, h5⟩ := h
  obtain ⟨k2, k3, k4, k5⟩ := k
  refine ⟨?_, by simp [PyData.showableAll, h3, k3], by simp [PyData.leavesShortAll, h4, k4], ?_⟩
  · simp only [PyData.depthAll]; omega
  · simp only [PyData.bulkAll]; omega
theorem Szs.head {d : PyData} {ds : List PyData} {D N : Nat} (h : Szs (d :: ds) D N) : Sz d D N ∧ Szs ds D N ∧ PyData.bulk d + 1 + PyData.bulkAll ds ≤ N := by
  obtain ⟨h2, h3, h4, h5⟩ := h
  simp only [PyData.depthAll] at h2
  simp only [PyData.showableAll, Bool.and_eq_true] at h3
  simp only [PyData.leavesShortAll, Bool.and_eq_true] at h4
  simp only [PyData.bulkAll] at h5
  exact ⟨⟨by omega, h3.1, h4.1, by omega⟩, ⟨by omega, h3.2, h4.2, by omega⟩, h5⟩
theorem Szs.mem {ds : List PyData} {D N : Nat} (h : Szs ds D N) : ∀ x ∈ ds, Sz x D N := by
  induction ds with
  | nil => intro x hx; cases hx
  | cons d ds ih =>
    intro x hx
    obtain ⟨h1, h2, _⟩ := h.head
    rcases List.mem_cons.mp hx with e | hx
    · rw [e]; exact h1
    · exact ih h2 x hx
theorem Szs.len {ds : List PyData} {D N : Nat} (h : Szs ds D N) : ds.length ≤ N := by
  have : ∀ l : List PyData, l.length ≤ PyData.bulkAll l := fun l => by
    induction l with
    | nil => exact Nat.le_refl _
    | cons d ds ih =>
      simp only [List.length_cons, PyData.bulkAll]
      omega
  exact Nat.le_trans (this ds) h.bu
theorem Szs.append {xs ys : List PyData} {D N M : Nat} (h : Szs xs D N) (k : Szs ys D M) : Szs (xs ++ ys) D (N + M) := by
  induction xs generalizing N with
  | nil => exact k.mono (Nat.le_refl _) (by omega)
  | cons d ds ih =>
    obtain ⟨h1, h2, h3⟩ := h.head
    have h4 : Szs ds D (PyData.bulkAll ds) := ⟨h2.dep, h2.sho, h2.sh, Nat.le_refl _⟩
    have h5 : Sz d D d.bulk := ⟨h1.dep, h1.sho, h1.sh, Nat.le_refl _⟩
    exact (szs_cons h5 (ih h4)).mono (Nat.le_refl _) (by omega)
theorem Szs.sub {xs ys : List PyData} {D N : Nat} (h : Szs (xs ++ ys) D N) : Szs xs D N ∧ Szs ys D N := by
  induction xs generalizing N with
  | nil => exact ⟨(szs_nil D).mono (Nat.le_refl _) (Nat.zero_le _), h⟩
  | cons d ds ih =>
    obtain ⟨h1, h2, h3⟩ := Szs.head (ds := ds ++ ys) h
    have h4 : Szs (ds ++ ys) D (PyData.bulkAll (ds ++ ys)) := ⟨h2.dep, h2.sho, h2.sh, Nat.le_refl _⟩
    obtain ⟨k1, k2⟩ := ih h4
    have h5 : Sz d D d.bulk := ⟨h1.dep, h1.sho, h1.sh, Nat.le_refl _⟩
    exact ⟨(szs_cons h5 k1).mono (Nat.le_refl _) (by omega), k2.mono (Nat.le_refl _) (by omega)⟩
theorem Szs.take {xs : List PyData} {D N : Nat} (h : Szs xs D N) (k : Nat) : Szs (xs.take k) D N := by
  rw [← List.take_append_drop k xs] at h
  exact h.sub.1
theorem Szs.drop {xs : List PyData} {D N : Nat} (h : Szs xs D N) (k : Nat) : Szs (xs.drop k) D N := by
  rw [← List.take_append_drop k xs] at h
  exact h.sub.2
theorem Sz.tup {ds : List PyData} {D N : Nat} (h : Sz (.tuple ds) D N) : Szs ds (D - 1) N ∧ 0 < D := by
  obtain ⟨h2, h3, h4, h5⟩ := h
  simp only [PyData.depth] at h2
  simp only [PyData.showable] at h3
  simp only [PyData.leavesShort] at h4
  simp only [PyData.bulk] at h5
  exact ⟨⟨by omega, h3, h4, h5⟩, by omega⟩
theorem Sz.repr {d : PyData} {D N : Nat} (h : Sz d D N) (hD : D ≤ 64) (hN : N ≤ 19000) : blD .repr [d] = some (.str d.shown) := by
  obtain ⟨h2, h3, h4, h5⟩ := h
  have hs : d.depth ≤ 64 := by omega
  have hl : d.shown.length ≤ lim := by
    have := PyData.shown_le_bulk 48 (by decide) d h4
    have e : lim = 1000000 := rfl
    omega
  show (if (d.showable && decide (d.depth ≤ 64) && decide (d.shown.length ≤ lim)) = true then some (PyData.str d.shown) else none) = _
  rw [if_pos (by simp [h3, hs, hl])]
def szb (D N : Nat) (d : PyData) : Bool := decide (d.depth ≤ D) && d.showable && d.leavesShort 48 && decide (d.bulk ≤ N)
theorem Sm.sz {d : PyData} {D N : Nat} (h : Sm d D N) (hs : d.leavesShort 48 = true) : Sz d D N := ⟨h.dep, h.sho, hs, h.bu⟩
mutual
theorem short_up : ∀ d : PyData, d.leavesShort 8 = true → d.leavesShort 48 = true
  | .none, _ => rfl
  | .bool _, _ => rfl
  | .int i, h => by
    simp only [PyData.leavesShort, decide_eq_true_eq] at h ⊢
    omega
  | .str x, h => by simpa only [PyData.leavesShort] using h
  | .list xs, h => by
    simp only [PyData.leavesShort] at h ⊢
    exact shorts_up xs h
  | .tuple xs, h => by
    simp only [PyData.leavesShort] at h ⊢
    exact shorts_up xs h
  | .dict kvs, h => by
    simp only [PyData.leavesShort] at h ⊢
    exact shortk_up kvs h
theorem shorts_up : ∀ ds : List PyData, PyData.leavesShortAll 8 ds = true → PyData.leavesShortAll 48 ds = true
  | [], _ => rfl
  | d :: ds, h => by
    simp only [PyData.leavesShortAll, Bool.and_eq_true] at h ⊢
    exact ⟨short_up d h.1, shorts_up ds h.2⟩
theorem shortk_up : ∀ ds : List (PyData × PyData), PyData.leavesShortKv 8 ds = true → PyData.leavesShortKv 48 ds = true
  | [], _ => rfl
  | (k, v) :: ds, h => by
    simp only [PyData.leavesShortKv, Bool.and_eq_true] at h ⊢
    exact ⟨⟨short_up k h.1.1, short_up v h.1.2⟩, shortk_up ds h.2⟩
end
theorem Sm.z {d : PyData} {D N : Nat} (h : Sm d D N) : Sz d D N := ⟨h.dep, h.sho, short_up d h.sh, h.bu⟩
theorem co_neNL (xs : List PyData) : coD .ne (.list xs) (.list []) = some (!xs.isEmpty) := by
  show (if (shp (.list xs) && shp (.list [])) = true then some (!PyData.eqv (.list xs) (.list [])) else some (!xs.isEmpty)) = _
  have : PyData.eqv (.list xs) (.list []) = xs.isEmpty := by cases xs <;> simp [PyData.eqv, PyData.eqvAll]
  rw [this]
  split <;> rfl
theorem tu_id (xs : List PyData) : tu id xs = .tuple xs := by show PyData.tuple (xs.map id) = _; rw [List.map_id]
end Pl
namespace Pl
open PySem Mt
section
variable {T : List (Nat × Fd)} {k : Nat}
theorem Szs.ex {xs : List PyData} {D N : Nat} (h : Szs xs D N) : Szs xs D (PyData.bulkAll xs) := ⟨h.dep, h.sho, h.sh, Nat.le_refl _⟩
theorem Sz.ex {x : PyData} {D N : Nat} (h : Sz x D N) : Sz x D x.bulk := ⟨h.dep, h.sho, h.sh, Nat.le_refl _⟩
theorem lm1000 {k : Nat} (h : k ≤ 10000) : k ≤ lim := Nat.le_trans h (by decide)
end
end Pl


namespace Pl
open PySem Mt
/-- whether a value is an int, and no bool, from a low one to a high one -/
def isI (lo hi : Int) : PyData → Bool
  | .int i => decide (lo ≤ i) && decide (i ≤ hi)
  | _ => false
def toN : PyData → Nat
  | .int i => i.toNat
  | _ => 0
theorem eraseDups_le : ∀ (k : Nat) (l : List Int), l.length ≤ k → l.eraseDups.length ≤ l.length
  | _, [], _ => Nat.le_refl _
  | k + 1, x :: l, h => by
    rw [List.eraseDups_cons, List.length_cons, List.length_cons]
    have h1 : (l.filter fun b => !b == x).length ≤ l.length := List.length_filter_le _ _
    have := eraseDups_le k (l.filter fun b => !b == x) (by simp at h; omega)
    omega
theorem eraseDups_nd : ∀ (k : Nat) (l : List Int), l.length ≤ k → (l.eraseDups.length = l.length ↔ l.Nodup)
  | _, [], _ => ⟨fun _ => List.nodup_nil, fun _ => rfl⟩
  | k + 1, x :: l, h => by
    simp only [List.length_cons] at h
    rw [List.eraseDups_cons, List.length_cons, List.length_cons, List.nodup_cons]
    have h1 : (l.filter fun b => !b == x).length ≤ l.length := List.length_filter_le _ _
    have h2 := eraseDups_le k (l.filter fun b => !b == x) (by omega)
    constructor
    · intro e
      have e2 : (l.filter fun b => !b == x).length = l.length := by omega
      have e3 := List.length_filter_eq_length_iff.mp e2
      have hx : x ∉ l := fun hm => by have := e3 x hm; simp at this
      refine ⟨hx, ?_⟩
      have e4 : (l.filter fun b => !b == x) = l := List.filter_eq_self.mpr e3
      rw [e4] at e
      exact (eraseDups_nd k l (by omega)).mp (by omega)
    · rintro ⟨hx, hn⟩
      have e4 : (l.filter fun b => !b == x) = l := List.filter_eq_self.mpr fun y hy => by
        have : y ≠ x := fun e => hx (by rw [← e]; exact hy)
        simp [this]
      rw [e4, (eraseDups_nd k l (by omega)).mpr hn]
theorem setI_len (l : List Int) : (setI l).length = l.eraseDups.length := by
  unfold setI sortI
  rw [List.length_mergeSort]
theorem setD_any {l : List Nat} (h : l.length < 64) : ∃ k : Nat, setD false (tu nt l) = some (nt k) ∧ (k = l.length ↔ l.Nodup) := by
  refine ⟨(setI (l.map fun i : Nat => (i : Int))).length, ?_, ?_⟩
  · unfold setD
    show (intsOf (mp nt l)).bind _ = _
    rw [ints_mp]
    show (if (l.map fun i : Nat => (i : Int)).length < 64 then some (PyData.int ((setI (l.map fun i : Nat => (i : Int))).length : Nat)) else none) = _
    rw [List.length_map, if_pos h]
  · rw [setI_len]
    have h1 := eraseDups_nd _ (l.map fun i : Nat => (i : Int)) (Nat.le_refl _)
    rw [List.length_map] at h1
    rw [h1]
    constructor
    · intro h
      exact (List.pairwise_map.mp h).imp fun hne e => hne (by rw [e])
    · intro h
      exact List.pairwise_map.mpr (h.imp fun hne e => hne (Int.ofNat_inj.mp e))
section
variable {Γ : Fns} {S : Sto}
theorem is_int_any {d : PyData} {lo hi : Int} : runF Γ d_is_integer [.v d, .v (.int lo), .v (.int hi)] S = some (.v (.bool (isI lo hi d)), S) := by
  refine run_v0 rfl ?_
  show evB Γ b_is_integer [some (.v d), some (.v (.int lo)), some (.v (.int hi))] S = _
  cases d with
  | int i =>
    have h1 : blD .isint [.int i] = some (.bool true) := rfl
    have h2 : blD .isbool [.int i] = some (.bool false) := rfl
    by_cases h : lo ≤ i <;> simp [b_is_integer, s_is_integer_0, h1, h2, h, isI]
  | bool b =>
    have h1 : blD .isint [.bool b] = some (.bool true) := rfl
    have h2 : blD .isbool [.bool b] = some (.bool true) := rfl
    simp [b_is_integer, s_is_integer_0, h1, h2, isI]
  | none => have h1 : blD .isint [.none] = some (.bool false) := rfl; simp [b_is_integer, s_is_integer_0, h1, isI]
  | str x => have h1 : blD .isint [.str x] = some (.bool false) := rfl; simp [b_is_integer, s_is_integer_0, h1, isI]
  | list x => have h1 : blD .isint [.list x] = some (.bool false) := rfl; simp [b_is_integer, s_is_integer_0, h1, isI]
  | tuple x => have h1 : blD .isint [.tuple x] = some (.bool false) := rfl; simp [b_is_integer, s_is_integer_0, h1, isI]
  | dict x => have h1 : blD .isint [.dict x] = some (.bool false) := rfl; simp [b_is_integer, s_is_integer_0, h1, isI]
end
end Pl
namespace Pl
open PySem Mt
def isT : PyData → Bool
  | .tuple _ => true
  | _ => false
@[simp] theorem bl_istup (d : PyData) : blD .istup [d] = some (.bool (isT d)) := by cases d <;> rfl
theorem isT_of {d : PyData} (h : isT d = true) : ∃ xs, d = .tuple xs := by
  cases d with
  | tuple xs => exact ⟨xs, rfl⟩
  | _ => cases h
theorem len_T (xs : List PyData) : blD .len [.tuple xs] = some (.int (xs.length : Int)) := rfl
def gt (xs : List PyData) (i : Nat) : PyData := xs[i]?.getD .none
section
variable {Γ : Fns} {S : Sto}
variable {T : List (Nat × Fd)} {k : Nat}
theorem is_int_all (h1 : T.lookup f_is_integer = some d_is_integer) (d : PyData) (lo hi : Int) (S : Sto) : evF T (k + 1) f_is_integer [.v d, .v (.int lo), .v (.int hi)] S = some (.v (.bool (isI lo hi d)), S) := by
  rw [evF_of h1]
  exact is_int_any
end
end Pl


namespace Pl
open PySem Mt
theorem isI_int {lo hi : Int} {x : PyData} (h : isI lo hi x = true) : ∃ i : Int, x = .int i ∧ lo ≤ i ∧ i ≤ hi := by
  cases x with
  | int i =>
    simp only [isI, Bool.and_eq_true, decide_eq_true_eq] at h
    exact ⟨i, rfl, h⟩
  | _ => cases h
end Pl


namespace Pl
open PySem Mt
/-- the groups one behind the other, each as the lot stands -/
def inOrd (gs : List (List Nat)) (lot : List Nat) : List Nat := gs.flatMap fun g => lot.filter fun p => decide (p ∈ g)
theorem inOrd_perm {lot : List Nat} (hl : lot.Nodup) : ∀ {gs : List (List Nat)}, gs.flatten.Nodup → (∀ x ∈ gs.flatten, x ∈ lot) → (inOrd gs lot).Perm gs.flatten
  | [], _, _ => List.Perm.refl _
  | g :: gs, h, hm => by
    rw [List.flatten_cons] at h hm ⊢
    obtain ⟨h1, h2, _⟩ := List.nodup_append.mp h
    have e : inOrd (g :: gs) lot = (lot.filter fun p => decide (p ∈ g)) ++ inOrd gs lot := rfl
    rw [e]
    refine List.Perm.append ?_ (inOrd_perm hl h2 fun x hx => hm x (List.mem_append_right _ hx))
    refine (List.perm_ext_iff_of_nodup (hl.filter _) h1).mpr fun a => ?_
    rw [List.mem_filter, decide_eq_true_eq]
    exact ⟨fun x => x.2, fun x => ⟨hm a (List.mem_append_left _ x), x⟩⟩
/-- all people in groups that are not empty, ascending -/
structure GOk (n : Nat) (gs : List (List Nat)) : Prop where
  perm : gs.flatten.Perm (List.range n)
  ne : ∀ g ∈ gs, g ≠ []
  up : ∀ g ∈ gs, g.Pairwise (· ≤ ·)
theorem flat_ge : ∀ l : List (List Nat), (∀ g ∈ l, g ≠ []) → l.length ≤ l.flatten.length
  | [], _ => Nat.le_refl _
  | g :: l, hn => by
    have h2 := flat_ge l fun x hx => hn x (List.mem_cons_of_mem _ hx)
    have h3 := List.length_pos_iff.mpr (hn g List.mem_cons_self)
    rw [List.flatten_cons, List.length_append, List.length_cons]
    omega
theorem GOk.len {n : Nat} {gs : List (List Nat)} (h : GOk n gs) : gs.length ≤ n := by
  have h2 := flat_ge gs h.ne
  rw [h.perm.length_eq, List.length_range] at h2
  exact h2
theorem GOk.lt {n : Nat} {gs : List (List Nat)} (h : GOk n gs) {g : List Nat} (hg : g ∈ gs) : ∀ x ∈ g, x < n := fun x hx =>
  List.mem_range.mp (h.perm.mem_iff.mp (List.mem_flatten.mpr ⟨g, hg, hx⟩))
theorem GOk.glen {n : Nat} {gs : List (List Nat)} (h : GOk n gs) {g : List Nat} (hg : g ∈ gs) : g.length ≤ n := by
  have hnd : gs.flatten.Nodup := h.perm.nodup_iff.mpr List.nodup_range
  obtain ⟨a, b, e⟩ := List.append_of_mem hg
  rw [e] at hnd
  simp only [List.flatten_append, List.flatten_cons] at hnd
  have h2 := (List.nodup_append.mp (List.nodup_append.mp hnd).2.1).1
  exact nodup_len n g h2 (h.lt hg)
theorem GOk.ord {n : Nat} {gs : List (List Nat)} (h : GOk n gs) {lot : List Nat} (hl : lot.Perm (List.range n)) : (inOrd gs lot).Perm (List.range n) :=
  (inOrd_perm (Ord.nodup hl) (h.perm.nodup_iff.mpr List.nodup_range) fun x hx => (Ord.mem hl x).mpr (List.mem_range.mp (h.perm.mem_iff.mp hx))).trans h.perm
section
variable {T : List (Nat × Fd)} {k : Nat} {n m : Nat}
/-- a draw: rooms, groups at each post -/
def eDraw (rooms : List Nat) (gss : List (List (List Nat))) : PyData := .tuple [tu nt rooms, tu (tu (tu nt)) gss]
structure DwOk (n m : Nat) (rooms : List Nat) (gss : List (List (List Nat))) : Prop where
  rl : rooms.length = m
  r3 : ∀ r ∈ rooms, r ≤ 3
  gl : gss.length = m
  gk : ∀ gs ∈ gss, GOk n gs
end
theorem DwOk.sm {n m : Nat} {rooms : List Nat} {gss : List (List (List Nat))} (h : DwOk n m rooms gss) (n7 : n ≤ 7) (m4 : m ≤ 4) : Sm (eDraw rooms gss) 4 300 := by
  have h1 : Sm (tu nt rooms) (0 + 1) (4 * (0 + 1)) := sm_tu (f := nt) (M := 4) (fun x hx => sm_nt (by have := h.r3 x hx; omega)) (by rw [h.rl]; exact m4)
  have h2 : Sm (tu (tu (tu nt)) gss) (0 + 1 + 1 + 1) (4 * (7 * (7 * (0 + 1) + 1) + 1)) := sm_tu (f := tu (tu nt)) (M := 4) (fun gs hg => sm_tu (f := tu nt) (M := 7) (fun g hg2 => sm_tu (f := nt) (M := 7) (fun x hx => sm_nt (by have := (h.gk gs hg).lt hg2 x hx; omega)) (Nat.le_trans ((h.gk gs hg).glen hg2) n7)) (Nat.le_trans (h.gk gs hg).len n7)) (by rw [h.gl]; exact m4)
  exact (sm_tup (sms_cons h1 (sms_cons h2 (sms_nil 0)))).mono (by decide) (by decide)
end Pl


namespace Pl
open PySem Mt
section
variable {Γ : Fns} {S : Sto} {b : Bd} {ws : List (List Nat)} {n m : Nat}
theorem Lwhole_any {d : PyData} {lo hi : Int} : runF Γ d_Lwhole [.v d, .v (.int lo), .v (.int hi)] S = some (.v (.bool (isI lo hi d)), S) := by
  refine run_v0 rfl ?_
  show evB Γ b_Lwhole [some (.v d), some (.v (.int lo)), some (.v (.int hi))] S = _
  cases d with
  | int i =>
    have h1 : blD .isint [.int i] = some (.bool true) := rfl
    have h2 : blD .isbool [.int i] = some (.bool false) := rfl
    by_cases h : lo ≤ i <;> simp [b_Lwhole, s_Lwhole_0, h1, h2, h, isI]
  | bool b =>
    have h1 : blD .isint [.bool b] = some (.bool true) := rfl
    have h2 : blD .isbool [.bool b] = some (.bool true) := rfl
    simp [b_Lwhole, s_Lwhole_0, h1, h2, isI]
  | none => have h1 : blD .isint [.none] = some (.bool false) := rfl; simp [b_Lwhole, s_Lwhole_0, h1, isI]
  | str x => have h1 : blD .isint [.str x] = some (.bool false) := rfl; simp [b_Lwhole, s_Lwhole_0, h1, isI]
  | list x => have h1 : blD .isint [.list x] = some (.bool false) := rfl; simp [b_Lwhole, s_Lwhole_0, h1, isI]
  | tuple x => have h1 : blD .isint [.tuple x] = some (.bool false) := rfl; simp [b_Lwhole, s_Lwhole_0, h1, isI]
  | dict x => have h1 : blD .isint [.dict x] = some (.bool false) := rfl; simp [b_Lwhole, s_Lwhole_0, h1, isI]
theorem flt_all {xs : List PyData} {p : PyData → Bool} : (xs.filter fun x => !p x).isEmpty = xs.all p := by
  induction xs with
  | nil => rfl
  | cons x xs ih => cases h : p x <;> simp [h, ih]
end
section
variable {T : List (Nat × Fd)} {k : Nat} {b : Bd} {n m : Nat}
theorem whole_all (h : T.lookup f_Lwhole = some d_Lwhole) (d : PyData) (lo hi : Int) (S : Sto) : evF T (k + 1) f_Lwhole [.v d, .v (.int lo), .v (.int hi)] S = some (.v (.bool (isI lo hi d)), S) := by
  rw [evF_of h]
  exact Lwhole_any
end
def plain (b : Bd) (n m : Nat) : Bd := ⟨b.rooms, List.replicate m (List.range n)⟩
section
variable {T : List (Nat × Fd)} {k : Nat} {b : Bd} {n m : Nat}
/-- a day: wishes, a dealing -/
def eDay (x : List (List Nat) × List (Option Nat)) : PyData := .tuple [eW x.1, tu oN x.2]
@[simp] theorem at_day0 (x : List (List Nat) × List (Option Nat)) : atD (eDay x) (.int 0) = some (eW x.1) := rfl
@[simp] theorem at_day1 (x : List (List Nat) × List (Option Nat)) : atD (eDay x) (.int 1) = some (tu oN x.2) := rfl
structure DayOk (b : Bd) (n m : Nat) (x : List (List Nat) × List (Option Nat)) : Prop where
  w : WOk n m x.1
  d : Dl b x.1 n x.2
end
theorem DayOk.sm {b : Bd} {n m : Nat} {x : List (List Nat) × List (Option Nat)} (h : DayOk b n m x) (hb : b.Ok n m) (n7 : n ≤ 7) (m7 : m ≤ 7) : Sm (eDay x) 3 70 := by
  have h1 := h.w.sm n7 m7
  have h2 := Hd.sm ⟨hb, h.w⟩ n7 m7 (h := x.2) ⟨h.d.len, h.d.own⟩
  exact (sm_tup (D := 2) (sms_cons (h1.mono (Nat.le_refl 2) (Nat.le_refl 56)) (sms_cons (h2.mono (E := 2) (M := 7) (by decide) (by decide)) (sms_nil 2)))).mono (by decide) (by decide)
end Pl


namespace Pl
open PySem Mt
theorem sorted_flt {l ys : List Nat} {n : Nat} (hn : l.Nodup) (hlt : ∀ x ∈ l, x < n) (hp : ys.Perm l) (hs : ys.Pairwise (· ≤ ·)) : ys = (List.range n).filter fun x => decide (x ∈ l) := by
  refine List.Perm.eq_of_pairwise (le := fun a b : Nat => a ≤ b) (fun a b _ _ => Nat.le_antisymm) hs (List.pairwise_le_range.filter _) (hp.trans ?_)
  refine (List.perm_ext_iff_of_nodup hn (List.nodup_range.filter _)).mpr fun a => ?_
  simp only [List.mem_filter, List.mem_range, decide_eq_true_eq]
  exact ⟨fun h => ⟨hlt a h, h⟩, fun h => h.2⟩
theorem sorted_tuF {l : List Nat} {n : Nat} (hn : l.Nodup) (hlt : ∀ x ∈ l, x < n) (hl : l.length ≤ 1000000) : blD .sorted [tu nt l] = some (li nt ((List.range n).filter fun x => decide (x ∈ l))) := by
  obtain ⟨ys, e, h1, h2⟩ := sorted_tuA hl
  rw [e, sorted_flt hn hlt h1 h2]
theorem sorted_liF {l : List Nat} {n : Nat} (hn : l.Nodup) (hlt : ∀ x ∈ l, x < n) (hl : l.length ≤ 1000000) : blD .sorted [li nt l] = some (li nt ((List.range n).filter fun x => decide (x ∈ l))) := by
  obtain ⟨ys, e, h1, h2⟩ := sorted_liA hl
  rw [e, sorted_flt hn hlt h1 h2]
theorem mem_take_idx {l : List Nat} (hn : l.Nodup) {x k : Nat} : x ∈ l.take k ↔ x ∈ l ∧ l.idxOf x < k := by
  induction l generalizing k with
  | nil => simp
  | cons a l ih =>
    obtain ⟨h1, h2⟩ := List.nodup_cons.mp hn
    cases k with
    | zero => simp
    | succ k =>
      rw [List.take_succ_cons, List.mem_cons, List.mem_cons, ih h2, List.idxOf_cons]
      by_cases e : x = a
      · subst e; simp
      · have e2 : (a == x) = false := by simp; exact fun q => e q.symm
        simp [e, e2]
theorem nd_dedup : ∀ (k : Nat) (l : List Int), l.length ≤ k → l.eraseDups.Nodup
  | _, [], _ => by simp
  | 0, _ :: _, h => by simp at h
  | k + 1, x :: l, h => by
    rw [List.eraseDups_cons, List.nodup_cons]
    refine ⟨fun hm => ?_, nd_dedup k _ (Nat.le_trans (List.length_filter_le _ _) (by simpa using h))⟩
    have := List.mem_eraseDups.mp hm
    simp at this
theorem setI_nts {l : List Nat} {n : Nat} (hlt : ∀ x ∈ l, x < n) : setI (l.map fun i : Nat => (i : Int)) = ((List.range n).filter fun x => decide (x ∈ l)).map fun i : Nat => (i : Int) := by
  have h0 : (setI (l.map fun i : Nat => (i : Int))).Perm (l.map fun i : Nat => (i : Int)).eraseDups := List.mergeSort_perm _ _
  have h2 : (setI (l.map fun i : Nat => (i : Int))).Pairwise (fun a b : Int => decide (a ≤ b) = true) := List.pairwise_mergeSort (fun a b c => by simp; omega) (fun a b => by simp; omega) _
  refine List.Perm.eq_of_pairwise (le := fun a b : Int => a ≤ b) (fun a b _ _ => Int.le_antisymm) (h2.imp fun h => by simpa using h) ?_ ?_
  · exact List.pairwise_map.mpr ((List.pairwise_le_range.filter _).imp fun h => by omega)
  · refine h0.trans ((List.perm_ext_iff_of_nodup (nd_dedup _ _ (Nat.le_refl _)) ?_).mpr fun a => ?_)
    · exact List.pairwise_map.mpr ((List.nodup_range.filter _).imp fun hne e => hne (Int.ofNat_inj.mp e))
    · rw [List.mem_eraseDups]
      simp only [List.mem_map, List.mem_filter, List.mem_range, decide_eq_true_eq]
      constructor
      · rintro ⟨x, hx, rfl⟩
        exact ⟨x, ⟨hlt x hx, hx⟩, rfl⟩
      · rintro ⟨x, ⟨_, hx⟩, rfl⟩
        exact ⟨x, hx, rfl⟩
theorem set_liF {l : List Nat} {n : Nat} (hlt : ∀ x ∈ l, x < n) (hl : l.length < 64) : setD true (li nt l) = some (li nt ((List.range n).filter fun x => decide (x ∈ l))) := by
  unfold setD
  show (intsOf (mp nt l)).bind _ = _
  rw [ints_mp]
  show (if (l.map fun i : Nat => (i : Int)).length < 64 then some (PyData.list ((setI (l.map fun i : Nat => (i : Int))).map .int)) else none) = _
  rw [List.length_map, if_pos hl, setI_nts hlt, List.map_map]
  rfl
/-- the people above, as they stand -/
def abv (b : Bd) (q p : Nat) : List Nat := (ord b q).take (rk b q p)
/-- .. ascending -/
def abS (b : Bd) (n q p : Nat) : List Nat := (List.range n).filter fun k => decide (rk b q k < rk b q p)
section
variable {b : Bd} {n m : Nat} {Γ : Fns} {S : Sto}
theorem ord_get (hb : b.Ok n m) {q : Nat} (hq : q < m) : b.orders[q]? = some (ord b q) := by
  obtain ⟨o, ho⟩ := get_of hb.ol hq
  unfold ord
  rw [ho]
  rfl
theorem ord_perm (hb : b.Ok n m) {q : Nat} (hq : q < m) : (ord b q).Perm (List.range n) := hb.op _ (List.mem_of_getElem? (ord_get hb hq))
theorem mem_abv (hb : b.Ok n m) {q p : Nat} (hq : q < m) {k : Nat} : k ∈ abv b q p ↔ k < n ∧ rk b q k < rk b q p := by
  unfold abv
  rw [mem_take_idx (Ord.nodup (ord_perm hb hq)), Ord.mem (ord_perm hb hq)]
  rfl
theorem abv_nd (hb : b.Ok n m) {q p : Nat} (hq : q < m) : (abv b q p).Nodup := (Ord.nodup (ord_perm hb hq)).sublist (List.take_sublist _ _)
theorem abv_len (hb : b.Ok n m) {q p : Nat} (hq : q < m) : (abv b q p).length ≤ n := nodup_len n _ (abv_nd hb hq) fun x hx => ((mem_abv hb hq).mp hx).1
theorem abS_eq (hb : b.Ok n m) {q p : Nat} (hq : q < m) : ((List.range n).filter fun x => decide (x ∈ abv b q p)) = abS b n q p := by
  unfold abS
  refine List.filter_congr fun k hk => ?_
  have := List.mem_range.mp hk
  simp [mem_abv hb hq, this]
theorem mem_abS {q p k : Nat} : k ∈ abS b n q p ↔ k < n ∧ rk b q k < rk b q p := by
  unfold abS
  simp
theorem above_ev (hb : b.Ok n m) (hn : n ≤ 7) {q p : Nat} (hq : q < m) (hp : p < n) : runF Γ d_above [.v b.e, .v (nt q), .v (nt p)] S = some (.v (tu nt (abS b n q p)), S) := by
  refine run_v0 rfl ?_
  show evB Γ b_above [some (.v b.e), some (.v (nt q)), some (.v (nt p)), none] S = _
  have hpo : p ∈ ord b q := (Ord.mem (ord_perm hb hq) p).mpr hp
  have e1 := sl_tu_to (f := nt) (ord b q) ((ord b q).idxOf p)
  have e2 := sorted_tuF (l := abv b q p) (n := n) (abv_nd hb hq) (fun x hx => ((mem_abv hb hq).mp hx).1) (by have := abv_len (p := p) hb hq; omega)
  rw [abS_eq hb hq] at e2
  have e3 : blD .sorted [tu nt ((ord b q).take ((ord b q).idxOf p))] = some (li nt (abS b n q p)) := e2
  have e4 : blD .tuple [li nt (abS b n q p)] = some (tu nt (abS b n q p)) := rfl
  simp [b_above, s_above_1, ord_get hb hq, s_above_0, hpo, e1, e3, e4]
theorem Labove_ev (hb : b.Ok n m) {q p : Nat} (hq : q < m) (hp : p < n) : runF Γ d_Labove [.v b.e, .v (nt q), .v (nt p)] S = some (.v (li nt (abv b q p)), S) := by
  refine run_v0 rfl ?_
  show evB Γ b_Labove [some (.v b.e), some (.v (nt q)), some (.v (nt p)), none] S = _
  have hpo : p ∈ ord b q := (Ord.mem (ord_perm hb hq) p).mpr hp
  have e1 := sl_li_to (f := nt) (ord b q) ((ord b q).idxOf p)
  have e2 : slD (li nt (ord b q)) none (some (((ord b q).idxOf p : Nat) : Int)) = some (li nt (abv b q p)) := e1
  simp [b_Labove, s_Labove_1, ord_get hb hq, s_Labove_0, hpo, e2]
end
def stepC (s : List Nat) (row : List Nat) : List (List Nat) := (s.drop (match row.getLast? with | some x => s.idxOf x + 1 | none => 0)).map fun x => row ++ [x]
def choS (s : List Nat) : Nat → List (List Nat)
  | 0 => [[]]
  | c + 1 => (choS s c).flatMap (stepC s)
def subs (s : List Nat) : List (List Nat) := (List.range' 1 s.length).flatMap (choS s)
def foldS (s : List Nat) : List (List Nat) := s.foldl (fun found q => found ++ found.map fun r => r ++ [q]) [[]]
def eR (r : List Nat) : PyData := .tuple [nt r.length, tu nt r]
structure Sub (s : List Nat) : Prop where
  srt : sortT ((foldS s).map eR) = ([] :: subs s).map eR
  sok : sortOk ((foldS s).map eR) = true
  mem : ∀ r ∈ subs s, (∀ x ∈ r, x ∈ s) ∧ r ≠ [] ∧ r.Nodup
  len : (subs s).length ≤ 15
  cho : ∀ c, c < 5 → (choS s c).length ≤ 6 ∧ ∀ r ∈ choS s c, r.length = c ∧ ∀ x ∈ r, x ∈ s
  fld : (foldS s).length ≤ 16
end Pl


namespace Pl
open PySem Mt
theorem sum_cast : ∀ xs : List Nat, (xs.map fun i : Nat => (i : Int)).sum = ((xs.sum : Nat) : Int)
  | [] => rfl
  | x :: xs => by simp [sum_cast xs]
theorem sum_li (xs : List Nat) : blD .sum [li nt xs] = some (nt xs.sum) := by
  show (intsOf (mp nt xs)).bind _ = _
  rw [ints_mp, Option.bind_some, sum_cast]
end Pl


namespace Mt
abbrev SHd := List (Option Nat)
structure Seat (places : List (List Nat)) (h : SHd) : Prop where
  len : h.length = places.length
  inj : ∀ i j p : Nat, h[i]? = some (some p) → h[j]? = some (some p) → i = j
  own : ∀ i p : Nat, h[i]? = some (some p) → p ∈ places[i]?.getD []
/-- a way: who sat at `at'` looks for another seat -/
structure Way (places : List (List Nat)) (slot : Nat) (h0 : SHd) (seen : List Nat) (a : Nat) (now : SHd) : Prop where
  len : now.length = places.length
  lt : a < places.length
  inj : ∀ i j p : Nat, i ≠ a → j ≠ a → now[i]? = some (some p) → now[j]? = some (some p) → i = j
  own : ∀ i p : Nat, now[i]? = some (some p) → p ∈ places[i]?.getD []
  fil : ∀ i : Nat, i ≠ a → (h0[i]? ≠ some none ∨ i = slot) → now[i]? ≠ some none
  old : ∀ p : Nat, p ∉ seen → ∀ i : Nat, now[i]? = some (some p) ↔ h0[i]? = some (some p)
  cur : ∀ p : Nat, now[a]? = some (some p) → p ∈ seen
  at0 : a = slot ∨ h0[a]? ≠ some none
  emp : ∀ i : Nat, i ≠ slot → h0[i]? = some none → now[i]? = some none
theorem Way.mono {places : List (List Nat)} {slot : Nat} {h0 : SHd} {seen seen' : List Nat} {a : Nat} {now : SHd} (h : Way places slot h0 seen a now) (k : ∀ p ∈ seen, p ∈ seen') : Way places slot h0 seen' a now :=
  ⟨h.len, h.lt, h.inj, h.own, h.fil, fun p hp => h.old p fun q => hp (k p q), fun p hp => k p (h.cur p hp), h.at0, h.emp⟩
structure Good (places : List (List Nat)) (slot : Nat) (h0 h : SHd) : Prop extends Seat places h where
  fil : ∀ i : Nat, (h0[i]? ≠ some none ∨ i = slot) → h[i]? ≠ some none
  emp : ∀ i : Nat, i ≠ slot → h0[i]? = some none → h[i]? = some none
variable {places : List (List Nat)} {slot : Nat} {h0 now : SHd} {seen : List Nat} {a : Nat}
theorem set_get {now : SHd} {a i : Nat} {p : Nat} (ha : a < now.length) : (now.set a (some p))[i]? = if i = a then some (some p) else now[i]? := by
  rw [List.getElem?_set]
  by_cases h : a = i
  · subst h; simp [ha]
  · have : ¬ i = a := fun e => h e.symm
    simp [h, this]
theorem mem_get {now : SHd} {p : Nat} : some p ∈ now ↔ ∃ i : Nat, now[i]? = some (some p) := by
  rw [List.mem_iff_getElem?]
theorem Way.found (h : Way places slot h0 seen a now) {p : Nat} (hp : p ∈ places[a]?.getD []) (hn : some p ∉ now) : Good places slot h0 (now.set a (some p)) := by
  have ha : a < now.length := by rw [h.len]; exact h.lt
  refine ⟨⟨by rw [List.length_set]; exact h.len, fun i j q hi hj => ?_, fun i q hi => ?_⟩, fun i hi => ?_, fun i hi he => ?_⟩
  · rw [set_get ha] at hi hj
    by_cases e1 : i = a <;> by_cases e2 : j = a
    · rw [e1, e2]
    · rw [if_pos e1] at hi
      rw [if_neg e2] at hj
      cases hi
      exact absurd (mem_get.mpr ⟨j, hj⟩) hn
    · rw [if_neg e1] at hi
      rw [if_pos e2] at hj
      cases hj
      exact absurd (mem_get.mpr ⟨i, hi⟩) hn
    · rw [if_neg e1] at hi
      rw [if_neg e2] at hj
      exact h.inj i j q e1 e2 hi hj
  · rw [set_get ha] at hi
    by_cases e1 : i = a
    · rw [if_pos e1] at hi
      cases hi
      rw [e1]
      exact hp
    · rw [if_neg e1] at hi
      exact h.own i q hi
  · rw [set_get ha]
    by_cases e1 : i = a
    · rw [if_pos e1]; simp
    · rw [if_neg e1]; exact h.fil i e1 hi
  · rw [set_get ha, if_neg ?_]
    · exact h.emp i hi he
    · rintro rfl
      rcases h.at0 with e | e
      · exact hi e
      · exact e he
theorem idx_some {now : SHd} {p : Nat} (h : some p ∈ now) : now[now.idxOf (some p)]? = some (some p) := by
  have hl := List.idxOf_lt_length_iff.mpr h
  rw [List.getElem?_eq_getElem hl]
  congr 1
  exact List.getElem_idxOf hl
theorem Way.push (h : Way places slot h0 seen a now) {p : Nat} (hp : p ∈ places[a]?.getD []) (hs : p ∉ seen) (hm : some p ∈ now) : Way places slot h0 (seen ++ [p]) (now.idxOf (some p)) (now.set a (some p)) ∧ h0[now.idxOf (some p)]? = some (some p) := by
  have ha : a < now.length := by rw [h.len]; exact h.lt
  have hj := idx_some hm
  have hjl := List.idxOf_lt_length_iff.mpr hm
  generalize now.idxOf (some p) = j at *
  have hja : j ≠ a := by
    rintro rfl
    exact hs (h.cur p hj)
  have h0j := (h.old p hs j).mp hj
  refine ⟨⟨by rw [List.length_set]; exact h.len, by rw [← h.len]; exact hjl, fun i k q hi hk e1 e2 => ?_, fun i q hi => ?_, fun i hi hf => ?_, fun q hq i => ?_, fun q hq => ?_, .inr (by rw [h0j]; simp), fun i hi he => ?_⟩, h0j⟩
  · rw [set_get ha] at e1 e2
    by_cases c1 : i = a <;> by_cases c2 : k = a
    · rw [c1, c2]
    · rw [if_pos c1] at e1
      rw [if_neg c2] at e2
      cases e1
      exact absurd (h.inj k j p c2 hja e2 hj) hk
    · rw [if_neg c1] at e1
      rw [if_pos c2] at e2
      cases e2
      exact absurd (h.inj i j p c1 hja e1 hj) hi
    · rw [if_neg c1] at e1
      rw [if_neg c2] at e2
      exact h.inj i k q c1 c2 e1 e2
  · rw [set_get ha] at hi
    by_cases c1 : i = a
    · rw [if_pos c1] at hi
      cases hi
      rw [c1]
      exact hp
    · rw [if_neg c1] at hi
      exact h.own i q hi
  · rw [set_get ha]
    by_cases c1 : i = a
    · rw [if_pos c1]; simp
    · rw [if_neg c1]; exact h.fil i c1 hf
  · have hq' : q ∉ seen := fun z => hq (List.mem_append_left _ z)
    have hqp : q ≠ p := fun e => hq (by rw [e]; simp)
    rw [set_get ha]
    by_cases c1 : i = a
    · rw [if_pos c1]
      constructor
      · intro e; cases e; exact absurd rfl hqp
      · intro e
        rw [c1] at e
        exact absurd (h.cur q ((h.old q hq' a).mpr e)) hq'
    · rw [if_neg c1]
      exact h.old q hq' i
  · rw [set_get ha, if_neg hja, hj] at hq
    cases hq
    simp
  · rw [set_get ha, if_neg ?_]
    · exact h.emp i hi he
    · rintro rfl
      rcases h.at0 with e | e
      · exact hi e
      · exact e he
end Mt


namespace Pl
open PySem Mt
def slotsOf (b : Bd) (posts : List Nat) : List Nat := posts.flatMap fun q => List.replicate (room b q) q
def plcs (b : Bd) (n p : Nat) (posts : List Nat) : List (List Nat) := (slotsOf b posts).map fun q => abS b n q p
def srt (m : Nat) (posts : List Nat) : List Nat := (List.range m).filter fun q => decide (q ∈ posts)
section
variable {b : Bd} {n m p : Nat} {posts : List Nat}
theorem plcs_len : (plcs b n p posts).length = (slotsOf b posts).length := List.length_map _
theorem plcs_get {v : Nat} (h : v < (slotsOf b posts).length) : (plcs b n p posts)[v]?.getD [] = abS b n ((slotsOf b posts)[v]?.getD 0) p := by
  unfold plcs
  rw [List.getElem?_map, List.getElem?_eq_getElem h]
  rfl
def pers (h : SHd) (v : Nat) : Nat := (h[v]?.join).getD 0
theorem full_get {h : SHd} {L : Nat} (hl : h.length = L) (hf : ∀ i : Nat, i < L → h[i]? ≠ some none) {v : Nat} (hv : v < L) : h[v]? = some (some (pers h v)) := by
  have h1 : h[v]? = some (h[v]'(by omega)) := List.getElem?_eq_getElem (by omega)
  have h2 := hf v hv
  unfold pers
  rw [h1] at h2 ⊢
  cases e : h[v]'(by omega) with
  | none => rw [e] at h2; exact absurd rfl h2
  | some x => rfl
structure Full (b : Bd) (n p : Nat) (posts : List Nat) (h : SHd) : Prop extends Seat (plcs b n p posts) h where
  full : ∀ i : Nat, i < (slotsOf b posts).length → h[i]? ≠ some none
theorem Full.get {h : SHd} (F : Full b n p posts h) {v : Nat} (hv : v < (slotsOf b posts).length) : h[v]? = some (some (pers h v)) := full_get (F.len.trans plcs_len) F.full hv
theorem Full.ab {h : SHd} (F : Full b n p posts h) {v : Nat} (hv : v < (slotsOf b posts).length) : pers h v ∈ abS b n ((slotsOf b posts)[v]?.getD 0) p := by
  have := F.own v _ (F.get hv)
  rwa [plcs_get hv] at this
theorem Full.nd {h : SHd} (F : Full b n p posts h) (f : Nat → Bool) : (((List.range (slotsOf b posts).length).filter f).map (pers h)).Nodup := by
  refine List.pairwise_map.mpr ?_
  have : ((List.range (slotsOf b posts).length).filter f).Nodup := List.nodup_range.filter _
  refine List.Pairwise.imp_of_mem (fun {x y} hx hy hne e => hne ?_) this
  have h1 := F.get (List.mem_range.mp (List.mem_filter.mp hx).1)
  have h2 := F.get (List.mem_range.mp (List.mem_filter.mp hy).1)
  rw [e] at h1
  exact F.inj x y _ h1 h2
end
end Pl


namespace Pl
open PySem Mt
section
variable {T : List (Nat × Fd)} {k : Nat} {b : Bd} {n m p : Nat}
theorem Labove_all (h : T.lookup f_Labove = some d_Labove) (hb : b.Ok n m) {q : Nat} (hq : q < m) (hp : p < n) (S : Sto) : evF T (k + 1) f_Labove [.v b.e, .v (nt q), .v (nt p)] S = some (.v (li nt (abv b q p)), S) := by
  rw [evF_of h]; exact Labove_ev hb hq hp
end
end Pl


namespace Pl
open PySem Mt
theorem range_pre {n t : Nat} {pre post : List Nat} (h : List.range n = pre ++ t :: post) : t = pre.length := by
  have h1 : (List.range n)[pre.length]? = some t := by rw [h]; simp
  have h2 : pre.length < n := by have := congrArg List.length h; simp at this; omega
  rw [List.getElem?_range h2] at h1
  exact (Option.some.inj h1).symm
end Pl


namespace Pl
open PySem Mt
theorem LOk.take {m : Nat} {l : List Nat} (h : LOk m l) (k : Nat) : LOk m (l.take k) := ⟨h.1.sublist (List.take_sublist _ _), fun x hx => h.2 x (List.mem_of_mem_take hx)⟩
section
variable {T : List (Nat × Fd)} {k : Nat} {b : Bd} {n m p : Nat}
theorem ev_lrngN {Γ : Fns} {η : En} {S S' : Sto} {e : Ex} {j : Nat} (h : evE Γ η e S = some (.v (nt j), S')) (hj : j ≤ 1000) : evE Γ η (.lrng false (.rng1 e)) S = some (.v (li nt (List.range j)), S') := by
  have := it_rng h (by omega)
  have hl : ((List.range j).map nt).length ≤ lim := lm100 (by simp; exact hj)
  rw [evE, this]
  simp only [Option.bind_eq_bind, Option.bind_some, if_pos hl]
  rfl
end
end Pl


namespace Pl
open PySem Mt
theorem turnsR {Γ : Fns} {body : Bk} {Q : Out → Prop} {N c i : Nat} {η : En} {dk : List PyData} {R : Sto} {B : Nat} (E : Nat → En → Sto → Prop) (hN2 : N ≤ 1000) (hc : B + N * c ≤ mxB) (hE : E 0 η R) (hD : Dk0 dk B)
    (h : ∀ η dk R B' t, E t η R → Dk0 dk B' → B' + c ≤ B + N * c → t < N → Ok (evB Γ body (η.set i (some (.v (nt t)))) (.lst dk :: R)) fun o => ∃ η' dk' R', (o = .nx η' (.lst dk' :: R') ∨ o = .ct η' (.lst dk' :: R')) ∧ E (t + 1) η' R' ∧ Dk0 dk' (B' + c))
    (k : ∀ η dk R, E N η R → Dk0 dk (B + N * c) → Q (.nx η (.lst dk :: R))) : Ok (evS Γ (.loop [i] false (.rng1 (.con (.int (N : Int)))) body) η (.lst dk :: R)) Q := by
  refine for1 (f := nt) (xs := List.range N) (fun pre η S => ∃ dk R, E pre.length η R ∧ S = .lst dk :: R ∧ Dk0 dk (B + pre.length * c)) (it_rng (by simp) (by omega)) ⟨dk, R, hE, rfl, hD.mono (by omega)⟩ ?_ ?_
  · rintro pre t post η S hx ⟨dk, R, hE, rfl, hD⟩
    have ht := range_pre hx
    subst ht
    have hlen : pre.length < N := by
      have := congrArg List.length hx
      simp at this
      omega
    have hc : pre.length * c + c ≤ N * c := by
      have := Nat.mul_le_mul_right c (show pre.length + 1 ≤ N from hlen)
      rw [Nat.add_mul, Nat.one_mul] at this
      exact this
    refine ok_mono (h η dk R _ pre.length hE hD (by omega) hlen) fun o ⟨η', dk', R', ho, hE', hD'⟩ => ?_
    have e : (pre ++ [pre.length]).length * c = pre.length * c + c := by simp [Nat.add_mul]
    have e2 : (pre ++ [pre.length]).length = pre.length + 1 := by simp
    rcases ho with rfl | rfl
    · exact ⟨dk', R', by rw [e2]; exact hE', rfl, hD'.mono (by omega)⟩
    · exact ⟨dk', R', by rw [e2]; exact hE', rfl, hD'.mono (by omega)⟩
  · rintro η S ⟨dk, R, hE, rfl, hD⟩
    rw [List.length_range] at hE hD
    exact k η dk R hE hD
/-- a law that notes: the deck and an empty list are made, then the rest -/
theorem law_pre2 {T : List (Nat × Fd)} {k li : Nat} {ns : List Int} {fd : Fd} {rest : Bk} (hdk : T.lookup f_Ldeck = some d_Ldeck) (hlaw : T.lookup li = some fd) (hps : fd.ps.length = 1) (hfr : fd.fr = false) (h3 : 3 ≤ fd.ns.length)
    (hb : fd.body = .cons (.par [.nm 1, .nm 2] (.cons (.call f_Ldeck (.cons (.var 0) .nil)) (.cons (.cell (.lst .nil)) .nil))) rest)
    (h : ∀ dk : List PyData, Dk0 dk 0 → Ok (evB (evF T (k + 1)) rest (some (.s ns) :: some (.r 0) :: some (.r 1) :: List.replicate (fd.ns.length - 3) none) [.lst dk, .lst []]) fun o => ∃ S', o = .rt (.v (.bool true)) S') :
    ∃ S', evF T (k + 2) li [.s ns] [] = some (.v (.bool true), S') := by
  rw [evF_of hlaw]
  suffices h : Ok (runF (evF T (k + 1)) fd [.s ns] []) fun p => p.1 = .v (.bool true) by
    obtain ⟨⟨w, S'⟩, e, rfl⟩ := h
    exact ⟨S', e⟩
  refine run_ok (by rw [hps]; rfl) ?_
  rw [hb]
  obtain ⟨xs, hx, e0⟩ := deck_ok (Γ := evF T k) (S := []) (ns := ns)
  have e1 : evF T (k + 1) f_Ldeck [.s ns] [] = some (.r 0, [Cell.lst [.list (xs.map .int), .int 0, .int 0, .int 0]]) := by
    rw [evF_of hdk, e0]
    rfl
  have hr : List.replicate (fd.ns.length - 1) (none : Option W) = none :: none :: List.replicate (fd.ns.length - 3) none := by
    rw [show fd.ns.length - 1 = fd.ns.length - 3 + 1 + 1 by omega, List.replicate_succ, List.replicate_succ]
  simp [hr, e1]
  refine ok_mono (h _ ⟨xs, 0, 0, 0, rfl, hx, by omega, by omega⟩) fun o ⟨S', e⟩ => ?_
  subst e
  simp [fin, ok_some_iff]
theorem range_lt (n : Nat) : (List.range n).Pairwise (· < ·) := List.pairwise_lt_range
theorem asc_filter {l : List Nat} {n : Nat} (h : l.Pairwise (· < ·)) (hlt : ∀ x ∈ l, x < n) : (List.range n).filter (fun x => decide (x ∈ l)) = l := by
  refine List.Perm.eq_of_pairwise (le := fun a b : Nat => a ≤ b) (fun a b _ _ => Nat.le_antisymm) (List.pairwise_le_range.filter _) (h.imp Nat.le_of_lt) ?_
  refine (List.perm_ext_iff_of_nodup (List.nodup_range.filter _) (h.imp Nat.ne_of_lt)).mpr fun a => ?_
  simp only [List.mem_filter, List.mem_range, decide_eq_true_eq]
  exact ⟨fun z => z.2, fun z => ⟨hlt a z, z⟩⟩
theorem set_tuF {l : List Nat} {n : Nat} (hlt : ∀ x ∈ l, x < n) (hl : l.length < 64) : setD true (tu nt l) = some (li nt ((List.range n).filter fun x => decide (x ∈ l))) := set_liF hlt hl
end Pl


namespace Mt
open PySem Pl
structure Far (b : Bd) (p a c : Nat) : Prop where
  ne : a ≠ c
  ra : 0 < room b a
  rc : 0 < room b c
  gt : room b a + room b c < rk b c p + 1
  ap : rk b a p + 1 < rk b c p ∨ rk b c p + 1 < rk b a p
/-- the people above x at q but for three -/
def upN (b : Bd) (q x : Nat) (tr : List Nat) : List Nat := ((ord b q).take (rk b q x)).filter fun z => !decide (z ∈ tr)
structure Scarce (b : Bd) (a c i j k : Nat) : Prop where
  ij : rk b a i < rk b a j
  jk : rk b a j < rk b a k
  ki : rk b c k ≤ rk b c i
  one : room b a - 1 ≤ (upN b a j [i, j, k]).length
  two : room b c - 1 ≤ (upN b c i [i, j, k]).length
  all : ∀ l : List Nat, l.Nodup → (∀ x, x ∈ l ↔ x ∈ upN b a j [i, j, k] ++ upN b c i [i, j, k]) → (room b a - 1) + (room b c - 1) ≤ l.length
theorem ex_max (f : Nat → Nat) : ∀ {l : List Nat}, l ≠ [] → ∃ w ∈ l, ∀ x ∈ l, f x ≤ f w
  | [x], _ => ⟨x, List.mem_cons_self, fun y hy => by rw [List.mem_singleton.mp hy]; exact Nat.le_refl _⟩
  | x :: y :: l, _ => by
    obtain ⟨w, h1, h2⟩ := ex_max f (l := y :: l) (by simp)
    by_cases h : f w ≤ f x
    · refine ⟨x, List.mem_cons_self, fun z hz => ?_⟩
      rcases List.mem_cons.mp hz with rfl | hz
      · exact Nat.le_refl _
      · exact Nat.le_trans (h2 z hz) h
    · refine ⟨w, List.mem_cons_of_mem _ h1, fun z hz => ?_⟩
      rcases List.mem_cons.mp hz with rfl | hz
      · omega
      · exact h2 z hz
section
variable {b : Bd} {n m : Nat}
theorem rk_injB (hb : b.Ok n m) {q x y : Nat} (hq : q < m) (hx : x < n) (hy : y < n) (e : rk b q x = rk b q y) : x = y := by
  have ho := ord_get hb hq
  have hP := hb.op _ (List.mem_of_getElem? ho)
  have h1 := get_idx ((Ord.mem hP x).mpr hx)
  have h2 := get_idx ((Ord.mem hP y).mpr hy)
  have e : (ord b q).idxOf x = (ord b q).idxOf y := e
  rw [e, h2] at h1
  exact (Option.some.inj h1).symm
theorem rk_lt (hb : b.Ok n m) {q x : Nat} (hq : q < m) (hx : x < n) : rk b q x < n := by
  have ho := ord_get hb hq
  have hP := hb.op _ (List.mem_of_getElem? ho)
  have h1 := List.idxOf_lt_length_of_mem ((Ord.mem hP x).mpr hx)
  rw [Ord.len hP] at h1
  exact h1
theorem mem_up (hb : b.Ok n m) {q x z : Nat} (hq : q < m) : z ∈ (ord b q).take (rk b q x) ↔ z < n ∧ rk b q z < rk b q x := by
  have ho := ord_get hb hq
  have hP := hb.op _ (List.mem_of_getElem? ho)
  rw [List.mem_take_iff_getElem]
  constructor
  · rintro ⟨i, hi, e⟩
    have hzm : z ∈ ord b q := by rw [← e]; exact List.getElem_mem _
    have : rk b q z = i := by
      show (ord b q).idxOf z = i
      rw [← e]
      exact idx_get (Ord.nodup hP) _
    exact ⟨(Ord.mem hP z).mp hzm, by omega⟩
  · rintro ⟨h1, h2⟩
    have hzm := (Ord.mem hP z).mpr h1
    have hl := List.idxOf_lt_length_of_mem hzm
    exact ⟨rk b q z, by have : rk b q z < (ord b q).length := hl; omega, List.getElem_idxOf hl⟩
theorem up_len (hb : b.Ok n m) {q x : Nat} (hq : q < m) (hx : x < n) : ((ord b q).take (rk b q x)).length = rk b q x ∧ ((ord b q).take (rk b q x)).Nodup := by
  have ho := ord_get hb hq
  have hP := hb.op _ (List.mem_of_getElem? ho)
  have := rk_lt hb hq hx
  refine ⟨by rw [List.length_take, Ord.len hP]; omega, (Ord.nodup hP).sublist (List.take_sublist _ _)⟩
theorem mem_upN (hb : b.Ok n m) {q x z : Nat} {tr : List Nat} (hq : q < m) : z ∈ upN b q x tr ↔ (z < n ∧ rk b q z < rk b q x) ∧ z ∉ tr := by
  unfold upN
  rw [List.mem_filter, mem_up hb hq]
  simp
/-- many people: one of them has a great rank -/
theorem great (hb : b.Ok n m) {q Q : Nat} (hq : q < m) {l : List Nat} (hn : l.Nodup) (hl : ∀ x ∈ l, x < n) (hQ : Q < l.length) : ∃ w ∈ l, Q ≤ rk b q w ∧ ∀ x ∈ l, rk b q x ≤ rk b q w := by
  have hne : l ≠ [] := fun e => by rw [e] at hQ; cases hQ
  obtain ⟨w, h1, h2⟩ := ex_max (rk b q) hne
  refine ⟨w, h1, ?_, h2⟩
  by_cases h : Q ≤ rk b q w
  · exact h
  · exfalso
    have hnd : (l.map (rk b q)).Nodup := by
      rw [List.nodup_iff_pairwise_ne, List.pairwise_map]
      exact List.Pairwise.imp_of_mem (fun {x y} hx hy hne e => hne (rk_injB hb hq (hl x hx) (hl y hy) e)) hn
    have := nodup_len Q _ hnd fun y hy => by
      obtain ⟨x, hx, rfl⟩ := List.mem_map.mp hy
      have := h2 x hx
      omega
    rw [List.length_map] at this
    omega
/-- a quarrel makes ranks that lie far apart -/
theorem far_of (hb : b.Ok n m) {a c i j k : Nat} (ha : a < m) (hc : c < m) (hac : a ≠ c) (ra : 0 < room b a) (rc : 0 < room b c) (hi : i < n) (hj : j < n) (hk : k < n) (S : Scarce b a c i j k) : ∃ p, p < n ∧ (Far b p a c ∨ Far b p c a) := by
  have hij : i ≠ j := fun e => by have := S.ij; rw [e] at this; omega
  have hjk : j ≠ k := fun e => by have := S.jk; rw [e] at this; omega
  have hik : i ≠ k := fun e => by have h1 := S.ij; have h2 := S.jk; rw [← e] at h2; omega
  generalize hU : (List.range n).filter (fun x => decide (x ∈ upN b a j [i, j, k] ++ upN b c i [i, j, k])) = U
  have hUn : U.Nodup := by rw [← hU]; exact List.nodup_range.filter _
  have hUm : ∀ x, x ∈ U ↔ x ∈ upN b a j [i, j, k] ++ upN b c i [i, j, k] := fun x => by
    rw [← hU, List.mem_filter, List.mem_range, decide_eq_true_eq]
    refine ⟨fun h => h.2, fun h => ⟨?_, h⟩⟩
    rcases List.mem_append.mp h with h | h
    · exact ((mem_upN hb ha).mp h).1.1
    · exact ((mem_upN hb hc).mp h).1.1
  have hUl := S.all U hUn hUm
  have hUt : ∀ x ∈ U, (x < n ∧ x ∉ [i, j, k]) ∧ (rk b a x < rk b a j ∨ rk b c x < rk b c i) := fun x hx => by
    rcases List.mem_append.mp ((hUm x).mp hx) with h | h
    · obtain ⟨⟨h1, h2⟩, h3⟩ := (mem_upN hb ha).mp h
      exact ⟨⟨h1, h3⟩, .inl h2⟩
    · obtain ⟨⟨h1, h2⟩, h3⟩ := (mem_upN hb hc).mp h
      exact ⟨⟨h1, h3⟩, .inr h2⟩
  generalize hL : i :: j :: k :: U = L
  have hLn : L.Nodup := by
    rw [← hL]
    have n1 : i ∉ U := fun h => (hUt i h).1.2 (by simp)
    have n2 : j ∉ U := fun h => (hUt j h).1.2 (by simp)
    have n3 : k ∉ U := fun h => (hUt k h).1.2 (by simp)
    simp [hij, hik, hjk, n1, n2, n3, hUn]
  have hLlt : ∀ x ∈ L, x < n := fun x hx => by
    rw [← hL] at hx
    simp only [List.mem_cons] at hx
    rcases hx with rfl | rfl | rfl | hx
    · exact hi
    · exact hj
    · exact hk
    · exact (hUt x hx).1.1
  have hLl : room b a + room b c < L.length := by
    rw [← hL]
    simp only [List.length_cons]
    omega
  obtain ⟨w, w1, w2, w3⟩ := great hb ha hLn hLlt hLl
  obtain ⟨v, v1, v2, v3⟩ := great hb hc hLn hLlt hLl
  have mi : i ∈ L := by rw [← hL]; simp
  have mk : k ∈ L := by rw [← hL]; simp
  have hki : rk b c k < rk b c i := by
    have := S.ki
    have hne : rk b c k ≠ rk b c i := fun e => hik (rk_injB hb hc hk hi e).symm
    omega
  have wk := w3 k mk
  have vi := v3 i mi
  have hij' := S.ij
  have hjk' := S.jk
  have hw : rk b c w < rk b c i := by
    rw [← hL] at w1
    simp only [List.mem_cons] at w1
    rcases w1 with rfl | rfl | rfl | w1
    · omega
    · omega
    · exact hki
    · rcases (hUt w w1).2 with h | h
      · omega
      · exact h
  have hv : rk b a v ≤ rk b a j := by
    rw [← hL] at v1
    simp only [List.mem_cons] at v1
    rcases v1 with rfl | rfl | rfl | v1
    · omega
    · omega
    · omega
    · rcases (hUt v v1).2 with h | h
      · omega
      · omega
  by_cases f1 : rk b c w + 1 < rk b a w ∨ rk b a w + 1 < rk b c w
  · exact ⟨w, hLlt w w1, .inr ⟨hac.symm, rc, ra, by omega, f1⟩⟩
  · by_cases f2 : rk b a v + 1 < rk b c v ∨ rk b c v + 1 < rk b a v
    · exact ⟨v, hLlt v v1, .inl ⟨hac, ra, rc, by omega, f2⟩⟩
    · exfalso
      have e1 : rk b a v = rk b a j := by omega
      have e2 : rk b c v = rk b c i := by omega
      have d1 := rk_injB hb ha (hLlt v v1) hj e1
      have d2 := rk_injB hb hc (hLlt v v1) hi e2
      exact hij (d2.symm.trans d1)
theorem flt_split {l : List Nat} (p : Nat → Bool) : l.length = (l.filter p).length + (l.filter fun z => !p z).length := by
  induction l with
  | nil => rfl
  | cons x l ih =>
    cases h : p x <;> simp [h] <;> omega
/-- ranks that lie far apart make a quarrel -/
theorem scarce_of (hb : b.Ok n m) {a c p : Nat} (ha : a < m) (hc : c < m) (ra : 0 < room b a) (rc : 0 < room b c) (hp : p < n) (gt : room b a + room b c < rk b c p + 1) (ap : rk b a p + 1 < rk b c p) : ∃ j k, j < n ∧ k < n ∧ [p, j, k].Nodup ∧ Scarce b a c p j k := by
  obtain ⟨ul, un⟩ := up_len hb hc hp
  obtain ⟨al, an⟩ := up_len hb ha hp
  generalize hU : (ord b c).take (rk b c p) = U at *
  have hUm : ∀ z, z ∈ U ↔ z < n ∧ rk b c z < rk b c p := fun z => by rw [← hU]; exact mem_up hb hc
  have hDs := flt_split (l := U) fun z => decide (rk b a p < rk b a z)
  generalize hD : U.filter (fun z => decide (rk b a p < rk b a z)) = D at *
  have hDn : D.Nodup := by rw [← hD]; exact un.filter _
  have hDm : ∀ z, z ∈ D ↔ z ∈ U ∧ rk b a p < rk b a z := fun z => by rw [← hD, List.mem_filter]; simp
  have hE : (U.filter fun z => !decide (rk b a p < rk b a z)).length ≤ rk b a p := by
    refine Nat.le_trans (nd_sub (xs := (ord b a).take (rk b a p)) (un.filter _) fun z hz => ?_) (Nat.le_of_eq al)
    obtain ⟨h1, h2⟩ := List.mem_filter.mp hz
    obtain ⟨h3, h4⟩ := (hUm z).mp h1
    refine (mem_up hb ha).mpr ⟨h3, ?_⟩
    have h2 : ¬ rk b a p < rk b a z := by simpa using h2
    have hne : rk b a z ≠ rk b a p := fun e => by
      have := rk_injB hb ha h3 hp e
      rw [this] at h4
      omega
    omega
  have hDl : 2 ≤ D.length := by omega
  have hD0 : D ≠ [] := fun e => by rw [e] at hDl; cases hDl
  obtain ⟨t, t1, t2⟩ := ex_max (rk b a) hD0
  have hDe : (D.erase t).length + 1 = D.length := by
    rw [List.length_erase_of_mem t1]
    omega
  have hE0 : D.erase t ≠ [] := fun e => by rw [e] at hDe; simp at hDe; omega
  obtain ⟨s, s1, s2⟩ := ex_max (rk b a) hE0
  obtain ⟨s3, s4⟩ := (List.Nodup.mem_erase_iff hDn).mp s1
  obtain ⟨tU, ta⟩ := (hDm t).mp t1
  obtain ⟨sU, sa⟩ := (hDm s).mp s4
  obtain ⟨tn, tc⟩ := (hUm t).mp tU
  obtain ⟨sn, sc⟩ := (hUm s).mp sU
  have hst : rk b a s < rk b a t := by
    have h1 := t2 s s4
    have hne : rk b a s ≠ rk b a t := fun e => s3 (rk_injB hb ha sn tn e)
    omega
  have hps : p ≠ s := fun e => by rw [e] at sa; omega
  have hpt : p ≠ t := fun e => by rw [e] at ta; omega
  have hnd : [p, s, t].Nodup := by simp [hps, hpt, s3]
  obtain ⟨sl, sln⟩ := up_len hb ha sn
  have hA : rk b c p - 1 ≤ rk b a s := by
    have h1 : (p :: (U.filter fun z => !decide (z ∈ [s, t]))).length ≤ ((ord b a).take (rk b a s)).length := by
      refine nd_sub (List.nodup_cons.mpr ⟨fun h => ?_, un.filter _⟩) fun z hz => ?_
      · have := ((hUm p).mp (List.mem_filter.mp h).1).2
        omega
      · rcases List.mem_cons.mp hz with rfl | hz
        · exact (mem_up hb ha).mpr ⟨hp, sa⟩
        · obtain ⟨h1, h2⟩ := List.mem_filter.mp hz
          obtain ⟨h3, h4⟩ := (hUm z).mp h1
          have h2 : z ≠ s ∧ z ≠ t := by simpa using h2
          refine (mem_up hb ha).mpr ⟨h3, ?_⟩
          by_cases hzd : rk b a p < rk b a z
          · have h5 := s2 z ((List.Nodup.mem_erase_iff hDn).mpr ⟨h2.2, (hDm z).mpr ⟨h1, hzd⟩⟩)
            have hne : rk b a z ≠ rk b a s := fun e => h2.1 (rk_injB hb ha h3 sn e)
            omega
          · omega
    have h2 := flt_split (l := U) fun z => decide (z ∈ [s, t])
    have h3 : (U.filter fun z => decide (z ∈ [s, t])).length ≤ 2 := nd_sub (xs := [s, t]) (un.filter _) fun z hz => by simpa using (List.mem_filter.mp hz).2
    rw [sl, List.length_cons] at h1
    omega
  have hone : rk b a s ≤ (upN b a s [p, s, t]).length + 1 := by
    have h2 := flt_split (l := (ord b a).take (rk b a s)) fun z => decide (z ∈ [p, s, t])
    have h3 : (((ord b a).take (rk b a s)).filter fun z => decide (z ∈ [p, s, t])).length ≤ 1 := nd_sub (xs := [p]) (sln.filter _) fun z hz => by
      obtain ⟨h4, h5⟩ := List.mem_filter.mp hz
      have h6 := ((mem_up hb ha).mp h4).2
      have h5 : z = p ∨ z = s ∨ z = t := by simpa using h5
      rcases h5 with rfl | rfl | rfl
      · simp
      · omega
      · omega
    rw [sl] at h2
    unfold upN
    omega
  have htwo : rk b c p ≤ (upN b c p [p, s, t]).length + 2 := by
    have h2 := flt_split (l := U) fun z => decide (z ∈ [p, s, t])
    have h3 : (U.filter fun z => decide (z ∈ [p, s, t])).length ≤ 2 := nd_sub (xs := [s, t]) (un.filter _) fun z hz => by
      obtain ⟨h4, h5⟩ := List.mem_filter.mp hz
      have h6 := ((hUm z).mp h4).2
      have h5 : z = p ∨ z = s ∨ z = t := by simpa using h5
      rcases h5 with rfl | rfl | rfl
      · omega
      · simp
      · simp
    unfold upN
    rw [hU]
    omega
  refine ⟨s, t, sn, tn, hnd, sa, hst, by omega, by omega, by omega, fun l hl hm => ?_⟩
  have h1 : (upN b c p [p, s, t]).length ≤ l.length := by
    refine nd_sub ?_ fun z hz => (hm z).mpr (List.mem_append_right _ hz)
    unfold upN
    rw [hU]
    exact un.filter _
  omega
theorem calm_iff (hb : b.Ok n m) : (∃ a c, a < m ∧ c < m ∧ a ≠ c ∧ 0 < room b a ∧ 0 < room b c ∧ ∃ i j k, i < n ∧ j < n ∧ k < n ∧ [i, j, k].Nodup ∧ Scarce b a c i j k) ↔ ∃ p a c, p < n ∧ a < m ∧ c < m ∧ Far b p a c := by
  constructor
  · rintro ⟨a, c, ha, hc, hac, ra, rc, i, j, k, hi, hj, hk, _, hS⟩
    obtain ⟨p, hp, h | h⟩ := far_of hb ha hc hac ra rc hi hj hk hS
    · exact ⟨p, a, c, hp, ha, hc, h⟩
    · exact ⟨p, c, a, hp, hc, ha, h⟩
  · rintro ⟨p, a, c, hp, ha, hc, F⟩
    have hgt := F.gt
    rcases F.ap with h | h
    · obtain ⟨j, k, hj, hk, hnd, hS⟩ := scarce_of hb ha hc F.ra F.rc hp F.gt h
      exact ⟨a, c, ha, hc, F.ne, F.ra, F.rc, p, j, k, hp, hj, hk, hnd, hS⟩
    · obtain ⟨j, k, hj, hk, hnd, hS⟩ := scarce_of hb hc ha F.rc F.ra hp (by omega) h
      exact ⟨c, a, hc, ha, F.ne.symm, F.rc, F.ra, p, j, k, hp, hj, hk, hnd, hS⟩
end
end Mt


namespace Pl
open PySem Mt
def frq (b : Bd) (f : List (Option Nat)) (q : Nat) : Bool := decide (f.count (some q) < room b q)
def env (ws : List (List Nat)) (f : List (Option Nat)) (ps : List Nat) (p : Nat) : List Nat := ps.filter fun o => lk ws p (hv f o) (hv f p)
end Pl


namespace Pl
open PySem Mt
def decT (fr : List Nat) : Option Nat → List Nat
  | none => fr
  | some q => fr.set q (fr[q]?.getD 0 - 1)
theorem decT_len (fr : List Nat) (x : Option Nat) : (decT fr x).length = fr.length := by cases x <;> simp [decT]
theorem rest_perm {rest : List Nat} (hnd : rest.Nodup) {p : Nat} (hp : p ∈ rest) : rest.Perm (p :: rest.filter fun r => !decide (r = p)) := by
  have h1 : (rest.filter fun r => !decide (r = p)) = rest.erase p := by
    rw [List.Nodup.erase_eq_filter hnd]
    exact List.filter_congr fun x _ => by simp [bne, Bool.beq_eq_decide_eq]
  rw [h1]
  exact List.perm_cons_erase hp
end Pl


namespace Pl
open PySem Mt
theorem idx_inj {own : List Nat} {x y : Nat} (hx : x ∈ own) (hy : y ∈ own) (h : own.idxOf x = own.idxOf y) : x = y := by
  have h1 := List.idxOf_lt_length_of_mem hx
  have h2 := List.idxOf_lt_length_of_mem hy
  have e1 := List.getElem_idxOf h1
  have e2 := List.getElem_idxOf h2
  rw [← e1, ← e2]
  congr 1
/-- the rooms left, when those of a list are still to come -/
structure GInv (b : Bd) (ws : List (List Nat)) (f : List (Option Nat)) (n m : Nat) (fr rest : List Nat) : Prop where
  nd : rest.Nodup
  lt : ∀ p ∈ rest, p < n
  fl : fr.length = m
  eq : ∀ q, fr[q]?.getD 0 + f.count (some q) = room b q + rest.countP fun p => decide (hv f p = some q)
section
variable {b : Bd} {ws : List (List Nat)} {n m : Nat} {f : List (Option Nat)} {fr rest : List Nat}
theorem GInv.pos (h : GInv b ws f n m fr rest) (hc : ∀ q, f.count (some q) ≤ room b q) {o q : Nat} (ho : o ∈ rest) (hq : hv f o = some q) : 0 < fr[q]?.getD 0 := by
  have h1 := h.eq q
  have h2 : 0 < rest.countP fun p => decide (hv f p = some q) := List.countP_pos_iff.mpr ⟨o, ho, by simpa using hq⟩
  have := hc q
  omega
theorem GInv.free (h : GInv b ws f n m fr rest) {q : Nat} (hq : frq b f q = true) : 0 < fr[q]?.getD 0 := by
  have h1 := h.eq q
  unfold frq at hq
  have := of_decide_eq_true hq
  omega
theorem GInv.step (h : GInv b ws f n m fr rest) {p : Nat} (hp : p ∈ rest) (hq : ∀ q, hv f p = some q → 0 < fr[q]?.getD 0) : GInv b ws f n m (decT fr (hv f p)) (rest.filter fun r => !decide (r = p)) := by
  refine ⟨h.nd.filter _, fun r hr => h.lt r (List.mem_filter.mp hr).1, by rw [decT_len]; exact h.fl, fun q => ?_⟩
  have h1 := h.eq q
  have h2 := (rest_perm h.nd hp).countP_eq fun p => decide (hv f p = some q)
  rw [List.countP_cons] at h2
  cases hv1 : hv f p with
  | none =>
    rw [hv1] at h2
    simp at h2
    show fr[q]?.getD 0 + _ = _
    omega
  | some q1 =>
    have h3 := hq q1 hv1
    rw [hv1] at h2
    have hl : q1 < fr.length := by
      rcases Nat.lt_or_ge q1 fr.length with h | h
      · exact h
      · rw [List.getElem?_eq_none h] at h3
        exact absurd h3 (by decide)
    show (fr.set q1 (fr[q1]?.getD 0 - 1))[q]?.getD 0 + _ = _
    by_cases e : q1 = q
    · subst e
      rw [List.getElem?_set_self hl]
      simp at h2
      show fr[q1]?.getD 0 - 1 + _ = _
      omega
    · rw [List.getElem?_set_ne e]
      have : ¬ (some q1 = some q) := fun h => e (Option.some.inj h)
      simp [e] at h2
      omega
end
end Pl


namespace Pl
open PySem
theorem Sm.len {d : PyData} {D N : Nat} (h : Sm d D N) : d.shown.length ≤ 10 * N + 8 := by
  have h1 := PyData.shown_le_bulk 8 (by decide) d h.sh
  have h2 := h.bu
  omega
end Pl


namespace Pl
open PySem Mt
def FindP (E : En → Prop) (S : Sto) (r : Option PyData) : Out → Prop
  | .nx η S1 => r = none ∧ E η ∧ S1 = S
  | .ct η S1 => r = none ∧ E η ∧ S1 = S
  | .rt w S1 => ∃ d, r = some d ∧ w = .v d ∧ S1 = S
  | .bk _ _ => False
def FindQ (E : En → Prop) (S : Sto) (r : Option PyData) : Out → Prop
  | .nx η S1 => r = none ∧ E η ∧ S1 = S
  | .rt w S1 => ∃ d, r = some d ∧ w = .v d ∧ S1 = S
  | _ => False
theorem for_find {α : Type} {Γ : Fns} {η : En} {S S' : Sto} {b : Bk} {tg : List Nat} {many : Bool} {it : Iy} {xs : List α} {f : α → PyData} {g : α → Option PyData} (E : En → Prop)
    (hit : evI Γ η it S = some (.items (xs.map f), S')) (h0 : E η)
    (hs : ∀ a ∈ xs, ∀ η, E η → Ok ((bindT η tg many (f a)).bind fun η1 => evB Γ b η1 S') (FindP E S' (g a))) : Ok (evS Γ (.loop tg many it b) η S) (FindQ E S' (xs.findSome? g)) := by
  refine for_core (f := f) (xs := xs) (fun pre η S => E η ∧ S = S' ∧ pre.findSome? g = none) hit ⟨h0, rfl, rfl⟩ ?_ ?_
  · rintro pre a post η S hx ⟨hE, rfl, hp⟩
    refine ok_mono (hs a (by rw [hx]; simp) η hE) fun o ho => ?_
    have hn : g a = none → (pre ++ [a]).findSome? g = none := fun h => by simp [List.findSome?_append, hp, h]
    cases o with
    | nx η S1 => exact ⟨ho.2.1, ho.2.2, hn ho.1⟩
    | ct η S1 => exact ⟨ho.2.1, ho.2.2, hn ho.1⟩
    | bk η S1 => exact ho.elim
    | rt w S1 =>
      obtain ⟨d, h1, h2, h3⟩ := ho
      refine ⟨d, ?_, h2, h3⟩
      rw [hx, List.findSome?_append, hp, List.findSome?_cons, h1]
      rfl
  · rintro η S ⟨hE, rfl, hp⟩
    exact ⟨hp, hE, rfl⟩
def ov (b : Bd) (q x y : Nat) : Bool := decide (rk b q x < rk b q y)
def fil (b : Bd) (n i j k a c : Nat) : List Nat := (List.range n).filter fun x => !decide (x ∈ [i, j, k]) && (ov b a x i || (ov b a x j && !ov b c x k))
def tgE (i j k a c : Nat) (lot : List Nat) : PyData := .tuple [nt i, nt j, nt k, nt a, nt c, tu nt lot]
def tgL (b : Bd) (n i j k a c : Nat) : List Nat := (fil b n i j k a c).take (room b a - 1)
def tgK (b : Bd) (n a c i j k : Nat) : Option PyData := if ov b c k i && (ov b c k j && decide ((tgL b n i j k a c).length = room b a - 1)) then some (tgE i j k a c (tgL b n i j k a c)) else none
def tgA (b : Bd) (n a c : Nat) : Option PyData := if room b a = 0 ∨ room b c = 0 then none else
  (ord b a).zipIdx.findSome? fun x => ((ord b a).drop (x.2 + 1)).zipIdx.findSome? fun y => ((ord b a).drop (x.2 + y.2 + 2)).findSome? fun k => tgK b n a c x.1 y.1 k
def tg (b : Bd) (n m : Nat) : Option PyData := (List.range m).findSome? fun a => (List.range m).findSome? fun c => if a = c then none else tgA b n a c
def oD : Option PyData → PyData
  | none => .none
  | some d => d
end Pl


namespace Pl
open PySem Mt
def apN (x y : Nat) : Nat := (x - y) + (y - x)
def farB (b : Bd) (p a c : Nat) : Bool := !(decide (a = c) || (decide (room b a < 1) || decide (room b c < 1))) && (decide (room b a + room b c < rk b c p + 1) && decide (1 < apN (rk b a p + 1) (rk b c p + 1)))
theorem farB_iff {b : Bd} {p a c : Nat} : farB b p a c = true ↔ Far b p a c := by
  unfold farB apN
  simp only [Bool.and_eq_true, Bool.not_eq_true', Bool.or_eq_false_iff, decide_eq_false_iff_not, decide_eq_true_eq]
  constructor
  · rintro ⟨⟨h1, h2, h3⟩, h4, h5⟩
    exact ⟨h1, by omega, by omega, h4, by omega⟩
  · intro F
    have := F.ap
    have := F.ra
    have := F.rc
    exact ⟨⟨F.ne, by omega, by omega⟩, F.gt, by omega⟩
def frP (b : Bd) (m p a : Nat) : List (Nat × Nat × Nat) := ((List.range m).filter (farB b p a)).map fun c => (p, a, c)
def frL (b : Bd) (n m : Nat) : List (Nat × Nat × Nat) := (List.range n).flatMap fun p => (List.range m).flatMap fun a => frP b m p a
def quietB (b : Bd) (n m : Nat) : Bool := (frL b n m).isEmpty
theorem mem_frL {b : Bd} {n m : Nat} {x : Nat × Nat × Nat} : x ∈ frL b n m ↔ x.1 < n ∧ x.2.1 < m ∧ x.2.2 < m ∧ farB b x.1 x.2.1 x.2.2 = true := by
  obtain ⟨p, a, c⟩ := x
  unfold frL frP
  simp only [List.mem_flatMap, List.mem_range, List.mem_map, List.mem_filter]
  constructor
  · rintro ⟨p', h1, a', h2, c', ⟨h3, h4⟩, e⟩
    obtain ⟨rfl, rfl, rfl⟩ := e
    exact ⟨h1, h2, h3, h4⟩
  · rintro ⟨h1, h2, h3, h4⟩
    exact ⟨p, h1, a, h2, c, ⟨h3, h4⟩, rfl⟩
theorem quiet_iff {b : Bd} {n m : Nat} : quietB b n m = false ↔ ∃ p a c, p < n ∧ a < m ∧ c < m ∧ Far b p a c := by
  unfold quietB
  constructor
  · intro h
    cases e : frL b n m with
    | nil => rw [e] at h; cases h
    | cons x l =>
      have hx : x ∈ frL b n m := by rw [e]; exact List.mem_cons_self
      obtain ⟨h1, h2, h3, h4⟩ := mem_frL.mp hx
      exact ⟨_, _, _, h1, h2, h3, farB_iff.mp h4⟩
  · rintro ⟨p, a, c, h1, h2, h3, F⟩
    have hx : (p, a, c) ∈ frL b n m := mem_frL.mpr ⟨h1, h2, h3, farB_iff.mpr F⟩
    cases e : frL b n m with
    | nil => rw [e] at hx; cases hx
    | cons x l => rfl
section
variable {Γ : Fns} {S : Sto} {b : Bd} {n m : Nat}
theorem upN_lt (hb : b.Ok n m) {q x : Nat} {tr : List Nat} (hq : q < m) : ∀ z ∈ upN b q x tr, z < n := fun z hz => ((mem_upN hb hq).mp hz).1.1
end
end Pl


namespace Pl
open PySem Mt
def triB (b : Bd) (i j k a c : Nat) : Bool :=
  !(!decide [i, j, k].Nodup || (decide (a = c) || (decide (room b a < 1) || decide (room b c < 1)))) && ((decide (rk b a i < rk b a j) && decide (rk b a j < rk b a k)) && decide (rk b c k < rk b c i))
def pooN (b : Bd) (n q x : Nat) (tr : List Nat) : List Nat := (abS b n q x).filter fun z => !decide (z ∈ tr)
/-- the first lot of two pools, and the second -/
def lotF (F G : List Nat) (u : Nat) : List Nat := ((F.filter fun z => !decide (z ∈ G)) ++ F.filter fun z => decide (z ∈ G)).take u
def lotG (F G : List Nat) (u v : Nat) : List Nat := (G.filter fun z => !decide (z ∈ lotF F G u)).take v
def lotsD (n : Nat) (F G : List Nat) (u v : Nat) : PyData := if (lotF F G u).length < u ∨ (lotG F G u v).length < v then .none else .tuple [tu nt ((List.range n).filter fun x => decide (x ∈ lotF F G u)), tu nt (lotG F G u v)]
section
variable {b : Bd} {n m : Nat} {Γ : Fns} {S : Sto}
@[simp] theorem sT_tp {η : En} (is : List Nat) (ds : List PyData) : storeT Γ (.v (.tuple ds)) (.tp is) η S = (nmAll is ds η).map fun η1 => (η1, S) := rfl
@[simp] theorem sT_tp2 {η : En} {α β : Type} (is : List Nat) (f : α → PyData) (g : β → PyData) (x : α × β) : storeT Γ (.v (p2 f g x)) (.tp is) η S = (nmAll is [f x.1, g x.2] η).map fun η1 => (η1, S) := rfl
theorem are_unlike_ev {l : List Nat} (hl : l.length < 64) : runF Γ d_are_unlike [.v (tu nt l)] S = some (.v (.bool (decide l.Nodup)), S) := by
  refine run_v0 rfl ?_
  show evB Γ b_are_unlike [some (.v (tu nt l))] S = _
  obtain ⟨k, h1, h2⟩ := setD_any hl
  have h3 : blD .len [tu nt l] = some (nt l.length) := len_tu _
  have h4 : decide (l.Nodup) = decide (k = l.length) := decide_eq_decide.mpr h2.symm
  rw [h4]
  simp [b_are_unlike, s_are_unlike_0, h1, h3]
theorem is_triple_ev (hb : b.Ok n m) (hr : Lranks (Γ f_rank) b n m) (hu : ∀ (i j k : Nat) S, Γ f_are_unlike [.v (.tuple [nt i, nt j, nt k])] S = some (.v (.bool (decide [i, j, k].Nodup)), S)) {i j k a c : Nat} (hi : i < n) (hj : j < n) (hk : k < n) (ha : a < m) (hc : c < m) :
    runF Γ d_is_triple [.v b.e, .v (.tuple [nt i, nt j, nt k]), .v (.tuple [nt a, nt c])] S = some (.v (.bool (triB b i j k a c)), S) := by
  refine run_v0 rfl ?_
  show evB Γ b_is_triple [some (.v b.e), some (.v (.tuple [nt i, nt j, nt k])), some (.v (.tuple [nt a, nt c])), none, none, none, none, none] S = _
  have r1 := bd_get hb ha
  have r2 := bd_get hb hc
  have h1 := fun S => hr i a S hi ha
  have h2 := fun S => hr j a S hj ha
  have h3 := fun S => hr k a S hk ha
  have h4 := fun S => hr i c S hi hc
  have h5 := fun S => hr k c S hk hc
  have k1 : coD .lt (.int (room b a : Int)) (.int 1) = some (decide (room b a < 1)) := co_ltNN _ 1
  have k2 : coD .lt (.int (room b c : Int)) (.int 1) = some (decide (room b c < 1)) := co_ltNN _ 1
  have hp : asTup (.tuple [nt i, nt j, nt k]) = some [nt i, nt j, nt k] := rfl
  unfold triB
  have hu := fun S => hu i j k S
  generalize decide [i, j, k].Nodup = z at *
  generalize room b a = ra at *
  generalize room b c = rc at *
  generalize rk b a i = x at *
  generalize rk b a j = y at *
  generalize rk b a k = w at *
  generalize rk b c i = p at *
  generalize rk b c k = q at *
  cases z with
  | false => simp [b_is_triple, nmAll, s_is_triple_2, s_is_triple_1, hu]
  | true =>
    by_cases e1 : a = c
    · simp [b_is_triple, nmAll, s_is_triple_2, s_is_triple_1, hu, e1]
    · by_cases e2 : ra < 1
      · simp [b_is_triple, nmAll, s_is_triple_2, s_is_triple_1, hu, e1, r1, k1, e2]
      · by_cases e3 : rc < 1
        · simp [b_is_triple, nmAll, s_is_triple_2, s_is_triple_1, hu, e1, r1, k1, e2, r2, k2, e3]
        · by_cases e4 : x < y
          · by_cases e5 : y < w
            · simp [b_is_triple, nmAll, s_is_triple_2, s_is_triple_1, s_is_triple_0, hu, e1, r1, k1, e2, r2, k2, e3, h1, h2, h3, h4, h5, e4, e5]
            · simp [b_is_triple, nmAll, s_is_triple_2, s_is_triple_1, s_is_triple_0, hu, e1, r1, k1, e2, r2, k2, e3, h1, h2, h3, e4, e5]
          · simp [b_is_triple, nmAll, s_is_triple_2, s_is_triple_1, s_is_triple_0, hu, e1, r1, k1, e2, r2, k2, e3, h1, h2, e4]
theorem pooN_len {q x : Nat} {tr : List Nat} : (pooN b n q x tr).length ≤ n := by
  unfold pooN abS
  refine Nat.le_trans (List.length_filter_le _ _) (Nat.le_trans (List.length_filter_le _ _) ?_)
  simp
theorem pools_ev (hn : n ≤ 7) (hab : ∀ q x S, q < m → x < n → Γ f_above [.v b.e, .v (nt q), .v (nt x)] S = some (.v (tu nt (abS b n q x)), S)) {i j k a c : Nat} (hi : i < n) (hj : j < n) (ha : a < m) (hc : c < m) :
    runF Γ d_pools [.v b.e, .v (.tuple [nt i, nt j, nt k]), .v (.tuple [nt a, nt c])] S = some (.v (.tuple [li nt (pooN b n a j [i, j, k]), li nt (pooN b n c i [i, j, k])]), S) := by
  refine run_v0 rfl ?_
  show evB Γ b_pools [some (.v b.e), some (.v (.tuple [nt i, nt j, nt k])), some (.v (.tuple [nt a, nt c])), none, none, none, none, none, none, none] S = _
  have h1 := fun S => hab a j S ha hj
  have h2 := fun S => hab c i S hc hi
  have hnin : ∀ x : Nat, coD .nin (.int (x : Int)) (.tuple [nt i, nt j, nt k]) = some (!decide (x ∈ [i, j, k])) := fun x => co_nin (f := nt) x [i, j, k] (by decide)
  have hl : ∀ q x, (abS b n q x).length ≤ 7 := fun q x => by
    unfold abS
    refine Nat.le_trans (List.length_filter_le _ _) ?_
    simpa using hn
  have e0 : ∀ S, evE Γ [some (.v b.e), some (.v (.tuple [nt i, nt j, nt k])), some (.v (.tuple [nt a, nt c])), some (.v (nt i)), some (.v (nt j)), some (.v (nt k)), some (.v (nt a)), some (.v (nt c)), none, none] x_pools_0 S = some (.v (li nt (pooN b n a j [i, j, k])), S) := fun S => by
    have := lc1 (Γ := Γ) (S := S) (S' := S) (η := [some (.v b.e), some (.v (.tuple [nt i, nt j, nt k])), some (.v (.tuple [nt a, nt c])), some (.v (nt i)), some (.v (nt j)), some (.v (nt k)), some (.v (nt a)), some (.v (nt c)), none, none]) (elt := .var 9) (i := 9) (it := .seq (.call f_above (.cons (.var 0) (.cons (.var 6) (.cons (.var 4) .nil))))) (c := .cmp .nin (.var 9) (.var 1)) (xs := abS b n a j) (f := nt) (fun x => !decide (x ∈ [i, j, k])) id nt (it_tu (by simp [h1])) (fun x hx => by simp only [List.set]; simp [hnin]) (fun x hx _ => by simp) (lm100 (by have := hl a j; omega))
    rw [List.map_id] at this
    exact this
  have e1 : ∀ w S, evE Γ [some (.v b.e), some (.v (.tuple [nt i, nt j, nt k])), some (.v (.tuple [nt a, nt c])), some (.v (nt i)), some (.v (nt j)), some (.v (nt k)), some (.v (nt a)), some (.v (nt c)), w, none] x_pools_1 S = some (.v (li nt (pooN b n c i [i, j, k])), S) := fun w S => by
    have := lc1 (Γ := Γ) (S := S) (S' := S) (η := [some (.v b.e), some (.v (.tuple [nt i, nt j, nt k])), some (.v (.tuple [nt a, nt c])), some (.v (nt i)), some (.v (nt j)), some (.v (nt k)), some (.v (nt a)), some (.v (nt c)), w, none]) (elt := .var 9) (i := 9) (it := .seq (.call f_above (.cons (.var 0) (.cons (.var 7) (.cons (.var 3) .nil))))) (c := .cmp .nin (.var 9) (.var 1)) (xs := abS b n c i) (f := nt) (fun x => !decide (x ∈ [i, j, k])) id nt (it_tu (by simp [h2])) (fun x hx => by simp only [List.set]; simp [hnin]) (fun x hx _ => by simp) (lm100 (by have := hl c i; omega))
    rw [List.map_id] at this
    exact this
  generalize pooN b n a j [i, j, k] = F at *
  generalize pooN b n c i [i, j, k] = G at *
  simp [nmAll, b_pools, s_pools_1, e0, s_pools_0, e1]
theorem lots_of_ev (hb : b.Ok n m) {F G : List Nat} {tr : PyData} (hF : F.length ≤ 7 ∧ F.Nodup ∧ ∀ x ∈ F, x < n) (hG : G.length ≤ 7) {a c : Nat} (ha : a < m) (hc : c < m) (ra : 0 < room b a) (rc : 0 < room b c)
    (hp : ∀ S, Γ f_pools [.v b.e, .v tr, .v (.tuple [nt a, nt c])] S = some (.v (.tuple [li nt F, li nt G]), S)) :
    runF Γ d_lots_of [.v b.e, .v tr, .v (.tuple [nt a, nt c])] S = some (.v (lotsD n F G (room b a - 1) (room b c - 1)), S) := by
  refine run_v0 rfl ?_
  show evB Γ b_lots_of [some (.v b.e), some (.v tr), some (.v (.tuple [nt a, nt c])), none, none, none, none, none, none, none, none] S = _
  have r1 := bd_get hb ha
  have r2 := bd_get hb hc
  have e0 : ∀ (w8 w9 w10 : Option Pl.W) S, evE Γ [some (.v b.e), some (.v tr), some (.v (.tuple [nt a, nt c])), some (.v (nt a)), some (.v (nt c)), some (.v (li nt F)), some (.v (li nt G)), w8, none, w9, w10] x_lots_of_0 S = some (.v (li nt (F.filter fun z => !decide (z ∈ G))), S) := fun w8 w9 w10 S => by
    have := lc1 (Γ := Γ) (S := S) (S' := S) (η := [some (.v b.e), some (.v tr), some (.v (.tuple [nt a, nt c])), some (.v (nt a)), some (.v (nt c)), some (.v (li nt F)), some (.v (li nt G)), w8, none, w9, w10]) (elt := .var 8) (i := 8) (it := .seq (.var 5)) (c := .cmp .nin (.var 8) (.var 6)) (xs := F) (f := nt) (fun x => !decide (x ∈ G)) id nt (it_li (by simp)) (fun x hx => by simp only [List.set]; simp) (fun x hx _ => by simp) (lm100 (by omega))
    rw [List.map_id] at this
    exact this
  have e1 : ∀ (w8 w9 w10 : Option Pl.W) S, evE Γ [some (.v b.e), some (.v tr), some (.v (.tuple [nt a, nt c])), some (.v (nt a)), some (.v (nt c)), some (.v (li nt F)), some (.v (li nt G)), w8, none, w9, w10] x_lots_of_1 S = some (.v (li nt (F.filter fun z => decide (z ∈ G))), S) := fun w8 w9 w10 S => by
    have := lc1 (Γ := Γ) (S := S) (S' := S) (η := [some (.v b.e), some (.v tr), some (.v (.tuple [nt a, nt c])), some (.v (nt a)), some (.v (nt c)), some (.v (li nt F)), some (.v (li nt G)), w8, none, w9, w10]) (elt := .var 8) (i := 8) (it := .seq (.var 5)) (c := .cmp .isin (.var 8) (.var 6)) (xs := F) (f := nt) (fun x => decide (x ∈ G)) id nt (it_li (by simp)) (fun x hx => by simp only [List.set]; simp) (fun x hx _ => by simp) (lm100 (by omega))
    rw [List.map_id] at this
    exact this
  have e2 : ∀ (L : List Nat) (w8 w10 : Option Pl.W) S, evE Γ [some (.v b.e), some (.v tr), some (.v (.tuple [nt a, nt c])), some (.v (nt a)), some (.v (nt c)), some (.v (li nt F)), some (.v (li nt G)), w8, none, some (.v (li nt L)), w10] x_lots_of_2 S = some (.v (li nt (G.filter fun z => !decide (z ∈ L))), S) := fun L w8 w10 S => by
    have := lc1 (Γ := Γ) (S := S) (S' := S) (η := [some (.v b.e), some (.v tr), some (.v (.tuple [nt a, nt c])), some (.v (nt a)), some (.v (nt c)), some (.v (li nt F)), some (.v (li nt G)), w8, none, some (.v (li nt L)), w10]) (elt := .var 8) (i := 8) (it := .seq (.var 6)) (c := .cmp .nin (.var 8) (.var 9)) (xs := G) (f := nt) (fun x => !decide (x ∈ L)) id nt (it_li (by simp)) (fun x hx => by simp only [List.set]; simp) (fun x hx _ => by simp) (lm100 (by omega))
    rw [List.map_id] at this
    exact this
  have l1 : (F.filter fun z => !decide (z ∈ G)).length ≤ F.length := List.length_filter_le _ _
  have l2 : (F.filter fun z => decide (z ∈ G)).length ≤ F.length := List.length_filter_le _ _
  have hadd : boD .add (li nt (F.filter fun z => !decide (z ∈ G))) (li nt (F.filter fun z => decide (z ∈ G))) = some (li nt ((F.filter fun z => !decide (z ∈ G)) ++ F.filter fun z => decide (z ∈ G))) := add_li (lm100 (by omega))
  have s1 : slD (li nt ((F.filter fun z => !decide (z ∈ G)) ++ F.filter fun z => decide (z ∈ G))) none (some ((room b a - 1 : Nat) : Int)) = some (li nt (lotF F G (room b a - 1))) := sl_li_to _ _
  have s2 : slD (li nt (G.filter fun z => !decide (z ∈ lotF F G (room b a - 1)))) none (some ((room b c - 1 : Nat) : Int)) = some (li nt (lotG F G (room b a - 1) (room b c - 1))) := sl_li_to _ _
  have hLn : (lotF F G (room b a - 1)).Nodup := by
    unfold lotF
    refine List.Nodup.sublist (List.take_sublist _ _) (List.nodup_append.mpr ⟨hF.2.1.filter _, hF.2.1.filter _, fun x hx y hy e => ?_⟩)
    have h1 := (List.mem_filter.mp hx).2
    have h2 := (List.mem_filter.mp hy).2
    rw [e, h2] at h1
    cases h1
  have hLm : ∀ x ∈ lotF F G (room b a - 1), x ∈ F := fun x hx => by
    rcases List.mem_append.mp (List.mem_of_mem_take hx) with h | h
    · exact (List.mem_filter.mp h).1
    · exact (List.mem_filter.mp h).1
  have hLl : (lotF F G (room b a - 1)).length ≤ 7 := Nat.le_trans (nd_sub hLn hLm) hF.1
  have hGl : (lotG F G (room b a - 1) (room b c - 1)).length ≤ 7 := by
    unfold lotG
    rw [List.length_take]
    have := List.length_filter_le (fun z => !decide (z ∈ lotF F G (room b a - 1))) G
    omega
  have hso := sorted_liF (n := n) hLn (fun x hx => hF.2.2 x (hLm x hx)) (by omega)
  have ht1 : blD .tuple [li nt ((List.range n).filter fun x => decide (x ∈ lotF F G (room b a - 1)))] = some (tu nt ((List.range n).filter fun x => decide (x ∈ lotF F G (room b a - 1)))) := rfl
  have ht2 : blD .tuple [li nt (lotG F G (room b a - 1) (room b c - 1))] = some (tu nt (lotG F G (room b a - 1) (room b c - 1))) := rfl
  unfold lotsD
  generalize lotG F G (room b a - 1) (room b c - 1) = LG at *
  generalize ((List.range n).filter fun x => decide (x ∈ lotF F G (room b a - 1))) = LS at *
  generalize lotF F G (room b a - 1) = LF at *
  have e2 := e2 LF
  generalize (G.filter fun z => !decide (z ∈ LF)) = GG at *
  generalize ((F.filter fun z => !decide (z ∈ G)) ++ F.filter fun z => decide (z ∈ G)) = FF at *
  by_cases q1 : LF.length < room b a - 1
  · simp [b_lots_of, s_lots_of_4, hp, e0, s_lots_of_3, e1, hadd, r1, ra, s1, s_lots_of_2, e2, r2, rc, s2, s_lots_of_1, q1]
  · by_cases q2 : LG.length < room b c - 1
    · simp [b_lots_of, s_lots_of_4, hp, e0, s_lots_of_3, e1, hadd, r1, ra, s1, s_lots_of_2, e2, r2, rc, s2, s_lots_of_1, q1, q2]
    · simp [b_lots_of, s_lots_of_4, hp, e0, s_lots_of_3, e1, hadd, r1, ra, s1, s_lots_of_2, e2, r2, rc, s2, s_lots_of_1, q1, q2, s_lots_of_0, hso, ht1, ht2]
end
end Pl


namespace Pl
open PySem Mt
theorem cnt_two (p : Nat → Bool) : ∀ l : List Nat, (l.filter p).length + (l.filter fun x => !p x).length = l.length
  | [] => rfl
  | x :: l => by
    have := cnt_two p l
    cases h : p x <;> simp [h] <;> omega
theorem nd_eq {l l' : List Nat} (h : l.Nodup) (h' : l'.Nodup) (e : ∀ x, x ∈ l ↔ x ∈ l') : l.length = l'.length :=
  Nat.le_antisymm (nd_sub h fun x hx => (e x).mp hx) (nd_sub h' fun x hx => (e x).mpr hx)
theorem lots_iff {F G : List Nat} (hF : F.Nodup) (hG : G.Nodup) (u v : Nat) : ¬((lotF F G u).length < u ∨ (lotG F G u v).length < v) ↔ u ≤ F.length ∧ v ≤ G.length ∧ u + v ≤ F.length + (G.filter fun z => !decide (z ∈ F)).length := by
  have c1 := cnt_two (fun z => decide (z ∈ G)) F
  have c2 := cnt_two (fun z => decide (z ∈ F)) G
  have c3 := cnt_two (fun z => decide (z ∈ lotF F G u)) G
  have e1 : (G.filter fun z => decide (z ∈ F)).length = (F.filter fun z => decide (z ∈ G)).length := nd_eq (hG.filter _) (hF.filter _) fun x => by
    simp only [List.mem_filter, decide_eq_true_eq]
    exact And.comm
  have e2 : (G.filter fun z => decide (z ∈ lotF F G u)).length = ((F.filter fun z => decide (z ∈ G)).take (u - (F.filter fun z => !decide (z ∈ G)).length)).length := nd_eq (hG.filter _) ((hF.filter _).sublist (List.take_sublist _ _)) fun x => by
    simp only [List.mem_filter, decide_eq_true_eq]
    unfold lotF
    rw [List.take_append, List.mem_append]
    constructor
    · rintro ⟨hx, h | h⟩
      · have := (List.mem_filter.mp (List.mem_of_mem_take h)).2
        simp [hx] at this
      · exact h
    · intro h
      have := (List.mem_filter.mp (List.mem_of_mem_take h)).2
      exact ⟨of_decide_eq_true this, .inr h⟩
  have e3 : (lotF F G u).length = min u ((F.filter fun z => !decide (z ∈ G)).length + (F.filter fun z => decide (z ∈ G)).length) := by
    unfold lotF
    rw [List.length_take, List.length_append]
  have e4 : (lotG F G u v).length = min v (G.filter fun z => !decide (z ∈ lotF F G u)).length := by
    unfold lotG
    rw [List.length_take]
  rw [List.length_take] at e2
  omega
section
variable {b : Bd} {n m : Nat}
theorem pooN_nd {q x : Nat} {tr : List Nat} : (pooN b n q x tr).Nodup := (List.nodup_range.filter _).filter _
theorem pooN_mem (hb : b.Ok n m) {q x z : Nat} {tr : List Nat} (hq : q < m) : z ∈ pooN b n q x tr ↔ z ∈ upN b q x tr := by
  rw [mem_upN hb hq]
  unfold pooN
  rw [List.mem_filter, mem_abS]
  simp
theorem upN_nd (hb : b.Ok n m) {q x : Nat} {tr : List Nat} (hq : q < m) (hx : x < n) : (upN b q x tr).Nodup := (up_len hb hq hx).2.filter _
theorem pooN_up (hb : b.Ok n m) {q x : Nat} {tr : List Nat} (hq : q < m) (hx : x < n) : (pooN b n q x tr).length = (upN b q x tr).length := nd_eq pooN_nd (upN_nd hb hq hx) fun z => pooN_mem hb hq
def shortB (b : Bd) (n i j k a c : Nat) : Prop := (lotF (pooN b n a j [i, j, k]) (pooN b n c i [i, j, k]) (room b a - 1)).length < room b a - 1 ∨ (lotG (pooN b n a j [i, j, k]) (pooN b n c i [i, j, k]) (room b a - 1) (room b c - 1)).length < room b c - 1
instance {b : Bd} {n i j k a c : Nat} : Decidable (shortB b n i j k a c) := by unfold shortB; infer_instance
theorem q_scarce (hb : b.Ok n m) {i j k a c : Nat} (hi : i < n) (hj : j < n) (hk : k < n) (ha : a < m) (hc : c < m) : triB b i j k a c = true ∧ ¬shortB b n i j k a c ↔ a ≠ c ∧ 0 < room b a ∧ 0 < room b c ∧ [i, j, k].Nodup ∧ Scarce b a c i j k := by
  have hli := lots_iff (F := pooN b n a j [i, j, k]) (G := pooN b n c i [i, j, k]) pooN_nd pooN_nd (room b a - 1) (room b c - 1)
  rw [pooN_up hb ha hj, pooN_up hb hc hi] at hli
  have hall : (room b a - 1 + (room b c - 1) ≤ (upN b a j [i, j, k]).length + ((pooN b n c i [i, j, k]).filter fun z => !decide (z ∈ pooN b n a j [i, j, k])).length) ↔ ∀ l : List Nat, l.Nodup → (∀ x, x ∈ l ↔ x ∈ upN b a j [i, j, k] ++ upN b c i [i, j, k]) → (room b a - 1) + (room b c - 1) ≤ l.length := by
    have hUn : (pooN b n a j [i, j, k] ++ (pooN b n c i [i, j, k]).filter fun z => !decide (z ∈ pooN b n a j [i, j, k])).Nodup := List.nodup_append.mpr ⟨pooN_nd, pooN_nd.filter _, fun x hx y hy e => by
      have := (List.mem_filter.mp hy).2
      rw [← e] at this
      simp [hx] at this⟩
    have hUm : ∀ x, x ∈ (pooN b n a j [i, j, k] ++ (pooN b n c i [i, j, k]).filter fun z => !decide (z ∈ pooN b n a j [i, j, k])) ↔ x ∈ upN b a j [i, j, k] ++ upN b c i [i, j, k] := fun x => by
      rw [List.mem_append, List.mem_append, List.mem_filter]
      have g1 : x ∈ pooN b n a j [i, j, k] ↔ x ∈ upN b a j [i, j, k] := pooN_mem hb ha
      have g2 : x ∈ pooN b n c i [i, j, k] ↔ x ∈ upN b c i [i, j, k] := pooN_mem hb hc
      rw [← g1, ← g2]
      by_cases hx : x ∈ pooN b n a j [i, j, k]
      · simp [hx]
      · simp [hx]
    have hUl : (pooN b n a j [i, j, k] ++ (pooN b n c i [i, j, k]).filter fun z => !decide (z ∈ pooN b n a j [i, j, k])).length = (upN b a j [i, j, k]).length + ((pooN b n c i [i, j, k]).filter fun z => !decide (z ∈ pooN b n a j [i, j, k])).length := by
      rw [List.length_append, pooN_up hb ha hj]
    rw [← hUl]
    refine ⟨fun h l hn hm => ?_, fun h => h _ hUn hUm⟩
    refine Nat.le_trans h (nd_sub hUn fun x hx => (hm x).mpr ((hUm x).mp hx))
  rw [hall] at hli
  have htri : triB b i j k a c = true ↔ ([i, j, k].Nodup ∧ a ≠ c ∧ 0 < room b a ∧ 0 < room b c) ∧ (rk b a i < rk b a j ∧ rk b a j < rk b a k) ∧ rk b c k < rk b c i := by
    unfold triB
    simp only [Bool.and_eq_true, Bool.not_eq_true', Bool.or_eq_false_iff, decide_eq_true_eq, decide_eq_false_iff_not, Bool.not_eq_false']
    constructor
    · rintro ⟨⟨h1, h2, h3, h4⟩, h5⟩
      exact ⟨⟨h1, h2, by omega, by omega⟩, h5⟩
    · rintro ⟨⟨h1, h2, h3, h4⟩, h5⟩
      exact ⟨⟨h1, h2, by omega, by omega⟩, h5⟩
  rw [htri]
  unfold shortB
  constructor
  · rintro ⟨⟨⟨h1, h2, h3, h4⟩, ⟨h5, h6⟩, h7⟩, h8⟩
    obtain ⟨g1, g2, g3⟩ := hli.mp h8
    exact ⟨h2, h3, h4, h1, ⟨h5, h6, Nat.le_of_lt h7, g1, g2, g3⟩⟩
  · rintro ⟨h2, h3, h4, h1, S⟩
    refine ⟨⟨⟨h1, h2, h3, h4⟩, ⟨S.ij, S.jk⟩, ?_⟩, hli.mpr ⟨S.one, S.two, S.all⟩⟩
    have hne : rk b c k ≠ rk b c i := fun e => by
      have := rk_injB hb hc hk hi e
      rw [this] at h1
      simp at h1
    have := S.ki
    omega
def tri3 (n : Nat) : List (Nat × Nat × Nat) := (List.range n).flatMap fun i => (List.range n).flatMap fun j => (List.range n).map fun k => (i, j, k)
def pr2 (m : Nat) : List (Nat × Nat) := (List.range m).flatMap fun a => (List.range m).map fun c => (a, c)
theorem mem_tri3 {x : Nat × Nat × Nat} : x ∈ tri3 n ↔ x.1 < n ∧ x.2.1 < n ∧ x.2.2 < n := by
  obtain ⟨i, j, k⟩ := x
  unfold tri3
  simp only [List.mem_flatMap, List.mem_range, List.mem_map, Prod.mk.injEq]
  constructor
  · rintro ⟨_, h1, _, h2, _, h3, rfl, rfl, rfl⟩
    exact ⟨h1, h2, h3⟩
  · rintro ⟨h1, h2, h3⟩
    exact ⟨_, h1, _, h2, _, h3, rfl, rfl, rfl⟩
theorem mem_pr2 {x : Nat × Nat} : x ∈ pr2 m ↔ x.1 < m ∧ x.2 < m := by
  obtain ⟨i, j⟩ := x
  unfold pr2
  simp only [List.mem_flatMap, List.mem_range, List.mem_map, Prod.mk.injEq]
  constructor
  · rintro ⟨_, h1, _, h2, rfl, rfl⟩
    exact ⟨h1, h2⟩
  · rintro ⟨h1, h2⟩
    exact ⟨_, h1, _, h2, rfl, rfl⟩
def qrE (b : Bd) (n i j k a c : Nat) : PyData := .tuple [nt i, nt j, nt k, nt a, nt c, tu nt ((List.range n).filter fun x => decide (x ∈ lotF (pooN b n a j [i, j, k]) (pooN b n c i [i, j, k]) (room b a - 1))), tu nt (lotG (pooN b n a j [i, j, k]) (pooN b n c i [i, j, k]) (room b a - 1) (room b c - 1))]
def qrK (b : Bd) (n i j k a c : Nat) : Option PyData := if triB b i j k a c = true ∧ ¬shortB b n i j k a c then some (qrE b n i j k a c) else none
def qrO (b : Bd) (n m : Nat) : Option PyData := (tri3 n).findSome? fun x => (pr2 m).findSome? fun y => qrK b n x.1 x.2.1 x.2.2 y.1 y.2
theorem qr_quiet (hb : b.Ok n m) : (qrO b n m).isNone = quietB b n m := by
  have hci := calm_iff hb
  cases hq : quietB b n m with
  | false =>
    obtain ⟨a, c, ha, hc, hac, ra, rc, i, j, k, hi, hj, hk, hnd, hS⟩ := hci.mpr (quiet_iff.mp hq)
    cases e : qrO b n m with
    | some d => rfl
    | none =>
      exfalso
      unfold qrO at e
      rw [List.findSome?_eq_none_iff] at e
      have e := e (i, j, k) (mem_tri3.mpr ⟨hi, hj, hk⟩)
      rw [List.findSome?_eq_none_iff] at e
      have e := e (a, c) (mem_pr2.mpr ⟨ha, hc⟩)
      unfold qrK at e
      rw [if_pos ((q_scarce hb hi hj hk ha hc).mpr ⟨hac, ra, rc, hnd, hS⟩)] at e
      cases e
  | true =>
    cases e : qrO b n m with
    | none => rfl
    | some d =>
      exfalso
      unfold qrO at e
      obtain ⟨x, hx, e⟩ := List.exists_of_findSome?_eq_some e
      obtain ⟨y, hy, e⟩ := List.exists_of_findSome?_eq_some e
      obtain ⟨hi, hj, hk⟩ := mem_tri3.mp hx
      obtain ⟨ha, hc⟩ := mem_pr2.mp hy
      unfold qrK at e
      split at e
      · next h =>
        obtain ⟨h1, h2, h3, h4, h5⟩ := (q_scarce hb hi hj hk ha hc).mp h
        have := quiet_iff.mpr (hci.mp ⟨y.1, y.2, ha, hc, h1, h2, h3, x.1, x.2.1, x.2.2, hi, hj, hk, h4, h5⟩)
        rw [hq] at this
        cases this
      · cases e
end
end Pl


namespace Pl
open PySem Mt
section
variable {b : Bd} {n m : Nat} {S : Sto} {π ρ : List Nat}
structure LotR (b : Bd) (n q x : Nat) (tr L : List Nat) : Prop where
  asc : L.Pairwise (· < ·)
  sub : ∀ z ∈ L, z ∈ pooN b n q x tr
  len : L.length = room b q - 1
def qV (i j k a c : Nat) (L1 L2 : List Nat) : PyData := .tuple [nt i, nt j, nt k, nt a, nt c, tu nt L1, tu nt L2]
structure QR (b : Bd) (n m i j k a c : Nat) (L1 L2 : List Nat) : Prop where
  hi : i < n
  hj : j < n
  hk : k < n
  ha : a < m
  hc : c < m
  tri : triB b i j k a c = true
  one : LotR b n a j [i, j, k] L1
  two : LotR b n c i [i, j, k] L2
  dis : ∀ z ∈ L1, z ∉ L2
theorem tri_rooms {i j k a c : Nat} (h : triB b i j k a c = true) : 0 < room b a ∧ 0 < room b c := by
  unfold triB at h
  simp only [Bool.and_eq_true, Bool.not_eq_true', Bool.or_eq_false_iff, decide_eq_false_iff_not] at h
  omega
theorem lotF_nd {F H : List Nat} (hF : F.Nodup) (u : Nat) : (lotF F H u).Nodup ∧ ∀ z ∈ lotF F H u, z ∈ F := by
  unfold lotF
  refine ⟨List.Nodup.sublist (List.take_sublist _ _) (List.nodup_append.mpr ⟨hF.filter _, hF.filter _, fun x hx y hy e => ?_⟩), fun x hx => ?_⟩
  · have h1 := (List.mem_filter.mp hx).2
    have h2 := (List.mem_filter.mp hy).2
    rw [e, h2] at h1
    cases h1
  · rcases List.mem_append.mp (List.mem_of_mem_take hx) with h | h
    · exact (List.mem_filter.mp h).1
    · exact (List.mem_filter.mp h).1
theorem pooN_lt {q x : Nat} {tr : List Nat} : ∀ z ∈ pooN b n q x tr, z < n := fun z hz => (mem_abS.mp (List.mem_filter.mp hz).1).1
theorem pooN_asc {q x : Nat} {tr : List Nat} : (pooN b n q x tr).Pairwise (· < ·) := (List.pairwise_lt_range.filter _).filter _
theorem told_qr {d : PyData} (h : qrO b n m = some d) : ∃ i j k a c L1 L2, QR b n m i j k a c L1 L2 ∧ d = qV i j k a c L1 L2 := by
  unfold qrO at h
  obtain ⟨⟨i, j, k⟩, hx, e⟩ := List.exists_of_findSome?_eq_some h
  obtain ⟨⟨a, c⟩, hy, e⟩ := List.exists_of_findSome?_eq_some e
  obtain ⟨hi, hj, hk⟩ := mem_tri3.mp hx
  obtain ⟨ha, hc⟩ := mem_pr2.mp hy
  unfold qrK at e
  split at e
  · next hh =>
    cases e
    obtain ⟨h1, h2⟩ := hh
    unfold shortB at h2
    dsimp only at h1 h2 hi hj hk ha hc
    have hF := lotF_nd (H := pooN b n c i [i, j, k]) (pooN_nd (b := b) (n := n) (q := a) (x := j) (tr := [i, j, k])) (room b a - 1)
    have hlF : (lotF (pooN b n a j [i, j, k]) (pooN b n c i [i, j, k]) (room b a - 1)).length ≤ room b a - 1 := by
      unfold lotF
      rw [List.length_take]
      omega
    have hlG : (lotG (pooN b n a j [i, j, k]) (pooN b n c i [i, j, k]) (room b a - 1) (room b c - 1)).length ≤ room b c - 1 := by
      unfold lotG
      rw [List.length_take]
      omega
    refine ⟨i, j, k, a, c, (List.range n).filter fun x => decide (x ∈ lotF (pooN b n a j [i, j, k]) (pooN b n c i [i, j, k]) (room b a - 1)), lotG (pooN b n a j [i, j, k]) (pooN b n c i [i, j, k]) (room b a - 1) (room b c - 1), ⟨hi, hj, hk, ha, hc, h1, ⟨List.pairwise_lt_range.filter _, fun z hz => ?_, ?_⟩, ⟨?_, fun z hz => ?_, by omega⟩, fun z hz hz2 => ?_⟩, rfl⟩
    · exact hF.2 z (of_decide_eq_true (List.mem_filter.mp hz).2)
    · rw [nd_eq (List.nodup_range.filter _) hF.1 fun z => ?_]
      · omega
      · rw [List.mem_filter, List.mem_range, decide_eq_true_eq]
        exact ⟨fun h => h.2, fun h => ⟨pooN_lt z (hF.2 z h), h⟩⟩
    · exact List.Pairwise.sublist (List.take_sublist _ _) (pooN_asc.filter _)
    · exact (List.mem_filter.mp (List.mem_of_mem_take hz)).1
    · have h3 := of_decide_eq_true (List.mem_filter.mp hz).2
      have h4 := (List.mem_filter.mp (List.mem_of_mem_take hz2)).2
      simp [h3] at h4
  · cases e
structure QO (b : Bd) (n m i j k a c : Nat) (L1 L2 : List Nat) : Prop where
  hi : i < n
  hj : j < n
  hk : k < n
  ha : a < m
  hc : c < m
  ac : a ≠ c
  ij : i ≠ j
  jk : j ≠ k
  ik : i ≠ k
  rij : rk b a i < rk b a j
  rjk : rk b a j < rk b a k
  rki : rk b c k < rk b c i
  n1 : L1.Nodup
  n2 : L2.Nodup
  l1 : L1.length + 1 = room b a
  l2 : L2.length + 1 = room b c
  u1 : ∀ z ∈ L1, z < n ∧ rk b a z < rk b a j ∧ z ≠ i ∧ z ≠ j ∧ z ≠ k
  u2 : ∀ z ∈ L2, z < n ∧ rk b c z < rk b c i ∧ z ≠ i ∧ z ≠ j ∧ z ≠ k
  dis : ∀ z ∈ L1, z ∉ L2
theorem QR.o {i j k a c : Nat} {L1 L2 : List Nat} (Q : QR b n m i j k a c L1 L2) : QO b n m i j k a c L1 L2 := by
  have ht := Q.tri
  unfold triB at ht
  simp only [Bool.and_eq_true, Bool.not_eq_true', Bool.or_eq_false_iff, decide_eq_true_eq, decide_eq_false_iff_not, Bool.not_eq_false'] at ht
  obtain ⟨⟨h1, h2, h3, h4⟩, ⟨h5, h6⟩, h7⟩ := ht
  have r1 := Q.one.len
  have r2 := Q.two.len
  have hu : ∀ q x z, z ∈ pooN b n q x [i, j, k] → z < n ∧ rk b q z < rk b q x ∧ z ≠ i ∧ z ≠ j ∧ z ≠ k := fun q x z hz => by
    obtain ⟨g1, g2⟩ := List.mem_filter.mp hz
    obtain ⟨g3, g4⟩ := mem_abS.mp g1
    simp at g2
    exact ⟨g3, g4, g2.1, g2.2.1, g2.2.2⟩
  simp at h1
  exact ⟨Q.hi, Q.hj, Q.hk, Q.ha, Q.hc, h2, h1.1.1, h1.2, h1.1.2, h5, h6, h7, Q.one.asc.imp fun h => Nat.ne_of_lt h, Q.two.asc.imp fun h => Nat.ne_of_lt h, by omega, by omega, fun z hz => hu a j z (Q.one.sub z hz), fun z hz => hu c i z (Q.two.sub z hz), Q.dis⟩
end
end Pl


namespace Pl
open PySem Mt
theorem prod_tri (n : Nat) : (prodL [mp nt (List.range n), mp nt (List.range n), mp nt (List.range n)]).map PyData.tuple = (tri3 n).map (p3 nt nt nt) := by
  simp [prodL, tri3, mp, List.map_flatMap, List.flatMap_map, Function.comp_def, p3]
  simp [List.map_eq_flatMap]
theorem prod_pr (m : Nat) : (prodL [mp nt (List.range m), mp nt (List.range m)]).map PyData.tuple = (pr2 m).map (p2 nt nt) := by
  simp [prodL, pr2, mp, List.map_flatMap, List.flatMap_map, Function.comp_def, p2]
  simp [List.map_eq_flatMap]
theorem tri3_len {n : Nat} (hn : n ≤ 7) : (tri3 n).length ≤ 400 := by
  have : n = 0 ∨ n = 1 ∨ n = 2 ∨ n = 3 ∨ n = 4 ∨ n = 5 ∨ n = 6 ∨ n = 7 := by omega
  rcases this with rfl | rfl | rfl | rfl | rfl | rfl | rfl | rfl <;> decide
theorem pr2_len {m : Nat} (hm : m ≤ 7) : (pr2 m).length ≤ 400 := by
  have : m = 0 ∨ m = 1 ∨ m = 2 ∨ m = 3 ∨ m = 4 ∨ m = 5 ∨ m = 6 ∨ m = 7 := by omega
  rcases this with rfl | rfl | rfl | rfl | rfl | rfl | rfl | rfl <;> decide
section
variable {b : Bd} {n m : Nat} {Γ : Fns} {S : Sto}
theorem it_lcp {η : En} {cl : List (Nat × Nat)} {dss : List (List PyData)} (h : srcL η cl = some dss) (h2 : cl.all (fun c => decide (c.1 < η.length)) = true) (h3 : (prodL dss).length ≤ lim) : evI Γ η (.seq (.lcp cl)) S = some (.items ((prodL dss).map .tuple), S) := by
  have : evE Γ η (.lcp cl) S = some (.v (.list ((prodL dss).map .tuple)), S) := by
    show lcpF cl η S = _
    unfold lcpF
    rw [h]
    simp only
    rw [h2, decide_eq_true h3]
    rfl
  simp [evI, this, srcOf, itemsOf]
theorem quarrel_ev (hb : b.Ok n m) (hn : n ≤ 7) (hm : m ≤ 7) (hpe : ∀ S, Γ f_people_of [.v b.e] S = some (.v (nt n), S)) (hpo : ∀ S, Γ f_posts_of [.v b.e] S = some (.v (nt m), S))
    (ht : ∀ i j k a c S, i < n → j < n → k < n → a < m → c < m → Γ f_is_triple [.v b.e, .v (.tuple [nt i, nt j, nt k]), .v (.tuple [nt a, nt c])] S = some (.v (.bool (triB b i j k a c)), S))
    (hl : ∀ i j k a c S, i < n → j < n → k < n → a < m → c < m → triB b i j k a c = true → Γ f_lots_of [.v b.e, .v (.tuple [nt i, nt j, nt k]), .v (.tuple [nt a, nt c])] S = some (.v (lotsD n (pooN b n a j [i, j, k]) (pooN b n c i [i, j, k]) (room b a - 1) (room b c - 1)), S)) :
    runF Γ d_quarrel [.v b.e] S = some (.v (oD (qrO b n m)), S) := by
  refine run_q rfl ?_
  show Ok (evB Γ b_quarrel [some (.v b.e), none, none, none, none, none, none, none, none, none, none] S) _
  have hr1 : ∀ S, evE Γ [some (.v b.e), none, none, none, none, none, none, none, none, none, none] (.lrng false (.rng1 (.call f_people_of (.cons (.var 0) .nil)))) S = some (.v (li nt (List.range n)), S) := fun S => ev_lrngN (by simp [hpe]) (by omega)
  have hr2 : ∀ S, evE Γ [some (.v b.e), none, none, none, none, none, none, none, none, none, none] (.lrng false (.rng1 (.call f_posts_of (.cons (.var 0) .nil)))) S = some (.v (li nt (List.range m)), S) := fun S => ev_lrngN (by simp [hpo]) (by omega)
  simp [b_quarrel, s_quarrel_6, hr1, hr2]
  refine ok_seq ?_
  unfold s_quarrel_5
  have hi3 : ∀ (a3 a7 a10 : Option Pl.W), evI Γ [some (.v b.e), some (.v (li nt (List.range n))), some (.v (li nt (List.range m))), a3, none, none, none, a7, none, none, a10] (.seq x_quarrel_0) S = some (.items ((tri3 n).map (p3 nt nt nt)), S) := fun a3 a7 a10 => by
    rw [← prod_tri]
    refine it_lcp (by rfl) (by rfl) ?_
    have := congrArg List.length (prod_tri n)
    rw [List.length_map, List.length_map] at this
    rw [this]
    exact lm1000 (by have := tri3_len hn; omega)
  have hi2 : ∀ (a3 a7 a10 : Option Pl.W), evI Γ [some (.v b.e), some (.v (li nt (List.range n))), some (.v (li nt (List.range m))), a3, none, none, none, a7, none, none, a10] (.seq x_quarrel_1) S = some (.items ((pr2 m).map (p2 nt nt)), S) := fun a3 a7 a10 => by
    rw [← prod_pr]
    refine it_lcp (by rfl) (by rfl) ?_
    have := congrArg List.length (prod_pr m)
    rw [List.length_map, List.length_map] at this
    rw [this]
    exact lm1000 (by have := pr2_len hm; omega)
  refine ok_mono (for_find (S' := S) (f := p3 nt nt nt) (xs := tri3 n) (g := fun x => (pr2 m).findSome? fun y => qrK b n x.1 x.2.1 x.2.2 y.1 y.2) (fun η => ∃ a3 a7 a10, η = [some (.v b.e), some (.v (li nt (List.range n))), some (.v (li nt (List.range m))), a3, none, none, none, a7, none, none, a10]) (hi3 _ _ _) ⟨_, _, _, rfl⟩ ?_) ?_
  · rintro ⟨i, j, k⟩ hx η ⟨a3, a7, a10, rfl⟩
    obtain ⟨hi, hj, hk⟩ := mem_tri3.mp hx
    simp [bindT, setAll]
    refine ok_seq ?_
    unfold s_quarrel_4
    refine ok_mono (for_find (S' := S) (f := p2 nt nt) (xs := pr2 m) (g := fun y => qrK b n i j k y.1 y.2) (fun η => ∃ a7 a10, η = [some (.v b.e), some (.v (li nt (List.range n))), some (.v (li nt (List.range m))), some (.v (p3 nt nt nt (i, j, k))), none, none, none, a7, none, none, a10]) (hi2 _ _ _) ⟨_, _, rfl⟩ ?_) ?_
    · rintro ⟨a, c⟩ hy η ⟨a7, a10, rfl⟩
      obtain ⟨ha, hc⟩ := mem_pr2.mp hy
      have h1 : ∀ S, Γ f_is_triple [.v b.e, .v (p3 nt nt nt (i, j, k)), .v (p2 nt nt (a, c))] S = some (.v (.bool (triB b i j k a c)), S) := fun S => ht i j k a c S hi hj hk ha hc
      unfold qrK
      cases e : triB b i j k a c with
      | false =>
        rw [e] at h1
        simp [bindT, setAll, s_quarrel_3, h1, FindP]
      | true =>
        rw [e] at h1
        have h2 : ∀ S, Γ f_lots_of [.v b.e, .v (p3 nt nt nt (i, j, k)), .v (p2 nt nt (a, c))] S = some (.v (lotsD n (pooN b n a j [i, j, k]) (pooN b n c i [i, j, k]) (room b a - 1) (room b c - 1)), S) := fun S => hl i j k a c S hi hj hk ha hc e
        have hN : isNoneD PyData.none = true := rfl
        by_cases q : shortB b n i j k a c
        · have h3 : lotsD n (pooN b n a j [i, j, k]) (pooN b n c i [i, j, k]) (room b a - 1) (room b c - 1) = .none := if_pos q
          rw [if_neg fun h => h.2 q]
          simp only [h3] at h2
          simp [bindT, setAll, s_quarrel_3, h1, s_quarrel_2, h2, s_quarrel_1, hN, FindP]
        · have h3 : lotsD n (pooN b n a j [i, j, k]) (pooN b n c i [i, j, k]) (room b a - 1) (room b c - 1) = .tuple [tu nt ((List.range n).filter fun x => decide (x ∈ lotF (pooN b n a j [i, j, k]) (pooN b n c i [i, j, k]) (room b a - 1))), tu nt (lotG (pooN b n a j [i, j, k]) (pooN b n c i [i, j, k]) (room b a - 1) (room b c - 1))] := if_neg q
          rw [if_pos ⟨rfl, q⟩]
          simp only [h3] at h2
          unfold qrE
          generalize lotG (pooN b n a j [i, j, k]) (pooN b n c i [i, j, k]) (room b a - 1) (room b c - 1) = LG at *
          generalize ((List.range n).filter fun x => decide (x ∈ lotF (pooN b n a j [i, j, k]) (pooN b n c i [i, j, k]) (room b a - 1))) = LS at *
          have hM : isNoneD (PyData.tuple [tu nt LS, tu nt LG]) = false := rfl
          have a1 : boD .add (p3 nt nt nt (i, j, k)) (p2 nt nt (a, c)) = some (.tuple [nt i, nt j, nt k, nt a, nt c]) := rfl
          have a2 : boD .add (.tuple [nt i, nt j, nt k, nt a, nt c]) (.tuple [tu nt LS, tu nt LG]) = some (.tuple [nt i, nt j, nt k, nt a, nt c, tu nt LS, tu nt LG]) := rfl
          simp [bindT, setAll, s_quarrel_3, h1, s_quarrel_2, h2, s_quarrel_1, hM, s_quarrel_0, a1, a2, FindP]
    · intro o ho
      cases o with
      | nx η S1 =>
        obtain ⟨q1, ⟨a7, a10, rfl⟩, rfl⟩ := ho
        simp [nextB]
        exact ⟨q1, ⟨_, _, _, rfl⟩, rfl⟩
      | ct η S1 => exact ho.elim
      | rt w S1 => exact ho
      | bk η S1 => exact ho.elim
  · intro o ho
    have ho : FindQ _ S (qrO b n m) o := ho
    generalize qrO b n m = r at *
    cases o with
    | nx η S1 =>
      obtain ⟨rfl, ⟨a3, a7, a10, rfl⟩, rfl⟩ := ho
      simp [nextB, oD]
    | ct η S1 => exact ho.elim
    | rt w S1 =>
      obtain ⟨d, rfl, rfl, rfl⟩ := ho
      exact ⟨[], by simp [oD]⟩
    | bk η S1 => exact ho.elim
theorem is_calm_ev (hb : b.Ok n m) (hq : ∀ S, Γ f_quarrel [.v b.e] S = some (.v (oD (qrO b n m)), S)) : runF Γ d_is_calm [.v b.e] S = some (.v (.bool (quietB b n m)), S) := by
  refine run_v0 rfl ?_
  show evB Γ b_is_calm [some (.v b.e)] S = _
  rw [← qr_quiet hb]
  have hN : isNoneD PyData.none = true := rfl
  cases h : qrO b n m with
  | none =>
    rw [h] at hq
    have hq : ∀ S, Γ f_quarrel [.v b.e] S = some (.v .none, S) := hq
    simp [b_is_calm, s_is_calm_0, hq, hN]
  | some d =>
    rw [h] at hq
    have hq : ∀ S, Γ f_quarrel [.v b.e] S = some (.v d, S) := hq
    have hd : isNoneD d = false := by
      unfold qrO at h
      obtain ⟨x, hx, e⟩ := List.exists_of_findSome?_eq_some h
      obtain ⟨y, hy, e⟩ := List.exists_of_findSome?_eq_some e
      unfold qrK at e
      split at e
      · cases e; rfl
      · cases e
    simp [b_is_calm, s_is_calm_0, hq, hd]
end
end Pl


namespace Pl
open PySem Mt
namespace T2
def x_Ltriples_0 : Pl.Ex := .lc (.tup (.cons (.var 2) (.cons (.var 3) (.cons (.var 4) .nil)))) [4] false (.rng1 (.var 0)) (.con (.bool true))
def s_Ltriples_0 : Pl.St := .loop [3] false (.rng1 (.var 0)) (.cons (.ext 1 x_Ltriples_0) .nil)
def s_Ltriples_1 : Pl.St := .loop [2] false (.rng1 (.var 0)) (.cons s_Ltriples_0 .nil)
def b_Ltriples : Pl.Bk := (.cons (.asg 1 (.cell (.lst .nil))) (.cons s_Ltriples_1 (.cons (.fz 1) (.cons (.ret (.var 1)) .nil))))
def d_Ltriples : Pl.Fd := { name := (Str.ofString "_law_triples"), ps := [(Str.ofString "_law_many")], ns := [(Str.ofString "_law_many"), (Str.ofString "_law_found"), (Str.ofString "_law_i"), (Str.ofString "_law_j"), (Str.ofString "_law_k")], fr := false, body := b_Ltriples }
end T2
/-- two tables whose defs do the same -/
inductive SameT : List (Nat × Fd) → List (Nat × Fd) → Prop
  | nil : SameT [] []
  | same {i : Nat} {d : Fd} {A B : List (Nat × Fd)} (t : SameT A B) : SameT ((i, d) :: A) ((i, d) :: B)
  | cons {i : Nat} {d d' : Fd} {A B : List (Nat × Fd)} (h : ∀ Γ ws S, runF Γ d ws S = runF Γ d' ws S) (t : SameT A B) : SameT ((i, d) :: A) ((i, d') :: B)
theorem SameT.look {Γ : Fns} {ws : List Pl.W} {S : Sto} {j : Nat} : ∀ {A B : List (Nat × Fd)}, SameT A B → ((A.lookup j).bind fun f => runF Γ f ws S) = (B.lookup j).bind fun f => runF Γ f ws S
  | _, _, .nil => rfl
  | _, _, .same (i := i) t => by
    rw [List.lookup_cons, List.lookup_cons]
    cases e : j == i with
    | true => rfl
    | false => exact t.look
  | _, _, .cons (i := i) h t => by
    rw [List.lookup_cons, List.lookup_cons]
    cases e : j == i with
    | true => exact h _ _ _
    | false => exact t.look
def trq (n i j : Nat) : List (Nat × Nat × Nat) := (List.range n).map fun k => (i, j, k)
section
variable {b : Bd} {n m : Nat} {Γ : Fns} {S : Sto} {i j k a c : Nat}
theorem trq_len {i j : Nat} : (trq n i j).length = n := by simp [trq]
theorem Ltriples2_ev (hn : n ≤ 7) : runF Γ T2.d_Ltriples [.v (nt n)] S = some (.v (li (p3 nt nt nt) (tri3 n)), S) := by
  refine run_q rfl ?_
  show Ok (evB Γ T2.b_Ltriples [some (.v (nt n)), none, none, none, none] S) _
  simp [T2.b_Ltriples]
  refine ok_seq ?_
  unfold T2.s_Ltriples_1
  refine for1 (S' := S ++ [.lst []]) (f := nt) (xs := List.range n) (fun pre η S' => ∃ a2 a3 a4, η = [some (.v (nt n)), some (.r S.length), a2, a3, a4] ∧ S' = S ++ [.lst (mp (p3 nt nt nt) (pre.flatMap fun i => (List.range n).flatMap fun j => trq n i j))]) (it_rng (by simp) (by omega)) ⟨_, _, _, rfl, rfl⟩ ?_ ?_
  · rintro pre i post η S' hx ⟨a2, a3, a4, rfl, rfl⟩
    have hpl : pre.length ≤ 7 := by have h := congrArg List.length hx; simp at h; omega
    have hl1 := flat_len (l := pre) (g := fun i => (List.range n).flatMap fun j => trq n i j) (k := 49) fun i _ => Nat.le_trans (flat_len (l := List.range n) (g := trq n i) (k := 7) fun j _ => by rw [trq_len]; exact hn) (by simp; omega)
    have hcat : (pre ++ [i]).flatMap (fun i => (List.range n).flatMap fun j => trq n i j) = (pre.flatMap fun i => (List.range n).flatMap fun j => trq n i j) ++ (List.range n).flatMap fun j => trq n i j := by simp
    rw [hcat]
    generalize (pre.flatMap fun i => (List.range n).flatMap fun j => trq n i j) = A at *
    simp
    refine ok_seq ?_
    unfold T2.s_Ltriples_0
    refine for1 (S' := S ++ [.lst (mp (p3 nt nt nt) A)]) (f := nt) (xs := List.range n) (fun pre2 η S' => ∃ a3 a4, η = [some (.v (nt n)), some (.r S.length), some (.v (nt i)), a3, a4] ∧ S' = S ++ [.lst (mp (p3 nt nt nt) (A ++ pre2.flatMap (trq n i)))]) (it_rng (by simp) (by omega)) ⟨_, _, rfl, by simp⟩ ?_ ?_
    · rintro pre2 j post2 η S' hx2 ⟨a3, a4, rfl, rfl⟩
      have hpl2 : pre2.length ≤ 7 := by have h := congrArg List.length hx2; simp at h; omega
      have hl2 := flat_len (l := pre2) (g := trq n i) (k := 7) fun j _ => by rw [trq_len]; exact hn
      have hl3 : (trq n i j).length = n := trq_len
      have hcat2 : A ++ (pre2 ++ [j]).flatMap (trq n i) = (A ++ pre2.flatMap (trq n i)) ++ trq n i j := by simp
      rw [hcat2]
      have hAl : (A ++ pre2.flatMap (trq n i)).length ≤ 400 := by rw [List.length_append]; omega
      generalize A ++ pre2.flatMap (trq n i) = A2 at *
      have e2 : ∀ a4 S', evE Γ [some (.v (nt n)), some (.r S.length), some (.v (nt i)), some (.v (nt j)), a4] T2.x_Ltriples_0 S' = some (.v (li (p3 nt nt nt) (trq n i j)), S') := fun a4 S' => by
        refine lc1m (f := nt) (fun k => (i, j, k)) (p3 nt nt nt) (it_rng (by simp) (by omega)) (fun k hk => ?_) (lm100 (by simp; omega))
        simp [p3]
      have hsz : A2.length + (trq n i j).length ≤ lim := lm1000 (by omega)
      generalize trq n i j = gr at *
      simp [e2, hsz, loopP]
    · rintro η S' ⟨a3, a4, rfl, rfl⟩
      simp [nextB, loopP]
  · rintro η S' ⟨a2, a3, a4, rfl, rfl⟩
    have ht : ((List.range n).flatMap fun i => (List.range n).flatMap fun j => trq n i j) = tri3 n := rfl
    rw [ht]
    generalize tri3 n = L
    simp [nextB]
theorem setD_le {l : List Nat} (h : l.length < 64) : ∃ k : Nat, setD false (tu nt l) = some (nt k) ∧ k ≤ l.length ∧ (k = l.length ↔ l.Nodup) := by
  obtain ⟨k, e, hk⟩ := setD_any h
  refine ⟨k, e, ?_, hk⟩
  have e2 : setD false (tu nt l) = some (nt (setI (l.map fun i : Nat => (i : Int))).length) := by
    unfold setD
    show (intsOf (mp nt l)).bind _ = _
    rw [ints_mp]
    show (if (l.map fun i : Nat => (i : Int)).length < 64 then some (PyData.int ((setI (l.map fun i : Nat => (i : Int))).length : Nat)) else none) = _
    rw [List.length_map, if_pos h]
  rw [e] at e2
  have e3 := PyData.int.inj (Option.some.inj e2)
  have h3 := eraseDups_le _ (l.map fun i : Nat => (i : Int)) (Nat.le_refl _)
  rw [← setI_len, List.length_map] at h3
  omega
theorem set_cnt {l : List Nat} {n : Nat} (hlt : ∀ x ∈ l, x < n) (hl : l.length < 64) : setD false (li nt l) = some (nt ((List.range n).filter fun x => decide (x ∈ l)).length) := by
  have h := set_liF hlt hl
  unfold setD at h ⊢
  have h : (intsOf (mp nt l)).bind _ = _ := h
  rw [ints_mp] at h
  have h : (if (l.map fun i : Nat => (i : Int)).length < 64 then some (PyData.list ((setI (l.map fun i : Nat => (i : Int))).map .int)) else none) = _ := h
  rw [List.length_map, if_pos hl] at h
  have h2 := congrArg List.length (PyData.list.inj (Option.some.inj h))
  rw [List.length_map] at h2
  show (intsOf (mp nt l)).bind _ = _
  rw [ints_mp]
  show (if (l.map fun i : Nat => (i : Int)).length < 64 then some (PyData.int ((setI (l.map fun i : Nat => (i : Int))).length : Nat)) else none) = _
  rw [List.length_map, if_pos hl, h2]
  simp [mp]
theorem Lis_crossed_ev (hb : b.Ok n m) (hi : i < n) (hj : j < n) (hk : k < n) (ha : a < m) (hc : c < m) :
    runF Γ d_Lis_crossed [.v b.e, .v (.tuple [nt i, nt j, nt k]), .v (.tuple [nt a, nt c])] S = some (.v (.bool (triB b i j k a c)), S) := by
  refine run_v0 rfl ?_
  show evB Γ b_Lis_crossed [some (.v b.e), some (.v (.tuple [nt i, nt j, nt k])), some (.v (.tuple [nt a, nt c])), none, none, none, none, none] S = _
  have r1 := bd_get hb ha
  have r2 := bd_get hb hc
  have o1 := ord_get hb ha
  have o2 := ord_get hb hc
  have hia : i ∈ ord b a := (Ord.mem (ord_perm hb ha) i).mpr hi
  have hja : j ∈ ord b a := (Ord.mem (ord_perm hb ha) j).mpr hj
  have hka : k ∈ ord b a := (Ord.mem (ord_perm hb ha) k).mpr hk
  have hic : i ∈ ord b c := (Ord.mem (ord_perm hb hc) i).mpr hi
  have hkc : k ∈ ord b c := (Ord.mem (ord_perm hb hc) k).mpr hk
  obtain ⟨z, z1, z2, z3⟩ := setD_le (l := [i, j, k]) (by simp)
  have z1 : setD false (.tuple [nt i, nt j, nt k]) = some (nt z) := z1
  have z2 : z ≤ 3 := z2
  have z3 : z = 3 ↔ [i, j, k].Nodup := z3
  have k0 : coD .lt (.int (z : Int)) (.int 3) = some (!decide [i, j, k].Nodup) := by
    have := co_ltNN z 3
    refine this.trans (congrArg some ?_)
    rw [← decide_not]
    exact decide_eq_decide.mpr ⟨fun h e => by have := z3.mpr e; omega, fun h => by
      rcases Nat.lt_or_ge z 3 with h2 | h2
      · exact h2
      · exact absurd (z3.mp (by omega)) h⟩
  have k1 : coD .lt (.int ((min (room b a) (room b c) : Nat) : Int)) (.int 1) = some (decide (min (room b a) (room b c) < 1)) := co_ltNN _ 1
  have k2 : decide (min (room b a) (room b c) < 1) = (decide (room b a < 1) || decide (room b c < 1)) := by
    rw [← Bool.decide_or]
    exact decide_eq_decide.mpr ⟨fun h => by omega, fun h => by omega⟩
  have hmin : blD .min2 [.int (room b a : Int), .int (room b c : Int)] = some (.int ((min (room b a) (room b c) : Nat) : Int)) := min2_nn _ _
  have hp : asTup (.tuple [nt i, nt j, nt k]) = some [nt i, nt j, nt k] := rfl
  unfold triB rk
  generalize min (room b a) (room b c) = mn at *
  generalize room b a = ra at *
  generalize room b c = rc at *
  generalize decide [i, j, k].Nodup = zz at *
  cases zz with
  | false => simp [b_Lis_crossed, s_Lis_crossed_3, z1, k0]
  | true =>
    by_cases e1 : a = c
    · simp [b_Lis_crossed, s_Lis_crossed_3, z1, k0, e1]
    · rw [k2] at k1
      cases e2 : (decide (ra < 1) || decide (rc < 1)) with
      | true =>
        rw [e2] at k1
        have e3 : decide (a = c) = false := decide_eq_false e1
        simp only [e3, Bool.not_true, Bool.false_or]
        simp [b_Lis_crossed, s_Lis_crossed_3, z1, k0, e1, r1, r2, hmin, k1]
      | false =>
        rw [e2] at k1
        have e3 : decide (a = c) = false := decide_eq_false e1
        simp only [e3, Bool.not_true, Bool.false_or]
        generalize ord b a = oa at *
        generalize ord b c = oc at *
        by_cases e4 : oa.idxOf i < oa.idxOf j
        · by_cases e5 : oa.idxOf j < oa.idxOf k
          · simp [b_Lis_crossed, s_Lis_crossed_3, z1, k0, e1, r1, r2, hmin, k1, s_Lis_crossed_2, o1, o2, s_Lis_crossed_1, hp, s_Lis_crossed_0, hia, hja, hka, hic, hkc, e4, e5]
          · simp [b_Lis_crossed, s_Lis_crossed_3, z1, k0, e1, r1, r2, hmin, k1, s_Lis_crossed_2, o1, o2, s_Lis_crossed_1, hp, s_Lis_crossed_0, hia, hja, hka, hic, hkc, e4, e5]
        · simp [b_Lis_crossed, s_Lis_crossed_3, z1, k0, e1, r1, r2, hmin, k1, s_Lis_crossed_2, o1, o2, s_Lis_crossed_1, hp, s_Lis_crossed_0, hia, hja, hka, hic, hkc, e4]
/-- whether there are lots, by the law's three counts -/
def lotB (b : Bd) (n i j k a c : Nat) : Bool :=
  !(decide ((upN b a j [i, j, k]).length < room b a - 1) || decide ((upN b c i [i, j, k]).length < room b c - 1)) && decide ((room b a - 1) + (room b c - 1) ≤ ((List.range n).filter fun x => decide (x ∈ upN b a j [i, j, k] ++ upN b c i [i, j, k])).length)
theorem upN_ltP (hb : b.Ok n m) {q x z : Nat} {tr : List Nat} (hq : q < m) (h : z ∈ upN b q x tr) : z < n := ((mem_abv hb hq).mp (List.mem_filter.mp h).1).1
theorem lot_iff (hb : b.Ok n m) (hi : i < n) (hj : j < n) (hk : k < n) (ha : a < m) (hc : c < m) (ht : triB b i j k a c = true) : lotB b n i j k a c = true ↔ ¬shortB b n i j k a c := by
  have hq := q_scarce hb hi hj hk ha hc
  have hU : ∀ x, x ∈ ((List.range n).filter fun x => decide (x ∈ upN b a j [i, j, k] ++ upN b c i [i, j, k])) ↔ x ∈ upN b a j [i, j, k] ++ upN b c i [i, j, k] := fun x => by
    rw [List.mem_filter, List.mem_range, decide_eq_true_eq]
    refine ⟨fun h => h.2, fun h => ⟨?_, h⟩⟩
    rcases List.mem_append.mp h with h | h
    · exact upN_ltP hb ha h
    · exact upN_ltP hb hc h
  have hUn : ((List.range n).filter fun x => decide (x ∈ upN b a j [i, j, k] ++ upN b c i [i, j, k])).Nodup := List.nodup_range.filter _
  have htr := ht
  unfold triB at htr
  simp only [Bool.and_eq_true, Bool.not_eq_true', Bool.or_eq_false_iff, decide_eq_true_eq, decide_eq_false_iff_not, Bool.not_eq_false'] at htr
  obtain ⟨⟨h1, h2, h3, h4⟩, ⟨h5, h6⟩, h7⟩ := htr
  unfold lotB
  simp only [Bool.and_eq_true, Bool.not_eq_true', Bool.or_eq_false_iff, decide_eq_true_eq, decide_eq_false_iff_not]
  constructor
  · rintro ⟨⟨g1, g2⟩, g3⟩
    refine (hq.mpr ⟨h2, by omega, by omega, h1, ⟨h5, h6, Nat.le_of_lt h7, by omega, by omega, fun l hl hm => ?_⟩⟩).2
    rw [nd_eq hl hUn fun x => (hm x).trans (hU x).symm]
    exact g3
  · intro hs
    obtain ⟨_, _, _, _, hS⟩ := hq.mp ⟨ht, hs⟩
    have := hS.one
    have := hS.two
    exact ⟨⟨by omega, by omega⟩, hS.all _ hUn hU⟩
theorem Lhas_lots_ev (hb : b.Ok n m) (hn : n ≤ 7) (hi : i < n) (hj : j < n) (hk : k < n) (ha : a < m) (hc : c < m) (ra : 0 < room b a) (rc : 0 < room b c) (hab : ∀ q x S, q < m → x < n → Γ f_Labove [.v b.e, .v (nt q), .v (nt x)] S = some (.v (li nt (abv b q x)), S)) :
    runF Γ d_Lhas_lots [.v b.e, .v (.tuple [nt i, nt j, nt k]), .v (.tuple [nt a, nt c])] S = some (.v (.bool (lotB b n i j k a c)), S) := by
  refine run_q rfl ?_
  show Ok (evB Γ b_Lhas_lots [some (.v b.e), some (.v (.tuple [nt i, nt j, nt k])), some (.v (.tuple [nt a, nt c])), none, none, none, none, none] S) _
  have hab1 := fun S => hab a j S ha hj
  have hab2 := fun S => hab c i S hc hi
  have r1 := bd_get hb ha
  have r2 := bd_get hb hc
  have hnin : ∀ x : Nat, coD .nin (.int (x : Int)) (.tuple [nt i, nt j, nt k]) = some (!decide (x ∈ [i, j, k])) := fun x => co_nin (f := nt) x [i, j, k] (by decide)
  have e0 : ∀ w3 S, evE Γ [some (.v b.e), some (.v (.tuple [nt i, nt j, nt k])), some (.v (.tuple [nt a, nt c])), w3, none, none, none, none] x_Lhas_lots_0 S = some (.v (li nt [room b a - 1, room b c - 1]), S) := fun w3 S => by
    refine lc1m (f := nt) (xs := [a, c]) (fun q => room b q - 1) nt (it_tu (by simp; rfl)) (fun q hq => ?_) (lm100 (by simp))
    simp only [List.mem_cons, List.not_mem_nil, or_false] at hq
    rcases hq with rfl | rfl
    · simp [r1, ra]
    · simp [r2, rc]
  simp [b_Lhas_lots, s_Lhas_lots_3, e0]
  refine ok_seq ?_
  unfold s_Lhas_lots_2
  refine for2 (S' := S ++ [.lst []]) (f := fun y : Nat × Nat => nt y.1) (g := fun y : Nat × Nat => nt y.2) (xs := [(a, j), (c, i)]) (fun pre η S' => ∃ a5 a6, η = [some (.v b.e), some (.v (.tuple [nt i, nt j, nt k])), some (.v (.tuple [nt a, nt c])), some (.r S.length), some (.v (li nt [room b a - 1, room b c - 1])), a5, a6, none] ∧ S' = S ++ [.lst (mp (li nt) (pre.map fun y => upN b y.1 y.2 [i, j, k]))]) (it_zipX (S1 := S ++ [.lst []]) (S' := S ++ [.lst []]) (f := nt) (g := nt) (xs := [a, c]) (ys := [j, i]) (d1 := .tuple [nt a, nt c]) (d2 := .list [nt j, nt i]) (by simp) (by simp) rfl rfl) ⟨_, _, rfl, rfl⟩ ?_ ?_
  · rintro pre y post η S' hx ⟨a5, a6, rfl, rfl⟩
    have hy : y.1 < m ∧ y.2 < n := by
      have : y ∈ [(a, j), (c, i)] := by rw [hx]; simp
      simp only [List.mem_cons, List.not_mem_nil, or_false] at this
      rcases this with rfl | rfl
      · exact ⟨ha, hj⟩
      · exact ⟨hc, hi⟩
    have hab3 := fun S => hab y.1 y.2 S hy.1 hy.2
    have hpl : pre.length ≤ 2 := by have h := congrArg List.length hx; simp at h; omega
    have e1 : ∀ S', evE Γ [some (.v b.e), some (.v (.tuple [nt i, nt j, nt k])), some (.v (.tuple [nt a, nt c])), some (.r S.length), some (.v (li nt [room b a - 1, room b c - 1])), some (.v (nt y.1)), some (.v (nt y.2)), none] x_Lhas_lots_1 S' = some (.v (li nt (upN b y.1 y.2 [i, j, k])), S') := fun S' => by
      have hal := abv_len hb hy.1 (p := y.2)
      have := lc1 (Γ := Γ) (S := S') (S' := S') (η := [some (.v b.e), some (.v (.tuple [nt i, nt j, nt k])), some (.v (.tuple [nt a, nt c])), some (.r S.length), some (.v (li nt [room b a - 1, room b c - 1])), some (.v (nt y.1)), some (.v (nt y.2)), none]) (elt := .var 7) (i := 7) (it := .seq (.call f_Labove (.cons (.var 0) (.cons (.var 5) (.cons (.var 6) .nil))))) (c := .cmp .nin (.var 7) (.var 1)) (xs := abv b y.1 y.2) (f := nt) (fun x => !decide (x ∈ [i, j, k])) id nt (it_li (by simp [hab3])) (fun x hx => by simp only [List.set]; simp [hnin]) (fun x hx _ => by simp) (lm100 (by omega))
      rw [List.map_id] at this
      exact this
    have hcat : (pre ++ [y]).map (fun y => upN b y.1 y.2 [i, j, k]) = pre.map (fun y => upN b y.1 y.2 [i, j, k]) ++ [upN b y.1 y.2 [i, j, k]] := by simp
    rw [hcat]
    have hml : (pre.map fun y => upN b y.1 y.2 [i, j, k]).length < lim := lt100 (by rw [List.length_map]; omega)
    generalize (pre.map fun y => upN b y.1 y.2 [i, j, k]) = M at *
    simp [e1, hml, loopP]
    simp [mp]
  · rintro η S' ⟨a5, a6, rfl, rfl⟩
    have hP : mp (li nt) ([(a, j), (c, i)].map fun y => upN b y.1 y.2 [i, j, k]) = [li nt (upN b a j [i, j, k]), li nt (upN b c i [i, j, k])] := rfl
    rw [hP]
    have hl1 : (upN b a j [i, j, k]).length ≤ 7 := Nat.le_trans (List.length_filter_le _ _) (Nat.le_trans (abv_len hb ha (p := j)) hn)
    have hl2 : (upN b c i [i, j, k]).length ≤ 7 := Nat.le_trans (List.length_filter_le _ _) (Nat.le_trans (abv_len hb hc (p := i)) hn)
    have hset := set_cnt (n := n) (l := upN b a j [i, j, k] ++ upN b c i [i, j, k]) (fun x hx => by
      rcases List.mem_append.mp hx with h | h
      · exact upN_ltP hb ha h
      · exact upN_ltP hb hc h) (by rw [List.length_append]; omega)
    have hadd : boD .add (li nt (upN b a j [i, j, k])) (li nt (upN b c i [i, j, k])) = some (li nt (upN b a j [i, j, k] ++ upN b c i [i, j, k])) := add_li (lm100 (by omega))
    unfold lotB
    generalize ((List.range n).filter fun x => decide (x ∈ upN b a j [i, j, k] ++ upN b c i [i, j, k])).length = z at *
    generalize upN b a j [i, j, k] ++ upN b c i [i, j, k] = PQ at *
    generalize upN b a j [i, j, k] = P at *
    generalize upN b c i [i, j, k] = Q at *
    generalize room b a - 1 = wa at *
    generalize room b c - 1 = wc at *
    have hs : blD .sum [li nt [wa, wc]] = some (nt (wa + wc)) := (sum_li [wa, wc]).trans (by simp)
    have hge : coD .ge (.int (z : Int)) (.int ((wa + wc : Nat) : Int)) = some (decide (wa + wc ≤ z)) := co_geNN _ _
    have a0 : atD (.list [li nt P, li nt Q]) (.int 0) = some (li nt P) := rfl
    have a1 : atD (.list [li nt P, li nt Q]) (.int 1) = some (li nt Q) := rfl
    have b0 : atD (li nt [wa, wc]) (.int 0) = some (nt wa) := rfl
    have b1 : atD (li nt [wa, wc]) (.int 1) = some (nt wc) := rfl
    generalize li nt [wa, wc] = WW at *
    by_cases q1 : P.length < wa
    · simp [nextB, s_Lhas_lots_1, a0, b0, q1]
    · by_cases q2 : Q.length < wc
      · simp [nextB, s_Lhas_lots_1, a0, b0, q1, a1, b1, q2]
      · simp [nextB, s_Lhas_lots_1, a0, b0, q1, a1, b1, q2, s_Lhas_lots_0, hadd, hset, hs, hge, -co_geI]
/-- what the law's search for a quarrel comes to -/
def clO (b : Bd) (n m : Nat) : Option PyData := (List.range m).findSome? fun a => (List.range m).findSome? fun c => (tri3 n).findSome? fun x => if triB b x.1 x.2.1 x.2.2 a c && lotB b n x.1 x.2.1 x.2.2 a c then some (.bool false) else none
theorem cl_quiet (hb : b.Ok n m) : (clO b n m).isNone = quietB b n m := by
  rw [← qr_quiet hb]
  have hK : ∀ i j k a c, i < n → j < n → k < n → a < m → c < m → ((triB b i j k a c && lotB b n i j k a c) = true ↔ triB b i j k a c = true ∧ ¬shortB b n i j k a c) := fun i j k a c hi hj hk ha hc => by
    rw [Bool.and_eq_true]
    exact ⟨fun h => ⟨h.1, (lot_iff hb hi hj hk ha hc h.1).mp h.2⟩, fun h => ⟨h.1, (lot_iff hb hi hj hk ha hc h.1).mpr h.2⟩⟩
  have : clO b n m = none ↔ qrO b n m = none := by
    unfold clO qrO
    simp only [List.findSome?_eq_none_iff]
    constructor
    · intro h x hx y hy
      obtain ⟨hi, hj, hk⟩ := mem_tri3.mp hx
      obtain ⟨ha, hc⟩ := mem_pr2.mp hy
      have := h y.1 (List.mem_range.mpr ha) y.2 (List.mem_range.mpr hc) x hx
      unfold qrK
      rw [if_neg]
      intro h2
      rw [if_pos ((hK _ _ _ _ _ hi hj hk ha hc).mpr h2)] at this
      cases this
    · intro h a ha c hc x hx
      obtain ⟨hi, hj, hk⟩ := mem_tri3.mp hx
      have ha := List.mem_range.mp ha
      have hc := List.mem_range.mp hc
      have := h x hx (a, c) (mem_pr2.mpr ⟨ha, hc⟩)
      rw [if_neg]
      intro h2
      unfold qrK at this
      rw [if_pos ((hK _ _ _ _ _ hi hj hk ha hc).mp h2)] at this
      cases this
  cases h1 : clO b n m with
  | none => rw [this.mp h1]
  | some d =>
    cases h2 : qrO b n m with
    | none => rw [this.mpr h2] at h1; cases h1
    | some e => rfl
theorem Lcalm_ev (hb : b.Ok n m) (hn : n ≤ 7) (hm : m ≤ 7) (m0 : 0 < m) (h3 : ∀ S, Γ f_Ltriples [.v (nt n)] S = some (.v (li (p3 nt nt nt) (tri3 n)), S))
    (hcr : ∀ i j k a c S, i < n → j < n → k < n → a < m → c < m → Γ f_Lis_crossed [.v b.e, .v (.tuple [nt i, nt j, nt k]), .v (.tuple [nt a, nt c])] S = some (.v (.bool (triB b i j k a c)), S))
    (hlo : ∀ i j k a c S, i < n → j < n → k < n → a < m → c < m → 0 < room b a → 0 < room b c → Γ f_Lhas_lots [.v b.e, .v (.tuple [nt i, nt j, nt k]), .v (.tuple [nt a, nt c])] S = some (.v (.bool (lotB b n i j k a c)), S)) :
    runF Γ d_Lcalm [.v b.e] S = some (.v (.bool (quietB b n m)), S) := by
  obtain ⟨r, hr⟩ : ∃ r, r = clO b n m := ⟨_, rfl⟩
  have hq := cl_quiet hb
  rw [← hr] at hq
  have hrd : ∀ d, r = some d → d = .bool false := fun d hd => by
    rw [hr] at hd
    obtain ⟨a, h1, hd⟩ := List.exists_of_findSome?_eq_some hd
    obtain ⟨c, h2, hd⟩ := List.exists_of_findSome?_eq_some hd
    obtain ⟨x, h3, hd⟩ := List.exists_of_findSome?_eq_some hd
    split at hd
    · exact (Option.some.inj hd).symm
    · cases hd
  refine run_q rfl ?_
  rw [← hq]
  show Ok (evB Γ b_Lcalm [some (.v b.e), none, none, none] S) _
  have ho := ord_get hb m0
  have hol := Ord.len (hb.op _ (List.mem_of_getElem? ho))
  have hrl := hb.rl
  have htl := tri3_len hn
  have hmt : ∀ x : Nat × Nat × Nat, x ∈ tri3 n → x.1 < n ∧ x.2.1 < n ∧ x.2.2 < n := fun x hx => mem_tri3.mp hx
  have hr : r = (List.range m).findSome? fun a => (List.range m).findSome? fun c => (tri3 n).findSome? fun x => if triB b x.1 x.2.1 x.2.2 a c && lotB b n x.1 x.2.1 x.2.2 a c then some (PyData.bool false) else none := hr
  generalize tri3 n = tr at *
  have hcs : evB Γ b_Lcalm [some (.v b.e), none, none, none] S = (evS Γ s_Lcalm_3 [some (.v b.e), none, none, none] S).bind (seqB Γ (.cons (.ret (.con (.bool true))) .nil)) := by simp [b_Lcalm]
  rw [hcs]
  refine ok_seq ?_
  unfold s_Lcalm_3
  refine ok_mono (for_find (S' := S) (f := nt) (xs := List.range m) (g := fun a => (List.range m).findSome? fun c => tr.findSome? fun x => if triB b x.1 x.2.1 x.2.2 a c && lotB b n x.1 x.2.1 x.2.2 a c then some (.bool false) else none) (fun η => ∃ a1 a2 a3, η = [some (.v b.e), a1, a2, a3]) (it_rng (by simp [hrl]) (by omega)) ⟨_, _, _, rfl⟩ ?_) ?_
  · rintro a hx η ⟨a1, a2, a3, rfl⟩
    have ha := List.mem_range.mp hx
    have hb1 : (bindT [some (.v b.e), a1, a2, a3] [1] false (nt a)) = some [some (.v b.e), some (.v (nt a)), a2, a3] := rfl
    rw [hb1, Option.bind_some]
    have hc1 : ∀ η S, evB Γ (.cons s_Lcalm_2 .nil) η S = (evS Γ s_Lcalm_2 η S).bind (seqB Γ .nil) := fun η S => by simp
    rw [hc1]
    refine ok_seq ?_
    unfold s_Lcalm_2
    refine ok_mono (for_find (S' := S) (f := nt) (xs := List.range m) (g := fun c => tr.findSome? fun x => if triB b x.1 x.2.1 x.2.2 a c && lotB b n x.1 x.2.1 x.2.2 a c then some (.bool false) else none) (fun η => ∃ a2 a3, η = [some (.v b.e), some (.v (nt a)), a2, a3]) (it_rng (by simp [hrl]) (by omega)) ⟨_, _, rfl⟩ ?_) ?_
    · rintro c hy η ⟨a2, a3, rfl⟩
      have hc := List.mem_range.mp hy
      have hb2 : (bindT [some (.v b.e), some (.v (nt a)), a2, a3] [2] false (nt c)) = some [some (.v b.e), some (.v (nt a)), some (.v (nt c)), a3] := rfl
      rw [hb2, Option.bind_some]
      have hc2 : ∀ η S, evB Γ (.cons s_Lcalm_1 .nil) η S = (evS Γ s_Lcalm_1 η S).bind (seqB Γ .nil) := fun η S => by simp
      rw [hc2]
      refine ok_seq ?_
      unfold s_Lcalm_1
      refine ok_mono (for_find (S' := S) (f := p3 nt nt nt) (xs := tr) (g := fun x => if triB b x.1 x.2.1 x.2.2 a c && lotB b n x.1 x.2.1 x.2.2 a c then some (.bool false) else none) (fun η => ∃ a3, η = [some (.v b.e), some (.v (nt a)), some (.v (nt c)), a3]) (it_li (by simp [ho, hol, h3])) ⟨_, rfl⟩ ?_) ?_
      · rintro ⟨i, j, k⟩ hz η ⟨a3, rfl⟩
        obtain ⟨hi, hj, hk⟩ := hmt _ hz
        have hi : i < n := hi
        have hj : j < n := hj
        have hk : k < n := hk
        have hb3 : (bindT [some (.v b.e), some (.v (nt a)), some (.v (nt c)), a3] [3] false (p3 nt nt nt (i, j, k))) = some [some (.v b.e), some (.v (nt a)), some (.v (nt c)), some (.v (.tuple [nt i, nt j, nt k]))] := rfl
        rw [hb3, Option.bind_some]
        have h1 := fun S => hcr i j k a c S hi hj hk ha hc
        show Ok (evB Γ (.cons s_Lcalm_0 .nil) _ S) (FindP _ S (if triB b i j k a c && lotB b n i j k a c then some (.bool false) else none))
        cases e1 : triB b i j k a c with
        | false =>
          rw [e1] at h1
          simp [s_Lcalm_0, h1, FindP]
        | true =>
          rw [e1] at h1
          obtain ⟨g1, g2⟩ := tri_rooms e1
          have h2 := fun S => hlo i j k a c S hi hj hk ha hc g1 g2
          generalize lotB b n i j k a c = z at *
          cases z <;> simp [s_Lcalm_0, h1, h2, FindP]
      · intro o ho
        cases o with
        | nx η S1 =>
          obtain ⟨q1, ⟨a3, rfl⟩, rfl⟩ := ho
          exact ⟨_, rfl, q1, ⟨_, _, rfl⟩, rfl⟩
        | ct η S1 => exact ho.elim
        | rt w S1 => exact ho
        | bk η S1 => exact ho.elim
    · intro o ho
      cases o with
      | nx η S1 =>
        obtain ⟨q1, ⟨a2, a3, rfl⟩, rfl⟩ := ho
        exact ⟨_, rfl, q1, ⟨_, _, _, rfl⟩, rfl⟩
      | ct η S1 => exact ho.elim
      | rt w S1 => exact ho
      | bk η S1 => exact ho.elim
  · intro o ho
    rw [← hr] at ho
    cases o with
    | nx η S1 =>
      obtain ⟨e, ⟨a1, a2, a3, rfl⟩, rfl⟩ := ho
      rw [e]
      simp [nextB]
    | ct η S1 => exact ho.elim
    | rt w S1 =>
      obtain ⟨d, e, rfl, rfl⟩ := ho
      have := hrd d e
      subst this
      rw [e]
      exact ⟨[], by simp⟩
    | bk η S1 => exact ho.elim
end
end Pl


namespace Pl.T3
open PySem Pl
def x_is_lot_0 : Pl.Ex := .lc (.and (.call f_is_integer (.cons (.var 3) (.cons (.con (.int 0)) (.cons (.con (.int 99)) .nil)))) (.cmp .isin (.var 3) (.var 1))) [3] false (.seq (.var 0)) (.con (.bool true))
def s_is_lot_0 : Pl.St := .ret (.cmp .eq (.var 0) (.blt .tuple (.cons (.lset true (.var 0)) .nil)))
def s_is_lot_1 : Pl.St := .ite (.not (.blt .all (.cons x_is_lot_0 .nil))) (.cons (.ret (.con (.bool false))) .nil) .nil
def s_is_lot_2 : Pl.St := .ite (.or (.not (.blt .istup (.cons (.var 0) .nil))) (.cmp .ne (.blt .len (.cons (.var 0) .nil)) (.var 2))) (.cons (.ret (.con (.bool false))) .nil) .nil
def b_is_lot : Pl.Bk := (.cons s_is_lot_2 (.cons s_is_lot_1 (.cons s_is_lot_0 .nil)))
def d_is_lot : Pl.Fd := { name := (Str.ofString "is_lot"), ps := [(Str.ofString "value"), (Str.ofString "pool"), (Str.ofString "many")], ns := [(Str.ofString "value"), (Str.ofString "pool"), (Str.ofString "many"), (Str.ofString "person")], fr := false, body := b_is_lot }
def x_quarrel_holds_0 : Pl.Ex := .lc (.call f_is_integer (.cons (.var 2) (.cons (.con (.int 0)) (.cons (.bin .sub (.call f_people_of (.cons (.var 0) .nil)) (.con (.int 1))) .nil)))) [2] false (.seq (.sl (.var 1) .nop (.con (.int 3)))) (.con (.bool true))
def x_quarrel_holds_1 : Pl.Ex := .lc (.call f_is_integer (.cons (.var 3) (.cons (.con (.int 0)) (.cons (.bin .sub (.call f_posts_of (.cons (.var 0) .nil)) (.con (.int 1))) .nil)))) [3] false (.seq (.sl (.var 1) (.con (.int 3)) (.con (.int 5)))) (.con (.bool true))
def x_quarrel_holds_2 : Pl.Ex := .lc (.var 2) [2] false (.seq (.ix (.var 1) (.con (.int 5)))) (.cmp .isin (.var 2) (.ix (.var 1) (.con (.int 6))))
def s_quarrel_holds_0 : Pl.St := .ret (.cmp .eq x_quarrel_holds_2 (.lst .nil))
def s_quarrel_holds_1 : Pl.St := .ite (.not (.call f_is_lot (.cons (.ix (.var 1) (.con (.int 6))) (.cons (.var 7) (.cons (.bin .sub (.ix (.ix (.var 0) (.con (.int 0))) (.ix (.var 5) (.con (.int 1)))) (.con (.int 1))) .nil))))) (.cons (.ret (.con (.bool false))) .nil) .nil
def s_quarrel_holds_2 : Pl.St := .ite (.not (.call f_is_lot (.cons (.ix (.var 1) (.con (.int 5))) (.cons (.var 6) (.cons (.bin .sub (.ix (.ix (.var 0) (.con (.int 0))) (.ix (.var 5) (.con (.int 0)))) (.con (.int 1))) .nil))))) (.cons (.ret (.con (.bool false))) .nil) .nil
def s_quarrel_holds_3 : Pl.St := .unp [.nm 6, .nm 7] (.call f_pools (.cons (.var 0) (.cons (.var 4) (.cons (.var 5) .nil))))
def s_quarrel_holds_4 : Pl.St := .ite (.not (.call f_is_triple (.cons (.var 0) (.cons (.var 4) (.cons (.var 5) .nil))))) (.cons (.ret (.con (.bool false))) .nil) .nil
def s_quarrel_holds_5 : Pl.St := .par [.nm 4, .nm 5] (.cons (.sl (.var 1) .nop (.con (.int 3))) (.cons (.sl (.var 1) (.con (.int 3)) (.con (.int 5))) .nil))
def s_quarrel_holds_6 : Pl.St := .ite (.not (.blt .all (.cons x_quarrel_holds_1 .nil))) (.cons (.ret (.con (.bool false))) .nil) .nil
def s_quarrel_holds_7 : Pl.St := .ite (.not (.blt .all (.cons x_quarrel_holds_0 .nil))) (.cons (.ret (.con (.bool false))) .nil) .nil
def s_quarrel_holds_8 : Pl.St := .ite (.or (.not (.blt .istup (.cons (.var 1) .nil))) (.cmp .ne (.blt .len (.cons (.var 1) .nil)) (.con (.int 7)))) (.cons (.ret (.con (.bool false))) .nil) .nil
def b_quarrel_holds : Pl.Bk := (.cons s_quarrel_holds_8 (.cons s_quarrel_holds_7 (.cons s_quarrel_holds_6 (.cons s_quarrel_holds_5 (.cons s_quarrel_holds_4 (.cons s_quarrel_holds_3 (.cons s_quarrel_holds_2 (.cons s_quarrel_holds_1 (.cons s_quarrel_holds_0 .nil)))))))))
def d_quarrel_holds : Pl.Fd := { name := (Str.ofString "quarrel_holds"), ps := [(Str.ofString "board"), (Str.ofString "value")], ns := [(Str.ofString "board"), (Str.ofString "value"), (Str.ofString "person"), (Str.ofString "post"), (Str.ofString "people"), (Str.ofString "posts"), (Str.ofString "first"), (Str.ofString "second")], fr := false, body := b_quarrel_holds }
def x_Lare_lots_0 : Pl.Ex := .lc (.var 8) [8] false (.seq (.call f_Labove (.cons (.var 0) (.cons (.var 4) (.cons (.var 5) .nil))))) (.cmp .nin (.var 8) (.var 1))
def x_Lare_lots_1 : Pl.Ex := .lc (.var 8) [8] false (.seq (.var 6)) (.or (.not (.call f_Lwhole (.cons (.var 8) (.cons (.con (.int 0)) (.cons (.con (.int 6)) .nil))))) (.cmp .nin (.var 8) (.var 7)))
def s_Lare_lots_0 : Pl.St := .ite (.cmp .ne (.blt .list (.cons (.var 6) .nil)) (.lset true (.var 6))) (.cons (.ret (.con (.bool false))) .nil) .nil
def s_Lare_lots_1 : Pl.St := .ite (.cmp .ne x_Lare_lots_1 (.lst .nil)) (.cons (.ret (.con (.bool false))) .nil) .nil
def s_Lare_lots_2 : Pl.St := .ite (.or (.not (.blt .istup (.cons (.var 6) .nil))) (.cmp .ne (.blt .len (.cons (.var 6) .nil)) (.bin .sub (.ix (.ix (.var 0) (.con (.int 0))) (.var 4)) (.con (.int 1))))) (.cons (.ret (.con (.bool false))) .nil) .nil
def x_Lare_lots_2 : Pl.Ex := .lc (.var 8) [8] false (.seq (.ix (.var 3) (.con (.int 0)))) (.cmp .isin (.var 8) (.ix (.var 3) (.con (.int 1))))
def s_Lare_lots_3 : Pl.St := .ret (.cmp .eq x_Lare_lots_2 (.lst .nil))
def s_Lare_lots_4 : Pl.St := .loop [4, 5, 6] true (.zip3 (.var 2) (.lst (.cons (.ix (.var 1) (.con (.int 1))) (.cons (.ix (.var 1) (.con (.int 0))) .nil))) (.var 3)) (.cons s_Lare_lots_2 (.cons (.asg 7 x_Lare_lots_0) (.cons s_Lare_lots_1 (.cons s_Lare_lots_0 .nil))))
def b_Lare_lots : Pl.Bk := (.cons s_Lare_lots_4 (.cons s_Lare_lots_3 .nil))
def d_Lare_lots : Pl.Fd := { name := (Str.ofString "_law_are_lots"), ps := [(Str.ofString "_law_board_here"), (Str.ofString "_law_people"), (Str.ofString "_law_posts"), (Str.ofString "_law_lots")], ns := [(Str.ofString "_law_board_here"), (Str.ofString "_law_people"), (Str.ofString "_law_posts"), (Str.ofString "_law_lots"), (Str.ofString "_law_post"), (Str.ofString "_law_person"), (Str.ofString "_law_lot"), (Str.ofString "_law_pool"), (Str.ofString "_law_one_here")], fr := false, body := b_Lare_lots }
def x_Lis_quarrel_0 : Pl.Ex := .lc (.var 2) [2] false (.seq (.sl (.var 1) .nop (.con (.int 3)))) (.not (.call f_Lwhole (.cons (.var 2) (.cons (.con (.int 0)) (.cons (.bin .sub (.blt .len (.cons (.ix (.ix (.var 0) (.con (.int 1))) (.con (.int 0))) .nil)) (.con (.int 1))) .nil)))))
def x_Lis_quarrel_1 : Pl.Ex := .lc (.var 2) [2] false (.seq (.sl (.var 1) (.con (.int 3)) (.con (.int 5)))) (.not (.call f_Lwhole (.cons (.var 2) (.cons (.con (.int 0)) (.cons (.bin .sub (.blt .len (.cons (.ix (.var 0) (.con (.int 0))) .nil)) (.con (.int 1))) .nil)))))
def s_Lis_quarrel_0 : Pl.St := .ret (.and (.call f_Lis_crossed (.cons (.var 0) (.cons (.sl (.var 1) .nop (.con (.int 3))) (.cons (.sl (.var 1) (.con (.int 3)) (.con (.int 5))) .nil)))) (.call f_Lare_lots (.cons (.var 0) (.cons (.sl (.var 1) .nop (.con (.int 3))) (.cons (.sl (.var 1) (.con (.int 3)) (.con (.int 5))) (.cons (.sl (.var 1) (.con (.int 5)) .nop) .nil))))))
def s_Lis_quarrel_1 : Pl.St := .ite (.cmp .ne x_Lis_quarrel_1 (.lst .nil)) (.cons (.ret (.con (.bool false))) .nil) .nil
def s_Lis_quarrel_2 : Pl.St := .ite (.cmp .ne x_Lis_quarrel_0 (.lst .nil)) (.cons (.ret (.con (.bool false))) .nil) .nil
def s_Lis_quarrel_3 : Pl.St := .ite (.or (.not (.blt .istup (.cons (.var 1) .nil))) (.cmp .ne (.blt .len (.cons (.var 1) .nil)) (.con (.int 7)))) (.cons (.ret (.con (.bool false))) .nil) .nil
def b_Lis_quarrel : Pl.Bk := (.cons s_Lis_quarrel_3 (.cons s_Lis_quarrel_2 (.cons s_Lis_quarrel_1 (.cons s_Lis_quarrel_0 .nil))))
def d_Lis_quarrel : Pl.Fd := { name := (Str.ofString "_law_is_quarrel"), ps := [(Str.ofString "_law_board_here"), (Str.ofString "_law_value")], ns := [(Str.ofString "_law_board_here"), (Str.ofString "_law_value"), (Str.ofString "_law_one_here")], fr := false, body := b_Lis_quarrel }
end Pl.T3
namespace Mt
open PySem Pl
theorem isI_n {hi : Int} {d : PyData} (h : isI 0 hi d = true) : d = nt (toN d) ∧ (toN d : Int) ≤ hi := by
  obtain ⟨i, rfl, h1, h2⟩ := isI_int h
  have e : toN (.int i) = i.toNat := rfl
  rw [e]
  refine ⟨congrArg PyData.int (by omega), by omega⟩
def itB (F : List Nat) (d : PyData) : Bool := isI 0 99 d && decide (toN d ∈ F)
theorem itB_6 {F : List Nat} (hF : ∀ z ∈ F, z < 7) (d : PyData) : (isI 0 6 d && decide (toN d ∈ F)) = itB F d := by
  unfold itB
  cases h : decide (toN d ∈ F) with
  | false => rw [Bool.and_false, Bool.and_false]
  | true =>
    have h := hF _ (of_decide_eq_true h)
    rw [Bool.and_true, Bool.and_true, Bool.eq_iff_iff]
    constructor
    · intro e
      obtain ⟨i, rfl, h1, h2⟩ := isI_int e
      show (decide ((0 : Int) ≤ i) && decide (i ≤ 99)) = true
      rw [decide_eq_true h1, decide_eq_true (by omega)]
      rfl
    · intro e
      obtain ⟨i, rfl, h1, h2⟩ := isI_int e
      have h : i.toNat < 7 := h
      show (decide ((0 : Int) ≤ i) && decide (i ≤ 6)) = true
      rw [decide_eq_true h1, decide_eq_true (by omega)]
      rfl
theorem itB_n {F : List Nat} {d : PyData} (h : itB F d = true) : d = nt (toN d) ∧ toN d ∈ F := by
  unfold itB at h
  rw [Bool.and_eq_true] at h
  exact ⟨(isI_n h.1).1, of_decide_eq_true h.2⟩
theorem its_n {F : List Nat} {xs : List PyData} (h : xs.all (itB F) = true) : xs = mp nt (xs.map toN) ∧ ∀ z ∈ xs.map toN, z ∈ F := by
  rw [List.all_eq_true] at h
  constructor
  · unfold mp
    rw [List.map_map]
    conv => lhs; rw [← List.map_id xs]
    exact List.map_congr_left fun d hd => (itB_n (h d hd)).1
  · intro z hz
    obtain ⟨d, hd, rfl⟩ := List.mem_map.mp hz
    exact (itB_n (h d hd)).2
def lotO (F : List Nat) (r : Nat) : PyData → Bool
  | .tuple xs => decide (xs.length = r) && (xs.all (itB F) && decide ((xs.map toN).Pairwise (· < ·)))
  | _ => false
def natsO : PyData → List Nat
  | .tuple xs => xs.map toN
  | _ => []
theorem lotO_of {F : List Nat} {r : Nat} {d : PyData} (h : lotO F r d = true) : ∃ L : List Nat, d = tu nt L ∧ natsO d = L ∧ L.length = r ∧ L.Pairwise (· < ·) ∧ ∀ z ∈ L, z ∈ F := by
  cases d with
  | tuple xs =>
    simp only [lotO, Bool.and_eq_true, decide_eq_true_eq] at h
    obtain ⟨h1, h2, h3⟩ := h
    obtain ⟨e, hs⟩ := its_n h2
    exact ⟨xs.map toN, congrArg PyData.tuple e, rfl, by rw [List.length_map]; exact h1, h3, hs⟩
  | _ => cases h
theorem natsO_tu (L : List Nat) : natsO (tu nt L) = L := by
  show (mp nt L).map toN = L
  unfold mp
  rw [List.map_map]
  conv => rhs; rw [← List.map_id L]
  exact List.map_congr_left fun z _ => Int.toNat_natCast z
theorem lotO_tu {F L : List Nat} {r : Nat} (hF : ∀ z ∈ F, z < 7) (h1 : L.length = r) (h2 : L.Pairwise (· < ·)) (h3 : ∀ z ∈ L, z ∈ F) : lotO F r (tu nt L) = true := by
  have e : (mp nt L).map toN = L := natsO_tu L
  show (decide ((mp nt L).length = r) && ((mp nt L).all (itB F) && decide (((mp nt L).map toN).Pairwise (· < ·)))) = true
  rw [e, decide_eq_true h2, Bool.and_true, Bool.and_eq_true, decide_eq_true_eq, List.all_eq_true]
  refine ⟨by simpa [mp] using h1, fun d hd => ?_⟩
  obtain ⟨z, hz, rfl⟩ := List.mem_map.mp hd
  have h := hF z (h3 z hz)
  show (decide ((0 : Int) ≤ (z : Int)) && decide ((z : Int) ≤ 99) && decide (toN (nt z) ∈ F)) = true
  have e2 : toN (nt z) = z := Int.toNat_natCast z
  rw [e2, decide_eq_true (h3 z hz), decide_eq_true (by omega), decide_eq_true (by omega)]
  rfl
theorem asc_iff {l : List Nat} {n : Nat} (hlt : ∀ x ∈ l, x < n) : (List.range n).filter (fun x => decide (x ∈ l)) = l ↔ l.Pairwise (· < ·) :=
  ⟨fun h => by rw [← h]; exact (range_lt n).filter _, fun h => asc_filter h hlt⟩
def qB (b : Bd) (n m : Nat) : PyData → Bool
  | .tuple [d0, d1, d2, d3, d4, d5, d6] => [d0, d1, d2].all (isI 0 ((n : Int) - 1)) && ([d3, d4].all (isI 0 ((m : Int) - 1)) && (triB b (toN d0) (toN d1) (toN d2) (toN d3) (toN d4) &&
      (lotO (pooN b n (toN d3) (toN d1) [toN d0, toN d1, toN d2]) (room b (toN d3) - 1) d5 && (lotO (pooN b n (toN d4) (toN d0) [toN d0, toN d1, toN d2]) (room b (toN d4) - 1) d6 && ((natsO d5).filter fun z => decide (z ∈ natsO d6)).isEmpty))))
  | _ => false
section
variable {Γ : Fns} {S : Sto} {b : Bd} {n m : Nat}
theorem lot_eq {F L : List Nat} (hF : ∀ z ∈ F, z < 7) (hL : ∀ z ∈ L, z ∈ F) (hl : L.length ≤ 7) : setD true (tu nt L) = some (li nt ((List.range 7).filter fun x => decide (x ∈ L))) ∧ coD .eq (tu nt L) (tu nt ((List.range 7).filter fun x => decide (x ∈ L))) = some (decide (L.Pairwise (· < ·))) ∧ coD .ne (li nt L) (li nt ((List.range 7).filter fun x => decide (x ∈ L))) = some (!decide (L.Pairwise (· < ·))) := by
  have hlt : ∀ x ∈ L, x < 7 := fun x hx => hF x (hL x hx)
  have e : decide (L = (List.range 7).filter fun x => decide (x ∈ L)) = decide (L.Pairwise (· < ·)) := by
    rw [Bool.eq_iff_iff, decide_eq_true_eq, decide_eq_true_eq, ← asc_iff hlt]
    exact eq_comm
  refine ⟨set_tuF hlt (by omega), ?_, ?_⟩
  · rw [co_eq (f := tu nt) _ _ (by decide), e]
  · rw [co_ne (f := li nt) _ _ (by decide), e]
theorem is_lot_any {F : List Nat} {r : Nat} (hF : ∀ z ∈ F, z < 7) (hr : r ≤ 7) (hi : ∀ d lo hi S, Γ f_is_integer [.v d, .v (.int lo), .v (.int hi)] S = some (.v (.bool (isI lo hi d)), S)) (d : PyData) :
    runF Γ T3.d_is_lot [.v d, .v (li nt F), .v (nt r)] S = some (.v (.bool (lotO F r d)), S) := by
  refine run_v0 rfl ?_
  show evB Γ T3.b_is_lot [some (.v d), some (.v (li nt F)), some (.v (nt r)), none] S = _
  cases hT : isT d with
  | false =>
    have : lotO F r d = false := by cases d <;> first | rfl | cases hT
    rw [this]
    simp [T3.b_is_lot, T3.s_is_lot_2, hT]
  | true =>
    obtain ⟨xs, rfl⟩ := isT_of hT
    by_cases hl : xs.length = r
    rotate_left
    · have : lotO F r (.tuple xs) = false := by simp [lotO, hl]
      rw [this]
      simp [T3.b_is_lot, T3.s_is_lot_2, hT, len_T, hl]
    have e0 : ∀ S', evE Γ [some (.v (.tuple xs)), some (.v (li nt F)), some (.v (nt r)), none] T3.x_is_lot_0 S' = some (.v (li bo (xs.map (itB F))), S') := fun S' => by
      refine lc1m (f := id) (itB F) bo (it_tu (by simp [tu_id])) (fun x hx => ?_) (lm100 (by omega))
      unfold itB
      cases hx2 : isI 0 99 x with
      | false => simp [hi, hx2, bo]
      | true =>
        obtain ⟨e, _⟩ := isI_n hx2
        have h2 := hi (nt (toN x)) 0 99 S'
        rw [← e, hx2] at h2
        rw [e] at h2 ⊢
        have e3 : toN (nt (toN x)) = toN x := Int.toNat_natCast _
        rw [e3]
        generalize toN x = z at *
        simp [h2, bo]
    have hall : blD .all [li bo (xs.map (itB F))] = some (.bool (xs.all (itB F))) := by
      rw [all_li, List.all_map]
      rfl
    cases hA : xs.all (itB F) with
    | false =>
      rw [hA] at hall
      have : lotO F r (.tuple xs) = false := by simp only [lotO, hA]; simp
      rw [this]
      simp [T3.b_is_lot, T3.s_is_lot_2, hT, len_T, hl, T3.s_is_lot_1, e0, hall, -all_li]
    | true =>
      rw [hA] at hall
      obtain ⟨e, hys⟩ := its_n hA
      have hB : lotO F r (.tuple xs) = decide ((xs.map toN).Pairwise (· < ·)) := by simp only [lotO, hA, hl]; simp
      rw [hB]
      generalize xs.map toN = ys at *
      have hyl : ys.length = xs.length := by rw [e]; simp
      have ex : PyData.tuple xs = tu nt ys := congrArg PyData.tuple e
      rw [ex] at e0 ⊢
      obtain ⟨q1, q2, _⟩ := lot_eq hF hys (by omega)
      have hT2 : blD .istup [tu nt ys] = some (.bool true) := rfl
      have hyr : ys.length = r := by omega
      have q3 : blD .tuple [li nt ((List.range 7).filter fun x => decide (x ∈ ys))] = some (tu nt ((List.range 7).filter fun x => decide (x ∈ ys))) := rfl
      generalize ((List.range 7).filter fun x => decide (x ∈ ys)) = zs at *
      generalize decide (ys.Pairwise (· < ·)) = z at *
      simp [T3.b_is_lot, T3.s_is_lot_2, hT2, hyr, T3.s_is_lot_1, e0, hall, -all_li, T3.s_is_lot_0, q1, q3, q2]
end
end Mt


namespace Mt
open PySem Pl
theorem mem_upN' {b : Bd} {n m q x : Nat} {tr : List Nat} (hb : b.Ok n m) (hq : q < m) (z : Nat) : z ∈ upN b q x tr ↔ z ∈ pooN b n q x tr := by
  unfold upN pooN
  rw [List.mem_filter, List.mem_filter, mem_abS]
  exact and_congr (mem_abv hb hq) Iff.rfl
theorem itB_mem {F F' : List Nat} (h : ∀ z, z ∈ F ↔ z ∈ F') (d : PyData) : itB F d = itB F' d := by
  unfold itB
  rw [decide_eq_decide.mpr (h _)]
theorem lotO_mem {F F' : List Nat} (h : ∀ z, z ∈ F ↔ z ∈ F') (r : Nat) (d : PyData) : lotO F r d = lotO F' r d := by
  cases d with
  | tuple xs =>
    unfold lotO
    have : (itB F) = itB F' := funext fun d => itB_mem h d
    rw [this]
  | _ => rfl
theorem loop_items {Γ : Fns} {tg : List Nat} {many : Bool} {it : Iy} {b : Bk} {η : En} {S S' : Sto} {ds : List PyData} (h : evI Γ η it S = some (.items ds, S')) : evS Γ (.loop tg many it b) η S = forL (fun d η1 S1 => (bindT η1 tg many d).bind fun η2 => evB Γ b η2 S1) ds η S' := by
  show (evI Γ η it S).bind _ = _
  rw [h]
  rfl
section
variable {Γ : Fns} {S : Sto} {b : Bd} {n m : Nat}
theorem qB_len {xs : List PyData} (h : ¬ xs.length = 7) : qB b n m (.tuple xs) = false := by
  match xs, h with
  | [], _ => rfl
  | [_], _ => rfl
  | [_, _], _ => rfl
  | [_, _, _], _ => rfl
  | [_, _, _, _], _ => rfl
  | [_, _, _, _, _], _ => rfl
  | [_, _, _, _, _, _], _ => rfl
  | [_, _, _, _, _, _, _], h => exact absurd rfl h
  | _ :: _ :: _ :: _ :: _ :: _ :: _ :: _ :: _, _ => rfl
theorem list7 {xs : List PyData} (h : xs.length = 7) : ∃ d0 d1 d2 d3 d4 d5 d6, xs = [d0, d1, d2, d3, d4, d5, d6] := by
  match xs, h with
  | [d0, d1, d2, d3, d4, d5, d6], _ => exact ⟨_, _, _, _, _, _, _, rfl⟩
theorem all3 {p : PyData → Bool} {x y z : PyData} (h : [x, y, z].all p = true) : p x = true ∧ p y = true ∧ p z = true := by simpa using h
theorem all2 {p : PyData → Bool} {x y : PyData} (h : [x, y].all p = true) : p x = true ∧ p y = true := by simpa using h
theorem bl_all {p : PyData → Bool} {xs : List PyData} : blD .all [li bo (xs.map p)] = some (.bool (xs.all p)) := by
  rw [all_li, List.all_map]
  rfl
theorem quarrel_holds_any (hb : b.Ok n m) (hn : n ≤ 7) (n0 : 0 < n) (m0 : 0 < m) (hI : ∀ d lo hi S, Γ f_is_integer [.v d, .v (.int lo), .v (.int hi)] S = some (.v (.bool (isI lo hi d)), S)) (hpe : ∀ S, Γ f_people_of [.v b.e] S = some (.v (nt n), S)) (hpo : ∀ S, Γ f_posts_of [.v b.e] S = some (.v (nt m), S))
    (ht : ∀ i j k a c S, i < n → j < n → k < n → a < m → c < m → Γ f_is_triple [.v b.e, .v (.tuple [nt i, nt j, nt k]), .v (.tuple [nt a, nt c])] S = some (.v (.bool (triB b i j k a c)), S))
    (hp : ∀ i j k a c S, i < n → j < n → k < n → a < m → c < m → Γ f_pools [.v b.e, .v (.tuple [nt i, nt j, nt k]), .v (.tuple [nt a, nt c])] S = some (.v (.tuple [li nt (pooN b n a j [i, j, k]), li nt (pooN b n c i [i, j, k])]), S))
    (hl : ∀ F r d S, (∀ z ∈ F, z < 7) → r ≤ 7 → Γ f_is_lot [.v d, .v (li nt F), .v (nt r)] S = some (.v (.bool (lotO F r d)), S)) (d : PyData) :
    runF Γ T3.d_quarrel_holds [.v b.e, .v d] S = some (.v (.bool (qB b n m d)), S) := by
  refine run_v0 rfl ?_
  show evB Γ T3.b_quarrel_holds [some (.v b.e), some (.v d), none, none, none, none, none, none] S = _
  cases hT : isT d with
  | false =>
    have : qB b n m d = false := by cases d <;> first | rfl | cases hT
    rw [this]
    simp [T3.b_quarrel_holds, T3.s_quarrel_holds_8, hT]
  | true =>
    obtain ⟨xs, rfl⟩ := isT_of hT
    by_cases hl7 : xs.length = 7
    rotate_left
    · rw [qB_len hl7]
      have hne : ¬ (xs.length : Int) = 7 := by omega
      simp [T3.b_quarrel_holds, T3.s_quarrel_holds_8, hT, len_T, hne]
    obtain ⟨d0, d1, d2, d3, d4, d5, d6, rfl⟩ := list7 hl7
    have hst : blD .istup [.tuple [d0, d1, d2, d3, d4, d5, d6]] = some (.bool true) := rfl
    have hln : blD .len [.tuple [d0, d1, d2, d3, d4, d5, d6]] = some (.int 7) := rfl
    have sl1 : slD (.tuple [d0, d1, d2, d3, d4, d5, d6]) none (some 3) = some (.tuple [d0, d1, d2]) := rfl
    have sl2 : slD (.tuple [d0, d1, d2, d3, d4, d5, d6]) (some 3) (some 5) = some (.tuple [d3, d4]) := rfl
    have at5 : atD (.tuple [d0, d1, d2, d3, d4, d5, d6]) (.int 5) = some d5 := rfl
    have at6 : atD (.tuple [d0, d1, d2, d3, d4, d5, d6]) (.int 6) = some d6 := rfl
    have hQ : qB b n m (.tuple [d0, d1, d2, d3, d4, d5, d6]) = ([d0, d1, d2].all (isI 0 ((n : Int) - 1)) && ([d3, d4].all (isI 0 ((m : Int) - 1)) && (triB b (toN d0) (toN d1) (toN d2) (toN d3) (toN d4) &&
      (lotO (pooN b n (toN d3) (toN d1) [toN d0, toN d1, toN d2]) (room b (toN d3) - 1) d5 && (lotO (pooN b n (toN d4) (toN d0) [toN d0, toN d1, toN d2]) (room b (toN d4) - 1) d6 && ((natsO d5).filter fun z => decide (z ∈ natsO d6)).isEmpty))))) := rfl
    rw [hQ]
    have sn : boD .sub (.int (n : Int)) (.int 1) = some (.int ((n : Int) - 1)) := rfl
    have sm : boD .sub (.int (m : Int)) (.int 1) = some (.int ((m : Int) - 1)) := rfl
    generalize hV : PyData.tuple [d0, d1, d2, d3, d4, d5, d6] = V at *
    have e0 : ∀ S, evE Γ [some (.v b.e), some (.v V), none, none, none, none, none, none] T3.x_quarrel_holds_0 S = some (.v (li bo ([d0, d1, d2].map (isI 0 ((n : Int) - 1)))), S) := fun S => by
      refine lc1m (xs := [d0, d1, d2]) (f := id) (isI 0 ((n : Int) - 1)) bo (it_tu (by simp [sl1, tu_id])) (fun z hz => ?_) (lm100 (by simp))
      simp [hpe, sn, hI, bo]
    have e1 : ∀ S, evE Γ [some (.v b.e), some (.v V), none, none, none, none, none, none] T3.x_quarrel_holds_1 S = some (.v (li bo ([d3, d4].map (isI 0 ((m : Int) - 1)))), S) := fun S => by
      refine lc1m (xs := [d3, d4]) (f := id) (isI 0 ((m : Int) - 1)) bo (it_tu (by simp [sl2, tu_id])) (fun z hz => ?_) (lm100 (by simp))
      simp [hpo, sm, hI, bo]
    have a1 := bl_all (p := isI 0 ((n : Int) - 1)) (xs := [d0, d1, d2])
    have a2 := bl_all (p := isI 0 ((m : Int) - 1)) (xs := [d3, d4])
    generalize [d0, d1, d2].map (isI 0 ((n : Int) - 1)) = B1 at *
    generalize [d3, d4].map (isI 0 ((m : Int) - 1)) = B2 at *
    cases h1 : [d0, d1, d2].all (isI 0 ((n : Int) - 1)) with
    | false =>
      rw [h1] at a1
      simp [-all_li, T3.b_quarrel_holds, T3.s_quarrel_holds_8, hst, hln, T3.s_quarrel_holds_7, e0, a1]
    | true =>
    rw [h1] at a1
    cases h2 : [d3, d4].all (isI 0 ((m : Int) - 1)) with
    | false =>
      rw [h2] at a2
      simp [-all_li, T3.b_quarrel_holds, T3.s_quarrel_holds_8, hst, hln, T3.s_quarrel_holds_7, e0, a1, T3.s_quarrel_holds_6, e1, a2]
    | true =>
    rw [h2] at a2
    obtain ⟨b0, b1, b2⟩ := all3 h1
    obtain ⟨b3, b4⟩ := all2 h2
    obtain ⟨c0, l0⟩ := isI_n b0
    obtain ⟨c1, l1⟩ := isI_n b1
    obtain ⟨c2, l2⟩ := isI_n b2
    obtain ⟨c3, l3⟩ := isI_n b3
    obtain ⟨c4, l4⟩ := isI_n b4
    rw [c0, c1, c2] at sl1
    rw [c3, c4] at sl2
    clear h1 h2 b0 b1 b2 b3 b4 c0 c1 c2 c3 c4 hV hQ
    generalize toN d0 = i at *
    generalize toN d1 = j at *
    generalize toN d2 = k at *
    generalize toN d3 = a at *
    generalize toN d4 = c at *
    have hi : i < n := by omega
    have hj : j < n := by omega
    have hk : k < n := by omega
    have ha : a < m := by omega
    have hc : c < m := by omega
    have t1 := fun S => ht i j k a c S hi hj hk ha hc
    have t2 := fun S => hp i j k a c S hi hj hk ha hc
    cases h3 : triB b i j k a c with
    | false =>
      rw [h3] at t1
      simp [-all_li, T3.b_quarrel_holds, T3.s_quarrel_holds_8, hst, hln, T3.s_quarrel_holds_7, e0, a1, T3.s_quarrel_holds_6, e1, a2, T3.s_quarrel_holds_5, sl1, sl2, T3.s_quarrel_holds_4, t1]
    | true =>
    rw [h3] at t1
    obtain ⟨ra, rc⟩ := tri_rooms h3
    have r1 := bd_get hb ha
    have r2 := bd_get hb hc
    have r71 := hb.r7 _ (List.mem_of_getElem? r1)
    have r72 := hb.r7 _ (List.mem_of_getElem? r2)
    have hl1 := fun S => hl (pooN b n a j [i, j, k]) (room b a - 1) d5 S (fun z hz => by have := pooN_lt z hz; omega) (by omega)
    have hl2 := fun S => hl (pooN b n c i [i, j, k]) (room b c - 1) d6 S (fun z hz => by have := pooN_lt z hz; omega) (by omega)
    have hr1 : boD .sub (.int (room b a : Int)) (.int 1) = some (nt (room b a - 1)) := congrArg some (congrArg PyData.int (by omega))
    have hr2 : boD .sub (.int (room b c : Int)) (.int 1) = some (nt (room b c - 1)) := congrArg some (congrArg PyData.int (by omega))
    generalize hr3 : room b a - 1 = r3 at *
    generalize hr4 : room b c - 1 = r4 at *
    generalize pooN b n a j [i, j, k] = F at *
    generalize pooN b n c i [i, j, k] = H at *
    cases h5 : lotO F r3 d5 with
    | false =>
      rw [h5] at hl1
      simp [-all_li, T3.b_quarrel_holds, T3.s_quarrel_holds_8, hst, hln, T3.s_quarrel_holds_7, e0, a1, T3.s_quarrel_holds_6, e1, a2, T3.s_quarrel_holds_5, sl1, sl2, T3.s_quarrel_holds_4, t1, T3.s_quarrel_holds_3, t2, T3.s_quarrel_holds_2, at5, r1, hr1, hl1]
    | true =>
    rw [h5] at hl1
    cases h6 : lotO H r4 d6 with
    | false =>
      rw [h6] at hl2
      simp [-all_li, T3.b_quarrel_holds, T3.s_quarrel_holds_8, hst, hln, T3.s_quarrel_holds_7, e0, a1, T3.s_quarrel_holds_6, e1, a2, T3.s_quarrel_holds_5, sl1, sl2, T3.s_quarrel_holds_4, t1, T3.s_quarrel_holds_3, t2, T3.s_quarrel_holds_2, at5, r1, hr1, hl1, T3.s_quarrel_holds_1, at6, r2, hr2, hl2]
    | true =>
    rw [h6] at hl2
    obtain ⟨L1, rfl, f2, f3, f4, f5⟩ := lotO_of h5
    obtain ⟨L2, rfl, g2, g3, g4, g5⟩ := lotO_of h6
    have e2 : ∀ (a4 a5 a6 a7 : Option Pl.W) S, evE Γ [some (.v b.e), some (.v V), none, none, a4, a5, a6, a7] T3.x_quarrel_holds_2 S = some (.v (li nt (L1.filter fun z => decide (z ∈ L2))), S) := fun a4 a5 a6 a7 S => by
      have := lc1 (Γ := Γ) (S := S) (S' := S) (η := [some (.v b.e), some (.v V), none, none, a4, a5, a6, a7]) (elt := .var 2) (i := 2) (it := .seq (.ix (.var 1) (.con (.int 5)))) (c := .cmp .isin (.var 2) (.ix (.var 1) (.con (.int 6)))) (xs := L1) (f := nt) (fun z => decide (z ∈ L2)) id nt (it_tu (by simp [at5])) (fun z hz => by simp only [List.set]; simp [at6]) (fun z hz _ => by simp) (lm100 (by omega))
      rw [List.map_id] at this
      exact this
    have hE := co_eqE (f := nt) (L1.filter fun z => decide (z ∈ L2)) (by decide)
    rw [f2, g2]
    generalize L1.filter (fun z => decide (z ∈ L2)) = L0 at *
    generalize L0.isEmpty = z at *
    generalize tu nt L1 = D1 at *
    generalize tu nt L2 = D2 at *
    simp [-all_li, T3.b_quarrel_holds, T3.s_quarrel_holds_8, hst, hln, T3.s_quarrel_holds_7, e0, a1, T3.s_quarrel_holds_6, e1, a2, T3.s_quarrel_holds_5, sl1, sl2, T3.s_quarrel_holds_4, t1, T3.s_quarrel_holds_3, t2, T3.s_quarrel_holds_2, at5, r1, hr1, hl1, T3.s_quarrel_holds_1, at6, r2, hr2, hl2, T3.s_quarrel_holds_0, e2, hE]
theorem flt_all {xs : List PyData} {p : PyData → Bool} : (xs.filter fun x => !p x).isEmpty = xs.all p := by
  induction xs with
  | nil => rfl
  | cons x xs ih => cases h : p x <;> simp [h, ih]
/-- one turn of the law's own look at lots -/
theorem own_lot (hb : b.Ok n m) (hn : n ≤ 7) (hw : ∀ d lo hi S, Γ f_Lwhole [.v d, .v (.int lo), .v (.int hi)] S = some (.v (.bool (isI lo hi d)), S)) (hab : ∀ q x S, q < m → x < n → Γ f_Labove [.v b.e, .v (nt q), .v (nt x)] S = some (.v (li nt (abv b q x)), S))
    {q x : Nat} {tr : List Nat} (hq : q < m) (hx : x < n) (r0 : 0 < room b q) (d : PyData) (a2 a3 a7 a8 : Option Pl.W) (S : Sto) :
    ∃ a7', evB Γ (.cons T3.s_Lare_lots_2 (.cons (.asg 7 T3.x_Lare_lots_0) (.cons T3.s_Lare_lots_1 (.cons T3.s_Lare_lots_0 .nil)))) [some (.v b.e), some (.v (tu nt tr)), a2, a3, some (.v (nt q)), some (.v (nt x)), some (.v d), a7, a8] S =
      some (if lotO (pooN b n q x tr) (room b q - 1) d = true then .nx [some (.v b.e), some (.v (tu nt tr)), a2, a3, some (.v (nt q)), some (.v (nt x)), some (.v d), a7', a8] S else .rt (.v (.bool false)) S) := by
  have hr := bd_get hb hq
  have r7 := hb.r7 _ (List.mem_of_getElem? hr)
  have hr1 : boD .sub (.int (room b q : Int)) (.int 1) = some (nt (room b q - 1)) := congrArg some (congrArg PyData.int (by omega))
  rw [← lotO_mem (mem_upN' (tr := tr) (x := x) hb hq)]
  have hF : ∀ z ∈ upN b q x tr, z < 7 := fun z hz => by have := upN_lt hb hq z hz; omega
  have x0 : ∀ (a6 a7 a8 : Option Pl.W) S, evE Γ [some (.v b.e), some (.v (tu nt tr)), a2, a3, some (.v (nt q)), some (.v (nt x)), a6, a7, a8] T3.x_Lare_lots_0 S = some (.v (li nt (upN b q x tr)), S) := fun a6 a7 a8 S => by
    have := lc1 (Γ := Γ) (S := S) (S' := S) (η := [some (.v b.e), some (.v (tu nt tr)), a2, a3, some (.v (nt q)), some (.v (nt x)), a6, a7, a8]) (elt := .var 8) (i := 8) (it := .seq (.call f_Labove (.cons (.var 0) (.cons (.var 4) (.cons (.var 5) .nil))))) (c := .cmp .nin (.var 8) (.var 1)) (xs := abv b q x) (f := nt) (fun z => !decide (z ∈ tr)) id nt (it_li (by simp [hab q x _ hq hx])) (fun z hz => by simp only [List.set]; simp) (fun z hz _ => by simp) (lm100 (by have := abv_len (p := x) hb hq; omega))
    rw [List.map_id] at this
    exact this
  generalize hrr : room b q - 1 = r at *
  cases hT : isT d with
  | false =>
    have : lotO (upN b q x tr) r d = false := by cases d <;> first | rfl | cases hT
    rw [this]
    exact ⟨a7, by simp [T3.s_Lare_lots_2, hT]⟩
  | true =>
    obtain ⟨xs, rfl⟩ := isT_of hT
    by_cases hl : xs.length = r
    rotate_left
    · have : lotO (upN b q x tr) r (.tuple xs) = false := by simp [lotO, hl]
      rw [this]
      exact ⟨a7, by simp [T3.s_Lare_lots_2, hT, len_T, hr, hr1, hl]⟩
    generalize upN b q x tr = F at *
    have x1 : ∀ (a2 a3 a4 a5 a8 : Option Pl.W) S', evE Γ [some (.v b.e), some (.v (tu nt tr)), a2, a3, a4, a5, some (.v (.tuple xs)), some (.v (li nt F)), a8] T3.x_Lare_lots_1 S' = some (.v (.list (xs.filter fun d => !itB F d)), S') := fun a2 a3 a4 a5 a8 S' => by
      have := lc1 (Γ := Γ) (S := S') (S' := S') (η := [some (.v b.e), some (.v (tu nt tr)), a2, a3, a4, a5, some (.v (.tuple xs)), some (.v (li nt F)), a8]) (elt := .var 8) (i := 8) (it := .seq (.var 6)) (c := .or (.not (.call f_Lwhole (.cons (.var 8) (.cons (.con (.int 0)) (.cons (.con (.int 6)) .nil))))) (.cmp .nin (.var 8) (.var 7))) (xs := xs) (f := id) (fun d => !itB F d) id id (it_tu (by simp [tu_id])) (fun z hz => ?_) (fun z hz _ => by simp) (lm100 (by omega))
      · rw [List.map_id, show ∀ ys : List PyData, li id ys = .list ys from fun ys => congrArg PyData.list (List.map_id ys)] at this
        exact this
      · simp only [List.set]
        rw [← itB_6 hF]
        cases hx2 : isI 0 6 z with
        | false => simp [hw, hx2]
        | true =>
          obtain ⟨e, _⟩ := isI_n hx2
          have h2 := hw (nt (toN z)) 0 6 S'
          rw [← e, hx2] at h2
          rw [e] at h2 ⊢
          have e3 : toN (nt (toN z)) = toN z := Int.toNat_natCast _
          rw [e3]
          generalize toN z = y at *
          simp [h2]
    have hne := co_neNL (xs.filter fun d => !itB F d)
    rw [flt_all] at hne
    generalize (xs.filter fun d => !itB F d) = ys at *
    cases hA : xs.all (itB F) with
    | false =>
      rw [hA] at hne
      have : lotO F r (.tuple xs) = false := by simp only [lotO, hA]; simp
      rw [this]
      exact ⟨some (.v (li nt F)), by simp [T3.s_Lare_lots_2, hT, len_T, hr, hr1, hl, x0, T3.s_Lare_lots_1, x1, hne]⟩
    | true =>
      rw [hA] at hne
      obtain ⟨e, hys⟩ := its_n hA
      have hB : lotO F r (.tuple xs) = decide ((xs.map toN).Pairwise (· < ·)) := by simp only [lotO, hA, hl]; simp
      rw [hB]
      generalize xs.map toN = zs at *
      have hyl : zs.length = xs.length := by rw [e]; simp
      have ex : PyData.tuple xs = tu nt zs := congrArg PyData.tuple e
      rw [ex] at x1 ⊢
      obtain ⟨q1, _, q2⟩ := lot_eq hF hys (by omega)
      have hT2 : blD .istup [tu nt zs] = some (.bool true) := rfl
      have hyr : zs.length = r := by omega
      have q3 : blD .list [tu nt zs] = some (li nt zs) := rfl
      generalize ((List.range 7).filter fun x => decide (x ∈ zs)) = us at *
      refine ⟨some (.v (li nt F)), ?_⟩
      by_cases hP : zs.Pairwise (· < ·)
      · rw [decide_eq_true hP] at q2 ⊢
        simp [T3.s_Lare_lots_2, hT2, hr, hr1, hyr, x0, T3.s_Lare_lots_1, x1, hne, T3.s_Lare_lots_0, q1, q3, q2]
      · rw [decide_eq_false hP] at q2 ⊢
        simp [T3.s_Lare_lots_2, hT2, hr, hr1, hyr, x0, T3.s_Lare_lots_1, x1, hne, T3.s_Lare_lots_0, q1, q3, q2]
end
end Mt


namespace Mt
open PySem Pl
section
variable {Γ : Fns} {S : Sto} {b : Bd} {n m : Nat}
theorem it_lots {i j k a c : Nat} {d5 d6 : PyData} (w a4 a5 a6 a7 a8 : Option Pl.W) (S : Sto) : evI Γ [w, some (.v (tu nt [i, j, k])), some (.v (tu nt [a, c])), some (.v (.tuple [d5, d6])), a4, a5, a6, a7, a8] (.zip3 (.var 2) (.lst (.cons (.ix (.var 1) (.con (.int 1))) (.cons (.ix (.var 1) (.con (.int 0))) .nil))) (.var 3)) S = some (.items [.tuple [nt a, nt j, d5], .tuple [nt c, nt i, d6]], S) := rfl
theorem forL_1 {f : PyData → En → Sto → Option Out} {d : PyData} {ds : List PyData} {η η' : En} {S S' : Sto} (h : f d η S = some (.nx η' S')) : forL f (d :: ds) η S = forL f ds η' S' := by
  show (f d η S).bind _ = _
  rw [h]
  rfl
theorem forL_r {f : PyData → En → Sto → Option Out} {d : PyData} {ds : List PyData} {η : En} {S S' : Sto} {w : Pl.W} (h : f d η S = some (.rt w S')) : forL f (d :: ds) η S = some (.rt w S') := by
  show (f d η S).bind _ = _
  rw [h]
  rfl
theorem Lare_lots_any (hb : b.Ok n m) (hn : n ≤ 7) (hw : ∀ d lo hi S, Γ f_Lwhole [.v d, .v (.int lo), .v (.int hi)] S = some (.v (.bool (isI lo hi d)), S)) (hab : ∀ q x S, q < m → x < n → Γ f_Labove [.v b.e, .v (nt q), .v (nt x)] S = some (.v (li nt (abv b q x)), S))
    {i j k a c : Nat} (hi : i < n) (hj : j < n) (ha : a < m) (hc : c < m) (ra : 0 < room b a) (rc : 0 < room b c) (d5 d6 : PyData) :
    runF Γ T3.d_Lare_lots [.v b.e, .v (tu nt [i, j, k]), .v (tu nt [a, c]), .v (.tuple [d5, d6])] S = some (.v (.bool (lotO (pooN b n a j [i, j, k]) (room b a - 1) d5 && (lotO (pooN b n c i [i, j, k]) (room b c - 1) d6 && ((natsO d5).filter fun z => decide (z ∈ natsO d6)).isEmpty))), S) := by
  refine run_v0 rfl ?_
  show evB Γ T3.b_Lare_lots [some (.v b.e), some (.v (tu nt [i, j, k])), some (.v (tu nt [a, c])), some (.v (.tuple [d5, d6])), none, none, none, none, none] S = _
  have r71 := hb.r7 _ (List.mem_of_getElem? (bd_get hb ha))
  have o1 := fun a2 a3 a7 a8 S => own_lot (tr := [i, j, k]) hb hn hw hab ha hj ra d5 a2 a3 a7 a8 S
  have o2 := fun a2 a3 a7 a8 S => own_lot (tr := [i, j, k]) hb hn hw hab hc hi rc d6 a2 a3 a7 a8 S
  have hs : evB Γ T3.b_Lare_lots [some (.v b.e), some (.v (tu nt [i, j, k])), some (.v (tu nt [a, c])), some (.v (.tuple [d5, d6])), none, none, none, none, none] S = (evS Γ T3.s_Lare_lots_4 [some (.v b.e), some (.v (tu nt [i, j, k])), some (.v (tu nt [a, c])), some (.v (.tuple [d5, d6])), none, none, none, none, none] S).bind (seqB Γ (.cons T3.s_Lare_lots_3 .nil)) := by
    unfold T3.b_Lare_lots
    rw [eb_cons]
  rw [hs]
  unfold T3.s_Lare_lots_4
  rw [loop_items (it_lots _ _ _ _ _ _ _)]
  obtain ⟨w7, e1⟩ := o1 (some (.v (tu nt [a, c]))) (some (.v (.tuple [d5, d6]))) none none S
  by_cases h5 : lotO (pooN b n a j [i, j, k]) (room b a - 1) d5 = true
  rotate_left
  · rw [if_neg h5] at e1
    rw [forL_r (S' := S) (w := .v (.bool false)) (by exact e1), Bool.eq_false_iff.mpr h5]
    rfl
  rw [if_pos h5] at e1
  rw [forL_1 (by exact e1)]
  obtain ⟨v7, e2⟩ := o2 (some (.v (tu nt [a, c]))) (some (.v (.tuple [d5, d6]))) w7 none S
  by_cases h6 : lotO (pooN b n c i [i, j, k]) (room b c - 1) d6 = true
  rotate_left
  · rw [if_neg h6] at e2
    rw [forL_r (S' := S) (w := .v (.bool false)) (by exact e2), Bool.eq_false_iff.mpr h6, Bool.false_and, Bool.and_false]
    rfl
  rw [if_pos h6] at e2
  rw [forL_1 (by exact e2)]
  rw [h5, h6]
  obtain ⟨L1, rfl, f2, f3, f4, f5⟩ := lotO_of h5
  obtain ⟨L2, rfl, g2, g3, g4, g5⟩ := lotO_of h6
  have e3 : ∀ (a1 a2 a4 a5 a6 a7 a8 : Option Pl.W) S, evE Γ [some (.v b.e), a1, a2, some (.v (.tuple [tu nt L1, tu nt L2])), a4, a5, a6, a7, a8] T3.x_Lare_lots_2 S = some (.v (li nt (L1.filter fun z => decide (z ∈ L2))), S) := fun a1 a2 a4 a5 a6 a7 a8 S => by
    have := lc1 (Γ := Γ) (S := S) (S' := S) (η := [some (.v b.e), a1, a2, some (.v (.tuple [tu nt L1, tu nt L2])), a4, a5, a6, a7, a8]) (elt := .var 8) (i := 8) (it := .seq (.ix (.var 3) (.con (.int 0)))) (c := .cmp .isin (.var 8) (.ix (.var 3) (.con (.int 1)))) (xs := L1) (f := nt) (fun z => decide (z ∈ L2)) id nt (it_tu (by simp [show atD (.tuple [tu nt L1, tu nt L2]) (.int 0) = some (tu nt L1) from rfl])) (fun z hz => by simp only [List.set]; simp [show atD (.tuple [tu nt L1, tu nt L2]) (.int 1) = some (tu nt L2) from rfl]) (fun z hz _ => by simp) (lm100 (by omega))
    rw [List.map_id] at this
    exact this
  have hE := co_eqE (f := nt) (L1.filter fun z => decide (z ∈ L2)) (by decide)
  rw [f2, g2]
  generalize L1.filter (fun z => decide (z ∈ L2)) = L0 at *
  generalize L0.isEmpty = z at *
  show evB Γ (.cons T3.s_Lare_lots_3 .nil) _ S = _
  simp [T3.s_Lare_lots_3, e3, hE]
theorem Lis_quarrel_any (hb : b.Ok n m) (n0 : 0 < n) (m0 : 0 < m) (hn : n ≤ 7) (hI : ∀ d lo hi S, Γ f_Lwhole [.v d, .v (.int lo), .v (.int hi)] S = some (.v (.bool (isI lo hi d)), S))
    (ht : ∀ i j k a c S, i < n → j < n → k < n → a < m → c < m → Γ f_Lis_crossed [.v b.e, .v (.tuple [nt i, nt j, nt k]), .v (.tuple [nt a, nt c])] S = some (.v (.bool (triB b i j k a c)), S))
    (hl : ∀ i j k a c d5 d6 S, i < n → j < n → a < m → c < m → 0 < room b a → 0 < room b c → Γ f_Lare_lots [.v b.e, .v (tu nt [i, j, k]), .v (tu nt [a, c]), .v (.tuple [d5, d6])] S = some (.v (.bool (lotO (pooN b n a j [i, j, k]) (room b a - 1) d5 && (lotO (pooN b n c i [i, j, k]) (room b c - 1) d6 && ((natsO d5).filter fun z => decide (z ∈ natsO d6)).isEmpty))), S)) (d : PyData) :
    runF Γ T3.d_Lis_quarrel [.v b.e, .v d] S = some (.v (.bool (qB b n m d)), S) := by
  refine run_v0 rfl ?_
  show evB Γ T3.b_Lis_quarrel [some (.v b.e), some (.v d), none] S = _
  cases hT : isT d with
  | false =>
    have : qB b n m d = false := by cases d <;> first | rfl | cases hT
    rw [this]
    simp [T3.b_Lis_quarrel, T3.s_Lis_quarrel_3, hT]
  | true =>
    obtain ⟨xs, rfl⟩ := isT_of hT
    by_cases hl7 : xs.length = 7
    rotate_left
    · rw [qB_len hl7]
      have hne : ¬ (xs.length : Int) = 7 := by omega
      simp [T3.b_Lis_quarrel, T3.s_Lis_quarrel_3, hT, len_T, hne]
    obtain ⟨d0, d1, d2, d3, d4, d5, d6, rfl⟩ := list7 hl7
    have hst : blD .istup [.tuple [d0, d1, d2, d3, d4, d5, d6]] = some (.bool true) := rfl
    have hln : blD .len [.tuple [d0, d1, d2, d3, d4, d5, d6]] = some (.int 7) := rfl
    have sl1 : slD (.tuple [d0, d1, d2, d3, d4, d5, d6]) none (some 3) = some (.tuple [d0, d1, d2]) := rfl
    have sl2 : slD (.tuple [d0, d1, d2, d3, d4, d5, d6]) (some 3) (some 5) = some (.tuple [d3, d4]) := rfl
    have sl3 : slD (.tuple [d0, d1, d2, d3, d4, d5, d6]) (some 5) none = some (.tuple [d5, d6]) := rfl
    have hQ : qB b n m (.tuple [d0, d1, d2, d3, d4, d5, d6]) = ([d0, d1, d2].all (isI 0 ((n : Int) - 1)) && ([d3, d4].all (isI 0 ((m : Int) - 1)) && (triB b (toN d0) (toN d1) (toN d2) (toN d3) (toN d4) &&
      (lotO (pooN b n (toN d3) (toN d1) [toN d0, toN d1, toN d2]) (room b (toN d3) - 1) d5 && (lotO (pooN b n (toN d4) (toN d0) [toN d0, toN d1, toN d2]) (room b (toN d4) - 1) d6 && ((natsO d5).filter fun z => decide (z ∈ natsO d6)).isEmpty))))) := rfl
    rw [hQ]
    have sn : boD .sub (.int (n : Int)) (.int 1) = some (.int ((n : Int) - 1)) := rfl
    have sm : boD .sub (.int (m : Int)) (.int 1) = some (.int ((m : Int) - 1)) := rfl
    have ho := ord_get hb m0
    have hol := Ord.len (hb.op _ (List.mem_of_getElem? ho))
    have hrl := hb.rl
    generalize hV : PyData.tuple [d0, d1, d2, d3, d4, d5, d6] = V at *
    have e0 : ∀ S, evE Γ [some (.v b.e), some (.v V), none] T3.x_Lis_quarrel_0 S = some (.v (.list ([d0, d1, d2].filter fun d => !isI 0 ((n : Int) - 1) d)), S) := fun S => by
      have := lc1 (Γ := Γ) (S := S) (S' := S) (η := [some (.v b.e), some (.v V), none]) (elt := .var 2) (i := 2) (it := .seq (.sl (.var 1) .nop (.con (.int 3)))) (c := .not (.call f_Lwhole (.cons (.var 2) (.cons (.con (.int 0)) (.cons (.bin .sub (.blt .len (.cons (.ix (.ix (.var 0) (.con (.int 1))) (.con (.int 0))) .nil)) (.con (.int 1))) .nil))))) (xs := [d0, d1, d2]) (f := id) (fun d => !isI 0 ((n : Int) - 1) d) id id (it_tu (by simp [sl1, tu_id])) (fun z hz => by simp only [List.set]; simp [ho, hol, sn, hI]) (fun z hz _ => by simp) (lm100 (by simp))
      rw [List.map_id, show ∀ ys : List PyData, li id ys = .list ys from fun ys => congrArg PyData.list (List.map_id ys)] at this
      exact this
    have e1 : ∀ S, evE Γ [some (.v b.e), some (.v V), none] T3.x_Lis_quarrel_1 S = some (.v (.list ([d3, d4].filter fun d => !isI 0 ((m : Int) - 1) d)), S) := fun S => by
      have := lc1 (Γ := Γ) (S := S) (S' := S) (η := [some (.v b.e), some (.v V), none]) (elt := .var 2) (i := 2) (it := .seq (.sl (.var 1) (.con (.int 3)) (.con (.int 5)))) (c := .not (.call f_Lwhole (.cons (.var 2) (.cons (.con (.int 0)) (.cons (.bin .sub (.blt .len (.cons (.ix (.var 0) (.con (.int 0))) .nil)) (.con (.int 1))) .nil))))) (xs := [d3, d4]) (f := id) (fun d => !isI 0 ((m : Int) - 1) d) id id (it_tu (by simp [sl2, tu_id])) (fun z hz => by simp only [List.set]; simp [hrl, sm, hI]) (fun z hz _ => by simp) (lm100 (by simp))
      rw [List.map_id, show ∀ ys : List PyData, li id ys = .list ys from fun ys => congrArg PyData.list (List.map_id ys)] at this
      exact this
    have a1 := co_neNL ([d0, d1, d2].filter fun d => !isI 0 ((n : Int) - 1) d)
    have a2 := co_neNL ([d3, d4].filter fun d => !isI 0 ((m : Int) - 1) d)
    rw [flt_all] at a1 a2
    generalize ([d0, d1, d2].filter fun d => !isI 0 ((n : Int) - 1) d) = B1 at *
    generalize ([d3, d4].filter fun d => !isI 0 ((m : Int) - 1) d) = B2 at *
    cases h1 : [d0, d1, d2].all (isI 0 ((n : Int) - 1)) with
    | false =>
      rw [h1] at a1
      simp [T3.b_Lis_quarrel, T3.s_Lis_quarrel_3, hst, hln, T3.s_Lis_quarrel_2, e0, a1]
    | true =>
    rw [h1] at a1
    cases h2 : [d3, d4].all (isI 0 ((m : Int) - 1)) with
    | false =>
      rw [h2] at a2
      simp [T3.b_Lis_quarrel, T3.s_Lis_quarrel_3, hst, hln, T3.s_Lis_quarrel_2, e0, a1, T3.s_Lis_quarrel_1, e1, a2]
    | true =>
    rw [h2] at a2
    obtain ⟨b0, b1, b2⟩ := all3 h1
    obtain ⟨b3, b4⟩ := all2 h2
    obtain ⟨c0, l0⟩ := isI_n b0
    obtain ⟨c1, l1⟩ := isI_n b1
    obtain ⟨c2, l2⟩ := isI_n b2
    obtain ⟨c3, l3⟩ := isI_n b3
    obtain ⟨c4, l4⟩ := isI_n b4
    rw [c0, c1, c2] at sl1
    rw [c3, c4] at sl2
    clear h1 h2 b0 b1 b2 b3 b4 c0 c1 c2 c3 c4 hV hQ
    generalize toN d0 = i at *
    generalize toN d1 = j at *
    generalize toN d2 = k at *
    generalize toN d3 = a at *
    generalize toN d4 = c at *
    have hi : i < n := by omega
    have hj : j < n := by omega
    have hk : k < n := by omega
    have ha : a < m := by omega
    have hc : c < m := by omega
    have t1 := fun S => ht i j k a c S hi hj hk ha hc
    cases h3 : triB b i j k a c with
    | false =>
      rw [h3] at t1
      simp [T3.b_Lis_quarrel, T3.s_Lis_quarrel_3, hst, hln, T3.s_Lis_quarrel_2, e0, a1, T3.s_Lis_quarrel_1, e1, a2, T3.s_Lis_quarrel_0, sl1, sl2, t1]
    | true =>
    rw [h3] at t1
    obtain ⟨ra, rc⟩ := tri_rooms h3
    have t2 : ∀ S, Γ f_Lare_lots [.v b.e, .v (.tuple [nt i, nt j, nt k]), .v (.tuple [nt a, nt c]), .v (.tuple [d5, d6])] S = _ := fun S => hl i j k a c d5 d6 S hi hj ha hc ra rc
    simp [T3.b_Lis_quarrel, T3.s_Lis_quarrel_3, hst, hln, T3.s_Lis_quarrel_2, e0, a1, T3.s_Lis_quarrel_1, e1, a2, T3.s_Lis_quarrel_0, sl1, sl2, sl3, t1, t2]
/-- what quarrel tells is judged to be one -/
theorem qB_of (hn : n ≤ 7) {i j k a c : Nat} {L1 L2 : List Nat} (Q : QR b n m i j k a c L1 L2) : qB b n m (qV i j k a c L1 L2) = true := by
  have hQ : qB b n m (qV i j k a c L1 L2) = ([nt i, nt j, nt k].all (isI 0 ((n : Int) - 1)) && ([nt a, nt c].all (isI 0 ((m : Int) - 1)) && (triB b (toN (nt i)) (toN (nt j)) (toN (nt k)) (toN (nt a)) (toN (nt c)) &&
      (lotO (pooN b n (toN (nt a)) (toN (nt j)) [toN (nt i), toN (nt j), toN (nt k)]) (room b (toN (nt a)) - 1) (tu nt L1) && (lotO (pooN b n (toN (nt c)) (toN (nt i)) [toN (nt i), toN (nt j), toN (nt k)]) (room b (toN (nt c)) - 1) (tu nt L2) && ((natsO (tu nt L1)).filter fun z => decide (z ∈ natsO (tu nt L2))).isEmpty))))) := rfl
  have hN : ∀ x : Nat, toN (nt x) = x := fun x => Int.toNat_natCast x
  have hIs : ∀ x r : Nat, x < r → isI 0 ((r : Int) - 1) (nt x) = true := fun x r h => by
    show (decide ((0 : Int) ≤ (x : Int)) && decide ((x : Int) ≤ (r : Int) - 1)) = true
    rw [decide_eq_true (by omega), decide_eq_true (by omega)]
    rfl
  have hF : ∀ q x tr, ∀ z ∈ pooN b n q x tr, z < 7 := fun q x tr z hz => by have := pooN_lt z hz; omega
  rw [hQ]
  simp only [hN]
  rw [Q.tri, lotO_tu (hF _ _ _) Q.one.len Q.one.asc Q.one.sub, lotO_tu (hF _ _ _) Q.two.len Q.two.asc Q.two.sub, natsO_tu, natsO_tu, List.filter_eq_nil_iff.mpr fun z hz => by simpa using Q.dis z hz]
  simp [hIs i n Q.hi, hIs j n Q.hj, hIs k n Q.hk, hIs a m Q.ha, hIs c m Q.hc]
end
end Mt


namespace Pl
open PySem Mt
structure QT (T : List (Nat × Fd)) : Prop where
  pe : T.lookup f_people_of = some d_people_of
  po : T.lookup f_posts_of = some d_posts_of
  rk : T.lookup f_rank = some d_rank
  ab : T.lookup f_above = some d_above
  un : T.lookup f_are_unlike = some d_are_unlike
  tr : T.lookup f_is_triple = some d_is_triple
  pl : T.lookup f_pools = some d_pools
  lo : T.lookup f_lots_of = some d_lots_of
  qu : T.lookup f_quarrel = some d_quarrel
section
variable {T : List (Nat × Fd)} {b : Bd} {n m : Nat}
theorem QT.posts (Q : QT T) (hb : b.Ok n m) (k : Nat) (S : Sto) : evF T (k + 1) f_posts_of [.v b.e] S = some (.v (nt m), S) := by
  rw [evF_of Q.po]
  refine run_v0 rfl ?_
  have hrl := hb.rl
  show evB _ b_posts_of [some (.v b.e)] S = _
  simp [b_posts_of, s_posts_of_0, hrl]
theorem QT.people (Q : QT T) (hb : b.Ok n m) (m0 : 0 < m) (k : Nat) (S : Sto) : evF T (k + 1) f_people_of [.v b.e] S = some (.v (nt n), S) := people_all (k := k) Q.pe hb m0 S
theorem QT.triple (Q : QT T) (hb : b.Ok n m) (k : Nat) : ∀ i j l a c S, i < n → j < n → l < n → a < m → c < m → evF T (k + 2) f_is_triple [.v b.e, .v (.tuple [nt i, nt j, nt l]), .v (.tuple [nt a, nt c])] S = some (.v (.bool (triB b i j l a c)), S) := fun i j l a c S hi hj hl ha hc => by
  rw [evF_of Q.tr]
  refine is_triple_ev hb (fun p q S hp hq => rank_all (k := k) Q.rk hb hq hp S) (fun i j l S => ?_) hi hj hl ha hc
  rw [evF_of Q.un]
  exact are_unlike_ev (l := [i, j, l]) (by simp)
theorem QT.pools (Q : QT T) (hb : b.Ok n m) (hn : n ≤ 7) (k : Nat) : ∀ i j l a c S, i < n → j < n → l < n → a < m → c < m → evF T (k + 2) f_pools [.v b.e, .v (.tuple [nt i, nt j, nt l]), .v (.tuple [nt a, nt c])] S = some (.v (.tuple [li nt (pooN b n a j [i, j, l]), li nt (pooN b n c i [i, j, l])]), S) := fun i j l a c S hi hj hl ha hc => by
  rw [evF_of Q.pl]
  refine pools_ev hn (fun q x S hq hx => ?_) hi hj ha hc
  rw [evF_of Q.ab]
  exact above_ev hb hn hq hx
theorem QT.quarrel (Q : QT T) (hb : b.Ok n m) (hn : n ≤ 7) (hm : m ≤ 7) (m0 : 0 < m) (k : Nat) (S : Sto) : evF T (k + 4) f_quarrel [.v b.e] S = some (.v (oD (qrO b n m)), S) := by
  rw [evF_of Q.qu]
  refine quarrel_ev hb hn hm (fun S => Q.people hb m0 (k + 2) S) (fun S => Q.posts hb (k + 2) S) (fun i j l a c S hi hj hl ha hc => Q.triple hb (k + 1) i j l a c S hi hj hl ha hc) (fun i j l a c S hi hj hl ha hc h => ?_)
  obtain ⟨ra, rc⟩ := tri_rooms h
  have hF : ∀ z ∈ pooN b n a j [i, j, l], z < n := fun z hz => pooN_lt z hz
  rw [evF_of Q.lo]
  exact lots_of_ev hb ⟨Nat.le_trans pooN_len hn, pooN_nd, hF⟩ (Nat.le_trans pooN_len hn) ha hc ra rc fun S => Q.pools hb hn k i j l a c S hi hj hl ha hc
theorem QT.holds (Q : QT T) {f : Nat} (h1 : T.lookup f_is_lot = some T3.d_is_lot) (h2 : T.lookup f_is_integer = some d_is_integer) (h3 : T.lookup f = some T3.d_quarrel_holds) (hb : b.Ok n m) (hn : n ≤ 7) (n0 : 0 < n) (m0 : 0 < m) (k : Nat) (d : PyData) (S : Sto) : evF T (k + 3) f [.v b.e, .v d] S = some (.v (.bool (qB b n m d)), S) := by
  rw [evF_of h3]
  refine quarrel_holds_any hb hn n0 m0 (fun d lo hi S => is_int_all (k := k + 1) h2 d lo hi S) (fun S => Q.people hb m0 (k + 1) S) (fun S => Q.posts hb (k + 1) S) (fun i j l a c S hi hj hl ha hc => Q.triple hb k i j l a c S hi hj hl ha hc) (fun i j l a c S hi hj hl ha hc => Q.pools hb hn k i j l a c S hi hj hl ha hc) (fun F r d S hF hr => ?_) d
  rw [evF_of h1]
  exact is_lot_any hF hr (fun d lo hi S => is_int_all (k := k) h2 d lo hi S) d
theorem own_holds {f : Nat} (h1 : T.lookup f_Lare_lots = some T3.d_Lare_lots) (h2 : T.lookup f_Lwhole = some d_Lwhole) (h3 : T.lookup f = some T3.d_Lis_quarrel) (h4 : T.lookup f_Labove = some d_Labove) (h5 : T.lookup f_Lis_crossed = some d_Lis_crossed) (hb : b.Ok n m) (hn : n ≤ 7) (n0 : 0 < n) (m0 : 0 < m) (k : Nat) (d : PyData) (S : Sto) : evF T (k + 3) f [.v b.e, .v d] S = some (.v (.bool (qB b n m d)), S) := by
  rw [evF_of h3]
  refine Lis_quarrel_any hb n0 m0 hn (fun d lo hi S => whole_all (k := k + 1) h2 d lo hi S) (fun i j l a c S hi hj hl ha hc => ?_) (fun i j l a c d5 d6 S hi hj ha hc ra rc => ?_) d
  · rw [evF_of h5]
    exact Lis_crossed_ev hb hi hj hl ha hc
  · rw [evF_of h1]
    exact Lare_lots_any hb hn (fun d lo hi S => whole_all (k := k) h2 d lo hi S) (fun q x S hq hx => Labove_all (k := k) h4 hb hq hx S) hi hj ha hc ra rc d5 d6
theorem own_calm (h3 : T.lookup f_Lcalm = some d_Lcalm) (h4 : T.lookup f_Labove = some d_Labove) (h5 : T.lookup f_Lis_crossed = some d_Lis_crossed) (h6 : T.lookup f_Lhas_lots = some d_Lhas_lots) (h7 : T.lookup f_Ltriples = some T2.d_Ltriples) (hb : b.Ok n m) (hn : n ≤ 7) (hm : m ≤ 7) (m0 : 0 < m) (k : Nat) (S : Sto) : evF T (k + 3) f_Lcalm [.v b.e] S = some (.v (.bool (quietB b n m)), S) := by
  rw [evF_of h3]
  refine Lcalm_ev hb hn hm m0 (fun S => ?_) (fun i j l a c S hi hj hl ha hc => ?_) (fun i j l a c S hi hj hl ha hc ra rc => ?_)
  · rw [evF_of h7]
    exact Ltriples2_ev hn
  · rw [evF_of h5]
    exact Lis_crossed_ev hb hi hj hl ha hc
  · rw [evF_of h6]
    exact Lhas_lots_ev hb hn hi hj hl ha hc ra rc fun q x S hq hx => Labove_all (k := k) h4 hb hq hx S
theorem QT.calm (Q : QT T) (h : T.lookup f_is_calm = some d_is_calm) (hb : b.Ok n m) (hn : n ≤ 7) (hm : m ≤ 7) (m0 : 0 < m) (k : Nat) (S : Sto) : evF T (k + 5) f_is_calm [.v b.e] S = some (.v (.bool (quietB b n m)), S) := by
  rw [evF_of h]
  exact is_calm_ev hb fun S => Q.quarrel hb hn hm m0 k S
theorem qr_sm (hn : n ≤ 7) (hm : m ≤ 7) : Sm (oD (qrO b n m)) 2 40 := by
  cases h : qrO b n m with
  | none => exact sm_none.mono (by decide) (by decide)
  | some d =>
    obtain ⟨i, j, k, a, c, L1, L2, Q, rfl⟩ := told_qr h
    have hi := Q.hi
    have hj := Q.hj
    have hk := Q.hk
    have ha := Q.ha
    have hc := Q.hc
    have s : ∀ x, x < 7 → Sm (nt x) 1 0 := fun x hx => (sm_nt (by omega)).mono (by decide) (Nat.le_refl _)
    have sl : ∀ (q x : Nat) (tr L : List Nat), LotR b n q x tr L → Sm (tu nt L) 1 7 := fun q x tr L h => by
      have h1 : L.Nodup := h.asc.imp fun h => Nat.ne_of_lt h
      have h2 := Nat.le_trans (nd_sub h1 h.sub) (pooN_len)
      exact sm_tu (f := nt) (M := 7) (fun x hx => sm_nt (by have := pooN_lt x (h.sub x hx); omega)) (by omega)
    exact (sm_tup (sms_cons (s i (by omega)) (sms_cons (s j (by omega)) (sms_cons (s k (by omega)) (sms_cons (s a (by omega)) (sms_cons (s c (by omega)) (sms_cons (sl _ _ _ _ Q.one) (sms_cons (sl _ _ _ _ Q.two) (sms_nil 1))))))))).mono (by decide) (by decide)
end
end Pl


namespace K07
open PySem Pl Mt
abbrev G := evF T 8
theorem qt : QT T := ⟨rfl, rfl, rfl, rfl, rfl, rfl, rfl, rfl, rfl⟩
theorem small_ : Dr (G f_Lsmall_board) [] 2000 AnyP := dr_small_board (k := 4) rfl rfl rfl rfl rfl rfl
theorem stepB {Γ : Fns} {s : St} {b : Bk} {η η' : En} {S S' : Sto} (h : evS Γ s η S = some (.nx η' S')) : evB Γ (.cons s b) η S = evB Γ b η' S' := by
  rw [evB, h]
  rfl
theorem ok_one {Γ : Fns} {s : St} {η : En} {S : Sto} {Q : Out → Prop} (h : Ok (evS Γ s η S) (nextB Γ .nil Q)) : Ok (evB Γ (.cons s .nil) η S) Q := by
  have : evB Γ (.cons s .nil) η S = (evS Γ s η S).bind (seqB Γ .nil) := by simp
  rw [this]
  exact ok_seq h
structure Nt where
  b : Bd
  n : Nat
  m : Nat
structure Nt.Ok (x : Nt) : Prop where
  b : x.b.Ok x.n x.m
  m0 : 0 < x.m
  n7 : x.n ≤ 7
  m7 : x.m ≤ 7
def Nt.e (x : Nt) : PyData := .tuple [x.b.e, .str (oD (qrO x.b x.n x.m)).shown]
theorem turn_own {ns : List Int} {b : Bd} {n m : Nat} (hb : b.Ok n m) (hn : n ≤ 7) (n0 : 0 < n) (hm : m ≤ 7) (m0 : 0 < m) {xs : List Nt} (hx : xs.length ≤ 500) (a3 a4 a5 a6 a8 a9 a10 : Option Pl.W) (dk : List PyData) :
    ∃ a9' a10', evB G (.cons s_law_3 (.cons s_law_2 (.cons s_law_1 (.cons s_law_0 .nil)))) [some (.s ns), some (.r 0), some (.r 1), a3, a4, a5, a6, some (.v b.e), a8, a9, a10] [.lst dk, .lst (mp Nt.e xs)] = some (.nx [some (.s ns), some (.r 0), some (.r 1), a3, a4, a5, a6, some (.v b.e), a8, a9', a10'] [.lst dk, .lst (mp Nt.e (xs ++ [⟨b, n, m⟩]))]) := by
  have hq := fun S => qt.quarrel hb hn hm m0 4 S
  have hc := fun S => own_calm (T := T) rfl rfl rfl rfl rfl hb hn hm m0 5 S
  have hi := fun S => qt.calm rfl hb hn hm m0 3 S
  have hr : blD .repr [oD (qrO b n m)] = some (.str (oD (qrO b n m)).shown) := (qr_sm hn hm).repr (by decide) (by decide)
  have rb : ∀ x : Bool, blD .repr [.bool x] = some (.str (PyData.bool x).shown) := fun x => ((sm_bool x).z).repr (by decide) (by decide)
  have hbb : ∀ x : Bool, coD .ne (.bool x) (.bool x) = some false := fun x => by cases x <;> rfl
  have hqq := qr_quiet hb
  have hlim : xs.length < lim := lt100 (by omega)
  have hNe : Nt.e ⟨b, n, m⟩ = .tuple [b.e, .str (oD (qrO b n m)).shown] := rfl
  have happ : mp Nt.e xs ++ [.tuple [b.e, .str (oD (qrO b n m)).shown]] = mp Nt.e (xs ++ [⟨b, n, m⟩]) := by rw [← hNe]; exact mp_app (f := Nt.e) xs ⟨b, n, m⟩
  have hcase : ∃ d, oD (qrO b n m) = d ∧ isNoneD d = quietB b n m ∧ (quietB b n m = true ∨ (quietB b n m = false ∧ (∀ S, G f_Lis_quarrel [.v b.e, .v d] S = some (.v (.bool true), S)) ∧ ∀ S, G f_quarrel_holds [.v b.e, .v d] S = some (.v (.bool true), S))) := by
    refine ⟨_, rfl, ?_⟩
    rw [← hqq]
    cases h : qrO b n m with
    | none => exact ⟨rfl, .inl rfl⟩
    | some d =>
      obtain ⟨i, j, k, a, c, L1, L2, Q, rfl⟩ := told_qr h
      refine ⟨rfl, .inr ⟨rfl, fun S => ?_, fun S => ?_⟩⟩
      · have := own_holds (T := T) (f := f_Lis_quarrel) rfl rfl rfl rfl rfl hb hn n0 m0 5 (qV i j k a c L1 L2) S
        rw [qB_of hn Q] at this
        exact this
      · have := qt.holds (f := f_quarrel_holds) rfl rfl rfl hb hn n0 m0 5 (qV i j k a c L1 L2) S
        rw [qB_of hn Q] at this
        exact this
  obtain ⟨d, hd, hN, hcase⟩ := hcase
  rw [hd] at hq hr happ
  have h2 := rb (quietB b n m)
  have h3 := hbb (quietB b n m)
  generalize quietB b n m = z at *
  refine ⟨some (.v d), some (.v (.bool z)), ?_⟩
  rcases hcase with rfl | ⟨rfl, q1, q2⟩
  · --X
    simp [s_law_3, hq, hc, s_law_2, hi, h2, hN, h3, s_law_1, s_law_0, hr, hlim, happ]
  · simp [s_law_3, hq, hc, s_law_2, hi, h2, hN, h3, s_law_1, q1, q2, s_law_0, hr, hlim, happ]
def P1 (ns : List Int) (t : Nat) (η : En) (R : Sto) : Prop := ∃ a3 a4 a5 a6 a7 a8 a9 a10 xs, η = [some (.s ns), some (.r 0), some (.r 1), a3, a4, a5, a6, a7, a8, a9, a10] ∧ R = [.lst (mp Nt.e xs)] ∧ (∀ x ∈ xs, x.Ok) ∧ xs.length ≤ 3 * t
theorem law_ok (ns : List Int) : ∃ S', evF T 9 f_law [.s ns] [] = some (.v (.bool true), S') := by
  refine law_pre2 (k := 7) (fd := d_law) (rest := .cons s_law_9 (.cons (.fz 2) (.cons s_law_8 .nil))) rfl rfl rfl rfl (by decide) rfl ?_
  intro dk hD
  show Ok (evB G _ [some (.s ns), some (.r 0), some (.r 1), none, none, none, none, none, none, none, none] _) _
  simp
  refine ok_seq ?_
  unfold s_law_9
  refine turnsR (N := 6) (c := 4000) (i := 3) (B := 0) (R := [.lst []]) (P1 ns) (by decide) (by decide) ⟨_, _, _, _, _, _, _, _, [], rfl, rfl, (fun x hx => nomatch hx), Nat.le_refl _⟩ hD ?_ ?_
  · rintro η dk R B t ⟨a3, a4, a5, a6, a7, a8, a9, a10, xs, rfl, rfl, hxs, hxl⟩ hD hB ht
    have hmx : B + 4000 < mxB := by unfold mxB; omega
    obtain ⟨_, dk1, e1, ⟨b, n, m, n0, n7, m0, m4, hb, rfl⟩, hD1⟩ := small_ dk [.lst (mp Nt.e xs)] B hD (by omega)
    have m7 : m ≤ 7 := by omega
    have hol := hb.ol
    have hrl := hb.rl
    have ho := ord_get hb m0
    have hop := ord_perm hb m0
    obtain ⟨_, dk2, e2, ⟨os, hF, rfl⟩, hD2⟩ := lc_dr (Γ := G) (η := [some (.s ns), some (.r 0), some (.r 1), some (.v (nt t)), some (.v b.e), a5, a6, a7, a8, a9, a10]) (R := [.lst (mp Nt.e xs)]) (i := 6) (xs := b.orders) (f := tu nt) (c := 5) (it := .seq (.ix (.var 4) (.con (.int 1)))) (elt := .call f_Lnear (.cons (.var 1) (.cons (.ix (.ix (.var 4) (.con (.int 1))) (.con (.int 0))) .nil))) (tu nt) (fun _ y => y.Perm (List.range n)) (fun dk => it_tu (by simp)) (by omega) (by omega) (fun o hoo dk B hD hB => by
      obtain ⟨_, dk', e, ⟨ys, hp, rfl⟩, hD'⟩ := dr_near (T := T) (k := 6) rfl rfl (f := nt) (xs := ord b 0) (d := tu nt (ord b 0)) rfl (by rw [Ord.len hop]; exact n0) (by rw [Ord.len hop]; omega) dk [.lst (mp Nt.e xs)] B hD (by omega)
      have e : G f_Lnear [.r 0, .v (tu nt (ord b 0))] (.lst dk :: [.lst (mp Nt.e xs)]) = some (.v (tu nt ys), .lst dk' :: [.lst (mp Nt.e xs)]) := e
      refine ⟨_, dk', ?_, ⟨ys, hp.trans hop, rfl⟩, hD'⟩
      simp only [List.set]
      simp [ho, e]) dk1 _ hD1 (by rw [hol]; omega)
    have e2 : evE G [some (.s ns), some (.r 0), some (.r 1), some (.v (nt t)), some (.v b.e), a5, a6, a7, a8, a9, a10] x_law_0 [.lst dk1, .lst (mp Nt.e xs)] = some (.v (li (tu nt) os), [.lst dk2, .lst (mp Nt.e xs)]) := e2
    have hosl : os.length = m := by rw [← hF.length_eq, hol]
    have hnb : Bd.Ok ⟨b.rooms, os⟩ n m := ⟨hrl, hb.r7, hosl, fun o ho => (hF.mem o ho).choose_spec.2⟩
    have hnbe : PyData.tuple [tu nt b.rooms, tu (tu nt) os] = (Bd.e ⟨b.rooms, os⟩) := rfl
    have hto : blD .tuple [li (tu nt) os] = some (tu (tu nt) os) := rfl
    have E6 : evS G s_law_6 [some (.s ns), some (.r 0), some (.r 1), some (.v (nt t)), some (.v b.e), a5, a6, a7, a8, a9, a10] [.lst dk1, .lst (mp Nt.e xs)] = some (.nx [some (.s ns), some (.r 0), some (.r 1), some (.v (nt t)), some (.v b.e), some (.v (Bd.e ⟨b.rooms, os⟩)), a6, a7, a8, a9, a10] [.lst dk2, .lst (mp Nt.e xs)]) := by simp [s_law_6, e2, hto, hnbe]
    have E7 : evS G s_law_7 [some (.s ns), some (.r 0), some (.r 1), some (.v (nt t)), a4, a5, a6, a7, a8, a9, a10] [.lst dk, .lst (mp Nt.e xs)] = some (.nx [some (.s ns), some (.r 0), some (.r 1), some (.v (nt t)), some (.v b.e), a5, a6, a7, a8, a9, a10] [.lst dk1, .lst (mp Nt.e xs)]) := by simp [s_law_7, e1]
    have x1 : ∀ (a6 a7 a8 a9 a10 : Option Pl.W) S, evE G [some (.s ns), some (.r 0), some (.r 1), some (.v (nt t)), some (.v b.e), some (.v (Bd.e ⟨b.rooms, os⟩)), a6, a7, a8, a9, a10] x_law_1 S = some (.v (li nt ((b.rooms.filter fun r => decide (r < 7)).map (· + 1))), S) := fun a6 a7 a8 a9 a10 S =>
      lc1 (f := nt) (fun r => decide (r < 7)) (· + 1) nt (it_tu (by simp)) (fun r hr => by
        have h7 : ((r : Int) < 7) = (r < 7) := propext (by omega)
        simp only [List.set]
        simp [h7]) (fun r hr _ => by simp only [List.set]; simp) (lm100 (by omega))
    have hb3 : ((b.rooms.filter fun r => decide (r < 7)).map (· + 1)).length = m → Bd.Ok ⟨(b.rooms.filter fun r => decide (r < 7)).map (· + 1), b.orders⟩ n m := fun h => ⟨h, fun r hr => by
      obtain ⟨y, hy, rfl⟩ := List.mem_map.mp hr
      have := of_decide_eq_true (List.mem_filter.mp hy).2
      omega, hol, hb.op⟩
    have hrr : blD .tuple [li nt ((b.rooms.filter fun r => decide (r < 7)).map (· + 1))] = some (tu nt ((b.rooms.filter fun r => decide (r < 7)).map (· + 1))) := rfl
    generalize (b.rooms.filter fun r => decide (r < 7)).map (· + 1) = rs at *
    have hL : PyData.list [b.e, Bd.e ⟨b.rooms, os⟩, .tuple [tu nt rs, tu (tu nt) b.orders]] = li Bd.e [b, ⟨b.rooms, os⟩, ⟨rs, b.orders⟩] := rfl
    have hall : ∀ x ∈ [b, (⟨b.rooms, os⟩ : Bd), ⟨rs, b.orders⟩], x.orders.length = m ∧ (x.rooms.length = m → x.Ok n m) := fun x hx => by
      simp only [List.mem_cons, List.not_mem_nil, or_false] at hx
      rcases hx with rfl | rfl | rfl
      · exact ⟨hol, fun _ => hb⟩
      · exact ⟨hosl, fun _ => hnb⟩
      · exact ⟨hol, hb3⟩
    have hl3 : [b, (⟨b.rooms, os⟩ : Bd), ⟨rs, b.orders⟩].length = 3 := rfl
    have hsrc : ∀ (a6 a7 a8 a9 a10 : Option Pl.W) S, evI G [some (.s ns), some (.r 0), some (.r 1), some (.v (nt t)), some (.v b.e), some (.v (Bd.e ⟨b.rooms, os⟩)), a6, a7, a8, a9, a10] (.seq (.lst (.cons (.var 4) (.cons (.var 5) (.cons (.tup (.cons (.blt .tuple (.cons x_law_1 .nil)) (.cons (.ix (.var 4) (.con (.int 1))) .nil))) .nil))))) S = some (.items ([b, (⟨b.rooms, os⟩ : Bd), ⟨rs, b.orders⟩].map Bd.e), S) := fun a6 a7 a8 a9 a10 S => it_li (by simp [x1, hrr, hL])
    generalize [b, (⟨b.rooms, os⟩ : Bd), ⟨rs, b.orders⟩] = bs at *
    generalize Bd.e ⟨b.rooms, os⟩ = D5 at *
    simp only [List.set]
    rw [stepB E7, stepB E6]
    refine ok_one ?_
    unfold s_law_5
    refine for1 (f := Bd.e) (xs := bs) (fun pre η S' => ∃ a7 a8 a9 a10 ys, η = [some (.s ns), some (.r 0), some (.r 1), some (.v (nt t)), some (.v b.e), some (.v D5), a6, a7, a8, a9, a10] ∧ S' = [.lst dk2, .lst (mp Nt.e ys)] ∧ (∀ x ∈ ys, x.Ok) ∧ ys.length ≤ 3 * t + pre.length) (hsrc a6 a7 a8 a9 a10 _) ⟨_, _, _, _, xs, rfl, rfl, hxs, by simpa using hxl⟩ ?_ ?_
    · rintro pre x post η S' hx ⟨a7, a8, a9, a10, ys, rfl, rfl, hys, hyl⟩
      obtain ⟨x1, x2⟩ := hall x (by rw [hx]; simp)
      have hpl : pre.length < 3 := by
        have := congrArg List.length hx
        simp at this
        omega
      by_cases hxr : x.rooms.length = m
      · obtain ⟨a9', a10', e⟩ := turn_own (ns := ns) (x2 hxr) n7 n0 m7 m0 (xs := ys) (by omega) (some (.v (nt t))) (some (.v b.e)) (some (.v D5)) a6 a8 a9 a10 dk2
        refine ⟨.nx [some (.s ns), some (.r 0), some (.r 1), some (.v (nt t)), some (.v b.e), some (.v D5), a6, some (.v x.e), a8, a9', a10'] [.lst dk2, .lst (mp Nt.e (ys ++ [⟨x, n, m⟩]))], ?_, _, _, _, _, _, rfl, rfl, fun y hy => ?_, by simp; omega⟩
        · rw [eb_cons] at e
          simp only [List.set]
          simp [s_law_4, x1, hxr, e]
        · rcases List.mem_append.mp hy with h | h
          · exact hys y h
          · rw [List.mem_singleton.mp h]; exact ⟨x2 hxr, m0, n7, m7⟩
      · refine ⟨.nx [some (.s ns), some (.r 0), some (.r 1), some (.v (nt t)), some (.v b.e), some (.v D5), a6, some (.v x.e), a8, a9, a10] [.lst dk2, .lst (mp Nt.e ys)], ?_, _, _, _, _, _, rfl, rfl, hys, by simp; omega⟩
        simp only [List.set]
        simp [s_law_4, x1, hxr]
    · rintro η S' ⟨a7, a8, a9, a10, ys, rfl, rfl, hys, hyl⟩
      exact ⟨_, rfl, _, dk2, _, .inl rfl, ⟨_, _, _, _, _, _, _, _, ys, rfl, rfl, hys, by rw [hl3] at hyl; omega⟩, hD2.mono (by omega)⟩
  · rintro η dk R ⟨a3, a4, a5, a6, a7, a8, a9, a10, xs, rfl, rfl, hxs, hxl⟩ hD
    have e0 : ∀ S, evE G [some (.s ns), some (.r 0), some (.v (li Nt.e xs)), a3, a4, a5, a6, a7, a8, a9, a10] x_law_2 S = some (.v (li nt []), S) := fun S => by
      have hrev : revD (li Nt.e xs) = some (li Nt.e xs.reverse) := by show some (PyData.list (mp Nt.e xs).reverse) = some (PyData.list (mp Nt.e xs.reverse)); simp [mp]
      have := lc_core (Γ := G) (S := S) (S' := S) (η := [some (.s ns), some (.r 0), some (.v (li Nt.e xs)), a3, a4, a5, a6, a7, a8, a9, a10]) (elt := .var 7) (c := .cmp .ne (.blt .repr (.cons (.call f_quarrel (.cons (.var 7) .nil)) .nil)) (.var 9)) (tg := [7, 9]) (many := true) (it := .seq (.rev (.var 2))) (xs := xs.reverse) (f := Nt.e) (fun _ => false) (fun _ => 1) nt (fun x => [some (.s ns), some (.r 0), some (.v (li Nt.e xs)), a3, a4, a5, a6, some (.v x.b.e), a8, some (.v (.str (oD (qrO x.b x.n x.m)).shown)), a10]) (it_li (by simp [hrev])) (fun x hx => by simp [bindT, wipeE, setAll, Nt.e]) (fun x hx => by
        have hO := hxs x (by simpa using hx)
        have r2 : blD .repr [oD (qrO x.b x.n x.m)] = some (.str (oD (qrO x.b x.n x.m)).shown) := (qr_sm hO.n7 hO.m7).repr (by decide) (by decide)
        have hT : ∀ S, G f_quarrel [.v x.b.e] S = some (.v (oD (qrO x.b x.n x.m)), S) := fun S => qt.quarrel hO.b hO.n7 hO.m7 hO.m0 4 S
        simp [hT, r2]) (fun x hx h => by cases h) (lm100 (by simp; omega))
      have hnil : (xs.reverse.filter fun _ => false) = [] := List.filter_eq_nil_iff.mpr fun _ _ => Bool.false_ne_true
      rw [hnil] at this
      exact this
    have hE : coD .eq (li nt []) (.list []) = some true := co_eqE (f := nt) [] (by decide)
    have hli : PyData.list (mp Nt.e xs) = li Nt.e xs := rfl
    simp [-li_fold, nextB, hli, s_law_8, e0, hE]
end K07


namespace K07
open PySem PySem.Spec PyProof.Rows L2 Pl
def topS (i : Nat) : Stmt := PySem.Challenge.pw_calmranks_k07_quarrels_told.main.body.getD i (.Pass ⟨0, 0, 0, 0⟩)
def bl : List Str := [(Str.ofString "abs"), (Str.ofString "all"), (Str.ofString "bool"), (Str.ofString "int"), (Str.ofString "isinstance"), (Str.ofString "len"), (Str.ofString "list"), (Str.ofString "min"), (Str.ofString "range"), (Str.ofString "repr"), (Str.ofString "set"), (Str.ofString "sorted"), (Str.ofString "sum"), (Str.ofString "tuple"), (Str.ofString "zip")]
def gl : List (Str × Int) := []
theorem c_is_integer : ckD T bl gl d_is_integer (topS 1) = true := by decide +kernel
theorem c_people_of : ckD T bl gl d_people_of (topS 2) = true := by decide +kernel
theorem c_posts_of : ckD T bl gl d_posts_of (topS 3) = true := by decide +kernel
theorem c_rank : ckD T bl gl d_rank (topS 4) = true := by decide +kernel
theorem c_above : ckD T bl gl d_above (topS 5) = true := by decide +kernel
theorem c_are_unlike : ckD T bl gl d_are_unlike (topS 7) = true := by decide +kernel
theorem c_is_triple : ckD T bl gl d_is_triple (topS 8) = true := by decide +kernel
theorem c_pools : ckD T bl gl d_pools (topS 9) = true := by decide +kernel
theorem c_lots_of : ckD T bl gl d_lots_of (topS 10) = true := by decide +kernel
theorem c_quarrel : ckD T bl gl d_quarrel (topS 11) = true := by decide +kernel
theorem c_is_lot : ckD T bl gl d_is_lot (topS 12) = true := by decide +kernel
theorem c_quarrel_holds : ckD T bl gl d_quarrel_holds (topS 13) = true := by decide +kernel
theorem c_is_calm : ckD T bl gl d_is_calm (topS 14) = true := by decide +kernel
theorem c_Ldeck : ckD T bl gl d_Ldeck (topS 16) = true := by decide +kernel
theorem c_Ldraw : ckD T bl gl d_Ldraw (topS 17) = true := by decide +kernel
theorem c_Lone : ckD T bl gl d_Lone (topS 18) = true := by decide +kernel
theorem c_Lmixed : ckD T bl gl d_Lmixed (topS 19) = true := by decide +kernel
theorem c_Lnear : ckD T bl gl d_Lnear (topS 20) = true := by decide +kernel
theorem c_Lboard : ckD T bl gl d_Lboard (topS 21) = true := by decide +kernel
theorem c_Lwhole : ckD T bl gl d_Lwhole (topS 22) = true := by decide +kernel
theorem c_Labove : ckD T bl gl d_Labove (topS 23) = true := by decide +kernel
theorem c_Lare_lots : ckD T bl gl d_Lare_lots (topS 24) = true := by decide +kernel
theorem c_Lis_crossed : ckD T bl gl d_Lis_crossed (topS 25) = true := by decide +kernel
theorem c_Lis_quarrel : ckD T bl gl d_Lis_quarrel (topS 26) = true := by decide +kernel
theorem c_Lhas_lots : ckD T bl gl d_Lhas_lots (topS 27) = true := by decide +kernel
theorem c_Ltriples : ckD T bl gl d_Ltriples (topS 28) = true := by decide +kernel
theorem c_Lcalm : ckD T bl gl d_Lcalm (topS 29) = true := by decide +kernel
theorem c_Lsmall_board : ckD T bl gl d_Lsmall_board (topS 30) = true := by decide +kernel
theorem c_law : ckD T bl gl d_law (topS 31) = true := by decide +kernel
theorem facts {K : PySem.W.Frag} {h : Heap} {mg : Str → Option Value} (X : K.In h) (G : h.Ns mainGlobals mg)
    {p0 p1 p2 p3 p4 p5 p6 p7 p8 p9 p10 p11 p12 p13 p14 p15 p16 p17 p18 p19 p20 p21 p22 p23 p24 p25 p26 p27 p28 : Addr}
    {od0 an0 od1 an1 od2 an2 od3 an3 od4 an4 od5 an5 od6 an6 od7 an7 od8 an8 od9 an9 od10 an10 od11 an11 od12 an12 od13 an13 od14 an14 od15 an15 od16 an16 od17 an17 od18 an18 od19 an19 od20 an20 od21 an21 od22 an22 od23 an23 od24 an24 od25 an25 od26 an26 od27 an27 od28 an28 : Option Addr} {sl0 sl1 sl2 sl3 sl4 sl5 sl6 sl7 sl8 sl9 sl10 sl11 sl12 sl13 sl14 sl15 sl16 sl17 sl18 sl19 sl20 sl21 sl22 sl23 sl24 sl25 sl26 sl27 sl28 : Array (Option Value)}
    {oc0 kv0 dc0 pm0 cd0 ct0 oc1 kv1 dc1 pm1 cd1 ct1 oc2 kv2 dc2 pm2 cd2 ct2 oc3 kv3 dc3 pm3 cd3 ct3 oc4 kv4 dc4 pm4 cd4 ct4 oc5 kv5 dc5 pm5 cd5 ct5 oc6 kv6 dc6 pm6 cd6 ct6 oc7 kv7 dc7 pm7 cd7 ct7 oc8 kv8 dc8 pm8 cd8 ct8 oc9 kv9 dc9 pm9 cd9 ct9 oc10 kv10 dc10 pm10 cd10 ct10 oc11 kv11 dc11 pm11 cd11 ct11 oc12 kv12 dc12 pm12 cd12 ct12 oc13 kv13 dc13 pm13 cd13 ct13 oc14 kv14 dc14 pm14 cd14 ct14 oc15 kv15 dc15 pm15 cd15 ct15 oc16 kv16 dc16 pm16 cd16 ct16 oc17 kv17 dc17 pm17 cd17 ct17 oc18 kv18 dc18 pm18 cd18 ct18 oc19 kv19 dc19 pm19 cd19 ct19 oc20 kv20 dc20 pm20 cd20 ct20 oc21 kv21 dc21 pm21 cd21 ct21 oc22 kv22 dc22 pm22 cd22 ct22 oc23 kv23 dc23 pm23 cd23 ct23 oc24 kv24 dc24 pm24 cd24 ct24 oc25 kv25 dc25 pm25 cd25 ct25 oc26 kv26 dc26 pm26 cd26 ct26 oc27 kv27 dc27 pm27 cd27 ct27 oc28 kv28 dc28 pm28 cd28 ct28 : Value}
    (a0 : PySem.W.nsIn K mainGlobals (Str.ofString "is_integer") = some (some (.ref p0))) (l0 : K.lookup p0 = some ⟨oc0, od0, .func (PySem.W.fnOf (Str.ofString "is_integer") (Str.ofString "is_integer") (defArgs (topS 1)) (defBody (topS 1)) (defScope (topS 1)) .none kv0 dc0 pm0 an0 cd0 ct0), sl0⟩)
    (c0 : PySem.W.codeIn K cd0 (Str.ofString "is_integer") = true) (k0 : PySem.W.keepIn K (.ref p0) = true)
    (a1 : PySem.W.nsIn K mainGlobals (Str.ofString "people_of") = some (some (.ref p1))) (l1 : K.lookup p1 = some ⟨oc1, od1, .func (PySem.W.fnOf (Str.ofString "people_of") (Str.ofString "people_of") (defArgs (topS 2)) (defBody (topS 2)) (defScope (topS 2)) .none kv1 dc1 pm1 an1 cd1 ct1), sl1⟩)
    (c1 : PySem.W.codeIn K cd1 (Str.ofString "people_of") = true) (k1 : PySem.W.keepIn K (.ref p1) = true)
    (a2 : PySem.W.nsIn K mainGlobals (Str.ofString "posts_of") = some (some (.ref p2))) (l2 : K.lookup p2 = some ⟨oc2, od2, .func (PySem.W.fnOf (Str.ofString "posts_of") (Str.ofString "posts_of") (defArgs (topS 3)) (defBody (topS 3)) (defScope (topS 3)) .none kv2 dc2 pm2 an2 cd2 ct2), sl2⟩)
    (c2 : PySem.W.codeIn K cd2 (Str.ofString "posts_of") = true) (k2 : PySem.W.keepIn K (.ref p2) = true)
    (a3 : PySem.W.nsIn K mainGlobals (Str.ofString "rank") = some (some (.ref p3))) (l3 : K.lookup p3 = some ⟨oc3, od3, .func (PySem.W.fnOf (Str.ofString "rank") (Str.ofString "rank") (defArgs (topS 4)) (defBody (topS 4)) (defScope (topS 4)) .none kv3 dc3 pm3 an3 cd3 ct3), sl3⟩)
    (c3 : PySem.W.codeIn K cd3 (Str.ofString "rank") = true) (k3 : PySem.W.keepIn K (.ref p3) = true)
    (a4 : PySem.W.nsIn K mainGlobals (Str.ofString "above") = some (some (.ref p4))) (l4 : K.lookup p4 = some ⟨oc4, od4, .func (PySem.W.fnOf (Str.ofString "above") (Str.ofString "above") (defArgs (topS 5)) (defBody (topS 5)) (defScope (topS 5)) .none kv4 dc4 pm4 an4 cd4 ct4), sl4⟩)
    (c4 : PySem.W.codeIn K cd4 (Str.ofString "above") = true) (k4 : PySem.W.keepIn K (.ref p4) = true)
    (a5 : PySem.W.nsIn K mainGlobals (Str.ofString "are_unlike") = some (some (.ref p5))) (l5 : K.lookup p5 = some ⟨oc5, od5, .func (PySem.W.fnOf (Str.ofString "are_unlike") (Str.ofString "are_unlike") (defArgs (topS 7)) (defBody (topS 7)) (defScope (topS 7)) .none kv5 dc5 pm5 an5 cd5 ct5), sl5⟩)
    (c5 : PySem.W.codeIn K cd5 (Str.ofString "are_unlike") = true) (k5 : PySem.W.keepIn K (.ref p5) = true)
    (a6 : PySem.W.nsIn K mainGlobals (Str.ofString "is_triple") = some (some (.ref p6))) (l6 : K.lookup p6 = some ⟨oc6, od6, .func (PySem.W.fnOf (Str.ofString "is_triple") (Str.ofString "is_triple") (defArgs (topS 8)) (defBody (topS 8)) (defScope (topS 8)) .none kv6 dc6 pm6 an6 cd6 ct6), sl6⟩)
    (c6 : PySem.W.codeIn K cd6 (Str.ofString "is_triple") = true) (k6 : PySem.W.keepIn K (.ref p6) = true)
    (a7 : PySem.W.nsIn K mainGlobals (Str.ofString "pools") = some (some (.ref p7))) (l7 : K.lookup p7 = some ⟨oc7, od7, .func (PySem.W.fnOf (Str.ofString "pools") (Str.ofString "pools") (defArgs (topS 9)) (defBody (topS 9)) (defScope (topS 9)) .none kv7 dc7 pm7 an7 cd7 ct7), sl7⟩)
    (c7 : PySem.W.codeIn K cd7 (Str.ofString "pools") = true) (k7 : PySem.W.keepIn K (.ref p7) = true)
    (a8 : PySem.W.nsIn K mainGlobals (Str.ofString "lots_of") = some (some (.ref p8))) (l8 : K.lookup p8 = some ⟨oc8, od8, .func (PySem.W.fnOf (Str.ofString "lots_of") (Str.ofString "lots_of") (defArgs (topS 10)) (defBody (topS 10)) (defScope (topS 10)) .none kv8 dc8 pm8 an8 cd8 ct8), sl8⟩)
    (c8 : PySem.W.codeIn K cd8 (Str.ofString "lots_of") = true) (k8 : PySem.W.keepIn K (.ref p8) = true)
    (a9 : PySem.W.nsIn K mainGlobals (Str.ofString "quarrel") = some (some (.ref p9))) (l9 : K.lookup p9 = some ⟨oc9, od9, .func (PySem.W.fnOf (Str.ofString "quarrel") (Str.ofString "quarrel") (defArgs (topS 11)) (defBody (topS 11)) (defScope (topS 11)) .none kv9 dc9 pm9 an9 cd9 ct9), sl9⟩)
    (c9 : PySem.W.codeIn K cd9 (Str.ofString "quarrel") = true) (k9 : PySem.W.keepIn K (.ref p9) = true)
    (a10 : PySem.W.nsIn K mainGlobals (Str.ofString "is_lot") = some (some (.ref p10))) (l10 : K.lookup p10 = some ⟨oc10, od10, .func (PySem.W.fnOf (Str.ofString "is_lot") (Str.ofString "is_lot") (defArgs (topS 12)) (defBody (topS 12)) (defScope (topS 12)) .none kv10 dc10 pm10 an10 cd10 ct10), sl10⟩)
    (c10 : PySem.W.codeIn K cd10 (Str.ofString "is_lot") = true) (k10 : PySem.W.keepIn K (.ref p10) = true)
    (a11 : PySem.W.nsIn K mainGlobals (Str.ofString "quarrel_holds") = some (some (.ref p11))) (l11 : K.lookup p11 = some ⟨oc11, od11, .func (PySem.W.fnOf (Str.ofString "quarrel_holds") (Str.ofString "quarrel_holds") (defArgs (topS 13)) (defBody (topS 13)) (defScope (topS 13)) .none kv11 dc11 pm11 an11 cd11 ct11), sl11⟩)
    (c11 : PySem.W.codeIn K cd11 (Str.ofString "quarrel_holds") = true) (k11 : PySem.W.keepIn K (.ref p11) = true)
    (a12 : PySem.W.nsIn K mainGlobals (Str.ofString "is_calm") = some (some (.ref p12))) (l12 : K.lookup p12 = some ⟨oc12, od12, .func (PySem.W.fnOf (Str.ofString "is_calm") (Str.ofString "is_calm") (defArgs (topS 14)) (defBody (topS 14)) (defScope (topS 14)) .none kv12 dc12 pm12 an12 cd12 ct12), sl12⟩)
    (c12 : PySem.W.codeIn K cd12 (Str.ofString "is_calm") = true) (k12 : PySem.W.keepIn K (.ref p12) = true)
    (a13 : PySem.W.nsIn K mainGlobals (Str.ofString "_law_deck") = some (some (.ref p13))) (l13 : K.lookup p13 = some ⟨oc13, od13, .func (PySem.W.fnOf (Str.ofString "_law_deck") (Str.ofString "_law_deck") (defArgs (topS 16)) (defBody (topS 16)) (defScope (topS 16)) .none kv13 dc13 pm13 an13 cd13 ct13), sl13⟩)
    (c13 : PySem.W.codeIn K cd13 (Str.ofString "_law_deck") = true) (k13 : PySem.W.keepIn K (.ref p13) = true)
    (a14 : PySem.W.nsIn K mainGlobals (Str.ofString "_law_draw") = some (some (.ref p14))) (l14 : K.lookup p14 = some ⟨oc14, od14, .func (PySem.W.fnOf (Str.ofString "_law_draw") (Str.ofString "_law_draw") (defArgs (topS 17)) (defBody (topS 17)) (defScope (topS 17)) .none kv14 dc14 pm14 an14 cd14 ct14), sl14⟩)
    (c14 : PySem.W.codeIn K cd14 (Str.ofString "_law_draw") = true) (k14 : PySem.W.keepIn K (.ref p14) = true)
    (a15 : PySem.W.nsIn K mainGlobals (Str.ofString "_law_one") = some (some (.ref p15))) (l15 : K.lookup p15 = some ⟨oc15, od15, .func (PySem.W.fnOf (Str.ofString "_law_one") (Str.ofString "_law_one") (defArgs (topS 18)) (defBody (topS 18)) (defScope (topS 18)) .none kv15 dc15 pm15 an15 cd15 ct15), sl15⟩)
    (c15 : PySem.W.codeIn K cd15 (Str.ofString "_law_one") = true) (k15 : PySem.W.keepIn K (.ref p15) = true)
    (a16 : PySem.W.nsIn K mainGlobals (Str.ofString "_law_mixed") = some (some (.ref p16))) (l16 : K.lookup p16 = some ⟨oc16, od16, .func (PySem.W.fnOf (Str.ofString "_law_mixed") (Str.ofString "_law_mixed") (defArgs (topS 19)) (defBody (topS 19)) (defScope (topS 19)) .none kv16 dc16 pm16 an16 cd16 ct16), sl16⟩)
    (c16 : PySem.W.codeIn K cd16 (Str.ofString "_law_mixed") = true) (k16 : PySem.W.keepIn K (.ref p16) = true)
    (a17 : PySem.W.nsIn K mainGlobals (Str.ofString "_law_near") = some (some (.ref p17))) (l17 : K.lookup p17 = some ⟨oc17, od17, .func (PySem.W.fnOf (Str.ofString "_law_near") (Str.ofString "_law_near") (defArgs (topS 20)) (defBody (topS 20)) (defScope (topS 20)) .none kv17 dc17 pm17 an17 cd17 ct17), sl17⟩)
    (c17 : PySem.W.codeIn K cd17 (Str.ofString "_law_near") = true) (k17 : PySem.W.keepIn K (.ref p17) = true)
    (a18 : PySem.W.nsIn K mainGlobals (Str.ofString "_law_board") = some (some (.ref p18))) (l18 : K.lookup p18 = some ⟨oc18, od18, .func (PySem.W.fnOf (Str.ofString "_law_board") (Str.ofString "_law_board") (defArgs (topS 21)) (defBody (topS 21)) (defScope (topS 21)) .none kv18 dc18 pm18 an18 cd18 ct18), sl18⟩)
    (c18 : PySem.W.codeIn K cd18 (Str.ofString "_law_board") = true) (k18 : PySem.W.keepIn K (.ref p18) = true)
    (a19 : PySem.W.nsIn K mainGlobals (Str.ofString "_law_whole") = some (some (.ref p19))) (l19 : K.lookup p19 = some ⟨oc19, od19, .func (PySem.W.fnOf (Str.ofString "_law_whole") (Str.ofString "_law_whole") (defArgs (topS 22)) (defBody (topS 22)) (defScope (topS 22)) .none kv19 dc19 pm19 an19 cd19 ct19), sl19⟩)
    (c19 : PySem.W.codeIn K cd19 (Str.ofString "_law_whole") = true) (k19 : PySem.W.keepIn K (.ref p19) = true)
    (a20 : PySem.W.nsIn K mainGlobals (Str.ofString "_law_above") = some (some (.ref p20))) (l20 : K.lookup p20 = some ⟨oc20, od20, .func (PySem.W.fnOf (Str.ofString "_law_above") (Str.ofString "_law_above") (defArgs (topS 23)) (defBody (topS 23)) (defScope (topS 23)) .none kv20 dc20 pm20 an20 cd20 ct20), sl20⟩)
    (c20 : PySem.W.codeIn K cd20 (Str.ofString "_law_above") = true) (k20 : PySem.W.keepIn K (.ref p20) = true)
    (a21 : PySem.W.nsIn K mainGlobals (Str.ofString "_law_are_lots") = some (some (.ref p21))) (l21 : K.lookup p21 = some ⟨oc21, od21, .func (PySem.W.fnOf (Str.ofString "_law_are_lots") (Str.ofString "_law_are_lots") (defArgs (topS 24)) (defBody (topS 24)) (defScope (topS 24)) .none kv21 dc21 pm21 an21 cd21 ct21), sl21⟩)
    (c21 : PySem.W.codeIn K cd21 (Str.ofString "_law_are_lots") = true) (k21 : PySem.W.keepIn K (.ref p21) = true)
    (a22 : PySem.W.nsIn K mainGlobals (Str.ofString "_law_is_crossed") = some (some (.ref p22))) (l22 : K.lookup p22 = some ⟨oc22, od22, .func (PySem.W.fnOf (Str.ofString "_law_is_crossed") (Str.ofString "_law_is_crossed") (defArgs (topS 25)) (defBody (topS 25)) (defScope (topS 25)) .none kv22 dc22 pm22 an22 cd22 ct22), sl22⟩)
    (c22 : PySem.W.codeIn K cd22 (Str.ofString "_law_is_crossed") = true) (k22 : PySem.W.keepIn K (.ref p22) = true)
    (a23 : PySem.W.nsIn K mainGlobals (Str.ofString "_law_is_quarrel") = some (some (.ref p23))) (l23 : K.lookup p23 = some ⟨oc23, od23, .func (PySem.W.fnOf (Str.ofString "_law_is_quarrel") (Str.ofString "_law_is_quarrel") (defArgs (topS 26)) (defBody (topS 26)) (defScope (topS 26)) .none kv23 dc23 pm23 an23 cd23 ct23), sl23⟩)
    (c23 : PySem.W.codeIn K cd23 (Str.ofString "_law_is_quarrel") = true) (k23 : PySem.W.keepIn K (.ref p23) = true)
    (a24 : PySem.W.nsIn K mainGlobals (Str.ofString "_law_has_lots") = some (some (.ref p24))) (l24 : K.lookup p24 = some ⟨oc24, od24, .func (PySem.W.fnOf (Str.ofString "_law_has_lots") (Str.ofString "_law_has_lots") (defArgs (topS 27)) (defBody (topS 27)) (defScope (topS 27)) .none kv24 dc24 pm24 an24 cd24 ct24), sl24⟩)
    (c24 : PySem.W.codeIn K cd24 (Str.ofString "_law_has_lots") = true) (k24 : PySem.W.keepIn K (.ref p24) = true)
    (a25 : PySem.W.nsIn K mainGlobals (Str.ofString "_law_triples") = some (some (.ref p25))) (l25 : K.lookup p25 = some ⟨oc25, od25, .func (PySem.W.fnOf (Str.ofString "_law_triples") (Str.ofString "_law_triples") (defArgs (topS 28)) (defBody (topS 28)) (defScope (topS 28)) .none kv25 dc25 pm25 an25 cd25 ct25), sl25⟩)
    (c25 : PySem.W.codeIn K cd25 (Str.ofString "_law_triples") = true) (k25 : PySem.W.keepIn K (.ref p25) = true)
    (a26 : PySem.W.nsIn K mainGlobals (Str.ofString "_law_calm") = some (some (.ref p26))) (l26 : K.lookup p26 = some ⟨oc26, od26, .func (PySem.W.fnOf (Str.ofString "_law_calm") (Str.ofString "_law_calm") (defArgs (topS 29)) (defBody (topS 29)) (defScope (topS 29)) .none kv26 dc26 pm26 an26 cd26 ct26), sl26⟩)
    (c26 : PySem.W.codeIn K cd26 (Str.ofString "_law_calm") = true) (k26 : PySem.W.keepIn K (.ref p26) = true)
    (a27 : PySem.W.nsIn K mainGlobals (Str.ofString "_law_small_board") = some (some (.ref p27))) (l27 : K.lookup p27 = some ⟨oc27, od27, .func (PySem.W.fnOf (Str.ofString "_law_small_board") (Str.ofString "_law_small_board") (defArgs (topS 30)) (defBody (topS 30)) (defScope (topS 30)) .none kv27 dc27 pm27 an27 cd27 ct27), sl27⟩)
    (c27 : PySem.W.codeIn K cd27 (Str.ofString "_law_small_board") = true) (k27 : PySem.W.keepIn K (.ref p27) = true)
    (a28 : PySem.W.nsIn K mainGlobals (Str.ofString "law") = some (some (.ref p28))) (l28 : K.lookup p28 = some ⟨oc28, od28, .func (PySem.W.fnOf (Str.ofString "law") (Str.ofString "law") (defArgs (topS 31)) (defBody (topS 31)) (defScope (topS 31)) .none kv28 dc28 pm28 an28 cd28 ct28), sl28⟩)
    (c28 : PySem.W.codeIn K cd28 (Str.ofString "law") = true) (k28 : PySem.W.keepIn K (.ref p28) = true)
    (z0 : PySem.W.nsIn K mainGlobals (Str.ofString "abs") = some none)
    (z1 : PySem.W.nsIn K mainGlobals (Str.ofString "all") = some none)
    (z2 : PySem.W.nsIn K mainGlobals (Str.ofString "bool") = some none)
    (z3 : PySem.W.nsIn K mainGlobals (Str.ofString "int") = some none)
    (z4 : PySem.W.nsIn K mainGlobals (Str.ofString "isinstance") = some none)
    (z5 : PySem.W.nsIn K mainGlobals (Str.ofString "len") = some none)
    (z6 : PySem.W.nsIn K mainGlobals (Str.ofString "list") = some none)
    (z7 : PySem.W.nsIn K mainGlobals (Str.ofString "min") = some none)
    (z8 : PySem.W.nsIn K mainGlobals (Str.ofString "range") = some none)
    (z9 : PySem.W.nsIn K mainGlobals (Str.ofString "repr") = some none)
    (z10 : PySem.W.nsIn K mainGlobals (Str.ofString "set") = some none)
    (z11 : PySem.W.nsIn K mainGlobals (Str.ofString "sorted") = some none)
    (z12 : PySem.W.nsIn K mainGlobals (Str.ofString "sum") = some none)
    (z13 : PySem.W.nsIn K mainGlobals (Str.ofString "tuple") = some none)
    (z14 : PySem.W.nsIn K mainGlobals (Str.ofString "zip") = some none)
    : (∀ e ∈ T, DefIn K mg T bl gl e.2) ∧ (∀ x, x ∈ bl → mg x = none) ∧ (∀ x i, gl.lookup x = some i → ∃ t, mg x = some (.int i t)) := by
  refine ⟨?_, ?_, ?_⟩
  · unfold T
    refine List.forall_mem_cons.mpr ⟨def_mk X G a0 l0 c0 k0 (fun _ _ _ _ _ _ us hl => match us, hl with | [_, _, _], _ => rfl) c_is_integer, ?_⟩
    refine List.forall_mem_cons.mpr ⟨def_mk X G a1 l1 c1 k1 (fun _ _ _ _ _ _ us hl => match us, hl with | [_], _ => rfl) c_people_of, ?_⟩
    refine List.forall_mem_cons.mpr ⟨def_mk X G a2 l2 c2 k2 (fun _ _ _ _ _ _ us hl => match us, hl with | [_], _ => rfl) c_posts_of, ?_⟩
    refine List.forall_mem_cons.mpr ⟨def_mk X G a3 l3 c3 k3 (fun _ _ _ _ _ _ us hl => match us, hl with | [_, _, _], _ => rfl) c_rank, ?_⟩
    refine List.forall_mem_cons.mpr ⟨def_mk X G a4 l4 c4 k4 (fun _ _ _ _ _ _ us hl => match us, hl with | [_, _, _], _ => rfl) c_above, ?_⟩
    refine List.forall_mem_cons.mpr ⟨def_mk X G a5 l5 c5 k5 (fun _ _ _ _ _ _ us hl => match us, hl with | [_], _ => rfl) c_are_unlike, ?_⟩
    refine List.forall_mem_cons.mpr ⟨def_mk X G a6 l6 c6 k6 (fun _ _ _ _ _ _ us hl => match us, hl with | [_, _, _], _ => rfl) c_is_triple, ?_⟩
    refine List.forall_mem_cons.mpr ⟨def_mk X G a7 l7 c7 k7 (fun _ _ _ _ _ _ us hl => match us, hl with | [_, _, _], _ => rfl) c_pools, ?_⟩
    refine List.forall_mem_cons.mpr ⟨def_mk X G a8 l8 c8 k8 (fun _ _ _ _ _ _ us hl => match us, hl with | [_, _, _], _ => rfl) c_lots_of, ?_⟩
    refine List.forall_mem_cons.mpr ⟨def_mk X G a9 l9 c9 k9 (fun _ _ _ _ _ _ us hl => match us, hl with | [_], _ => rfl) c_quarrel, ?_⟩
    refine List.forall_mem_cons.mpr ⟨def_mk X G a10 l10 c10 k10 (fun _ _ _ _ _ _ us hl => match us, hl with | [_, _, _], _ => rfl) c_is_lot, ?_⟩
    refine List.forall_mem_cons.mpr ⟨def_mk X G a11 l11 c11 k11 (fun _ _ _ _ _ _ us hl => match us, hl with | [_, _], _ => rfl) c_quarrel_holds, ?_⟩
    refine List.forall_mem_cons.mpr ⟨def_mk X G a12 l12 c12 k12 (fun _ _ _ _ _ _ us hl => match us, hl with | [_], _ => rfl) c_is_calm, ?_⟩
    refine List.forall_mem_cons.mpr ⟨def_mk X G a13 l13 c13 k13 (fun _ _ _ _ _ _ us hl => match us, hl with | [_], _ => rfl) c_Ldeck, ?_⟩
    refine List.forall_mem_cons.mpr ⟨def_mk X G a14 l14 c14 k14 (fun _ _ _ _ _ _ us hl => match us, hl with | [_, _], _ => rfl) c_Ldraw, ?_⟩
    refine List.forall_mem_cons.mpr ⟨def_mk X G a15 l15 c15 k15 (fun _ _ _ _ _ _ us hl => match us, hl with | [_, _], _ => rfl) c_Lone, ?_⟩
    refine List.forall_mem_cons.mpr ⟨def_mk X G a16 l16 c16 k16 (fun _ _ _ _ _ _ us hl => match us, hl with | [_, _], _ => rfl) c_Lmixed, ?_⟩
    refine List.forall_mem_cons.mpr ⟨def_mk X G a17 l17 c17 k17 (fun _ _ _ _ _ _ us hl => match us, hl with | [_, _], _ => rfl) c_Lnear, ?_⟩
    refine List.forall_mem_cons.mpr ⟨def_mk X G a18 l18 c18 k18 (fun _ _ _ _ _ _ us hl => match us, hl with | [_, _, _], _ => rfl) c_Lboard, ?_⟩
    refine List.forall_mem_cons.mpr ⟨def_mk X G a19 l19 c19 k19 (fun _ _ _ _ _ _ us hl => match us, hl with | [_, _, _], _ => rfl) c_Lwhole, ?_⟩
    refine List.forall_mem_cons.mpr ⟨def_mk X G a20 l20 c20 k20 (fun _ _ _ _ _ _ us hl => match us, hl with | [_, _, _], _ => rfl) c_Labove, ?_⟩
    refine List.forall_mem_cons.mpr ⟨def_mk X G a21 l21 c21 k21 (fun _ _ _ _ _ _ us hl => match us, hl with | [_, _, _, _], _ => rfl) c_Lare_lots, ?_⟩
    refine List.forall_mem_cons.mpr ⟨def_mk X G a22 l22 c22 k22 (fun _ _ _ _ _ _ us hl => match us, hl with | [_, _, _], _ => rfl) c_Lis_crossed, ?_⟩
    refine List.forall_mem_cons.mpr ⟨def_mk X G a23 l23 c23 k23 (fun _ _ _ _ _ _ us hl => match us, hl with | [_, _], _ => rfl) c_Lis_quarrel, ?_⟩
    refine List.forall_mem_cons.mpr ⟨def_mk X G a24 l24 c24 k24 (fun _ _ _ _ _ _ us hl => match us, hl with | [_, _, _], _ => rfl) c_Lhas_lots, ?_⟩
    refine List.forall_mem_cons.mpr ⟨def_mk X G a25 l25 c25 k25 (fun _ _ _ _ _ _ us hl => match us, hl with | [_], _ => rfl) c_Ltriples, ?_⟩
    refine List.forall_mem_cons.mpr ⟨def_mk X G a26 l26 c26 k26 (fun _ _ _ _ _ _ us hl => match us, hl with | [_], _ => rfl) c_Lcalm, ?_⟩
    refine List.forall_mem_cons.mpr ⟨def_mk X G a27 l27 c27 k27 (fun _ _ _ _ _ _ us hl => match us, hl with | [_], _ => rfl) c_Lsmall_board, ?_⟩
    refine List.forall_mem_cons.mpr ⟨def_mk X G a28 l28 c28 k28 (fun _ _ _ _ _ _ us hl => match us, hl with | [_], _ => rfl) c_law, ?_⟩
    exact fun e he => nomatch he
  · unfold bl
    refine List.forall_mem_cons.mpr ⟨PySem.W.mg_none_of X G z0, ?_⟩
    refine List.forall_mem_cons.mpr ⟨PySem.W.mg_none_of X G z1, ?_⟩
    refine List.forall_mem_cons.mpr ⟨PySem.W.mg_none_of X G z2, ?_⟩
    refine List.forall_mem_cons.mpr ⟨PySem.W.mg_none_of X G z3, ?_⟩
    refine List.forall_mem_cons.mpr ⟨PySem.W.mg_none_of X G z4, ?_⟩
    refine List.forall_mem_cons.mpr ⟨PySem.W.mg_none_of X G z5, ?_⟩
    refine List.forall_mem_cons.mpr ⟨PySem.W.mg_none_of X G z6, ?_⟩
    refine List.forall_mem_cons.mpr ⟨PySem.W.mg_none_of X G z7, ?_⟩
    refine List.forall_mem_cons.mpr ⟨PySem.W.mg_none_of X G z8, ?_⟩
    refine List.forall_mem_cons.mpr ⟨PySem.W.mg_none_of X G z9, ?_⟩
    refine List.forall_mem_cons.mpr ⟨PySem.W.mg_none_of X G z10, ?_⟩
    refine List.forall_mem_cons.mpr ⟨PySem.W.mg_none_of X G z11, ?_⟩
    refine List.forall_mem_cons.mpr ⟨PySem.W.mg_none_of X G z12, ?_⟩
    refine List.forall_mem_cons.mpr ⟨PySem.W.mg_none_of X G z13, ?_⟩
    refine List.forall_mem_cons.mpr ⟨PySem.W.mg_none_of X G z14, ?_⟩
    exact fun e he => nomatch he
  · unfold gl
    intro x i hx
    exact nomatch hx
end K07



open PySem PySem.W PyProof.Rows
set_option maxHeartbeats 0 in
theorem PySem.Challenge.cw_calmranks_k07_quarrels_told_holds : PySem.Challenge.rw_calmranks_k07_quarrels_told.Holds := by
  w_on; o_law; k_head; (case hw => w_witness2)
  k_fill
  refine Pl.walk_pl (l := PySem.Challenge.rw_calmranks_k07_quarrels_told) (n := 63) (k := 9) (T := K07.T) (bl := K07.bl) (gl := K07.gl) (li := K07.f_law) (fd := K07.d_law) rfl (by decide) rfl ⟨rfl, by decide, by decide⟩ (fun w h Y => PySem.W.kIn_of Y) rfl rfl rfl ?F (fun ns _ _ => K07.law_ok ns)
  case F =>
    intro w mg h X G
    refine' K07.facts X G ?a0 ?l0 ?c0 ?k0 ?a1 ?l1 ?c1 ?k1 ?a2 ?l2 ?c2 ?k2 ?a3 ?l3 ?c3 ?k3 ?a4 ?l4 ?c4 ?k4 ?a5 ?l5 ?c5 ?k5 ?a6 ?l6 ?c6 ?k6 ?a7 ?l7 ?c7 ?k7 ?a8 ?l8 ?c8 ?k8 ?a9 ?l9 ?c9 ?k9 ?a10 ?l10 ?c10 ?k10 ?a11 ?l11 ?c11 ?k11 ?a12 ?l12 ?c12 ?k12 ?a13 ?l13 ?c13 ?k13 ?a14 ?l14 ?c14 ?k14 ?a15 ?l15 ?c15 ?k15 ?a16 ?l16 ?c16 ?k16 ?a17 ?l17 ?c17 ?k17 ?a18 ?l18 ?c18 ?k18 ?a19 ?l19 ?c19 ?k19 ?a20 ?l20 ?c20 ?k20 ?a21 ?l21 ?c21 ?k21 ?a22 ?l22 ?c22 ?k22 ?a23 ?l23 ?c23 ?k23 ?a24 ?l24 ?c24 ?k24 ?a25 ?l25 ?c25 ?k25 ?a26 ?l26 ?c26 ?k26 ?a27 ?l27 ?c27 ?k27 ?a28 ?l28 ?c28 ?k28 ?z0 ?z1 ?z2 ?z3 ?z4 ?z5 ?z6 ?z7 ?z8 ?z9 ?z10 ?z11 ?z12 ?z13 ?z14
    (case a0 => k_is); (case l0 => k_is); (case c0 => k_is); (case k0 => k_is); (case a1 => k_is); (case l1 => k_is); (case c1 => k_is); (case k1 => k_is); (case a2 => k_is); (case l2 => k_is); (case c2 => k_is); (case k2 => k_is); (case a3 => k_is); (case l3 => k_is); (case c3 => k_is); (case k3 => k_is); (case a4 => k_is); (case l4 => k_is); (case c4 => k_is); (case k4 => k_is); (case a5 => k_is); (case l5 => k_is); (case c5 => k_is); (case k5 => k_is); (case a6 => k_is); (case l6 => k_is); (case c6 => k_is); (case k6 => k_is); (case a7 => k_is); (case l7 => k_is); (case c7 => k_is); (case k7 => k_is); (case a8 => k_is); (case l8 => k_is); (case c8 => k_is); (case k8 => k_is); (case a9 => k_is); (case l9 => k_is); (case c9 => k_is); (case k9 => k_is); (case a10 => k_is); (case l10 => k_is); (case c10 => k_is); (case k10 => k_is); (case a11 => k_is); (case l11 => k_is); (case c11 => k_is); (case k11 => k_is); (case a12 => k_is); (case l12 => k_is); (case c12 => k_is); (case k12 => k_is); (case a13 => k_is); (case l13 => k_is); (case c13 => k_is); (case k13 => k_is); (case a14 => k_is); (case l14 => k_is); (case c14 => k_is); (case k14 => k_is); (case a15 => k_is); (case l15 => k_is); (case c15 => k_is); (case k15 => k_is); (case a16 => k_is); (case l16 => k_is); (case c16 => k_is); (case k16 => k_is); (case a17 => k_is); (case l17 => k_is); (case c17 => k_is); (case k17 => k_is); (case a18 => k_is); (case l18 => k_is); (case c18 => k_is); (case k18 => k_is); (case a19 => k_is); (case l19 => k_is); (case c19 => k_is); (case k19 => k_is); (case a20 => k_is); (case l20 => k_is); (case c20 => k_is); (case k20 => k_is); (case a21 => k_is); (case l21 => k_is); (case c21 => k_is); (case k21 => k_is); (case a22 => k_is); (case l22 => k_is); (case c22 => k_is); (case k22 => k_is); (case a23 => k_is); (case l23 => k_is); (case c23 => k_is); (case k23 => k_is); (case a24 => k_is); (case l24 => k_is); (case c24 => k_is); (case k24 => k_is); (case a25 => k_is); (case l25 => k_is); (case c25 => k_is); (case k25 => k_is); (case a26 => k_is); (case l26 => k_is); (case c26 => k_is); (case k26 => k_is); (case a27 => k_is); (case l27 => k_is); (case c27 => k_is); (case k27 => k_is); (case a28 => k_is); (case l28 => k_is); (case c28 => k_is); (case k28 => k_is); (case z0 => k_is); (case z1 => k_is); (case z2 => k_is); (case z3 => k_is); (case z4 => k_is); (case z5 => k_is); (case z6 => k_is); (case z7 => k_is); (case z8 => k_is); (case z9 => k_is); (case z10 => k_is); (case z11 => k_is); (case z12 => k_is); (case z13 => k_is); (case z14 => k_is)
