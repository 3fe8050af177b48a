import PyProof.Rows.All
import Wide.All
import OpenK.AllK
import Wide.FinOn
import KE.DatumMoreOrd
import KE.DatumOrd
import KE.DatumIndex
import KE.SortData
import KE.DataIsa
import KE.DataAny
import KE.DataFind
import HandS.List
import HandS.ForMost
import HandS.Deep
import HandS.Style
import HandS.Exc
import HandS.Walk
import HandS.HeadHook1
import HandS.HeadHook2
import HandS.TupAny
import HandS.TupMul
import HandS.Wide
import HandS.Conv
import HandS.Text
import HandS.IsInst
import PyProof.ReprRoads
import KE.DataMinMax
import KE.GoesNew
import HandS.Zip
import HandS.TupSets
import KE.KeyNested
import HandS.SetFor
import HandS.ExcOwn
import HandS.RaiseMore
import HandS.Iter
import HandS.Codes
import HandS.Defaults
import HandS.Lambda
import HandS.HeadEnd
import KE.KStateDown
import HandS.More
import HandS.Words
import HandS.WordsExc
import HandS.Head0
import HandS.Head1
import HandS.Head2
import PySem.Challenge.RW_latticewaits_k05_whole_books_and_parts
section
set_option Elab.async false
set_option linter.all false
set_option maxRecDepth 100000
/-! PFa: the compact code and its evaluator over plain data. -/
namespace PF
open PySem

abbrev D := PyData

/-- a value: data; a list or dict of this def's own, that it still writes; the law's cup; a def of the module -/
inductive Vl where
  | d (x : D) | own (x : D) | cup | fn (x : Str)

abbrev St := Int × Int
inductive R (α : Type) where
  | ok (a : α) (s : St) | exc (c : Str) (v : D) (s : St) | bad
abbrev M (α : Type) := St → R α
def ret {α : Type} (a : α) : M α := fun s => .ok a s
def bad {α : Type} : M α := fun _ => .bad
def bd {α β : Type} (m : M α) (f : α → M β) : M β := fun s => match m s with
  | .ok a s' => f a s'
  | .exc c v s' => .exc c v s'
  | .bad => .bad
def opt {α : Type} : Option α → M α
  | some a => ret a
  | none => bad
def rD (x : D) : M Vl := ret (.d x)
def asD {α : Type} (v : Vl) (f : D → M α) : M α := match v with
  | .d x => f x
  | _ => bad
/-- .. or one's own, read -/
def asR {α : Type} (v : Vl) (f : D → M α) : M α := match v with
  | .d x => f x
  | .own x => f x
  | _ => bad
def nown (v : Vl) : M Vl := match v with
  | .own _ => bad
  | _ => ret v

/-! ### operations on data -/
inductive Bi where | add | sub | mul | fdiv | mod | pow
  deriving DecidableEq
inductive Cm where | eq | ne | lt | le | gt | ge | isin | notin | is_ | isnot
  deriving DecidableEq
inductive Ty where | int | bool | tuple | str | list
  deriving DecidableEq
inductive Pm where
  | len | all | any | sum | max | min | sorted | sortedset | lenset | tuple | list | abs | int | str | repr
  | isI (t : Ty) | max2 | min2 | get | index | count | join | dict
  deriving DecidableEq
inductive Ik where | seq | enum | zip | range
  deriving DecidableEq

def line : Nat := 16777216
def mulOk (i j : Int) : Bool := decide (-(2 ^ 64) < i ∧ i < 2 ^ 64) || decide (-(2 ^ 64) < j ∧ j < 2 ^ 64) || decide (i.natAbs.log2 + j.natAbs.log2 < 1000000)
def repL {α : Type} (xs : List α) (k : Int) : List α := (List.replicate k.toNat xs).flatten
def binF : Bi → D → D → Option D
  | .add, .int i, .int j => some (.int (i + j))
  | .add, .str x, .str y => if x.length + y.length ≤ line then some (.str (x ++ y)) else none
  | .add, .list xs, .list ys => if xs.length + ys.length ≤ line then some (.list (xs ++ ys)) else none
  | .add, .tuple xs, .tuple ys => if xs.length + ys.length ≤ line then some (.tuple (xs ++ ys)) else none
  | .sub, .int i, .int j => some (.int (i - j))
  | .mul, .int i, .int j => if mulOk i j then some (.int (i * j)) else none
  | .mul, .list xs, .int k => if -(2 ^ 63) ≤ k ∧ k < 2 ^ 63 ∧ xs.length * k.toNat ≤ line then some (.list (repL xs k)) else none
  | .mul, .tuple xs, .int k => if 0 ≤ k ∧ k ≤ 1000 ∧ xs.length ≤ 1000 then some (.tuple (repL xs k)) else none
  | .fdiv, .int i, .int j => if j ≠ 0 ∧ j.natAbs.log2 < 9000 then some (.int (i.fdiv j)) else none
  | .mod, .int i, .int j => if j ≠ 0 then some (.int (i.fmod j)) else none
  | .pow, .int i, .int j => if 0 ≤ j ∧ j ≤ 1000000 ∧ i.natAbs < 2 ^ 64 then some (.int (i ^ j.toNat)) else none
  | _, _, _ => none
def eqF (a b : D) : Option Bool := if a.plain && b.plain && decide (min a.depth b.depth ≤ 64) then some (PyData.eqv a b) else none
def isNone : D → Bool
  | .none => true
  | _ => false
def ltF (a b : D) : Option Bool := if W.alike a b && !isNone a && decide (min a.depth b.depth ≤ 64) then some (W.dataLt a b) else none
def gtF (a b : D) : Option Bool := if W.alike a b && !isNone a && decide (min a.depth b.depth ≤ 64) then some (W.dataLt b a) else none
def inF (x : D) : D → Option Bool
  | .list ys => if x.plain && PyData.plainAll ys && decide (min x.depth (PyData.depthAll ys) ≤ 64) then some (ys.any fun y => PyData.eqv y x) else none
  | .tuple ys => if x.plain && PyData.plainAll ys && decide (min x.depth (PyData.depthAll ys) ≤ 64) then some (ys.any fun y => PyData.eqv y x) else none
  | .str z => (match x with
    | .str c => if c.length = 1 then some (decide (c.cps.getD 0 0 ∈ z.cps.toList)) else none
    | _ => none)
  | .dict kvs => if x.plain && decide (x.depth ≤ 8) then some (kvs.any fun p => PyData.eqv p.1 x) else none
  | _ => none
/-- x is None, x is True, x is False -/
def isF : D → D → Option Bool
  | a, .none => some (isNone a)
  | .bool a, .bool b => some (a == b)
  | .none, .bool _ => some false
  | .int _, .bool _ => some false
  | .str _, .bool _ => some false
  | _, _ => none
def cmpF : Cm → D → D → Option Bool
  | .eq, a, b => eqF a b
  | .ne, a, b => (eqF a b).map (!·)
  | .lt, a, b => ltF a b
  | .gt, a, b => gtF a b
  | .le, a, b => (gtF a b).map (!·)
  | .ge, a, b => (ltF a b).map (!·)
  | .isin, a, b => inF a b
  | .notin, a, b => (inF a b).map (!·)
  | .is_, a, b => isF a b
  | .isnot, a, b => (isF a b).map (!·)
def fits : D → Bool
  | .str x => decide (x.length < 2 ^ 63)
  | .list xs => decide (xs.length < 2 ^ 63)
  | .tuple xs => decide (xs.length < 2 ^ 63)
  | _ => true
def truthF (d : D) : Option Bool := if fits d then some d.truthy else none

def subF : D → D → Option D
  | .list xs, .int i => L2.atI xs i
  | .tuple xs, .int i => L2.atI xs i
  | .str x, .int i => if x.length ≤ line then (L2.atI x.cps.toList i).map fun c => .str ⟨#[c]⟩ else none
  | .dict kvs, k => if k.plain && decide (k.depth ≤ 8) then (kvs.find? fun p => PyData.eqv p.1 k).map (·.2) else none
  | _, _ => none
def cutL {α : Type} (xs : List α) (lo hi : Option Int) : List α := (xs.drop (HT.sIx xs.length 0 lo)).take (HT.sIx xs.length xs.length hi - HT.sIx xs.length 0 lo)
def boundF : Bool → D → Option (Option Int)
  | false, .none => some none
  | true, .int i => some (some i)
  | _, _ => none
def cutD (x : D) (l h : Option Int) : Option D := match x with
  | .list xs => some (.list (cutL xs l h))
  | .tuple xs => some (.tuple (cutL xs l h))
  | .str z => if z.length ≤ line then some (.str ⟨(cutL z.cps.toList l h).toArray⟩) else none
  | _ => none
def intsF : List D → Option (List Int)
  | [] => some []
  | .int i :: r => (intsF r).map (i :: ·)
  | _ :: _ => none
def seqF : D → Option (List D)
  | .list xs => some xs
  | .tuple xs => some xs
  | _ => none
def isTy : Ty → D → Bool
  | .int, d => d.isInt
  | .bool, d => d.isBool
  | .tuple, d => d.isTuple
  | .str, d => d.isStr
  | .list, d => d.isList
def alikeB : List D → Bool
  | [] => true
  | x :: r => r.all (fun y => W.alike x y && W.alike y x) && alikeB r && W.alike x x
def sortB (ds : List D) : Bool := (ds.all fun d => match d with | .tuple (_ :: _) => true | _ => false) || ds.all fun d => match d with | .tuple _ => false | .none => false | _ => true
def dedup : List D → List D
  | [] => []
  | x :: r => x :: (dedup r).filter fun y => !PyData.eqv y x
mutual
/-- what can be a set's item: whole numbers, None, tuples of these -/
def keyB : D → Bool
  | .int _ => true
  | .none => true
  | .tuple xs => keyAll xs
  | _ => false
def keyAll : List D → Bool
  | [] => true
  | x :: xs => keyB x && keyAll xs
end
mutual
/-- what can be a dict's key -/
def dkeyB : D → Bool
  | .int _ => true
  | .str _ => true
  | .none => true
  | .tuple xs => dkeyAll xs
  | _ => false
def dkeyAll : List D → Bool
  | [] => true
  | x :: xs => dkeyB x && dkeyAll xs
end
/-- tuples alone, or whole numbers alone -/
def keysB (ds : List D) : Bool := (ds.all fun d => match d with | .tuple xs => keyAll xs && decide (PyData.depthAll xs ≤ 7) | _ => false) || ds.all fun d => match d with | .int _ => true | _ => false
/-- laid in before the first that is no less -/
def insD (a : D) : List D → List D
  | [] => [a]
  | b :: l => if W.dataLe false id a b then a :: b :: l else b :: insD a l
def sortD : List D → List D
  | [] => []
  | a :: l => insD a (sortD l)
def sortF (ds : List D) : Option D := if alikeB ds && sortB ds && decide (PyData.depthAll ds ≤ 64) then some (.list (sortD ds)) else none
def primF : Pm → List D → Option D
  | .len, [.list xs] => some (.int xs.length)
  | .len, [.tuple xs] => some (.int xs.length)
  | .len, [.str x] => if x.length ≤ line then some (.int x.length) else none
  | .len, [.dict kvs] => some (.int kvs.length)
  | .all, [x] => (seqF x).bind fun ds => if PyData.plainAll ds && ds.all fits then some (.bool (ds.all PyData.truthy)) else none
  | .any, [x] => (seqF x).bind fun ds => if PyData.plainAll ds && ds.all fits then some (.bool (ds.any PyData.truthy)) else none
  | .sum, [.list ds] => (intsF ds).map fun ns => .int ns.sum
  | .max, [x] => (seqF x).bind fun ds => match ds with
    | a :: r => if alikeB (a :: r) && !isNone a && decide (PyData.depthAll (a :: r) ≤ 64) then some (W.maxD a r) else none
    | [] => none
  | .min, [x] => (seqF x).bind fun ds => match ds with
    | a :: r => if alikeB (a :: r) && !isNone a && decide (PyData.depthAll (a :: r) ≤ 64) then some (W.minD a r) else none
    | [] => none
  | .max2, [.int i, .int j] => some (.int (if j > i then j else i))
  | .min2, [.int i, .int j] => some (.int (if j < i then j else i))
  | .sorted, [.list ds] => sortF ds
  | .sorted, [.tuple ds] => sortF ds
  | .sortedset, [.list xs] => if xs.length < 64 ∧ keysB xs then sortF (dedup xs) else none
  | .sortedset, [.tuple xs] => if xs.length < 64 ∧ keysB xs then sortF (dedup xs) else none
  | .lenset, [.list xs] => if xs.length < 64 ∧ keysB xs then some (.int (dedup xs).length) else none
  | .tuple, [x] => (seqF x).map .tuple
  | .list, [x] => (seqF x).map .list
  | .abs, [.int i] => some (.int (if i < 0 then -i else i))
  | .int, [.int i] => some (.int i)
  | .int, [.bool b] => some (.int (if b then 1 else 0))
  | .str, [.int i] => if i.natAbs.log2 < 1920 then some (.str (toString i : String)) else none
  | .repr, [x] => if x.showable && !x.hasDict && decide (x.depth ≤ 64) && decide (x.shown.length ≤ line) then some (.str x.shown) else none
  | .isI t, [x] => some (.bool (isTy t x))
  | .count, [x, y] => (seqF x).bind fun ds => if PyData.plainAll ds && y.plain && decide (min (PyData.depthAll ds) y.depth ≤ 64) then some (.int (ds.countP fun z => PyData.eqv z y)) else none
  | .index, [x, y] => (seqF x).bind fun ds => if PyData.plainAll ds && y.plain && decide (min (PyData.depthAll ds) y.depth ≤ 64) then (ds.findIdx? fun z => PyData.eqv z y).map fun j => .int j else none
  | _, _ => none
def zipAll : List (List D) → List (List D)
  | [] => []
  | [xs] => xs.map fun x => [x]
  | xs :: r => List.zipWith (fun x l => x :: l) xs (zipAll r)
def rng (lo : Int) : Nat → List D
  | 0 => []
  | n + 1 => .int lo :: rng (lo + 1) n
def seqsF : List D → Option (List (List D))
  | [] => some []
  | x :: r => (seqF x).bind fun xs => (seqsF r).map (xs :: ·)
def enumFrom : Int → List D → List D
  | _, [] => []
  | i, x :: r => .tuple [.int i, x] :: enumFrom (i + 1) r
def itF : Ik → List D → Option (List D)
  | .seq, [x] => seqF x
  | .enum, [x] => (seqF x).map (enumFrom 0)
  | .zip, ds => (seqsF ds).map fun l => (zipAll l).map .tuple
  | .range, [.int j] => if -(2 ^ 62) ≤ j ∧ j < 2 ^ 62 then some (rng 0 j.toNat) else none
  | .range, [.int i, .int j] => if -(2 ^ 62) ≤ i ∧ i < 2 ^ 62 ∧ -(2 ^ 62) ≤ j ∧ j < 2 ^ 62 then some (rng i (j - i).toNat) else none
  | _, _ => none

/-! ### the code -/
inductive Tg where | nm (i : Nat) | nil | cons (a b : Tg)
  deriving DecidableEq
inductive CE where
  | var (i : Nat) | cst (v : D) | fnv (x : Str)
  | nil | cons (a b : CE)
  | tup (a : CE) | lst (a : CE)
  | neg (a : CE) | not (a : CE)
  | bin (o : Bi) (a b : CE) | cmp (o : Cm) (a b : CE) | chain (o p : Cm) (a b c : CE)
  | and (a b : CE) | or (a b : CE) | ite (c a b : CE)
  | sub (a i : CE) | slc (bl bh : Bool) (a lo hi : CE) | rev (a : CE)
  | call (f : Str) (a : CE) | prim (p : Pm) (a b : CE) | it (k : Ik) (a : CE)
  | lc (own : List Nat) (g : Tg) (src tst elt : CE)
  | lc2 (own : List Nat) (g : Tg) (src tst : CE) (own2 : List Nat) (g2 : Tg) (src2 tst2 elt : CE)

abbrev Env := List (Option Vl)
def getV (env : Env) (i : Nat) : M Vl := match env[i]? with
  | some (some v) => ret v
  | _ => bad
def bindT : Tg → Vl → Env → Option Env
  | .nm _, .own _, _ => none
  | .nm i, v, env => some (env.set i (some v))
  | .nil, .d (.tuple []), env => some env
  | .cons a b, .d (.tuple (x :: xs)), env => (bindT a (.d x) env).bind fun e => bindT b (.d (.tuple xs)) e
  | _, _, _ => none
def wipe (env : Env) : List Nat → Env
  | [] => env
  | i :: r => (wipe env r).set i none
/-- an error that leaves a comprehension is not served -/
def noexc {α : Type} (m : M α) : M α := fun s => match m s with
  | .exc _ _ _ => .bad
  | r => r
def lcLoop (f : D → M (Option D)) : List D → M (List D)
  | [] => ret []
  | x :: r => bd (f x) fun o => bd (lcLoop f r) fun ys => match o with
    | some y => ret (y :: ys)
    | none => ret ys
def lcLoop2 (f : D → M (List D)) : List D → M (List D)
  | [] => ret []
  | x :: r => bd (f x) fun l => bd (lcLoop2 f r) fun ys => ret (l ++ ys)
def short (l : List D) : M (List D) := if l.length ≤ line then ret l else bad
def asL {α : Type} (v : Vl) (f : List D → M α) : M α := match v with
  | .d (.list l) => f l
  | _ => bad
def asT {α : Type} (v : Vl) (f : List D → M α) : M α := match v with
  | .d (.tuple l) => f l
  | _ => bad
def truth (v : Vl) : M Bool := asD v fun d => opt (truthF d)
def cupAt (y : D) : M Vl := match y with
  | .int 0 => fun s => .ok (.d (.int s.1)) s
  | .int 1 => fun s => .ok (.d (.int s.2)) s
  | _ => bad
def asB {α : Type} (v : Vl) (f : Bool → M α) : M α := match v with
  | .d (.bool b) => f b
  | _ => bad
def Cm.isMem : Cm → Bool
  | .isin => true
  | .notin => true
  | _ => false
def Pm.reads : Pm → Bool
  | .len => true
  | .get => true
  | _ => false
def Pm.as {α : Type} (p : Pm) (v : Vl) (f : D → M α) : M α := if p.reads then asR v f else asD v f
def Cm.as {α : Type} (o : Cm) (v : Vl) (f : D → M α) : M α := if o.isMem then asR v f else asD v f
mutual
def ev (G : Str → List Vl → M Vl) : CE → Env → M Vl
  | .var i, env => getV env i
  | .cst v, _ => rD v
  | .fnv x, _ => ret (.fn x)
  | .nil, _ => rD (.tuple [])
  | .cons a b, env => bd (ev G a env) fun v => bd (ev G b env) fun w => asD v fun x => asT w fun l => rD (.tuple (x :: l))
  | .tup a, env => bd (ev G a env) fun w => asT w fun l => bd (short l) fun l => rD (.tuple l)
  | .lst a, env => bd (ev G a env) fun w => asT w fun l => bd (short l) fun l => rD (.list l)
  | .neg a, env => bd (ev G a env) fun v => asD v fun x => match x with
    | .int i => rD (.int (-i))
    | _ => bad
  | .not a, env => bd (ev G a env) fun v => asB v fun b => rD (.bool (!b))
  | .bin o a b, env => bd (ev G a env) fun v => bd (ev G b env) fun w => asD v fun x => asD w fun y => bd (opt (binF o x y)) rD
  | .cmp o a b, env => bd (ev G a env) fun v => bd (ev G b env) fun w => asD v fun x => o.as w fun y => bd (opt (cmpF o x y)) fun t => rD (.bool t)
  | .chain o p a b c, env => bd (ev G a env) fun v => bd (ev G b env) fun w => asD v fun x => asD w fun y => bd (opt (cmpF o x y)) fun t =>
      if t then bd (ev G c env) fun u => asD u fun z => bd (opt (cmpF p y z)) fun t => rD (.bool t) else rD (.bool false)
  | .and a b, env => bd (ev G a env) fun v => asB v fun t => if t then ev G b env else rD (.bool false)
  | .or a b, env => bd (ev G a env) fun v => asB v fun t => if t then rD (.bool true) else ev G b env
  | .ite c a b, env => bd (ev G c env) fun v => bd (truth v) fun t => if t then ev G a env else ev G b env
  | .sub a i, env => bd (ev G a env) fun v => bd (ev G i env) fun w => asD w fun y => match v with
    | .cup => cupAt y
    | v => asR v fun x => bd (opt (subF x y)) rD
  | .slc bl bh a lo hi, env => bd (ev G a env) fun v => bd (bd (ev G lo env) fun l => asD l fun y => opt (boundF bl y)) fun o1 => bd (bd (ev G hi env) fun h => asD h fun z => opt (boundF bh z)) fun o2 => asD v fun x => bd (opt (cutD x o1 o2)) rD
  | .rev a, env => bd (ev G a env) fun v => asD v fun x => match x with
    | .list xs => rD (.list xs.reverse)
    | .tuple xs => rD (.tuple xs.reverse)
    | _ => bad
  | .call f a, env => bd (evs G a env) fun l => G f l
  | .prim p a b, env => bd (ev G a env) fun v => bd (ev G b env) fun w => asT w fun l => p.as v fun x => bd (opt (primF p (x :: l))) rD
  | .it k a, env => bd (ev G a env) fun w => asT w fun l => bd (opt (itF k l)) fun xs => rD (.list xs)
  | .lc own g src tst elt, env => bd (ev G src env) fun w => asL w fun xs =>
      bd (noexc <| lcLoop (fun x => bd (opt (bindT g (.d x) (wipe env own))) fun e => bd (ev G tst e) fun b => bd (truth b) fun t =>
        if t then bd (ev G elt e) fun y => asD y fun y => ret (some y) else ret none) xs) fun ys => bd (short ys) fun ys => rD (.list ys)
  | .lc2 own g src tst own2 g2 src2 tst2 elt, env => bd (ev G src env) fun w => asL w fun xs =>
      bd (noexc <| lcLoop2 (fun x => bd (opt (bindT g (.d x) (wipe env own))) fun e => bd (ev G tst e) fun b => bd (truth b) fun t =>
        if t then bd (ev G src2 e) fun w2 => asL w2 fun zs =>
          lcLoop (fun z => bd (opt (bindT g2 (.d z) (wipe e own2))) fun e2 => bd (ev G tst2 e2) fun b2 => bd (truth b2) fun t2 =>
            if t2 then bd (ev G elt e2) fun y => asD y fun y => ret (some y) else ret none) zs
        else ret []) xs) fun ys => bd (short ys) fun ys => rD (.list ys)
def evs (G : Str → List Vl → M Vl) : CE → Env → M (List Vl)
  | .nil, _ => ret []
  | .cons a b, env => bd (ev G a env) fun v => bd (evs G b env) fun vs => bd (nown v) fun v => ret (v :: vs)
  | _, _ => bad
end

inductive CS where
  | nop | seq (a b : CS) | asg (g : Tg) (e : CE) | asgs (l : List (Bool × Nat × CE)) | frz (i : Nat) | exp (e : CE) | ret (e : CE) | retN
  | ite (c : CE) (a b : CS) | for_ (g : Tg) (src : CE) (b : CS) | whl (c : CE) (b : CS)
  | never | raise_ (x : Str) (e : CE) | sets (j : Nat) (i e : CE) | app (j : Nat) (e : CE)
inductive Fl where | nx (env : Env) | rt (v : Vl)

def forLoop (f : D → Env → M Fl) : List D → Env → M Fl
  | [], env => ret (.nx env)
  | x :: r, env => bd (f x env) fun o => match o with
    | .nx e => forLoop f r e
    | .rt v => ret (.rt v)
def whileLoop (c : Env → M Bool) (f : Env → M Fl) : Nat → Env → M Fl
  | 0, _ => bad
  | n + 1, env => bd (c env) fun t => if t then bd (f env) fun o => match o with
      | .nx e => whileLoop c f n e
      | .rt v => ret (.rt v)
    else ret (.nx env)
def fuel : Nat := 1000000
/-- a fresh list or dict becomes the def's own -/
def mkO (o : Bool) (v : Vl) : M Vl := match o, v with
  | true, .d (.list l) => ret (.own (.list l))
  | true, .d (.dict l) => ret (.own (.dict l))
  | true, _ => bad
  | false, v => nown v
def evP (G : Str → List Vl → M Vl) : List (Bool × Nat × CE) → Env → M (List Vl)
  | [], _ => ret []
  | p :: r, env => bd (ev G p.2.2 env) fun v => bd (evP G r env) fun vs => bd (mkO p.1 v) fun v => ret (v :: vs)
def setP : List (Bool × Nat × CE) → List Vl → Env → Env
  | p :: r, v :: vs, env => setP r vs (env.set p.2.1 (some v))
  | _, _, env => env
def thaw (env : Env) (i : Nat) : M Env := match env[i]? with
  | some (some (.own x)) => ret (env.set i (some (.d x)))
  | _ => ret env
/-- j-th of xs set -/
def setAt (xs : List D) (i : Int) (y : D) : Option (List D) := if 0 ≤ i ∧ i < xs.length then some (xs.set i.toNat y) else none
def putK (k y : D) : List (D × D) → List (D × D)
  | [] => [(k, y)]
  | p :: r => if PyData.eqv p.1 k then (p.1, y) :: r else p :: putK k y r
def cupPut (y z : D) : St → Option St
  | s => match y, z with
    | .int 0, .int i => some (i, s.2)
    | .int 1, .int i => some (s.1, i)
    | _, _ => none
def setJ (env : Env) (j : Nat) (y z : D) : M Env := match env[j]? with
  | some (some .cup) => fun s => match cupPut y z s with
    | some s' => .ok env s'
    | none => .bad
  | some (some (.own (.list xs))) => (match y with
    | .int i => (match setAt xs i z with
      | some ys => ret (env.set j (some (.own (.list ys))))
      | none => bad)
    | _ => bad)
  | some (some (.own (.dict kvs))) => if dkeyB y && decide (y.depth ≤ 8) && decide (kvs.length < line) then ret (env.set j (some (.own (.dict (putK y z kvs))))) else bad
  | _ => bad
def appJ (env : Env) (j : Nat) (z : D) : M Env := match env[j]? with
  | some (some (.own (.list xs))) => if xs.length < line then ret (env.set j (some (.own (.list (xs ++ [z]))))) else bad
  | _ => bad
def hasJ (env : Env) (j : Nat) : Bool := match env[j]? with
  | some (some _) => true
  | _ => false
def ownJ (env : Env) (j : Nat) : Bool := match env[j]? with
  | some (some (.own (.list _))) => true
  | _ => false
def ex (G : Str → List Vl → M Vl) : CS → Env → M Fl
  | .nop, env => ret (.nx env)
  | .seq a b, env => bd (ex G a env) fun o => match o with
    | .nx e => ex G b e
    | .rt v => ret (.rt v)
  | .asg g e, env => bd (ev G e env) fun v => bd (opt (bindT g v env)) fun e' => ret (.nx e')
  | .asgs l, env => bd (evP G l env) fun vs => ret (.nx (setP l vs env))
  | .frz i, env => bd (thaw env i) fun e => ret (.nx e)
  | .exp e, env => bd (ev G e env) fun _ => ret (.nx env)
  | .ret e, env => bd (ev G e env) fun v => bd (nown v) fun v => ret (.rt v)
  | .retN, _ => ret (.rt (.d .none))
  | .ite c a b, env => bd (ev G c env) fun v => bd (truth v) fun t => if t then ex G a env else ex G b env
  | .for_ g src b, env => bd (ev G src env) fun w => asL w fun xs => forLoop (fun x e => bd (opt (bindT g (.d x) e)) fun e' => ex G b e') xs env
  | .whl c b, env => whileLoop (fun e => bd (ev G c e) truth) (fun e => ex G b e) fuel env
  | .never, _ => bad
  | .raise_ x e, env => bd (ev G e env) fun v => asD v fun y => fun s => .exc x y s
  | .sets j i e, env => if hasJ env j then bd (ev G e env) fun v => asD v fun z => bd (ev G i env) fun w => asD w fun y => bd (setJ env j y z) fun e => ret (.nx e) else bad
  | .app j e, env => if ownJ env j then bd (ev G e env) fun v => asD v fun z => bd (appJ env j z) fun e => ret (.nx e) else bad

/-- a def: how many parameters, how many names, its body -/
structure Fd where
  np : Nat
  nn : Nat
  body : CS
abbrev Tab := List (Str × Fd)
def Vl.noOwn : Vl → Bool
  | .own _ => false
  | _ => true
def run (T : Tab) : Nat → Str → List Vl → M Vl
  | 0, _, _ => bad
  | n + 1, f, args => match T.lookup f with
    | none => bad
    | some fd => if args.length = fd.np ∧ args.all Vl.noOwn = true then bd (ex (run T n) fd.body (args.map some ++ List.replicate (fd.nn - fd.np) none)) fun o => match o with
        | .nx _ => rD .none
        | .rt v => ret v
      else bad
end PF
end
section
set_option Elab.async false
set_option linter.all false
set_option maxRecDepth 100000
set_option maxHeartbeats 2000000
/-! PFb: how data lie in the abstract heap. -/
namespace PF
open PySem PySem.Spec PyProof.Rows L2

def Fz : HO → Prop
  | .tup _ => True
  | .frz _ _ => True
  | _ => False

mutual
inductive Rep (K : PySem.W.Frag) (H : Hp) : V → D → Prop
  | non : Rep K H .non .none
  | bl (b : Bool) : Rep K H (.bl b) (.bool b)
  | int (i : Int) : Rep K H (.int i) (.int i)
  | str (x : Str) : Rep K H (.str x) (.str x)
  | tup {a : Addr} {xs : List V} {ds : List D} : SqT K H a xs → RepL K H xs ds → Rep K H (.ref a) (.tuple ds)
  | lst {a : Addr} {o : Obj} {xs : List V} {ds : List D} : H a = some (.frz o (.lst xs)) → RepL K H xs ds → Rep K H (.ref a) (.list ds)
inductive RepL (K : PySem.W.Frag) (H : Hp) : List V → List D → Prop
  | nil : RepL K H [] []
  | cons {v : V} {vs : List V} {d : D} {ds : List D} : Rep K H v d → RepL K H vs ds → RepL K H (v :: vs) (d :: ds)
end
/-- what is frozen stays -/
def FzE (H H' : Hp) : Prop := ∀ b o, H b = some o → Fz o → H' b = some o
theorem FzE.rd {H H' : Hp} (e : FzE H H') {a : Addr} {xs : List V} (h : Rd H a (.tup xs)) : Rd H' a (.tup xs) := by
  rcases h with h | ⟨o, h⟩
  · exact .inl (e _ _ h trivial)
  · exact .inr ⟨o, e _ _ h trivial⟩
section
variable {K : PySem.W.Frag} {H H' : Hp}
mutual
theorem Rep.mono (e : FzE H H') : ∀ (d : D) (v : V), Rep K H v d → Rep K H' v d
  | .none, _, h => by cases h; exact .non
  | .bool _, _, h => by cases h; exact .bl _
  | .int _, _, h => by cases h; exact .int _
  | .str _, _, h => by cases h; exact .str _
  | .list ds, _, h => by
    cases h with
    | lst h1 h2 => exact .lst (e _ _ h1 trivial) (RepL.mono e ds _ h2)
  | .tuple ds, _, h => by
    cases h with
    | tup h1 h2 =>
      refine .tup ?_ (RepL.mono e ds _ h2)
      rcases h1 with h1 | h1
      · exact .inl (e.rd h1)
      · exact .inr h1
  | .dict _, _, h => by cases h
theorem RepL.mono (e : FzE H H') : ∀ (ds : List D) (vs : List V), RepL K H vs ds → RepL K H' vs ds
  | [], _, h => by cases h; exact .nil
  | d :: ds, _, h => by
    cases h with
    | cons h1 h2 => exact .cons (Rep.mono e d _ h1) (RepL.mono e ds _ h2)
end
mutual
theorem Rep.dp : ∀ (d : D) (v : V), Rep K H v d → Dp K H v d
  | .none, _, h => by cases h; exact .non
  | .bool _, _, h => by cases h; exact .bl _
  | .int _, _, h => by cases h; exact .int _
  | .str _, _, h => by cases h; exact .str _
  | .list ds, _, h => by
    cases h with
    | lst h1 h2 => exact .lst (.inl (.inr ⟨_, h1⟩)) (RepL.dp ds _ h2)
  | .tuple ds, _, h => by
    cases h with
    | tup h1 h2 => exact .tup h1 (RepL.dp ds _ h2)
  | .dict _, _, h => by cases h
theorem RepL.dp : ∀ (ds : List D) (vs : List V), RepL K H vs ds → DpAll K H vs ds
  | [], _, h => by cases h; exact .nil
  | d :: ds, _, h => by
    cases h with
    | cons h1 h2 => exact .cons (Rep.dp d _ h1) (RepL.dp ds _ h2)
end
theorem RepL.length : ∀ {vs : List V} {ds : List D}, RepL K H vs ds → vs.length = ds.length
  | _, _, .nil => rfl
  | _, _, .cons _ t => by simp [RepL.length t]
theorem RepL.get : ∀ {vs : List V} {ds : List D} {i : Nat} {d : D}, RepL K H vs ds → ds[i]? = some d → ∃ v, vs[i]? = some v ∧ Rep K H v d
  | _, _, _, _, .nil, e => by simp at e
  | _, _, 0, _, .cons r _, e => by simp at e; subst e; exact ⟨_, rfl, r⟩
  | _, _, i + 1, _, .cons _ t, e => by
    obtain ⟨v, h1, h2⟩ := RepL.get (i := i) t (by simpa using e)
    exact ⟨v, by simpa using h1, h2⟩
theorem RepL.get' : ∀ {vs : List V} {ds : List D} {i : Nat} {v : V}, RepL K H vs ds → vs[i]? = some v → ∃ d, ds[i]? = some d ∧ Rep K H v d
  | _, _, _, _, .nil, e => by simp at e
  | _, _, 0, _, .cons r _, e => by simp at e; subst e; exact ⟨_, rfl, r⟩
  | _, _, i + 1, _, .cons _ t, e => by
    obtain ⟨v, h1, h2⟩ := RepL.get' (i := i) t (by simpa using e)
    exact ⟨v, by simpa using h1, h2⟩
theorem RepL.append : ∀ {vs us : List V} {ds es : List D}, RepL K H vs ds → RepL K H us es → RepL K H (vs ++ us) (ds ++ es)
  | _, _, _, _, .nil, s => s
  | _, _, _, _, .cons r t, s => .cons r (RepL.append t s)
theorem RepL.take : ∀ {vs : List V} {ds : List D} (n : Nat), RepL K H vs ds → RepL K H (vs.take n) (ds.take n)
  | _, _, 0, _ => .nil
  | _, _, _ + 1, .nil => .nil
  | _, _, n + 1, .cons r t => .cons r (RepL.take n t)
theorem RepL.drop : ∀ {vs : List V} {ds : List D} (n : Nat), RepL K H vs ds → RepL K H (vs.drop n) (ds.drop n)
  | _, _, 0, r => r
  | _, _, _ + 1, .nil => .nil
  | _, _, n + 1, .cons _ t => RepL.drop n t
theorem RepL.reverse {vs : List V} {ds : List D} (h : RepL K H vs ds) : RepL K H vs.reverse ds.reverse := by
  induction vs generalizing ds with
  | nil => cases h; exact .nil
  | cons v vs ih =>
    cases h with
    | cons r t =>
      rw [List.reverse_cons, List.reverse_cons]
      exact (ih t).append (.cons r .nil)
theorem RepL.rep {vs : List V} {ds : List D} (h : RepL K H vs ds) : ∀ k : Nat, RepL K H (List.replicate k vs).flatten (List.replicate k ds).flatten
  | 0 => .nil
  | k + 1 => by
    rw [List.replicate_succ, List.replicate_succ, List.flatten_cons, List.flatten_cons]
    exact h.append (RepL.rep h k)
theorem RepL.mk : ∀ {vs : List V} {ds : List D}, vs.length = ds.length → (∀ (i : Nat) (v : V) (d : D), vs[i]? = some v → ds[i]? = some d → Rep K H v d) → RepL K H vs ds
  | [], [], _, _ => .nil
  | [], _ :: _, e, _ => by simp at e
  | _ :: _, [], e, _ => by simp at e
  | v :: vs, d :: ds, e, h => .cons (h 0 v d rfl rfl) (RepL.mk (by simpa using e) fun i v d h1 h2 => h (i + 1) v d (by simpa using h1) (by simpa using h2))
end

/-! ### the world's constants, how the heap grows -/
/-- the law's cup lies at ρ; flds: the one field of an error's class -/
structure Cw where
  prog : Program
  w : World
  K : PySem.W.Frag
  mg : Str → Option Value
  base : Heap
  ρ : Addr
  flds : List (Str × Str)

def NoTbl (o : HO) : Prop := ∀ ps, o ≠ .tbl ps
def Ext (ρ : Addr) (H H' : Hp) : Prop := ∀ b o, H b = some o → (Fz o ∨ (b ≠ ρ ∧ NoTbl o)) → H' b = some o
theorem Ext.refl (ρ : Addr) (H : Hp) : Ext ρ H H := fun _ _ h _ => h
theorem Ext.trans {ρ : Addr} {H H1 H2 : Hp} (a : Ext ρ H H1) (b : Ext ρ H1 H2) : Ext ρ H H2 := fun c o h n => b c o (a c o h n) n
theorem Ext.fz {ρ : Addr} {H H' : Hp} (e : Ext ρ H H') : FzE H H' := fun b o h f => e b o h (.inl f)
theorem Ext.of {ρ : Addr} {H H' : Hp} (e : Same H H') : Ext ρ H H' := fun b o h _ => e b o h
theorem same_new {H : Hp} {p : Addr} {o : HO} (h : H p = none) : Same H (upd H p o) := fun b u e => by rw [upd_ne (ne_of_none e h)]; exact e

inductive RepV (c : Cw) (H : Hp) : V → Vl → Prop
  | d {v : V} {x : D} : Rep c.K H v x → RepV c H v (.d x)
  | own {a : Addr} {xs : List V} {ds : List D} : a ≠ c.ρ → H a = some (.lst xs) → RepL c.K H xs ds → RepV c H (.ref a) (.own (.list ds))
  | cup : RepV c H (.ref c.ρ) .cup
  | fn (x : Str) : RepV c H (.ref (He.ga c.K x)) (.fn x)
theorem RepV.mono {c : Cw} {H H' : Hp} {v : V} {x : Vl} (e : Ext c.ρ H H') (h : RepV c H v x) : RepV c H' v x := by
  cases h with
  | d h => exact .d (Rep.mono e.fz _ _ h)
  | own h1 h2 h3 => exact .own h1 (e _ _ h2 (.inr ⟨h1, fun _ z => nomatch z⟩)) (RepL.mono e.fz _ _ h3)
  | cup => exact .cup
  | fn x => exact .fn x
def RepSt (c : Cw) (H : Hp) (s : St) : Prop := H c.ρ = some (.lst [.int s.1, .int s.2])
structure RepEnv (c : Cw) (H : Hp) (σ : L2.St) (env : Env) : Prop where
  len : env.length = σ.length
  at_ : ∀ (i : Nat) (v : Vl), env[i]? = some (some v) → ∃ x : V, σ[i]? = some (some x) ∧ RepV c H x v
  apart : ∀ (i j : Nat) (x y : D) (v : V), i ≠ j → env[i]? = some (some (.own x)) → env[j]? = some (some (.own y)) → σ[i]? = some (some v) → σ[j]? ≠ some (some v)
theorem RepEnv.mono {c : Cw} {H H' : Hp} {σ : L2.St} {env : Env} (e : Ext c.ρ H H') (h : RepEnv c H σ env) : RepEnv c H' σ env :=
  ⟨h.len, fun i v q => let ⟨x, h1, h2⟩ := h.at_ i v q; ⟨x, h1, h2.mono e⟩, h.apart⟩
theorem set_some {α : Type} {l : List (Option α)} {i j : Nat} {v w : α} (h : (l.set i (some v))[j]? = some (some w)) : (i = j ∧ w = v ∧ i < l.length) ∨ (i ≠ j ∧ l[j]? = some (some w)) := by
  by_cases hj : i = j
  · subst hj
    have hi : i < l.length := by
      have := (List.getElem?_eq_some_iff.mp h).1
      simpa using this
    rw [List.getElem?_set_self hi] at h
    cases h
    exact .inl ⟨rfl, rfl, hi⟩
  · rw [List.getElem?_set_ne hj] at h
    exact .inr ⟨hj, h⟩
theorem RepEnv.setW {c : Cw} {H : Hp} {σ : L2.St} {env : Env} (h : RepEnv c H σ env) (i : Nat) {x : V} {v : Vl} (r : RepV c H x v)
    (ap : ∀ y, v = .own y → ∀ (j : Nat) (z : D), j ≠ i → env[j]? = some (some (.own z)) → σ[j]? ≠ some (some x)) : RepEnv c H (σ.set i (some x)) (env.set i (some v)) := by
  refine ⟨by rw [List.length_set, List.length_set]; exact h.len, fun j w e => ?_, fun j k y z u hjk e1 e2 e3 e4 => ?_⟩
  · rcases set_some e with ⟨rfl, rfl, hi⟩ | ⟨hj, e⟩
    · exact ⟨x, List.getElem?_set_self (by rw [← h.len]; exact hi), r⟩
    · rw [List.getElem?_set_ne hj]
      exact h.at_ j w e
  · rcases set_some e1 with ⟨rfl, w1, hi⟩ | ⟨hj, f1⟩
    · rcases set_some e2 with ⟨rfl, _, _⟩ | ⟨hk, f2⟩
      · exact hjk rfl
      · rw [List.getElem?_set_self (by rw [← h.len]; exact hi)] at e3
        cases e3
        rw [List.getElem?_set_ne hk] at e4
        exact ap y w1.symm k z (Ne.symm hk) f2 e4
    · rw [List.getElem?_set_ne hj] at e3
      rcases set_some e2 with ⟨rfl, w2, hi⟩ | ⟨hk, f2⟩
      · rw [List.getElem?_set_self (by rw [← h.len]; exact hi)] at e4
        cases e4
        exact ap z w2.symm j y (Ne.symm hj) f1 e3
      · rw [List.getElem?_set_ne hk] at e4
        exact h.apart j k y z u hjk f1 f2 e3 e4
theorem RepEnv.set {c : Cw} {H : Hp} {σ : L2.St} {env : Env} (h : RepEnv c H σ env) (i : Nat) {x : V} {v : Vl} (r : RepV c H x v) (no : ∀ y, v ≠ .own y) : RepEnv c H (σ.set i (some x)) (env.set i (some v)) :=
  h.setW i r fun y e => (no y e).elim
theorem RepEnv.wipe1 {c : Cw} {H : Hp} {σ : L2.St} {env : Env} (h : RepEnv c H σ env) (i : Nat) : RepEnv c H (σ.set i none) (env.set i none) := by
  have key : ∀ {α : Type} {l : List (Option α)} {j : Nat} {w : α}, (l.set i none)[j]? = some (some w) → i ≠ j ∧ l[j]? = some (some w) := fun {α l j w} e => by
    by_cases hj : i = j
    · subst hj
      by_cases hi : i < l.length
      · rw [List.getElem?_set_self hi] at e
        cases e
      · rw [List.getElem?_eq_none (by simpa using hi)] at e
        cases e
    · rw [List.getElem?_set_ne hj] at e
      exact ⟨hj, e⟩
  refine ⟨by rw [List.length_set, List.length_set]; exact h.len, fun j w e => ?_, fun j k y z u hjk e1 e2 e3 e4 => ?_⟩
  · obtain ⟨hj, e⟩ := key e
    rw [List.getElem?_set_ne hj]
    exact h.at_ j w e
  · exact h.apart j k y z u hjk (key e1).2 (key e2).2 (key e3).2 (key e4).2
theorem RepEnv.wipe {c : Cw} {H : Hp} {σ : L2.St} {env : Env} (h : RepEnv c H σ env) : ∀ vs : List Nat, RepEnv c H (L2.wipe σ vs) (PF.wipe env vs)
  | [] => h
  | v :: vs => (RepEnv.wipe h vs).wipe1 v

/-- what lies behind an error: its own dict -/
def ErrRep (c : Cw) (H : Hp) (x : Str) (y : D) (d : Option Addr) : Prop := match c.flds.lookup x with
  | none => d = none
  | some f => ∃ dd v, d = some dd ∧ H dd = some (.xd [(f, v)]) ∧ Rep c.K H v y

def Pst {α : Type} (c : Cw) (H : Hp) (W : XK) (Φ : α → St → Prop) : R α → Prop
  | .ok a st => Φ a st
  | .exc x y st => ∀ d H', Ext c.ρ H H' → RepSt c H' st → ErrRep c H' x y d → W (.ref (He.ga c.K x)) d H'
  | .bad => False
theorem Pst.mono {α : Type} {c : Cw} {H : Hp} {W : XK} {Φ Ψ : α → St → Prop} {r : R α} (h : Pst c H W Φ r) (k : ∀ a st, Φ a st → Ψ a st) : Pst c H W Ψ r := by
  cases r with
  | ok a st => exact k a st h
  | exc x y st => exact h
  | bad => exact h
theorem Pst.bd {α β : Type} {c : Cw} {H : Hp} {W : XK} {Φ : β → St → Prop} {m : M α} {f : α → M β} {s : St} (h : Pst c H W Φ (PF.bd m f s)) : Pst c H W (fun a st => Pst c H W Φ (f a st)) (m s) := by
  unfold PF.bd at h
  cases e : m s with
  | ok a st => rw [e] at h; exact h
  | exc x y st => rw [e] at h; exact h
  | bad => rw [e] at h; exact h
theorem Pst.rebase {α : Type} {c : Cw} {H H1 : Hp} {W : XK} {Φ : α → St → Prop} {r : R α} (h : Pst c H W Φ r) (e : Ext c.ρ H H1) : Pst c H1 W Φ r := by
  cases r with
  | ok a st => exact h
  | exc x y st => exact fun d H' e' => h d H' (e.trans e')
  | bad => exact h
theorem Pst.opt {α : Type} {c : Cw} {H : Hp} {W : XK} {Φ : α → St → Prop} {o : Option α} {s : St} (h : Pst c H W Φ (PF.opt o s)) : ∃ a, o = some a ∧ Φ a s := by
  cases o with
  | none => exact h.elim
  | some a => exact ⟨a, rfl, h⟩
theorem Pst.asD {α : Type} {c : Cw} {H : Hp} {W : XK} {Φ : α → St → Prop} {v : Vl} {f : D → M α} {s : St} (h : Pst c H W Φ (PF.asD v f s)) : ∃ x, v = .d x ∧ Pst c H W Φ (f x s) := by
  cases v with
  | d x => exact ⟨x, rfl, h⟩
  | own x => exact h.elim
  | cup => exact h.elim
  | fn x => exact h.elim
theorem Pst.asB {α : Type} {c : Cw} {H : Hp} {W : XK} {Φ : α → St → Prop} {v : Vl} {f : Bool → M α} {s : St} (h : Pst c H W Φ (PF.asB v f s)) : ∃ x, v = .d (.bool x) ∧ Pst c H W Φ (f x s) := by
  unfold PF.asB at h
  split at h
  · exact ⟨_, rfl, h⟩
  · exact h.elim
theorem Pst.asR {α : Type} {c : Cw} {H : Hp} {W : XK} {Φ : α → St → Prop} {v : Vl} {f : D → M α} {s : St} (h : Pst c H W Φ (PF.asR v f s)) : ∃ x, (v = .d x ∨ v = .own x) ∧ Pst c H W Φ (f x s) := by
  cases v with
  | d x => exact ⟨x, .inl rfl, h⟩
  | own x => exact ⟨x, .inr rfl, h⟩
  | cup => exact h.elim
  | fn x => exact h.elim
theorem Pst.nown {c : Cw} {H : Hp} {W : XK} {Φ : Vl → St → Prop} {v : Vl} {s : St} (h : Pst c H W Φ (PF.nown v s)) : (∀ y, v ≠ .own y) ∧ Φ v s := by
  cases v with
  | own x => exact h.elim
  | d x => exact ⟨fun _ z => (nomatch z), h⟩
  | cup => exact ⟨fun _ z => (nomatch z), h⟩
  | fn x => exact ⟨fun _ z => (nomatch z), h⟩
theorem Pst.asT {α : Type} {c : Cw} {H : Hp} {W : XK} {Φ : α → St → Prop} {v : Vl} {f : List D → M α} {s : St} (h : Pst c H W Φ (PF.asT v f s)) : ∃ l, v = .d (.tuple l) ∧ Pst c H W Φ (f l s) := by
  unfold PF.asT at h
  split at h
  · exact ⟨_, rfl, h⟩
  · exact h.elim
theorem Pst.asL {α : Type} {c : Cw} {H : Hp} {W : XK} {Φ : α → St → Prop} {v : Vl} {f : List D → M α} {s : St} (h : Pst c H W Φ (PF.asL v f s)) : ∃ l, v = .d (.list l) ∧ Pst c H W Φ (f l s) := by
  unfold PF.asL at h
  split at h
  · exact ⟨_, rfl, h⟩
  · exact h.elim

/-- the wish behind a value -/
def Wi (c : Cw) (H : Hp) (Q : VK) (v : Vl) (st : St) : Prop := ∀ x H', Ext c.ρ H H' → RepSt c H' st → RepV c H' x v → Q x H'
abbrev Post (c : Cw) (H : Hp) (W : XK) (Q : VK) (r : R Vl) : Prop := Pst c H W (Wi c H Q) r
theorem Post.base {c : Cw} {H H1 : Hp} {W : XK} {Q : VK} {r : R Vl} (h : Post c H W Q r) (e : Ext c.ρ H H1) : Post c H1 W Q r :=
  (Pst.rebase h e).mono fun a st q x H' e' => q x H' (e.trans e')
theorem Post.seq {α : Type} {c : Cw} {H : Hp} {W : XK} {Q Q1 : VK} {m : M Vl} {f : Vl → M Vl} {s : St} (h : Post c H W Q (PF.bd m f s))
    (k : ∀ v st x H1, Ext c.ρ H H1 → RepSt c H1 st → RepV c H1 x v → Post c H1 W Q (f v st) → Q1 x H1) : Post c H W Q1 (m s) :=
  (Pst.bd h).mono fun v st q x H1 e hs r => k v st x H1 e hs r (Post.base q e)
/-- the reading of a piece of code -/
def tG (c : Cw) (G : Str → List Vl → M Vl) (W : XK) (e : CE) : TE := fun σ H Q => ∃ env st, RepEnv c H σ env ∧ RepSt c H st ∧ Post c H W Q (ev G e env st)
end PF
end
section
set_option Elab.async false
set_option linter.all false
set_option maxRecDepth 100000
set_option maxHeartbeats 2000000
/-! PFc: the operations of the machine over data. -/
namespace PF
open PySem PySem.Spec PyProof.Rows L2

theorem tuple_mul_same (l : Addr) (its : Array Value) (n : Nat) (dd : Option Addr) (sl : Array (Option Value)) (k : Int) (u : Tok) (c0 : (decide (k < -(2 ^ 63)) || decide (k ≥ 2 ^ 63)) = false) (c1 : (its.isEmpty || k == 1) = true) :
    Meets (Builtin.«tuple.__mul__» ⟨[.ref l, .int k u], []⟩) (fun _ R s => s.heap.get? l = some { cls := .type "tuple", dict := dd, data := .seq its n, slots := sl } ∧ R (.ok (.ret (Value.ref l))) s) :=
  .of_wp fun prog w A R s h => by
    obtain ⟨hp, g, d, tk, os⟩ := s
    obtain ⟨hl, h⟩ := h
    have f1 := AutoSeq1.idx_int
    wp_walk using wpAny_loadPart' hl
    repeat (first
      | (refine wpAny_ite_false (decide_eq_false (by rw [c0]; exact Bool.false_ne_true)) ?_; wp_walk using wpAny_loadPart' hl)
      | (refine wpAny_ite_true (decide_eq_true c1) ?_; wp_walk using wpAny_loadPart' hl))
    all_goals exact ⟨_, rfl, h⟩
theorem tuple_mul_none (l : Addr) (its : Array Value) (n : Nat) (dd : Option Addr) (sl : Array (Option Value)) (k : Int) (u : Tok) (c0 : (decide (k < -(2 ^ 63)) || decide (k ≥ 2 ^ 63)) = false) (c1 : (its.isEmpty || k == 1) = false) (c2 : (decide (k ≤ 0) || its.isEmpty) = true) :
    Meets (Builtin.«tuple.__mul__» ⟨[.ref l, .int k u], []⟩) (fun _ R s => s.heap.get? l = some { cls := .type "tuple", dict := dd, data := .seq its n, slots := sl } ∧ R (.ok (.ret (Value.ref s.heap.objs.size))) { s with heap := s.heap.push { cls := Value.type "tuple", data := Data.seq #[] }, toks := s.toks }) :=
  .of_wp fun prog w A R s h => by
    obtain ⟨hp, g, d, tk, os⟩ := s
    obtain ⟨hl, h⟩ := h
    have f1 := AutoSeq1.idx_int
    wp_walk using wpAny_loadPart' hl
    repeat (first
      | (refine wpAny_ite_false (decide_eq_false (by rw [c0]; exact Bool.false_ne_true)) ?_; wp_walk using wpAny_loadPart' hl)
      | (refine wpAny_ite_false (decide_eq_false (by rw [c1]; exact Bool.false_ne_true)) ?_; wp_walk using wpAny_loadPart' hl)
      | (refine wpAny_ite_true (decide_eq_true c2) ?_; wp_walk using wpAny_loadPart' hl))
    all_goals exact ⟨_, rfl, h⟩
theorem line_eq : sizeLine = line := by rw [sizeLine_eq]; rfl
abbrev Wd (K : PySem.W.Frag) (H : Hp) (Q : VK) (r : D) : Prop := ∀ u H', Same H H' → Rep K H' u r → Q u H'
theorem samefz {H H' : Hp} (e : Same H H') : FzE H H' := fun b o h _ => e b o h
section
variable {X : Cx} {pins : List (Addr × Obj)} {σ : L2.St} {H : Hp} {s s' : Shared} {Q : VK}
theorem fin_same {x : V} {v : Value} {r : D} (I : Inv X pins σ H s) (rv : RelV x v) (rp : Rep X.K H x r) (q : Wd X.K H Q r) : EP X pins σ Q v s := ⟨x, H, I, rv, q x H (Same.refl H) rp⟩
theorem fin_int {i : Int} {t : Tok} (I : Inv X pins σ H s) (q : Wd X.K H Q (.int i)) : EP X pins σ Q (.int i t) s := fin_same (x := .int i) I ⟨t, rfl⟩ (.int i) q
theorem fin_bool {b : Bool} (I : Inv X pins σ H s) (q : Wd X.K H Q (.bool b)) : EP X pins σ Q (.bool b) s := fin_same (x := .bl b) I rfl (.bl b) q
theorem fin_str {x : Str} {t : Tok} (I : Inv X pins σ H s) (q : Wd X.K H Q (.str x)) : EP X pins σ Q (.str x t) s := fin_same (x := .str x) I ⟨t, rfl⟩ (.str x) q
theorem fin_list {p : Addr} {xs : List V} {ds : List D} (I : Inv X pins σ (upd H p (.lst xs)) s') (hn : H p = none) (r : RepL X.K H xs ds) (q : Wd X.K H Q (.list ds)) : EP X pins σ Q (.ref p) s' := by
  obtain ⟨od, I'⟩ := I.lock upd_same trivial
  rw [upd_upd] at I'
  have sm : Same H (upd H p (.frz od (.lst xs))) := same_new hn
  exact ⟨.ref p, _, I', rfl, q _ _ sm (.lst upd_same (RepL.mono (samefz sm) ds xs r))⟩
theorem fin_tup {p : Addr} {xs : List V} {ds : List D} (I : Inv X pins σ (upd H p (.tup xs)) s') (hn : H p = none) (r : RepL X.K H xs ds) (q : Wd X.K H Q (.tuple ds)) : EP X pins σ Q (.ref p) s' := by
  have sm : Same H (upd H p (.tup xs)) := same_new hn
  exact ⟨.ref p, _, I, rfl, q _ _ sm (.tup (.of upd_same) (RepL.mono (samefz sm) ds xs r))⟩
theorem Rep.reads (I : Inv X pins σ H s) {d : D} {v : V} {u : Value} (h : Rep X.K H v d) (r : RelV v u) : ∃ as, Reads s.heap u d as := Dp.reads I d v u (Rep.dp d v h) r
theorem RepL.reads (I : Inv X pins σ H s) {ds : List D} {vs : List V} {us : List Value} (h : RepL X.K H vs ds) (r : Vals vs us) : ∃ as, ReadsAll s.heap us ds as := Dp.readsAll I ds vs us (RepL.dp ds vs h) r
/-- a frozen list -/
theorem Inv.frl {a : Addr} {o : Obj} {xs : List V} (I : Inv X pins σ H s) (h : H a = some (.frz o (.lst xs))) : xs.length ≤ sizeLine ∧ ∃ (its : List Value) (n : Nat), Vals xs its ∧ s.heap.get? a = some { cls := .type "list", data := .seq its.toArray n } := by
  obtain ⟨z, its, n, r, e⟩ := (Rd.ok (P := X.prog) (w := X.w) (.inr ⟨o, h⟩ : Rd H a (.lst xs)) I.hok)
  exact ⟨z, its, n, r, e⟩
theorem sql_frz {a : Addr} {o : Obj} {xs : List V} {K : PySem.W.Frag} (h : H a = some (.frz o (.lst xs))) : SqL K H a xs := .inl (.inr ⟨o, h⟩)
end

section
variable {X : Cx}
/-! ### + - * // % ** -/
abbrev rB (K : PySem.W.Frag) (f : D → D → Option D) : R2 := fun x y H Q => ∃ a b r, Rep K H x a ∧ Rep K H y b ∧ f a b = some r ∧ Wd K H Q r
theorem ob_add : OpR X (binaryOp .Add) (rB X.K (binF .add)) := by
  intro pins s σ H x y v u Q I rx ry ⟨a, b, r, ha, hb, hf, q⟩
  cases ha with
  | int i =>
    cases hb with
    | int j =>
      cases hf
      exact op_add pins s σ H _ _ v u Q I rx ry ⟨i, j, rfl, rfl, q _ _ (Same.refl H) (.int _)⟩
    | _ => cases hf
  | str z =>
    cases hb with
    | str z2 =>
      simp only [binF] at hf
      split at hf
      · cases hf
        exact op_add_str pins s σ H _ _ v u Q I rx ry ⟨z, z2, rfl, rfl, by rw [line_eq]; assumption, q _ _ (Same.refl H) (.str _)⟩
      · cases hf
    | _ => cases hf
  | tup h1 h2 =>
    cases hb with
    | tup h3 h4 =>
      simp only [binF] at hf
      split at hf
      · cases hf
        rename_i hz
        refine op_catA pins s σ H _ _ v u Q I rx ry ⟨_, _, _, _, rfl, rfl, h1, h3, by rw [h2.length, h4.length, line_eq]; exact hz, fun e => ?_, fun _ e => ?_, fun _ _ p hp => ?_⟩
        · subst e
          cases h2
          exact q _ _ (Same.refl H) (.tup h3 h4)
        · subst e
          cases h4
          rw [List.append_nil] at q
          exact q _ _ (Same.refl H) (.tup h1 h2)
        · exact q _ _ (same_new hp) (.tup (.of upd_same) (RepL.mono (samefz (same_new hp)) _ _ (h2.append h4)))
      · cases hf
    | _ => cases hf
  | lst h1 h2 =>
    cases hb with
    | lst h3 h4 =>
      simp only [binF] at hf
      split at hf
      · cases hf
        rename_i hz
        cases rx
        cases ry
        obtain ⟨z, its, n, r, e⟩ := Inv.frl I h1
        obtain ⟨z2, its2, n2, r2, e2⟩ := Inv.frl I h3
        have l1 := h2.length
        have l2 := h4.length
        have m1 := r.length
        have m2 := r2.length
        have hz' : its.length + its2.length ≤ sizeLine := by rw [line_eq]; omega
        refine PySem.P.add_list e e2 ?_ (by rw [List.size_toArray, List.size_toArray]; omega)
        have ea : its.toArray ++ its2.toArray = (its ++ its2).toArray := by simp
        rw [ea]
        exact fin_list (I.lnew (t' := s.toks) (r.append r2) (by rw [List.length_append]; omega)) I.fresh (h2.append h4) q
      · cases hf
    | _ => cases hf
  | _ => cases hf
theorem ob_sub : OpR X (binaryOp .Sub) (rB X.K (binF .sub)) := by
  intro pins s σ H x y v u Q I rx ry ⟨a, b, r, ha, hb, hf, q⟩
  cases ha with
  | int i =>
    cases hb with
    | int j =>
      cases hf
      exact op_sub pins s σ H _ _ v u Q I rx ry ⟨i, j, rfl, rfl, q _ _ (Same.refl H) (.int _)⟩
    | _ => cases hf
  | _ => cases hf
theorem mulOk_ok {i j : Int} (h : mulOk i j = true) : IntMulOk i j := by
  unfold mulOk at h
  simp only [Bool.or_eq_true, decide_eq_true_eq] at h
  rcases h with h | h
  · exact CMul.ok h
  · exact CMulW.ok h
theorem ob_mul : OpR X (binaryOp .Mult) (rB X.K (binF .mul)) := by
  intro pins s σ H x y v u Q I rx ry ⟨a, b, r, ha, hb, hf, q⟩
  cases ha with
  | int i =>
    cases hb with
    | int j =>
      simp only [binF] at hf
      split at hf
      · cases hf
        obtain ⟨t, rfl⟩ := rx
        obtain ⟨t', rfl⟩ := ry
        exact mul_int (fin_int (I.tok _) q) (mulOk_ok (by assumption))
      · cases hf
    | _ => cases hf
  | @tup _ _ ds h1 h2 =>
    cases hb with
    | int k =>
      simp only [binF] at hf
      split at hf
      · cases hf
        rename_i hz
        obtain ⟨k1, k2, hz⟩ := hz
        cases rx
        obtain ⟨t, rfl⟩ := ry
        obtain ⟨its, rv, ⟨⟨cls, dd, data, sl⟩, ho, hc, n, hd⟩, hs⟩ := I.tuple h1
        simp only at hc hd
        subst hc hd
        have l1 := h2.length
        have m1 := rv.length
        have c0 : (decide (k < -(2 ^ 63)) || decide (k ≥ 2 ^ 63)) = false := by
          rw [decide_eq_false (by omega), decide_eq_false (by omega)] <;> rfl
        have hlen : (List.replicate k.toNat its).flatten.length ≤ sizeLine := by
          rw [PyProof.Rows.lm_len_rep_flat, line_eq]
          have a1 : k.toNat * its.length ≤ 1000 * 1000 := Nat.mul_le_mul (by omega) (by omega)
          unfold line
          omega
        refine wpAny_binaryOp_repeat_ref (T := "tuple") (U := "int") (by decide) ⟨_, ho, rfl⟩ (fun s' => typeIs_int s' k t) noFill_tuple_mul F.fills_int_mul F.slot_int_rmul repeat_tuple F.slot_int_index.lookup
          (call_meets F.slot_int_rmul (typeIs_int s k t) F.entry_int_rmul (F.args_int_rmul_2 _ _) (int_rmul_tuple k t _ its.toArray n dd sl) ⟨ho, rfl, ⟨_, ho, rfl⟩, ?_⟩)
        cases e1 : (its.toArray.isEmpty || k == 1) with
        | true =>
          refine call_meets F.slot_tuple_mul ⟨_, ho, rfl⟩ F.entry_tuple_mul (F.args_tuple_mul_2 _ _) (tuple_mul_same _ its.toArray n dd sl k t c0 e1) ⟨ho, ?_⟩
          refine fin_same (x := .ref _) I rfl (.tup h1 ?_) q
          unfold repL
          simp only [Bool.or_eq_true, beq_iff_eq] at e1
          rcases e1 with e1 | e1
          · have e2 : its = [] := by simpa using e1
            rw [e2] at m1
            have e3 : ds.length = 0 := by rw [← l1, m1] <;> rfl
            rw [List.eq_nil_of_length_eq_zero e3] at h2 ⊢
            rw [show (List.replicate k.toNat ([] : List D)).flatten = [] by simp]
            exact h2
          · rw [e1]
            simpa using h2
        | false =>
          cases e2 : (decide (k ≤ 0) || its.toArray.isEmpty) with
          | true =>
            refine call_meets F.slot_tuple_mul ⟨_, ho, rfl⟩ F.entry_tuple_mul (F.args_tuple_mul_2 _ _) (tuple_mul_none _ its.toArray n dd sl k t c0 e1 e2) ⟨ho, ?_⟩
            simp only [Bool.or_eq_false_iff] at e1
            simp only [Bool.or_eq_true, e1.1, decide_eq_true_eq] at e2
            have e3 : k = 0 := by
              rcases e2 with e2 | e2
              · omega
              · exact absurd e2 Bool.false_ne_true
            subst e3
            refine fin_tup (xs := []) (I.laid (t' := s.toks) (fun b ob q => Heap.get?_push_of_some _ q) (Nat.le_refl _) ?_) I.fresh (ds := []) .nil q
            exact ⟨Nat.zero_le _, [], .nil, IsTup.new _ _⟩
          | false =>
            have c3 : ¬ ((its.toArray.size : Nat) : Int) * k > (2 ^ 63 - 1) / 8 := by
              rw [List.size_toArray]
              have a1 : ((its.length : Nat) : Int) * k ≤ 1000 * 1000 := Int.mul_le_mul (by omega) (by omega) (by omega) (by omega)
              omega
            have c4 : Builtin.Tuple.tupleTooMany (((its.toArray.size : Nat) : Int) * k) = false := by
              unfold Builtin.Tuple.tupleTooMany
              rw [sizeLine_eq, List.size_toArray]
              have a1 : ((its.length : Nat) : Int) * k ≤ 1000 * 1000 := Int.mul_le_mul (by omega) (by omega) (by omega) (by omega)
              exact decide_eq_false (by omega)
            refine call_meets F.slot_tuple_mul ⟨_, ho, rfl⟩ F.entry_tuple_mul (F.args_tuple_mul_2 _ _) (tuple_mulW _ its.toArray n dd sl k t c0 e1 e2 c3 c4 (by rw [size_rep, List.size_toArray]; exact hlen)) ⟨ho, ?_⟩
            rw [size_rep]
            refine fin_tup (I.laid (t' := s.toks) (o := .tup (List.replicate k.toNat _).flatten) (fun b ob q => Heap.get?_push_of_some _ q) (Nat.le_refl _) ?_) I.fresh (h2.rep k.toNat) q
            exact ⟨by rw [PyProof.Rows.lm_len_rep_flat, m1]; rw [PyProof.Rows.lm_len_rep_flat] at hlen; exact hlen, _, rv.rep k.toNat, IsTup.new _ _⟩
      · cases hf
    | _ => cases hf
  | @lst _ _ _ ds h1 h2 =>
    cases hb with
    | int k =>
      simp only [binF] at hf
      split at hf
      · cases hf
        rename_i hz
        obtain ⟨k1, k2, hz⟩ := hz
        cases rx
        obtain ⟨t, rfl⟩ := ry
        obtain ⟨z, its, n, r, e⟩ := Inv.frl I h1
        have l1 := h2.length
        have m1 := r.length
        have hlen : its.toArray.size * k.toNat ≤ sizeLine := by rw [List.size_toArray, line_eq, ← m1, l1]; exact hz
        have hcap : ¬ its.toArray.size * k.toNat > (2 ^ 63 - 1) / 8 := by
          have : (sizeLine : Nat) ≤ (2 ^ 63 - 1) / 8 := by decide
          omega
        have hfit : ¬ (!Builtin.List.listFitsIndex k) = true := by
          rw [fitsIndex_both k1 k2]
          exact Bool.false_ne_true
        have hlong : ¬ Builtin.List.listTooLong (its.toArray.size * k.toNat) = true := by
          rw [notLongL hlen]
          exact Bool.false_ne_true
        have f0 : ∀ m : Nat, List.foldl (fun x1 x2 => x1 ++ x2) #[] (List.replicate m its.toArray) = (List.replicate m its).flatten.toArray := fun m => by
          have := foldl_rep its m []
          rwa [List.nil_append] at this
        have hnew : List.foldl (fun x1 x2 => x1 ++ x2) #[] (List.replicate (if its.toArray.isEmpty = true then 0 else k.toNat) its.toArray) = (List.replicate k.toNat its).flatten.toArray := by
          rw [f0]
          cases its with
          | nil => simp
          | cons a r' => rw [if_neg (by simp)]
        refine wpAny_binaryOp_repeat_ref (T := "list") (U := "int") (by decide) ⟨_, e, rfl⟩ (fun s' => typeIs_int s' k t) noFill_list_mul F.fills_int_mul F.slot_int_rmul repeat_list F.slot_int_index.lookup
          (call_meets F.slot_int_rmul (typeIs_int s k t) F.entry_int_rmul (F.args_int_rmul_2 _ _) (int___rmul___int_list k t _ its.toArray n)
            ⟨e, rfl, ⟨_, e, rfl⟩, call_meets F.slot_list_mul ⟨_, e, rfl⟩ F.entry_list_mul (F.args_list_mul_2 _ _) (AutoListH.list___mul___list_int_3 _ its.toArray n k t hfit hcap hlong) ⟨e, ?_⟩⟩)
        rw [hnew]
        exact fin_list (I.lnew (t' := s.toks) (r.rep k.toNat) (by rw [PyProof.Rows.lm_len_rep_flat, Nat.mul_comm, m1]; rw [List.size_toArray] at hlen; exact hlen)) I.fresh (h2.rep k.toNat) q
      · cases hf
    | _ => cases hf
  | _ => cases hf
theorem ob_fdiv : OpR X (binaryOp .FloorDiv) (rB X.K (binF .fdiv)) := by
  intro pins s σ H x y v u Q I rx ry ⟨a, b, r, ha, hb, hf, q⟩
  cases ha with
  | int i =>
    cases hb with
    | int j =>
      simp only [binF] at hf
      split at hf
      · cases hf
        rename_i hz
        obtain ⟨t, rfl⟩ := rx
        obtain ⟨t', rfl⟩ := ry
        exact floordiv_int hz.1 (fin_int (I.tok _) q) (.inl (PyProof.noPylong_of_log2 hz.2))
      · cases hf
    | _ => cases hf
  | _ => cases hf
theorem ob_mod : OpR X (binaryOp .Mod) (rB X.K (binF .mod)) := by
  intro pins s σ H x y v u Q I rx ry ⟨a, b, r, ha, hb, hf, q⟩
  cases ha with
  | int i =>
    cases hb with
    | int j =>
      simp only [binF] at hf
      split at hf
      · cases hf
        exact op_modN pins s σ H _ _ v u Q I rx ry ⟨i, j, rfl, rfl, by assumption, q _ _ (Same.refl H) (.int _)⟩
      · cases hf
    | _ => cases hf
  | _ => cases hf
theorem ob_pow : OpR X (binaryOp .Pow) (rB X.K (binF .pow)) := by
  intro pins s σ H x y v u Q I rx ry ⟨a, b, r, ha, hb, hf, q⟩
  cases ha with
  | int i =>
    cases hb with
    | int j =>
      simp only [binF] at hf
      split at hf
      · cases hf
        exact op_pow pins s σ H _ _ v u Q I rx ry ⟨i, j, rfl, rfl, by assumption, q _ _ (Same.refl H) (.int _)⟩
      · cases hf
    | _ => cases hf
  | _ => cases hf

/-! ### comparisons -/
abbrev rC (K : PySem.W.Frag) (f : D → D → Option Bool) : R2 := fun x y H Q => ∃ a b r, Rep K H x a ∧ Rep K H y b ∧ f a b = some r ∧ Wd K H Q (.bool r)
theorem eqF_ok {a b : D} {r : Bool} (h : eqF a b = some r) : a.plain = true ∧ b.plain = true ∧ min a.depth b.depth ≤ 64 ∧ r = PyData.eqv a b := by
  unfold eqF at h
  split at h
  · rename_i e
    simp only [Bool.and_eq_true, decide_eq_true_eq] at e
    exact ⟨e.1.1, e.1.2, e.2, (Option.some.inj h).symm⟩
  · cases h
theorem ltF_ok {a b : D} {r : Bool} (h : ltF a b = some r) : W.alike a b = true ∧ a ≠ .none ∧ min a.depth b.depth ≤ 64 ∧ r = W.dataLt a b := by
  unfold ltF at h
  split at h
  · rename_i e
    simp only [Bool.and_eq_true, decide_eq_true_eq] at e
    refine ⟨e.1.1, fun z => ?_, e.2, (Option.some.inj h).symm⟩
    rw [z] at e
    have := e.1.2
    simp [isNone] at this
  · cases h
theorem map_not {o : Option Bool} {r : Bool} (h : o.map (!·) = some r) : ∃ k, o = some k ∧ r = !k := by
  cases o with
  | none => cases h
  | some k => exact ⟨k, rfl, (Option.some.inj h).symm⟩
theorem oc_eq (hu : X.A.units + 128 < cLine) : OpR X (compareOp .Eq) (rC X.K (cmpF .eq)) := by
  intro pins s σ H x y v u Q I rx ry ⟨a, b, r, ha, hb, hf, q⟩
  obtain ⟨p1, p2, p3, rfl⟩ := eqF_ok hf
  obtain ⟨as, r1⟩ := Rep.reads I ha rx
  obtain ⟨bs, r2⟩ := Rep.reads I hb ry
  exact SeqAt.eq_plain r1 r2 p1 p2 (by omega) (fin_bool I q)
theorem oc_ne (hu : X.A.units + 128 < cLine) : OpR X (compareOp .NotEq) (rC X.K (cmpF .ne)) := by
  intro pins s σ H x y v u Q I rx ry ⟨a, b, r, ha, hb, hf, q⟩
  obtain ⟨k, hk, rfl⟩ := map_not hf
  obtain ⟨p1, p2, p3, rfl⟩ := eqF_ok hk
  obtain ⟨as, r1⟩ := Rep.reads I ha rx
  obtain ⟨bs, r2⟩ := Rep.reads I hb ry
  exact SeqAt.ne_plain r1 r2 p1 p2 (by omega) (fin_bool I q)
theorem oc_lt (hu : X.A.units + 128 < cLine) : OpR X (compareOp .Lt) (rC X.K (cmpF .lt)) := by
  intro pins s σ H x y v u Q I rx ry ⟨a, b, r, ha, hb, hf, q⟩
  obtain ⟨p1, p2, p3, rfl⟩ := ltF_ok hf
  obtain ⟨as, r1⟩ := Rep.reads I ha rx
  obtain ⟨bs, r2⟩ := Rep.reads I hb ry
  exact W.lt_data r1 r2 p1 p2 (by omega) (fin_bool I q)
end
end PF
end
section
set_option Elab.async false
set_option linter.all false
set_option maxRecDepth 100000
set_option maxHeartbeats 2000000
/-! PFd: comparisons, subscripts, slices, built-ins over data. -/
namespace PF
open PySem PySem.Spec PyProof.Rows L2
section
variable {X : Cx}
theorem gtF_ok {a b : D} {r : Bool} (h : gtF a b = some r) : W.alike a b = true ∧ a ≠ .none ∧ min a.depth b.depth ≤ 64 ∧ r = W.dataLt b a := by
  unfold gtF at h
  split at h
  · rename_i e
    simp only [Bool.and_eq_true, decide_eq_true_eq] at e
    refine ⟨e.1.1, fun z => ?_, e.2, (Option.some.inj h).symm⟩
    rw [z] at e
    have := e.1.2
    simp [isNone] at this
  · cases h
theorem oc_gt (hu : X.A.units + 128 < cLine) : OpR X (compareOp .Gt) (rC X.K (cmpF .gt)) := by
  intro pins s σ H x y v u Q I rx ry ⟨a, b, r, ha, hb, hf, q⟩
  obtain ⟨p1, p2, p3, rfl⟩ := gtF_ok hf
  obtain ⟨as, r1⟩ := Rep.reads I ha rx
  obtain ⟨bs, r2⟩ := Rep.reads I hb ry
  exact W.gt_data r1 r2 p1 p2 (by omega) (fin_bool I q)
theorem oc_le (hu : X.A.units + 128 < cLine) : OpR X (compareOp .LtE) (rC X.K (cmpF .le)) := by
  intro pins s σ H x y v u Q I rx ry ⟨a, b, r, ha, hb, hf, q⟩
  obtain ⟨k, hk, rfl⟩ := map_not hf
  obtain ⟨p1, p2, p3, rfl⟩ := gtF_ok hk
  obtain ⟨as, r1⟩ := Rep.reads I ha rx
  obtain ⟨bs, r2⟩ := Rep.reads I hb ry
  exact W.le_data r1 r2 p1 p2 (by omega) (fin_bool I q)
theorem oc_ge (hu : X.A.units + 128 < cLine) : OpR X (compareOp .GtE) (rC X.K (cmpF .ge)) := by
  intro pins s σ H x y v u Q I rx ry ⟨a, b, r, ha, hb, hf, q⟩
  obtain ⟨k, hk, rfl⟩ := map_not hf
  obtain ⟨p1, p2, p3, rfl⟩ := ltF_ok hk
  obtain ⟨as, r1⟩ := Rep.reads I ha rx
  obtain ⟨bs, r2⟩ := Rep.reads I hb ry
  exact W.ge_data r1 r2 p1 p2 (by omega) (fin_bool I q)
theorem one_sign {z : Str} (h : z.length = 1) : z = ⟨#[z.cps.getD 0 0]⟩ := by
  obtain ⟨⟨l⟩⟩ := z
  match l, h with
  | [c], _ => rfl
theorem oc_in (hu : X.A.units + 128 < cLine) : OpR X (compareOp .In) (rC X.K (cmpF .isin)) := by
  intro pins s σ H x y v u Q I rx ry ⟨a, b, r, ha, hb, hf, q⟩
  obtain ⟨as, r1⟩ := Rep.reads I ha rx
  obtain ⟨bs, r2⟩ := Rep.reads I hb ry
  simp only [cmpF, inF] at hf
  split at hf
  · split at hf
    · rename_i e
      simp only [Bool.and_eq_true, decide_eq_true_eq] at e
      cases hf
      exact SeqAt.in_list_data r2 r1 e.1.2 e.1.1 (by omega) (fin_bool I q)
    · cases hf
  · split at hf
    · rename_i e
      simp only [Bool.and_eq_true, decide_eq_true_eq] at e
      cases hf
      exact SeqAt.in_tuple_data r2 r1 e.1.2 e.1.1 (by omega) (fin_bool I q)
    · cases hf
  · split at hf
    · split at hf
      · rename_i e
        cases hf
        cases ha
        cases hb
        exact op_in_sign pins s σ H _ _ v u Q I rx ry ⟨_, _, congrArg V.str (one_sign e), rfl, q _ _ (Same.refl H) (.bl _)⟩
      · cases hf
    · cases hf
  · cases hb
  · cases hf
theorem oc_notin (hu : X.A.units + 128 < cLine) : OpR X (compareOp .NotIn) (rC X.K (cmpF .notin)) := by
  intro pins s σ H x y v u Q I rx ry ⟨a, b, r, ha, hb, hf, q⟩
  obtain ⟨k, hk, rfl⟩ := map_not hf
  obtain ⟨as, r1⟩ := Rep.reads I ha rx
  obtain ⟨bs, r2⟩ := Rep.reads I hb ry
  simp only [inF] at hk
  split at hk
  · split at hk
    · rename_i e
      simp only [Bool.and_eq_true, decide_eq_true_eq] at e
      cases hk
      exact SeqAt.notIn_list_data r2 r1 e.1.2 e.1.1 (by omega) (fin_bool I q)
    · cases hk
  · split at hk
    · rename_i e
      simp only [Bool.and_eq_true, decide_eq_true_eq] at e
      cases hk
      exact SeqAt.notIn_tuple_data r2 r1 e.1.2 e.1.1 (by omega) (fin_bool I q)
    · cases hk
  · split at hk
    · split at hk
      · rename_i e
        cases hk
        cases ha
        cases hb
        exact op_notIn_sign pins s σ H _ _ v u Q I rx ry ⟨_, _, congrArg V.str (one_sign e), rfl, q _ _ (Same.refl H) (.bl _)⟩
      · cases hk
    · cases hk
  · cases hb
  · cases hk
theorem isNone_dec {K : PySem.W.Frag} {H : Hp} {x : V} {a : D} (h : Rep K H x a) : decide (x = .non) = isNone a := by
  cases h <;> simp [isNone]
theorem oc_is : OpR X (compareOp .Is) (rC X.K (cmpF .is_)) := by
  intro pins s σ H x y v u Q I rx ry ⟨a, b, r, ha, hb, hf, q⟩
  simp only [cmpF] at hf
  cases hb with
  | non =>
    have e : r = isNone a := by cases a <;> exact (Option.some.inj hf).symm
    subst e
    exact op_isN pins s σ H x .non v u Q I rx ry ⟨rfl, q _ _ (Same.refl H) (by rw [isNone_dec ha]; exact .bl _)⟩
  | bl k =>
    cases ha with
    | bl j =>
      cases hf
      exact op_isBl pins s σ H _ _ v u Q I rx ry ⟨j, k, rfl, rfl, q _ _ (Same.refl H) (by rw [Bool.beq_eq_decide_eq]; exact .bl _)⟩
    | non =>
      cases hf
      cases rx
      cases ry
      exact wpAny_is_other rfl (fun z => nomatch z) (fin_bool I q)
    | int i =>
      cases hf
      obtain ⟨t, rfl⟩ := rx
      cases ry
      exact wpAny_is_other rfl (fun z => nomatch z) (fin_bool I q)
    | str z =>
      cases hf
      obtain ⟨t, rfl⟩ := rx
      cases ry
      exact wpAny_is_other rfl (fun z => nomatch z) (fin_bool I q)
    | _ => cases hf
  | _ => cases a <;> cases hf
theorem oc_isnot : OpR X (compareOp .IsNot) (rC X.K (cmpF .isnot)) := by
  intro pins s σ H x y v u Q I rx ry ⟨a, b, r, ha, hb, hf, q⟩
  obtain ⟨k, hk, rfl⟩ := map_not hf
  cases hb with
  | non =>
    have e : k = isNone a := by cases a <;> exact (Option.some.inj hk).symm
    subst e
    exact op_notN pins s σ H x .non v u Q I rx ry ⟨rfl, q _ _ (Same.refl H) (by rw [isNone_dec ha]; exact .bl _)⟩
  | bl k2 =>
    cases ha with
    | bl j =>
      cases hk
      exact op_notBl pins s σ H _ _ v u Q I rx ry ⟨j, k2, rfl, rfl, q _ _ (Same.refl H) (by rw [Bool.beq_eq_decide_eq]; exact .bl _)⟩
    | non =>
      cases hk
      cases rx
      cases ry
      exact wpAny_isNot_other rfl (fun z => nomatch z) (fin_bool I q)
    | int i =>
      cases hk
      obtain ⟨t, rfl⟩ := rx
      cases ry
      exact wpAny_isNot_other rfl (fun z => nomatch z) (fin_bool I q)
    | str z =>
      cases hk
      obtain ⟨t, rfl⟩ := rx
      cases ry
      exact wpAny_isNot_other rfl (fun z => nomatch z) (fin_bool I q)
    | _ => cases hk
  | _ => cases a <;> cases hk

/-! ### the sign, the truth -/
theorem ou_neg : UnR X (unaryOp .USub) (fun x H Q => ∃ i, Rep X.K H x (.int i) ∧ Wd X.K H Q (.int (-i))) := by
  intro pins s σ H x v Q I rx ⟨i, ha, q⟩
  cases ha
  exact un_neg pins s σ H _ v Q I rx ⟨i, rfl, q _ _ (Same.refl H) (.int _)⟩
theorem fits_63 {d : D} (h : fits d = true) : d.fits63 := by
  cases d with
  | str x => have := of_decide_eq_true h; show ((x.length : Nat) : Int) < 2 ^ 63; omega
  | list xs => have := of_decide_eq_true h; show ((xs.length : Nat) : Int) < 2 ^ 63; omega
  | tuple xs => have := of_decide_eq_true h; show ((xs.length : Nat) : Int) < 2 ^ 63; omega
  | _ => trivial
mutual
theorem Rep.plain {K : PySem.W.Frag} {H : Hp} : ∀ (d : D) (v : V), Rep K H v d → d.plain = true
  | .none, _, _ => rfl
  | .bool _, _, _ => rfl
  | .int _, _, _ => rfl
  | .str _, _, _ => rfl
  | .list ds, _, h => by
    cases h with
    | lst h1 h2 => exact RepL.plain ds _ h2
  | .tuple ds, _, h => by
    cases h with
    | tup h1 h2 => exact RepL.plain ds _ h2
  | .dict _, _, h => by cases h
theorem RepL.plain {K : PySem.W.Frag} {H : Hp} : ∀ (ds : List D) (vs : List V), RepL K H vs ds → PyData.plainAll ds = true
  | [], _, _ => rfl
  | d :: ds, _, h => by
    cases h with
    | cons h1 h2 =>
      show (d.plain && PyData.plainAll ds) = true
      rw [Rep.plain d _ h1, RepL.plain ds _ h2] <;> rfl
end
theorem ot_truth : TruR X (fun x H Q => ∃ a r, Rep X.K H x a ∧ truthF a = some r ∧ Q r H) := by
  intro pins s σ H x v Q I rx ⟨a, r, ha, hf, q⟩
  obtain ⟨as, r1⟩ := Rep.reads I ha rx
  unfold truthF at hf
  split at hf
  · rename_i e
    cases hf
    exact W.truthy_data r1 (Rep.plain a x ha) (fits_63 e) fun tk _ => ⟨H, I.tok tk, q⟩
  · cases hf

/-! ### subscripts, slices -/
theorem oi_sub : IxR X (rB X.K subF) := by
  intro value slice pins s σ H x y v u Q I rx ry ⟨a, b, r, ha, hb, hf, q⟩ hs
  cases ha with
  | tup h1 h2 =>
    cases hb with
    | int i =>
      have hf' : L2.atI _ i = some r := hf
      unfold L2.atI at hf'
      obtain ⟨j, e1, e2⟩ := Option.bind_eq_some_iff.mp hf'
      obtain ⟨vv, e3, rv⟩ := h2.get e2
      refine ix_tup value slice pins s σ H _ _ v u Q I rx ry ⟨_, _, i, vv, rfl, rfl, h1, ?_, q _ _ (Same.refl H) rv⟩ hs
      unfold L2.atI
      rw [h2.length, e1]
      exact e3
    | _ => cases hf
  | lst h1 h2 =>
    cases hb with
    | int i =>
      have hf' : L2.atI _ i = some r := hf
      unfold L2.atI at hf'
      obtain ⟨j, e1, e2⟩ := Option.bind_eq_some_iff.mp hf'
      obtain ⟨vv, e3, rv⟩ := h2.get e2
      refine ix_list value slice pins s σ H _ _ v u Q I rx ry ⟨_, _, i, vv, rfl, rfl, sql_frz h1, ?_, q _ _ (Same.refl H) rv⟩ hs
      unfold L2.atI
      rw [h2.length, e1]
      exact e3
    | _ => cases hf
  | str z =>
    cases hb with
    | int i =>
      simp only [subF] at hf
      split at hf
      · rename_i hz
        obtain ⟨c, e1, e2⟩ := Option.map_eq_some_iff.mp hf
        subst e2
        exact ix_str value slice pins s σ H _ _ v u Q I rx ry ⟨z, i, c, rfl, rfl, by rw [line_eq]; exact hz, e1, q _ _ (Same.refl H) (.str _)⟩ hs
      · cases hf
    | _ => cases hf
  | _ => cases b <;> cases hf
theorem bound_ok {K : PySem.W.Frag} {H : Hp} {x : V} {d : D} {o : Option Int} {b : Bool} (h : Rep K H x d) (e : boundF b d = some o) : (b = false ∧ x = .non ∧ o = none) ∨ ∃ i, b = true ∧ x = .int i ∧ o = some i := by
  cases h with
  | non => cases b <;> cases e; exact .inl ⟨rfl, rfl, rfl⟩
  | int i => cases b <;> cases e; exact .inr ⟨i, rfl, rfl, rfl⟩
  | _ => cases b <;> cases e
theorem cut_rep {K : PySem.W.Frag} {H : Hp} {xs : List V} {ds : List D} (h : RepL K H xs ds) (l u : Option Int) : RepL K H (cutV xs l u) (cutL ds l u) := by
  unfold cutV cutL
  rw [h.length]
  exact (h.drop _).take _
theorem os_slc : SlR X (fun x lo hi H Q => ∃ a r, Rep X.K H x a ∧ cutD a lo hi = some r ∧ Wd X.K H Q r) := by
  intro pins s σ H x v vl vu lo hi sl Q I rx hs pl pu ⟨a, r, ha, hf, q⟩
  cases ha with
  | tup h1 h2 =>
    cases hf
    refine sl_tupA pins s σ H _ v vl vu lo hi sl Q I rx hs pl pu ⟨_, _, rfl, h1, fun hw => ?_, fun hw p hp => ?_⟩
    · refine q _ _ (Same.refl H) (.tup h1 ?_)
      have e := cut_rep h2 lo hi
      have e2 : cutV _ lo hi = _ := show cutV _ lo hi = _ from by
        unfold cutV
        rw [hw.1, hw.2, List.drop_zero, Nat.sub_zero, List.take_length]
      rwa [e2] at e
    · exact q _ _ (same_new hp) (.tup (.of upd_same) (RepL.mono (samefz (same_new hp)) _ _ (cut_rep h2 lo hi)))
  | lst h1 h2 =>
    cases hf
    cases rx
    obtain ⟨T, id, e1, e2, e3⟩ := sl_list pins s σ H (.ref _) _ vl vu lo hi sl (fun v' H1 => ∃ p, v' = .ref p ∧ H p = none ∧ H1 = upd H p (.lst (cutV _ lo hi))) I rfl hs pl pu ⟨_, _, rfl, sql_frz h1, fun p hp => ⟨p, rfl, hp, rfl⟩⟩
    refine ⟨T, id, e1, e2, wpAny_mono e3 (fun u' s' ⟨v', H1, I1, r1, p, ep, hp, eH⟩ => ?_) fun _ _ z => z⟩
    subst ep eH
    cases r1
    exact fin_list I1 hp (cut_rep h2 lo hi) q
  | str z =>
    simp only [cutD] at hf
    split at hf
    · cases hf
      rename_i hz
      exact sl_str pins s σ H _ v vl vu lo hi sl Q I rx hs pl pu ⟨z, rfl, by rw [line_eq]; exact hz, q _ _ (Same.refl H) (.str _)⟩
    · cases hf
  | _ => cases hf
end
end PF
end
section
set_option Elab.async false
set_option linter.all false
set_option maxRecDepth 100000
set_option maxHeartbeats 2000000
/-! PFe: the built-ins. -/
namespace PF
open PySem PySem.Spec PyProof.Rows L2
abbrev rP (K : PySem.W.Frag) (p : Pm) : List V → Hp → VK → Prop := fun xs H Q => ∃ ds r, RepL K H xs ds ∧ primF p ds = some r ∧ Wd K H Q r
theorem repl1 {K : PySem.W.Frag} {H : Hp} {xs : List V} {d : D} (h : RepL K H xs [d]) : ∃ x, xs = [x] ∧ Rep K H x d := by
  cases h with
  | cons h1 h2 => cases h2; exact ⟨_, rfl, h1⟩
theorem repl2 {K : PySem.W.Frag} {H : Hp} {xs : List V} {d e : D} (h : RepL K H xs [d, e]) : ∃ x y, xs = [x, y] ∧ Rep K H x d ∧ Rep K H y e := by
  cases h with
  | cons h1 h2 =>
    obtain ⟨y, rfl, h3⟩ := repl1 h2
    exact ⟨_, y, rfl, h1, h3⟩
/-- a list or a tuple of data -/
inductive Sq (K : PySem.W.Frag) (H : Hp) (ds : List D) : V → Prop
  | l {a : Addr} {o : Obj} {xs : List V} : H a = some (.frz o (.lst xs)) → RepL K H xs ds → Sq K H ds (.ref a)
  | t {a : Addr} {xs : List V} : SqT K H a xs → RepL K H xs ds → Sq K H ds (.ref a)
theorem seqF_ok {K : PySem.W.Frag} {H : Hp} {x : V} {d : D} {ds : List D} (h : Rep K H x d) (e : seqF d = some ds) : Sq K H ds x := by
  cases h with
  | lst h1 h2 => cases e; exact .l h1 h2
  | tup h1 h2 => cases e; exact .t h1 h2
  | _ => cases e
section
variable {X : Cx}
theorem cp_len : CallR X (.builtin "len") (rP X.K .len) := by
  intro pins s σ H xs us Q I r ⟨ds, d, hd, hf, q⟩
  match ds, hd, hf with
  | [.list ds], hd, hf =>
    obtain ⟨x, rfl, hx⟩ := repl1 hd
    cases hf
    cases hx with
    | lst h1 h2 => exact call_len_seq pins s σ H _ us Q I r ⟨_, _, rfl, .inl (sql_frz h1), q _ _ (Same.refl H) (by rw [h2.length]; exact .int _)⟩
  | [.tuple ds], hd, hf =>
    obtain ⟨x, rfl, hx⟩ := repl1 hd
    cases hf
    cases hx with
    | tup h1 h2 => exact call_len_seq pins s σ H _ us Q I r ⟨_, _, rfl, .inr h1, q _ _ (Same.refl H) (by rw [h2.length]; exact .int _)⟩
  | [.str z], hd, hf =>
    obtain ⟨x, rfl, hx⟩ := repl1 hd
    simp only [primF] at hf
    split at hf
    · cases hf
      cases hx
      exact call_len_str pins s σ H _ us Q I r ⟨z, rfl, by rw [line_eq]; assumption, q _ _ (Same.refl H) (.int _)⟩
    · cases hf
  | [.dict kvs], hd, hf =>
    obtain ⟨x, rfl, hx⟩ := repl1 hd
    cases hx
theorem fits_all {ds : List D} (h : ds.all fits = true) : ∀ x ∈ ds, x.fits63 := fun x hx => fits_63 (List.all_eq_true.mp h x hx)
theorem cp_all (hc : X.calm = true) : CallR X (.builtin "all") (rP X.K .all) := by
  intro pins s σ H xs us Q I r ⟨ds, d, hd, hf, q⟩
  match ds, hd, hf with
  | [x0], hd, hf =>
    obtain ⟨x, rfl, hx⟩ := repl1 hd
    have hf : ((seqF x0).bind fun ds => if PyData.plainAll ds && ds.all fits then some (PyData.bool (ds.all PyData.truthy)) else none) = some d := hf
    obtain ⟨es, e1, e2⟩ := Option.bind_eq_some_iff.mp hf
    have hs := seqF_ok hx e1
    split at e2
    · rename_i e
      simp only [Bool.and_eq_true] at e
      cases e2
      cases hs with
      | l h1 h2 =>
        obtain ⟨u, rfl, ru⟩ := vals1 r
        cases ru
        obtain ⟨its, rv, p, _⟩ := I.list (sql_frz h1)
        obtain ⟨as, ra⟩ := RepL.reads I h2 rv
        exact W.all_list_data (I.ok.hd hc) p.isList ra e.1 (fits_all e.2) fun h' tk k => fin_bool (I.kept k) q
      | t h1 h2 =>
        obtain ⟨u, rfl, ru⟩ := vals1 r
        cases ru
        obtain ⟨its, rv, p, _⟩ := I.tuple h1
        obtain ⟨as, ra⟩ := RepL.reads I h2 rv
        exact W.all_tuple_data (I.ok.hd hc) p ra e.1 (fits_all e.2) fun h' tk k => fin_bool (I.kept k) q
    · cases e2
theorem cp_any (hc : X.calm = true) : CallR X (.builtin "any") (rP X.K .any) := by
  intro pins s σ H xs us Q I r ⟨ds, d, hd, hf, q⟩
  match ds, hd, hf with
  | [x0], hd, hf =>
    obtain ⟨x, rfl, hx⟩ := repl1 hd
    have hf : ((seqF x0).bind fun ds => if PyData.plainAll ds && ds.all fits then some (PyData.bool (ds.any PyData.truthy)) else none) = some d := hf
    obtain ⟨es, e1, e2⟩ := Option.bind_eq_some_iff.mp hf
    have hs := seqF_ok hx e1
    split at e2
    · rename_i e
      simp only [Bool.and_eq_true] at e
      cases e2
      cases hs with
      | l h1 h2 =>
        obtain ⟨u, rfl, ru⟩ := vals1 r
        cases ru
        obtain ⟨its, rv, p, _⟩ := I.list (sql_frz h1)
        obtain ⟨as, ra⟩ := RepL.reads I h2 rv
        exact W.any_list_data (I.ok.hd hc) p.isList ra e.1 (fits_all e.2) fun h' tk k => fin_bool (I.kept k) q
      | t h1 h2 =>
        obtain ⟨u, rfl, ru⟩ := vals1 r
        cases ru
        obtain ⟨its, rv, p, _⟩ := I.tuple h1
        obtain ⟨as, ra⟩ := RepL.reads I h2 rv
        exact W.any_tuple_data (I.ok.hd hc) p ra e.1 (fits_all e.2) fun h' tk k => fin_bool (I.kept k) q
    · cases e2
theorem ints_of : ∀ {ds : List D} {ns : List Int}, intsF ds = some ns → ds = ns.map .int
  | [], ns, h => by cases h; rfl
  | .int i :: r, ns, h => by
    obtain ⟨ms, e, rfl⟩ := Option.map_eq_some_iff.mp (show (intsF r).map (i :: ·) = some ns from h)
    rw [ints_of e]
    rfl
  | .none :: _, _, h => by cases h
  | .bool _ :: _, _, h => by cases h
  | .str _ :: _, _, h => by cases h
  | .list _ :: _, _, h => by cases h
  | .tuple _ :: _, _, h => by cases h
  | .dict _ :: _, _, h => by cases h
theorem repl_ints {K : PySem.W.Frag} {H : Hp} : ∀ {xs : List V} {ns : List Int}, RepL K H xs (ns.map .int) → xs = ns.map V.int
  | _, [], h => by cases h; rfl
  | _, n :: ns, h => by
    cases h with
    | cons h1 h2 =>
      cases h1
      rw [repl_ints h2]
      rfl
theorem cp_sum (hc : X.calm = true) : CallR X (.builtin "sum") (rP X.K .sum) := by
  intro pins s σ H xs us Q I r ⟨ds, d, hd, hf, q⟩
  match ds, hd, hf with
  | [.list es], hd, hf =>
    obtain ⟨x, rfl, hx⟩ := repl1 hd
    obtain ⟨ns, e1, rfl⟩ := Option.map_eq_some_iff.mp (show (intsF es).map (fun ns => PyData.int ns.sum) = some d from hf)
    have e := ints_of e1
    subst e
    cases hx with
    | lst h1 h2 =>
      have e2 := repl_ints h2
      subst e2
      exact cr_sum hc pins s σ H _ us Q I r ⟨_, ns, rfl, sql_frz h1, q _ _ (Same.refl H) (.int _)⟩
theorem alikeB_ok {ds : List D} (h : alikeB ds = true) : ∀ x ∈ ds, ∀ y ∈ ds, W.alike x y = true := by
  induction ds with
  | nil => intro x hx; cases hx
  | cons a r ih =>
    simp only [alikeB, Bool.and_eq_true, List.all_eq_true] at h
    obtain ⟨⟨h1, h2⟩, h3⟩ := h
    intro x hx y hy
    rcases List.mem_cons.mp hx with ex | hx'
    · rcases List.mem_cons.mp hy with ey | hy'
      · rw [ex, ey]; exact h3
      · rw [ex]; exact (h1 y hy').1
    · rcases List.mem_cons.mp hy with ey | hy'
      · rw [ey]; exact (h1 x hx').2
      · exact ih h2 x hx' y hy'
theorem pick_rep {pins : List (Addr × Obj)} {σ : L2.St} {H : Hp} {s : Shared} {h' : Heap} {tk : Nat} {vs : List V} {its : List Value} {ds : List D} {d : D} {i : Nat} {v : Value} {bs : List Addr} {Q : VK} (I : Inv X pins σ H s) (h2 : RepL X.K H vs ds) (rv : Vals vs its) (e : its.toArray[i]? = some v)
    (rd : Reads h' v d bs) (k : ∀ b o, s.heap.get? b = some o → h'.get? b = some o) (q : Wd X.K H Q d) : EP X pins σ Q v { s with heap := h', toks := tk } := by
  have e' : its[i]? = some v := by simpa using e
  have hi : i < vs.length := by
    rw [rv.length]
    exact (List.getElem?_eq_some_iff.mp e').1
  obtain ⟨u, e3, ru⟩ := rv.get (List.getElem?_eq_getElem hi)
  rw [e'] at e3
  cases e3
  obtain ⟨d2, e4, r2⟩ := h2.get' (List.getElem?_eq_getElem hi)
  have I' := I.kept (t' := tk) k
  obtain ⟨as, r3⟩ := Rep.reads I' r2 ru
  have ed : d2 = d := SeqAt.plain_unique d2 d v as bs (Rep.plain d2 _ r2) r3 rd
  subst ed
  exact fin_same I' ru r2 q
theorem alikeAll_ok {a : D} {r : List D} (h : (alikeB (a :: r) && !isNone a) = true) : W.AlikeAll (a :: r) := by
  simp only [Bool.and_eq_true] at h
  have ha := alikeB_ok h.1
  refine ⟨ha, fun x hx e => ?_⟩
  have := ha a List.mem_cons_self x hx
  rw [e] at this
  cases a <;> simp [W.alike, isNone] at this h
theorem cp_min (hc : X.calm = true) (hu : X.A.units + 128 < cLine) : CallR X (.builtin "min") (rP X.K .min) := by
  intro pins s σ H xs us Q I r ⟨ds, d, hd, hf, q⟩
  match ds, hd, hf with
  | [x0], hd, hf =>
    obtain ⟨x, rfl, hx⟩ := repl1 hd
    obtain ⟨es, e1, e2⟩ := Option.bind_eq_some_iff.mp (show (seqF x0).bind _ = some d from hf)
    have hs := seqF_ok hx e1
    match es, e2, hs with
    | a :: t, e2, hs =>
      simp only at e2
      split at e2
      · rename_i e
        simp only [Bool.and_eq_true, decide_eq_true_eq] at e
        cases e2
        have hal := alikeAll_ok (Bool.and_eq_true_iff.mpr e.1)
        cases hs with
        | l h1 h2 =>
          obtain ⟨u, rfl, ru⟩ := vals1 r
          cases ru
          obtain ⟨its, rv, p, _⟩ := I.list (sql_frz h1)
          obtain ⟨as, ra⟩ := RepL.reads I h2 rv
          exact W.min_list_data (I.ok.hd hc) p.isList ra hal (by omega) fun i v h' tk bs ei rd k => pick_rep I h2 rv ei rd k q
        | t h1 h2 =>
          obtain ⟨u, rfl, ru⟩ := vals1 r
          cases ru
          obtain ⟨its, rv, p, _⟩ := I.tuple h1
          obtain ⟨as, ra⟩ := RepL.reads I h2 rv
          exact W.min_tuple_data (I.ok.hd hc) p ra hal (by omega) fun i v h' tk bs ei rd k => pick_rep I h2 rv ei rd k q
      · cases e2
theorem cp_max (hc : X.calm = true) (hu : X.A.units + 128 < cLine) : CallR X (.builtin "max") (rP X.K .max) := by
  intro pins s σ H xs us Q I r ⟨ds, d, hd, hf, q⟩
  match ds, hd, hf with
  | [x0], hd, hf =>
    obtain ⟨x, rfl, hx⟩ := repl1 hd
    obtain ⟨es, e1, e2⟩ := Option.bind_eq_some_iff.mp (show (seqF x0).bind _ = some d from hf)
    have hs := seqF_ok hx e1
    match es, e2, hs with
    | a :: t, e2, hs =>
      simp only at e2
      split at e2
      · rename_i e
        simp only [Bool.and_eq_true, decide_eq_true_eq] at e
        cases e2
        have hal := alikeAll_ok (Bool.and_eq_true_iff.mpr e.1)
        cases hs with
        | l h1 h2 =>
          obtain ⟨u, rfl, ru⟩ := vals1 r
          cases ru
          obtain ⟨its, rv, p, _⟩ := I.list (sql_frz h1)
          obtain ⟨as, ra⟩ := RepL.reads I h2 rv
          exact W.max_list_data (I.ok.hd hc) p.isList ra hal (by omega) fun i v h' tk bs ei rd k => pick_rep I h2 rv ei rd k q
        | t h1 h2 =>
          obtain ⟨u, rfl, ru⟩ := vals1 r
          cases ru
          obtain ⟨its, rv, p, _⟩ := I.tuple h1
          obtain ⟨as, ra⟩ := RepL.reads I h2 rv
          exact W.max_tuple_data (I.ok.hd hc) p ra hal (by omega) fun i v h' tk bs ei rd k => pick_rep I h2 rv ei rd k q
      · cases e2
theorem cp_min2 (hc : X.calm = true) : CallR X (.builtin "min") (rP X.K .min2) := by
  intro pins s σ H xs us Q I r ⟨ds, d, hd, hf, q⟩
  match ds, hd, hf with
  | [.int i, .int j], hd, hf =>
    obtain ⟨x, y, rfl, hx, hy⟩ := repl2 hd
    cases hf; cases hx; cases hy
    exact call_min2 hc pins s σ H _ us Q I r ⟨i, j, rfl, q _ _ (Same.refl H) (.int _)⟩
theorem cp_max2 (hc : X.calm = true) : CallR X (.builtin "max") (rP X.K .max2) := by
  intro pins s σ H xs us Q I r ⟨ds, d, hd, hf, q⟩
  match ds, hd, hf with
  | [.int i, .int j], hd, hf =>
    obtain ⟨x, y, rfl, hx, hy⟩ := repl2 hd
    cases hf; cases hx; cases hy
    exact call_max2 hc pins s σ H _ us Q I r ⟨i, j, rfl, q _ _ (Same.refl H) (.int _)⟩
theorem cp_abs : CallR X (.builtin "abs") (rP X.K .abs) := by
  intro pins s σ H xs us Q I r ⟨ds, d, hd, hf, q⟩
  match ds, hd, hf with
  | [.int i], hd, hf =>
    obtain ⟨x, rfl, hx⟩ := repl1 hd
    cases hf; cases hx
    exact call_abs pins s σ H _ us Q I r ⟨i, rfl, q _ _ (Same.refl H) (.int _)⟩
theorem cp_int : CallR X (.type "int") (rP X.K .int) := by
  intro pins s σ H xs us Q I r ⟨ds, d, hd, hf, q⟩
  match ds, hd, hf with
  | [.int i], hd, hf =>
    obtain ⟨x, rfl, hx⟩ := repl1 hd
    cases hf; cases hx
    exact call_int1 pins s σ H _ us Q I r (.inl ⟨i, rfl, q _ _ (Same.refl H) (.int _)⟩)
  | [.bool b], hd, hf =>
    obtain ⟨x, rfl, hx⟩ := repl1 hd
    cases hf; cases hx
    exact call_int1 pins s σ H _ us Q I r (.inr ⟨b, rfl, q _ _ (Same.refl H) (.int _)⟩)
theorem cp_str : CallR X (.type "str") (rP X.K .str) := by
  intro pins s σ H xs us Q I r ⟨ds, d, hd, hf, q⟩
  match ds, hd, hf with
  | [.int i], hd, hf =>
    obtain ⟨x, rfl, hx⟩ := repl1 hd
    simp only [primF] at hf
    split at hf
    · cases hf; cases hx
      exact call_str_int pins s σ H _ us Q I r ⟨i, rfl, by assumption, q _ _ (Same.refl H) (.str _)⟩
    · cases hf
theorem cp_tuple : CallR X (.type "tuple") (rP X.K .tuple) := by
  intro pins s σ H xs us Q I r ⟨ds, d, hd, hf, q⟩
  match ds, hd, hf with
  | [x0], hd, hf =>
    obtain ⟨x, rfl, hx⟩ := repl1 hd
    obtain ⟨es, e1, e2⟩ := Option.map_eq_some_iff.mp (show (seqF x0).map PyData.tuple = some d from hf)
    subst e2
    cases seqF_ok hx e1 with
    | l h1 h2 => exact call_tuple_of pins s σ H _ us Q I r ⟨_, _, rfl, .inl ⟨sql_frz h1, fun p hp => q _ _ (same_new hp) (.tup (.of upd_same) (RepL.mono (samefz (same_new hp)) _ _ h2))⟩⟩
    | t h1 h2 => exact call_tuple_of pins s σ H _ us Q I r ⟨_, _, rfl, .inr ⟨h1, q _ _ (Same.refl H) (.tup h1 h2)⟩⟩
/-- a rule that lays a new list -/
theorem laid_list {f : Value} {us : List Value} {vs : List V} {ds : List D} {pins : List (Addr × Obj)} {σ : L2.St} {H : Hp} {s : Shared} {Q : VK} (h2 : RepL X.K H vs ds) (q : Wd X.K H Q (.list ds))
    (h : ∀ Q' : VK, (∀ p, H p = none → Q' (.ref p) (upd H p (.lst vs))) → wpAny (model X.prog X.w) X.A (call f us) (EP X pins σ Q') X.xe s) : wpAny (model X.prog X.w) X.A (call f us) (EP X pins σ Q) X.xe s := by
  refine wpAny_mono (h (fun v' H1 => ∃ p, v' = .ref p ∧ H p = none ∧ H1 = upd H p (.lst vs)) fun p hp => ⟨p, rfl, hp, rfl⟩) (fun u' s' ⟨v', H1, I1, r1, p, ep, hp, eH⟩ => ?_) fun _ _ z => z
  subst ep eH
  cases r1
  exact fin_list I1 hp h2 q
theorem cp_list : CallR X (.type "list") (rP X.K .list) := by
  intro pins s σ H xs us Q I r ⟨ds, d, hd, hf, q⟩
  match ds, hd, hf with
  | [x0], hd, hf =>
    obtain ⟨x, rfl, hx⟩ := repl1 hd
    obtain ⟨es, e1, e2⟩ := Option.map_eq_some_iff.mp (show (seqF x0).map PyData.list = some d from hf)
    subst e2
    cases seqF_ok hx e1 with
    | l h1 h2 => exact laid_list h2 q fun Q' hq => call_list_of pins s σ H _ us Q' I r ⟨_, _, rfl, .inl (sql_frz h1), hq⟩
    | t h1 h2 => exact laid_list h2 q fun Q' hq => call_list_of pins s σ H _ us Q' I r ⟨_, _, rfl, .inr h1, hq⟩
def tyN : Ty → String
  | .int => "int" | .bool => "bool" | .tuple => "tuple" | .str => "str" | .list => "list"
theorem cp_isI (t : Ty) : CallR X (.builtin "isinstance") (fun xs H Q => ∃ x d, xs = [x, .ty (tyN t)] ∧ Rep X.K H x d ∧ Wd X.K H Q (.bool (isTy t d))) := by
  intro pins s σ H xs us Q I r ⟨x, d, e, hx, q⟩
  subst e
  obtain ⟨u1, u2, rfl, r1, r2⟩ := vals2 r
  cases (show u2 = Value.type (tyN t) from r2)
  obtain ⟨as, rd⟩ := Rep.reads I hx r1
  cases t with
  | int => exact W.isinstance_int_data rd fun tk _ => fin_bool (I.tok tk) q
  | bool => exact W.isinstance_bool_data rd fun tk _ => fin_bool (I.tok tk) q
  | tuple => exact W.isinstance_tuple_data rd fun tk _ => fin_bool (I.tok tk) q
  | str => exact W.isinstance_str_data rd fun tk _ => fin_bool (I.tok tk) q
  | list => exact W.isinstance_list_data rd fun tk _ => fin_bool (I.tok tk) q
theorem cp_repr (hg : X.A.guards = some []) (hu : X.A.units + 128 < cLine) : CallR X (.builtin "repr") (rP X.K .repr) := by
  intro pins s σ H xs us Q I r ⟨ds, d, hd, hf, q⟩
  match ds, hd, hf with
  | [x0], hd, hf =>
    obtain ⟨x, rfl, hx⟩ := repl1 hd
    simp only [primF] at hf
    split at hf
    · rename_i e
      simp only [Bool.and_eq_true, decide_eq_true_eq, Bool.not_eq_true'] at e
      obtain ⟨⟨⟨e1, e2⟩, e3⟩, e4⟩ := e
      cases hf
      obtain ⟨u, rfl, ru⟩ := vals1 r
      obtain ⟨as, rd⟩ := Rep.reads I hx ru
      rw [← line_eq] at e4
      cases hx with
      | non => cases ru; exact PySem.P.repr_of_none (fin_str (I.tok _) q)
      | bl b => cases ru; exact PySem.P.repr_of_bool (fin_str (I.tok _) q)
      | int i =>
        obtain ⟨t, rfl⟩ := ru
        exact PySem.P.repr_of_int (of_decide_eq_true e1) (fin_str (I.tok _) q)
      | str z => obtain ⟨t, rfl⟩ := ru; exact PySem.P.repr_of_str (fin_str (I.tok _) q) e4
      | tup h1 h2 =>
        cases ru
        exact repr_of_reads' rd e1 (fun z => by rw [e2] at z; cases z) hg (by omega) (fun _ _ z => z) (fun h' u tk k => fin_str (I.kept k) q) e4
      | lst h1 h2 =>
        cases ru
        exact repr_of_reads' rd e1 (fun z => by rw [e2] at z; cases z) hg (by omega) (fun _ _ z => z) (fun h' u tk k => fin_str (I.kept k) q) e4
    · cases hf
end
end PF
end
section
set_option Elab.async false
set_option linter.all false
set_option maxRecDepth 100000
set_option maxHeartbeats 2000000
/-! PFg: what is walked: lists, tuples, texts, ranges, enumerate, zip of two and three. -/
namespace PF
open PySem PySem.Spec PyProof.Rows L2

/-- a walk that gives data -/
structure WalkD (K : PySem.W.Frag) (J : It) (ds : List D) (G : Hp → Prop) : Prop where
  walk : Walk J ds.length G fun i H v H' => Same H H' ∧ ∃ d, ds[i]? = some d ∧ Rep K H' v d
  keep : ∀ H H', FzE H H' → G H → G H'
theorem WalkD.mk' {K : PySem.W.Frag} {J : It} {ds : List D} {G : Hp → Prop} (h1 : ∀ i H, i < ds.length → G H → J.go i H) (h2 : ∀ H, G H → J.stop ds.length H)
    (h3 : ∀ i H x H', i < ds.length → G H → J.yld i H x H' → Same H H' ∧ ∃ d, ds[i]? = some d ∧ Rep K H' x d) (h4 : ∀ H H', FzE H H' → G H → G H') : WalkD K J ds G := ⟨⟨h1, h2, h3⟩, h4⟩

/-! ### lists and tuples at once -/
def IsIt (b : Bool) (h : Heap) (I l : Addr) (i : Nat) : Prop := cond b (h.IsListIter I l i) (h.IsTupleIter I l i)
def IsSq (b : Bool) (h : Heap) (l : Addr) (items : Array Value) : Prop := cond b (h.IsList l items) (h.IsTuple l items)
def itO (b : Bool) (l : Addr) : Obj := { cls := .type (cond b "list_iterator" "tuple_iterator"), data := .fields #[.ref l, .int 0 0] }
theorem IsIt.obj {b : Bool} {h : Heap} {I l : Addr} {i : Nat} (x : IsIt b h I l i) : ∃ o, h.get? I = some o ∧ (∀ v, o.data ≠ .cell v) ∧ o.cls = .type (cond b "list_iterator" "tuple_iterator") := by
  cases b
  · obtain ⟨o, e, c, d⟩ := x
    exact ⟨o, e, (fun v z => by rw [d] at z; cases z), c⟩
  · obtain ⟨o, e, c, d⟩ := x
    exact ⟨o, e, (fun v z => by rw [d] at z; cases z), c⟩
theorem IsIt.keep {b : Bool} {h h' : Heap} {I l : Addr} {i : Nat} (x : IsIt b h I l i) (k : ∀ o, h.get? I = some o → h'.get? I = some o) : IsIt b h' I l i := by
  cases b
  · obtain ⟨o, e, r⟩ := x
    exact ⟨o, k o e, r⟩
  · obtain ⟨o, e, r⟩ := x
    exact ⟨o, k o e, r⟩
theorem IsIt.new {b : Bool} {h : Heap} {I l : Addr} (e : h.get? I = some (itO b l)) : IsIt b h I l 0 := by
  cases b <;> exact ⟨_, e, rfl, rfl⟩
theorem IsSq.obj {b : Bool} {h : Heap} {l : Addr} {items : Array Value} (x : IsSq b h l items) : ∃ o, h.get? l = some o ∧ o.cls = .type (cond b "list" "tuple") := by
  cases b
  · obtain ⟨o, e, c, _⟩ := x
    exact ⟨o, e, c⟩
  · obtain ⟨o, e, c, _⟩ := x
    exact ⟨o, e, c⟩
theorem IsSq.ne {b b' : Bool} {h : Heap} {l I l' : Addr} {i : Nat} {items : Array Value} (x : IsSq b h l items) (y : IsIt b' h I l' i) : l ≠ I := by
  intro e
  subst e
  obtain ⟨o, e1, c1⟩ := x.obj
  obtain ⟨o', e2, _, c2⟩ := y.obj
  rw [e1] at e2
  cases e2
  rw [c1] at c2
  cases b <;> cases b' <;> exact absurd (Value.type.inj c2) (by decide)
theorem draws_sq (b : Bool) {prog : Program} {w : World} {A : Around} (hh : A.handled = none) (it l : Addr) (hne : l ≠ it) (items : Array Value) :
    Draws prog w A it [it, l] items.size (fun i v => items[i]? = some v) (fun i h => IsIt b h it l i ∧ IsSq b h l items) := by
  cases b
  · exact Draws.tuple hh it l hne items
  · exact Draws.list hh it l hne items
theorem begins_sq (b : Bool) (l : Addr) (items : Array Value) : Begins (.ref l) (itO b l) fun h => IsSq b h l items := by
  cases b
  · exact begins_tuple l items
  · exact begins_list l items
/-- the data at a, a list (b) or a tuple -/
def SqB (K : PySem.W.Frag) (H : Hp) (b : Bool) (a : Addr) (ds : List D) : Prop := match b with
  | true => ∃ o xs, H a = some (.frz o (.lst xs)) ∧ RepL K H xs ds
  | false => ∃ xs, SqT K H a xs ∧ RepL K H xs ds
theorem SqB.keep {K : PySem.W.Frag} {H H' : Hp} {b : Bool} {a : Addr} {ds : List D} (e : FzE H H') (h : SqB K H b a ds) : SqB K H' b a ds := by
  cases b
  · obtain ⟨xs, h1, h2⟩ := h
    refine ⟨xs, ?_, RepL.mono e _ _ h2⟩
    rcases h1 with h1 | h1
    · exact .inl (e.rd h1)
    · exact .inr h1
  · obtain ⟨o, xs, h1, h2⟩ := h
    exact ⟨o, xs, e _ _ h1 trivial, RepL.mono e _ _ h2⟩
theorem Sq.b {K : PySem.W.Frag} {H : Hp} {ds : List D} {x : V} (h : Sq K H ds x) : ∃ b a, x = .ref a ∧ SqB K H b a ds := by
  cases h with
  | l h1 h2 => exact ⟨true, _, rfl, _, _, h1, h2⟩
  | t h1 h2 => exact ⟨false, _, rfl, _, h1, h2⟩
section
variable {X : Cx} {pins : List (Addr × Obj)} {σ : L2.St} {H : Hp} {s : Shared}
theorem Inv.sq (I : Inv X pins σ H s) {b : Bool} {a : Addr} {ds : List D} (h : SqB X.K H b a ds) : ∃ (xs : List V) (its : List Value), RepL X.K H xs ds ∧ Vals xs its ∧ IsSq b s.heap a its.toArray ∧ its.toArray.size = ds.length := by
  cases b
  · obtain ⟨xs, h1, h2⟩ := h
    obtain ⟨its, rv, p, _⟩ := I.tuple h1
    exact ⟨xs, its, h2, rv, p, by rw [List.size_toArray, ← rv.length, h2.length]⟩
  · obtain ⟨o, xs, h1, h2⟩ := h
    obtain ⟨its, rv, p, _⟩ := I.list (sql_frz h1)
    exact ⟨xs, its, h2, rv, p.isList, by rw [List.size_toArray, ← rv.length, h2.length]⟩
theorem rep_at {K : PySem.W.Frag} {xs : List V} {its : List Value} {ds : List D} {i : Nat} {v : Value} (h : RepL K H xs ds) (r : Vals xs its) (e : its.toArray[i]? = some v) : ∃ x d, RelV x v ∧ ds[i]? = some d ∧ Rep K H x d := by
  have e' : its[i]? = some v := by simpa using e
  have hi : i < xs.length := by
    rw [r.length]
    exact (List.getElem?_eq_some_iff.mp e').1
  obtain ⟨u, e3, ru⟩ := r.get (List.getElem?_eq_getElem hi)
  rw [e'] at e3
  cases e3
  obtain ⟨d, e4, r2⟩ := h.get' (List.getElem?_eq_getElem hi)
  exact ⟨_, d, ru, e4, r2⟩
end
/-- what it gives at each turn -/
def ItD (K : PySem.W.Frag) (n : Nat) (G : Hp → Prop) (Y : Nat → Hp → V → Hp → Prop) : It := ⟨fun i H => i < n ∧ G H, Y, fun i H => i = n ∧ G H⟩
def YSq (K : PySem.W.Frag) (ds : List D) : Nat → Hp → V → Hp → Prop := fun i H v H' => H' = H ∧ ∃ d, ds[i]? = some d ∧ Rep K H v d
theorem walkD_sq {K : PySem.W.Frag} {b : Bool} {a : Addr} {ds : List D} : WalkD K (ItD K ds.length (fun H => SqB K H b a ds) (YSq K ds)) ds (fun H => SqB K H b a ds) :=
  .mk' (fun i H hi g => ⟨hi, g⟩) (fun H g => ⟨rfl, g⟩) (fun i H x H' hi g ⟨e, d, e1, r⟩ => by subst e; exact ⟨Same.refl _, d, e1, r⟩) fun H H' e g => g.keep e
theorem go_sq {b : Bool} {M : Model} {A : Around} {E : Value → Shared → Prop} {s : Shared} {tg : Expr} {it l : Addr} {i : Nat} {u : Value} {Q : Unit → Shared → Prop} (h : IsIt b s.heap it l i) (q : Q () s) : wpAny M A (letOwnedTupleGo tg (.ref it) u) Q E s := by
  cases b
  · obtain ⟨o, e, c, d⟩ := h
    exact go_of e c d (by decide) q
  · obtain ⟨o, e, c, d⟩ := h
    exact go_of e c d (by decide) q
theorem turn_sq {P : Program} {w : World} {K : PySem.W.Frag} {tg : Expr} (b : Bool) (a it : Addr) (ds : List D) : Turn P w K tg (ItD K ds.length (fun H => SqB K H b a ds) (YSq K ds)) [it] it (fun i h => IsIt b h it a i) where
  mem := by simp
  obj := fun i h st c hc => by
    have e : c = it := by simpa using hc
    subst e
    obtain ⟨o, e, d, _⟩ := st.obj
    exact ⟨o, e, d⟩
  keep := fun i h h' st k => st.keep fun o e => k it (by simp) o e
  item := by
    intro X hP hw hK hc i pins s σ H E I hf st hg
    subst hP hw hK
    obtain ⟨hi, g⟩ := hg
    obtain ⟨xs, its, h2, rv, p, hz⟩ := Inv.sq I g
    have hlt : i < its.toArray.size := by omega
    obtain ⟨x, d, rx, e1, r1⟩ := rep_at h2 rv (Array.getElem?_eq_getElem hlt)
    obtain ⟨f0, f1, f2, f3, f4, f5⟩ := hf it (by simp)
    cases b with
    | true =>
      refine wpAny_pyNext_list_item st p (x := its.toArray[i]) (Array.getElem?_eq_getElem hlt) fun h' st' sb => ?_
      have I1 : Inv X pins σ H { s with heap := h' } := I.turned (t' := s.toks) (fun b o hb e => (sb.2 b hb).trans e) f0 f1 f3 f4 f5
      exact ⟨_, rfl, go_sq (b := true) (s := { s with heap := h' }) st' ⟨x, H, I1, rx, ⟨rfl, d, e1, r1⟩, st', fun b hb => (hf b hb).1⟩⟩
    | false =>
      refine wpAny_pyNext_tuple_item st p (x := its.toArray[i]) (Array.getElem?_eq_getElem hlt) fun h' st' sb => ?_
      have I1 : Inv X pins σ H { s with heap := h' } := I.turned (t' := s.toks) (fun b o hb e => (sb.2 b hb).trans e) f0 f1 f3 f4 f5
      exact ⟨_, rfl, go_sq (b := false) (s := { s with heap := h' }) st' ⟨x, H, I1, rx, ⟨rfl, d, e1, r1⟩, st', fun b hb => (hf b hb).1⟩⟩
  done := by
    intro X hP hw hK hc i pins s σ H E I hf st hg
    subst hP hw hK
    obtain ⟨hi, g⟩ := hg
    obtain ⟨xs, its, h2, rv, p, hz⟩ := Inv.sq I g
    obtain ⟨f0, f1, f2, f3, f4, f5⟩ := hf it (by simp)
    have hn : its.toArray[i]? = none := Array.getElem?_eq_none (by omega)
    cases b with
    | true => exact wpAny_pyNext_list_end (I.ok.hd hc) st p hn fun h' eb => ⟨rfl, I.turned (t' := s.toks) (fun b o hb e => eb b o hb e) f0 f1 f3 f4 f5⟩
    | false => exact wpAny_pyNext_tuple_end (I.ok.hd hc) st p hn fun h' eb => ⟨rfl, I.turned (t' := s.toks) (fun b o hb e => eb b o hb e) f0 f1 f3 f4 f5⟩
  self := fun A i s Q E st h => by
    cases b with
    | true => exact wpAny_pyIter_listiter st h
    | false => exact wpAny_pyIter_tupleiter st h
/-- an iterator just laid at the next address -/
theorem pie_sq {X : Cx} {pins : List (Addr × Obj)} {σ : L2.St} {H : Hp} {s : Shared} {tg : Expr} {R : It → Hp → Prop} {E : Value → Shared → Prop} {b : Bool} {a : Addr} {ds : List D} (I : Inv X pins σ H s) (g : SqB X.K H b a ds)
    (q : ∀ J G, WalkD X.K J ds G → G H → R J H) : wpAny (model X.prog X.w) X.A (pyIter (.ref a)) (PIE X pins σ tg R) E s := by
  obtain ⟨xs, its, h2, rv, p, hz⟩ := Inv.sq I g
  refine (begins_sq b a its.toArray).iter _ _ _ _ s _ p ?_
  have fin := fun st => pi_one (tk := s.toks) (R := R) I (itO b a) (turn_sq (tg := tg) b a s.heap.objs.size ds) st (q _ _ walkD_sq g)
  exact fin (IsIt.new (Heap.get?_push_size _ (by cases b <;> rfl)))
/-- over any list or tuple -/
def iSeq (K : PySem.W.Frag) (tl : TE) : TI := fun σ H R => tl σ H fun x H1 => ∃ d ds, Rep K H1 x d ∧ seqF d = some ds ∧ ∀ J G, WalkD K J ds G → G H1 → R J H1
theorem pi_seq {X : Cx} {tg l : Expr} {tl : TE} (hl : PE X l tl) : PI X tg l (iSeq X.K tl) := by
  refine ⟨fun pins s σ H R I h => ?_⟩
  refine thn (hl.run pins s σ H _ I h) fun v s1 ⟨x, H1, I1, r1, d, ds, rp, e, q⟩ => ?_
  obtain ⟨b, a, ex, g⟩ := (seqF_ok rp e).b
  subst ex
  cases r1
  exact pie_sq I1 g q
/-! ### ranges -/
theorem rng_length : ∀ (n : Nat) (lo : Int), (rng lo n).length = n
  | 0, _ => rfl
  | n + 1, lo => by rw [rng, List.length_cons, rng_length n]
theorem rng_get : ∀ (n : Nat) (lo : Int) (i : Nat), i < n → (rng lo n)[i]? = some (.int (lo + i))
  | n + 1, lo, 0, _ => by simp [rng]
  | n + 1, lo, i + 1, h => by
    rw [rng, List.getElem?_cons_succ, rng_get n (lo + 1) i (by omega)]
    congr 2
    omega
theorem walkD_rng {K : PySem.W.Frag} {lo : Int} {n : Nat} : WalkD K (Itr lo n) (rng lo n) (fun _ => True) := by
  refine .mk' (fun i H hi _ => by rw [rng_length] at hi; exact hi) (fun H _ => by rw [rng_length]; exact Nat.le_refl _) (fun i H x H' hi _ y => ?_) fun _ _ _ _ => trivial
  obtain ⟨e, y⟩ := y
  subst e y
  rw [rng_length] at hi
  exact ⟨Same.refl _, _, rng_get n lo i hi, .int _⟩


/-- an iterator's class called, the new thing walked -/
def CalI (X : Cx) (T : String) (tg : Expr) (r : List V → Hp → (L2.It → Hp → Prop) → Prop) : Prop :=
  ∀ (pins : List (Addr × Obj)) (s : Shared) (σ : L2.St) (H : Hp) (vs : List V) (us : List Value) (R : L2.It → Hp → Prop), Inv X pins σ H s → Vals vs us → r vs H R →
    wpAny (model X.prog X.w) X.A (call (.type T) us) (fun v s1 => wpAny (model X.prog X.w) X.A (pyIter v) (PIE X pins σ tg R) X.xe s1) X.xe s
def iCal (r : List V → Hp → (L2.It → Hp → Prop) → Prop) (ta : TA) : TI := fun σ H R => ta σ H fun vs H1 => r vs H1 R
theorem pi_cal {X : Cx} {T : String} {tg : Expr} {x : Str} {r : List V → Hp → (L2.It → Hp → Prop) → Prop} {e : Expr} {es : List Expr} {ta : TA} {p pos : Pos} (hc : CalI X T tg r) (hg : Gl X x) (hm : X.mg x = none) (hv : bootBuiltins x = some (.type T)) (ha : PA X (e :: es) ta) (hn : x ≠ "__name__") (hdb : (x == ("__debug__" : Str)) = false)
    (hs : starEach (e :: es) X.env = (false, eval e X.env) :: starEach es X.env) (hpl : (backTo pos (starEach es X.env)).any (·.1) = false) :
    PI X tg (.Call (.Name x p) (e :: es) [] pos) (iCal r ta) := by
  refine ⟨fun pins s σ H R I h => ?_⟩
  refine Call_ (ld_blt I hg hm hv ?_ hn hdb)
  exact PyProof.Rows.callWith_type1 (thn (ha.run pos pins s σ H _ I h) fun us s1 ⟨vs, H1, I1, r1, q1⟩ => hc pins s1 σ H1 vs us R I1 r1 q1) hs hpl
abbrev rIt (K : PySem.W.Frag) (k : Ik) : List V → Hp → (L2.It → Hp → Prop) → Prop := fun vs H R => ∃ ds xs, RepL K H vs ds ∧ itF k ds = some xs ∧ ∀ J G, WalkD K J xs G → G H → R J H
theorem ci_rng {X : Cx} {tg : Expr} : CalI X "range" tg (rIt X.K .range) := by
  intro pins s σ H vs us R I r ⟨ds, xs, hd, hf, q⟩
  match ds, hd, hf with
  | [.int j], hd, hf =>
    obtain ⟨x, rfl, hx⟩ := repl1 hd
    simp only [itF] at hf
    split at hf
    · rename_i hz
      cases hf
      cases hx
      obtain ⟨u, rfl, t, rfl⟩ := vals1 r
      exact call_range_1 (range_it I (by omega) (by omega) hz.1 hz.2 (by simpa using q _ _ walkD_rng trivial))
    · cases hf
  | [.int i, .int j], hd, hf =>
    obtain ⟨x, y, rfl, hx, hy⟩ := repl2 hd
    simp only [itF] at hf
    split at hf
    · rename_i hz
      cases hf
      cases hx
      cases hy
      obtain ⟨u, u2, rfl, ⟨t, rfl⟩, t2, rfl⟩ := vals2 r
      exact call_range_2 (range_it I hz.1 hz.2.1 hz.2.2.1 hz.2.2.2 (q _ _ walkD_rng trivial))
    · cases hf

/-! ### enumerate -/
set_option maxHeartbeats 4000000 in
theorem meets_enumerate_one {v : Value} {o : Obj} {Hh : Heap → Prop} (B : Begins v o Hh) :
    Meets (Builtin.«enumerate.__new__» ⟨[.type "enumerate", v], []⟩) (fun _ R s => Hh s.heap ∧
      R (.ok (.ret (.ref (s.heap.push o).objs.size))) { s with heap := (s.heap.push o).push { cls := .type "enumerate", data := .fields #[.none, .bool false, .ref s.heap.objs.size, rawInt 0, .none, .none] } }) :=
  .of_wp fun prog w A R s h => by
    obtain ⟨hp, g, d, tk, os⟩ := s
    obtain ⟨h1, h⟩ := h
    have hsub := sub_enumerate
    have q1 : ∀ {A' : Around} {E : Value → Shared → Prop} {Q : Value → Shared → Prop}, Q (.ref hp.objs.size) ⟨hp.push o, g, d, tk, os⟩ → wpAny (model prog w) A' (pyIter v) Q E ⟨hp, g, d, tk, os⟩ :=
      fun q => B.iter prog w _ _ ⟨hp, g, d, tk, os⟩ _ h1 q
    wp_walk using q1
    refine wpAny_stack_any fun st => wpAny_pure ?_
    split
    · rename_i c _ _ _ _ _
      cases (c == Value.type "enumerate")
      · wp_walk using q1
        exact ⟨_, rfl, h⟩
      · wp_walk using q1
        exact ⟨_, rfl, h⟩
    · wp_walk using q1
      exact ⟨_, rfl, h⟩
theorem enum_begins1 {prog : Program} {w : World} {A : Around} {E : Value → Shared → Prop} {s : Shared} {v : Value} {o : Obj} {Hh : Heap → Prop} {Q : Value → Shared → Prop} (B : Begins v o Hh) (h1 : Hh s.heap)
    (h : ∀ h', IsEnum h' (s.heap.objs.size + 1) s.heap.objs.size 0 .none → h'.get? s.heap.objs.size = some o → h'.objs.size = s.heap.objs.size + 2 →
      (∀ b o, s.heap.get? b = some o → h'.get? b = some o) → Q (.ref (s.heap.objs.size + 1)) { s with heap := h' }) :
    wpAny (model prog w) A (call (.type "enumerate") [v]) Q E s := by
  refine callType_new F.called_enumerate (by decide) (F.typeCall_enumerate_1 _) (F.newCall_enumerate_1 _) (fun obj => F.args_object_init_2 obj _) F.entry_enumerate_new
    (meets_enumerate_one B) ⟨h1, ?_⟩
  have hz : (s.heap.push o).objs.size = s.heap.objs.size + 1 := Heap.size_push ..
  show _ ∧ _
  rw [hz]
  have he : IsEnum ((s.heap.push o).push { cls := .type "enumerate", data := .fields #[.none, .bool false, .ref s.heap.objs.size, rawInt 0, .none, .none] }) (s.heap.objs.size + 1) s.heap.objs.size 0 .none := by
    have := Heap.get?_push_size (s.heap.push o) (o := { cls := .type "enumerate", data := .fields #[.none, .bool false, .ref s.heap.objs.size, rawInt 0, .none, .none] }) rfl
    rw [hz] at this
    exact this
  exact ⟨⟨_, he, rfl⟩, h _ he (Heap.get?_push_of_some _ (Heap.get?_push_size _ B.free)) (by rw [Heap.size_push, hz]) fun b o x => Heap.get?_push_of_some _ (Heap.get?_push_of_some _ x)⟩

/-- new tuples of data -/
def YTup (K : PySem.W.Frag) (ds : List D) : Nat → Hp → V → Hp → Prop := fun i H v H' => ∃ T xs es, v = .ref T ∧ H T = none ∧ H' = upd H T (.tup xs) ∧ ds[i]? = some (.tuple es) ∧ RepL K H xs es
theorem walkD_tup {K : PySem.W.Frag} {ds : List D} {G : Hp → Prop} (hk : ∀ H H', FzE H H' → G H → G H') : WalkD K (ItD K ds.length G (YTup K ds)) ds G :=
  .mk' (fun i H hi g => ⟨hi, g⟩) (fun H g => ⟨rfl, g⟩) (fun i H x H' hi g ⟨T, xs, es, e, hT, e2, e3, r⟩ => by
    subst e e2
    exact ⟨same_new hT, _, e3, .tup (.of upd_same) (RepL.mono (samefz (same_new hT)) _ _ r)⟩) hk
theorem enumFrom_length : ∀ (ds : List D) (i : Int), (enumFrom i ds).length = ds.length
  | [], _ => rfl
  | d :: ds, i => by rw [enumFrom, List.length_cons, List.length_cons, enumFrom_length ds]
theorem enumFrom_get : ∀ (ds : List D) (k : Int) (i : Nat) (d : D), ds[i]? = some d → (enumFrom k ds)[i]? = some (.tuple [.int (k + i), d])
  | d :: ds, k, 0, x, h => by
    cases h
    simp [enumFrom]
  | d :: ds, k, i + 1, x, h => by
    rw [enumFrom, List.getElem?_cons_succ, enumFrom_get ds (k + 1) i x (by simpa using h)]
    congr 4
    omega
theorem new_tup {X : Cx} {pins : List (Addr × Obj)} {σ : L2.St} {H : Hp} {s : Shared} {h' : Heap} {tk : Nat} {ch : List Addr} {T : Addr} {xs : List V} {vals : List Value} (I : Inv X pins σ H s) (k : ∀ b o, b ∉ ch → s.heap.get? b = some o → h'.get? b = some o) (hf : ∀ b ∈ ch, FpOk X pins H b)
    (hT : s.heap.objs.size ≤ T) (ht : h'.IsTuple T vals.toArray) (r : Vals xs vals) (hz : xs.length ≤ 8) : Inv X pins σ (upd H T (.tup xs)) { s with heap := h', toks := tk } :=
  I.turnedNew (t' := tk) (ch := ch) k hf hT ⟨by rw [sizeLine_eq]; omega, vals, r, ht⟩
theorem fp_old {X : Cx} {pins : List (Addr × Obj)} {H : Hp} {h : Heap} {T b : Addr} {u : HO} (hb : FpOk X pins H b) (hlt : b < h.objs.size) (hT : h.objs.size ≤ T) : upd H T u b = none := by
  rw [upd_ne (Nat.ne_of_lt (Nat.lt_of_lt_of_le hlt hT))]
  exact hb.1
theorem IsEnum.ne {b : Bool} {h : Heap} {e it it' l : Addr} {c : Int} {old : Value} {i : Nat} (he : IsEnum h e it c old) (x : IsIt b h it' l i) : e ≠ it' := by
  intro q
  subst q
  obtain ⟨o, e1, _, c1⟩ := x.obj
  rw [show h.get? e = some _ from he] at e1
  cases e1
  cases b <;> exact absurd (Value.type.inj c1) (by decide)
theorem IsSq.ne_enum {b : Bool} {h : Heap} {e it l : Addr} {c : Int} {old : Value} {items : Array Value} (x : IsSq b h l items) (he : IsEnum h e it c old) : e ≠ l := by
  intro q
  subst q
  obtain ⟨o, e1, c1⟩ := x.obj
  rw [show h.get? e = some _ from he] at e1
  cases e1
  cases b <;> exact absurd (Value.type.inj c1) (by decide)
theorem turn_en {P : Program} {w : World} {K : PySem.W.Frag} {elts : List Expr} {kk : Nat} {tpos : Pos} (b : Bool) (a e it : Addr) (ds : List D) :
    Turn P w K (.Tuple elts kk tpos) (ItD K (enumFrom 0 ds).length (fun H => SqB K H b a ds) (YTup K (enumFrom 0 ds))) [e, it] e (fun i h => (∃ old, IsEnum h e it (0 + (i : Int)) old) ∧ IsIt b h it a i) where
  mem := by simp
  obj := fun i h st c hc => by
    obtain ⟨⟨old, he⟩, hi⟩ := st
    obtain ⟨o, ho, hd, _⟩ := hi.obj
    have e' : c = e ∨ c = it := by simpa using hc
    rcases e' with z | z
    · rw [z]
      exact ⟨_, he, fun v q => nomatch q⟩
    · rw [z]
      exact ⟨o, ho, hd⟩
  keep := fun i h h' st k => let ⟨⟨old, he⟩, hi⟩ := st; ⟨⟨old, k e (by simp) _ he⟩, hi.keep fun o q => k it (by simp) o q⟩
  item := by
    intro X hP hw hK hc i pins s σ H E I hf st hg
    subst hP hw hK
    obtain ⟨⟨old, he⟩, hit⟩ := st
    obtain ⟨hi, g⟩ := hg
    rw [enumFrom_length] at hi
    obtain ⟨xs, its, h2, rv, p, hz⟩ := Inv.sq I g
    have hel : e < s.heap.objs.size := Heap.lt_size he
    have hil : it < s.heap.objs.size := by
      obtain ⟨_, q, _⟩ := hit.obj
      exact Heap.lt_size q
    have W := GoesN.enumFrom (prog := X.prog) (w := X.w) (A := X.A) (elts := elts) (x1 := kk) (pos := tpos) 0 (draws_sq b (A := X.A.in1) (I.ok.hd hc) it a (p.ne hit) its.toArray) e (IsEnum.ne he hit) (by
      intro q
      have q' : e = it ∨ e = a := by simpa using q
      rcases q' with q' | q'
      · exact IsEnum.ne he hit q'
      · exact p.ne_enum he q') (by simp)
    refine thn (W.goes i s (fun v s2 => ∃ x H', Inv X pins σ H' s2 ∧ RelV x v ∧ YTup X.K (enumFrom 0 ds) i H x H' ∧ ((∃ old, IsEnum s2.heap e it (0 + ((i + 1 : Nat) : Int)) old) ∧ IsIt b s2.heap it a (i + 1)) ∧ ∀ b ∈ [e, it], H' b = none) E (by omega) ⟨⟨old, he⟩, hit, p⟩ fun v h' tk hY st' hk htk => ?_) fun r s1 ⟨v, hr, q⟩ => ⟨v, hr, q⟩
    obtain ⟨T, t, x, ev, hT, hx, hTup⟩ := hY
    subst ev
    obtain ⟨xv, d, rx, e1, r1⟩ := rep_at h2 rv hx
    refine ⟨.ref T, _, new_tup (vals := [.int (0 + (i : Int)) t, x]) (xs := [.int (0 + (i : Int)), xv]) I hk hf hT hTup (.cons ⟨t, rfl⟩ (.cons rx .nil)) (by simp), rfl, ⟨T, _, _, rfl, I.hok.fresh hT, rfl, enumFrom_get ds 0 i d e1, .cons (.int _) (.cons r1 .nil)⟩, ⟨st'.1, st'.2.1⟩, fun c hcm => ?_⟩
    refine fp_old (hf c hcm) ?_ hT
    have e' : c = e ∨ c = it := by simpa using hcm
    rcases e' with q | q
    · rw [q]; exact hel
    · rw [q]; exact hil
  done := by
    intro X hP hw hK hc i pins s σ H E I hf st hg
    subst hP hw hK
    obtain ⟨⟨old, he⟩, hit⟩ := st
    obtain ⟨hi, g⟩ := hg
    rw [enumFrom_length] at hi
    obtain ⟨xs, its, h2, rv, p, hz⟩ := Inv.sq I g
    have D := draws_sq b (prog := X.prog) (w := X.w) (A := X.A.in1) (I.ok.hd hc) it a (p.ne hit) its.toArray
    have ei : its.toArray.size = i := by omega
    obtain ⟨f0, f1, f2, f3, f4, f5⟩ := hf it (by simp)
    exact wpAny_pyNext_enum_endD D he (by rw [ei]; exact ⟨hit, p⟩) fun h' eb => ⟨rfl, I.turned (t' := s.toks) (fun b o hb q => eb b o hb q) f0 f1 f3 f4 f5⟩
  self := fun A i s Q E st h => let ⟨⟨_, he⟩, _⟩ := st; wpAny_pyIter_enum he h
theorem ci_enum {X : Cx} {elts : List Expr} {kk : Nat} {tpos : Pos} : CalI X "enumerate" (.Tuple elts kk tpos) (rIt X.K .enum) := by
  intro pins s σ H vs us R I r ⟨ds, xs, hd, hf, q⟩
  match ds, hd, hf with
  | [d], hd, hf =>
    obtain ⟨x, rfl, hx⟩ := repl1 hd
    obtain ⟨es, e1, e2⟩ := Option.map_eq_some_iff.mp (show (seqF d).map (enumFrom 0) = some xs from hf)
    subst e2
    obtain ⟨b, a, ex, g⟩ := (seqF_ok hx e1).b
    subst ex
    obtain ⟨u, rfl, ru⟩ := vals1 r
    cases ru
    obtain ⟨xs, its, h2, rv, p, hz⟩ := Inv.sq I g
    refine enum_begins1 (begins_sq b a its.toArray) p fun h' he hit hsz hk => wpAny_pyIter_enum he ?_
    have I2 : Inv X pins σ H { s with heap := h' } := I.kept (t' := s.toks) hk
    refine ⟨s.heap.objs.size + 1, [s.heap.objs.size + 1, s.heap.objs.size], _, _, H, rfl, I2, turn_en b a (s.heap.objs.size + 1) s.heap.objs.size es, ⟨⟨.none, by simpa using he⟩, IsIt.new hit⟩, fun b hb => ?_, q _ _ (walkD_tup fun _ _ e g => SqB.keep e g) g⟩
    have e' : b = s.heap.objs.size + 1 ∨ b = s.heap.objs.size := by simpa using hb
    have hle : s.heap.objs.size ≤ b := by
      rcases e' with z | z
      · rw [z]; exact Nat.le_add_right _ _
      · rw [z]; exact Nat.le_refl _
    exact I.fpOk hle (I.hok.fresh hle)

/-! ### zip of two -/
theorem zip2_length (ds es : List D) : (zipAll [ds, es]).length = min ds.length es.length := by simp [zipAll]
theorem zip2_get {ds es : List D} {i : Nat} {d e : D} (h1 : ds[i]? = some d) (h2 : es[i]? = some e) : (zipAll [ds, es])[i]? = some [d, e] := by
  simp [zipAll, List.getElem?_zipWith, h1, h2]
def G2 (K : PySem.W.Frag) (b1 b2 : Bool) (a1 a2 : Addr) (ds es : List D) : Hp → Prop := fun H => SqB K H b1 a1 ds ∧ SqB K H b2 a2 es
theorem turn_z2 {P : Program} {w : World} {K : PySem.W.Frag} {elts : List Expr} {kk : Nat} {tpos : Pos} (b1 b2 : Bool) {a1 a2 z TI TO i1 i2 : Addr} (S : ZipSep2 z TI TO i1 i2 [i1, a1] [i2, a2]) (ds es : List D) :
    Turn P w K (.Tuple elts kk tpos) (ItD K ((zipAll [ds, es]).map PyData.tuple).length (G2 K b1 b2 a1 a2 ds es) (YTup K ((zipAll [ds, es]).map PyData.tuple))) [z, TI, TO, i1, i2] z
      (fun i h => IsZip h z TI TO .none ∧ IsTupOf2 h TI (.ref i1) (.ref i2) ∧ (∃ x y, IsTupOf2 h TO x y) ∧ IsIt b1 h i1 a1 i ∧ IsIt b2 h i2 a2 i) where
  mem := by simp
  obj := fun i h st c hc => by
    obtain ⟨hz, hTI, ⟨x, y, hTO⟩, h1, h2⟩ := st
    obtain ⟨o1, e1, d1, _⟩ := h1.obj
    obtain ⟨o2, e2, d2, _⟩ := h2.obj
    have e' : c = z ∨ c = TI ∨ c = TO ∨ c = i1 ∨ c = i2 := by simpa using hc
    rcases e' with q | q | q | q | q
    · rw [q]; exact ⟨_, hz, fun v q => nomatch q⟩
    · rw [q]; exact ⟨_, hTI, fun v q => nomatch q⟩
    · rw [q]; exact ⟨_, hTO, fun v q => nomatch q⟩
    · rw [q]; exact ⟨o1, e1, d1⟩
    · rw [q]; exact ⟨o2, e2, d2⟩
  keep := fun i h h' st k => by
    obtain ⟨hz, hTI, ⟨x, y, hTO⟩, h1, h2⟩ := st
    exact ⟨k z (by simp) _ hz, k TI (by simp) _ hTI, ⟨x, y, k TO (by simp) _ hTO⟩, h1.keep fun o q => k i1 (by simp) o q, h2.keep fun o q => k i2 (by simp) o q⟩
  item := by
    intro X hP hw hK hc i pins s σ H E I hf st hg
    subst hP hw hK
    obtain ⟨hz, hTI, ⟨x0, y0, hTO⟩, h1, h2⟩ := st
    obtain ⟨hi, g1, g2⟩ := hg
    rw [List.length_map, zip2_length] at hi
    obtain ⟨xs, its, r1, rv, p, hn1⟩ := Inv.sq I g1
    obtain ⟨ys, its2, r2, rv2, p2, hn2⟩ := Inv.sq I g2
    have W := GoesN.zip2 (prog := X.prog) (w := X.w) (A := X.A) (elts := elts) (x1 := kk) (pos := tpos) S (draws_sq b1 (A := X.A.in1) (I.ok.hd hc) i1 a1 (p.ne h1) its.toArray) (draws_sq b2 (A := X.A.in1) (I.ok.hd hc) i2 a2 (p2.ne h2) its2.toArray)
    refine thn (W.goes i s (fun v s2 => ∃ x H', Inv X pins σ H' s2 ∧ RelV x v ∧ YTup X.K ((zipAll [ds, es]).map PyData.tuple) i H x H' ∧ (IsZip s2.heap z TI TO .none ∧ IsTupOf2 s2.heap TI (.ref i1) (.ref i2) ∧ (∃ x y, IsTupOf2 s2.heap TO x y) ∧ IsIt b1 s2.heap i1 a1 (i + 1) ∧ IsIt b2 s2.heap i2 a2 (i + 1)) ∧ ∀ b ∈ [z, TI, TO, i1, i2], H' b = none) E (by rw [hn1, hn2]; exact hi) ⟨hz, hTI, ⟨x0, y0, hTO⟩, ⟨h1, p⟩, h2, p2⟩ fun v h' tk hY st' hk htk => ?_) fun r s1 ⟨v, hr, q⟩ => ⟨v, hr, q⟩
    obtain ⟨T, x, y, ev, hT, hx, hy, hTup⟩ := hY
    subst ev
    obtain ⟨xv, d, rx, e1, q1⟩ := rep_at r1 rv hx
    obtain ⟨yv, e, ry, e2, q2⟩ := rep_at r2 rv2 hy
    have hk' : ∀ b o, b ∉ [z, TI, TO, i1, i2] → s.heap.get? b = some o → h'.get? b = some o := fun b o hb q => hk b o (fun hm => hb (by
      have e' : b = z ∨ b = TO ∨ b = i1 ∨ b = i2 := by simpa using hm
      rcases e' with q | q | q | q <;> simp [q])) q
    refine ⟨.ref T, _, new_tup (vals := [x, y]) (xs := [xv, yv]) I hk' hf hT hTup (.cons rx (.cons ry .nil)) (by simp), rfl, ⟨T, _, [d, e], rfl, I.hok.fresh hT, rfl, ?_, .cons q1 (.cons q2 .nil)⟩, ⟨st'.1, st'.2.1, st'.2.2.1, st'.2.2.2.1.1, st'.2.2.2.2.1⟩, fun c hcm => ?_⟩
    · rw [List.getElem?_map, zip2_get e1 e2]
      rfl
    · refine fp_old (hf c hcm) ?_ hT
      have e' : c = z ∨ c = TI ∨ c = TO ∨ c = i1 ∨ c = i2 := by simpa using hcm
      rcases e' with q | q | q | q | q
      · rw [q]; exact Heap.lt_size hz
      · rw [q]; exact Heap.lt_size hTI
      · rw [q]; exact Heap.lt_size hTO
      · rw [q]; obtain ⟨_, e1, _⟩ := h1.obj; exact Heap.lt_size e1
      · rw [q]; obtain ⟨_, e2, _⟩ := h2.obj; exact Heap.lt_size e2
  done := by
    intro X hP hw hK hc i pins s σ H E I hf st hg
    subst hP hw hK
    obtain ⟨hz, hTI, ⟨x0, y0, hTO⟩, h1, h2⟩ := st
    obtain ⟨hi, g1, g2⟩ := hg
    rw [List.length_map, zip2_length] at hi
    obtain ⟨xs, its, r1, rv, p, hn1⟩ := Inv.sq I g1
    obtain ⟨ys, its2, r2, rv2, p2, hn2⟩ := Inv.sq I g2
    refine wpAny_pyNext_zipD2_end (i := i) S (draws_sq b1 (A := X.A.in1) (I.ok.hd hc) i1 a1 (p.ne h1) its.toArray) (draws_sq b2 (A := X.A.in1) (I.ok.hd hc) i2 a2 (p2.ne h2) its2.toArray) hz hTI hTO ⟨h1, p⟩ ⟨h2, p2⟩ (by omega) (by omega) (by omega) fun h' tk hk => ⟨rfl, I.turnedL (t' := tk) (ch := [z, TI, TO, i1, i2]) (fun c o hb q =>
      hk c o (fun q' => hb (by simp [q'])) (fun q' => hb (by simp [q'])) (fun q' => hb (by simp [q'])) (fun q' => hb (by simp [q'])) q) hf⟩
  self := fun A i s Q E st h => wpAny_pyIter_zip st.1 h
theorem seqsF_two {ds : List D} {l : List (List D)} {d e : D} (h : seqsF [d, e] = some l) : ∃ xs ys, seqF d = some xs ∧ seqF e = some ys ∧ l = [xs, ys] := by
  obtain ⟨xs, h1, h2⟩ := Option.bind_eq_some_iff.mp (show (seqF d).bind (fun xs => (seqsF [e]).map (xs :: ·)) = some l from h)
  obtain ⟨l2, h3, rfl⟩ := Option.map_eq_some_iff.mp h2
  obtain ⟨ys, h4, h5⟩ := Option.bind_eq_some_iff.mp (show (seqF e).bind (fun xs => (seqsF []).map (xs :: ·)) = some l2 from h3)
  obtain ⟨l3, h6, rfl⟩ := Option.map_eq_some_iff.mp h5
  cases h6
  exact ⟨xs, ys, h1, h4, rfl⟩
theorem SqB.lt {X : Cx} {pins : List (Addr × Obj)} {σ : L2.St} {H : Hp} {s : Shared} (I : Inv X pins σ H s) {b : Bool} {a : Addr} {ds : List D} (h : SqB X.K H b a ds) : a < s.heap.objs.size := by
  obtain ⟨xs, its, r1, rv, p, _⟩ := Inv.sq I h
  obtain ⟨o, e, _⟩ := p.obj
  exact Heap.lt_size e
theorem ci_zip2 {X : Cx} {elts : List Expr} {kk : Nat} {tpos : Pos} : CalI X "zip" (.Tuple elts kk tpos) (fun vs H R => vs.length = 2 ∧ rIt X.K .zip vs H R) := by
  intro pins s σ H vs us R I r ⟨hl, ds, xs, hd, hf, q⟩
  match ds, hd, hf with
  | [], hd, hf => cases hd; cases hl
  | [_], hd, hf =>
    obtain ⟨x, rfl, _⟩ := repl1 hd
    cases hl
  | _ :: _ :: _ :: _, hd, hf =>
    have := hd.length
    simp at this
    omega
  | [d, e], hd, hf =>
    obtain ⟨x, y, rfl, hx, hy⟩ := repl2 hd
    obtain ⟨l, e1, e2⟩ := Option.map_eq_some_iff.mp (show (seqsF [d, e]).map (fun l => (zipAll l).map PyData.tuple) = some xs from hf)
    subst e2
    obtain ⟨us1, us2, e3, e4, rfl⟩ := seqsF_two (ds := []) e1
    obtain ⟨b1, a1, ex, g1⟩ := (seqF_ok hx e3).b
    obtain ⟨b2, a2, ey, g2⟩ := (seqF_ok hy e4).b
    subst ex ey
    obtain ⟨u, u2, rfl, ru, ru2⟩ := vals2 r
    cases ru
    cases ru2
    obtain ⟨xs, its, r1, rv, p, hn1⟩ := Inv.sq I g1
    obtain ⟨ys, its2, r2, rv2, p2, hn2⟩ := Inv.sq I g2
    have l1 := SqB.lt I g1
    have l2 := SqB.lt I g2
    refine zip_begins2 (begins_sq b1 a1 its.toArray) (begins_sq b2 a2 its2.toArray) p p2 fun h' hz hTI hTO h1 h2 hsz hk => wpAny_pyIter_zip hz ?_
    have I2 : Inv X pins σ H { s with heap := h' } := I.kept (t' := s.toks) hk
    refine ⟨s.heap.objs.size + 4, [s.heap.objs.size + 4, s.heap.objs.size + 2, s.heap.objs.size + 3, s.heap.objs.size, s.heap.objs.size + 1], _, _, H, rfl, I2,
      turn_z2 b1 b2 (zip_sep2 (fp1 := [a1]) (fp2 := [a2]) (fun b hb => by rw [List.mem_singleton.mp hb]; exact l1) (fun b hb => by rw [List.mem_singleton.mp hb]; exact l2)) us1 us2,
      ⟨hz, hTI, ⟨_, _, hTO⟩, IsIt.new h1, IsIt.new h2⟩, fun c hcm => ?_, q _ _ (walkD_tup fun _ _ e g => ⟨SqB.keep e g.1, SqB.keep e g.2⟩) ⟨g1, g2⟩⟩
    have e' : c = s.heap.objs.size + 4 ∨ c = s.heap.objs.size + 2 ∨ c = s.heap.objs.size + 3 ∨ c = s.heap.objs.size ∨ c = s.heap.objs.size + 1 := by simpa using hcm
    have hle : s.heap.objs.size ≤ c := by
      rcases e' with z | z | z | z | z
      · rw [z]; exact Nat.le_add_right _ _
      · rw [z]; exact Nat.le_add_right _ _
      · rw [z]; exact Nat.le_add_right _ _
      · rw [z]; exact Nat.le_refl _
      · rw [z]; exact Nat.le_add_right _ _
    exact I.fpOk hle (I.hok.fresh hle)
end PF
end
section
set_option Elab.async false
set_option linter.all false
set_option maxRecDepth 100000
set_option maxHeartbeats 2000000
/-! PFs: sets of nested keys (whole numbers, None, tuples of these). The roads of HandS.TupSets, turned to these keys by a program. -/
namespace PFS
open PySem PySem.Spec PyProof.Rows L2
mutual
/-- no text within -/
def numK : NestedKey → Bool
  | .none => true
  | .num _ => true
  | .text _ => false
  | .tup ks => numAll ks
def numAll : List NestedKey → Bool
  | [] => true
  | k :: ks => numK k && numAll ks
end
/-- the tuple at a is the key k -/
def IsN (h : Heap) (k : NestedKey) (a : Addr) : Prop := NestedIs h k (.ref a) ∧ k.depth ≤ 8 ∧ numK k = true
abbrev nh (w : World) (k : NestedKey) : Int := k.hash w
section
variable {P : Program} {w : World} {A : Around} {E : Value → Shared → Prop} {s : Shared}
theorem eqb_n {x y : NestedKey} {b c : Addr} {Q : Bool → Shared → Prop} (hu : A.units + 16 < cLine) (hx : IsN s.heap x b) (hy : IsN s.heap y c) (h : Q (decide (x = y)) s) : wpAny (model P w) A (eqBool (.ref b) (.ref c)) Q E s :=
  (eqAt_key x y A s _ _ hx.1 hy.1 (by have := hx.2.1; omega) _ _ _ _ (by rw [← NestedKey.decide_eq]; exact h))
theorem hash_n {x : NestedKey} {b : Addr} {Q : Int → Shared → Prop} (hu : A.units + 16 < cLine) (hx : IsN s.heap x b) (h : Q (nh w x) { s with toks := s.toks + x.draws }) : wpAny (model P w) A (pyHash (.ref b)) Q E s :=
  pyHash_key x _ A s Q hx.1 (by have := hx.2.1; omega) h
theorem quiet_n {x : NestedKey} {b : Addr} {Q : Bool → Shared → Prop} (hx : IsN s.heap x b) (h : Q true s) : wpAny (model P w) A (eqIsQuiet 8 (.ref b)) Q E s :=
  quiet_key x _ 8 s hx.1 hx.2.1 A E Q h
/-- asked of a value alone, n levels down -/
abbrev OfC (P : Program) (w : World) (n : Nat) (s : Shared) (v : Value) : Prop := ∀ (A : Around) (E : Value → Shared → Prop) (Q : Bool → Shared → Prop), Q false s → wpAny (model P w) A (ofAClassStatement n v) Q E s
abbrev HsB (P : Program) (w : World) (n : Nat) (s : Shared) (v : Value) : Prop := ∀ (A : Around) (E : Value → Shared → Prop) (Q : Bool → Shared → Prop), Q true s → wpAny (model P w) A (hashByValue n v) Q E s
theorem ofC_tuple {n m : Nat} {a : Addr} {o : Obj} {vs : Array Value} (ho : s.heap.get? a = some o) (hc : o.cls = .type "tuple") (hd : o.data = .seq vs m) (hq : ∀ v ∈ vs.toList, OfC P w n s v) : OfC P w (n + 1) s (.ref a) := fun A E Q h => by
  have hT : s.TypeIs (.ref a) "tuple" := ⟨o, ho, hc⟩
  unfold ofAClassStatement
  refine wpAny_bind (wpAny_typeOf hT ?_)
  dsimp only
  have e : (("tuple" : String) == "tuple") = true := by decide
  simp only [e, if_true, Bool.not_true, Bool.false_eq_true, if_false]
  try refine wpAny_bind (wpAny_pure ?_)
  try simp only [Bool.not_true, Bool.false_eq_true, if_false]
  show wpAny _ _ (seqItems? (.ref a) >>= _) _ _ s
  refine wpAny_bind (wpAny_seqItems ho hd ?_)
  dsimp only
  refine wpAny_bind ?_
  show wpAny _ _ (forIn vs _ _) _ _ s
  rw [← Array.forIn_toList]
  refine wpAny_forIn_list _ (fun rest r s' => r.1 = none ∧ s' = s ∧ ∀ v ∈ rest, OfC P w n s v) _ ?_ ?_ _ _ ⟨rfl, rfl, hq⟩
  · rintro v rest r s' ⟨hr, rfl, hall⟩
    refine wpAny_bind (hall v List.mem_cons_self _ _ _ ?_)
    simp only [Bool.false_eq_true, if_false]
    exact wpAny_pure ⟨rfl, rfl, fun u hu' => hall u (List.mem_cons_of_mem _ hu')⟩
  · rintro ⟨r1, r2⟩ s' ⟨hr, rfl, _⟩
    simp only at hr
    subst hr
    exact wpAny_pure h
theorem hsB_tuple {n m : Nat} {a : Addr} {o : Obj} {vs : Array Value} (ho : s.heap.get? a = some o) (hc : o.cls = .type "tuple") (hd : o.data = .seq vs m) (hq : ∀ v ∈ vs.toList, HsB P w n s v) : HsB P w (n + 1) s (.ref a) := fun A E Q h => by
  have hT : s.TypeIs (.ref a) "tuple" := ⟨o, ho, hc⟩
  unfold hashByValue
  refine wpAny_bind (wpAny_specialOf hT F.slot_tuple_hash.lookup ?_)
  show wpAny _ _ (seqItems? (.ref a) >>= _) _ _ s
  refine wpAny_bind (wpAny_seqItems ho hd ?_)
  refine wpAny_bind ?_
  show wpAny _ _ (forIn vs _ _) _ _ s
  rw [← Array.forIn_toList]
  refine wpAny_forIn_list _ (fun rest r s' => r.1 = none ∧ s' = s ∧ ∀ v ∈ rest, HsB P w n s v) _ ?_ ?_ _ _ ⟨rfl, rfl, hq⟩
  · rintro v rest r s' ⟨hr, rfl, hall⟩
    refine wpAny_bind (hall v List.mem_cons_self _ _ _ ?_)
    simp only [Bool.not_true, Bool.false_eq_true, if_false]
    exact wpAny_pure ⟨rfl, rfl, fun u hu' => hall u (List.mem_cons_of_mem _ hu')⟩
  · rintro ⟨r1, r2⟩ s' ⟨hr, rfl, _⟩
    simp only at hr
    subst hr
    exact wpAny_pure h
mutual
theorem ofC_key : ∀ (k : NestedKey) (v : Value) (n : Nat) (s : Shared), NestedIs s.heap k v → k.depth ≤ n → OfC P w n s v
  | .none, _, n, s, x, _ => by cases x; intro A E Q h; cases n <;> exact wpAny_pure h
  | .num i, _, n, s, x, _ => by cases x <;> intro A E Q h <;> cases n <;> exact wpAny_pure h
  | .text y, _, n, s, x, _ => by cases x; intro A E Q h; cases n <;> exact wpAny_pure h
  | .tup ks, _, n, s, x, hn => by
    cases x with
    | tup hg hc hd hk =>
      simp only [NestedKey.depth] at hn
      cases n with
      | zero => omega
      | succ n => exact ofC_tuple hg hc hd (ofC_keys ks _ n s hk (by omega))
theorem ofC_keys : ∀ (ks : List NestedKey) (vs : List Value) (n : Nat) (s : Shared), NestedAll s.heap ks vs → NestedKey.depthAll ks ≤ n → ∀ v ∈ vs, OfC P w n s v
  | [], _, n, s, x, _, v, hv => by cases x; cases hv
  | k :: ks, _, n, s, x, hn, v, hv => by
    cases x with
    | cons x1 x2 =>
      simp only [NestedKey.depthAll] at hn
      rcases List.mem_cons.mp hv with e | hv
      · rw [e]; exact ofC_key k _ n s x1 (by omega)
      · exact ofC_keys ks _ n s x2 (by omega) v hv
end
mutual
theorem hsB_key : ∀ (k : NestedKey) (v : Value) (n : Nat) (s : Shared), NestedIs s.heap k v → k.depth ≤ n → numK k = true → HsB P w n s v
  | .none, _, n, s, x, _, _ => by cases x; intro A E Q h; cases n <;> exact wpAny_pure h
  | .num i, _, n, s, x, _, _ => by cases x <;> intro A E Q h <;> cases n <;> exact wpAny_pure h
  | .text y, _, n, s, x, _, z => by cases z
  | .tup ks, _, n, s, x, hn, z => by
    cases x with
    | tup hg hc hd hk =>
      simp only [NestedKey.depth] at hn
      cases n with
      | zero => omega
      | succ n => exact hsB_tuple hg hc hd (hsB_keys ks _ n s hk (by omega) z)
theorem hsB_keys : ∀ (ks : List NestedKey) (vs : List Value) (n : Nat) (s : Shared), NestedAll s.heap ks vs → NestedKey.depthAll ks ≤ n → numAll ks = true → ∀ v ∈ vs, HsB P w n s v
  | [], _, n, s, x, _, _, v, hv => by cases x; cases hv
  | k :: ks, _, n, s, x, hn, z, v, hv => by
    cases x with
    | cons x1 x2 =>
      simp only [NestedKey.depthAll] at hn
      have z' : (numK k && numAll ks) = true := z
      simp only [Bool.and_eq_true] at z'
      rcases List.mem_cons.mp hv with e | hv
      · rw [e]; exact hsB_key k _ n s x1 (by omega) z'.1
      · exact hsB_keys ks _ n s x2 (by omega) z'.2 v hv
end
theorem ofAClass_n {x : NestedKey} {b : Addr} {Q : Bool → Shared → Prop} (hx : IsN s.heap x b) (h : Q false s) : wpAny (model P w) A (ofAClassStatement 8 (.ref b)) Q E s := ofC_key x _ 8 s hx.1 hx.2.1 A E Q h
theorem hashBy_n {x : NestedKey} {b : Addr} {Q : Bool → Shared → Prop} (hx : IsN s.heap x b) (h : Q true s) : wpAny (model P w) A (hashByValue 8 (.ref b)) Q E s := hsB_key x _ 8 s hx.1 hx.2.1 hx.2.2 A E Q h
theorem IsN.inj {h : Heap} {x y : NestedKey} {b : Addr} (hx : IsN h x b) (hy : IsN h y b) : x = y := NestedIs.inj _ _ _ hx.1 hy.1
end
end PFS
namespace PFS
open PySem PySem.Spec PyProof.Rows L2
abbrev set0 (w : World) : Obj := { cls := .type "set", dict := none, data := .set #[] 0 (.fresh 0 0 (!w.params.followText "set-order")) }
/-! ### the model's words, opened -/
/-- behind a candidate (the model's text from «let some (_, y)» on) -/
def searchRest (a : Addr) (x : Value) (h : Int) (adding : Bool) (fuel : Nat) (es : Array (Int × Value)) (t : SetTable) (j i : Nat) (next : SetTable.Probe) : Sem SetFound := do
  let some (_, y) := es[i]? | unsupported "internal:set-entry"
  let equal ← holding [y] (eqBool y x)
  let (es', _, t') ← setState a
  if adding && equal then return .there none
  let some same := t'.sameMemory t.moves t.mask | unsupported "set.changed-during-lookup:is-the-new-block-at-the-old-address"
  let still ← match (if same then t'.slot j else .empty) with
    | .live i' => match es'[i']? with
      | some (_, y') => do pure (if ← isSame y' y then some i' else none)
      | none => pure none
    | _ => pure none
  match still with
  | none => rule "set.search.anew"; setSearchFrom a x h adding fuel none
  | some i' => if equal then return .there (some i') else setSearchFrom a x h adding fuel (some next)
theorem setSearchFrom_succ (a : Addr) (x : Value) (h : Int) (adding : Bool) (fuel : Nat) (stand : Option SetTable.Probe) : setSearchFrom a x h adding (fuel + 1) stand = (do
    let (es, _, t) ← setState a
    if t.gaveWay then unsupported "set:on-a-table-that-gave-way"
    let some met := t.probe (fun i => (es[i]?.map (·.1)).getD 0) h (stand.getD (t.probeStart h)) | unsupported "internal:set-table-without-an-empty-slot"
    match met with
    | .empty j dummy =>
      match dummy with
      | none => return .free j false
      | some d =>
        if adding && t.slot d != .dummy then rule "set.search.the-dummy-was-taken"; return ← setSearchFrom a x h adding fuel none
        return .free d true
    | .candidate j i next =>
      if !t.led then
        if ← searchCouldBeSeen x ((es.filter (·.1 == h)).toList.map (·.2)) then unsupported "set:the-search-would-show-the-table"
      searchRest a x h adding fuel es t j i next) := by rfl

section
variable {P : Program} {w : World} {A : Around} {E : Value → Shared → Prop} {s : Shared}

/-- a search among tuples shows nothing -/
theorem seen_n {k : NestedKey} {b : Addr} {Q : Bool → Shared → Prop} (hk : IsN s.heap k b) {ys : List Value} (hy : ∀ y ∈ ys, ∃ k' c, y = Value.ref c ∧ IsN s.heap k' c) (h : Q false s) :
    wpAny (model P w) A (searchCouldBeSeen (.ref b) ys) Q E s := by
  unfold searchCouldBeSeen
  refine wpAny_bind ?_
  refine wpAny_forIn_list _ (fun rest r s' => r.1 = none ∧ s' = s ∧ ∀ y ∈ rest, ∃ k' c, y = Value.ref c ∧ IsN s.heap k' c) _ ?_ ?_ _ _ ⟨rfl, rfl, hy⟩
  · rintro v rest r s' ⟨hr, rfl, hall⟩
    obtain ⟨k', c, rfl, hc⟩ := hall v List.mem_cons_self
    have rest' : ∀ y ∈ rest, ∃ k' c, y = Value.ref c ∧ IsN s'.heap k' c := fun u hu' => hall u (List.mem_cons_of_mem _ hu')
    dsimp only
    by_cases hv : (b == c || (carriedByValue (.ref b) && carriedByValue (.ref c))) = true
    · refine wp_if_pos hv ?_
      exact wpAny_pure ⟨rfl, rfl, rest'⟩
    · refine wp_if_neg hv ?_
      refine wpAny_bind (quiet_n hk ?_)
      simp only [Bool.not_true, Bool.false_eq_true, if_false]
      refine wpAny_bind (quiet_n hc ?_)
      simp only [Bool.not_true, Bool.false_eq_true, if_false]
      refine wpAny_bind (ofAClass_n hk ?_)
      simp only [Bool.false_eq_true, if_false]
      refine wpAny_bind (ofAClass_n hc ?_)
      simp only [Bool.false_eq_true, if_false]
      exact wpAny_pure ⟨rfl, rfl, rest'⟩
  · rintro ⟨r1, r2⟩ s' ⟨hr, rfl, _⟩
    simp only at hr
    subst hr
    exact wpAny_pure h

/-! ### the set of tuples -/
def rowsN (w : World) (L : List (Addr × NestedKey)) : List (Int × Value) := L.map fun p => (nh w p.2, Value.ref p.1)
structure SetN (w : World) (h : Heap) (a : Addr) (L : List (Addr × NestedKey)) (es : Array (Int × Value)) (ep : Nat) (t : SetTable) : Prop where
  ob : ∃ o, h.get? a = some o ∧ o.ExactSet ∧ o.data = .set es ep t
  rows : es.toList = rowsN w L
  tab : TabOk t (L.map fun p => nh w p.2)
  nd : (L.map (·.2)).Nodup
  tup : ∀ p ∈ L, IsN h p.2 p.1
  plain : t.plain = true
  led : w.params.followText "set-order" = true ∨ t.led = true
  room : L.length * 5 < t.mask * 3
  few : L.length < 64
variable {a : Addr} {L : List (Addr × NestedKey)} {es : Array (Int × Value)} {ep : Nat} {t : SetTable}
theorem SetN.size (R : SetN w s.heap a L es ep t) : es.size = L.length := by
  have h := congrArg List.length R.rows
  unfold rowsN at h
  rw [Array.length_toList, List.length_map] at h
  exact h
theorem SetN.fits (R : SetN w s.heap a L es ep t) : t.fits es.size = true := by
  have h1 := R.tab.sz
  rw [List.length_map] at h1
  have h2 := R.size
  have h3 := R.room
  unfold SetTable.fits SetTable.fill
  rw [R.tab.dm, Bool.and_eq_true, beq_iff_eq, decide_eq_true_eq]
  show t.place.size = es.size ∧ t.place.size + 0 ≤ t.mask
  omega
theorem SetN.entry (R : SetN w s.heap a L es ep t) {i : Nat} {p : Addr × NestedKey} (h : L[i]? = some p) : es[i]? = some (nh w p.2, Value.ref p.1) := by
  rw [← Array.getElem?_toList, R.rows]
  unfold rowsN
  rw [List.getElem?_map, h] <;> rfl
theorem SetN.gw (R : SetN w s.heap a L es ep t) : ¬ t.gaveWay = true := by
  unfold SetTable.gaveWay
  rw [mask_odd R.tab.mok]
  decide
theorem sameMem (t : SetTable) : t.sameMemory t.moves t.mask = some true := by
  unfold SetTable.sameMemory
  rw [if_pos (beq_self_eq_true _)]

/-- THE SEARCH: from the c-th step of the way on -/
theorem search_from (R : SetN w s.heap a L es ep t) {x : Addr} {k : NestedKey} (hx : IsN s.heap k x) (hu : A.units + 16 < cLine) {K : Nat} (hKf : K < 10 * SetTable.turns t.mask)
    (hK : way t.mask (nh w k) K ∉ t.place.toList) (hKb : ∀ c, c < K → way t.mask (nh w k) c ∈ t.place.toList) {Q : SetFound → Shared → Prop}
    (hin : k ∈ L.map (·.2) → Q (.there none) s) (hout : k ∉ L.map (·.2) → Q (.free (way t.mask (nh w k) K) false) s) :
    ∀ (f c : Nat) (stand : Option SetTable.Probe), stand.getD (t.probeStart (nh w k)) = nth t.mask (runAt t.mask (SetTable.bits (nh w k) % (t.mask + 1)) (SetTable.bits (nh w k))) c → c ≤ K → K - c < f →
      (∀ (i : Nat) p, L[i]? = some p → p.2 = k → ∃ c', c ≤ c' ∧ c' < K ∧ t.place.toList[i]? = some (way t.mask (nh w k) c')) →
      wpAny (model P w) A (setSearchFrom a (.ref x) (nh w k) true f stand) Q E s
  | 0, c, stand, _, _, hf, _ => absurd hf (Nat.not_lt_zero _)
  | f + 1, c, stand, hst, hc, hf, hre => by
    obtain ⟨o, ho, hex, hd⟩ := R.ob
    rw [setSearchFrom_succ]
    refine wpAny_bind (wpAny_setState_of ho hd R.fits ?_)
    dsimp only
    refine wp_if_neg R.gw ?_
    try refine wpAny_bind (wpAny_pure ?_)
    have hnd : (nth t.mask (runAt t.mask (SetTable.bits (nh w k) % (t.mask + 1)) (SetTable.bits (nh w k))) c).dummy = none := by
      have key : ∀ (n : Nat) (p : SetTable.Probe), p.dummy = none → (nth t.mask p n).dummy = none := by
        intro n
        induction n with
        | zero => intro p h; exact h
        | succ n ih =>
          intro p h
          refine ih (adv t.mask p) ?_
          unfold adv
          split <;> exact h
      exact key c _ rfl
    have sh : ∀ q, nth t.mask (nth t.mask (runAt t.mask (SetTable.bits (nh w k) % (t.mask + 1)) (SetTable.bits (nh w k))) c) q = nth t.mask (runAt t.mask (SetTable.bits (nh w k) % (t.mask + 1)) (SetTable.bits (nh w k))) (c + q) := fun q => (nth_add t.mask c _ q).symm
    have e1 : ∀ q, (nth t.mask (nth t.mask (runAt t.mask (SetTable.bits (nh w k) % (t.mask + 1)) (SetTable.bits (nh w k))) c) q).j = way t.mask (nh w k) (c + q) := fun q => congrArg SetTable.Probe.j (sh q)
    have spec := go_spec t R.tab.ris R.tab.dm (fun i => (es[i]?.map (·.1)).getD 0) (nh w k) (10 * SetTable.turns t.mask) (K - c) _ hnd (by omega)
      (fun q hq => by rw [e1]; exact hKb (c + q) (by omega)) (by rw [e1, show c + (K - c) = K by omega]; exact hK)
    have hashAt : ∀ (i : Nat) p, L[i]? = some p → (fun i => (es[i]?.map (·.1)).getD 0) i = nh w p.2 := fun i p hp => by
      show (es[i]?.map (·.1)).getD 0 = _
      rw [R.entry hp] <;> rfl
    rcases spec with ⟨q, i, hq, hi, hh, hno, hpb⟩ | ⟨hno, hpb⟩
    · -- a candidate
      have hpb' : t.probe (fun i => (es[i]?.map (·.1)).getD 0) (nh w k) (stand.getD (t.probeStart (nh w k))) = some (.candidate (way t.mask (nh w k) (c + q)) i (nth t.mask (runAt t.mask (SetTable.bits (nh w k) % (t.mask + 1)) (SetTable.bits (nh w k))) (c + (q + 1)))) := by
        rw [hst, ← e1, ← sh]
        exact hpb
      rw [hpb']
      dsimp only
      rw [e1] at hi
      -- the entry
      have hil : i < L.length := by
        have h1 : i < t.place.toList.length := (List.getElem?_eq_some_iff.mp hi).1
        have h2 := R.tab.sz
        rw [List.length_map] at h2
        rw [Array.length_toList] at h1
        omega
      have hp : L[i]? = some L[i] := List.getElem?_eq_getElem hil
      generalize hpe : L[i] = p at hp
      have hmem : p ∈ L := List.mem_of_getElem? hp
      have hpt := R.tup p hmem
      have rest : wpAny (model P w) A (searchRest a (.ref x) (nh w k) true f es t (way t.mask (nh w k) (c + q)) i (nth t.mask (runAt t.mask (SetTable.bits (nh w k) % (t.mask + 1)) (SetTable.bits (nh w k))) (c + (q + 1)))) Q E s := by
        unfold searchRest
        rw [R.entry hp]
        dsimp only
        refine wpAny_bind (wpAny_holding (eqb_n hu hpt hx ?_))
        refine wpAny_bind (wpAny_setState_of ho hd R.fits ?_)
        dsimp only
        by_cases hkk : p.2 = k
        · refine wp_if_pos (by simp [hkk]) ?_
          refine wpAny_pure (hin ?_)
          exact List.mem_map.mpr ⟨p, hmem, hkk⟩
        · refine wp_if_neg (by simp [hkk]) ?_
          try refine wpAny_bind (wpAny_pure ?_)
          rw [sameMem]
          dsimp only
          have hsl : t.slot (way t.mask (nh w k) (c + q)) = .live i := slot_live R.tab.ris hi
          simp only [if_true, hsl, R.entry hp]
          refine wpAny_bind (wpAny_isSame_ref_self (wpAny_bind (wpAny_pure ?_)))
          simp only [if_true]
          refine wp_if_neg (by simp [hkk]) ?_
          refine search_from R hx hu hKf hK hKb hin hout f (c + (q + 1)) _ rfl (by omega) (by omega) fun i0 p0 h0 hk0 => ?_
          obtain ⟨c', a1, a2, a3⟩ := hre i0 p0 h0 hk0
          refine ⟨c', ?_, a2, a3⟩
          -- it isn't passed
          rcases Nat.lt_or_ge c' (c + q) with z | z
          · exfalso
            refine hno (c' - c) i0 (by omega) (by rw [e1, show c + (c' - c) = c' by omega]; exact a3) ?_
            exact (hashAt i0 p0 h0).trans (congrArg (nh w) hk0)
          · rcases Nat.lt_or_ge (c + q) c' with y | y
            · omega
            · exfalso
              have ec : c' = c + q := Nat.le_antisymm y z
              rw [ec] at a3
              have s0 := slot_live R.tab.ris a3
              rw [hsl] at s0
              injection s0 with s0
              rw [← s0, hp] at h0
              exact hkk ((congrArg Prod.snd (Option.some.inj h0)).trans hk0)
      by_cases hl : t.led = true
      · refine wp_if_neg (by simp [hl]) ?_
        try refine wpAny_bind (wpAny_pure ?_)
        exact rest
      · refine wp_if_pos (by simp [hl]) ?_
        refine wpAny_bind (seen_n hx (fun y hy => ?_) ?_)
        · obtain ⟨e, he, ee⟩ := List.mem_map.mp hy
          have he1 : e ∈ es ∧ e.1 = nh w k := by simpa using he
          have he2 : e ∈ es.toList := by simpa using he1.1
          rw [R.rows] at he2
          obtain ⟨p2, hp2, e2⟩ := List.mem_map.mp he2
          refine ⟨p2.2, p2.1, ?_, R.tup p2 hp2⟩
          rw [← ee, ← e2]
        · refine wp_if_neg (by decide) ?_
          try refine wpAny_bind (wpAny_pure ?_)
          exact rest
    · -- the empty slot
      have hpb' : t.probe (fun i => (es[i]?.map (·.1)).getD 0) (nh w k) (stand.getD (t.probeStart (nh w k))) = some (.empty (way t.mask (nh w k) K) none) := by
        have e2 : way t.mask (nh w k) K = (nth t.mask (nth t.mask (runAt t.mask (SetTable.bits (nh w k) % (t.mask + 1)) (SetTable.bits (nh w k))) c) (K - c)).j := by
          rw [e1, show c + (K - c) = K by omega]
        rw [hst, e2]
        exact hpb
      rw [hpb']
      dsimp only
      refine wpAny_pure (hout fun hm => ?_)
      obtain ⟨p0, h0, hk0⟩ := List.mem_map.mp hm
      obtain ⟨i0, hi0, e0⟩ := List.getElem_of_mem h0
      have h00 : L[i0]? = some p0 := by rw [List.getElem?_eq_getElem hi0, e0]
      obtain ⟨c', a1, a2, a3⟩ := hre i0 p0 h00 hk0
      refine hno (c' - c) i0 (by omega) (by rw [e1, show c + (c' - c) = c' by omega]; exact a3) ?_
      exact (hashAt i0 p0 h00).trans (congrArg (nh w) hk0)

/-- the search as adding asks for it -/
theorem search_at (R : SetN w s.heap a L es ep t) {x : Addr} {k : NestedKey} (hx : IsN s.heap k x) (hu : A.units + 16 < cLine) {Q : SetFound → Shared → Prop}
    (hin : k ∈ L.map (·.2) → Q (.there none) s)
    (hout : ∀ K, k ∉ L.map (·.2) → way t.mask (nh w k) K ∉ t.place.toList → (∀ c, c < K → way t.mask (nh w k) c ∈ t.place.toList) → Q (.free (way t.mask (nh w k) K) false) s) :
    wpAny (model P w) A (setSearch a (.ref x) (nh w k) true) Q E s := by
  have hroom := R.room
  obtain ⟨K, hKf, hK, hKb⟩ := R.tab.first (by rw [List.length_map]; omega) (nh w k)
  have hbig : K < 100000 := by
    have : 10 * SetTable.turns t.mask ≤ 1420 := by
      unfold SetTable.turns
      rcases R.tab.mok with e | e | e <;> omega
    omega
  unfold setSearch
  refine search_from R hx hu hKf hK hKb hin (fun hn => hout K hn hK hKb) 100000 0 none rfl (Nat.zero_le _) (by omega) fun i p hp hk => ?_
  have hi : (L.map fun p => nh w p.2)[i]? = some (nh w k) := by rw [List.getElem?_map, hp, ← hk] <;> rfl
  have hil : i < t.place.toList.length := by
    have h1 : i < L.length := (List.getElem?_eq_some_iff.mp hp).1
    have h2 := R.tab.sz
    rw [List.length_map] at h2
    rw [Array.length_toList]
    omega
  have hj := List.getElem?_eq_getElem hil
  obtain ⟨c, hc, e⟩ := R.tab.before hK hi hj
  exact ⟨c, Nat.zero_le _, hc, by rw [hj, e]⟩
end
end PFS

namespace PFS
open PySem PySem.Spec PyProof.Rows L2
theorem setAddHashedIn_succ (a : Addr) (x : Value) (h : Int) (fuel : Nat) : setAddHashedIn a x h (fuel + 1) = (do
    let (es₀, _, t₀) ← setState a
    if byScan x es₀ then
      match ← setAddByScan a x h es₀ t₀ with
      | some added => return added
      | none => return ← setAddHashedIn a x h fuel
    let .free slot wasDummy ← setSearch a x h (adding := true) | return false
    let (es, _, t) ← setState a
    let (t, p) := t.put slot
    let byValue ← if t.plain then hashByValue 8 x else pure true
    let t := if byValue then t else { t with plain := false }
    storeSet a (SetTable.insertAt es p (h, x)) t
    if !wasDummy && t.tooFull then setRelay a (SetTable.grown (es.size + 1))
    return true) := by rfl
theorem setRelay_eq (a : Addr) (wanted : Nat) : setRelay a wanted = (do
    let (es, _, t) ← setState a
    if SetTable.sizeAbove wanted > sizeLine then unsupported "set:memory"
    let (es, t) ← (do
      let some (t, order) := t.relaid (es.map (·.1)) wanted | unsupported "internal:set-table-without-room"
      let es' := order.filterMap (es[·]?)
      if es'.size != es.size then unsupported "internal:set-table-lost-an-element"
      pure (es', t) : Sem (Array (Int × Value) × SetTable))
    storeSet a es t) := by rfl

section
variable {P : Program} {w : World} {A : Around} {E : Value → Shared → Prop} {s : Shared}
/-- a tuple isn't the set -/
theorem isN_same {h h' : Heap} {k : NestedKey} {a b : Addr} {o : Obj} {es : Array (Int × Value)} {ep : Nat} {t : SetTable} (hb : IsN h k b) (ho : h.get? a = some o) (hd : o.data = .set es ep t) (hs : Heap.SameBut a h h') : IsN h' k b := by
  refine ⟨NestedIs.at (fun c o2 vs n e d => ?_) _ _ hb.1, hb.2⟩
  refine (hs.2 c fun z => ?_).trans e
  rw [z, ho] at e
  rw [← Option.some.inj e, hd] at d
  cases d
theorem rows_put (L : List (Addr × NestedKey)) (p : Nat) (x : Addr) (k : NestedKey) : rowsN w (L.take p ++ (x, k) :: L.drop p) = (rowsN w L).take p ++ (nh w k, Value.ref x) :: (rowsN w L).drop p := by
  unfold rowsN
  rw [List.map_append, List.map_cons, List.map_take, List.map_drop]
theorem put_perm {α : Type} (L : List α) (p : Nat) (x : α) : (L.take p ++ x :: L.drop p).Perm (x :: L) := by
  have h : (L.take p ++ x :: L.drop p).Perm (x :: (L.take p ++ L.drop p)) := List.perm_middle
  rw [List.take_append_drop] at h
  exact h
theorem order_rows (L : List (Addr × NestedKey)) (es : Array (Int × Value)) (order : Array Nat) (hr : es.toList = rowsN w L) (hp : order.toList.Perm (List.range L.length)) :
    ∃ L2, (order.filterMap (es[·]?)).toList = rowsN w L2 ∧ L2.Perm L ∧ (L2.map fun p => nh w p.2) = order.toList.map fun i => (es.map (·.1)).getD i 0 := by
  have hsz : es.size = L.length := by
    have h := congrArg List.length hr
    unfold rowsN at h
    rw [Array.length_toList, List.length_map] at h
    exact h
  have ent : ∀ i (h : i < L.length), es[i]? = some (nh w (L[i]).2, Value.ref (L[i]).1) := fun i h => by
    rw [← Array.getElem?_toList, hr]
    unfold rowsN
    rw [List.getElem?_map, List.getElem?_eq_getElem h] <;> rfl
  have key : ∀ l : List Nat, (∀ i ∈ l, i < L.length) → ∃ L2 : List (Addr × NestedKey), l.filterMap (fun i => es[i]?) = rowsN w L2 ∧ L2 = l.filterMap (fun i => L[i]?) ∧ (L2.map fun p => nh w p.2) = l.map fun i => (es.map (·.1)).getD i 0 := by
    intro l
    induction l with
    | nil => intro _; exact ⟨[], rfl, rfl, rfl⟩
    | cons i l ih =>
      intro hl
      have hi := hl i List.mem_cons_self
      obtain ⟨L2, e1, e2, e3⟩ := ih fun j hj => hl j (List.mem_cons_of_mem _ hj)
      refine ⟨L[i] :: L2, ?_, ?_, ?_⟩
      · rw [List.filterMap_cons_some (ent i hi), e1] <;> rfl
      · rw [List.filterMap_cons_some (List.getElem?_eq_getElem hi), e2]
      · rw [List.map_cons, List.map_cons, e3]
        have hi2 : i < (es.map (·.1)).size := by rw [Array.size_map, hsz]; exact hi
        have e4 : (es.map (·.1)).getD i 0 = nh w (L[i]).2 := by
          have e5 : (es.map (·.1))[i]? = some (nh w (L[i]).2) := by rw [Array.getElem?_map, ent i hi] <;> rfl
          simp [Array.getD_eq_getD_getElem?, e5]
        rw [e4]
  obtain ⟨L2, e1, e2, e3⟩ := key order.toList fun i hi => List.mem_range.mp (hp.mem_iff.mp hi)
  refine ⟨L2, by first | (rw [Array.toList_filterMap]; exact e1) | simpa using e1, ?_, e3⟩
  have h1 : L2.Perm ((List.range L.length).filterMap fun i => L[i]?) := by
    rw [e2]
    exact hp.filterMap _
  have h2 : (List.range L.length).filterMap (fun i => L[i]?) = L := by
    have key2 : ∀ n, n ≤ L.length → (List.range n).filterMap (fun i => L[i]?) = L.take n := by
      intro n
      induction n with
      | zero => intro _; rfl
      | succ n ih =>
        intro hn
        have hlt : n < L.length := hn
        rw [List.range_succ, List.filterMap_append, ih (Nat.le_of_lt hlt), List.take_succ, List.getElem?_eq_getElem hlt]
        rw [List.filterMap_cons_some (List.getElem?_eq_getElem hlt)] <;> rfl
    rw [key2 L.length (Nat.le_refl _), List.take_length]
  rw [h2] at h1
  exact h1

variable {a : Addr} {L : List (Addr × NestedKey)} {es : Array (Int × Value)} {ep : Nat} {t : SetTable}
/-- the table laid anew, larger -/
theorem relay_at {o : Obj} (ho : s.heap.get? a = some o) (hex : o.ExactSet) (hd : o.data = .set es ep t) (hrows : es.toList = rowsN w L) (hsz : t.place.size = es.size) (hdm : t.dummies = #[]) (hfl : es.size ≤ t.mask)
    (nd : (L.map (·.2)).Nodup) (tup : ∀ p ∈ L, IsN s.heap p.2 p.1) (pl : t.plain = true) (ld : w.params.followText "set-order" = true ∨ t.led = true) (few : L.length < 64) {wanted M : Nat}
    (hw : SetTable.sizeAbove wanted - 1 = M) (hM : MaskOk M) (hw2 : SetTable.sizeAbove wanted ≤ 128) (hn : L.length * 5 < M * 3) {Q : Unit → Shared → Prop}
    (hQ : ∀ h' L' es' ep' t', Heap.SameBut a s.heap h' → SetN w h' a L' es' ep' t' → L'.Perm L → Q () { s with heap := h' }) : wpAny (model P w) A (setRelay a wanted) Q E s := by
  have hsl : es.size = L.length := by
    have h := congrArg List.length hrows
    unfold rowsN at h
    rw [Array.length_toList, List.length_map] at h
    exact h
  have hfits : t.fits es.size = true := by
    unfold SetTable.fits SetTable.fill
    rw [hdm, Bool.and_eq_true, beq_iff_eq, decide_eq_true_eq]
    show t.place.size = es.size ∧ t.place.size + 0 ≤ t.mask
    omega
  obtain ⟨t', order, e, hp, T, em, el, ep', ed⟩ := relaid_ok t (hs := es.map (·.1)) (wanted := wanted) hw hM (by rw [Array.size_map, hsl]; omega)
  rw [Array.size_map, hsl] at hp
  obtain ⟨L2, r1, r2, r3⟩ := order_rows L es order hrows hp
  rw [← r3] at T
  have hs2 : (order.filterMap (es[·]?)).size = es.size := by
    have h := congrArg List.length r1
    unfold rowsN at h
    rw [Array.length_toList, List.length_map, r2.length_eq] at h
    rw [h, hsl]
  rw [setRelay_eq]
  refine wpAny_bind (wpAny_setState_of ho hd hfits ?_)
  dsimp only
  refine wp_if_neg (by rw [sizeLine_eq]; omega) ?_
  try refine wpAny_bind (wpAny_pure ?_)
  rw [e]
  dsimp only
  refine wpAny_bind ?_
  refine wp_if_neg (by rw [hs2]; simp) ?_
  try refine wpAny_bind (wpAny_pure ?_)
  refine wpAny_pure ?_
  dsimp only
  refine wpAny_storeSet_of ho hd ?_ (by rw [hs2, hsl, sizeLine_eq]; omega)
  have sb : Heap.SameBut a s.heap (s.heap.update a (Obj.putSet (order.filterMap (es[·]?)) t')) := Heap.SameBut.update ..
  refine hQ _ L2 (order.filterMap (es[·]?)) (ep + 1) t' sb ?_ r2
  refine ⟨⟨_, store_at ho hd, ⟨hex.1, hex.2.1, hex.2.2⟩, rfl⟩, r1, T, ?_, fun p hpm => isN_same (tup p (r2.mem_iff.mp hpm)) ho hd sb, by rw [ep']; exact pl, by rw [el]; exact ld, ?_, by rw [r2.length_eq]; exact few⟩
  · exact (r2.map (·.2)).nodup_iff.mpr nd
  · rw [r2.length_eq, em]
    exact hn

/-- ADDING -/
theorem add_at (R : SetN w s.heap a L es ep t) {x : Addr} {k : NestedKey} (hx : IsN s.heap k x) (hu : A.units + 16 < cLine) (hfew : L.length + 1 < 64) {Q : Bool → Shared → Prop}
    (hQ : ∀ b h' L' es' ep' t', Heap.SameBut a s.heap h' → SetN w h' a L' es' ep' t' → (k ∈ L.map (·.2) → L' = L) → (k ∉ L.map (·.2) → L'.Perm ((x, k) :: L)) → Q b { s with heap := h' }) :
    wpAny (model P w) A (setAddHashed a (.ref x) (nh w k)) Q E s := by
  obtain ⟨o, ho, hex, hd⟩ := R.ob
  have hsl := R.size
  have hroom := R.room
  unfold setAddHashed
  refine wpAny_holding ?_
  rw [show (100000 : Nat) = 99999 + 1 from rfl, setAddHashedIn_succ]
  refine wpAny_bind (wpAny_setState_of ho hd R.fits ?_)
  dsimp only
  refine wp_if_neg (by simp [byScan, Value.scannable]) ?_
  try refine wpAny_bind (wpAny_pure ?_)
  refine wpAny_bind (search_at R hx hu (fun hm => ?_) fun K hm hK hb => ?_)
  · dsimp only
    exact wpAny_pure (hQ false s.heap L es ep t (Heap.SameBut.refl a s.heap) R (fun _ => rfl) fun z => absurd hm z)
  · dsimp only
    refine wpAny_bind (wpAny_setState_of ho hd R.fits ?_)
    dsimp only
    obtain ⟨q1, q2, q3, q4, q5, q6, q7, q8, q9⟩ := R.tab.put hK hb
    have hp1 : (t.put (way t.mask (nh w k) K)).1.plain = true := by rw [q6]; exact R.plain
    generalize hpt : t.put (way t.mask (nh w k) K) = pt at q1 q3 q4 q5 q6 q7 q8 q9 hp1 ⊢
    obtain ⟨t1, p⟩ := pt
    dsimp only at q1 q3 q4 q5 q6 q7 q8 q9 hp1 ⊢
    subst q1
    first
      | (refine wpAny_bind ?_; refine wp_if_pos hp1 ?_; refine hashBy_n hx ?_)
      | refine wp_if_pos hp1 (wpAny_bind (hashBy_n hx ?_))
    simp only [if_true]
    have hin : (SetTable.insertAt es (SetTable.below t.place (way t.mask (nh w k) K)) (nh w k, Value.ref x)).toList = rowsN w (L.take (SetTable.below t.place (way t.mask (nh w k) K)) ++ (x, k) :: L.drop (SetTable.below t.place (way t.mask (nh w k) K))) := by
      rw [SetTable.toList_insertAt, rows_put, R.rows]
    generalize hpp : SetTable.below t.place (way t.mask (nh w k) K) = p at q2 q3 hin ⊢
    have pm := put_perm L p (x, k)
    have hlen : (L.take p ++ (x, k) :: L.drop p).length = L.length + 1 := pm.length_eq
    have hhs : (L.take p ++ (x, k) :: L.drop p).map (fun p => nh w p.2) = (L.map fun p => nh w p.2).take p ++ nh w k :: (L.map fun p => nh w p.2).drop p := by
      rw [List.map_append, List.map_cons, List.map_take, List.map_drop]
    rw [← hhs] at q3
    have nd1 : ((L.take p ++ (x, k) :: L.drop p).map (·.2)).Nodup := by
      refine (pm.map (·.2)).nodup_iff.mpr ?_
      rw [List.map_cons]
      exact List.nodup_cons.mpr ⟨hm, R.nd⟩
    have hes : (SetTable.insertAt es p (nh w k, Value.ref x)).size = L.length + 1 := by
      have h := congrArg List.length hin
      unfold rowsN at h
      rw [Array.length_toList, List.length_map, hlen] at h
      exact h
    generalize SetTable.insertAt es p (nh w k, Value.ref x) = es1 at hin hes ⊢
    generalize L.take p ++ (x, k) :: L.drop p = L1 at pm hlen q3 nd1 hin
    refine wpAny_bind (wpAny_storeSet_of ho hd ?_ (by rw [hes, sizeLine_eq]; omega))
    have sb : Heap.SameBut a s.heap (s.heap.update a (Obj.putSet es1 t1)) := Heap.SameBut.update ..
    have ho1 := store_at (es' := es1) (t' := t1) ho hd
    generalize s.heap.update a (Obj.putSet es1 t1) = h1 at sb ho1 ⊢
    have tup1 : ∀ p ∈ L1, IsN h1 p.2 p.1 := fun p hp => by
      rcases List.mem_cons.mp (pm.mem_iff.mp hp) with e | hp
      · rw [e]; exact isN_same hx ho hd sb
      · exact isN_same (R.tup p hp) ho hd sb
    have ld1 : w.params.followText "set-order" = true ∨ t1.led = true := by rw [q5]; exact R.led
    by_cases hf : t1.tooFull = true
    · first
        | (refine wpAny_bind ?_; refine wp_if_pos (by simp [hf]) ?_)
        | (refine wp_if_pos (by simp [hf]) ?_; refine wpAny_bind ?_)
      have hfull : (L.length + 1) * 5 ≥ t1.mask * 3 := by
        have h := hf
        unfold SetTable.tooFull at h
        rw [decide_eq_true_eq, q9, List.length_map] at h
        exact h
      rw [hsl]
      have hsz1 : t1.place.size = es1.size := by
        have h := q3.sz
        rw [List.length_map, hlen] at h
        rw [h, hes]
      have cases2 : (t.mask = 7 ∧ L.length = 4) ∨ (t.mask = 31 ∧ L.length = 18) := by
        rcases R.tab.mok with e | e | e
        · left; rw [q4, e] at hfull; rw [e] at hroom; exact ⟨e, by omega⟩
        · right; rw [q4, e] at hfull; rw [e] at hroom; exact ⟨e, by omega⟩
        · exfalso; rw [q4, e] at hfull; omega
      have go : ∀ M, SetTable.sizeAbove (SetTable.grown (L.length + 1)) - 1 = M → MaskOk M → SetTable.sizeAbove (SetTable.grown (L.length + 1)) ≤ 128 → (L.length + 1) * 5 < M * 3 →
          wpAny (model P w) A (setRelay a (SetTable.grown (L.length + 1))) (fun _ s' => wpAny (model P w) A (pure true) Q E s') E { s with heap := h1 } := fun M h1' h2' h3' h4' => by
        refine relay_at (s := { s with heap := h1 }) ho1 ⟨hex.1, hex.2.1, hex.2.2⟩ rfl hin hsz1 q3.dm (by rw [hes, q4]; rcases cases2 with ⟨e, e2⟩ | ⟨e, e2⟩ <;> omega) nd1 tup1 hp1 ld1 (by rw [hlen]; exact hfew) h1' h2' h3' (by rw [hlen]; exact h4') ?_
        intro h2 L2 es2 ep2 t2 sb2 R2 pm2
        refine wpAny_pure (hQ true h2 L2 es2 ep2 t2 (sb.trans sb2) R2 (fun z => absurd z hm) fun _ => pm2.trans pm)
      rcases cases2 with ⟨_, e2⟩ | ⟨_, e2⟩
      · refine go 31 (by rw [e2, size_20]) (.inr (.inl rfl)) (by rw [e2, size_20]; decide) (by omega)
      · refine go 127 (by rw [e2, size_76]) (.inr (.inr rfl)) (by rw [e2, size_76]; decide) (by omega)
    · first
        | refine wp_if_neg (by simp [hf]) ?_
        | (refine wpAny_bind ?_; refine wp_if_neg (by simp [hf]) ?_; refine wpAny_pure ?_)
      refine wpAny_pure (hQ true h1 L1 es1 (ep + 1) t1 sb ⟨⟨_, ho1, ⟨hex.1, hex.2.1, hex.2.2⟩, rfl⟩, hin, q3, nd1, tup1, hp1, ld1, ?_, by rw [hlen]; exact hfew⟩ (fun z => absurd z hm) fun _ => pm)
      have h := hf
      unfold SetTable.tooFull at h
      rw [decide_eq_true_eq, q9, List.length_map] at h
      rw [hlen]
      omega
end
end PFS

namespace PFS
open PySem PySem.Spec PyProof.Rows L2

theorem nodup_of_map {α β : Type} {f : α → β} {l : List α} (h : (l.map f).Nodup) : l.Nodup := List.Pairwise.of_map f (fun _ _ hne e => hne (congrArg f e)) h
/-- what the set has got from the first i items -/
structure Got (ks : List (Addr × NestedKey)) (i : Nat) (L : List (Addr × NestedKey)) : Prop where
  sub : ∀ p ∈ L, p ∈ ks.take i
  all : ∀ p ∈ ks.take i, p.2 ∈ L.map (·.2)
  len : L.length ≤ i
theorem Got.zero (ks : List (Addr × NestedKey)) : Got ks 0 [] := ⟨fun p h => (by cases h), fun p h => (by simp at h), Nat.le_refl _⟩
theorem take_next {α : Type} {l : List α} {i : Nat} {x : α} (h : l[i]? = some x) : l.take (i + 1) = l.take i ++ [x] := by
  rw [List.take_succ, h] <;> rfl
theorem Got.same {ks L : List (Addr × NestedKey)} {i : Nat} {x : Addr × NestedKey} (g : Got ks i L) (h : ks[i]? = some x) (hm : x.2 ∈ L.map (·.2)) : Got ks (i + 1) L := by
  refine ⟨fun p hp => ?_, fun p hp => ?_, Nat.le_succ_of_le g.len⟩
  · rw [take_next h]
    exact List.mem_append_left _ (g.sub p hp)
  · rw [take_next h] at hp
    rcases List.mem_append.mp hp with z | z
    · exact g.all p z
    · rw [List.mem_singleton.mp z]; exact hm
theorem Got.more {ks L L' : List (Addr × NestedKey)} {i : Nat} {x : Addr × NestedKey} (g : Got ks i L) (h : ks[i]? = some x) (pm : L'.Perm (x :: L)) : Got ks (i + 1) L' := by
  refine ⟨fun p hp => ?_, fun p hp => ?_, ?_⟩
  · rw [take_next h]
    rcases List.mem_cons.mp (pm.mem_iff.mp hp) with e | z
    · rw [e]; exact List.mem_append_right _ (List.mem_singleton.mpr rfl)
    · exact List.mem_append_left _ (g.sub p z)
  · rw [(pm.map (·.2)).mem_iff, List.map_cons]
    rw [take_next h] at hp
    rcases List.mem_append.mp hp with z | z
    · exact List.mem_cons_of_mem _ (g.all p z)
    · rw [List.mem_singleton.mp z]; exact List.mem_cons_self
  · rw [pm.length_eq, List.length_cons]
    exact Nat.succ_le_succ g.len

section
variable {P : Program} {w : World} {A : Around} {E : Value → Shared → Prop} {s : Shared}
theorem isN_keep {h h' : Heap} {k : NestedKey} {b : Addr} (x : IsN h k b) (hk : ∀ c o, h.get? c = some o → h'.get? c = some o) : IsN h' k b := by
  exact ⟨NestedIs.at (fun c o2 _ _ e _ => hk c o2 e) _ _ x.1, x.2⟩
theorem SetN.keep {h h' : Heap} {a : Addr} {L : List (Addr × NestedKey)} {es : Array (Int × Value)} {ep : Nat} {t : SetTable} (R : SetN w h a L es ep t) (ha : ∀ o, h.get? a = some o → h'.get? a = some o) (ht : ∀ p ∈ L, IsN h' p.2 p.1) : SetN w h' a L es ep t := by
  obtain ⟨o, ho, r⟩ := R.ob
  exact ⟨⟨o, ha o ho, r⟩, R.rows, R.tab, R.nd, ht, R.plain, R.led, R.room, R.few⟩
/-- a new set -/
theorem setN_fresh {h : Heap} {a : Addr} (ho : h.get? a = some (set0 w)) : SetN w h a [] #[] 0 (.fresh 0 0 (!w.params.followText "set-order")) where
  ob := ⟨_, ho, ⟨rfl, rfl, rfl⟩, rfl⟩
  rows := rfl
  tab := ⟨List.Pairwise.nil, rfl, rfl, .inl rfl, fun x hx => (by cases hx), fun i h j hi => (by simp at hi)⟩
  nd := List.nodup_nil
  tup := fun p hp => (by cases hp)
  plain := rfl
  led := by
    show _ ∨ (!w.params.followText "set-order") = true
    cases w.params.followText "set-order"
    · exact .inr rfl
    · exact .inl rfl
  room := by
    show 0 * 5 < 7 * 3
    decide
  few := by
    show 0 < 64
    decide

/-- set.update's loop -/
theorem set_update_n {I : Addr} {fp wr : List Addr} {G : Array GenState → Array GenState → Prop} {n : Nat} {Pv : Nat → Value → Prop} {St : Nat → Shared → Prop} {R : Result → Shared → Prop}
    (W : WalksS P w A.in1 I fp wr G n Pv St) (S : Addr) (hSf : S ∉ fp) (ks : List (Addr × NestedKey)) (hn : n = ks.length) (hfew : ks.length < 64) (hval : ∀ i v, Pv i v → ∃ p, ks[i]? = some p ∧ v = .ref p.1)
    (h0 : Heap) (hk : ∀ p ∈ ks, IsN h0 p.2 p.1) (hS0 : h0.get? S = none) (hw0 : ∀ b ∈ wr, h0.get? b = none) (hu : A.in1.units + 16 < cLine) :
    ∀ (k i : Nat) (s : Shared), n - i = k → i ≤ n → St i s → (∀ b o, h0.get? b = some o → s.heap.get? b = some o) → (∃ L es ep t, SetN w s.heap S L es ep t ∧ Got ks i L) →
      (∀ s' L es ep t, Moved (S :: wr) G s s' → SetN w s'.heap S L es ep t → Got ks n L → (∀ b o, h0.get? b = some o → s'.heap.get? b = some o) → R (.ok (.ret .none)) s') →
      codeAny (model P w) A (.builtin "set.update.loop" ⟨[.ref S, .ref I], []⟩) R s := by
  have hSw : S ∉ wr := fun h => hSf (W.sub _ h)
  have hsub : ∀ b ∈ wr, b ∈ S :: wr := fun b hb => List.mem_cons_of_mem _ hb
  have keepM : ∀ {s s' : Shared}, Moved wr G s s' → (∀ b o, h0.get? b = some o → s.heap.get? b = some o) → ∀ b o, h0.get? b = some o → s'.heap.get? b = some o := fun hm hkp b o e =>
    hm.heap b o (fun hb => by rw [hw0 b hb] at e; cases e) (hkp b o e)
  intro k
  induction k with
  | zero =>
    intro i s hk' hi hst hkp ⟨L, es, ep, t, hS, g⟩ hR
    have hin : i = n := by omega
    subst hin
    refine codeAny_builtin F.entry_set_update_loop ?_
    rw [Around.under_plainId F.plain_set_update_loop _]
    show wpAny _ A.in1 (pyNext (.ref I) >>= _) _ _ s
    refine wpAny_bind (W.done s _ _ hst fun s' hm => ?_)
    show wpAny _ A.in1 (ret Value.none) _ _ s'
    have hkp' := keepM hm hkp
    have sub : ∀ p ∈ L, p ∈ ks := fun p hp => List.mem_of_mem_take (g.sub p hp)
    exact wpAny_pure (hR s' L es ep t (hm.mono hsub) (hS.keep (fun o e => hm.heap S o hSw e) fun p hp => isN_keep (hk p (sub p hp)) hkp') g hkp')
  | succ k ih =>
    intro i s hk' hi hst hkp ⟨L, es, ep, t, hS, g⟩ hR
    have hlt : i < n := by omega
    refine codeAny_builtin F.entry_set_update_loop ?_
    rw [Around.under_plainId F.plain_set_update_loop _]
    show wpAny _ A.in1 (pyNext (.ref I) >>= _) _ _ s
    refine wpAny_bind (W.item i s _ _ hlt hst fun v s' hP hst' hm => ?_)
    obtain ⟨p, hp, rfl⟩ := hval i v hP
    have hkp' := keepM hm hkp
    have sub : ∀ p ∈ L, p ∈ ks := fun p hp => List.mem_of_mem_take (g.sub p hp)
    have hS' : SetN w s'.heap S L es ep t := hS.keep (fun o e => hm.heap S o hSw e) fun q hq => isN_keep (hk q (sub q hq)) hkp'
    have hx : IsN s'.heap p.2 p.1 := isN_keep (hk p (List.mem_of_getElem? hp)) hkp'
    show wpAny _ A.in1 (holding [Value.ref p.1] (setAdd S (.ref p.1)) >>= _) _ _ s'
    refine wpAny_bind (wpAny_holding ?_)
    unfold setAdd
    refine wpAny_holding ?_
    refine wpAny_bind (hash_n hu hx ?_)
    refine add_at (s := { s' with toks := s'.toks + p.2.draws }) hS' hx hu (by have := g.len; omega) fun b h' L' es' ep' t' hsb hS2 c1 c2 => ?_
    have g' : Got ks (i + 1) L' := by
      rcases Classical.em (p.2 ∈ L.map (·.2)) with c | c
      · rw [c1 c]; exact g.same hp c
      · exact g.more hp (c2 c)
    have hkp2 : ∀ b o, h0.get? b = some o → h'.get? b = some o := fun b o e => (hsb.2 b (fun z => by rw [z, hS0] at e; cases e)).trans (hkp' b o e)
    refine wpAny_pure ⟨plainId_quiet F.plain_set_update_loop _, ih (i + 1) _ (by omega) hlt (W.frame _ s' _ _ hst' (Nat.le_add_right _ _) fun b hb o e => ?_) hkp2 ⟨L', es', ep', t', hS2, g'⟩ fun s'' L2 es2 ep2 t2 hm'' hS'' g'' hkp'' => ?_⟩
    · rw [hsb.2 b (fun h : b = S => hSf (by rw [← h]; exact hb))]; exact e
    · refine hR s'' L2 es2 ep2 t2 (Moved.trans W.gtrans ((hm.mono hsub).then_heap (Nat.le_add_right _ _) fun b o hb e => ?_) hm'') hS'' g'' hkp''
      rw [hsb.2 b (fun h : b = S => hb (by rw [h]; exact List.mem_cons_self))]; exact e

set_option maxRecDepth 100000 in
set_option maxHeartbeats 3200000 in
/-- set(xs) -/
theorem call_set_n {l : Addr} {items : Array Value} (ks : List (Addr × NestedKey)) {Q : Value → Shared → Prop} (hh : A.handled = none) (hl : s.heap.IsList l items) (hit : items.toList = ks.map fun p => Value.ref p.1)
    (hk : ∀ p ∈ ks, IsN s.heap p.2 p.1) (hfew : ks.length < 64) (hu : A.units + 24 < cLine)
    (h : ∀ (h' : Heap) (tk : Nat) L es ep t, SetN w h' s.heap.objs.size L es ep t → Got ks ks.length L → (∀ b o, s.heap.get? b = some o → h'.get? b = some o) → Q (.ref s.heap.objs.size) { s with heap := h', toks := tk }) :
    wpAny (model P w) A (call (.type "set") [.ref l]) Q E s := by
  have hisz : items.size = ks.length := by
    have q := congrArg List.length hit
    rw [Array.length_toList, List.length_map] at q
    exact q
  obtain ⟨c, tl, hway⟩ := F.called_set.mro
  have hmade := F.called_set.made
  have hsub := F.called_set.sub
  refine wpAny_call (codeAny_of_tree ?_)
  show wpAny _ _ (callAny (.type "set") _) _ _ _
  refine wpAny_pure ⟨Code.quiet_builtin _ (by decide +kernel), codeAny_builtin F.entry_type_call ?_⟩
  rw [Around.under_plain (weight_type_call_type "set" [.ref l] []) rfl]
  have h1 := F.called_set.notType
  have h2 := F.called_set.canCreate
  have hct := F.typeCall_set_1 (.ref l)
  repeat (any_goals (first | assumption | wp_step))

  refine codeAny_mono (code_set_led1 (.ref l) (E := E) (Q₁ := fun obj s₁ => obj = .ref s.heap.objs.size ∧ s₁ = { s with heap := s.heap.push (set0 w) }) ⟨rfl, rfl⟩) fun r s₁ hr => ?_
  cases r with
  | error e => exact hr
  | ok fl =>
    cases fl with
    | ret obj =>
      obtain ⟨rfl, rfl⟩ := hr
      have hS : (s.heap.push (set0 w)).get? s.heap.objs.size = some (set0 w) := Heap.get?_push_size _ rfl
      have hT : Shared.TypeIs { s with heap := s.heap.push (set0 w) } (.ref s.heap.objs.size) "set" := ⟨_, hS, rfl⟩
      have hli := F.called_set.init.lookup
      have hbi := F.called_set.init.bind (.ref s.heap.objs.size)
      repeat (any_goals (first | assumption | wp_step))

      refine codeAny_mono (codeAny_call_builtin (R := wants (fun r s₂ => r = .none ∧ ∃ h' tk L es ep t, s₂ = { s with heap := h', toks := tk } ∧ SetN w h' s.heap.objs.size L es ep t ∧ Got ks ks.length L ∧
          (∀ b o, s.heap.get? b = some o → h'.get? b = some o)) E) F.called_set.init.plain F.entry_set_init (check_set_init_1 hT ?_)) fun r₂ s₂ hr₂ => ?_
      · obtain ⟨ol, hol, hcl, nl, hdl⟩ := hl
        obtain ⟨ocls, odict, odata, oslots⟩ := ol
        simp only at hcl hdl
        subst hcl; subst hdl
        have hol' : (s.heap.push (set0 w)).get? l = some { cls := .type "list", dict := odict, data := .seq items nl, slots := oslots } := Heap.get?_push_of_some _ hol
        have hsls := F.sub_list_set
        have hslf := F.sub_list_frozenset
        have hne : (Value.type "list" == Value.type "dict") = false := by decide
        have hl1 : (s.heap.push (set0 w)).IsList l items := ⟨_, hol', rfl, nl, rfl⟩
        unfold Builtin.«set.__init__» noKeywords Builtin.Frozenset.updateFrom
        generalize hPI : pyIter = PI
        wp_walk
        subst hPI

        refine wpAny_pyIter_list hl1 ?_
        refine wpAny_bind (wpAny_runValue ?_)
        have hlS : l < s.heap.objs.size := Heap.lt_size hol
        have hh3 : A.in1.in1.in1.handled = none := by simp [hh]
        have hz1 : (s.heap.push (set0 w)).objs.size = s.heap.objs.size + 1 := Heap.size_push ..
        have hneI : l ≠ (s.heap.push (set0 w)).objs.size := by
          rw [Heap.size_push]; exact Nat.ne_of_lt (Nat.lt_succ_of_lt hlS)
        have hSf : s.heap.objs.size ∉ [(s.heap.push (set0 w)).objs.size, l] := by
          rw [Heap.size_push]; simp only [List.mem_cons, List.mem_singleton, List.not_mem_nil, or_false, not_or]
          exact ⟨Nat.ne_of_lt (Nat.lt_succ_self _), Nat.ne_of_gt hlS⟩
        have hval : ∀ (i : Nat) (v : Value), items[i]? = some v → ∃ p, ks[i]? = some p ∧ v = .ref p.1 := fun i v hv => by
          have q : items.toList[i]? = some v := by rw [Array.getElem?_toList]; exact hv
          rw [hit, List.getElem?_map] at q
          cases hq : ks[i]? with
          | none => rw [hq] at q; cases q
          | some p =>
            rw [hq] at q
            exact ⟨p, rfl, (Option.some.inj q).symm⟩
        have none_of : ∀ b, s.heap.objs.size ≤ b → s.heap.get? b = none := fun b hb => by
          cases q : s.heap.get? b with
          | none => rfl
          | some o => exact absurd (Nat.lt_of_lt_of_le (Heap.lt_size q) hb) (Nat.lt_irrefl _)
        refine set_update_n ((Walks.list hh3 _ l hneI items).toS) s.heap.objs.size
          hSf ks hisz hfew hval s.heap hk (none_of _ (Nat.le_refl _)) (fun b hb => none_of b (by
            rw [List.mem_singleton.mp hb, Heap.size_push]
            exact Nat.le_succ _)) (show A.in1.in1.in1.units + 16 < cLine from by simp only [Around.in1_units]; omega) (items.size - 0) 0 _ (by omega) (Nat.zero_le _)
          ⟨⟨_, Heap.get?_push_size _ rfl, rfl, rfl⟩, (hl1.push _)⟩ (fun b o e => Heap.get?_push_of_some _ (Heap.get?_push_of_some _ e)) ?hS0 ?hR
        case hS0 =>
          have hget : ((s.heap.push (set0 w)).push { cls := .type "list_iterator", data := .fields #[.ref l, .int 0 0] }).get? s.heap.objs.size
              = some (set0 w) := Heap.get?_push_of_some _ hS
          exact ⟨[], #[], 0, _, setN_fresh hget, Got.zero ks⟩
        case hR =>
          intro s' L es ep t hm hS' g' hkp
          obtain ⟨h', g2, d', tk', os'⟩ := s'
          have eg : g2 = s.gens := hm.gens
          have ed : d' = s.drawn := hm.drawn
          have eo : os' = s.os := hm.os
          subst eg; subst ed; subst eo
          show wpAny _ _ _ _ _ _
          refine wpAny_pure ?_
          show wpAny _ _ (ret Value.none) _ _ _
          rw [hisz] at g'
          exact wpAny_pure ⟨rfl, h', tk', L, es, ep, t, rfl, hS', g', hkp⟩

      · cases r₂ with
        | error e => exact hr₂
        | ok fl₂ =>
          cases fl₂ with
          | ret r =>
            obtain ⟨rfl, h', tk, L, es, ep, t, rfl, hS', g', hk'⟩ := hr₂
            repeat (any_goals (first | assumption | wp_step))
            exact h _ _ _ _ _ _ hS' g' hk'
          | _ => exact hr₂.elim
    | _ => exact hr.elim

end
end PFS
namespace PFS
open PySem PySem.Spec PyProof.Rows L2
section
variable {P : Program} {w : World} {A : Around} {E : Value → Shared → Prop} {s : Shared}
set_option maxRecDepth 100000 in
set_option maxHeartbeats 3200000 in
theorem call_set_lstI {l : Addr} {items : Array Value} (ns : List Int) {Q : Value → Shared → Prop} (hh : A.handled = none) (hl : s.heap.IsList l items) (hit : IntsAre items.toList ns) (hb : ns.length + 1 < scanBound)
    (h : ∀ (h' : Heap) (tk c : Nat), SetR w h' s.heap.objs.size (fun j => decide (j ∈ ns)) c → c ≤ ns.length → (∀ b o, s.heap.get? b = some o → h'.get? b = some o) → Q (.ref s.heap.objs.size) { s with heap := h', toks := tk }) :
    wpAny (model P w) A (call (.type "set") [.ref l]) Q E s := by
  have hisz : items.size = ns.length := by
    have q := IntsAre.length hit
    rw [Array.length_toList] at q
    exact q
  obtain ⟨c, tl, hway⟩ := F.called_set.mro
  have hmade := F.called_set.made
  have hsub := F.called_set.sub
  refine wpAny_call (codeAny_of_tree ?_)
  show wpAny _ _ (callAny (.type "set") _) _ _ _
  refine wpAny_pure ⟨Code.quiet_builtin _ (by decide +kernel), codeAny_builtin F.entry_type_call ?_⟩
  rw [Around.under_plain (weight_type_call_type "set" [.ref l] []) rfl]
  have h1 := F.called_set.notType
  have h2 := F.called_set.canCreate
  have hct := F.typeCall_set_1 (.ref l)
  repeat (any_goals (first | assumption | wp_step))

  refine codeAny_mono (code_set_led1 (.ref l) (E := E) (Q₁ := fun obj s₁ => obj = .ref s.heap.objs.size ∧ s₁ = { s with heap := s.heap.push (set0 w) }) ⟨rfl, rfl⟩) fun r s₁ hr => ?_
  cases r with
  | error e => exact hr
  | ok fl =>
    cases fl with
    | ret obj =>
      obtain ⟨rfl, rfl⟩ := hr
      have hS : (s.heap.push (set0 w)).get? s.heap.objs.size = some (set0 w) := Heap.get?_push_size _ rfl
      have hT : Shared.TypeIs { s with heap := s.heap.push (set0 w) } (.ref s.heap.objs.size) "set" := ⟨_, hS, rfl⟩
      have hli := F.called_set.init.lookup
      have hbi := F.called_set.init.bind (.ref s.heap.objs.size)
      repeat (any_goals (first | assumption | wp_step))

      refine codeAny_mono (codeAny_call_builtin (R := wants (fun r s₂ => r = .none ∧ ∃ h' tk c, s₂ = { s with heap := h', toks := tk } ∧ SetR w h' s.heap.objs.size (fun j => decide (j ∈ ns)) c ∧ c ≤ ns.length ∧
          (∀ b o, s.heap.get? b = some o → h'.get? b = some o)) E) F.called_set.init.plain F.entry_set_init (check_set_init_1 hT ?_)) fun r₂ s₂ hr₂ => ?_
      · obtain ⟨ol, hol, hcl, nl, hdl⟩ := hl
        obtain ⟨ocls, odict, odata, oslots⟩ := ol
        simp only at hcl hdl
        subst hcl; subst hdl
        have hol' : (s.heap.push (set0 w)).get? l = some { cls := .type "list", dict := odict, data := .seq items nl, slots := oslots } := Heap.get?_push_of_some _ hol
        have hsls := F.sub_list_set
        have hslf := F.sub_list_frozenset
        have hne : (Value.type "list" == Value.type "dict") = false := by decide
        have hl1 : (s.heap.push (set0 w)).IsList l items := ⟨_, hol', rfl, nl, rfl⟩
        unfold Builtin.«set.__init__» noKeywords Builtin.Frozenset.updateFrom
        generalize hPI : pyIter = PI
        wp_walk
        subst hPI

        refine wpAny_pyIter_list hl1 ?_
        refine wpAny_bind (wpAny_runValue ?_)
        have hlS : l < s.heap.objs.size := Heap.lt_size hol
        have hh3 : A.in1.in1.in1.handled = none := by simp [hh]
        have hz1 : (s.heap.push (set0 w)).objs.size = s.heap.objs.size + 1 := Heap.size_push ..
        have hneI : l ≠ (s.heap.push (set0 w)).objs.size := by
          rw [Heap.size_push]; exact Nat.ne_of_lt (Nat.lt_succ_of_lt hlS)
        have hSf : s.heap.objs.size ∉ [(s.heap.push (set0 w)).objs.size, l] := by
          rw [Heap.size_push]; simp only [List.mem_cons, List.mem_singleton, List.not_mem_nil, or_false, not_or]
          exact ⟨Nat.ne_of_lt (Nat.lt_succ_self _), Nat.ne_of_gt hlS⟩
        have hval : ∀ (i : Nat) (v : Value), items[i]? = some v → ∃ k t, ns[i]? = some k ∧ v = .int k t := fun i v hv => by
          have hi : i < ns.length := by rw [← hisz]; exact (Array.getElem?_eq_some_iff.mp hv).1
          obtain ⟨t, e⟩ := PyProof.Rows.IntsAre.int_at hit i v (by rw [Array.getElem?_toList]; exact hv)
          refine ⟨ns[i], t, List.getElem?_eq_getElem hi, ?_⟩
          rw [e, List.getD_eq_getElem?_getD, List.getElem?_eq_getElem hi] <;> rfl
        refine set_update_ints ((Walks.list hh3 _ l hneI items).toS) s.heap.objs.size
          hSf ns hisz hb hval (items.size - 0) 0 _ (by omega) (Nat.zero_le _)
          ⟨⟨_, Heap.get?_push_size _ rfl, rfl, rfl⟩, (hl1.push _)⟩ ?hS0 ?hR
        case hS0 =>
          have hget : ((s.heap.push (set0 w)).push { cls := .type "list_iterator", data := .fields #[.ref l, .int 0 0] }).get? s.heap.objs.size
              = some (set0 w) := Heap.get?_push_of_some _ hS
          exact ⟨0, Nat.le_refl 0, setR_new_at hget⟩
        case hR =>
          intro s' c' hm hc' hS'
          obtain ⟨h', g2, d', tk', os'⟩ := s'
          have eg : g2 = s.gens := hm.gens
          have ed : d' = s.drawn := hm.drawn
          have eo : os' = s.os := hm.os
          subst eg; subst ed; subst eo
          show wpAny _ _ _ _ _ _
          refine wpAny_pure ?_
          show wpAny _ _ (ret Value.none) _ _ _
          rw [hisz] at hc'
          refine wpAny_pure ⟨rfl, h', tk', c', rfl, hS', hc', fun b o e => ?_⟩
          have hb0 : b < s.heap.objs.size := Heap.lt_size e
          have hb1 : b ≠ s.heap.objs.size := Nat.ne_of_lt hb0
          have hb2 : b ≠ (s.heap.push (set0 w)).objs.size := by
            rw [Heap.size_push]; exact Nat.ne_of_lt (Nat.lt_succ_of_lt hb0)
          exact hm.heap b o (by simp only [List.mem_cons, List.mem_singleton, List.not_mem_nil, or_false, not_or]; exact ⟨hb1, hb2⟩) (Heap.get?_push_of_some _ (Heap.get?_push_of_some _ e))

      · cases r₂ with
        | error e => exact hr₂
        | ok fl₂ =>
          cases fl₂ with
          | ret r =>
            obtain ⟨rfl, h', tk, c', rfl, hS', hc', hk'⟩ := hr₂
            repeat (any_goals (first | assumption | wp_step))
            exact h _ _ _ hS' hc' hk'
          | _ => exact hr₂.elim
    | _ => exact hr.elim

end
end PFS
end
section
set_option Elab.async false
set_option linter.all false
set_option maxRecDepth 100000
set_option maxHeartbeats 2000000
/-! PFh: sorted, sorted(set(..)), len(set(..)), count, index. -/
namespace PF
open PySem PySem.Spec PyProof.Rows L2 PFS
mutual
def toK : D → NestedKey
  | .int i => .num i
  | .str x => .text x
  | .tuple xs => .tup (toKs xs)
  | _ => .none
def toKs : List D → List NestedKey
  | [] => []
  | x :: xs => toK x :: toKs xs
end
mutual
theorem toK_data : ∀ d : D, keyB d = true → (toK d).data = d
  | .none, _ => rfl
  | .int _, _ => rfl
  | .tuple xs, h => by
    show PyData.tuple (NestedKey.datas (toKs xs)) = _
    rw [toKs_datas xs h]
  | .bool _, h => nomatch h
  | .str _, h => nomatch h
  | .list _, h => nomatch h
  | .dict _, h => nomatch h
theorem toKs_datas : ∀ ds : List D, keyAll ds = true → NestedKey.datas (toKs ds) = ds
  | [], _ => rfl
  | d :: ds, h => by
    have h' : (keyB d && keyAll ds) = true := h
    simp only [Bool.and_eq_true] at h'
    show (toK d).data :: NestedKey.datas (toKs ds) = _
    rw [toK_data d h'.1, toKs_datas ds h'.2]
end
mutual
theorem toK_num : ∀ d : D, keyB d = true → numK (toK d) = true
  | .none, _ => rfl
  | .int _, _ => rfl
  | .tuple xs, h => toKs_num xs h
  | .bool _, h => nomatch h
  | .str _, h => nomatch h
  | .list _, h => nomatch h
  | .dict _, h => nomatch h
theorem toKs_num : ∀ ds : List D, keyAll ds = true → numAll (toKs ds) = true
  | [], _ => rfl
  | d :: ds, h => by
    have h' : (keyB d && keyAll ds) = true := h
    simp only [Bool.and_eq_true] at h'
    show (numK (toK d) && numAll (toKs ds)) = true
    rw [toK_num d h'.1, toKs_num ds h'.2]
    rfl
end
mutual
theorem toK_depth : ∀ d : D, keyB d = true → (toK d).depth = d.depth
  | .none, _ => by simp [toK, NestedKey.depth, PyData.depth]
  | .int _, _ => by simp [toK, NestedKey.depth, PyData.depth]
  | .tuple xs, h => by
    show (NestedKey.tup (toKs xs)).depth = _
    rw [NestedKey.depth, PyData.depth, toKs_depth xs h]
  | .bool _, h => nomatch h
  | .str _, h => nomatch h
  | .list _, h => nomatch h
  | .dict _, h => nomatch h
theorem toKs_depth : ∀ ds : List D, keyAll ds = true → NestedKey.depthAll (toKs ds) = PyData.depthAll ds
  | [], _ => rfl
  | d :: ds, h => by
    have h' : (keyB d && keyAll ds) = true := h
    simp only [Bool.and_eq_true] at h'
    show NestedKey.depthAll (toK d :: toKs ds) = _
    rw [NestedKey.depthAll, PyData.depthAll, toK_depth d h'.1, toKs_depth ds h'.2]
end
mutual
theorem reads_key {h : Heap} : ∀ (d : D) (u : Value) (as : List Addr), keyB d = true → Reads h u d as → NestedIs h (toK d) u ∧ as = []
  | .none, _, _, _, r => by cases r; exact ⟨.none, rfl⟩
  | .int _, _, _, _, r => by cases r; exact ⟨.int _ _, rfl⟩
  | .tuple xs, _, _, k, r => by
    cases r with
    | tuple h1 h2 h3 h4 =>
      obtain ⟨a, b⟩ := reads_keys xs _ _ k h4
      exact ⟨.tup h1 h2 h3 a, b⟩
  | .bool _, _, _, k, _ => nomatch k
  | .str _, _, _, k, _ => nomatch k
  | .list _, _, _, k, _ => nomatch k
  | .dict _, _, _, k, _ => nomatch k
theorem reads_keys {h : Heap} : ∀ (ds : List D) (us : List Value) (as : List Addr), keyAll ds = true → ReadsAll h us ds as → NestedAll h (toKs ds) us ∧ as = []
  | [], _, _, _, r => by cases r; exact ⟨.nil, rfl⟩
  | d :: ds, _, _, k, r => by
    have k' : (keyB d && keyAll ds) = true := k
    simp only [Bool.and_eq_true] at k'
    cases r with
    | cons r1 r2 =>
      obtain ⟨a, e⟩ := reads_key d _ _ k'.1 r1
      obtain ⟨b, e2⟩ := reads_keys ds _ _ k'.2 r2
      subst e e2
      exact ⟨.cons a b, rfl⟩
end
/-! ### the order -/
theorem dLe_trans (a b c : D) (h1 : W.dataLe false id a b = true) (h2 : W.dataLe false id b c = true) : W.dataLe false id a c = true := by
  have e : ∀ x y : D, W.dataLe false id x y = !W.dataLt y x := fun _ _ => rfl
  rw [e] at h1 h2 ⊢
  simp only [Bool.not_eq_true'] at h1 h2 ⊢
  cases q : W.dataLt c a with
  | false => rfl
  | true =>
    rcases lex_negTrans _ (W.keyToks b) _ q with z | z
    · rw [show W.dataLt c b = true from z] at h2
      cases h2
    · rw [show W.dataLt b a = true from z] at h1
      cases h1
theorem dLe_total (a b : D) : (W.dataLe false id a b || W.dataLe false id b a) = true := by
  show ((!W.dataLt b a) || (!W.dataLt a b)) = true
  cases h1 : W.dataLt b a with
  | false => rfl
  | true =>
    cases h2 : W.dataLt a b with
    | false => rfl
    | true =>
      have := lex_trans _ _ _ (show PyProof.Rows.lexLt itemOrd (W.keyToks b) (W.keyToks a) = true from h1) h2
      rw [lex_irrefl] at this
      cases this
theorem eqv_of_toks {a b : D} (hal : W.alike a b = true) (h : W.keyToks a = W.keyToks b) : PyData.eqv a b = true := by
  cases q : PyData.eqv a b with
  | true => rfl
  | false =>
    have z := (W.toks_eqv a b hal).2 q [.inl 0] [.inl 1]
    rw [h, W.lex_pre, lex_irrefl] at z
    exact absurd z (by decide)
theorem dLe_anti {a b : D} (hal : W.alike a b = true) (h1 : W.dataLe false id a b = true) (h2 : W.dataLe false id b a = true) : PyData.eqv a b = true := by
  have e : ∀ x y : D, W.dataLe false id x y = !W.dataLt y x := fun _ _ => rfl
  rw [e] at h1 h2
  simp only [Bool.not_eq_true'] at h1 h2
  exact eqv_of_toks hal (lex_total _ _ h2 h1)
mutual
theorem key_eqv : ∀ a b : D, keyB a = true → keyB b = true → (PyData.eqv a b = true ↔ a = b)
  | .none, b, _, hb => by cases b <;> first | (cases hb; done) | simp [PyData.eqv]
  | .int i, b, _, hb => by cases b <;> first | (cases hb; done) | simp [PyData.eqv]
  | .tuple xs, .tuple ys, ha, hb => by
    rw [show PyData.eqv (.tuple xs) (.tuple ys) = PyData.eqvAll xs ys by simp [PyData.eqv], keys_eqv xs ys ha hb]
    simp
  | .tuple xs, .none, _, _ => by simp [PyData.eqv]
  | .tuple xs, .int _, _, _ => by simp [PyData.eqv]
  | .tuple _, .bool _, _, h => nomatch h
  | .tuple _, .str _, _, h => nomatch h
  | .tuple _, .list _, _, h => nomatch h
  | .tuple _, .dict _, _, h => nomatch h
  | .bool _, _, h, _ => nomatch h
  | .str _, _, h, _ => nomatch h
  | .list _, _, h, _ => nomatch h
  | .dict _, _, h, _ => nomatch h
theorem keys_eqv : ∀ a b : List D, keyAll a = true → keyAll b = true → (PyData.eqvAll a b = true ↔ a = b)
  | [], [], _, _ => by simp [PyData.eqvAll]
  | [], _ :: _, _, _ => by simp [PyData.eqvAll]
  | _ :: _, [], _, _ => by simp [PyData.eqvAll]
  | x :: xs, y :: ys, ha, hb => by
    have ha' : (keyB x && keyAll xs) = true := ha
    have hb' : (keyB y && keyAll ys) = true := hb
    simp only [Bool.and_eq_true] at ha' hb'
    rw [W.eqv_all_cons, Bool.and_eq_true, key_eqv x y ha'.1 hb'.1, keys_eqv xs ys ha'.2 hb'.2]
    simp
end
end PF
end
section
set_option Elab.async false
set_option linter.all false
set_option maxRecDepth 100000
set_option maxHeartbeats 2000000
/-! PFs1: sets and sorted lists of tuples' items. -/
namespace PFS
open PySem PySem.Spec PyProof.Rows L2
section
variable {P : Program} {w : World} {A : Around} {E : Value → Shared → Prop} {s : Shared}
set_option maxRecDepth 100000 in
set_option maxHeartbeats 3200000 in
/-- set(xs) -/
theorem call_set_nT {l : Addr} {items : Array Value} (ks : List (Addr × NestedKey)) {Q : Value → Shared → Prop} (hh : A.handled = none) (hl : s.heap.IsTuple l items) (hit : items.toList = ks.map fun p => Value.ref p.1)
    (hk : ∀ p ∈ ks, IsN s.heap p.2 p.1) (hfew : ks.length < 64) (hu : A.units + 24 < cLine)
    (h : ∀ (h' : Heap) (tk : Nat) L es ep t, SetN w h' s.heap.objs.size L es ep t → Got ks ks.length L → (∀ b o, s.heap.get? b = some o → h'.get? b = some o) → Q (.ref s.heap.objs.size) { s with heap := h', toks := tk }) :
    wpAny (model P w) A (call (.type "set") [.ref l]) Q E s := by
  have hisz : items.size = ks.length := by
    have q := congrArg List.length hit
    rw [Array.length_toList, List.length_map] at q
    exact q
  obtain ⟨c, tl, hway⟩ := F.called_set.mro
  have hmade := F.called_set.made
  have hsub := F.called_set.sub
  refine wpAny_call (codeAny_of_tree ?_)
  show wpAny _ _ (callAny (.type "set") _) _ _ _
  refine wpAny_pure ⟨Code.quiet_builtin _ (by decide +kernel), codeAny_builtin F.entry_type_call ?_⟩
  rw [Around.under_plain (weight_type_call_type "set" [.ref l] []) rfl]
  have h1 := F.called_set.notType
  have h2 := F.called_set.canCreate
  have hct := F.typeCall_set_1 (.ref l)
  repeat (any_goals (first | assumption | wp_step))

  refine codeAny_mono (code_set_led1 (.ref l) (E := E) (Q₁ := fun obj s₁ => obj = .ref s.heap.objs.size ∧ s₁ = { s with heap := s.heap.push (set0 w) }) ⟨rfl, rfl⟩) fun r s₁ hr => ?_
  cases r with
  | error e => exact hr
  | ok fl =>
    cases fl with
    | ret obj =>
      obtain ⟨rfl, rfl⟩ := hr
      have hS : (s.heap.push (set0 w)).get? s.heap.objs.size = some (set0 w) := Heap.get?_push_size _ rfl
      have hT : Shared.TypeIs { s with heap := s.heap.push (set0 w) } (.ref s.heap.objs.size) "set" := ⟨_, hS, rfl⟩
      have hli := F.called_set.init.lookup
      have hbi := F.called_set.init.bind (.ref s.heap.objs.size)
      repeat (any_goals (first | assumption | wp_step))

      refine codeAny_mono (codeAny_call_builtin (R := wants (fun r s₂ => r = .none ∧ ∃ h' tk L es ep t, s₂ = { s with heap := h', toks := tk } ∧ SetN w h' s.heap.objs.size L es ep t ∧ Got ks ks.length L ∧
          (∀ b o, s.heap.get? b = some o → h'.get? b = some o)) E) F.called_set.init.plain F.entry_set_init (check_set_init_1 hT ?_)) fun r₂ s₂ hr₂ => ?_
      · obtain ⟨ol, hol, hcl, nl, hdl⟩ := hl
        obtain ⟨ocls, odict, odata, oslots⟩ := ol
        simp only at hcl hdl
        subst hcl; subst hdl
        have hol' : (s.heap.push (set0 w)).get? l = some { cls := .type "tuple", dict := odict, data := .seq items nl, slots := oslots } := Heap.get?_push_of_some _ hol
        have hsls := F.sub_tuple_set
        have hslf := F.sub_tuple_frozenset
        have hne : (Value.type "tuple" == Value.type "dict") = false := by decide
        have hl1 : (s.heap.push (set0 w)).IsTuple l items := ⟨_, hol', rfl, nl, rfl⟩
        unfold Builtin.«set.__init__» noKeywords Builtin.Frozenset.updateFrom
        generalize hPI : pyIter = PI
        wp_walk
        subst hPI

        refine wpAny_pyIter_tuple hl1 ?_
        refine wpAny_bind (wpAny_runValue ?_)
        have hlS : l < s.heap.objs.size := Heap.lt_size hol
        have hh3 : A.in1.in1.in1.handled = none := by simp [hh]
        have hz1 : (s.heap.push (set0 w)).objs.size = s.heap.objs.size + 1 := Heap.size_push ..
        have hneI : l ≠ (s.heap.push (set0 w)).objs.size := by
          rw [Heap.size_push]; exact Nat.ne_of_lt (Nat.lt_succ_of_lt hlS)
        have hSf : s.heap.objs.size ∉ [(s.heap.push (set0 w)).objs.size, l] := by
          rw [Heap.size_push]; simp only [List.mem_cons, List.mem_singleton, List.not_mem_nil, or_false, not_or]
          exact ⟨Nat.ne_of_lt (Nat.lt_succ_self _), Nat.ne_of_gt hlS⟩
        have hval : ∀ (i : Nat) (v : Value), items[i]? = some v → ∃ p, ks[i]? = some p ∧ v = .ref p.1 := fun i v hv => by
          have q : items.toList[i]? = some v := by rw [Array.getElem?_toList]; exact hv
          rw [hit, List.getElem?_map] at q
          cases hq : ks[i]? with
          | none => rw [hq] at q; cases q
          | some p =>
            rw [hq] at q
            exact ⟨p, rfl, (Option.some.inj q).symm⟩
        have none_of : ∀ b, s.heap.objs.size ≤ b → s.heap.get? b = none := fun b hb => by
          cases q : s.heap.get? b with
          | none => rfl
          | some o => exact absurd (Nat.lt_of_lt_of_le (Heap.lt_size q) hb) (Nat.lt_irrefl _)
        refine set_update_n ((Walks.tuple hh3 _ l hneI items).toS) s.heap.objs.size
          hSf ks hisz hfew hval s.heap hk (none_of _ (Nat.le_refl _)) (fun b hb => none_of b (by
            rw [List.mem_singleton.mp hb, Heap.size_push]
            exact Nat.le_succ _)) (show A.in1.in1.in1.units + 16 < cLine from by simp only [Around.in1_units]; omega) (items.size - 0) 0 _ (by omega) (Nat.zero_le _)
          ⟨⟨_, Heap.get?_push_size _ rfl, rfl, rfl⟩, (hl1.push _)⟩ (fun b o e => Heap.get?_push_of_some _ (Heap.get?_push_of_some _ e)) ?hS0 ?hR
        case hS0 =>
          have hget : ((s.heap.push (set0 w)).push { cls := .type "tuple_iterator", data := .fields #[.ref l, .int 0 0] }).get? s.heap.objs.size
              = some (set0 w) := Heap.get?_push_of_some _ hS
          exact ⟨[], #[], 0, _, setN_fresh hget, Got.zero ks⟩
        case hR =>
          intro s' L es ep t hm hS' g' hkp
          obtain ⟨h', g2, d', tk', os'⟩ := s'
          have eg : g2 = s.gens := hm.gens
          have ed : d' = s.drawn := hm.drawn
          have eo : os' = s.os := hm.os
          subst eg; subst ed; subst eo
          show wpAny _ _ _ _ _ _
          refine wpAny_pure ?_
          show wpAny _ _ (ret Value.none) _ _ _
          rw [hisz] at g'
          exact wpAny_pure ⟨rfl, h', tk', L, es, ep, t, rfl, hS', g', hkp⟩

      · cases r₂ with
        | error e => exact hr₂
        | ok fl₂ =>
          cases fl₂ with
          | ret r =>
            obtain ⟨rfl, h', tk, L, es, ep, t, rfl, hS', g', hk'⟩ := hr₂
            repeat (any_goals (first | assumption | wp_step))
            exact h _ _ _ _ _ _ hS' g' hk'
          | _ => exact hr₂.elim
    | _ => exact hr.elim

end
end PFS
namespace PySem.W
open PySem PySem.Spec PyProof.Rows
section
variable {prog : Program} {w : World} {A : Around} {E : Value → Shared → Prop} {s : Shared} {β : Type} {vs : List Value} {bs : List β} {enc : β → PyData} {R : Value → β → Prop}
/-- a tuple's items, gathered -/
theorem gather_tup {l : Addr} {Q : List Value → Shared → Prop} (hl : s.heap.IsTuple l vs.toArray) (hsz : vs.length ≤ sizeLine)
    (h : Q vs { s with heap := (s.heap.push (seqObj "list" #[] 0)).update s.heap.objs.size (Obj.mapSeq (· ++ vs.toArray)) }) : wpAny (model prog w) A (collect (.ref l)) Q E s := by
  obtain ⟨o, ho, hc, n, hd⟩ := id hl
  unfold collect
  refine wpAny_bind (wpAny_runValue (codeAny_builtin entry_proto_collect' ?_))
  show wpAny _ _ (do again (.builtin "list.__iadd__" ⟨[← newList [], .ref l], []⟩)) _ _ s
  refine wpAny_bind (wpAny_newList (wpAny_pure ⟨Code.quiet_builtin _ (by decide +kernel), codeAny_builtin entry_list_iadd' ?_⟩))
  show wpAny _ _ (Builtin.List.listExtendWith (.ref s.heap.objs.size) (.ref l) (.ref s.heap.objs.size)) _ _ { s with heap := s.heap.push (seqObj "list" #[] 0) }
  unfold Builtin.List.listExtendWith
  have hp : (s.heap.push (seqObj "list" #[] 0)).get? l = some o := Heap.get?_push_of_some _ ho
  refine wpAny_bind (wpAny_typeOf (T := "tuple") ⟨o, hp, hc⟩ ?_)
  have ht : (Value.type "tuple" == Value.type "tuple") = true := by rfl
  rw [if_pos (by rw [ht]; simp)]
  refine wpAny_bind (listItems_at hp hd ?_)
  refine wpAny_bind (listItems_at (xs := #[]) (n := 0) (Heap.get?_push_size _ rfl) rfl ?_)
  rw [if_neg (by simp)]
  refine wpAny_bind (listUpdate_at (xs := #[]) (n := 0) (Heap.get?_push_size _ rfl) rfl ?_ (Nat.zero_le _) (by show (#[] ++ vs.toArray).size ≤ sizeLine + 1; simp only [Array.size_append, List.size_toArray, List.length_nil]; omega))
  refine wpAny_pure ?_
  show wpAny (model prog w) A (do
      let o ← load s.heap.objs.size
      match o.data with
      | .seq xs _ => pure xs.toList
      | _ => unsupported "internal:collect") Q E { s with heap := (s.heap.push (seqObj "list" #[] 0)).update s.heap.objs.size (Obj.mapSeq (· ++ vs.toArray)) }
  refine wpAny_bind (wpAny_load (get?_update_seq (Heap.get?_push_size _ rfl) _) ?_)
  show wpAny _ _ (pure ((#[] : Array Value) ++ vs.toArray).toList) Q E _
  rw [show ((#[] : Array Value) ++ vs.toArray).toList = vs by simp]
  exact wpAny_pure h
theorem sorted_tup_of {l : Addr} {kw : List (Str × Value)} {Q : Value → Shared → Prop} (hl : s.heap.IsTuple l vs.toArray) (hL : vs.length ≤ sizeLine) (ha1 : argsOk "sorted" ⟨[.ref l], kw⟩) (ha2 : ∀ x, argsOk "list.sort" ⟨[.ref x], kw⟩)
    (body : ∀ E' : Value → Shared → Prop, wpAny (model prog w) A.in1.in1 (Builtin.«list.sort» ⟨[.ref (s.heap.objs.size + 1)], kw⟩) (fun f s' => f = .done (.ret .none) ∧ Q (.ref (s.heap.objs.size + 1)) s') E' { s with heap := copyHeap s.heap vs }) :
    wpAny (model prog w) A (call (.builtin "sorted") [.ref l] kw) Q E s := by
  refine call_function_entry_kw kind_sorted plain_sorted entry_sorted ha1 ?_
  unfold Builtin.«sorted»
  refine wpAny_bind (m := checkCount "sorted" 1 1 _) (wpAny_pure ?_)
  refine wpAny_bind (gather_tup hl hL ?_)
  refine wpAny_bind (wpAny_newList ?_ hL)
  have hsz : ((s.heap.push (seqObj "list" #[] 0)).update s.heap.objs.size (Obj.mapSeq (· ++ vs.toArray))).objs.size = s.heap.objs.size + 1 := by
    rw [Heap.size_update, size_push']
  show wpAny _ _ _ _ _ { s with heap := copyHeap s.heap vs }
  rw [hsz]
  refine wpAny_bind (wpAny_holding (wpAny_call_entry_kw slot_list_sort ⟨_, copyHeap_at s.heap vs, rfl⟩ entry_list_sort ?body (ha2 _)))
  case body =>
    show wpAny (model prog w) A.in1.in1 (Builtin.«list.sort» ⟨[.ref (s.heap.objs.size + 1)], kw⟩) _ _ _
    refine wpAny_mono (body _) (fun f s' hf => ?_) fun _ _ e => e
    obtain ⟨rfl, hq⟩ := hf
    exact ⟨_, rfl, wpAny_pure ⟨_, rfl, hq⟩⟩
/-- sorted(a tuple) -/
theorem sorted_tup {l : Addr} {Q : Value → Shared → Prop} (hl : s.heap.IsTuple l vs.toArray) (e : EachIs R vs bs) (er : EachIs (fun v b => ∃ as, Reads s.heap v (enc b) as) vs bs) (hal : AllAlike (bs.map enc)) (hk : Sortable (bs.map enc)) (hL : bs.length ≤ sizeLine)
    (hu : ∀ b, b ∈ bs → A.units + 2 + (enc b).depth < cLine) (h : ∀ out, out.length = bs.length → EachIs R out (bs.mergeSort (dataLe false enc)) → Q (.ref (s.heap.objs.size + 1)) { s with heap := sortedAll s.heap vs (List.toArray out) }) :
    wpAny (model prog w) A (call (.builtin "sorted") [.ref l]) Q E s := by
  have er' : EachIs (fun v b => ∃ as, Reads (sortingHeap (copyHeap s.heap vs) (s.heap.objs.size + 1) vs) v (enc b) as) vs bs := er.mono fun _ _ ⟨as, r⟩ => ⟨as, PyProof.Rows.Reads.keeps (fun _ _ => sorting_copy_old) r⟩
  have hL2 : vs.length ≤ sizeLine := by rw [e.length]; exact hL
  refine sorted_tup_of hl hL2 (args_sorted1 _) (fun _ => args_list_sort _) fun _ => list_sort_vals (s := { s with heap := copyHeap s.heap vs }) (copyHeap_at s.heap vs) (SortsAt.data (s := { s with heap := sortingHeap (copyHeap s.heap vs) (s.heap.objs.size + 1) vs }) (each_map (R := fun v d => ∃ as, Reads (sortingHeap (copyHeap s.heap vs) (s.heap.objs.size + 1) vs) v d as) enc er') hal hk (bound_map hu)) hL2 ⟨rfl, ?_⟩
  exact h _ (by rw [sortVals_length false rfl]; exact e.length) (sortVals_data false e er' hal)
end
end PySem.W
end
section
set_option Elab.async false
set_option linter.all false
set_option maxRecDepth 100000
set_option maxHeartbeats 2000000
/-! PFi: the rules of sorted(..), sorted(set(..)), len(set(..)), count, index over data. -/
namespace PF
open PySem PySem.Spec PyProof.Rows L2 PFS
abbrev dle : D → D → Bool := W.dataLe false id
theorem insD_split {a : D} : ∀ {l1 l2 : List D}, (∀ b ∈ l1, dle a b = false) → (∀ b ∈ l2.head?, dle a b = true) → insD a (l1 ++ l2) = l1 ++ a :: l2
  | [], [], _, _ => rfl
  | [], b :: l2, _, h => by
    rw [List.nil_append, List.nil_append, insD, if_pos (show W.dataLe false id a b = true from h b rfl)]
  | c :: l1, l2, k, h => by
    rw [List.cons_append, List.cons_append, insD, if_neg (by rw [show W.dataLe false id a c = false from k c List.mem_cons_self]; decide), insD_split (fun b hb => k b (List.mem_cons_of_mem _ hb)) h]
theorem sortD_eq : ∀ l : List D, sortD l = l.mergeSort dle
  | [] => by rw [sortD, List.mergeSort_nil]
  | a :: l => by
    obtain ⟨l1, l2, e1, e2, e3⟩ := List.mergeSort_cons (le := dle) dLe_trans dLe_total a l
    rw [sortD, sortD_eq l, e1, e2]
    refine insD_split (fun b hb => by simpa using e3 b hb) fun b hb => ?_
    have p := List.pairwise_mergeSort (le := dle) dLe_trans dLe_total (a :: l)
    rw [e1] at p
    have p2 := (List.pairwise_append.mp p).2.1
    cases l2 with
    | nil => cases hb
    | cons c l2 =>
      cases hb
      exact (List.pairwise_cons.mp p2).1 b List.mem_cons_self
theorem sort_perm {l1 l2 : List D} (hp : l1.Perm l2) (hal : ∀ a ∈ l1, ∀ b ∈ l1, W.alike a b = true) (hk : ∀ a ∈ l1, keyB a = true) (h2 : l2.Pairwise fun a b => dle a b = true) : l1.mergeSort dle = l2 := by
  have p1 := List.mergeSort_perm l1 dle
  refine List.Perm.eq_of_pairwise (le := fun a b => dle a b = true) (fun a b ha hb x y => ?_) (List.pairwise_mergeSort dLe_trans dLe_total l1) h2 (p1.trans hp)
  have ha' := p1.mem_iff.mp ha
  have hb' := hp.mem_iff.mpr hb
  exact (key_eqv a b (hk a ha') (hk b hb')).mp (dLe_anti (hal a ha' b hb') x y)
theorem dedup_mem : ∀ {l : List D}, (∀ a ∈ l, keyB a = true) → ∀ x, x ∈ dedup l ↔ x ∈ l
  | [], _, x => by simp [dedup]
  | a :: l, h, x => by
    have ih := dedup_mem (l := l) (fun b hb => h b (List.mem_cons_of_mem _ hb)) x
    rw [dedup, List.mem_cons, List.mem_filter, ih, List.mem_cons]
    constructor
    · rintro (e | ⟨h1, _⟩)
      · exact .inl e
      · exact .inr h1
    · rintro (e | h1)
      · exact .inl e
      · by_cases e : x = a
        · exact .inl e
        · refine .inr ⟨h1, ?_⟩
          cases q : PyData.eqv x a with
          | false => rfl
          | true => exact absurd ((key_eqv x a (h x (List.mem_cons_of_mem _ h1)) (h a List.mem_cons_self)).mp q) e
theorem dedup_nodup : ∀ {l : List D}, (∀ a ∈ l, keyB a = true) → (dedup l).Nodup
  | [], _ => List.nodup_nil
  | a :: l, h => by
    have hl : ∀ b ∈ l, keyB b = true := fun b hb => h b (List.mem_cons_of_mem _ hb)
    rw [dedup, List.nodup_cons]
    refine ⟨fun hm => ?_, (dedup_nodup hl).filter _⟩
    have z := (List.mem_filter.mp hm).2
    rw [(key_eqv a a (h a List.mem_cons_self) (h a List.mem_cons_self)).mpr rfl] at z
    cases z
section
variable {P : Program} {w : World} {A : Around} {E : Value → Shared → Prop} {s : Shared}
theorem sorted_setN {a : Addr} {L : List (Addr × NestedKey)} {es : Array (Int × Value)} {ep : Nat} {t : SetTable} {Q : Value → Shared → Prop} (R : SetN w s.heap a L es ep t) (hh : A.handled = none)
    (er : ∀ p ∈ L, Reads s.heap (.ref p.1) p.2.data []) (hal : ∀ p ∈ L, ∀ q ∈ L, W.alike p.2.data q.2.data = true) (hk : ∀ p ∈ L, ∃ x r, p.2.data = .tuple (x :: r)) (hu : ∀ p ∈ L, A.units + 2 + p.2.data.depth < cLine)
    (hQ : ∀ s' p (out : Array Value) (c : Nat) (L' : List (Addr × NestedKey)), (∀ b o, s.heap.get? b = some o → s'.heap.get? b = some o) → s'.gens = s.gens → s'.os = s.os → s.heap.objs.size ≤ p →
      s'.heap.get? p = some (seqObj "list" out c) → out.toList = L'.map (fun q => Value.ref q.1) → L'.Perm L → (L'.map fun q => q.2.data).Pairwise (fun x y => dle x y = true) → Q (.ref p) s') :
    wpAny (model P w) A (call (.builtin "sorted") [.ref a]) Q E s := by
  obtain ⟨o, ho, hex, hd⟩ := R.ob
  have hsz := R.size
  have hfew := R.few
  refine Calls.call_function_entry kind_sorted plain_sorted entry_sorted (args_sorted1 _) ?_
  unfold Builtin.«sorted»
  refine wpAny_bind (m := checkCount "sorted" 1 1 _) (wpAny_pure ?_)
  refine wpAny_bind (collect_set (A := A.in1) hh ⟨o, ho, hex.1, hd⟩ R.fits (by unfold scanBound; omega) R.tab.ris R.led fun s1 vs k1 hz g1 o1 pm => ?_)
  have hes : es.toList.map (·.2) = L.map fun q => Value.ref q.1 := by
    rw [R.rows]
    unfold rowsN
    rw [List.map_map]
    rfl
  rw [hes] at pm
  -- the values are the addresses, in some order
  have ord : ∀ vs : List Value, (∀ v ∈ vs, ∃ q ∈ L, v = Value.ref q.1) → ∃ L1 : List (Addr × NestedKey), vs = L1.map (fun q => Value.ref q.1) ∧ ∀ q ∈ L1, q ∈ L := by
    intro vs
    induction vs with
    | nil => intro _; exact ⟨[], rfl, fun q hq => nomatch hq⟩
    | cons v vs ih =>
      intro hv
      obtain ⟨q, hq, e⟩ := hv v List.mem_cons_self
      obtain ⟨L1, e1, hs⟩ := ih fun u hu => hv u (List.mem_cons_of_mem _ hu)
      refine ⟨q :: L1, by rw [List.map_cons, e, e1], fun r hr => ?_⟩
      rcases List.mem_cons.mp hr with z | z
      · rw [z]; exact hq
      · exact hs r z
  have one : ∀ q ∈ L, ∀ r ∈ L, q.1 = r.1 → q = r := fun q hq r hr e => by
    have a1 := R.tup q hq
    have a2 := R.tup r hr
    rw [e] at a1
    exact Prod.ext e (a1.inj a2)
  obtain ⟨L1, e1, hs1⟩ := ord vs fun v hv => by
    obtain ⟨q, hq, e⟩ := List.mem_map.mp (pm.mem_iff.mp hv)
    exact ⟨q, hq, e.symm⟩
  subst e1
  have pL : L1.Perm L := by
    have pm1 : (L1.map (fun q => Value.ref q.1)).Perm (L.map fun q => Value.ref q.1) := pm
    have nL : L.Nodup := PFS.nodup_of_map R.nd
    have nref : (L.map fun q => Value.ref q.1).Nodup := by
      refine List.pairwise_map.mpr (List.Pairwise.imp_of_mem (fun {q r} hq hr hne e => ?_) nL)
      exact hne (one q hq r hr (Value.ref.inj e))
    have n1 : L1.Nodup := PFS.nodup_of_map (pm1.nodup_iff.mpr nref)
    refine (List.perm_ext_iff_of_nodup n1 nL).mpr fun q => ⟨hs1 q, fun hq => ?_⟩
    have hm : Value.ref q.1 ∈ L1.map (fun q => Value.ref q.1) := pm1.mem_iff.mpr (List.mem_map.mpr ⟨q, hq, rfl⟩)
    obtain ⟨r, hr, e⟩ := List.mem_map.mp hm
    rw [← one r (hs1 r hr) q hq (Value.ref.inj e)]
    exact hr
  have hvl : (L1.map fun q => Value.ref q.1).length < 64 := by rw [pm.length_eq, List.length_map]; exact hfew
  have hl1 : L1.length = L.length := pL.length_eq
  refine wpAny_bind (wpAny_newList ?_ (by rw [sizeLine_eq]; omega))
  have hoL : (s1.heap.push (seqObj "list" (L1.map fun q => Value.ref q.1).toArray 0)).get? s1.heap.objs.size = some (seqObj "list" (L1.map fun q => Value.ref q.1).toArray 0) := Heap.get?_push_size _ rfl
  have each : ∀ {L2 : List (Addr × NestedKey)}, (∀ q ∈ L2, q ∈ L) → W.EachIs (fun v (q : Addr × NestedKey) => v = Value.ref q.1) (L2.map fun q => Value.ref q.1) L2 ∧
      W.EachIs (fun v (q : Addr × NestedKey) => ∃ as, Reads (s1.heap.push (seqObj "list" (L1.map fun q => Value.ref q.1).toArray 0)) v q.2.data as ∧ s1.heap.objs.size ∉ as) (L2.map fun q => Value.ref q.1) L2 := by
    intro L2
    induction L2 with
    | nil => intro _; exact ⟨.nil, .nil⟩
    | cons q L2 ih =>
      intro hq
      obtain ⟨h1, h2⟩ := ih fun r hr => hq r (List.mem_cons_of_mem _ hr)
      refine ⟨.cons rfl h1, .cons ⟨[], ?_, List.not_mem_nil⟩ h2⟩
      exact PyProof.Rows.Reads.keeps (fun b o e => Heap.get?_push_of_some _ (k1 b o e)) (er q (hq q List.mem_cons_self))
  have hL : L1.length ≤ sizeLine := by rw [sizeLine_eq]; omega
  have alk : W.AllAlike (L1.map fun q => q.2.data) := by
    intro x hx y hy
    obtain ⟨p, hp, rfl⟩ := List.mem_map.mp hx
    obtain ⟨q, hq, rfl⟩ := List.mem_map.mp hy
    exact hal p (hs1 p hp) q (hs1 q hq)
  have srt : W.Sortable (L1.map fun q => q.2.data) := .inl fun d hd => by
    obtain ⟨p, hp, rfl⟩ := List.mem_map.mp hd
    exact hk p (hs1 p hp)
  refine wpAny_bind (wpAny_holding (W.list_sort_data (s := { s1 with heap := s1.heap.push (seqObj "list" (L1.map fun q => Value.ref q.1).toArray 0) }) (vs := L1.map fun q => Value.ref q.1) (bs := L1) (enc := fun q => q.2.data) (R := fun v q => v = Value.ref q.1) hoL (each hs1).1 (each hs1).2 alk srt hL
    (fun q hq => by have := hu q (hs1 q hq); rw [Around.in1_units]; omega) fun out a1 a2 => ?_))
  obtain ⟨c, hc⟩ := sortedHeap_at (vs := L1.map fun q => Value.ref q.1) (out := List.toArray out) hoL
  have pS := List.mergeSort_perm L1 (W.dataLe false fun q : Addr × NestedKey => q.2.data)
  have ho2 : ∀ {us : List Value} {L2 : List (Addr × NestedKey)}, W.EachIs (fun v (q : Addr × NestedKey) => v = Value.ref q.1) us L2 → us = L2.map fun q => Value.ref q.1 := by
    intro us L2 h
    induction h with
    | nil => rfl
    | cons r _ ih => rw [List.map_cons, ← ih, r]
  refine wpAny_pure ⟨_, rfl, hQ _ s1.heap.objs.size (List.toArray out) c _ (fun b u e => ?_) g1 o1 hz hc (by simpa using ho2 a2) (pS.trans pL) ?_⟩
  · have q := k1 b u e
    have hlt := Heap.lt_size q
    show (sortedHeap (s1.heap.push (seqObj "list" (L1.map fun q => Value.ref q.1).toArray 0)) s1.heap.objs.size (L1.map fun q => Value.ref q.1) (List.toArray out)).get? b = some u
    rw [sortedHeap_old (Nat.ne_of_lt hlt) (by rw [size_push']; exact Nat.lt_succ_of_lt hlt)]
    exact Heap.get?_push_of_some _ q
  · exact List.pairwise_map.mpr (List.pairwise_mergeSort (le := W.dataLe false fun q : Addr × NestedKey => q.2.data) (fun a b c h1 h2 => dLe_trans _ _ _ h1 h2) (fun a b => dLe_total _ _) L1)
end
theorem mk_ks {h : Heap} : ∀ {us : List Value} {ds : List D} {as : List Addr}, ReadsAll h us ds as → (∀ d ∈ ds, ∃ xs, d = .tuple xs ∧ keyB d = true ∧ d.depth ≤ 8) →
    ∃ ks : List (Addr × NestedKey), us = ks.map (fun p => Value.ref p.1) ∧ ks.map (fun p => p.2.data) = ds ∧ ∀ p ∈ ks, IsN h p.2 p.1 ∧ Reads h (.ref p.1) p.2.data []
  | _, [], _, r, _ => by cases r; exact ⟨[], rfl, rfl, fun p hp => nomatch hp⟩
  | _, d :: ds, _, r, hk => by
    cases r with
    | cons r1 r2 =>
      obtain ⟨ks, e1, e2, e3⟩ := mk_ks r2 fun x hx => hk x (List.mem_cons_of_mem _ hx)
      obtain ⟨xs, ed, kb, dp⟩ := hk d List.mem_cons_self
      obtain ⟨n1, e4⟩ := reads_key d _ _ kb r1
      subst e4
      subst ed
      cases r1 with
      | @tuple a o vs n _ _ h1 h2 h3 h4 =>
        refine ⟨(a, toK (.tuple xs)) :: ks, by rw [List.map_cons, ← e1], by rw [List.map_cons, e2, toK_data _ kb], fun p hp => ?_⟩
        rcases List.mem_cons.mp hp with e | hp
        · rw [e]
          refine ⟨⟨n1, by rw [toK_depth _ kb]; exact dp, toK_num _ kb⟩, ?_⟩
          rw [show ((a, toK (.tuple xs)) : Addr × NestedKey).2.data = .tuple xs from toK_data _ kb]
          exact .tuple h1 h2 h3 h4
        · exact e3 p hp
end PF
namespace PF
open PySem PySem.Spec PyProof.Rows L2 PFS
theorem intsAre_of : ∀ {ns : List Int} {us : List Value}, Vals (ns.map V.int) us → IntsAre us ns
  | [], _, .nil => .nil
  | n :: ns, _, .cons r t => by
    obtain ⟨k, rfl⟩ := r
    exact .cons n k (intsAre_of t)
theorem vals_of : ∀ {ns : List Int} {us : List Value}, IntsAre us ns → Vals (ns.map V.int) us
  | [], _, .nil => .nil
  | _ :: _, _, .cons _ k t => .cons ⟨k, rfl⟩ (vals_of t)
theorem repl_of_ints {K : PySem.W.Frag} {H : Hp} : ∀ ns : List Int, RepL K H (ns.map V.int) (ns.map PyData.int)
  | [] => .nil
  | n :: ns => .cons (.int n) (repl_of_ints ns)
theorem ints_all {ds : List D} (h : (ds.all fun d => match d with | .int _ => true | _ => false) = true) : ∃ ns : List Int, ds = ns.map PyData.int := by
  induction ds with
  | nil => exact ⟨[], rfl⟩
  | cons d ds ih =>
    rw [List.all_cons, Bool.and_eq_true] at h
    obtain ⟨ns, e⟩ := ih h.2
    cases d with
    | int i => exact ⟨i :: ns, by rw [e]; rfl⟩
    | _ => cases h.1
theorem keyB_ints {ns : List Int} : ∀ a ∈ ns.map PyData.int, keyB a = true := fun a ha => by
  obtain ⟨n, _, rfl⟩ := List.mem_map.mp ha
  rfl
theorem tups_all {ds : List D} (h : (ds.all fun d => match d with | .tuple xs => keyAll xs && decide (PyData.depthAll xs ≤ 7) | _ => false) = true) : ∀ d ∈ ds, ∃ xs, d = .tuple xs ∧ keyB d = true ∧ d.depth ≤ 8 := fun d hd => by
  have z := List.all_eq_true.mp h d hd
  cases d with
  | tuple xs =>
    simp only [Bool.and_eq_true, decide_eq_true_eq] at z
    refine ⟨xs, rfl, z.1, ?_⟩
    rw [PyData.depth]
    omega
  | _ => cases z
theorem depth_mem {x : D} : ∀ {ds : List D}, x ∈ ds → x.depth ≤ PyData.depthAll ds
  | d :: ds, h => by
    rw [PyData.depthAll]
    rcases List.mem_cons.mp h with e | h
    · rw [e]; omega
    · have := depth_mem h; omega
theorem sortF_ok {ds : List D} {r : D} (h : sortF ds = some r) : (∀ a ∈ ds, ∀ b ∈ ds, W.alike a b = true) ∧ sortB ds = true ∧ PyData.depthAll ds ≤ 64 ∧ r = .list (ds.mergeSort dle) := by
  unfold sortF at h
  split at h
  · rename_i e
    simp only [Bool.and_eq_true, decide_eq_true_eq] at e
    exact ⟨alikeB_ok e.1.1, e.1.2, e.2, by rw [← sortD_eq]; exact (Option.some.inj h).symm⟩
  · cases h
/-- a set just laid behind I, from a list of data -/
structure SetOfD (X : Cx) (H : Hp) (h : Heap) (S : Addr) (ds : List D) : Prop where
  cases_ : (∃ (L : List (Addr × NestedKey)) (es : Array (Int × Value)) (ep : Nat) (t : SetTable), SetN X.w h S L es ep t ∧ (∀ p ∈ L, Reads h (.ref p.1) p.2.data [] ∧ Rep X.K H (.ref p.1) p.2.data ∧ p.2.data ∈ ds) ∧ (L.map fun p => p.2.data).Perm (dedup ds)) ∨
    ∃ (ns : List Int) (c : Nat), ds = ns.map PyData.int ∧ SetR X.w h S (fun j => decide (j ∈ ns)) c ∧ c ≤ ns.length
section
variable {X : Cx} {pins : List (Addr × Obj)} {σ : L2.St} {H : Hp} {s : Shared}
theorem ks_rep {K : PySem.W.Frag} : ∀ {ks : List (Addr × NestedKey)} {xs : List V}, RepL K H xs (ks.map fun p => p.2.data) → Vals xs (ks.map fun p => Value.ref p.1) → ∀ q ∈ ks, Rep K H (.ref q.1) q.2.data
  | [], _, _, _, q, hq => nomatch hq
  | k :: ks, _, .cons r t, .cons v vs, q, hq => by
    rcases List.mem_cons.mp hq with e | hq
    · rw [e]
      have e2 : _ = V.ref k.1 := v.inj (show RelV (.ref k.1) (.ref k.1) from rfl)
      rw [← e2]
      exact r
    · exact ks_rep t vs q hq
theorem call_setD {E : Value → Shared → Prop} {Q : Value → Shared → Prop} {x : V} {u : Value} {ds : List D} (I : Inv X pins σ H s) (hc : X.calm = true) (hu : X.A.units + 128 < cLine) (rp : Rep X.K H x (.list ds)) (rx : RelV x u) (hl : ds.length < 64) (hk : keysB ds = true)
    (h : ∀ h' tk, SetOfD X H h' s.heap.objs.size ds → (∀ b o, s.heap.get? b = some o → h'.get? b = some o) → Q (.ref s.heap.objs.size) { s with heap := h', toks := tk }) : wpAny (model X.prog X.w) X.A (call (.type "set") [u]) Q E s := by
  cases rp with
  | lst h1 h2 =>
    cases rx
    obtain ⟨its, rv, p, hz⟩ := I.list (sql_frz h1)
    obtain ⟨as, ra⟩ := RepL.reads I h2 rv
    unfold keysB at hk
    simp only [Bool.or_eq_true] at hk
    rcases hk with hk | hk
    · have hk := tups_all hk
      obtain ⟨ks, e1, e2, e3⟩ := mk_ks ra hk
      have e4 : ks.length = ds.length := by rw [← e2, List.length_map]
      refine call_set_n (P := X.prog) ks (I.ok.hd hc) p.isList (by simpa using e1) (fun q hq => (e3 q hq).1) (by omega) (by omega) fun h' tk L es ep t R g k => h h' tk ⟨.inl ⟨L, es, ep, t, R, fun q hq => ⟨PyProof.Rows.Reads.keeps k (e3 q (List.mem_of_mem_take (g.sub q hq))).2, ks_rep (by rw [e2]; exact h2) (by rw [← e1]; exact rv) q (List.mem_of_mem_take (g.sub q hq)), by rw [← e2]; exact List.mem_map.mpr ⟨q, List.mem_of_mem_take (g.sub q hq), rfl⟩⟩, ?_⟩⟩ k
      have kb : ∀ d ∈ ds, keyB d = true := fun d hd => let ⟨_, _, z, _⟩ := hk d hd; z
      refine id ?_
      · have inj : ∀ q ∈ ks, q.2 = toK q.2.data := fun q hq => by
          have hd : q.2.data ∈ ds := by rw [← e2]; exact List.mem_map.mpr ⟨q, hq, rfl⟩
          exact NestedIs.inj _ _ _ (e3 q hq).1.1 (reads_key _ _ _ (kb _ hd) (e3 q hq).2).1
        have nd : (L.map fun p => p.2.data).Nodup := by
          have n2 := R.nd
          have e : L.map (·.2) = (L.map fun p => p.2.data).map toK := by
            rw [List.map_map]
            exact List.map_congr_left fun q hq => inj q (List.mem_of_mem_take (g.sub q hq))
          rw [e] at n2
          exact PFS.nodup_of_map n2
        refine (List.perm_ext_iff_of_nodup nd (dedup_nodup kb)).mpr fun d => ?_
        rw [dedup_mem kb]
        constructor
        · intro hd
          obtain ⟨q, hq, e⟩ := List.mem_map.mp hd
          rw [← e2, ← e]
          exact List.mem_map.mpr ⟨q, List.mem_of_mem_take (g.sub q hq), rfl⟩
        · intro hd
          rw [← e2] at hd
          obtain ⟨q, hq, e⟩ := List.mem_map.mp hd
          obtain ⟨q', hq', e5⟩ := List.mem_map.mp (g.all q (by rw [List.take_length]; exact hq))
          exact List.mem_map.mpr ⟨q', hq', by rw [e5]; exact e⟩
    · obtain ⟨ns, rfl⟩ := ints_all hk
      rw [List.length_map] at hl
      have e := repl_ints h2
      subst e
      exact call_set_lstI (P := X.prog) ns (I.ok.hd hc) p.isList (by simpa using intsAre_of rv) (by unfold scanBound; omega) fun h' tk c R hc k => h h' tk ⟨.inr ⟨ns, c, rfl, R, hc⟩⟩ k
theorem call_setDT {E : Value → Shared → Prop} {Q : Value → Shared → Prop} {x : V} {u : Value} {ds : List D} (I : Inv X pins σ H s) (hc : X.calm = true) (hu : X.A.units + 128 < cLine) (rp : Rep X.K H x (.tuple ds)) (rx : RelV x u) (hl : ds.length < 64) (hk : keysB ds = true)
    (h : ∀ h' tk, SetOfD X H h' s.heap.objs.size ds → (∀ b o, s.heap.get? b = some o → h'.get? b = some o) → Q (.ref s.heap.objs.size) { s with heap := h', toks := tk }) : wpAny (model X.prog X.w) X.A (call (.type "set") [u]) Q E s := by
  cases rp with
  | tup h1 h2 =>
    cases rx
    obtain ⟨its, rv, p, hz⟩ := I.tuple h1
    obtain ⟨as, ra⟩ := RepL.reads I h2 rv
    unfold keysB at hk
    simp only [Bool.or_eq_true] at hk
    rcases hk with hk | hk
    · have hk := tups_all hk
      obtain ⟨ks, e1, e2, e3⟩ := mk_ks ra hk
      have e4 : ks.length = ds.length := by rw [← e2, List.length_map]
      refine call_set_nT (P := X.prog) ks (I.ok.hd hc) p (by simpa using e1) (fun q hq => (e3 q hq).1) (by omega) (by omega) fun h' tk L es ep t R g k => h h' tk ⟨.inl ⟨L, es, ep, t, R, fun q hq => ⟨PyProof.Rows.Reads.keeps k (e3 q (List.mem_of_mem_take (g.sub q hq))).2, ks_rep (by rw [e2]; exact h2) (by rw [← e1]; exact rv) q (List.mem_of_mem_take (g.sub q hq)), by rw [← e2]; exact List.mem_map.mpr ⟨q, List.mem_of_mem_take (g.sub q hq), rfl⟩⟩, ?_⟩⟩ k
      have kb : ∀ d ∈ ds, keyB d = true := fun d hd => let ⟨_, _, z, _⟩ := hk d hd; z
      refine id ?_
      · have inj : ∀ q ∈ ks, q.2 = toK q.2.data := fun q hq => by
          have hd : q.2.data ∈ ds := by rw [← e2]; exact List.mem_map.mpr ⟨q, hq, rfl⟩
          exact NestedIs.inj _ _ _ (e3 q hq).1.1 (reads_key _ _ _ (kb _ hd) (e3 q hq).2).1
        have nd : (L.map fun p => p.2.data).Nodup := by
          have n2 := R.nd
          have e : L.map (·.2) = (L.map fun p => p.2.data).map toK := by
            rw [List.map_map]
            exact List.map_congr_left fun q hq => inj q (List.mem_of_mem_take (g.sub q hq))
          rw [e] at n2
          exact PFS.nodup_of_map n2
        refine (List.perm_ext_iff_of_nodup nd (dedup_nodup kb)).mpr fun d => ?_
        rw [dedup_mem kb]
        constructor
        · intro hd
          obtain ⟨q, hq, e⟩ := List.mem_map.mp hd
          rw [← e2, ← e]
          exact List.mem_map.mpr ⟨q, List.mem_of_mem_take (g.sub q hq), rfl⟩
        · intro hd
          rw [← e2] at hd
          obtain ⟨q, hq, e⟩ := List.mem_map.mp hd
          obtain ⟨q', hq', e5⟩ := List.mem_map.mp (g.all q (by rw [List.take_length]; exact hq))
          exact List.mem_map.mpr ⟨q', hq', by rw [e5]; exact e⟩
    · obtain ⟨ns, rfl⟩ := ints_all hk
      rw [List.length_map] at hl
      have e := repl_ints h2
      subst e
      exact call_set_tupI (P := X.prog) ns (I.ok.hd hc) p (by simpa using intsAre_of rv) (by unfold scanBound; omega) fun h' tk c R hc k => h h' tk ⟨.inr ⟨ns, c, rfl, R, hc⟩⟩ k
theorem dle_int (x y : Int) : dle (.int x) (.int y) = decide (x ≤ y) := by
  show (!W.dataLt (.int y) (.int x)) = _
  rw [W.dataLt_int]
  by_cases h : x ≤ y
  · rw [decide_eq_true h, decide_eq_false (by omega)]
    rfl
  · rw [decide_eq_false h, decide_eq_true (by omega)]
    rfl
theorem nodup_mapI {ns : List Int} (h : ns.Nodup) : (ns.map PyData.int).Nodup := by
  refine List.pairwise_map.mpr (h.imp fun {a b} hne e => hne ?_)
  cases e
  rfl
theorem perm_laid {K : PySem.W.Frag} : ∀ {L : List (Addr × NestedKey)}, (∀ p ∈ L, Rep K H (.ref p.1) p.2.data) → RepL K H (L.map fun p => V.ref p.1) (L.map fun p => p.2.data)
  | [], _ => .nil
  | p :: L, h => .cons (h p List.mem_cons_self) (perm_laid fun q hq => h q (List.mem_cons_of_mem _ hq))
theorem vals_refs : ∀ L : List (Addr × NestedKey), Vals (L.map fun p => V.ref p.1) (L.map fun p => Value.ref p.1)
  | [] => .nil
  | _ :: L => .cons rfl (vals_refs L)
theorem call_sortedD {Q : VK} {S : Addr} {ds : List D} {r : D} {h1 : Heap} {tk : Nat} (I : Inv X pins σ H s) (hc : X.calm = true) (hu : X.A.units + 128 < cLine) (hS : SetOfD X H h1 S ds) (hl : ds.length < 64) (hk : keysB ds = true) (hf : sortF (dedup ds) = some r)
    (k : ∀ b o, s.heap.get? b = some o → h1.get? b = some o) (hS1 : S = s.heap.objs.size) (q : Wd X.K H Q r) : wpAny (model X.prog X.w) X.A (call (.builtin "sorted") [.ref S]) (EP X pins σ Q) X.xe { s with heap := h1, toks := tk } := by
  obtain ⟨hal, hso, hdp, rfl⟩ := sortF_ok hf
  have hsz : s.heap.objs.size ≤ h1.objs.size := by
    rw [← hS1]
    rcases hS.cases_ with ⟨L, es, ep, t, R, _⟩ | ⟨ns, c, _, R, _⟩
    · obtain ⟨o, ho, _⟩ := R.ob
      exact Nat.le_of_lt (Heap.lt_size ho)
    · exact Nat.le_of_lt R.lt
  have fin : ∀ {s' : Shared} {p : Addr} {out : Array Value} {c : Nat} {xs : List V} {es : List D}, (∀ b o, h1.get? b = some o → s'.heap.get? b = some o) → s'.gens = s.gens → s'.os = s.os → h1.objs.size ≤ p → s'.heap.get? p = some (seqObj "list" out c) →
      Vals xs out.toList → RepL X.K H xs es → xs.length ≤ sizeLine → (dedup ds).mergeSort dle = es → EP X pins σ Q (.ref p) s' := by
    intro s' p out c xs es k2 g o hp hg hv hr hlen he
    have hn : H p = none := I.hok.fresh (Nat.le_trans hsz hp)
    have kk : ∀ b ob, s.heap.get? b = some ob → s'.heap.get? b = some ob := fun b ob e => k2 b ob (k b ob e)
    have J : Inv X pins σ (upd H p (.lst xs)) { s with heap := s'.heap, gens := s'.gens, drawn := s'.drawn, toks := s'.toks } :=
      I.call (ch := []) (Un.laid kk (Nat.le_trans hsz hp) hn) (I.hok.laid kk (Nat.le_trans hsz hp) ⟨hlen, out.toList, c, hv, hg⟩) (by rw [g]; exact I.bare) (fun _ z => nomatch z)
    have e : s' = { s with heap := s'.heap, gens := s'.gens, drawn := s'.drawn, toks := s'.toks } := by
      cases s'
      cases s
      cases o
      rfl
    rw [e]
    rw [he] at q
    exact fin_list J hn hr q
  rcases hS.cases_ with ⟨L, es, ep, t, R, h3, pm⟩ | ⟨ns, c, e, R, hcn⟩
  · have kb : ∀ d ∈ ds, keyB d = true := by
      unfold keysB at hk
      simp only [Bool.or_eq_true] at hk
      rcases hk with hk | hk
      · exact fun d hd => let ⟨_, _, z, _⟩ := tups_all hk d hd; z
      · obtain ⟨ns, e⟩ := ints_all hk
        rw [e]
        exact keyB_ints
    have mem : ∀ p ∈ L, p.2.data ∈ dedup ds := fun p hp => pm.mem_iff.mp (List.mem_map.mpr ⟨p, hp, rfl⟩)
    have hfew := R.few
    refine sorted_setN (P := X.prog) (s := { s with heap := h1, toks := tk }) R (I.ok.hd hc) (fun p hp => (h3 p hp).1) (fun p hp p' hp' => hal _ (mem p hp) _ (mem p' hp')) (fun p hp => ?_) (fun p hp => ?_) fun s' p out c L' k2 g o hp hg ho pL pw => ?_
    · unfold sortB at hso
      simp only [Bool.or_eq_true] at hso
      have nt : ∃ xs, p.2.data = .tuple xs := by
        have hn := (R.tup p hp).1
        generalize p.2 = z at hn ⊢
        cases hn with
        | tup _ _ _ _ => exact ⟨_, rfl⟩
      obtain ⟨xs, e⟩ := nt
      rcases hso with hso | hso
      · have z := List.all_eq_true.mp hso _ (mem p hp)
        rw [e] at z ⊢
        cases xs with
        | nil => cases z
        | cons x r => exact ⟨x, r, rfl⟩
      · have z := List.all_eq_true.mp hso _ (mem p hp)
        rw [e] at z
        cases z
    · have := depth_mem (mem p hp)
      omega
    · refine fin k2 g o hp hg (by rw [ho]; exact vals_refs L') (perm_laid fun q hq => (h3 q (pL.mem_iff.mp hq)).2.1) (by rw [List.length_map, pL.length_eq, sizeLine_eq]; omega) ?_
      exact sort_perm (pm.symm.trans (pL.symm.map fun p => p.2.data)) hal (fun a ha => kb a ((dedup_mem kb a).mp ha)) pw
  · subst e
    rw [List.length_map] at hl
    refine sorted_set (P := X.prog) (s := { s with heap := h1, toks := tk }) R (I.ok.hd hc) (by omega) fun s' p out c ns' k2 g o hp hg ho pw hm hn => ?_
    refine fin k2 g o hp hg (vals_of ho) (repl_of_ints ns') (by rw [List.length_map, hn, sizeLine_eq]; omega) ?_
    refine sort_perm ?_ hal (fun a ha => keyB_ints a ((dedup_mem keyB_ints a).mp ha)) (List.pairwise_map.mpr (pw.imp fun {a b} h => by rw [dle_int]; exact decide_eq_true (by omega)))
    refine (List.perm_ext_iff_of_nodup (dedup_nodup keyB_ints) (nodup_mapI (pw.imp fun {a b} h => by omega))).mpr fun d => ?_
    rw [dedup_mem keyB_ints]
    constructor
    · intro hd
      obtain ⟨n, h, rfl⟩ := List.mem_map.mp hd
      exact List.mem_map.mpr ⟨n, (hm n).mpr (decide_eq_true h), rfl⟩
    · intro hd
      obtain ⟨n, h, rfl⟩ := List.mem_map.mp hd
      exact List.mem_map.mpr ⟨n, of_decide_eq_true ((hm n).mp h), rfl⟩
theorem call_lenD {Q : VK} {S : Addr} {ds : List D} {h1 : Heap} {tk : Nat} (I : Inv X pins σ H s) (hS : SetOfD X H h1 S ds) (hl : ds.length < 64) (k : ∀ b o, s.heap.get? b = some o → h1.get? b = some o) (q : Wd X.K H Q (.int (dedup ds).length)) :
    wpAny (model X.prog X.w) X.A (call (.builtin "len") [.ref S]) (EP X pins σ Q) X.xe { s with heap := h1, toks := tk } := by
  rcases hS.cases_ with ⟨L, es, ep, t, R, h3, pm⟩ | ⟨ns, c, e, R, hcn⟩
  · obtain ⟨o, ho, hex, hd⟩ := R.ob
    have hz := SetN.size (s := { s with heap := h1 }) R
    have hfit := SetN.fits (s := { s with heap := h1 }) R
    have hfew := R.few
    have hlen := pm.length_eq
    rw [List.length_map] at hlen
    rw [← hlen, ← hz] at q
    exact call_len_set (s := { s with heap := h1, toks := tk }) ho hex hd hfit (by omega) (fin_int (I.kept (t' := tk + 1 + 1) k) q)
  · subst e
    obtain ⟨o, es, ep, t, ho, hex, hd, g, nd, hm, hb, hf, hn, hr, hl2⟩ := R
    rw [List.length_map] at hl
    have e2 : (dedup (ns.map PyData.int)).length = es.size := by
      have p : (dedup (ns.map PyData.int)).Perm ((es.toList.map keyOf).map PyData.int) := by
        refine (List.perm_ext_iff_of_nodup (dedup_nodup keyB_ints) (nodup_mapI nd)).mpr fun d => ?_
        rw [dedup_mem keyB_ints]
        constructor
        · intro hd
          obtain ⟨n, h, rfl⟩ := List.mem_map.mp hd
          exact List.mem_map.mpr ⟨n, (hm n).mp (decide_eq_true h), rfl⟩
        · intro hd
          obtain ⟨n, h, rfl⟩ := List.mem_map.mp hd
          exact List.mem_map.mpr ⟨n, of_decide_eq_true ((hm n).mpr h), rfl⟩
      rw [p.length_eq, List.length_map, List.length_map, Array.length_toList]
    rw [e2] at q
    exact call_len_set (s := { s with heap := h1, toks := tk }) ho hex hd hf (by omega) (fin_int (I.kept (t' := tk + 1 + 1) k) q)
/-- f(set(a)) -/
def tSetD (K : PySem.W.Frag) (p : Pm) (ta : TE) : TE := fun σ H Q => ta σ H fun x H1 => ∃ d r, Rep K H1 x d ∧ primF p [d] = some r ∧ Wd K H1 Q r
variable {a : Expr} {ta : TE} {p p2 q pos : Pos}
theorem pe_sset (hg : Gl X "sorted") (hm : X.mg "sorted" = none) (hg2 : Gl X "set") (hm2 : X.mg "set" = none) (ha : PE X a ta) (hc : X.calm = true) (hu : X.A.units + 128 < cLine) (na : starEach [a] X.env = (false, eval a X.env) :: starEach [] X.env) :
    PE X (.Call (.Name "sorted" p) [.Call (.Name "set" p2) [a] [] q] [] pos) (tSetD X.K .sortedset ta) := by
  refine ⟨fun pins s σ H Q I h => ?_⟩
  refine Call_ (ld_blt I hg hm boot_sorted ?_)
  refine PyProof.Rows.callWith_builtin1 (PyProof.Rows.args_cons ?_ rfl) rfl rfl
  refine Call_ (ld_blt I hg2 hm2 boot_set ?_)
  refine PyProof.Rows.callWith_type1 (PyProof.Rows.args_cons (thn (ha.run pins s σ H _ I h) fun v s1 ⟨x, H1, I1, r1, q1⟩ => PyProof.Rows.args_nil ?_) na) na rfl
  obtain ⟨d, r, rp, hf, q1⟩ := q1
  cases d with
  | list ds =>
    simp only [primF] at hf
    split at hf
    · rename_i hz
      refine call_setD I1 hc hu rp r1 hz.1 hz.2 fun h' tk hS k => PyProof.Rows.args_nil ?_
      exact call_sortedD I1 hc hu hS hz.1 hz.2 hf k rfl q1
    · cases hf
  | tuple ds =>
    simp only [primF] at hf
    split at hf
    · rename_i hz
      refine call_setDT I1 hc hu rp r1 hz.1 hz.2 fun h' tk hS k => PyProof.Rows.args_nil ?_
      exact call_sortedD I1 hc hu hS hz.1 hz.2 hf k rfl q1
    · cases hf
  | _ => cases hf
theorem pe_lset (hg : Gl X "len") (hm : X.mg "len" = none) (hg2 : Gl X "set") (hm2 : X.mg "set" = none) (ha : PE X a ta) (hc : X.calm = true) (hu : X.A.units + 128 < cLine) (na : starEach [a] X.env = (false, eval a X.env) :: starEach [] X.env) :
    PE X (.Call (.Name "len" p) [.Call (.Name "set" p2) [a] [] q] [] pos) (tSetD X.K .lenset ta) := by
  refine ⟨fun pins s σ H Q I h => ?_⟩
  refine Call_ (ld_blt I hg hm boot_len ?_)
  refine PyProof.Rows.callWith_builtin1 (PyProof.Rows.args_cons ?_ rfl) rfl rfl
  refine Call_ (ld_blt I hg2 hm2 boot_set ?_)
  refine PyProof.Rows.callWith_type1 (PyProof.Rows.args_cons (thn (ha.run pins s σ H _ I h) fun v s1 ⟨x, H1, I1, r1, q1⟩ => PyProof.Rows.args_nil ?_) na) na rfl
  obtain ⟨d, r, rp, hf, q1⟩ := q1
  have hl : ∃ ds, d = .list ds := by
    cases d with
    | list ds => exact ⟨ds, rfl⟩
    | _ => cases hf
  obtain ⟨ds, rfl⟩ := hl
  simp only [primF] at hf
  split at hf
  · rename_i hz
    cases hf
    exact call_setD I1 hc hu rp r1 hz.1 hz.2 fun h' tk hS k => PyProof.Rows.args_nil (call_lenD I1 hS hz.1 k q1)
  · cases hf
end
end PF
end
section
set_option Elab.async false
set_option linter.all false
set_option maxRecDepth 100000
set_option maxHeartbeats 2000000
/-! PFj: sorted(list), count, index, reversed tuples. -/
namespace PF
open PySem PySem.Spec PyProof.Rows L2 PFS
section
variable {X : Cx}
theorem pairs_each {K : PySem.W.Frag} {H : Hp} {h : Heap} : ∀ {xs : List V} {us : List Value} {ds : List D} {as : List Addr}, RepL K H xs ds → Vals xs us → ReadsAll h us ds as →
    W.EachIs (fun v (b : V × D) => RelV b.1 v ∧ Rep K H b.1 b.2) us (xs.zip ds) ∧ W.EachIs (fun v (b : V × D) => ∃ as, Reads h v b.2 as) us (xs.zip ds) ∧ (xs.zip ds).map Prod.snd = ds
  | _, _, _, _, .nil, .nil, r => by cases r; exact ⟨.nil, .nil, rfl⟩
  | _, _, _, _, .cons r t, .cons v vs, q => by
    cases q with
    | cons q1 q2 =>
      obtain ⟨a, b, c⟩ := pairs_each t vs q2
      exact ⟨.cons ⟨v, r⟩ a, .cons ⟨_, q1⟩ b, by rw [List.zip_cons_cons, List.map_cons, c]⟩
theorem each_pairs {K : PySem.W.Frag} {H : Hp} {us : List Value} {bs : List (V × D)} (h : W.EachIs (fun v (b : V × D) => RelV b.1 v ∧ Rep K H b.1 b.2) us bs) : Vals (bs.map Prod.fst) us ∧ RepL K H (bs.map Prod.fst) (bs.map Prod.snd) := by
  induction h with
  | nil => exact ⟨.nil, .nil⟩
  | cons r _ ih => exact ⟨.cons r.1 ih.1, .cons r.2 ih.2⟩
theorem cp_sorted (hu : X.A.units + 128 < cLine) : CallR X (.builtin "sorted") (rP X.K .sorted) := by
  intro pins s σ H xs us Q I r ⟨l, d, hd, hf, q⟩
  have hl : (∃ ds, l = [.list ds]) ∨ ∃ ds, l = [.tuple ds] := by
    match l, hf with
    | [.list ds], _ => exact .inl ⟨ds, rfl⟩
    | [.tuple ds], _ => exact .inr ⟨ds, rfl⟩
  rcases hl with ⟨ds, rfl⟩ | ⟨ds, rfl⟩
  · obtain ⟨x, rfl, hx⟩ := repl1 hd
    cases hx with
    | @lst a o xs _ h1 h2 =>
      obtain ⟨hal, hso, hdp, rfl⟩ := sortF_ok (show sortF ds = some d from hf)
      obtain ⟨u, rfl, ru⟩ := vals1 r
      cases ru
      obtain ⟨its, rv, p, hz⟩ := I.list (sql_frz h1)
      obtain ⟨as, ra⟩ := RepL.reads I h2 rv
      obtain ⟨e1, e2, e3⟩ := pairs_each h2 rv ra
      have hlen : (xs.zip ds).length = ds.length := by rw [← congrArg List.length e3, List.length_map]
      have hl2 := h2.length
      have srt : W.Sortable ((xs.zip ds).map Prod.snd) := by
        rw [e3]
        unfold sortB at hso
        simp only [Bool.or_eq_true] at hso
        rcases hso with hso | hso
        · refine .inl fun d hd => ?_
          have z := List.all_eq_true.mp hso d hd
          cases d with
          | tuple ys =>
            cases ys with
            | nil => cases z
            | cons y r => exact ⟨y, r, rfl⟩
          | _ => cases z
        · refine .inr fun d hd => ?_
          have z := List.all_eq_true.mp hso d hd
          refine ⟨fun e => ?_, fun xs e => ?_⟩
          · rw [e] at z; cases z
          · rw [e] at z; cases z
      refine W.sorted_data (vs := its) (bs := xs.zip ds) (enc := Prod.snd) (R := fun v (b : V × D) => RelV b.1 v ∧ Rep X.K H b.1 b.2) p.isList e1 e2 (by rw [e3]; exact hal) srt (by rw [hlen, ← hl2]; exact hz) (fun b hb => ?_) fun out a1 a2 => ?_
      · have := depth_mem (ds := ds) (by rw [← e3]; exact List.mem_map.mpr ⟨b, hb, rfl⟩)
        omega
      · obtain ⟨hv, hr⟩ := each_pairs a2
        have em : ((xs.zip ds).mergeSort (W.dataLe false Prod.snd)).map Prod.snd = ds.mergeSort dle := by
          have e5 := List.map_mergeSort (r := W.dataLe false (Prod.snd : V × D → D)) (s := dle) (f := Prod.snd) (l := xs.zip ds) (fun a _ b _ => rfl)
          rw [e5, e3]
        rw [em] at hr
        obtain ⟨c, hg⟩ := sortedAll_at s.heap its (List.toArray out)
        have hn : H (s.heap.objs.size + 1) = none := I.hok.fresh (Nat.le_succ _)
        refine fin_list (I.laid (t' := s.toks) (a := s.heap.objs.size + 1) (fun b ob e => sortedAll_old e) (Nat.le_succ _) ⟨?_, out, c, hv, hg⟩) hn hr q
        rw [List.length_map, (List.mergeSort_perm _ _).length_eq, hlen, ← hl2]
        exact hz
  · obtain ⟨x, rfl, hx⟩ := repl1 hd
    cases hx with
    | @tup a xs _ h1 h2 =>
      obtain ⟨hal, hso, hdp, rfl⟩ := sortF_ok (show sortF ds = some d from hf)
      obtain ⟨u, rfl, ru⟩ := vals1 r
      cases ru
      obtain ⟨its, rv, p, hz⟩ := I.tuple h1
      obtain ⟨as, ra⟩ := RepL.reads I h2 rv
      obtain ⟨e1, e2, e3⟩ := pairs_each h2 rv ra
      have hlen : (xs.zip ds).length = ds.length := by rw [← congrArg List.length e3, List.length_map]
      have hl2 := h2.length
      have srt : W.Sortable ((xs.zip ds).map Prod.snd) := by
        rw [e3]
        unfold sortB at hso
        simp only [Bool.or_eq_true] at hso
        rcases hso with hso | hso
        · refine .inl fun d hd => ?_
          have z := List.all_eq_true.mp hso d hd
          cases d with
          | tuple ys =>
            cases ys with
            | nil => cases z
            | cons y r => exact ⟨y, r, rfl⟩
          | _ => cases z
        · refine .inr fun d hd => ?_
          have z := List.all_eq_true.mp hso d hd
          refine ⟨fun e => ?_, fun xs e => ?_⟩
          · rw [e] at z; cases z
          · rw [e] at z; cases z
      refine W.sorted_tup (vs := its) (bs := xs.zip ds) (enc := Prod.snd) (R := fun v (b : V × D) => RelV b.1 v ∧ Rep X.K H b.1 b.2) p e1 e2 (by rw [e3]; exact hal) srt (by rw [hlen, ← hl2]; exact hz) (fun b hb => ?_) fun out a1 a2 => ?_
      · have := depth_mem (ds := ds) (by rw [← e3]; exact List.mem_map.mpr ⟨b, hb, rfl⟩)
        omega
      · obtain ⟨hv, hr⟩ := each_pairs a2
        have em : ((xs.zip ds).mergeSort (W.dataLe false Prod.snd)).map Prod.snd = ds.mergeSort dle := by
          have e5 := List.map_mergeSort (r := W.dataLe false (Prod.snd : V × D → D)) (s := dle) (f := Prod.snd) (l := xs.zip ds) (fun a _ b _ => rfl)
          rw [e5, e3]
        rw [em] at hr
        obtain ⟨c, hg⟩ := sortedAll_at s.heap its (List.toArray out)
        have hn : H (s.heap.objs.size + 1) = none := I.hok.fresh (Nat.le_succ _)
        refine fin_list (I.laid (t' := s.toks) (a := s.heap.objs.size + 1) (fun b ob e => sortedAll_old e) (Nat.le_succ _) ⟨?_, out, c, hv, hg⟩) hn hr q
        rw [List.length_map, (List.mergeSort_perm _ _).length_eq, hlen, ← hl2]
        exact hz
end
end PF
end
section
set_option Elab.async false
set_option linter.all false
set_option maxRecDepth 100000
set_option maxHeartbeats 2000000
/-! PFk: from the model's syntax to the compact code. -/
namespace PF
open PySem PySem.Spec PyProof.Rows L2 PFS
/-- where code stands: the names' places, the scope, the block (none: a def's own), the module's defs, constants, and free names -/
structure Cmp where
  N : List Str
  sc : Scope
  blk : Option Scope := none
  fns : List Str
  cns : List (Str × D)
  free : List Str
  own : List Str := []
def Cmp.fn (C : Cmp) (x : Str) : Bool := match C.blk with
  | none => true
  | some s => s.names.lookup x == some .cell
def idx : List Str → Str → Option Nat
  | [], _ => none
  | y :: r, x => if y = x then some 0 else (idx r x).map (· + 1)
theorem idx_ok : ∀ {N : List Str} {x : Str} {i : Nat}, idx N x = some i → N[i]? = some x
  | y :: r, x, i, h => by
    unfold idx at h
    split at h
    · rename_i e
      cases h
      rw [e]
      rfl
    · obtain ⟨j, hj, rfl⟩ := Option.map_eq_some_iff.mp h
      simpa using idx_ok hj
def kindB : NameKind → Option NameKind → Bool
  | .local, some .local => true
  | .cell, some .cell => true
  | .free, some .free => true
  | .globalImplicit, some .globalImplicit => true
  | _, _ => false
theorem kindB_ok {k : NameKind} {o : Option NameKind} (h : kindB k o = true) : o = some k := by
  cases k <;> cases o with
  | none => cases h
  | some j => cases j <;> first | rfl | cases h
def Cmp.vis (C : Cmp) (x : Str) : Bool := kindB .local (C.sc.names.lookup x) || kindB .cell (C.sc.names.lookup x) || kindB .free (C.sc.names.lookup x)
def Cmp.loc (C : Cmp) (x : Str) : Bool := (kindB .local (C.sc.names.lookup x) || kindB .cell (C.sc.names.lookup x)) && (C.fn x || kindB .local (C.sc.names.lookup x))
def Cmp.glob (C : Cmp) (x : Str) : Bool := kindB .globalImplicit (C.sc.names.lookup x)
def nDbg : Str := "__debug__"
def nCls : Str := "__classdict__"
def nName : Str := "__name__"
/-- a name's own place -/
def Cmp.slot (C : Cmp) (x : Str) : Option Nat := if C.loc x && !(x == nDbg) then idx C.N x else none
mutual
def cTg (C : Cmp) : Expr → Option Tg
  | .Name x _ => (C.slot x).map .nm
  | .Tuple es _ _ => cTgs C es
  | _ => none
def cTgs (C : Cmp) : List Expr → Option Tg
  | [] => some .nil
  | e :: es => (cTg C e).bind fun a => (cTgs C es).map fun b => .cons a b
end
def cL (f : Expr → Option CE) : List Expr → Option CE
  | [] => some .nil
  | .Starred _ _ :: _ => none
  | e :: es => (f e).bind fun a => (cL f es).map fun b => .cons a b
def opB : Operator → Option Bi
  | .Add => some .add
  | .Sub => some .sub
  | .Mult => some .mul
  | .FloorDiv => some .fdiv
  | .Mod => some .mod
  | .Pow => some .pow
  | _ => none
def opC : CmpOp → Option Cm
  | .Eq => some .eq
  | .NotEq => some .ne
  | .Lt => some .lt
  | .LtE => some .le
  | .Gt => some .gt
  | .GtE => some .ge
  | .In => some .isin
  | .NotIn => some .notin
  | .Is => some .is_
  | .IsNot => some .isnot
def isSet : Expr → Bool
  | .Set _ _ _ => true
  | _ => false
def isStar : Expr → Bool
  | .Starred _ _ => true
  | _ => false
def isSlc : Expr → Bool
  | .Slice _ _ _ _ => true
  | _ => false
def cBool (op : BoolOp) (f : Expr → Option CE) : List Expr → Option CE
  | [] => none
  | [e] => f e
  | e :: es => (f e).bind fun a => (cBool op f es).map fun b => match op with
    | .And => .and a b
    | .Or => .or a b
/-- a built-in by its name: its class (b) or function, how many arguments -/
def builtins : List (Str × (Bool × Nat × Pm)) :=
  [("len", (false, 1, .len)), ("all", (false, 1, .all)), ("any", (false, 1, .any)), ("sum", (false, 1, .sum)), ("abs", (false, 1, .abs)), ("sorted", (false, 1, .sorted)), ("tuple", (true, 1, .tuple)), ("list", (true, 1, .list)), ("int", (true, 1, .int)), ("str", (true, 1, .str)), ("repr", (false, 1, .repr))]
def Cmp.blt (C : Cmp) (x : Str) : Bool := C.glob x && C.free.contains x
def tyOf (x : Str) : Option Ty := if x = "int" then some .int else if x = "bool" then some .bool else if x = "tuple" then some .tuple else if x = "str" then some .str else if x = "list" then some .list else none
def itOf (x : Str) : Option Ik := if x = "range" then some .range else if x = "enumerate" then some .enum else if x = "zip" then some .zip else none
def isTup : Expr → Bool
  | .Tuple _ _ _ => true
  | _ => false
/-- what is walked -/
def cI (C : Cmp) (f : Expr → Option CE) (tg : Expr) : Expr → Option CE
  | .Call (.Name x p) (e :: es) [] pos => (match (if C.blt x then itOf x else none) with
    | some .range => if es.length ≤ 1 then (cL f (e :: es)).map (.it .range) else none
    | some .enum => if es.length = 0 ∧ isTup tg then (cL f (e :: es)).map (.it .enum) else none
    | some .zip => if es.length = 1 ∧ isTup tg then (cL f (e :: es)).map (.it .zip) else none
    | _ => (f (.Call (.Name x p) (e :: es) [] pos)).map fun a => .it .seq (.cons a .nil))
  | e => if isSet e || isStar e then none else (f e).map fun a => .it .seq (.cons a .nil)
def ownOf (N : List Str) : List (Str × NameKind) → List (Str × Nat)
  | [] => []
  | (x, k) :: r => match (match k with
      | .local => idx N x
      | .cell => idx N x
      | _ => none) with
    | some i => (x, i) :: ownOf N r
    | none => ownOf N r
def cTst (f : Expr → Option CE) : List Expr → Option CE
  | [] => some (.cst (.bool true))
  | [e] => f e
  | _ => none
def Tg.ixs : Tg → List Nat
  | .nm i => [i]
  | .nil => []
  | .cons a b => a.ixs ++ b.ixs
def subL (a b : List Nat) : Bool := a.all fun i => b.contains i
def setArg (C : Cmp) : Expr → Option Expr
  | .Call (.Name y _) [a] [] _ => if y = "set" ∧ C.blt y = true ∧ isStar a = false then some a else none
  | _ => none
def cCall1 (C : Cmp) (f : Expr → Option CE) (x : Str) (e : Expr) : Option CE :=
  match (if x = "sorted" ∨ x = "len" then setArg C e else none) with
  | some a => (f a).map fun a => if x = "sorted" then .prim .sortedset a .nil else .prim .lenset a .nil
  | none => (match builtins.lookup x with
    | some (_, _, q) => (f e).map fun a => .prim q a .nil
    | none => if x = "max" then (f e).map fun a => .prim .max a .nil else if x = "min" then (f e).map fun a => .prim .min a .nil else none)
def nmArg (C : Cmp) : Expr → Option Ty
  | .Name y _ => if C.blt y then tyOf y else none
  | _ => none
def cCall2 (C : Cmp) (f : Expr → Option CE) (x : Str) (e d : Expr) : Option CE :=
  if x = "max" then (f e).bind fun a => (cL f [d]).map fun b => .prim .max2 a b
  else if x = "min" then (f e).bind fun a => (cL f [d]).map fun b => .prim .min2 a b
  else if x = "isinstance" then (nmArg C d).bind fun t => (f e).map fun a => .prim (.isI t) a .nil
  else none
def cCall (C : Cmp) (f : Expr → Option CE) (x : Str) (e : Expr) (es : List Expr) : Option CE :=
  if C.fns.contains x then (cL f (e :: es)).map (.call x)
  else if C.free.contains x = false ∨ isStar e = true then none
  else match es with
    | [] => cCall1 C f x e
    | [d] => cCall2 C f x e d
    | _ => none
def cE : Nat → Cmp → Expr → Option CE
  | 0, _, _ => none
  | n + 1, C, e => match e with
    | .Constant (.int i) _ _ => some (.cst (.int i))
    | .Constant (.str x) _ _ => some (.cst (.str x))
    | .Constant (.bool b) _ _ => some (.cst (.bool b))
    | .Constant .none _ _ => some (.cst .none)
    | .Name x _ => if x == nDbg || x == nCls then none else if C.vis x then (idx C.N x).map .var else if C.glob x then (match C.cns.lookup x with
        | some v => some (.cst v)
        | none => if C.fns.contains x then some (.fnv x) else none) else none
    | .Tuple es _ _ => (cL (cE n C) es).map .tup
    | .List es _ => (cL (cE n C) es).map .lst
    | .UnaryOp .USub a _ => (cE n C a).map .neg
    | .UnaryOp .Not a _ => (cE n C a).map .not
    | .BinOp a o b _ => (opB o).bind fun o => (cE n C a).bind fun a => (cE n C b).map fun b => .bin o a b
    | .Compare a [o] [b] _ => if isSet b then none else (opC o).bind fun o => (cE n C a).bind fun a => (cE n C b).map fun b => .cmp o a b
    | .Compare a [o, p] [b, c] _ => if isSet b || isSet c then none else (opC o).bind fun o => (opC p).bind fun p => (cE n C a).bind fun a => (cE n C b).bind fun b => (cE n C c).map fun c => .chain o p a b c
    | .BoolOp op es _ => cBool op (cE n C) es
    | .IfExp c a b _ => (cE n C c).bind fun c => (cE n C a).bind fun a => (cE n C b).map fun b => .ite c a b
    | .Subscript a (.Slice lo hi none _) _ => (cE n C a).bind fun a => (match lo with
        | none => some (CE.cst .none)
        | some e => cE n C e).bind fun l => (match hi with
        | none => some (CE.cst .none)
        | some e => cE n C e).map fun h => .slc lo.isSome hi.isSome a l h
    | .Subscript a (.Slice none none (some (.UnaryOp .USub (.Constant (.int 1) _ _) _)) _) _ => (cE n C a).map .rev
    | .Subscript a b _ => if isSlc b || isStar b then none else (cE n C a).bind fun a => (cE n C b).map fun b => .sub a b
    | .Call (.Name x _) (e :: es) [] _ => if C.glob x && !(x == nDbg) && !(x == nName) then cCall C (cE n C) x e es else none
    | .Call (.Name x _) [] [] _ => if C.glob x && !(x == nDbg) && C.fns.contains x then some (.call x .nil) else none
    | .ListComp elt [⟨tg, iter, ifs, 0⟩] scope _ =>
        if blkC C.N C.sc scope (ownOf C.N scope.names) then (cI C (cE n C) tg iter).bind fun src => (fun C' : Cmp => (cTg C' tg).bind fun g => (cTst (cE n C') ifs).bind fun t => (cE n C' elt).bind fun y =>
          if subL g.ixs ((ownOf C.N scope.names).map (·.2)) then some (.lc ((ownOf C.N scope.names).map (·.2)) g src t y) else none) { C with sc := relS scope C.sc, blk := some scope } else none
    | .ListComp elt [⟨tg, iter, ifs, 0⟩, ⟨tg2, iter2, ifs2, 0⟩] scope _ =>
        if blkC C.N C.sc scope (ownOf C.N scope.names) then (cI C (cE n C) tg iter).bind fun src => (fun C' : Cmp => (cTg C' tg).bind fun g => (cTst (cE n C') ifs).bind fun t => (cI C' (cE n C') tg2 iter2).bind fun src2 => (cTg C' tg2).bind fun g2 => (cTst (cE n C') ifs2).bind fun t2 => (cE n C' elt).bind fun y =>
          if subL g.ixs ((ownOf C.N scope.names).map (·.2)) && subL g2.ixs ((ownOf C.N scope.names).map (·.2)) then some (.lc2 ((ownOf C.N scope.names).map (·.2)) g src t g2.ixs g2 src2 t2 y) else none) { C with sc := relS scope C.sc, blk := some scope } else none
    | _ => none

/-- the names read as plain values -/
def CE.plainR : CE → List Nat
  | .var i => [i]
  | .cst _ => []
  | .fnv _ => []
  | .nil => []
  | .cons a b => a.plainR ++ b.plainR
  | .tup a => a.plainR
  | .lst a => a.plainR
  | .neg a => a.plainR
  | .not a => a.plainR
  | .bin _ a b => a.plainR ++ b.plainR
  | .cmp o a b => a.plainR ++ match o.isMem, b with
    | true, .var _ => []
    | _, b => b.plainR
  | .chain _ _ a b c => a.plainR ++ b.plainR ++ c.plainR
  | .and a b => a.plainR ++ b.plainR
  | .or a b => a.plainR ++ b.plainR
  | .ite c a b => c.plainR ++ a.plainR ++ b.plainR
  | .sub a i => (match a with
    | .var _ => []
    | a => a.plainR) ++ i.plainR
  | .slc _ _ a b c => a.plainR ++ b.plainR ++ c.plainR
  | .rev a => a.plainR
  | .call _ a => a.plainR
  | .prim p a b => (match p.reads, a with
    | true, .var _ => []
    | _, a => a.plainR) ++ b.plainR
  | .it _ a => a.plainR
  | .lc own _ a t e => a.plainR ++ (t.plainR ++ e.plainR).filter fun i => !own.contains i
  | .lc2 own _ a t _ _ b u e => a.plainR ++ (t.plainR ++ b.plainR ++ u.plainR ++ e.plainR).filter fun i => !own.contains i
def Cmp.owns (C : Cmp) (i : Nat) : Bool := match C.N[i]? with
  | some x => C.own.contains x
  | none => false
def thawAll (C : Cmp) : List Nat → CS → CS
  | [], s => s
  | i :: r, s => if C.owns i && !r.contains i then .seq (.frz i) (thawAll C r s) else thawAll C r s
def isL : Expr → Bool
  | .List _ _ => true
  | .ListComp _ _ _ _ => true
  | _ => false
/-- the comprehension's own road of a statement name = [..] -/
def swB (C : Cmp) (y : Str) (py : Pos) (scope : Scope) (pos : Pos) : Bool := kindB .local (C.sc.names.lookup y) && (py.line == pos.line) && !(scope.names.any fun (n, k) => n == y && (k == .local || k == .cell))
def names2 : List Expr → Option (List (Str × Pos))
  | [] => some []
  | .Name x p :: r => (names2 r).map ((x, p) :: ·)
  | _ => none
def parB (C : Cmp) (ns : List (Str × Pos)) (vs : List Expr) : Bool :=
  (ns.length == 2 || ns.length == 3) && (vs.length == ns.length) && !(vs.any isStar) && ((ns.head?.map (·.2.line)).isSome) && (ns.all fun p => kindB .local (C.sc.names.lookup p.1) && p.2.line == (ns.head?.map (·.2.line)).getD 0) && ((ns.map (·.1)).eraseDups.length == ns.length) && !(vs.all (foldedForSure 8)) && !(vs.all (constantsAlone 8))
def zip3 : List (Str × Pos) → List Expr → Cmp → (Expr → Option CE) → Option (List (Bool × Nat × CE))
  | [], [], _, _ => some []
  | p :: ps, v :: vs, C, f => (C.slot p.1).bind fun i => (f v).bind fun e => (zip3 ps vs C f).map fun r => (C.own.contains p.1 && isL v, i, e) :: r
  | _, _, _, _ => none
def plainP : List (Bool × Nat × CE) → List Nat
  | [] => []
  | p :: r => p.2.2.plainR ++ plainP r
def cB (f : Stmt → Option CS) : List Stmt → Option CS
  | [] => some .nop
  | [s] => f s
  | s :: r => (f s).bind fun a => (cB f r).map fun b => .seq a b
def isLc : Expr → Bool
  | .ListComp _ _ _ _ => true
  | .SetComp _ _ _ _ => true
  | .DictComp _ _ _ _ _ => true
  | _ => false
def isNm : Expr → Bool
  | .Name _ _ => true
  | _ => false
def cS (m : Nat) (C : Cmp) : Nat → Stmt → Option CS
  | 0, _ => none
  | n + 1, st => match st with
    | .Expr (.Constant (.str _) _ _) _ => some .nop
    | .Expr (.Call (.Attribute (.Name x _) a ap) [e] [] cp) _ => if a = "append" ∧ isStar e = false ∧ (ap.endLine == cp.line) = true ∧ (x == nCls) = false then (C.slot x).bind fun j => (cE m C e).map fun e => thawAll C e.plainR (.app j e) else none
    | .Expr e _ => if isLc e then none else (cE m C e).map fun e => thawAll C e.plainR (.exp e)
    | .Pass _ => some .nop
    | .Return none _ => some .retN
    | .Return (some e) _ => (cE m C e).map fun e => thawAll C e.plainR (.ret e)
    | .Assign [.Name x p] e _ => (zip3 [(x, p)] [e] C (cE m C)).map fun l => thawAll C (plainP l) (.asgs l)
    | .Assign [.Tuple ts k p] (.Tuple vs k2 p2) _ => (match names2 ts with
      | some ns => if parB C ns vs then (zip3 ns vs C (cE m C)).map fun l => thawAll C (plainP l) (.asgs l)
          else if !(ns.length == 2 || ns.length == 3) || vs.all (foldedForSure 8) then (cTg C (.Tuple ts k p)).bind fun g => (cE m C (.Tuple vs k2 p2)).map fun e => thawAll C e.plainR (.asg g e)
          else if ns.any fun q => !kindB .local (C.sc.names.lookup q.1) then (cTg C (.Tuple ts k p)).bind fun g => (cE m C (.Tuple vs k2 p2)).map fun e => thawAll C e.plainR (.asg g e) else none
      | none => (cTg C (.Tuple ts k p)).bind fun g => (cE m C (.Tuple vs k2 p2)).map fun e => thawAll C e.plainR (.asg g e))
    | .Assign [.Tuple ts k p] e _ => (cTg C (.Tuple ts k p)).bind fun g => (cE m C e).map fun e => thawAll C e.plainR (.asg g e)
    | .Assign [.Subscript (.Name x _) i _] e _ => if isSlc i || isStar i || isLc e || !C.vis x || x == nDbg || x == nCls then none else (idx C.N x).bind fun j => (cE m C e).bind fun e => (cE m C i).map fun i => thawAll C (e.plainR ++ i.plainR) (.sets j i e)
    | .If c a b _ => (cE m C c).bind fun c => (cB (cS m C n) a).bind fun a => (cB (cS m C n) b).map fun b => thawAll C c.plainR (.ite c a b)
    | .For tg iter body [] _ => (cTg C tg).bind fun g => (cI C (cE m C) tg iter).bind fun s => (cB (cS m C n) body).map fun b => thawAll C s.plainR (.for_ g s b)
    | .While c body [] _ => (cE m C c).bind fun c => (cB (cS m C n) body).map fun b => .whl c b
    | .Raise _ _ _ => some .never
    | _ => none
end PF
end
section
set_option Elab.async false
set_option linter.all false
set_option maxRecDepth 100000
set_option maxHeartbeats 2000000
/-! PFl: the readings of the compact code, small lemmas. -/
namespace PF
open PySem PySem.Spec PyProof.Rows L2 PFS
section
variable {X : Cx} {e : Expr}
theorem PE.imp {t t' : TE} (h : PE X e t) (k : ∀ σ H Q, t' σ H Q → t σ H Q) : PE X e t' := ⟨fun pins s σ H Q I q => h.run pins s σ H Q I (k _ _ _ q)⟩
theorem PT.imp {t t' : TT} (h : PT X e t) (k : ∀ σ H Q, t' σ H Q → t σ H Q) : PT X e t' := ⟨fun pins s σ H Q I q => h.run pins s σ H Q I (k _ _ _ q)⟩
theorem PW.imp {t t' : TT} (h : PW X e t) (k : ∀ σ H Q, t' σ H Q → t σ H Q) : PW X e t' := ⟨fun wh pins s σ H Q I q => h.run wh pins s σ H Q I (k _ _ _ q)⟩
theorem PA.imp {es : List Expr} {t t' : TA} (h : PA X es t) (k : ∀ σ H Q, t' σ H Q → t σ H Q) : PA X es t' := ⟨fun p pins s σ H Q I q => h.run p pins s σ H Q I (k _ _ _ q)⟩
theorem PI.imp {tg : Expr} {t t' : TI} (h : PI X tg e t) (k : ∀ σ H R, t' σ H R → t σ H R) : PI X tg e t' := ⟨fun pins s σ H R I q => h.run pins s σ H R I (k _ _ _ q)⟩
theorem PG.imp {t t' : TG} (h : PG X e t) (k : ∀ v σ H Q, t' v σ H Q → t v σ H Q) : PG X e t' := ⟨fun pins s σ H v u Q I r q => h.run pins s σ H v u Q I r (k _ _ _ _ q)⟩
theorem PGs.imp {es : List Expr} {t t' : TGs} (h : PGs X es t) (k : ∀ v σ H Q, t' v σ H Q → t v σ H Q) : PGs X es t' := ⟨fun pins s σ H v u Q I r q => h.run pins s σ H v u Q I r (k _ _ _ _ q)⟩
theorem PS.imp {st : Stmt} {t t' : TS} (h : PS X st t) (k : ∀ D σ H, t' D σ H → t D σ H) : PS X st t' := ⟨fun pins s σ H D I q => h.run pins s σ H D I (k _ _ _ q)⟩
theorem PSs.imp {st : List Stmt} {t t' : TS} (h : PSs X st t) (k : ∀ D σ H, t' D σ H → t D σ H) : PSs X st t' := ⟨fun pins s σ H D I q => h.run pins s σ H D I (k _ _ _ q)⟩
theorem PTs.imp {es : List Expr} {t t' : TT} (h : PTs X es t) (k : ∀ σ H Q, t' σ H Q → t σ H Q) : PTs X es t' := ⟨fun pins s σ H Q I q => h.run pins s σ H Q I (k _ _ _ q)⟩
end
/-- the data of a list of values -/
inductive RepVs (c : Cw) (H : Hp) : List V → List Vl → Prop
  | nil : RepVs c H [] []
  | cons {x : V} {xs : List V} {v : Vl} {vs : List Vl} : RepV c H x v → RepVs c H xs vs → RepVs c H (x :: xs) (v :: vs)
theorem RepVs.mono {c : Cw} {H H' : Hp} (e : Ext c.ρ H H') : ∀ {xs : List V} {vs : List Vl}, RepVs c H xs vs → RepVs c H' xs vs
  | _, _, .nil => .nil
  | _, _, .cons r t => .cons (r.mono e) (RepVs.mono e t)
theorem RepVs.length {c : Cw} {H : Hp} : ∀ {xs : List V} {vs : List Vl}, RepVs c H xs vs → xs.length = vs.length
  | _, _, .nil => rfl
  | _, _, .cons _ t => by rw [List.length_cons, List.length_cons, RepVs.length t]
/-- the context's own constants -/
def cOf (X : Cx) (ρ : Addr) (flds : List (Str × Str)) : Cw := ⟨X.prog, X.w, X.K, X.mg, X.base, ρ, flds⟩
def spG (c : Cw) (G : Str → List Vl → M Vl) (f : Str) : Sp := fun vs H Q E => ∃ ρ args st, RepVs { c with ρ := ρ } H vs args ∧ RepSt { c with ρ := ρ } H st ∧ Post { c with ρ := ρ } H E Q (G f args st)
/-- a def's promise, where nothing is being shown -/
structure FnG (P : Program) (w : World) (K : PySem.W.Frag) (mg : Str → Option Value) (base : Heap) (k : Nat) (f : Addr) (fd : FuncData) (ps : List Str) (sp : Sp) : Prop where
  many : ∀ xs H Q E, sp xs H Q E → xs.length = ps.length
  goes : ∀ (A : Around) (out : List PySem.Env) (s : Shared) (H : Hp) (gs : Args) (us : List Value) (xs : List V) (Q : VK) (E : XK), Room k A → A.guards = some [] → Env0 P w K mg base A out s H → BindsTo s fd gs (ps.zip us) → Vals xs us → sp xs H Q E →
    codeAny (model P w) A (.call (.ref f) gs) (CR (L2.CX P w) out P w H s Q E) s
section
variable {X : Cx} {k : Nat} {f : Addr} {fd : FuncData} {ps : List Str} {sp : Sp}
theorem FnG.mono {P : Program} {w : World} {K : PySem.W.Frag} {mg : Str → Option Value} {base : Heap} {j : Nat} (F : FnG P w K mg base j f fd ps sp) (h : j ≤ k) : FnG P w K mg base k f fd ps sp :=
  ⟨F.many, fun A out s H gs us xs Q E hr => F.goes A out s H gs us xs Q E (hr.mono h)⟩
theorem FnG.of {P : Program} {w : World} {K : PySem.W.Frag} {mg : Str → Option Value} {base : Heap} (F : FnOk P w K mg base (L2.CX P w) k f fd ps sp) : FnG P w K mg base k f fd ps sp :=
  ⟨F.len, fun A out s H gs us xs Q E hr _ => F.run A out s H gs us xs Q E hr⟩
theorem FnG.at_ {pins : List (Addr × Obj)} {σ : L2.St} {H : Hp} {s : Shared} {Q : VK} {us : List Value} {xs : List V} {E : XK} (F : FnG X.prog X.w X.K X.mg X.base k f fd ps sp) (hr : Room k X.A) (gd : X.A.guards = some []) (hb : Binds X.K fd ps []) (hx : Passes (L2.CX X.prog X.w) X E) (I : Inv X pins σ H s)
    (r : Vals xs us) (h : sp xs H Q E) : wpAny (model X.prog X.w) X.A (call (.ref f) us) (EP X pins σ Q) X.xe s := by
  have hl : (us ++ []).length = ps.length := by rw [List.append_nil, ← r.length]; exact F.many _ _ _ _ h
  have b := hb s us I.kIn hl
  rw [List.append_nil] at b
  have go := F.goes X.A X.stack s H ⟨us, []⟩ us xs Q E hr gd I.env0 b r h
  refine wpAny_call (codeAny_mono go fun z s' hq => ?_)
  match z, hq with
  | .error e, hq => exact hx pins σ H s e s' I hq
  | .ok (.ret u), hq => exact I.after hq
  | .ok .next, hq => exact hq.elim
  | .ok .brk, hq => exact hq.elim
  | .ok .cont, hq => exact hq.elim
theorem pe_callG {x : Str} {p pos : Pos} {e : Expr} {es : List Expr} {t : TA} {E : XK} (F : FnG X.prog X.w X.K X.mg X.base k f fd ps sp) (hr : Room k X.A) (gd : X.A.guards = some []) (hg : Gl X x) (hm : X.mg x = some (.ref f)) (hk : PySem.W.keepIn X.K (.ref f) = true) (hb : Binds X.K fd ps [])
    (hx : Passes (L2.CX X.prog X.w) X E) (ha : PA X (e :: es) t) (hdb : (x == ("__debug__" : Str)) = false) (he : starEach (e :: es) X.env = (false, eval e X.env) :: starEach es X.env) (hpl : (backTo pos (starEach es X.env)).any (·.1) = false) :
    PE X (.Call (.Name x p) (e :: es) [] pos) (tCall sp [] E t) := by
  constructor
  intro pins s σ H Q I h
  have arg := ha.run pos pins s σ H _ I h
  refine wpAny_Call_Name_kw (ld_glob I hg hm (PySem.W.callWith_K (h₀ := X.base) I.ok.mod.kin hk (thn arg fun us s1 z => ?_) he hpl) hdb)
  obtain ⟨xs, H1, I1, r, q⟩ := z
  rw [List.append_nil] at q
  exact ⟨I1.kIn, F.at_ hr gd hb hx I1 r q⟩
theorem pe_callG0 {x : Str} {p pos : Pos} {E : XK} (F : FnG X.prog X.w X.K X.mg X.base k f fd ps sp) (hr : Room k X.A) (gd : X.A.guards = some []) (hg : Gl X x) (hm : X.mg x = some (.ref f)) (hk : PySem.W.keepIn X.K (.ref f) = true) (hb : Binds X.K fd ps [])
    (hx : Passes (L2.CX X.prog X.w) X E) (hdb : (x == ("__debug__" : Str)) = false) : PE X (.Call (.Name x p) [] [] pos) (tCall sp [] E tNil) := by
  constructor
  intro pins s σ H Q I h
  have q : sp [] H Q E := h
  exact wpAny_Call_Name_kw (ld_glob I hg hm (PySem.W.callWith_K0 I.kIn hk (F.at_ (us := []) hr gd hb hx I .nil q)) hdb)
end
/-- a def of the module may be called -/
structure Callable (c : Cw) (G : Str → List Vl → M Vl) (A : Around) (f : Str) : Prop where
  at_ : c.mg f = some (.ref (He.ga c.K f))
  keep : PySem.W.keepIn c.K (.ref (He.ga c.K f)) = true
  ok : ∃ k fd ps, FnG c.prog c.w c.K c.mg c.base k (He.ga c.K f) fd ps (spG c G f) ∧ Room k A ∧ Binds c.K fd ps []
structure OkE (G : Str → List Vl → M Vl) (W : XK) (ρ : Addr) (flds : List (Str × Str)) (C : Cmp) (X : Cx) : Prop where
  N : X.N = C.N
  nd : X.N.Nodup
  sc : X.env.scope = C.sc
  fn : ∀ x, X.fn x = C.fn x
  calm : X.calm = true
  units : X.A.units + 128 < cLine
  gd : X.A.guards = some []
  fns : ∀ f, C.fns.contains f = true → Callable (cOf X ρ flds) G X.A f
  cns : ∀ x v, C.cns.lookup x = some v → ∃ y u, X.mg x = some u ∧ RelV y u ∧ ∀ H, Rep X.K H y v
  free : ∀ x, C.free.contains x = true → X.mg x = none
  pass : Passes (L2.CX X.prog X.w) X W
/-- the words a name's place needs -/
theorem OkE.glo {G : Str → List Vl → M Vl} {W : XK} {ρ : Addr} {flds : List (Str × Str)} {C : Cmp} {X : Cx} (ok : OkE G W ρ flds C X) {x : Str} (h : C.glob x = true) : Gl X x := by
  have e := kindB_ok h
  unfold Gl PySem.Env.kindOf
  rw [ok.sc]
  exact e
theorem OkE.vis {G : Str → List Vl → M Vl} {W : XK} {ρ : Addr} {flds : List (Str × Str)} {C : Cmp} {X : Cx} (ok : OkE G W ρ flds C X) {x : Str} (h : C.vis x = true) : Vis X.env.scope x := by
  unfold Cmp.vis at h
  simp only [Bool.or_eq_true] at h
  rw [ok.sc]
  rcases h with (h | h) | h
  · exact .inl (kindB_ok h)
  · exact .inr (.inl (kindB_ok h))
  · exact .inr (.inr (kindB_ok h))
theorem slot_ok {C : Cmp} {x : Str} {i : Nat} (h : C.slot x = some i) : C.N[i]? = some x ∧ C.loc x = true ∧ (x == nDbg) = false := by
  unfold Cmp.slot at h
  split at h
  · rename_i e
    simp only [Bool.and_eq_true, Bool.not_eq_true'] at e
    exact ⟨idx_ok h, e.1, e.2⟩
  · cases h
theorem OkE.loc {G : Str → List Vl → M Vl} {W : XK} {ρ : Addr} {flds : List (Str × Str)} {C : Cmp} {X : Cx} (ok : OkE G W ρ flds C X) {x : Str} (h : C.loc x = true) : Loc X.env.scope x ∧ (X.fn x = true ∨ X.env.scope.names.lookup x = some .local) := by
  unfold Cmp.loc at h
  simp only [Bool.and_eq_true, Bool.or_eq_true] at h
  rw [ok.sc, ok.fn]
  refine ⟨?_, ?_⟩
  · rcases h.1 with h | h
    · exact .inl (kindB_ok h)
    · exact .inr (kindB_ok h)
  · rcases h.2 with h | h
    · exact .inl h
    · exact .inr (kindB_ok h)
section
variable {c : Cw} {G : Str → List Vl → M Vl} {W : XK} {H H1 H2 : Hp} {σ : L2.St} {env : Env} {st : St}
theorem RepSt.same {s : St} (h : RepSt c H s) (e : Same H H') : RepSt c H' s := e _ _ h
theorem wd_of {Q : VK} {r : D} (q : Wi c H Q (.d r) st) (e : Ext c.ρ H H1) (s : RepSt c H1 st) : Wd c.K H1 Q r := fun u H' sm rp => q u H' (e.trans (Ext.of sm)) (sm _ _ s) (.d rp)
theorem tG_of {β : Type} {Φ : β → St → Prop} {a : CE} {f : Vl → M β} {Q1 : VK} (he : RepEnv c H σ env) (hs : RepSt c H st) (h : Pst c H W Φ (bd (ev G a env) f st))
    (k : ∀ v st' x H1, Ext c.ρ H H1 → RepSt c H1 st' → RepV c H1 x v → RepEnv c H1 σ env → Pst c H1 W Φ (f v st') → Q1 x H1) : tG c G W a σ H Q1 :=
  ⟨env, st, he, hs, (Pst.bd h).mono fun v st' q x H1 e r1 r2 => k v st' x H1 e r1 r2 (he.mono e) (Pst.rebase q e)⟩
theorem pst_optD {Φ : Vl → St → Prop} {o : Option D} (h : Pst c H W Φ (bd (PF.opt o) rD st)) : ∃ r, o = some r ∧ Φ (.d r) st := by
  cases o with
  | none => exact h.elim
  | some r => exact ⟨r, rfl, h⟩
theorem pst_optB {α β : Type} {Φ : β → St → Prop} {o : Option α} {f : α → M β} (h : Pst c H W Φ (bd (PF.opt o) f st)) : ∃ r, o = some r ∧ Pst c H W Φ (f r st) := by
  cases o with
  | none => exact h.elim
  | some r => exact ⟨r, rfl, h⟩
theorem RepV.data {x : V} {d : D} (h : RepV c H x (.d d)) : Rep c.K H x d := by cases h; assumption
/-- read as data, one's own too -/
theorem RepV.dp {x : V} {d : D} (h : RepV c H x (.own d)) : ∃ a xs ds, x = .ref a ∧ d = .list ds ∧ H a = some (.lst xs) ∧ RepL c.K H xs ds ∧ a ≠ c.ρ := by
  cases h
  exact ⟨_, _, _, rfl, rfl, by assumption, by assumption, by assumption⟩
/-- a test's reading -/
def tT (c : Cw) (G : Str → List Vl → M Vl) (W : XK) (a : CE) : TT := fun σ H Q => ∃ env st, RepEnv c H σ env ∧ RepSt c H st ∧ Pst c H W (fun b st' => ∀ H', Ext c.ρ H H' → RepSt c H' st' → Q b H') (bd (ev G a env) truth st)
theorem tT_of {β : Type} {Φ : β → St → Prop} {a : CE} {f : Bool → M β} {Q1 : Bool → Hp → Prop} (he : RepEnv c H σ env) (hs : RepSt c H st) (h : Pst c H W Φ (bd (ev G a env) (fun v => bd (truth v) f) st))
    (k : ∀ b st' H1, Ext c.ρ H H1 → RepSt c H1 st' → RepEnv c H1 σ env → Pst c H1 W Φ (f b st') → Q1 b H1) : tT c G W a σ H Q1 := by
  refine ⟨env, st, he, hs, ?_⟩
  have h' : Pst c H W Φ (bd (bd (ev G a env) truth) f st) := by
    unfold bd at h ⊢
    cases e : ev G a env st with
    | ok v s => rw [e] at h; exact h
    | exc x y s => rw [e] at h; exact h
    | bad => rw [e] at h; exact h
  exact (Pst.bd h').mono fun b st' q H1 e r1 => k b st' H1 e r1 (he.mono e) (Pst.rebase q e)
end
end PF
end
section
set_option Elab.async false
set_option linter.all false
set_option maxRecDepth 100000
set_option maxHeartbeats 2000000
/-! PFm: each form of expression keeps to the evaluator. -/
namespace PF
open PySem PySem.Spec PyProof.Rows L2 PFS
theorem bd_assoc {α β γ : Type} (m : M α) (f : α → M β) (g : β → M γ) : bd (bd m f) g = bd m fun a => bd (f a) g := by
  funext s
  unfold bd
  cases m s <;> rfl
theorem asD_bd {α β : Type} (v : Vl) (f : D → M α) (g : α → M β) : bd (asD v f) g = asD v fun x => bd (f x) g := by cases v <;> rfl
theorem asR_bd {α β : Type} (v : Vl) (f : D → M α) (g : α → M β) : bd (asR v f) g = asR v fun x => bd (f x) g := by cases v <;> rfl
theorem asT_bd {α β : Type} (v : Vl) (f : List D → M α) (g : α → M β) : bd (asT v f) g = asT v fun x => bd (f x) g := by
  cases v with
  | d x => cases x <;> rfl
  | _ => rfl
theorem asL_bd {α β : Type} (v : Vl) (f : List D → M α) (g : α → M β) : bd (asL v f) g = asL v fun x => bd (f x) g := by
  cases v with
  | d x => cases x <;> rfl
  | _ => rfl
theorem asB_bd {α β : Type} (v : Vl) (f : Bool → M α) (g : α → M β) : bd (asB v f) g = asB v fun x => bd (f x) g := by
  cases v with
  | d x => cases x <;> rfl
  | _ => rfl
theorem pst_getV {c : Cw} {H : Hp} {W : XK} {st : St} {Φ : Vl → St → Prop} {env : Env} {i : Nat} (h : Pst c H W Φ (getV env i st)) : ∃ v, env[i]? = some (some v) ∧ Φ v st := by
  unfold getV at h
  cases e : env[i]? with
  | none => rw [e] at h; exact h.elim
  | some o =>
    rw [e] at h
    cases o with
    | none => exact h.elim
    | some v => exact ⟨v, rfl, h⟩
theorem bd_ret {α β : Type} (a : α) (f : α → M β) : bd (ret a) f = f a := rfl
section
variable {c : Cw} {W : XK} {H H1 : Hp} {st : St}
theorem Pst.to {α β : Type} {Φ : α → St → Prop} {Ψ : β → St → Prop} {m : M α} {f : α → M β} (h : Pst c H W Φ (m st)) (k : ∀ a s, Φ a s → Pst c H W Ψ (f a s)) : Pst c H W Ψ (PF.bd m f st) := by
  unfold PF.bd
  cases e : m st with
  | ok a s => rw [e] at h; exact k a s h
  | exc x y s => rw [e] at h; exact h
  | bad => rw [e] at h; exact h
end
section
variable {X : Cx} {ρ : Addr} {flds : List (Str × Str)} {G : Str → List Vl → M Vl} {W : XK} {C : Cmp}
abbrev TG' (X : Cx) (ρ : Addr) (flds : List (Str × Str)) (G : Str → List Vl → M Vl) (W : XK) (a : CE) : TE := tG (cOf X ρ flds) G W a
theorem pst_T {c : Cw} {H : Hp} {st : St} {Φ : List D → St → Prop} {m : M Vl} (h : Pst c H W (fun v s => ∃ l, v = .d (.tuple l) ∧ Φ l s) (m st)) : Pst c H W Φ (bd m (fun w => asT w ret) st) := by
  refine Pst.to h fun v s ⟨l, e, q⟩ => ?_
  subst e
  exact q
/-- a list of arguments as data -/
def tL (c : Cw) (G : Str → List Vl → M Vl) (W : XK) (a : CE) : TA := fun σ H Q => ∃ env st, RepEnv c H σ env ∧ RepSt c H st ∧ Pst c H W (fun l st' => ∀ xs H', Ext c.ρ H H' → RepSt c H' st' → RepL c.K H' xs l → Q xs H') (bd (ev G a env) (fun w => asT w ret) st)
theorem star_no {e : Expr} {es : List Expr} {env : PySem.Env} (h : isStar e = false) : starEach (e :: es) env = (false, eval e env) :: starEach es env := by
  cases e <;> first | rfl | cases h
theorem cL_cons {f : Expr → Option CE} {e : Expr} {es : List Expr} {a : CE} (h : cL f (e :: es) = some a) : isStar e = false ∧ ∃ x y, f e = some x ∧ cL f es = some y ∧ a = .cons x y := by
  have key : isStar e = false → (f e).bind (fun a => (cL f es).map fun b => CE.cons a b) = some a → isStar e = false ∧ ∃ x y, f e = some x ∧ cL f es = some y ∧ a = .cons x y := fun hs h => by
    obtain ⟨x, e1, e2⟩ := Option.bind_eq_some_iff.mp h
    obtain ⟨y, e3, rfl⟩ := Option.map_eq_some_iff.mp e2
    exact ⟨hs, x, y, e1, e3, rfl⟩
  cases e <;> first | exact key rfl h | cases h
theorem star_any {f : Expr → Option CE} {env : PySem.Env} {pos : Pos} : ∀ {es : List Expr} {a : CE}, cL f es = some a → (backTo pos (starEach es env)).any (·.1) = false
  | [], _, _ => rfl
  | e :: es, a, h => by
    obtain ⟨hs, x, y, _, h2, _⟩ := cL_cons h
    rw [star_no hs]
    show (false || (backTo pos (starEach es env)).any (·.1)) = false
    rw [star_any h2]
    rfl
theorem pa_L {f : Expr → Option CE} : ∀ {es : List Expr} {a : CE}, cL f es = some a → (∀ e ∈ es, ∀ x, f e = some x → PE X e (TG' X ρ flds G W x)) → PA X es (tL (cOf X ρ flds) G W a)
  | [], a, h, _ => by
    cases h
    refine PA.imp pa_nil ?_
    rintro σ H Q ⟨env, st, he, hs, h⟩
    exact h [] H (Ext.refl _ _) hs .nil
  | e :: es, a, h, hf => by
    obtain ⟨hst, x, y, h1, h2, rfl⟩ := cL_cons h
    refine PA.imp (pa_cons (hf e List.mem_cons_self x h1) (pa_L h2 fun e he => hf e (List.mem_cons_of_mem _ he)) (star_no hst)) ?_
    rintro σ H Q ⟨env, st, he, hs, h⟩
    rw [ev, bd_assoc] at h
    refine tG_of he hs h fun v st1 x1 H1 e1 s1 r1 he1 h1 => ?_
    rw [bd_assoc] at h1
    refine ⟨env, st1, he1, s1, pst_T ((Pst.bd h1).mono fun w st2 h2 => ?_)⟩
    rw [asD_bd] at h2
    obtain ⟨xd, rfl, h3⟩ := Pst.asD h2
    rw [asT_bd] at h3
    obtain ⟨l, rfl, h4⟩ := Pst.asT h3
    refine ⟨l, rfl, fun xs H2 e2 s2 r2 => ?_⟩
    exact h4 (x1 :: xs) H2 (e1.trans e2) s2 (.cons (Rep.mono e2.fz _ _ r1.data) r2)
/-! ### names, constants -/
theorem e_var (ok : OkE G W ρ flds C X) {x : Str} {i : Nat} {pos : Pos} (h1 : C.vis x = true) (h2 : idx C.N x = some i) (hd : (x == nDbg) = false) (hc : (x == nCls) = false) : PE X (.Name x pos) (TG' X ρ flds G W (.var i)) := by
  refine PE.imp (pe_var (i := i) (by rw [ok.N]; exact idx_ok h2) (ok.vis h1) hd hc) ?_
  rintro σ H Q ⟨env, st, he, hs, h⟩
  rw [ev] at h
  obtain ⟨v, e, h⟩ := pst_getV h
  obtain ⟨y, e1, r⟩ := he.at_ i v e
  exact ⟨y, e1, h y H (Ext.refl _ _) hs r⟩
theorem e_cst {e : Expr} {v : V} {d : D} (h : PE X e (tC v)) (r : ∀ H, Rep X.K H v d) : PE X e (TG' X ρ flds G W (.cst d)) := by
  refine PE.imp h ?_
  rintro σ H Q ⟨env, st, he, hs, h⟩
  exact h v H (Ext.refl _ _) hs (.d (r H))
theorem e_fnv (ok : OkE G W ρ flds C X) {x : Str} {pos : Pos} (h1 : C.glob x = true) (h2 : C.fns.contains x = true) (hd : (x == nDbg) = false) : PE X (.Name x pos) (TG' X ρ flds G W (.fnv x)) := by
  refine PE.imp (pe_glob (v := .ref (He.ga X.K x)) (ok.glo h1) (ok.fns x h2).at_ rfl hd) ?_
  rintro σ H Q ⟨env, st, he, hs, h⟩
  exact h _ H (Ext.refl _ _) hs (.fn x)
/-! ### displays -/
theorem pst_short {c : Cw} {H : Hp} {st : St} {β : Type} {Φ : β → St → Prop} {l : List D} {f : List D → M β} (h : Pst c H W Φ (bd (short l) f st)) : l.length ≤ line ∧ Pst c H W Φ (f l st) := by
  unfold short at h
  split at h
  · exact ⟨by assumption, h⟩
  · exact h.elim
theorem e_tup {es : List Expr} {a : CE} {k : Nat} {pos : Pos} (h : PA X es (tL (cOf X ρ flds) G W a)) : PE X (.Tuple es k pos) (TG' X ρ flds G W (.tup a)) := by
  refine PE.imp (pe_tup h) ?_
  rintro σ H Q ⟨env, st, he, hs, h⟩
  rw [ev] at h
  refine ⟨env, st, he, hs, pst_T ((Pst.bd h).mono fun w st1 h => ?_)⟩
  obtain ⟨l, rfl, h⟩ := Pst.asT h
  refine ⟨l, rfl, fun xs H1 e1 s1 r1 => ?_⟩
  obtain ⟨hz, h⟩ := pst_short h
  refine ⟨by rw [r1.length, line_eq]; exact hz, fun p hp => ?_⟩
  exact wd_of h e1 s1 _ _ (same_new hp) (.tup (.of upd_same) (RepL.mono (samefz (same_new hp)) _ _ r1))
/-- the same without the last freezing: one's own -/
def tO (c : Cw) (G : Str → List Vl → M Vl) (W : XK) (a : CE) : TE := fun σ H Q => ∃ env st, RepEnv c H σ env ∧ RepSt c H st ∧ Pst c H W (fun v st' => ∃ ds, v = .d (.list ds) ∧ ∀ H1, Ext c.ρ H H1 → RepSt c H1 st' → ∀ p xs, H1 p = none → RepL c.K H1 xs ds → Q (.ref p) (upd H1 p (.lst xs))) (ev G a env st)
theorem o_lst {es : List Expr} {a : CE} {pos : Pos} (h : PA X es (tL (cOf X ρ flds) G W a)) : PE X (.List es pos) (tO (cOf X ρ flds) G W (.lst a)) := by
  refine PE.imp (pe_lst h) ?_
  rintro σ H Q ⟨env, st, he, hs, h⟩
  rw [ev] at h
  refine ⟨env, st, he, hs, pst_T ((Pst.bd h).mono fun w st1 h => ?_)⟩
  obtain ⟨l, rfl, h⟩ := Pst.asT h
  refine ⟨l, rfl, fun xs H1 e1 s1 r1 => ?_⟩
  obtain ⟨hz, h⟩ := pst_short h
  refine ⟨by rw [r1.length, line_eq]; exact hz, fun p hp => ?_⟩
  obtain ⟨ds, e, h⟩ := h
  cases e
  exact h H1 e1 s1 p xs hp r1
/-- a fresh list is frozen -/
theorem e_of_o {e : Expr} {a : CE} (h : PE X e (tO (cOf X ρ flds) G W a)) (hl : ∀ env st, match ev G a env st with
    | .ok (.d (.list _)) _ => True
    | .ok _ _ => False
    | _ => True) : PE X e (TG' X ρ flds G W a) := by
  refine ⟨fun pins s σ H Q I hw => ?_⟩
  obtain ⟨env, st, he, hs, hp⟩ := hw
  have key : tO (cOf X ρ flds) G W a σ H (fun v H' => ∃ p xs ds H1, v = .ref p ∧ H' = upd H1 p (.lst xs) ∧ H1 p = none ∧ RepL X.K H1 xs ds ∧ Wd X.K H1 Q (.list ds)) := by
    refine ⟨env, st, he, hs, ?_⟩
    have hl := hl env st
    cases e : ev G a env st with
    | ok v s' =>
      rw [e] at hp hl
      cases v with
      | d x =>
        cases x with
        | list ds => exact ⟨ds, rfl, fun H1 e1 s1 p xs hp1 r => ⟨p, xs, ds, H1, rfl, rfl, hp1, r, wd_of hp e1 s1⟩⟩
        | _ => exact hl.elim
      | _ => exact hl.elim
    | exc x y s' => rw [e] at hp; exact hp
    | bad => rw [e] at hp; exact hp
  refine thn (h.run pins s σ H _ I key) fun u s1 ⟨v, H', I', r, p, xs, ds, H1, ev1, eH, hn, rl, q⟩ => ?_
  subst ev1 eH
  cases r
  exact fin_list I' hn rl q
/-! ### operators -/
theorem e_neg {a : Expr} {ca : CE} {pos : Pos} (ha : PE X a (TG' X ρ flds G W ca)) : PE X (.UnaryOp .USub a pos) (TG' X ρ flds G W (.neg ca)) := by
  refine PE.imp (pe_un ou_neg ha) ?_
  rintro σ H Q ⟨env, st, he, hs, h⟩
  rw [ev] at h
  refine tG_of he hs h fun v st1 x H1 e1 s1 r1 he1 h1 => ?_
  obtain ⟨d, rfl, h2⟩ := Pst.asD h1
  cases d with
  | int i => exact ⟨i, r1.data, wd_of h2 e1 s1⟩
  | _ => exact h2.elim
theorem bin_ok {o : Operator} {b : Bi} (h : opB o = some b) : OpR X (binaryOp o) (rB X.K (binF b)) := by
  cases o <;> cases h
  · exact ob_add
  · exact ob_sub
  · exact ob_mul
  · exact ob_mod
  · exact ob_pow
  · exact ob_fdiv
theorem e_bin {a b : Expr} {ca cb : CE} {o : Operator} {p : Bi} {pos : Pos} (ho : opB o = some p) (ha : PE X a (TG' X ρ flds G W ca)) (hb : PE X b (TG' X ρ flds G W cb)) : PE X (.BinOp a o b pos) (TG' X ρ flds G W (.bin p ca cb)) := by
  refine PE.imp (pe_op (bin_ok ho) ha hb) ?_
  rintro σ H Q ⟨env, st, he, hs, h⟩
  rw [ev] at h
  refine tG_of he hs h fun v st1 x H1 e1 s1 r1 he1 h1 => tG_of he1 s1 h1 fun w st2 y H2 e2 s2 r2 he2 h2 => ?_
  obtain ⟨d, rfl, h3⟩ := Pst.asD h2
  obtain ⟨d2, rfl, h4⟩ := Pst.asD h3
  obtain ⟨r, hf, h5⟩ := pst_optD h4
  exact ⟨d, d2, r, Rep.mono e2.fz _ _ r1.data, r2.data, hf, wd_of h5 (e1.trans e2) s2⟩
/-- comparisons -/
theorem cmp_ok (hu : X.A.units + 128 < cLine) {o : CmpOp} {b : Cm} (h : opC o = some b) : OpR X (compareOp o) (rC X.K (cmpF b)) := by
  cases o <;> cases h
  · exact oc_eq hu
  · exact oc_ne hu
  · exact oc_lt hu
  · exact oc_le hu
  · exact oc_gt hu
  · exact oc_ge hu
  · exact oc_is
  · exact oc_isnot
  · exact oc_in hu
  · exact oc_notin hu
theorem mark_no {op : CmpOp} {b : Expr} (h : isSet b = false) : behindInMarks op b = false := by
  cases b <;> first | rfl | cases h
end
end PF
end
section
set_option Elab.async false
set_option linter.all false
set_option maxRecDepth 100000
set_option maxHeartbeats 2000000
/-! PFn: comparisons, logic, subscripts, slices, built-ins. -/
namespace PF
open PySem PySem.Spec PyProof.Rows L2 PFS
section
variable {X : Cx}
/-- one's own list, read -/
def Own (K : PySem.W.Frag) (H : Hp) (y : V) (ds : List D) : Prop := ∃ p xs, y = .ref p ∧ H p = some (.lst xs) ∧ RepL K H xs ds
theorem Own.reads {pins : List (Addr × Obj)} {σ : L2.St} {H : Hp} {s : Shared} {y : V} {u : Value} {ds : List D} (I : Inv X pins σ H s) (h : Own X.K H y ds) (r : RelV y u) : ∃ as, Reads s.heap u (.list ds) as := by
  obtain ⟨p, xs, rfl, h1, h2⟩ := h
  exact Dp.reads I (.list ds) _ u (.lst (.inl (.inl h1)) (RepL.dp ds xs h2)) r
abbrev rIn (K : PySem.W.Frag) (f : D → D → Option Bool) : R2 := fun x y H Q => rC K f x y H Q ∨ ∃ a ds r, Rep K H x a ∧ Own K H y ds ∧ f a (.list ds) = some r ∧ Wd K H Q (.bool r)
theorem oc_inO (hu : X.A.units + 128 < cLine) : OpR X (compareOp .In) (rIn X.K (cmpF .isin)) := by
  intro pins s σ H x y v u Q I rx ry h
  rcases h with h | ⟨a, ds, r, ha, hb, hf, q⟩
  · exact oc_in hu pins s σ H x y v u Q I rx ry h
  · obtain ⟨as, r1⟩ := Rep.reads I ha rx
    obtain ⟨bs, r2⟩ := hb.reads I ry
    simp only [cmpF, inF] at hf
    split at hf
    · rename_i e
      simp only [Bool.and_eq_true, decide_eq_true_eq] at e
      cases hf
      exact SeqAt.in_list_data r2 r1 e.1.2 e.1.1 (by omega) (fin_bool I q)
    · cases hf
theorem oc_notinO (hu : X.A.units + 128 < cLine) : OpR X (compareOp .NotIn) (rIn X.K (cmpF .notin)) := by
  intro pins s σ H x y v u Q I rx ry h
  rcases h with h | ⟨a, ds, r, ha, hb, hf, q⟩
  · exact oc_notin hu pins s σ H x y v u Q I rx ry h
  · obtain ⟨k, hk, rfl⟩ := map_not hf
    obtain ⟨as, r1⟩ := Rep.reads I ha rx
    obtain ⟨bs, r2⟩ := hb.reads I ry
    simp only [inF] at hk
    split at hk
    · rename_i e
      simp only [Bool.and_eq_true, decide_eq_true_eq] at e
      cases hk
      exact SeqAt.notIn_list_data r2 r1 e.1.2 e.1.1 (by omega) (fin_bool I q)
    · cases hk
theorem oi_own : IxR X (fun x y H Q => ∃ ds b r, Own X.K H x ds ∧ Rep X.K H y b ∧ subF (.list ds) b = some r ∧ Wd X.K H Q r) := by
  intro value slice pins s σ H x y v u Q I rx ry ⟨ds, b, r, ⟨p, xs, hx, h1, h2⟩, hb, hf, q⟩ hs
  cases hb with
  | int i =>
    have hf' : L2.atI _ i = some r := hf
    unfold L2.atI at hf'
    obtain ⟨j, e1, e2⟩ := Option.bind_eq_some_iff.mp hf'
    obtain ⟨vv, e3, rv⟩ := h2.get e2
    refine ix_list value slice pins s σ H _ _ v u Q I rx ry ⟨_, _, i, vv, hx, rfl, SqL.of h1, ?_, q _ _ (Same.refl H) rv⟩ hs
    unfold L2.atI
    rw [h2.length, e1]
    exact e3
  | _ => cases hf
theorem oi_cup {ρ : Addr} : IxR X (fun x y H Q => ∃ (s : St) (d : D), x = .ref ρ ∧ H ρ = some (.lst [.int s.1, .int s.2]) ∧ Rep X.K H y d ∧ ((d = .int 0 ∧ Q (.int s.1) H) ∨ (d = .int 1 ∧ Q (.int s.2) H))) := by
  intro value slice pins s σ H x y v u Q I rx ry ⟨st, d, hx, h1, hb, h⟩ hs
  rcases h with ⟨e, q⟩ | ⟨e, q⟩
  · subst e
    cases hb
    exact ix_list value slice pins s σ H _ _ v u Q I rx ry ⟨_, _, 0, _, hx, rfl, SqL.of h1, rfl, q⟩ hs
  · subst e
    cases hb
    exact ix_list value slice pins s σ H _ _ v u Q I rx ry ⟨_, _, 1, _, hx, rfl, SqL.of h1, rfl, q⟩ hs
theorem cp_lenO : CallR X (.builtin "len") (fun xs H Q => rP X.K .len xs H Q ∨ ∃ y ds, xs = [y] ∧ Own X.K H y ds ∧ Wd X.K H Q (.int ds.length)) := by
  intro pins s σ H xs us Q I r h
  rcases h with h | ⟨y, ds, rfl, ⟨p, xs, hy, h1, h2⟩, q⟩
  · exact cp_len pins s σ H xs us Q I r h
  · subst hy
    exact call_len_seq pins s σ H _ us Q I r ⟨_, _, rfl, .inl (SqL.of h1), q _ _ (Same.refl H) (by rw [h2.length]; exact .int _)⟩
theorem plain_ix {b : Expr} (h : isSlc b = false) : PlainIx b := by
  intro o i
  cases b <;> first | rfl | cases h
end
section
variable {X : Cx} {ρ : Addr} {flds : List (Str × Str)} {G : Str → List Vl → M Vl} {W : XK} {C : Cmp}
theorem RepV.ownL {c : Cw} {H : Hp} {x : V} {d : D} (h : RepV c H x (.own d)) : ∃ ds, d = .list ds ∧ Own c.K H x ds := by
  obtain ⟨a, xs, ds, e1, e2, h1, h2, _⟩ := h.dp
  exact ⟨ds, e2, a, xs, e1, h1, h2⟩
theorem e_cmp (ok : OkE G W ρ flds C X) {a b : Expr} {ca cb : CE} {o : CmpOp} {p : Cm} {pos : Pos} (ho : opC o = some p) (hm : isSet b = false) (ha : PE X a (TG' X ρ flds G W ca)) (hb : PE X b (TG' X ρ flds G W cb)) :
    PE X (.Compare a [o] [b] pos) (TG' X ρ flds G W (.cmp p ca cb)) ∧ PT X (.Compare a [o] [b] pos) (tT (cOf X ρ flds) G W (.cmp p ca cb)) := by
  have main : ∃ r : R2, OpR X (compareOp o) r ∧ ∀ σ H (Q : VK) env st, RepEnv (cOf X ρ flds) H σ env → RepSt (cOf X ρ flds) H st → ∀ {β : Type} (Φ : β → St → Prop) (f : Bool → M β), Pst (cOf X ρ flds) H W Φ (bd (ev G ca env) (fun v => bd (ev G cb env) fun w => asD v fun x => p.as w fun y => bd (opt (cmpF p x y)) f) st) →
      (∀ b st' H1, Ext ρ H H1 → RepSt (cOf X ρ flds) H1 st' → RepEnv (cOf X ρ flds) H1 σ env → Pst (cOf X ρ flds) H1 W Φ (f b st') → Wd X.K H1 Q (.bool b)) → tOp r (TG' X ρ flds G W ca) (TG' X ρ flds G W cb) σ H Q := by
    cases hp : p.isMem with
    | false =>
      refine ⟨_, cmp_ok ok.units ho, fun σ H Q env st he hs β Φ f h k => ?_⟩
      refine tG_of he hs h fun v st1 x H1 e1 s1 r1 he1 h1 => tG_of he1 s1 h1 fun w st2 y H2 e2 s2 r2 he2 h2 => ?_
      obtain ⟨d, rfl, h3⟩ := Pst.asD h2
      unfold Cm.as at h3
      rw [hp] at h3
      obtain ⟨d2, rfl, h4⟩ := Pst.asD h3
      obtain ⟨t, hf, h5⟩ := pst_optB h4
      exact ⟨d, d2, t, Rep.mono e2.fz _ _ r1.data, r2.data, hf, k t st2 H2 (e1.trans e2) s2 he2 h5⟩
    | true =>
      have hr : ∃ r, OpR X (compareOp o) r ∧ ∀ x y H Q, rIn X.K (cmpF p) x y H Q → r x y H Q := by
        cases o <;> cases ho <;> first
          | (cases hp; done)
          | exact ⟨_, oc_inO ok.units, fun _ _ _ _ z => z⟩
          | exact ⟨_, oc_notinO ok.units, fun _ _ _ _ z => z⟩
      obtain ⟨r, hr, hk⟩ := hr
      refine ⟨r, hr, fun σ H Q env st he hs β Φ f h k => ?_⟩
      refine tG_of he hs h fun v st1 x H1 e1 s1 r1 he1 h1 => tG_of he1 s1 h1 fun w st2 y H2 e2 s2 r2 he2 h2 => ?_
      obtain ⟨d, rfl, h3⟩ := Pst.asD h2
      unfold Cm.as at h3
      rw [hp] at h3
      obtain ⟨d2, hw, h4⟩ := Pst.asR h3
      obtain ⟨t, hf, h5⟩ := pst_optB h4
      have z := k t st2 H2 (e1.trans e2) s2 he2 h5
      rcases hw with rfl | rfl
      · exact hk _ _ _ _ (.inl ⟨d, d2, t, Rep.mono e2.fz _ _ r1.data, r2.data, hf, z⟩)
      · obtain ⟨ds, rfl, ow⟩ := r2.ownL
        exact hk _ _ _ _ (.inr ⟨d, ds, t, Rep.mono e2.fz _ _ r1.data, ow, hf, z⟩)
  obtain ⟨r, hr, main⟩ := main
  refine ⟨PE.imp (pe_cmpR hr ha hb (mark_no hm)) ?_, PT.imp (pt_cmpR hr ha hb (mark_no hm)) ?_⟩
  · rintro σ H Q ⟨env, st, he, hs, h⟩
    rw [ev] at h
    exact main σ H Q env st he hs _ _ h fun b st' H1 e1 s1 he1 h1 => wd_of h1 e1 s1
  · rintro σ H Q ⟨env, st, he, hs, h⟩
    rw [ev, bd_assoc] at h
    have h' : Pst (cOf X ρ flds) H W (fun b st' => ∀ H', Ext ρ H H' → RepSt (cOf X ρ flds) H' st' → Q b H') (bd (ev G ca env) (fun v => bd (ev G cb env) fun w => asD v fun x => p.as w fun y => bd (opt (cmpF p x y)) fun t => ret t) st) := by
      have e : (fun a => bd (bd (ev G cb env) fun w => asD a fun x => p.as w fun y => bd (opt (cmpF p x y)) fun t => rD (.bool t)) truth) = fun v => bd (ev G cb env) fun w => asD v fun x => p.as w fun y => bd (opt (cmpF p x y)) fun t => ret t := by
        funext v
        rw [bd_assoc]
        congr 1
        funext w
        rw [asD_bd]
        congr 1
        funext x
        unfold Cm.as
        cases p.isMem
        · show bd (asD w _) truth = _
          rw [asD_bd]
          show (asD w fun y => bd (bd (opt (cmpF p x y)) fun t => rD (.bool t)) truth) = asD w fun y => bd (opt (cmpF p x y)) fun t => ret t
          congr 1
          funext y
          rw [bd_assoc]
          rfl
        · show bd (asR w _) truth = _
          rw [asR_bd]
          show (asR w fun y => bd (bd (opt (cmpF p x y)) fun t => rD (.bool t)) truth) = asR w fun y => bd (opt (cmpF p x y)) fun t => ret t
          congr 1
          funext y
          rw [bd_assoc]
          rfl
      rw [← e]
      exact h
    exact main σ H _ env st he hs _ _ h' fun b st' H1 e1 s1 he1 h1 => fun u H' sm rp => by
      cases rp
      exact ⟨b, rfl, h1 H' (e1.trans (Ext.of sm)) (sm _ _ s1)⟩
end
end PF
end
section
set_option Elab.async false
set_option linter.all false
set_option maxRecDepth 100000
set_option maxHeartbeats 2000000
/-! PFo: chains, logic, subscripts, slices, calls, built-ins. -/
namespace PF
open PySem PySem.Spec PyProof.Rows L2 PFS
/-- only bools come -/
def OnlyB (r : R Vl) : Prop := ∀ v s, r = .ok v s → ∃ b, v = .d (.bool b)
theorem OnlyB.bd {α : Type} {m : M α} {f : α → M Vl} {s : St} (h : ∀ a s', OnlyB (f a s')) : OnlyB (PF.bd m f s) := by
  intro v s' e
  unfold PF.bd at e
  cases e1 : m s with
  | ok a s1 => rw [e1] at e; exact h a s1 v s' e
  | exc x y s1 => rw [e1] at e; cases e
  | bad => rw [e1] at e; cases e
theorem OnlyB.asD {w : Vl} {f : D → M Vl} {s : St} (h : ∀ a s', OnlyB (f a s')) : OnlyB (PF.asD w f s) := by
  cases w with
  | d x => exact h x s
  | _ => intro v s' e; cases e
theorem OnlyB.asR {w : Vl} {f : D → M Vl} {s : St} (h : ∀ a s', OnlyB (f a s')) : OnlyB (PF.asR w f s) := by
  cases w with
  | d x => exact h x s
  | own x => exact h x s
  | _ => intro v s' e; cases e
theorem OnlyB.ret {b : Bool} {s : St} : OnlyB (rD (.bool b) s) := fun v s' e => by
  cases e
  exact ⟨b, rfl⟩
section
variable {X : Cx} {ρ : Addr} {flds : List (Str × Str)} {G : Str → List Vl → M Vl} {W : XK} {C : Cmp}
theorem tG_of_tT {c : Cw} {a : CE} {σ : L2.St} {H : Hp} {Q : Bool → Hp → Prop} (h : tT c G W a σ H Q) (hb : ∀ env st, OnlyB (ev G a env st)) : tG c G W a σ H fun x H' => ∃ k, x = .bl k ∧ Q k H' := by
  obtain ⟨env, st, he, hs, h⟩ := h
  refine ⟨env, st, he, hs, ?_⟩
  have hb := hb env st
  unfold bd at h
  cases e : ev G a env st with
  | ok v s =>
    rw [e] at h
    obtain ⟨b, rfl⟩ := hb v s e
    intro x H' e1 s1 r
    cases r.data
    exact ⟨b, rfl, h H' e1 s1⟩
  | exc x y s => rw [e] at h; exact h
  | bad => rw [e] at h; exact h
theorem e_chain (ok : OkE G W ρ flds C X) {a b d : Expr} {ca cb cd : CE} {o o2 : CmpOp} {p p2 : Cm} {pos : Pos} (ho : opC o = some p) (ho2 : opC o2 = some p2) (hm : isSet d = false) (ha : PE X a (TG' X ρ flds G W ca)) (hb : PE X b (TG' X ρ flds G W cb)) (hd : PE X d (TG' X ρ flds G W cd)) :
    PE X (.Compare a [o, o2] [b, d] pos) (TG' X ρ flds G W (.chain p p2 ca cb cd)) ∧ PT X (.Compare a [o, o2] [b, d] pos) (tT (cOf X ρ flds) G W (.chain p p2 ca cb cd)) := by
  have hl : lastMarks [o, o2] [b, d] = false := by
    show behindInMarks o2 d = false
    exact mark_no hm
  have main : ∀ σ H Q, TG' X ρ flds G W (.chain p p2 ca cb cd) σ H Q → tChain (rC X.K (cmpF p)) (rC X.K (cmpF p2)) (TG' X ρ flds G W ca) (TG' X ρ flds G W cb) (TG' X ρ flds G W cd) σ H Q := by
    rintro σ H Q ⟨env, st, he, hs, h⟩
    rw [ev] at h
    refine tG_of he hs h fun v st1 x H1 e1 s1 r1 he1 h1 => tG_of he1 s1 h1 fun w st2 y H2 e2 s2 r2 he2 h2 => ?_
    obtain ⟨d1, rfl, h3⟩ := Pst.asD h2
    obtain ⟨d2, rfl, h4⟩ := Pst.asD h3
    obtain ⟨t, hf, h5⟩ := pst_optB h4
    refine ⟨d1, d2, t, Rep.mono e2.fz _ _ r1.data, r2.data, hf, fun u H3 sm rp => ?_⟩
    cases rp
    refine ⟨t, rfl, ?_⟩
    have e3 := Ext.of (ρ := ρ) sm
    cases t with
    | false =>
      simp only [Bool.false_eq_true, if_false] at h5 ⊢
      exact h5 _ H3 ((e1.trans e2).trans e3) (sm _ _ s2) (.d (.bl false))
    | true =>
      simp only [if_true] at h5 ⊢
      refine tG_of (he2.mono e3) (sm _ _ s2) (Pst.rebase h5 e3) fun w3 st4 z H4 e4 s4 r4 he4 h6 => ?_
      obtain ⟨d3, rfl, h7⟩ := Pst.asD h6
      obtain ⟨t2, hf2, h8⟩ := pst_optB h7
      exact ⟨d2, d3, t2, Rep.mono (e3.trans e4).fz _ _ r2.data, r4.data, hf2, wd_of h8 (((e1.trans e2).trans e3).trans e4) s4⟩
  refine ⟨PE.imp (pe_chain (cmp_ok ok.units ho) (cmp_ok ok.units ho2) ha hb hd hl) main, PT.imp (pt_chain (cmp_ok ok.units ho) (cmp_ok ok.units ho2) ha hb hd hl) fun σ H Q h => main σ H _ (tG_of_tT h fun env st => ?_)⟩
  rw [ev]
  refine OnlyB.bd fun _ _ => OnlyB.bd fun _ _ => OnlyB.asD fun _ _ => OnlyB.asD fun _ _ => OnlyB.bd fun t _ => ?_
  cases t with
  | false => exact OnlyB.ret
  | true => exact OnlyB.bd fun _ _ => OnlyB.asD fun _ _ => OnlyB.bd fun _ _ => OnlyB.ret
/-! ### logic -/
theorem e_not {a : Expr} {ca : CE} {pos : Pos} (ha : PE X a (TG' X ρ flds G W ca)) : PE X (.UnaryOp .Not a pos) (TG' X ρ flds G W (.not ca)) := by
  refine PE.imp (pe_not ha) ?_
  rintro σ H Q ⟨env, st, he, hs, h⟩
  rw [ev] at h
  refine tG_of he hs h fun v st1 x H1 e1 s1 r1 he1 h1 => ?_
  obtain ⟨b, rfl, h2⟩ := Pst.asB h1
  cases r1.data
  exact ⟨b, rfl, wd_of h2 e1 s1 _ _ (Same.refl _) (.bl _)⟩
theorem asB_truth {β : Type} {v : Vl} {f : Bool → M β} {b : Bool} (h : v = .d (.bool b)) : bd (truth v) f = f b := by
  subst h
  rfl
theorem tT_asB {c : Cw} {β : Type} {Φ : β → St → Prop} {a : CE} {f : Bool → M β} {σ : L2.St} {H : Hp} {env : Env} {st : St} {Q1 : Bool → Hp → Prop} (he : RepEnv c H σ env) (hs : RepSt c H st) (h : Pst c H W Φ (bd (ev G a env) (fun v => asB v f) st))
    (k : ∀ b st' H1, Ext c.ρ H H1 → RepSt c H1 st' → RepEnv c H1 σ env → Pst c H1 W Φ (f b st') → Q1 b H1) : tT c G W a σ H Q1 := by
  refine ⟨env, st, he, hs, Pst.to (Pst.bd h) fun v s h1 => ?_⟩
  obtain ⟨b, rfl, h2⟩ := Pst.asB h1
  exact fun H1 e1 s1 => k b s H1 e1 s1 (he.mono e1) (Pst.rebase h2 e1)
theorem t_not {a : Expr} {ca : CE} {pos : Pos} (ha : PT X a (tT (cOf X ρ flds) G W ca)) : PT X (.UnaryOp .Not a pos) (tT (cOf X ρ flds) G W (.not ca)) := by
  refine PT.imp (pt_not ha) ?_
  rintro σ H Q ⟨env, st, he, hs, h⟩
  rw [ev, bd_assoc] at h
  have e : (fun a => bd (asB a fun b => rD (.bool !b)) truth) = fun v => asB v fun b => ret !b := by
    funext v
    rw [asB_bd]
    rfl
  rw [e] at h
  exact tT_asB he hs h fun b st' H1 e1 s1 he1 h1 => h1 H1 e1 s1
theorem e_and {a b : Expr} {rest : List Expr} {ca cb : CE} {pos : Pos} (ha : PE X a (TG' X ρ flds G W ca)) (hb : PE X (.BoolOp .And (b :: rest) pos) (TG' X ρ flds G W cb)) : PE X (.BoolOp .And (a :: b :: rest) pos) (TG' X ρ flds G W (.and ca cb)) := by
  refine PE.imp (pe_and ha hb) ?_
  rintro σ H Q ⟨env, st, he, hs, h⟩
  rw [ev] at h
  refine tG_of he hs h fun v st1 x H1 e1 s1 r1 he1 h1 => ?_
  obtain ⟨t, rfl, h2⟩ := Pst.asB h1
  cases r1.data
  refine ⟨t, rfl, ?_⟩
  cases t with
  | false =>
    simp only [Bool.false_eq_true, if_false] at h2 ⊢
    exact wd_of h2 e1 s1 _ _ (Same.refl _) (.bl _)
  | true =>
    simp only [if_true] at h2 ⊢
    exact ⟨env, st1, he1, s1, h2.mono fun v st q x H' e r1 r2 => q x H' (e1.trans e) r1 r2⟩
theorem e_or {a b : Expr} {rest : List Expr} {ca cb : CE} {pos : Pos} (ha : PE X a (TG' X ρ flds G W ca)) (hb : PE X (.BoolOp .Or (b :: rest) pos) (TG' X ρ flds G W cb)) : PE X (.BoolOp .Or (a :: b :: rest) pos) (TG' X ρ flds G W (.or ca cb)) := by
  refine PE.imp (pe_or ha hb) ?_
  rintro σ H Q ⟨env, st, he, hs, h⟩
  rw [ev] at h
  refine tG_of he hs h fun v st1 x H1 e1 s1 r1 he1 h1 => ?_
  obtain ⟨t, rfl, h2⟩ := Pst.asB h1
  cases r1.data
  refine ⟨t, rfl, ?_⟩
  cases t with
  | true =>
    simp only [if_true] at h2 ⊢
    exact wd_of h2 e1 s1 _ _ (Same.refl _) (.bl _)
  | false =>
    simp only [Bool.false_eq_true, if_false] at h2 ⊢
    exact ⟨env, st1, he1, s1, h2.mono fun v st q x H' e r1 r2 => q x H' (e1.trans e) r1 r2⟩
theorem w_and {a b : Expr} {rest : List Expr} {ca cb : CE} {pos : Pos} (ha : PT X a (tT (cOf X ρ flds) G W ca)) (hb : PW X (.BoolOp .And (b :: rest) pos) (tT (cOf X ρ flds) G W cb)) : PW X (.BoolOp .And (a :: b :: rest) pos) (tT (cOf X ρ flds) G W (.and ca cb)) := by
  refine PW.imp (pw_and ha hb) ?_
  rintro σ H Q ⟨env, st, he, hs, h⟩
  rw [ev, bd_assoc] at h
  have e : (fun a => bd (asB a fun t => if t then ev G cb env else rD (.bool false)) truth) = fun v => asB v fun t => if t then bd (ev G cb env) truth else ret false := by
    funext v
    rw [asB_bd]
    congr 1
    funext t
    cases t <;> rfl
  rw [e] at h
  refine tT_asB he hs h fun t st1 H1 e1 s1 he1 h2 => ?_
  cases t with
  | false =>
    simp only [Bool.false_eq_true, if_false] at h2 ⊢
    exact h2 H1 e1 s1
  | true =>
    simp only [if_true] at h2 ⊢
    exact ⟨env, st1, he1, s1, h2.mono fun v st q H' e r1 => q H' (e1.trans e) r1⟩
theorem w_or {a b : Expr} {rest : List Expr} {ca cb : CE} {pos : Pos} (ha : PT X a (tT (cOf X ρ flds) G W ca)) (hb : PW X (.BoolOp .Or (b :: rest) pos) (tT (cOf X ρ flds) G W cb)) : PW X (.BoolOp .Or (a :: b :: rest) pos) (tT (cOf X ρ flds) G W (.or ca cb)) := by
  refine PW.imp (pw_or ha hb) ?_
  rintro σ H Q ⟨env, st, he, hs, h⟩
  rw [ev, bd_assoc] at h
  have e : (fun a => bd (asB a fun t => if t then rD (.bool true) else ev G cb env) truth) = fun v => asB v fun t => if t then ret true else bd (ev G cb env) truth := by
    funext v
    rw [asB_bd]
    congr 1
    funext t
    cases t <;> rfl
  rw [e] at h
  refine tT_asB he hs h fun t st1 H1 e1 s1 he1 h2 => ?_
  cases t with
  | true =>
    simp only [if_true] at h2 ⊢
    exact h2 H1 e1 s1
  | false =>
    simp only [Bool.false_eq_true, if_false] at h2 ⊢
    exact ⟨env, st1, he1, s1, h2.mono fun v st q H' e r1 => q H' (e1.trans e) r1⟩
/-- a test of a value -/
theorem t_plain {a : Expr} {ca : CE} (ha : PE X a (TG' X ρ flds G W ca)) (hi : ∀ whole, isTrue a X.env whole = (do let v ← whole; standAt a.pos; holding [v] (truthy v))) : PT X a (tT (cOf X ρ flds) G W ca) := by
  refine ⟨fun pins s σ H Q I ⟨env, st, he, hs, h⟩ => ?_⟩
  refine isTrue_plain (thn (ha.run pins s σ H (fun x H' => ∃ d b, Rep X.K H' x d ∧ truthF d = some b ∧ Q b H') I ⟨env, st, he, hs, (Pst.bd h).mono fun v st1 h1 x H1 e1 s1 r1 => ?_⟩) fun v s1 ⟨x, H1, I1, r1, q1⟩ => ?_) (hi _)
  · obtain ⟨d, rfl, h2⟩ := Pst.asD h1
    cases e : truthF d with
    | none => rw [e] at h2; exact h2.elim
    | some b =>
      rw [e] at h2
      exact ⟨d, b, r1.data, e, h2 H1 e1 s1⟩
  · exact ot_truth pins s1 σ H1 x v Q I1 r1 q1
theorem e_ite {c a b : Expr} {cc ca cb : CE} {pos : Pos} (hc : PT X c (tT (cOf X ρ flds) G W cc)) (ha : PE X a (TG' X ρ flds G W ca)) (hb : PE X b (TG' X ρ flds G W cb)) : PE X (.IfExp c a b pos) (TG' X ρ flds G W (.ite cc ca cb)) := by
  refine PE.imp (pe_ifExp hc ha hb) ?_
  rintro σ H Q ⟨env, st, he, hs, h⟩
  rw [ev] at h
  refine tT_of he hs h fun t st1 H1 e1 s1 he1 h1 => ?_
  cases t with
  | true =>
    simp only [if_true] at h1 ⊢
    exact ⟨env, st1, he1, s1, h1.mono fun v st q x H' e r1 r2 => q x H' (e1.trans e) r1 r2⟩
  | false =>
    simp only [Bool.false_eq_true, if_false] at h1 ⊢
    exact ⟨env, st1, he1, s1, h1.mono fun v st q x H' e r1 r2 => q x H' (e1.trans e) r1 r2⟩
theorem t_ite {c a b : Expr} {cc ca cb : CE} {pos : Pos} (hc : PT X c (tT (cOf X ρ flds) G W cc)) (ha : PT X a (tT (cOf X ρ flds) G W ca)) (hb : PT X b (tT (cOf X ρ flds) G W cb)) : PT X (.IfExp c a b pos) (tT (cOf X ρ flds) G W (.ite cc ca cb)) := by
  refine ⟨fun pins s σ H Q I ⟨env, st, he, hs, h⟩ => ?_⟩
  rw [ev, bd_assoc] at h
  have e : (fun a => bd (bd (truth a) fun t => if t then ev G ca env else ev G cb env) truth) = fun v => bd (truth v) fun t => if t then bd (ev G ca env) truth else bd (ev G cb env) truth := by
    funext v
    rw [bd_assoc]
    congr 1
    funext t
    cases t <;> rfl
  rw [e] at h
  show wpAny _ _ (do if ← isTrue c X.env (eval c X.env) then isTrue a X.env (eval a X.env) else isTrue b X.env (eval b X.env)) _ _ s
  refine wpAny_bind (thn (hc.run pins s σ H (fun t H1 => if t = true then tT (cOf X ρ flds) G W ca σ H1 Q else tT (cOf X ρ flds) G W cb σ H1 Q) I (tT_of he hs h fun t st1 H1 e1 s1 he1 h1 => ?_)) fun t s1 ⟨H1, I1, q1⟩ => ?_)
  · cases t with
    | true =>
      simp only [if_true] at h1 ⊢
      exact ⟨env, st1, he1, s1, h1.mono fun v st q H' e r1 => q H' (e1.trans e) r1⟩
    | false =>
      simp only [Bool.false_eq_true, if_false] at h1 ⊢
      exact ⟨env, st1, he1, s1, h1.mono fun v st q H' e r1 => q H' (e1.trans e) r1⟩
  · cases t with
    | true =>
      simp only [if_true] at q1 ⊢
      exact ha.run pins s1 σ H1 Q I1 q1
    | false =>
      simp only [Bool.false_eq_true, if_false] at q1 ⊢
      exact hb.run pins s1 σ H1 Q I1 q1
end
end PF
end
section
set_option Elab.async false
set_option linter.all false
set_option maxRecDepth 100000
set_option maxHeartbeats 2000000
/-! PFp: subscripts, slices, calls, built-ins. -/
namespace PF
open PySem PySem.Spec PyProof.Rows L2 PFS
section
variable {X : Cx} {ρ : Addr} {flds : List (Str × Str)} {G : Str → List Vl → M Vl} {W : XK} {C : Cmp}
theorem e_sub {a b : Expr} {ca cb : CE} {pos : Pos} (hs : isSlc b = false) (ha : PE X a (TG' X ρ flds G W ca)) (hb : PE X b (TG' X ρ flds G W cb)) : PE X (.Subscript a b pos) (TG' X ρ flds G W (.sub ca cb)) := by
  refine PE.imp (pe_ix (IxR.or oi_sub (IxR.or oi_own (oi_cup (ρ := ρ)))) ha hb (plain_ix hs)) ?_
  rintro σ H Q ⟨env, st, he, hs, h⟩
  rw [ev] at h
  refine tG_of he hs h fun v st1 x H1 e1 s1 r1 he1 h1 => tG_of he1 s1 h1 fun w st2 y H2 e2 s2 r2 he2 h2 => ?_
  obtain ⟨d2, rfl, h3⟩ := Pst.asD h2
  have r3 := r1.mono e2
  cases v with
  | d x =>
    obtain ⟨r, hf, h4⟩ := pst_optD (show Pst _ _ _ _ (bd (opt (subF x d2)) rD st2) from h3)
    exact .inl ⟨x, d2, r, r3.data, r2.data, hf, wd_of h4 (e1.trans e2) s2⟩
  | own x =>
    obtain ⟨r, hf, h4⟩ := pst_optD (show Pst _ _ _ _ (bd (opt (subF x d2)) rD st2) from h3)
    obtain ⟨ds, rfl, ow⟩ := r3.ownL
    exact .inr (.inl ⟨ds, d2, r, ow, r2.data, hf, wd_of h4 (e1.trans e2) s2⟩)
  | cup =>
    refine .inr (.inr ⟨st2, d2, by cases r3; rfl, s2, r2.data, ?_⟩)
    have h4 : Pst (cOf X ρ flds) H2 W (Wi (cOf X ρ flds) H Q) (cupAt d2 st2) := h3
    unfold cupAt at h4
    split at h4
    · exact .inl ⟨rfl, h4 _ H2 (e1.trans e2) s2 (.d (.int _))⟩
    · exact .inr ⟨rfl, h4 _ H2 (e1.trans e2) s2 (.d (.int _))⟩
    · exact h4.elim
  | fn x => exact h3.elim
/-! ### slices -/
def tB' (c : Cw) (G : Str → List Vl → M Vl) (W : XK) (b : Bool) (a : CE) : TO := fun σ H Q => ∃ env st, RepEnv c H σ env ∧ RepSt c H st ∧ Pst c H W (fun o st' => ∀ H', Ext c.ρ H H' → RepSt c H' st' → Q o H') (bd (ev G a env) (fun l => asD l fun y => opt (boundF b y)) st)
theorem PO.imp {o : Option Expr} {t t' : TO} (h : PO X o t) (k : ∀ σ H Q, t' σ H Q → t σ H Q) : PO X o t' := ⟨fun pins s σ H Q I q => h.run pins s σ H Q I (k _ _ _ q)⟩
theorem po_n : PO X none (tB' (cOf X ρ flds) G W false (.cst .none)) := by
  refine PO.imp po_none ?_
  rintro σ H Q ⟨env, st, he, hs, h⟩
  exact h H (Ext.refl _ _) hs
theorem po_s {e : Expr} {ce : CE} (he : PE X e (TG' X ρ flds G W ce)) : PO X (some e) (tB' (cOf X ρ flds) G W true ce) := by
  refine PO.imp (po_some he) ?_
  rintro σ H Q ⟨env, st, he, hs, h⟩
  refine ⟨env, st, he, hs, (Pst.bd h).mono fun v st1 h1 x H1 e1 s1 r1 => ?_⟩
  obtain ⟨y, rfl, h2⟩ := Pst.asD h1
  cases y with
  | int i =>
    cases r1.data
    exact ⟨i, rfl, h2 H1 e1 s1⟩
  | _ => exact h2.elim
theorem tB_of {c : Cw} {β : Type} {Φ : β → St → Prop} {b : Bool} {a : CE} {f : Option Int → M β} {σ : L2.St} {H : Hp} {env : Env} {st : St} {Q1 : Option Int → Hp → Prop} (he : RepEnv c H σ env) (hs : RepSt c H st) (h : Pst c H W Φ (bd (bd (ev G a env) fun l => asD l fun y => opt (boundF b y)) f st))
    (k : ∀ o st' H1, Ext c.ρ H H1 → RepSt c H1 st' → RepEnv c H1 σ env → Pst c H1 W Φ (f o st') → Q1 o H1) : tB' c G W b a σ H Q1 :=
  ⟨env, st, he, hs, (Pst.bd h).mono fun o st' q H1 e r1 => k o st' H1 e r1 (he.mono e) (Pst.rebase q e)⟩
theorem e_slc {a : Expr} {lo hi : Option Expr} {bl bh : Bool} {ca cl ch : CE} {pos p2 : Pos} (ha : PE X a (TG' X ρ flds G W ca)) (hl : PO X lo (tB' (cOf X ρ flds) G W bl cl)) (hh : PO X hi (tB' (cOf X ρ flds) G W bh ch)) :
    PE X (.Subscript a (.Slice lo hi none p2) pos) (TG' X ρ flds G W (.slc bl bh ca cl ch)) := by
  refine PE.imp (pe_slice os_slc ha hl hh) ?_
  rintro σ H Q ⟨env, st, he, hs, h⟩
  rw [ev] at h
  refine tG_of he hs h fun v st1 x H1 e1 s1 r1 he1 h1 => tB_of he1 s1 h1 fun o1 st2 H2 e2 s2 he2 h2 => tB_of he2 s2 h2 fun o2 st3 H3 e3 s3 he3 h3 => ?_
  obtain ⟨xd, rfl, h4⟩ := Pst.asD h3
  obtain ⟨r, hf, h5⟩ := pst_optD h4
  exact ⟨xd, r, Rep.mono (e2.trans e3).fz _ _ r1.data, hf, wd_of h5 ((e1.trans e2).trans e3) s3⟩
theorem e_revL {a : Expr} {ca : CE} {k : Nat} {p1 p2 p3 pos : Pos} (ha : PE X a (TG' X ρ flds G W ca)) (hl : True) : True := trivial
/-! ### calls -/
/-- a list of arguments as values -/
def tV (c : Cw) (G : Str → List Vl → M Vl) (W : XK) (a : CE) : TA := fun σ H Q => ∃ env st, RepEnv c H σ env ∧ RepSt c H st ∧ Pst c H W (fun vs st' => ∀ xs H', Ext c.ρ H H' → RepSt c H' st' → RepVs c H' xs vs → Q xs H') (evs G a env st)
theorem pa_V {f : Expr → Option CE} : ∀ {es : List Expr} {a : CE}, cL f es = some a → (∀ e ∈ es, ∀ x, f e = some x → PE X e (TG' X ρ flds G W x)) → PA X es (tV (cOf X ρ flds) G W a)
  | [], a, h, _ => by
    cases h
    refine PA.imp pa_nil ?_
    rintro σ H Q ⟨env, st, he, hs, h⟩
    rw [evs] at h
    exact h [] H (Ext.refl _ _) hs .nil
  | e :: es, a, h, hf => by
    obtain ⟨hst, x, y, h1, h2, rfl⟩ := cL_cons h
    refine PA.imp (pa_cons (hf e List.mem_cons_self x h1) (pa_V h2 fun e he => hf e (List.mem_cons_of_mem _ he)) (star_no hst)) ?_
    rintro σ H Q ⟨env, st, he, hs, h⟩
    rw [evs] at h
    refine tG_of he hs h fun v st1 x1 H1 e1 s1 r1 he1 h1 => ?_
    refine ⟨env, st1, he1, s1, (Pst.bd h1).mono fun vs st2 h2 => ?_⟩
    intro xs H2 e2 s2 r2
    obtain ⟨_, h3⟩ := Pst.nown (Pst.bd h2)
    exact h3 (x1 :: xs) H2 (e1.trans e2) s2 (.cons (r1.mono e2) r2)
theorem e_call (ok : OkE G W ρ flds C X) {x : Str} {e : Expr} {es : List Expr} {a : CE} {p pos : Pos} {f : Expr → Option CE} (hg : C.glob x = true) (hf : C.fns.contains x = true) (hd : (x == nDbg) = false) (hc : cL f (e :: es) = some a) (h : ∀ d ∈ e :: es, ∀ y, f d = some y → PE X d (TG' X ρ flds G W y)) :
    PE X (.Call (.Name x p) (e :: es) [] pos) (TG' X ρ flds G W (.call x a)) := by
  have K := ok.fns x hf
  obtain ⟨k, fd, ps, F, hr, hb⟩ := K.ok
  obtain ⟨hst, _, _, _, h2, _⟩ := cL_cons hc
  refine PE.imp (pe_callG (E := W) F hr ok.gd (ok.glo hg) K.at_ K.keep hb ok.pass (pa_V hc h) hd (star_no hst) (star_any h2)) ?_
  rintro σ H Q ⟨env, st, he, hs, h⟩
  rw [ev] at h
  refine ⟨env, st, he, hs, (Pst.bd h).mono fun vs st1 h1 xs H1 e1 s1 r1 => ?_⟩
  refine ⟨ρ, vs, st1, ?_, s1, Post.base h1 e1⟩
  rw [List.append_nil]
  exact r1
theorem e_call0 (ok : OkE G W ρ flds C X) {x : Str} {p pos : Pos} (hg : C.glob x = true) (hf : C.fns.contains x = true) (hd : (x == nDbg) = false) : PE X (.Call (.Name x p) [] [] pos) (TG' X ρ flds G W (.call x .nil)) := by
  have K := ok.fns x hf
  obtain ⟨k, fd, ps, F, hr, hb⟩ := K.ok
  refine PE.imp (pe_callG0 (E := W) F hr ok.gd (ok.glo hg) K.at_ K.keep hb ok.pass hd) ?_
  rintro σ H Q ⟨env, st, he, hs, h⟩
  rw [ev, evs] at h
  exact ⟨ρ, [], st, .nil, hs, h⟩
/-! ### built-ins -/
/-- the first argument, then the rest as data -/
def tR (c : Cw) (G : Str → List Vl → M Vl) (W : XK) (a b : CE) : TA := fun σ H Q => ∃ env st, RepEnv c H σ env ∧ RepSt c H st ∧ Pst c H W (fun r st' => ∀ x xs H', Ext c.ρ H H' → RepSt c H' st' → RepV c H' x r.1 → RepL c.K H' xs r.2 → Q (x :: xs) H') (bd (ev G a env) (fun v => bd (ev G b env) fun w => asT w fun l => ret (v, l)) st)
theorem pa_R {f : Expr → Option CE} {e : Expr} {es : List Expr} {a b : CE} (hst : isStar e = false) (ha : PE X e (TG' X ρ flds G W a)) (hb : cL f es = some b) (h : ∀ d ∈ es, ∀ y, f d = some y → PE X d (TG' X ρ flds G W y)) : PA X (e :: es) (tR (cOf X ρ flds) G W a b) := by
  refine PA.imp (pa_cons ha (pa_L hb h) (star_no hst)) ?_
  rintro σ H Q ⟨env, st, he, hs, h⟩
  refine tG_of he hs h fun v st1 x1 H1 e1 s1 r1 he1 h1 => ?_
  refine ⟨env, st1, he1, s1, pst_T ((Pst.bd h1).mono fun w st2 h2 => ?_)⟩
  obtain ⟨l, rfl, h3⟩ := Pst.asT h2
  exact ⟨l, rfl, fun xs H2 e2 s2 r2 => h3 x1 xs H2 (e1.trans e2) s2 (r1.mono e2) r2⟩
/-- a built-in's rule: data, or one's own where it only reads -/
def rPO (K : PySem.W.Frag) (p : Pm) : List V → Hp → VK → Prop := fun xs H Q => rP K p xs H Q ∨ (p = .len ∧ ∃ y ds, xs = [y] ∧ Own K H y ds ∧ Wd K H Q (.int ds.length))
theorem t_prim {a b : CE} {p : Pm} {σ : L2.St} {H : Hp} {Q : VK} (hp : p.reads = true → p = .len) (h : TG' X ρ flds G W (.prim p a b) σ H Q) : tCB (rPO X.K p) (tR (cOf X ρ flds) G W a b) σ H Q := by
  obtain ⟨env, st, he, hs, h⟩ := h
  rw [ev] at h
  refine ⟨env, st, he, hs, Pst.to (Pst.bd h) fun v st1 h1 => Pst.to (Pst.bd h1) fun w st2 h2 => ?_⟩
  obtain ⟨l, rfl, h3⟩ := Pst.asT h2
  intro x xs H1 e1 s1 r1 r2
  cases hr : p.reads with
  | false =>
    unfold Pm.as at h3
    rw [hr] at h3
    obtain ⟨d, rfl, h4⟩ := Pst.asD h3
    obtain ⟨r, hf, h5⟩ := pst_optD h4
    exact .inl ⟨d :: l, r, .cons r1.data r2, hf, wd_of h5 e1 s1⟩
  | true =>
    have e := hp hr
    subst e
    obtain ⟨d, hv, h4⟩ := Pst.asR (show Pst _ _ _ _ (asR v (fun x => bd (opt (primF .len (x :: l))) rD) st2) from h3)
    obtain ⟨r, hf, h5⟩ := pst_optD h4
    rcases hv with rfl | rfl
    · exact .inl ⟨d :: l, r, .cons r1.data r2, hf, wd_of h5 e1 s1⟩
    · obtain ⟨ds, rfl, ow⟩ := r1.ownL
      cases l with
      | nil =>
        cases r2
        cases hf
        exact .inr ⟨rfl, x, ds, rfl, ow, wd_of h5 e1 s1⟩
      | cons y l => cases hf
theorem e_primB (ok : OkE G W ρ flds C X) {x : Str} {id : String} {q : Pm} {e : Expr} {es : List Expr} {a b : CE} {p pos : Pos} {f : Expr → Option CE} (hg : C.glob x = true) (hf : C.free.contains x = true) (hd : (x == nDbg) = false) (hn : x ≠ nName) (hv : bootBuiltins x = some (.builtin id)) (hr : CallR X (.builtin id) (rPO X.K q)) (hp : q.reads = true → q = .len)
    (hst : isStar e = false) (ha : PE X e (TG' X ρ flds G W a)) (hb : cL f es = some b) (h : ∀ d ∈ es, ∀ y, f d = some y → PE X d (TG' X ρ flds G W y)) : PE X (.Call (.Name x p) (e :: es) [] pos) (TG' X ρ flds G W (.prim q a b)) :=
  PE.imp (pe_callB hr (ok.glo hg) (ok.free x hf) hv (pa_R hst ha hb h) hn hd (star_no hst) (star_any hb)) fun _ _ _ h => t_prim hp h
theorem e_primT (ok : OkE G W ρ flds C X) {x : Str} {T : String} {q : Pm} {e : Expr} {es : List Expr} {a b : CE} {p pos : Pos} {f : Expr → Option CE} (hg : C.glob x = true) (hf : C.free.contains x = true) (hd : (x == nDbg) = false) (hn : x ≠ nName) (hv : bootBuiltins x = some (.type T)) (hr : CallR X (.type T) (rPO X.K q)) (hp : q.reads = true → q = .len)
    (hst : isStar e = false) (ha : PE X e (TG' X ρ flds G W a)) (hb : cL f es = some b) (h : ∀ d ∈ es, ∀ y, f d = some y → PE X d (TG' X ρ flds G W y)) : PE X (.Call (.Name x p) (e :: es) [] pos) (TG' X ρ flds G W (.prim q a b)) :=
  PE.imp (pe_callTy hr (ok.glo hg) (ok.free x hf) hv (pa_R hst ha hb h) hn hd (star_no hst) (star_any hb)) fun _ _ _ h => t_prim hp h
theorem rPO_of {f : Value} {p : Pm} (h : CallR X f (rP X.K p)) (hp : p ≠ .len) : CallR X f (rPO X.K p) := fun pins s σ H xs us Q I r q => by
  rcases q with q | ⟨e, _⟩
  · exact h pins s σ H xs us Q I r q
  · exact (hp e).elim
theorem rPO_len : CallR X (.builtin "len") (rPO X.K .len) := fun pins s σ H xs us Q I r q => by
  rcases q with q | ⟨_, q⟩
  · exact cp_lenO pins s σ H xs us Q I r (.inl q)
  · exact cp_lenO pins s σ H xs us Q I r (.inr q)
end
end PF
end
section
set_option Elab.async false
set_option linter.all false
set_option maxRecDepth 100000
set_option maxHeartbeats 2000000
/-! PFq: isinstance, sets, what is walked, targets, comprehensions. -/
namespace PF
open PySem PySem.Spec PyProof.Rows L2 PFS
section
variable {X : Cx} {ρ : Addr} {flds : List (Str × Str)} {G : Str → List Vl → M Vl} {W : XK} {C : Cmp}
theorem tyOf_ok {x : Str} {t : Ty} (h : tyOf x = some t) : bootBuiltins x = some (.type (tyN t)) := by
  unfold tyOf at h
  split at h
  · rename_i e
    subst e
    cases h
    decide +kernel
  · split at h
    · rename_i e
      subst e
      cases h
      decide +kernel
    · split at h
      · rename_i e
        subst e
        cases h
        decide +kernel
      · split at h
        · rename_i e
          subst e
          cases h
          decide +kernel
        · split at h
          · rename_i e
            subst e
            cases h
            decide +kernel
          · cases h
theorem tyOf_nn {x : Str} {t : Ty} (h : tyOf x = some t) : x ≠ nName ∧ (x == nDbg) = false := by
  unfold tyOf at h
  split at h
  · rename_i e; subst e; exact ⟨by decide +kernel, by decide +kernel⟩
  · split at h
    · rename_i e; subst e; exact ⟨by decide +kernel, by decide +kernel⟩
    · split at h
      · rename_i e; subst e; exact ⟨by decide +kernel, by decide +kernel⟩
      · split at h
        · rename_i e; subst e; exact ⟨by decide +kernel, by decide +kernel⟩
        · split at h
          · rename_i e; subst e; exact ⟨by decide +kernel, by decide +kernel⟩
          · cases h
theorem blt_ok (ok : OkE G W ρ flds C X) {x : Str} (h : C.blt x = true) : Gl X x ∧ X.mg x = none := by
  unfold Cmp.blt at h
  simp only [Bool.and_eq_true] at h
  exact ⟨ok.glo h.1, ok.free x h.2⟩
theorem e_isI (ok : OkE G W ρ flds C X) {e : Expr} {y : Str} {t : Ty} {a : CE} {p p2 pos : Pos} (hg : Gl X "isinstance") (hm : X.mg "isinstance" = none) (hy : C.blt y = true) (ht : tyOf y = some t) (hst : isStar e = false) (ha : PE X e (TG' X ρ flds G W a)) :
    PE X (.Call (.Name "isinstance" p) [e, .Name y p2] [] pos) (TG' X ρ flds G W (.prim (.isI t) a .nil)) := by
  obtain ⟨g2, m2⟩ := blt_ok ok hy
  obtain ⟨hn, hd⟩ := tyOf_nn ht
  have hty : PE X (.Name y p2) (tC (.ty (tyN t))) := pe_bltn g2 m2 (tyOf_ok ht) rfl hn hd
  refine PE.imp (pe_callB (cp_isI t) hg hm (by decide +kernel) (pa_cons ha (pa_cons hty pa_nil (star_no rfl)) (star_no hst)) (by decide +kernel) (by decide +kernel) (star_no hst) rfl) ?_
  rintro σ H Q ⟨env, st, he, hs, h⟩
  rw [ev] at h
  refine tG_of he hs h fun v st1 x H1 e1 s1 r1 he1 h1 => ?_
  have h2 : Pst (cOf X ρ flds) H1 W (Wi (cOf X ρ flds) H Q) (asD v (fun x => bd (opt (primF (.isI t) [x])) rD) st1) := h1
  obtain ⟨d, rfl, h3⟩ := Pst.asD h2
  obtain ⟨r, hf, h4⟩ := pst_optD h3
  cases hf
  exact ⟨x, d, rfl, r1.data, wd_of h4 e1 s1⟩
theorem e_sset (ok : OkE G W ρ flds C X) {e : Expr} {a : CE} {p p2 q pos : Pos} (hg : C.blt "sorted" = true) (hg2 : C.blt "set" = true) (hst : isStar e = false) (ha : PE X e (TG' X ρ flds G W a)) :
    PE X (.Call (.Name "sorted" p) [.Call (.Name "set" p2) [e] [] q] [] pos) (TG' X ρ flds G W (.prim .sortedset a .nil)) := by
  refine PE.imp (pe_sset (blt_ok ok hg).1 (blt_ok ok hg).2 (blt_ok ok hg2).1 (blt_ok ok hg2).2 ha ok.calm ok.units (star_no hst)) ?_
  rintro σ H Q ⟨env, st, he, hs, h⟩
  rw [ev] at h
  refine tG_of he hs h fun v st1 x H1 e1 s1 r1 he1 h1 => ?_
  obtain ⟨d, rfl, h3⟩ := Pst.asD (show Pst (cOf X ρ flds) H1 W (Wi (cOf X ρ flds) H Q) (asD v (fun x => bd (opt (primF .sortedset [x])) rD) st1) from h1)
  obtain ⟨r, hf, h4⟩ := pst_optD h3
  exact ⟨d, r, r1.data, hf, wd_of h4 e1 s1⟩
theorem e_lset (ok : OkE G W ρ flds C X) {e : Expr} {a : CE} {p p2 q pos : Pos} (hg : C.blt "len" = true) (hg2 : C.blt "set" = true) (hst : isStar e = false) (ha : PE X e (TG' X ρ flds G W a)) :
    PE X (.Call (.Name "len" p) [.Call (.Name "set" p2) [e] [] q] [] pos) (TG' X ρ flds G W (.prim .lenset a .nil)) := by
  refine PE.imp (pe_lset (blt_ok ok hg).1 (blt_ok ok hg).2 (blt_ok ok hg2).1 (blt_ok ok hg2).2 ha ok.calm ok.units (star_no hst)) ?_
  rintro σ H Q ⟨env, st, he, hs, h⟩
  rw [ev] at h
  refine tG_of he hs h fun v st1 x H1 e1 s1 r1 he1 h1 => ?_
  obtain ⟨d, rfl, h3⟩ := Pst.asD (show Pst (cOf X ρ flds) H1 W (Wi (cOf X ρ flds) H Q) (asD v (fun x => bd (opt (primF .lenset [x])) rD) st1) from h1)
  obtain ⟨r, hf, h4⟩ := pst_optD h3
  exact ⟨d, r, r1.data, hf, wd_of h4 e1 s1⟩
/-! ### what is walked -/
/-- the source gives its data as a list, the walk gives these -/
def tI (c : Cw) (G : Str → List Vl → M Vl) (W : XK) (a : CE) : TI := fun σ H R => ∃ env st, RepEnv c H σ env ∧ RepSt c H st ∧ Pst c H W (fun v st' => ∃ ds, v = .d (.list ds) ∧ ∀ H1, Ext c.ρ H H1 → RepSt c H1 st' → ∀ J Gd, WalkD c.K J ds Gd → Gd H1 → R J H1) (ev G a env st)
theorem t_it {a : CE} {k : Ik} {σ : L2.St} {H : Hp} {R : L2.It → Hp → Prop} (h : tI (cOf X ρ flds) G W (.it k a) σ H R) : iCal (rIt X.K k) (tL (cOf X ρ flds) G W a) σ H R := by
  obtain ⟨env, st, he, hs, h⟩ := h
  rw [ev] at h
  refine ⟨env, st, he, hs, pst_T ((Pst.bd h).mono fun w st1 h1 => ?_)⟩
  obtain ⟨l, rfl, h2⟩ := Pst.asT h1
  obtain ⟨xs, hf, h3⟩ := pst_optB h2
  obtain ⟨ds, e, h4⟩ := h3
  cases e
  exact ⟨l, rfl, fun vs H1 e1 s1 r1 => ⟨l, xs, r1, hf, h4 H1 e1 s1⟩⟩
theorem i_seq {tg e : Expr} {a : CE} (ha : PE X e (TG' X ρ flds G W a)) : PI X tg e (tI (cOf X ρ flds) G W (.it .seq (.cons a .nil))) := by
  refine PI.imp (pi_seq ha) ?_
  intro σ H R h
  obtain ⟨env, st, he, hs, h⟩ := h
  rw [ev, ev, bd_assoc] at h
  refine tG_of he hs h fun v st1 x H1 e1 s1 r1 he1 h1 => ?_
  have h2 : Pst (cOf X ρ flds) H1 W _ (bd (bd (rD (.tuple [])) fun w => asD v fun x => asT w fun l => rD (.tuple (x :: l))) (fun w => asT w fun l => bd (opt (itF .seq l)) fun xs => rD (.list xs)) st1) := h1
  rw [bd_assoc] at h2
  have h3 : Pst (cOf X ρ flds) H1 W _ (bd (asD v fun x => rD (.tuple [x])) (fun w => asT w fun l => bd (opt (itF .seq l)) fun xs => rD (.list xs)) st1) := h2
  rw [asD_bd] at h3
  obtain ⟨d, rfl, h4⟩ := Pst.asD h3
  have h5 : Pst (cOf X ρ flds) H1 W _ (bd (opt (itF .seq [d])) (fun xs => rD (.list xs)) st1) := h4
  obtain ⟨xs, hf, h6⟩ := pst_optB h5
  obtain ⟨ds, e, h7⟩ := h6
  cases e
  exact ⟨d, xs, r1.data, hf, h7 H1 e1 s1⟩
end
end PF
end
section
set_option Elab.async false
set_option linter.all false
set_option maxRecDepth 100000
set_option maxHeartbeats 2000000
/-! PFr: targets, comprehensions. -/
namespace PF
open PySem PySem.Spec PyProof.Rows L2 PFS
/-! ### targets -/
def gT (c : Cw) (g : Tg) : TG := fun v σ H Q => ∃ env vl env', RepEnv c H σ env ∧ RepV c H v vl ∧ bindT g vl env = some env' ∧ ∀ σ', RepEnv c H σ' env' → (∀ i, i ∉ g.ixs → σ'[i]? = σ[i]?) → σ'.length = σ.length → Q σ' H
def gTs (c : Cw) (g : Tg) : TGs := fun vs σ H Q => ∃ env ds env', RepEnv c H σ env ∧ RepL c.K H vs ds ∧ bindT g (.d (.tuple ds)) env = some env' ∧ ∀ σ', RepEnv c H σ' env' → (∀ i, i ∉ g.ixs → σ'[i]? = σ[i]?) → σ'.length = σ.length → Q σ' H
theorem bindT_nm {i : Nat} {vl : Vl} {env env' : Env} (h : bindT (.nm i) vl env = some env') : (∀ y, vl ≠ .own y) ∧ env' = env.set i (some vl) := by
  cases vl with
  | own x => cases h
  | d x => exact ⟨fun _ z => (nomatch z), by cases h; rfl⟩
  | cup => exact ⟨fun _ z => (nomatch z), by cases h; rfl⟩
  | fn x => exact ⟨fun _ z => (nomatch z), by cases h; rfl⟩
section
variable {X : Cx} {ρ : Addr} {flds : List (Str × Str)} {G : Str → List Vl → M Vl} {W : XK} {C : Cmp}
theorem cTg_star {C : Cmp} {v : Expr} {p : Pos} : cTg C (.Starred v p) = none := by first | rfl | simp [cTg]
theorem each_len {env : PySem.Env} : ∀ es : List Expr, (assignEach es env).length = es.length
  | [] => rfl
  | e :: es => by
    have ih := each_len (env := env) es
    cases e <;> (show (assignEach es env).length + 1 = es.length + 1; rw [ih])
theorem each_no {C : Cmp} {env : PySem.Env} : ∀ {es : List Expr} {g : Tg}, cTgs C es = some g → (assignEach es env).findIdx? (·.1) = none
  | [], _, _ => rfl
  | e :: es, g, h => by
    rw [cTgs] at h
    obtain ⟨a, h1, h2⟩ := Option.bind_eq_some_iff.mp h
    obtain ⟨b, h3, _⟩ := Option.map_eq_some_iff.mp h2
    have ih := each_no (env := env) h3
    have key : assignEach (e :: es) env = (false, assign e env) :: assignEach es env := by
      cases e <;> first | rfl | (rw [cTg_star] at h1; cases h1)
    rw [key, List.findIdx?_cons, ih]
    rfl
mutual
theorem g_ok (ok : OkE G W ρ flds C X) : ∀ (e : Expr) (g : Tg), cTg C e = some g → PG X e (gT (cOf X ρ flds) g)
  | .Name x pos, g, h => by
    rw [cTg] at h
    obtain ⟨i, hi, rfl⟩ := Option.map_eq_some_iff.mp h
    obtain ⟨h1, h2, _⟩ := slot_ok hi
    obtain ⟨hl, hf⟩ := ok.loc h2
    refine PG.imp (pg_name ok.nd (by rw [ok.N]; exact h1) hl hf) ?_
    rintro v σ H Q ⟨env, vl, env', he, r, hb, k⟩
    obtain ⟨no, rfl⟩ := bindT_nm hb
    refine k _ (he.set i r no) (fun j hj => ?_) (by rw [List.length_set])
    rw [List.getElem?_set_ne]
    intro e
    exact hj (by rw [e]; exact List.mem_singleton.mpr rfl)
  | .Tuple es k pos, g, h => by
    rw [cTg] at h
    refine PG.imp (pg_tup (n := es.length) ok.calm (gs_ok ok es g h) (each_len es) (each_no h)) ?_
    rintro v σ H Q ⟨env, vl, env', he, r, hb, kk⟩
    have ht : ∃ ds, vl = .d (.tuple ds) ∧ ds.length = es.length := by
      have key : ∀ (es : List Expr) (g : Tg) (vl : Vl) (env env' : Env), cTgs C es = some g → bindT g vl env = some env' → ∃ ds, vl = .d (.tuple ds) ∧ ds.length = es.length := by
        intro es
        induction es with
        | nil =>
          intro g vl env env' h hb
          rw [cTgs] at h
          cases h
          cases vl with
          | d x =>
            cases x with
            | tuple ds =>
              cases ds with
              | nil => exact ⟨[], rfl, rfl⟩
              | cons d ds => cases hb
            | _ => cases hb
          | _ => cases hb
        | cons e es ih =>
          intro g vl env env' h hb
          rw [cTgs] at h
          obtain ⟨a, h1, h2⟩ := Option.bind_eq_some_iff.mp h
          obtain ⟨b, h3, rfl⟩ := Option.map_eq_some_iff.mp h2
          cases vl with
          | d x =>
            cases x with
            | tuple ds =>
              cases ds with
              | nil => cases hb
              | cons d ds =>
                obtain ⟨e1, hb1, hb2⟩ := Option.bind_eq_some_iff.mp (show (bindT a (.d d) env).bind (fun e => bindT b (.d (.tuple ds)) e) = some env' from hb)
                obtain ⟨ds', e2, hl⟩ := ih b _ e1 env' h3 hb2
                cases e2
                exact ⟨_, rfl, by rw [List.length_cons, List.length_cons, hl]⟩
            | _ => cases hb
          | _ => cases hb
      exact key es g vl env env' h hb
    obtain ⟨ds, rfl, hl⟩ := ht
    cases r.data with
    | tup h1 h2 => exact ⟨_, _, rfl, h1, by rw [h2.length, hl], env, ds, env', he, h2, hb, kk⟩
  | .BoolOp _ _ _, _, h => nomatch h
  | .NamedExpr _ _ _, _, h => nomatch h
  | .BinOp _ _ _ _, _, h => nomatch h
  | .UnaryOp _ _ _, _, h => nomatch h
  | .Lambda _ _ _ _, _, h => nomatch h
  | .IfExp _ _ _ _, _, h => nomatch h
  | .Dict _ _ _, _, h => nomatch h
  | .Set _ _ _, _, h => nomatch h
  | .ListComp _ _ _ _, _, h => nomatch h
  | .SetComp _ _ _ _, _, h => nomatch h
  | .DictComp _ _ _ _ _, _, h => nomatch h
  | .GeneratorExp _ _ _ _, _, h => nomatch h
  | .Await _ _, _, h => nomatch h
  | .Yield _ _, _, h => nomatch h
  | .YieldFrom _ _, _, h => nomatch h
  | .Compare _ _ _ _, _, h => nomatch h
  | .Call _ _ _ _, _, h => nomatch h
  | .FormattedValue _ _ _ _, _, h => nomatch h
  | .JoinedStr _ _, _, h => nomatch h
  | .Constant _ _ _, _, h => nomatch h
  | .Attribute _ _ _, _, h => nomatch h
  | .Subscript _ _ _, _, h => nomatch h
  | .Starred _ _, _, h => nomatch h
  | .List _ _, _, h => nomatch h
  | .Slice _ _ _ _, _, h => nomatch h
theorem gs_ok (ok : OkE G W ρ flds C X) : ∀ (es : List Expr) (g : Tg), cTgs C es = some g → PGs X es (gTs (cOf X ρ flds) g)
  | [], g, h => by
    rw [cTgs] at h
    cases h
    refine PGs.imp pgs_nil ?_
    rintro vs σ H Q ⟨env, ds, env', he, r, hb, k⟩
    cases r with
    | nil =>
      cases hb
      exact ⟨rfl, k σ he (fun _ _ => rfl) rfl⟩
    | cons _ _ => cases hb
  | e :: es, g, h => by
    rw [cTgs] at h
    obtain ⟨a, h1, h2⟩ := Option.bind_eq_some_iff.mp h
    obtain ⟨b, h3, rfl⟩ := Option.map_eq_some_iff.mp h2
    have key : assignEach (e :: es) X.env = (false, assign e X.env) :: assignEach es X.env := by
      cases e <;> first | rfl | (rw [cTg_star] at h1; cases h1)
    refine PGs.imp (pgs_cons (g_ok ok e a h1) (gs_ok ok es b h3) (by rw [key]; rfl)) ?_
    rintro vs σ H Q ⟨env, ds, env', he, r, hb, k⟩
    cases r with
    | nil => cases hb
    | @cons v vs d ds r1 r2 =>
      obtain ⟨e1, hb1, hb2⟩ := Option.bind_eq_some_iff.mp (show (bindT a (.d d) env).bind (fun e => bindT b (.d (.tuple ds)) e) = some env' from hb)
      refine ⟨v, vs, rfl, env, .d d, e1, he, .d r1, hb1, fun σ1 he1 o1 l1 => ⟨e1, ds, env', he1, r2, hb2, fun σ2 he2 o2 l2 => k σ2 he2 (fun i hi => ?_) (l2.trans l1)⟩⟩
      have hi' : i ∉ a.ixs ++ b.ixs := hi
      rw [List.mem_append, not_or] at hi'
      rw [o2 i hi'.2, o1 i hi'.1]
end
end
/-! ### sure ends -/
def okP {α : Type} (Φ : α → St → Prop) : R α → Prop
  | .ok a s => Φ a s
  | _ => False
theorem okP.bd {α β : Type} {Φ : β → St → Prop} {m : M α} {f : α → M β} {s : St} (h : okP Φ (PF.bd m f s)) : okP (fun a s' => okP Φ (f a s')) (m s) := by
  unfold PF.bd at h
  cases e : m s with
  | ok a s' => rw [e] at h; exact h
  | exc x y s' => rw [e] at h; exact h
  | bad => rw [e] at h; exact h
theorem okP.pst {α : Type} {Φ : α → St → Prop} {r : R α} {c : Cw} {H : Hp} {W : XK} (h : okP Φ r) : Pst c H W Φ r := by
  cases r with
  | ok a s => exact h
  | exc x y s => exact h.elim
  | bad => exact h
theorem okP.mono {α : Type} {Φ Ψ : α → St → Prop} {r : R α} (h : okP Φ r) (k : ∀ a s, Φ a s → Ψ a s) : okP Ψ r := by
  cases r with
  | ok a s => exact k a s h
  | exc x y s => exact h
  | bad => exact h
theorem okP.to {α β : Type} {Φ : α → St → Prop} {Ψ : β → St → Prop} {m : M α} {f : α → M β} {s : St} (h : okP Φ (m s)) (k : ∀ a s', Φ a s' → okP Ψ (f a s')) : okP Ψ (PF.bd m f s) := by
  unfold PF.bd
  cases e : m s with
  | ok a s' => rw [e] at h; exact k a s' h
  | exc x y s' => rw [e] at h; exact h
  | bad => rw [e] at h; exact h
theorem okP.opt {α : Type} {Φ : α → St → Prop} {o : Option α} {s : St} (h : okP Φ (PF.opt o s)) : ∃ a, o = some a ∧ Φ a s := by
  cases o with
  | none => exact h.elim
  | some a => exact ⟨a, rfl, h⟩
theorem okP.asD {α : Type} {Φ : α → St → Prop} {v : Vl} {f : D → M α} {s : St} (h : okP Φ (PF.asD v f s)) : ∃ x, v = .d x ∧ okP Φ (f x s) := by
  cases v with
  | d x => exact ⟨x, rfl, h⟩
  | _ => exact h.elim
theorem okP.asL {α : Type} {Φ : α → St → Prop} {v : Vl} {f : List D → M α} {s : St} (h : okP Φ (PF.asL v f s)) : ∃ l, v = .d (.list l) ∧ okP Φ (f l s) := by
  unfold PF.asL at h
  split at h
  · exact ⟨_, rfl, h⟩
  · exact h.elim
theorem pst_noexc {α β : Type} {c : Cw} {H : Hp} {W : XK} {Φ : β → St → Prop} {m : M α} {f : α → M β} {s : St} (h : Pst c H W Φ (bd (noexc m) f s)) : okP (fun a s' => Pst c H W Φ (f a s')) (m s) := by
  unfold bd noexc at h
  cases e : m s with
  | ok a s' => rw [e] at h; exact h
  | exc x y s' => rw [e] at h; exact h
  | bad => rw [e] at h; exact h
/-- no error leaves -/
abbrev NoX : XK := fun _ _ _ => False
theorem walk_by {J : L2.It} {n : Nat} {Gd : Hp → Prop} {Y : Nat → Hp → V → Hp → Prop} (w : Walk J n Gd Y) {H0 : Hp} {Qd : Hp → Prop} (Pv : Nat → Hp → Prop) {St : V → Hp → (Hp → Prop) → Prop} (h0 : Pv 0 H0) (hG : ∀ i H, i ≤ n → Pv i H → Gd H)
    (hs : ∀ i x H H', i < n → Pv i H → Y i H x H' → St x H' (Pv (i + 1))) (hd : ∀ H, Pv n H → Qd H) :
    ∃ Wv : Nat → Nat → Hp → Prop, (∃ m, Wv 0 m H0) ∧ ∀ i m H, Wv i m H → (J.stop i H ∧ Qd H) ∨ (J.go i H ∧ ∃ Nx : Hp → Prop, (∀ H', Nx H' → ∃ m', m' < m ∧ Wv (i + 1) m' H') ∧ ∀ x H', J.yld i H x H' → St x H' Nx) := by
  refine ⟨fun i m H => m = n - i ∧ i ≤ n ∧ Pv i H, ⟨n, rfl, Nat.zero_le _, h0⟩, ?_⟩
  rintro i m H ⟨rfl, hi, p⟩
  have q := hG i H hi p
  rcases Nat.lt_or_ge i n with hlt | hge
  · exact .inr ⟨w.goes i H hlt q, Pv (i + 1), fun H' p' => ⟨n - (i + 1), by omega, rfl, hlt, p'⟩, fun x H' y => hs i x H H' hlt p (w.yields i H x H' hlt q y)⟩
  · obtain rfl : i = n := by omega
    exact .inl ⟨w.stops H q, hd H p⟩
end PF
end
section
set_option Elab.async false
set_option linter.all false
set_option maxRecDepth 100000
set_option maxHeartbeats 2000000
/-! PFs: comprehensions keep to the evaluator. -/
namespace PF
open PySem PySem.Spec PyProof.Rows L2 PFS
theorem wipe_len (σ : L2.St) (vs : List Nat) : (L2.wipe σ vs).length = σ.length := wipe_length σ vs
theorem wipe_in {σ : L2.St} {i : Nat} : ∀ {vs : List Nat}, i ∈ vs → i < σ.length → (L2.wipe σ vs)[i]? = some none
  | v :: vs, h, hl => by
    unfold L2.wipe
    by_cases e : v = i
    · subst e
      rw [List.getElem?_set_self (by rw [wipe_length]; exact hl)]
    · rw [List.getElem?_set_ne e]
      rcases List.mem_cons.mp h with z | z
      · exact (e z.symm).elim
      · exact wipe_in z hl
theorem wipe_eq {σ τ : L2.St} {vs : List Nat} (hl : τ.length = σ.length) (h : ∀ i, i ∉ vs → τ[i]? = σ[i]?) : L2.wipe τ vs = L2.wipe σ vs := by
  refine List.ext_getElem? fun i => ?_
  by_cases hi : i ∈ vs
  · by_cases hlt : i < σ.length
    · rw [wipe_in hi hlt, wipe_in hi (by rw [hl]; exact hlt)]
    · rw [List.getElem?_eq_none (by rw [wipe_length]; omega), List.getElem?_eq_none (by rw [wipe_length]; omega)]
  · rw [wipe_out hi, wipe_out hi, h i hi]
theorem wipe_wipe {σ : L2.St} {vs : List Nat} : L2.wipe (L2.wipe σ vs) vs = L2.wipe σ vs := wipe_eq (wipe_length σ vs) fun i hi => wipe_out hi
theorem subL_ok {a b : List Nat} (h : subL a b = true) : ∀ i ∈ a, i ∈ b := fun i hi => by
  have z := List.all_eq_true.mp h i hi
  simpa using z
/-- the heap without the new list -/
def drp (H : Hp) (p : Addr) : Hp := fun b => if b = p then none else H b
theorem drp_same {H : Hp} {p : Addr} : drp H p p = none := if_pos rfl
theorem drp_ne {H : Hp} {p b : Addr} (h : b ≠ p) : drp H p b = H b := if_neg h
theorem upd_drp {H : Hp} {p : Addr} {o : HO} (h : H p = some o) : upd (drp H p) p o = H := by
  funext b
  unfold upd drp
  by_cases e : b = p
  · rw [if_pos e, e, h]
  · rw [if_neg e, if_neg e]
section
variable {c : Cw} {H0 H H1 : Hp} {p : Addr}
theorem fz_drp {xs : List V} (h : H p = some (.lst xs)) : FzE H (drp H p) := fun b o e f => by
  by_cases q : b = p
  · rw [q, h] at e
    cases e
    exact f.elim
  · rw [drp_ne q]
    exact e
theorem fz_put {xs ys : List V} (h : H p = some (.lst xs)) : FzE H (upd H p (.lst ys)) := fun b o e f => by
  by_cases q : b = p
  · rw [q, h] at e
    cases e
    exact f.elim
  · rw [upd_ne q]
    exact e
theorem ext_drp (h0 : H0 p = none) (e : Ext c.ρ H0 H) : Ext c.ρ H0 (drp H p) := fun b o q f => by
  have hb : b ≠ p := ne_of_none q h0
  rw [drp_ne hb]
  exact e b o q f
theorem ext_put {o : HO} (h0 : H0 p = none) (e : Ext c.ρ H0 H) : Ext c.ρ H0 (upd H p o) := fun b o q f => by
  have hb : b ≠ p := ne_of_none q h0
  rw [upd_ne hb]
  exact e b o q f
end
section
variable {X : Cx} {ρ : Addr} {flds : List (Str × Str)} {G : Str → List Vl → M Vl} {W : XK} {C : Cmp}
/-- what the whole comprehension wants -/
def Fin (X : Cx) (ρ : Addr) (flds : List (Str × Str)) (H1 : Hp) (Q : VK) (ys : List D) (st : St) : Prop := ys.length ≤ line ∧ ∀ H2, Ext ρ H1 H2 → RepSt (cOf X ρ flds) H2 st → ∀ p zs, H2 p = none → RepL X.K H2 zs ys → Q (.ref p) (upd H2 p (.lst zs))
/-- the list so far stands at p -/
structure Acc (X : Cx) (ρ : Addr) (flds : List (Str × Str)) (H1 : Hp) (p : Addr) (ads : List D) (st : St) (H : Hp) : Prop where
  ext : Ext ρ H1 H
  sts : RepSt (cOf X ρ flds) H st
  acc : ∃ xs, H p = some (.lst xs) ∧ RepL X.K H xs ads
theorem Acc.fin {H1 H : Hp} {p : Addr} {ads : List D} {st : St} {Q : VK} (a : Acc X ρ flds H1 p ads st H) (h1 : H1 p = none) (hρ : ρ ≠ p) (f : Fin X ρ flds H1 Q ads st) : Q (.ref p) H := by
  obtain ⟨xs, hp, r⟩ := a.acc
  have q := f.2 (drp H p) (ext_drp (c := cOf X ρ flds) h1 a.ext) (by unfold RepSt; rw [show (cOf X ρ flds).ρ = ρ from rfl, drp_ne hρ]; exact a.sts) p xs drp_same (RepL.mono (fz_drp hp) _ _ r)
  rw [upd_drp hp] at q
  exact q
theorem Acc.on {H1 H H' : Hp} {p : Addr} {ads : List D} {st st' : St} (a : Acc X ρ flds H1 p ads st H) (hρ : ρ ≠ p) (e : Ext ρ H H') (s : RepSt (cOf X ρ flds) H' st') : Acc X ρ flds H1 p ads st' H' := by
  obtain ⟨xs, hp, r⟩ := a.acc
  exact ⟨a.ext.trans e, s, xs, e _ _ hp (.inr ⟨fun z => hρ z.symm, fun _ z => nomatch z⟩), RepL.mono e.fz _ _ r⟩
theorem Acc.push {H1 H : Hp} {p : Addr} {ads : List D} {st : St} {y : V} {d : D} (a : Acc X ρ flds H1 p ads st H) (h1 : H1 p = none) (hρ : ρ ≠ p) (r : Rep X.K H y d) (hz : ads.length < line) :
    ∃ acc, H p = some (.lst acc) ∧ acc.length < sizeLine ∧ Acc X ρ flds H1 p (ads ++ [d]) st (upd H p (.lst (acc ++ [y]))) := by
  obtain ⟨xs, hp, rl⟩ := a.acc
  refine ⟨xs, hp, by rw [rl.length, line_eq]; exact hz, ext_put (c := cOf X ρ flds) h1 a.ext, ?_, _, upd_same, (RepL.mono (fz_put hp) _ _ rl).append (.cons (Rep.mono (fz_put hp) _ _ r) .nil)⟩
  unfold RepSt
  rw [show (cOf X ρ flds).ρ = ρ from rfl, upd_ne hρ]
  exact a.sts
/-- a clause's body: the test, then the element -/
abbrev bodyF (G : Str → List Vl → M Vl) (g : Tg) (t y : CE) (env0 : Env) : D → M (Option D) := fun x => bd (opt (bindT g (.d x) env0)) fun e => bd (ev G t e) fun b => bd (truth b) fun t =>
        if t then bd (ev G y e) fun y => asD y fun y => ret (some y) else ret none
theorem okP_tT {c : Cw} {a : CE} {σ : L2.St} {H : Hp} {env : Env} {st : St} {Q : Bool → Hp → Prop} {Φ : Bool → St → Prop} (he : RepEnv c H σ env) (hs : RepSt c H st) (h : okP Φ (bd (ev G a env) truth st)) (k : ∀ b st' H1, Ext c.ρ H H1 → RepSt c H1 st' → Φ b st' → Q b H1) : PF.tT c G NoX a σ H Q :=
  ⟨env, st, he, hs, okP.pst (h.mono fun b st' q H1 e s => k b st' H1 e s q)⟩
theorem okP_tG {c : Cw} {a : CE} {σ : L2.St} {H : Hp} {env : Env} {st : St} {Q : VK} {Φ : Vl → St → Prop} (he : RepEnv c H σ env) (hs : RepSt c H st) (h : okP Φ (ev G a env st)) (k : ∀ v st' x H1, Ext c.ρ H H1 → RepSt c H1 st' → RepV c H1 x v → Φ v st' → Q x H1) : PF.tG c G NoX a σ H Q :=
  ⟨env, st, he, hs, okP.pst (h.mono fun v st' q x H1 e s r => k v st' x H1 e s r q)⟩
theorem okP_assoc {α β γ : Type} {Φ : γ → St → Prop} {m : M α} {f : α → M β} {g : β → M γ} {s : St} (h : okP Φ (bd m (fun a => bd (f a) g) s)) : okP Φ (bd (bd m f) g s) := by
  rw [bd_assoc]
  exact h
/-- one turn of a clause: store, test, element -/
theorem turn_step {g : Tg} {t y : CE} {own : List Nat} {σ0 : L2.St} {env0 : Env} {H H1 : Hp} {p : Addr} {ads : List D} {st : St} {x : V} {d : D} {Nx : Hp → Prop} {Φ : Option D → St → Prop}
    (hg : ∀ i ∈ g.ixs, i ∈ own) (he : RepEnv (cOf X ρ flds) H σ0 env0) (hw : L2.wipe σ0 own = σ0) (hr : Rep X.K H x d) (ha : Acc X ρ flds H1 p ads st H) (h1 : H1 p = none) (hρ : ρ ≠ p) (h : okP Φ (bodyF G g t y env0 d st))
    (kn : ∀ st' H', Acc X ρ flds H1 p ads st' H' → Φ none st' → Nx H') (ky : ∀ z st', Φ (some z) st' → ads.length < line) (ks : ∀ z st' H', Acc X ρ flds H1 p (ads ++ [z]) st' H' → Φ (some z) st' → Nx H') :
    gT (cOf X ρ flds) g x σ0 H fun σ2 H2 => L2.wipe σ2 own = σ0 ∧ tT (cOf X ρ flds) G NoX t σ2 H2 fun b H3 =>
      if b = true then tG (cOf X ρ flds) G NoX y σ2 H3 fun y H4 => ∃ acc, H4 p = some (.lst acc) ∧ acc.length < sizeLine ∧ Nx (upd H4 p (.lst (acc ++ [y]))) else Nx H3 := by
  obtain ⟨env1, hb, h2⟩ := okP.opt (okP.bd h)
  refine ⟨env0, .d d, env1, he, .d hr, hb, fun σ2 he2 o2 l2 => ⟨?_, ?_⟩⟩
  · rw [wipe_eq l2 fun i hi => o2 i fun z => hi (hg i z)]
    exact hw
  · refine okP_tT he2 ha.sts (okP.to (okP.bd h2) fun b st1 q => okP.bd q) fun b st1 H3 e3 s3 q => ?_
    cases b with
    | false =>
      simp only [Bool.false_eq_true, if_false] at q ⊢
      exact kn st1 H3 (ha.on hρ e3 s3) q
    | true =>
      simp only [if_true] at q ⊢
      refine okP_tG (he2.mono e3) s3 (okP.bd q) fun v st2 yv H4 e4 s4 r4 q4 => ?_
      obtain ⟨z, rfl, q5⟩ := okP.asD q4
      have a4 := ha.on hρ (e3.trans e4) s4
      obtain ⟨acc, c1, c2, c3⟩ := a4.push h1 hρ r4.data (ky z st2 q5)
      exact ⟨acc, c1, c2, ks z st2 _ c3 q5⟩
theorem o_lc {elt tg iter : Expr} {ifs : List Expr} {scope : Scope} {own : List (Str × Nat)} {pos : Pos} {src t y : CE} {g : Tg}
    (hsub : ∀ i ∈ g.ixs, i ∈ own.map (·.2)) {σ : L2.St} {H : Hp} {Q : VK} (h : tO (cOf X ρ flds) G W (.lc (own.map (·.2)) g src t y) σ H Q) :
    tLc (tI (cOf X ρ flds) G W src) (gT (cOf X ρ flds) g) (tT (cOf X ρ flds) G NoX t) (tG (cOf X ρ flds) G NoX y) (own.map (·.2)) σ H Q := by
  obtain ⟨env, st, he, hs, h⟩ := h
  rw [ev] at h
  refine ⟨env, st, he, hs, (Pst.bd h).mono fun w st1 h1 => ?_⟩
  obtain ⟨xs, rfl, h2⟩ := Pst.asL h1
  have h3 := pst_noexc h2
  refine ⟨xs, rfl, fun H1 e1 s1 J Gd wd g1 p hp => ?_⟩
  have hρ : ρ ≠ p := ne_of_none s1 hp
  -- the end's word
  have h4 : okP (fun ys st2 => Fin X ρ flds H1 Q ys st2) (lcLoop (bodyF G g t y (wipe env (own.map (·.2)))) xs st1) := by
    refine h3.mono fun ys st2 q => ?_
    obtain ⟨hz, q⟩ := pst_short q
    obtain ⟨ds, e, q⟩ := q
    cases e
    exact ⟨hz, fun H2 e2 s2 p zs hp r => q H2 (e1.trans e2) s2 p zs hp r⟩
  refine walk_by wd.walk (fun i H' => ∃ ads st', Acc X ρ flds H1 p ads st' H' ∧ okP (fun rest st2 => Fin X ρ flds H1 Q (ads ++ rest) st2) (lcLoop (bodyF G g t y (wipe env (own.map (·.2)))) (xs.drop i) st')) ?_ ?_ ?_ ?_
    (St := fun x H' Nx => gT (cOf X ρ flds) g x (L2.wipe σ (own.map (·.2))) H' fun σ2 H2 => L2.wipe σ2 (own.map (·.2)) = L2.wipe σ (own.map (·.2)) ∧ tT (cOf X ρ flds) G NoX t σ2 H2 fun b H3 =>
      if b = true then tG (cOf X ρ flds) G NoX y σ2 H3 fun y H4 => ∃ acc, H4 p = some (.lst acc) ∧ acc.length < sizeLine ∧ Nx (upd H4 p (.lst (acc ++ [y]))) else Nx H3)
  · refine ⟨[], st1, ⟨ext_put (c := cOf X ρ flds) hp (Ext.refl _ _), ?_, [], upd_same, .nil⟩, by simpa using h4⟩
    unfold RepSt
    rw [show (cOf X ρ flds).ρ = ρ from rfl, upd_ne hρ]
    exact s1
  · rintro i H' _ ⟨ads, st', a, _⟩
    exact wd.keep _ _ a.ext.fz g1
  · rintro i x H' H'' hi ⟨ads, st', a, q⟩ ⟨sm, d, ed, rd⟩
    have ex := Ext.of (ρ := ρ) sm
    have a2 := a.on hρ ex (sm _ _ a.sts)
    rw [List.drop_eq_getElem_cons hi] at q
    have ed2 : xs[i] = d := by
      rw [List.getElem?_eq_getElem hi] at ed
      exact Option.some.inj ed
    rw [ed2] at q
    have q2 := okP.bd q
    refine turn_step hsub ((he.mono (e1.trans a2.ext)).wipe _) wipe_wipe rd a2 hp hρ q2 (fun st2 H3 a3 q3 => ?_) (fun z st2 q3 => ?_) fun z st2 H3 a3 q3 => ?_
    · refine ⟨ads, st2, a3, ?_⟩
      exact (okP.bd q3).mono fun rest st3 q4 => q4
    · have q4 := okP.bd q3
      cases e5 : lcLoop (bodyF G g t y (wipe env (own.map (·.2)))) (xs.drop (i + 1)) st2 with
      | ok rest st3 =>
        rw [e5] at q4
        have z5 : (ads ++ (z :: rest)).length ≤ line := (show Fin X ρ flds H1 Q (ads ++ (z :: rest)) st3 from q4).1
        rw [List.length_append, List.length_cons] at z5
        omega
      | exc a b c => rw [e5] at q4; exact q4.elim
      | bad => rw [e5] at q4; exact q4.elim
    · refine ⟨ads ++ [z], st2, a3, ?_⟩
      refine (okP.bd q3).mono fun rest st3 q4 => ?_
      rw [List.append_assoc]
      exact q4
  · rintro H' ⟨ads, st', a, q⟩
    rw [List.drop_length] at q
    refine a.fin hp hρ ?_
    have q' : Fin X ρ flds H1 Q (ads ++ []) st' := q
    rw [List.append_nil] at q'
    exact q'
end
end PF
end
section
set_option Elab.async false
set_option linter.all false
set_option maxRecDepth 100000
set_option maxHeartbeats 2000000
/-! PFt: comprehensions of two clauses. -/
namespace PF
open PySem PySem.Spec PyProof.Rows L2 PFS
section
variable {X : Cx} {ρ : Addr} {flds : List (Str × Str)} {G : Str → List Vl → M Vl} {W : XK} {C : Cmp}
abbrev bodyF2 (G : Str → List Vl → M Vl) (g : Tg) (t : CE) (own2 : List Nat) (g2 : Tg) (src2 t2 y : CE) (env0 : Env) : D → M (List D) := fun x => bd (opt (bindT g (.d x) env0)) fun e => bd (ev G t e) fun b => bd (truth b) fun t =>
        if t then bd (ev G src2 e) fun w2 => asL w2 fun zs =>
          lcLoop (fun z => bd (opt (bindT g2 (.d z) (PF.wipe e own2))) fun e2 => bd (ev G t2 e2) fun b2 => bd (truth b2) fun t2 =>
            if t2 then bd (ev G y e2) fun y => asD y fun y => ret (some y) else ret none) zs
        else ret []
theorem bindT_own : ∀ {g : Tg} {vl : Vl} {env env' : Env}, bindT g vl env = some env' → ∀ (i : Nat) (x : D), env'[i]? = some (some (.own x)) → i ∉ g.ixs ∧ env[i]? = some (some (.own x))
  | .nm j, vl, env, env', h, i, x, hi => by
    obtain ⟨no, rfl⟩ := bindT_nm h
    rcases set_some hi with ⟨e, e2, _⟩ | ⟨hj, e⟩
    · exact (no x e2.symm).elim
    · exact ⟨fun z => hj (List.mem_singleton.mp z).symm, e⟩
  | .nil, vl, env, env', h, i, x, hi => by
    have e : env' = env := by
      cases vl with
      | d y =>
        cases y with
        | tuple ds =>
          cases ds with
          | nil => cases h; rfl
          | cons _ _ => cases h
        | _ => cases h
      | _ => cases h
    rw [e] at hi
    exact ⟨List.not_mem_nil, hi⟩
  | .cons a b, vl, env, env', h, i, x, hi => by
    cases vl with
    | d y =>
      cases y with
      | tuple ds =>
        cases ds with
        | nil => cases h
        | cons d ds =>
          obtain ⟨e1, hb1, hb2⟩ := Option.bind_eq_some_iff.mp (show (bindT a (.d d) env).bind (fun e => bindT b (.d (.tuple ds)) e) = some env' from h)
          obtain ⟨n2, f2⟩ := bindT_own hb2 i x hi
          obtain ⟨n1, f1⟩ := bindT_own hb1 i x f2
          exact ⟨fun z => (List.mem_append.mp z).elim n1 n2, f1⟩
      | _ => cases h
    | _ => cases h
theorem wipe_own {env : Env} {i : Nat} {x : Vl} : ∀ {vs : List Nat}, (PF.wipe env vs)[i]? = some (some x) → i ∉ vs ∧ env[i]? = some (some x)
  | [], h => ⟨List.not_mem_nil, h⟩
  | v :: vs, h => by
    have h' : ((PF.wipe env vs).set v none)[i]? = some (some x) := h
    by_cases e : v = i
    · subst e
      by_cases hl : v < (PF.wipe env vs).length
      · rw [List.getElem?_set_self hl] at h'
        cases h'
      · rw [List.getElem?_eq_none (by simpa using hl)] at h'
        cases h'
    · rw [List.getElem?_set_ne e] at h'
      obtain ⟨n, q⟩ := wipe_own h'
      exact ⟨fun z => (List.mem_cons.mp z).elim (fun z => e z.symm) n, q⟩
theorem RepEnv.drp {c : Cw} {H : Hp} {σ : L2.St} {env : Env} {p : Addr} {xs : List V} (he : RepEnv c H σ env) (hp : H p = some (.lst xs)) (no : ∀ (i : Nat) (x : D), env[i]? = some (some (.own x)) → σ[i]? ≠ some (some (.ref p))) : RepEnv c (PF.drp H p) σ env := by
  refine ⟨he.len, fun i v e => ?_, he.apart⟩
  obtain ⟨x, e1, r⟩ := he.at_ i v e
  refine ⟨x, e1, ?_⟩
  cases r with
  | d r => exact .d (Rep.mono (fz_drp hp) _ _ r)
  | @own a xs ds h1 h2 h3 =>
    have hne : a ≠ p := fun z => no i _ e (by rw [e1, z])
    exact .own h1 (by rw [drp_ne hne]; exact h2) (RepL.mono (fz_drp hp) _ _ h3)
  | cup => exact .cup
  | fn x => exact .fn x
theorem okP_tI {c : Cw} {a : CE} {σ : L2.St} {H : Hp} {env : Env} {st : St} {R : L2.It → Hp → Prop} {Φ : List D → St → Prop} (he : RepEnv c H σ env) (hs : RepSt c H st) (h : okP (fun v s => ∃ l, v = .d (.list l) ∧ Φ l s) (ev G a env st))
    (k : ∀ l st' H1, Ext c.ρ H H1 → RepSt c H1 st' → Φ l st' → ∀ J Gd, WalkD c.K J l Gd → Gd H1 → R J H1) : PF.tI c G NoX a σ H R :=
  ⟨env, st, he, hs, okP.pst (h.mono fun v st' ⟨l, e, q⟩ => ⟨l, e, fun H1 e1 s1 J Gd wd g1 => k l st' H1 e1 s1 q J Gd wd g1⟩)⟩
theorem okP_asL {Φ : List D → St → Prop} {m : M Vl} {β : Type} {Ψ : β → St → Prop} {f : List D → M β} {s : St} (h : okP Ψ (bd m (fun w => asL w f) s)) : okP (fun v s' => ∃ l, v = .d (.list l) ∧ okP Ψ (f l s')) (m s) :=
  (okP.bd h).mono fun v s' q => okP.asL q
theorem o_lc2 {elt tg iter tg2 iter2 : Expr} {own : List (Str × Nat)} {src t src2 t2 y : CE} {g g2 : Tg}
    (hsub : ∀ i ∈ g.ixs, i ∈ own.map (·.2)) (hsub2 : ∀ i ∈ g2.ixs, i ∈ own.map (·.2)) {σ : L2.St} {H : Hp} {Q : VK} (h : tO (cOf X ρ flds) G W (.lc2 (own.map (·.2)) g src t g2.ixs g2 src2 t2 y) σ H Q) :
    tLc2 (tI (cOf X ρ flds) G W src) (gT (cOf X ρ flds) g) (tT (cOf X ρ flds) G NoX t) (tI (cOf X ρ flds) G NoX src2) (gT (cOf X ρ flds) g2) (tT (cOf X ρ flds) G NoX t2) (tG (cOf X ρ flds) G NoX y) (own.map (·.2)) g2.ixs σ H Q := by
  obtain ⟨env, st, he, hs, h⟩ := h
  rw [ev] at h
  refine ⟨env, st, he, hs, (Pst.bd h).mono fun w st1 h1 => ?_⟩
  obtain ⟨xs, rfl, h2⟩ := Pst.asL h1
  have h3 := pst_noexc h2
  refine ⟨xs, rfl, fun H1 e1 s1 J Gd wd gd1 p hp => ?_⟩
  have hρ : ρ ≠ p := ne_of_none s1 hp
  generalize hF : bodyF2 G g t g2.ixs g2 src2 t2 y (PF.wipe env (own.map (·.2))) = F
  have h4 : okP (fun ys st2 => Fin X ρ flds H1 Q ys st2) (lcLoop2 F xs st1) := by
    rw [← hF]
    refine h3.mono fun ys st2 q => ?_
    obtain ⟨hz, q⟩ := pst_short q
    obtain ⟨ds, e, q⟩ := q
    cases e
    exact ⟨hz, fun H2 e2 s2 p zs hp r => q H2 (e1.trans e2) s2 p zs hp r⟩
  have init : ∀ st', RepSt (cOf X ρ flds) H1 st' → Acc X ρ flds H1 p [] st' (upd H1 p (.lst [])) := fun st' s => by
    refine ⟨ext_put (c := cOf X ρ flds) hp (Ext.refl _ _), ?_, [], upd_same, .nil⟩
    unfold RepSt
    rw [show (cOf X ρ flds).ρ = ρ from rfl, upd_ne hρ]
    exact s
  refine walk_by wd.walk (fun i H' => ∃ ads st', Acc X ρ flds H1 p ads st' H' ∧ okP (fun rest st2 => Fin X ρ flds H1 Q (ads ++ rest) st2) (lcLoop2 F (xs.drop i) st')) ?_ ?_ ?_ ?_
    (St := fun x H' Nx => gT (cOf X ρ flds) g x (L2.wipe σ (own.map (·.2))) H' fun σ2 H2 => L2.wipe σ2 (own.map (·.2)) = L2.wipe σ (own.map (·.2)) ∧ tT (cOf X ρ flds) G NoX t σ2 H2 fun b H3 =>
      if b = true then tI (cOf X ρ flds) G NoX src2 σ2 H3 fun J1 H4 => ∃ W1 : Nat → Nat → Hp → Prop, (∃ m, W1 0 m H4) ∧ ∀ j k H, W1 j k H →
        (J1.stop j H ∧ Nx H) ∨ (J1.go j H ∧ ∃ Nx1 : Hp → Prop, (∀ H', Nx1 H' → ∃ k', k' < k ∧ W1 (j + 1) k' H') ∧ ∀ x H', J1.yld j H x H' → gT (cOf X ρ flds) g2 x (L2.wipe σ2 g2.ixs) H' fun σ3 H5 => L2.wipe σ3 g2.ixs = L2.wipe σ2 g2.ixs ∧ tT (cOf X ρ flds) G NoX t2 σ3 H5 fun b H6 =>
          if b = true then tG (cOf X ρ flds) G NoX y σ3 H6 fun y H7 => ∃ acc, H7 p = some (.lst acc) ∧ acc.length < sizeLine ∧ Nx1 (upd H7 p (.lst (acc ++ [y]))) else Nx1 H6)
      else Nx H3)
  · exact ⟨[], st1, init st1 s1, by simpa using h4⟩
  · rintro i H' _ ⟨ads, st', a, _⟩
    exact wd.keep _ _ a.ext.fz gd1
  · rintro i x H' H'' hi ⟨ads, st', a, q⟩ ⟨sm, d, ed, rd⟩
    have ex := Ext.of (ρ := ρ) sm
    have a2 := a.on hρ ex (sm _ _ a.sts)
    rw [List.drop_eq_getElem_cons hi] at q
    have ed2 : xs[i] = d := by
      rw [List.getElem?_eq_getElem hi] at ed
      exact Option.some.inj ed
    rw [ed2] at q
    have q2 : okP (fun l st2 => okP (fun rest st3 => Fin X ρ flds H1 Q (ads ++ (l ++ rest)) st3) (lcLoop2 F (xs.drop (i + 1)) st2)) (F d st') := (okP.bd q).mono fun l st2 z => (okP.bd z).mono fun rest st3 z => z
    rw [← hF] at q2
    obtain ⟨env1, hb, q3⟩ := okP.opt (okP.bd q2)
    rw [hF] at q3
    have hew : RepEnv (cOf X ρ flds) H'' (L2.wipe σ (own.map (·.2))) (PF.wipe env (own.map (·.2))) := (he.mono (e1.trans a2.ext)).wipe _
    refine ⟨_, .d d, env1, hew, .d rd, hb, fun σ2 he2 o2 l2 => ⟨?_, ?_⟩⟩
    · rw [wipe_eq l2 fun i hi => o2 i fun z => hi (hsub i z)]
      exact wipe_wipe
    · refine okP_tT he2 a2.sts (okP.to (okP.bd q3) fun b st1 q => okP.bd q) fun b st1 H3 e3 s3 q4 => ?_
      cases b with
      | false =>
        simp only [Bool.false_eq_true, if_false] at q4 ⊢
        exact ⟨ads, st1, a2.on hρ e3 s3, q4.mono fun rest st3 z => z⟩
      | true =>
        simp only [if_true] at q4 ⊢
        refine okP_tI (he2.mono e3) s3 (okP_asL (Φ := fun _ _ => True) q4) fun zs st2 H4 e4 s4 q5 J1 Gd1 wd1 gd4 => ?_
        have a4 := a2.on hρ (e3.trans e4) s4
        obtain ⟨acc4, hp4, r4⟩ := a4.acc
        have nop : ∀ (i : Nat) (x : D), env1[i]? = some (some (.own x)) → σ2[i]? ≠ some (some (.ref p)) := fun k x ek z => by
          obtain ⟨n1, f1⟩ := bindT_own hb k x ek
          obtain ⟨n2, f2⟩ := wipe_own f1
          obtain ⟨v, ev2, rv⟩ := he.at_ k _ f2
          rw [o2 k n1, wipe_out n2, ev2] at z
          cases z
          cases rv with
          | own h1 h2 h3 =>
            have := e1 _ _ h2 (.inr ⟨h1, fun _ z => nomatch z⟩)
            rw [hp] at this
            cases this
        have he4 : RepEnv (cOf X ρ flds) (PF.drp H4 p) σ2 env1 := (he2.mono (e3.trans e4)).drp hp4 nop
        have x4 : Ext ρ H1 (PF.drp H4 p) := ext_drp (c := cOf X ρ flds) hp a4.ext
        generalize hf2 : bodyF G g2 t2 y (PF.wipe env1 g2.ixs) = f2
        have q6 : okP (fun l st2 => okP (fun rest st3 => Fin X ρ flds H1 Q (ads ++ (l ++ rest)) st3) (lcLoop2 F (xs.drop (i + 1)) st2)) (lcLoop f2 zs st2) := by rw [← hf2]; exact q5
        refine walk_by wd1.walk (fun j H' => ∃ bds st', Acc X ρ flds (PF.drp H4 p) p (ads ++ bds) st' H' ∧ okP (fun l st2 => okP (fun rest st3 => Fin X ρ flds H1 Q (ads ++ (bds ++ l ++ rest)) st3) (lcLoop2 F (xs.drop (i + 1)) st2)) (lcLoop f2 (zs.drop j) st')) ?_ ?_ ?_ ?_
          (St := fun x H' Nx1 => gT (cOf X ρ flds) g2 x (L2.wipe σ2 g2.ixs) H' fun σ3 H5 => L2.wipe σ3 g2.ixs = L2.wipe σ2 g2.ixs ∧ tT (cOf X ρ flds) G NoX t2 σ3 H5 fun b H6 =>
            if b = true then tG (cOf X ρ flds) G NoX y σ3 H6 fun y H7 => ∃ acc, H7 p = some (.lst acc) ∧ acc.length < sizeLine ∧ Nx1 (upd H7 p (.lst (acc ++ [y]))) else Nx1 H6)
        · refine ⟨[], st2, ⟨fun b o e _ => ?_, a4.sts, by rw [List.append_nil]; exact a4.acc⟩, by simpa using q6⟩
          by_cases hb : b = p
          · rw [hb, drp_same] at e
            cases e
          · rw [drp_ne hb] at e
            exact e
        · rintro j H' _ ⟨bds, st', a, _⟩
          exact wd1.keep _ _ a.ext.fz (wd1.keep _ _ (fz_drp hp4) gd4)
        · rintro j z H' H'' hj ⟨bds, st', a, q⟩ ⟨sm, d2, ed2, rd2⟩
          have ex := Ext.of (ρ := ρ) sm
          have a5 := a.on hρ ex (sm _ _ a.sts)
          rw [List.drop_eq_getElem_cons hj] at q
          have ed3 : zs[j] = d2 := by
            rw [List.getElem?_eq_getElem hj] at ed2
            exact Option.some.inj ed2
          rw [ed3] at q
          have q7 := okP.bd q
          rw [← hf2] at q7
          refine turn_step (H1 := PF.drp H4 p) (fun i hi => hi) ((he4.mono a5.ext).wipe _) wipe_wipe rd2 a5 drp_same hρ q7 (fun st3 H5 a6 q8 => ?_) (fun u st3 q8 => ?_) fun u st3 H5 a6 q8 => ?_
          · exact ⟨bds, st3, a6, by rw [hf2] at q8; exact (okP.bd q8).mono fun l st4 z => z⟩
          · have q9 := okP.bd q8
            rw [hf2] at q9
            cases e9 : lcLoop f2 (zs.drop (j + 1)) st3 with
            | ok l st4 =>
              rw [e9] at q9
              have q10 : okP (fun rest st5 => Fin X ρ flds H1 Q (ads ++ (bds ++ (u :: l) ++ rest)) st5) (lcLoop2 F (xs.drop (i + 1)) st4) := q9
              cases e10 : lcLoop2 F (xs.drop (i + 1)) st4 with
              | ok rest st5 =>
                rw [e10] at q10
                have z5 : (ads ++ (bds ++ (u :: l) ++ rest)).length ≤ line := (show Fin X ρ flds H1 Q (ads ++ (bds ++ (u :: l) ++ rest)) st5 from q10).1
                simp only [List.length_append, List.length_cons] at z5 ⊢
                omega
              | exc a b c => rw [e10] at q10; exact q10.elim
              | bad => rw [e10] at q10; exact q10.elim
            | exc a b c => rw [e9] at q9; exact q9.elim
            | bad => rw [e9] at q9; exact q9.elim
          · refine ⟨bds ++ [u], st3, by rw [← List.append_assoc]; exact a6, ?_⟩
            rw [hf2] at q8
            refine (okP.bd q8).mono fun l st4 z => ?_
            have z' : okP (fun rest st5 => Fin X ρ flds H1 Q (ads ++ (bds ++ (u :: l) ++ rest)) st5) (lcLoop2 F (xs.drop (i + 1)) st4) := z
            refine z'.mono fun rest st5 q => ?_
            rw [List.append_assoc bds [u] l]
            exact q
        · rintro H' ⟨bds, st', a, q⟩
          rw [List.drop_length] at q
          refine ⟨ads ++ bds, st', ⟨x4.trans a.ext, a.sts, a.acc⟩, ?_⟩
          have q' : okP (fun rest st3 => Fin X ρ flds H1 Q (ads ++ (bds ++ [] ++ rest)) st3) (lcLoop2 F (xs.drop (i + 1)) st') := q
          refine q'.mono fun rest st5 q => ?_
          rw [List.append_nil, ← List.append_assoc] at q
          exact q
  · rintro H' ⟨ads, st', a, q⟩
    rw [List.drop_length] at q
    refine a.fin hp hρ ?_
    have q' : Fin X ρ flds H1 Q (ads ++ []) st' := q
    rw [List.append_nil] at q'
    exact q'
end
end PF
end
section
set_option Elab.async false
set_option linter.all false
set_option maxRecDepth 100000
set_option maxHeartbeats 4000000
/-! PFu: every expression that is compiled keeps to the evaluator. -/
namespace PF
open PySem PySem.Spec PyProof.Rows L2 PFS
section
variable {X : Cx} {ρ : Addr} {flds : List (Str × Str)} {G : Str → List Vl → M Vl} {W : XK} {C : Cmp}
theorem OkE.blk (ok : OkE G W ρ flds C X) (s : Shared) (H : Hp) (scope : Scope) (cl : List (Str × Addr)) (Cc : Addr) (fp : List Addr) :
    OkE G NoX ρ flds { C with sc := relS scope C.sc, blk := some scope } (X.blk s H scope (compEnvC scope cl Cc X.env) fp) where
  N := ok.N
  nd := ok.nd
  sc := by
    show relS scope X.env.scope = relS scope C.sc
    rw [ok.sc]
  fn := fun x => rfl
  calm := ok.calm
  units := ok.units
  gd := ok.gd
  fns := ok.fns
  cns := ok.cns
  free := ok.free
  pass := fun pins σ H s e s' I h => by
    obtain ⟨_, _, _, _, _, _, _, _, _, _, _, _, h⟩ := h
    exact h.elim
/-- an expression's two words -/
abbrev EOk (X : Cx) (ρ : Addr) (flds : List (Str × Str)) (G : Str → List Vl → M Vl) (W : XK) (e : Expr) (ce : CE) : Prop := PE X e (TG' X ρ flds G W ce) ∧ PT X e (tT (cOf X ρ flds) G W ce)
theorem both {e : Expr} {ce : CE} (h : PE X e (TG' X ρ flds G W ce)) (hi : ∀ whole, isTrue e X.env whole = (do let v ← whole; standAt e.pos; holding [v] (truthy v))) : EOk X ρ flds G W e ce := ⟨h, t_plain h hi⟩
theorem fold_no {e : Expr} (h : isSet e = false) (env : PySem.Env) (x : Value) : foldedSetIterable e env x = pure x := by
  cases e <;> first | rfl | cases h
theorem i_cal (ok : OkE G W ρ flds C X) {k : Ik} {T : String} {tg : Expr} {x : Str} {e : Expr} {es : List Expr} {a : CE} {p pos : Pos} {f : Expr → Option CE} (hx : C.blt x = true) (hv : bootBuiltins x = some (.type T)) (hn : x ≠ nName) (hd : (x == nDbg) = false)
    (hc : CalI X T tg (rIt X.K k)) (ha : cL f (e :: es) = some a) (h : ∀ d ∈ e :: es, ∀ y, f d = some y → PE X d (TG' X ρ flds G W y)) : PI X tg (.Call (.Name x p) (e :: es) [] pos) (tI (cOf X ρ flds) G W (.it k a)) := by
  obtain ⟨hst, _, _, _, h2, _⟩ := cL_cons ha
  exact PI.imp (pi_cal hc (blt_ok ok hx).1 (blt_ok ok hx).2 hv (pa_L ha h) hn hd (star_no hst) (star_any h2)) fun _ _ _ => t_it
theorem itOf_ok {x : Str} {k : Ik} (h : itOf x = some k) : (k = .range ∧ x = "range") ∨ (k = .enum ∧ x = "enumerate") ∨ (k = .zip ∧ x = "zip") := by
  unfold itOf at h
  split at h
  · cases h; exact .inl ⟨rfl, by assumption⟩
  · split at h
    · cases h; exact .inr (.inl ⟨rfl, by assumption⟩)
    · split at h
      · cases h; exact .inr (.inr ⟨rfl, by assumption⟩)
      · cases h
theorem isTup_ok {e : Expr} (h : isTup e = true) : ∃ es k p, e = .Tuple es k p := by
  cases e <;> first | exact ⟨_, _, _, rfl⟩ | cases h
theorem bd_ok {α β : Type} {m : M α} {f : α → M β} {st s : St} {b : β} (h : bd m f st = .ok b s) : ∃ a s', m st = .ok a s' ∧ f a s' = .ok b s := by
  unfold bd at h
  cases e : m st with
  | ok a s' => rw [e] at h; exact ⟨a, s', rfl, h⟩
  | exc x y s' => rw [e] at h; cases h
  | bad => rw [e] at h; cases h
theorem cL_len {f : Expr → Option CE} : ∀ {es : List Expr} {a : CE}, cL f es = some a → ∀ (env : Env) (st : St) (l : List D) (s : St), ev G a env st = .ok (.d (.tuple l)) s → l.length = es.length
  | [], a, h, env, st, l, s, e => by
    cases h
    rw [ev] at e
    cases e
    rfl
  | d :: es, a, h, env, st, l, s, e => by
    obtain ⟨_, x, y, _, h2, rfl⟩ := cL_cons h
    rw [ev] at e
    obtain ⟨v, s1, _, e1⟩ := bd_ok e
    obtain ⟨w, s2, ew, e2⟩ := bd_ok e1
    cases v with
    | d xd =>
      cases w with
      | d wd =>
        cases wd with
        | tuple l2 =>
          have e3 : (R.ok (Vl.d (.tuple (xd :: l2))) s2 : R Vl) = .ok (.d (.tuple l)) s := e2
          cases e3
          rw [List.length_cons, List.length_cons, cL_len h2 env s1 l2 _ ew]
        | _ => cases e2
      | _ => cases e2
    | _ => cases e2
theorem t_itn {a : CE} {k : Ik} {n : Nat} {σ : L2.St} {H : Hp} {R : L2.It → Hp → Prop} (hl : ∀ (env : Env) (st : St) (l : List D) (s : St), ev G a env st = .ok (.d (.tuple l)) s → l.length = n) (h : tI (cOf X ρ flds) G W (.it k a) σ H R) :
    iCal (fun vs H R => vs.length = n ∧ rIt X.K k vs H R) (tL (cOf X ρ flds) G W a) σ H R := by
  obtain ⟨env, st, he, hs, h⟩ := h
  rw [ev] at h
  refine ⟨env, st, he, hs, pst_T ?_⟩
  have hb := Pst.bd h
  cases e : ev G a env st with
  | ok w st1 =>
    rw [e] at hb
    obtain ⟨l, rfl, h2⟩ := Pst.asT hb
    obtain ⟨xs, hf, h3⟩ := pst_optB h2
    obtain ⟨ds, e3, h4⟩ := h3
    cases e3
    exact ⟨l, rfl, fun vs H1 e1 s1 r1 => ⟨by rw [r1.length]; exact hl env st l st1 e, l, xs, r1, hf, h4 H1 e1 s1⟩⟩
  | exc x y s => rw [e] at hb; exact hb
  | bad => rw [e] at hb; exact hb.elim
theorem i_zip (ok : OkE G W ρ flds C X) {elts : List Expr} {kk : Nat} {tpos : Pos} {e e2 : Expr} {a : CE} {p pos : Pos} {f : Expr → Option CE} (hx : C.blt "zip" = true)
    (ha : cL f [e, e2] = some a) (h : ∀ d ∈ [e, e2], ∀ y, f d = some y → PE X d (TG' X ρ flds G W y)) : PI X (.Tuple elts kk tpos) (.Call (.Name "zip" p) [e, e2] [] pos) (tI (cOf X ρ flds) G W (.it .zip a)) := by
  obtain ⟨hst, _, _, _, h2, _⟩ := cL_cons ha
  exact PI.imp (pi_cal ci_zip2 (blt_ok ok hx).1 (blt_ok ok hx).2 PyProof.Rows.boot_zip (pa_L ha h) (by decide +kernel) (by decide +kernel) (star_no hst) (star_any h2)) fun _ _ _ q => t_itn (fun env st l s e => cL_len ha env st l s e) q
theorem cI_ok (ok : OkE G W ρ flds C X) {f : Expr → Option CE} (hf : ∀ e x, f e = some x → PE X e (TG' X ρ flds G W x)) : ∀ {tg iter : Expr} {src : CE}, cI C f tg iter = some src → PI X tg iter (tI (cOf X ρ flds) G W src) ∧ ∀ env x, foldedSetIterable iter env x = pure x := by
  intro tg iter src h
  have plain : ∀ {e : Expr} {src : CE}, isSet e = false → (f e).map (fun a => CE.it .seq (.cons a .nil)) = some src → PI X tg e (tI (cOf X ρ flds) G W src) ∧ ∀ env x, foldedSetIterable e env x = pure x := fun {e src} hs h => by
    obtain ⟨a, h1, rfl⟩ := Option.map_eq_some_iff.mp h
    exact ⟨i_seq (hf _ _ h1), fun env x => fold_no hs env x⟩
  unfold cI at h
  split at h
  · rename_i x p e es pos
    split at h
    · rename_i hk
      split at h
      · rename_i hz
        obtain ⟨a, h1, rfl⟩ := Option.map_eq_some_iff.mp h
        split at hk
        · rename_i hb
          rcases itOf_ok hk with ⟨_, rfl⟩ | ⟨e2, _⟩ | ⟨e2, _⟩
          · exact ⟨i_cal ok hb boot_range (by decide +kernel) (by decide +kernel) ci_rng h1 fun d _ y => hf d y, fun _ _ => rfl⟩
          · cases e2
          · cases e2
        · cases hk
      · cases h
    · rename_i hk
      split at h
      · rename_i hz
        obtain ⟨a, h1, rfl⟩ := Option.map_eq_some_iff.mp h
        obtain ⟨elts, kk, tpos, rfl⟩ := isTup_ok hz.2
        split at hk
        · rename_i hb
          rcases itOf_ok hk with ⟨e2, _⟩ | ⟨_, rfl⟩ | ⟨e2, _⟩
          · cases e2
          · exact ⟨i_cal ok hb boot_enumerate (by decide +kernel) (by decide +kernel) ci_enum h1 fun d _ y => hf d y, fun _ _ => rfl⟩
          · cases e2
        · cases hk
      · cases h
    · rename_i hk
      split at h
      · rename_i hz
        obtain ⟨a, h1, rfl⟩ := Option.map_eq_some_iff.mp h
        obtain ⟨elts, kk, tpos, rfl⟩ := isTup_ok hz.2
        have hes : ∃ e2, es = [e2] := by
          match es, hz.1 with
          | [e2], _ => exact ⟨e2, rfl⟩
        obtain ⟨e2, rfl⟩ := hes
        split at hk
        · rename_i hb
          rcases itOf_ok hk with ⟨e3, _⟩ | ⟨e3, _⟩ | ⟨_, rfl⟩
          · cases e3
          · cases e3
          · exact ⟨i_zip ok hb h1 fun d _ y => hf d y, fun _ _ => rfl⟩
        · cases hk
      · cases h
    · exact plain rfl h
  · split at h
    · cases h
    · rename_i hs
      simp only [Bool.or_eq_true, not_or, Bool.not_eq_true] at hs
      exact plain hs.1 h
end
end PF
end
section
set_option Elab.async false
set_option linter.all false
set_option maxRecDepth 100000
set_option maxHeartbeats 4000000
/-! PFv: every expression that is compiled keeps to the evaluator, continued. -/
namespace PF
open PySem PySem.Spec PyProof.Rows L2 PFS
section
variable {X : Cx} {ρ : Addr} {flds : List (Str × Str)} {G : Str → List Vl → M Vl} {W : XK} {C : Cmp}
theorem b_and {f : Expr → Option CE} (hf : ∀ e x, f e = some x → EOk X ρ flds G W e x) {pos : Pos} : ∀ {es : List Expr} {ce : CE}, cBool .And f es = some ce → PE X (.BoolOp .And es pos) (TG' X ρ flds G W ce) ∧ PW X (.BoolOp .And es pos) (tT (cOf X ρ flds) G W ce)
  | [], _, h => nomatch h
  | [e], ce, h => ⟨pe_one (hf e ce h).1, pw_and1 (hf e ce h).2⟩
  | e :: d :: es, ce, h => by
    obtain ⟨a, h1, h2⟩ := Option.bind_eq_some_iff.mp (show (f e).bind (fun a => (cBool .And f (d :: es)).map fun b => CE.and a b) = some ce from h)
    obtain ⟨b, h3, rfl⟩ := Option.map_eq_some_iff.mp h2
    obtain ⟨i1, i2⟩ := b_and hf h3 (pos := pos)
    exact ⟨e_and (hf e a h1).1 i1, w_and (hf e a h1).2 i2⟩
theorem b_or {f : Expr → Option CE} (hf : ∀ e x, f e = some x → EOk X ρ flds G W e x) {pos : Pos} : ∀ {es : List Expr} {ce : CE}, cBool .Or f es = some ce → PE X (.BoolOp .Or es pos) (TG' X ρ flds G W ce) ∧ PW X (.BoolOp .Or es pos) (tT (cOf X ρ flds) G W ce)
  | [], _, h => nomatch h
  | [e], ce, h => ⟨pe_one (hf e ce h).1, pw_or1 (hf e ce h).2⟩
  | e :: d :: es, ce, h => by
    obtain ⟨a, h1, h2⟩ := Option.bind_eq_some_iff.mp (show (f e).bind (fun a => (cBool .Or f (d :: es)).map fun b => CE.or a b) = some ce from h)
    obtain ⟨b, h3, rfl⟩ := Option.map_eq_some_iff.mp h2
    obtain ⟨i1, i2⟩ := b_or hf h3 (pos := pos)
    exact ⟨e_or (hf e a h1).1 i1, w_or (hf e a h1).2 i2⟩
/-- a built-in of one argument -/
theorem bl_ok (ok : OkE G W ρ flds C X) {x : Str} {b : Bool} {n : Nat} {q : Pm} (hg : C.glob x = true) (hfr : C.free.contains x = true) (hn : x ≠ nName) (hd : (x == nDbg) = false) (h : builtins.lookup x = some (b, n, q)) {e : Expr} {a : CE} {p pos : Pos} (hst : isStar e = false) (ha : PE X e (TG' X ρ flds G W a)) :
    PE X (.Call (.Name x p) [e] [] pos) (TG' X ρ flds G W (.prim q a .nil)) := by
  have B : ∀ {id : String} {q : Pm}, bootBuiltins x = some (.builtin id) → CallR X (.builtin id) (rPO X.K q) → (q.reads = true → q = .len) → PE X (.Call (.Name x p) [e] [] pos) (TG' X ρ flds G W (.prim q a .nil)) := fun hv hr hp =>
    e_primB (f := fun _ => none) (es := []) ok hg hfr hd hn hv hr hp hst ha rfl fun _ h => nomatch h
  have T : ∀ {id : String} {q : Pm}, bootBuiltins x = some (.type id) → CallR X (.type id) (rPO X.K q) → (q.reads = true → q = .len) → PE X (.Call (.Name x p) [e] [] pos) (TG' X ρ flds G W (.prim q a .nil)) := fun hv hr hp =>
    e_primT (f := fun _ => none) (es := []) ok hg hfr hd hn hv hr hp hst ha rfl fun _ h => nomatch h
  have hc := ok.calm
  have hu := ok.units
  unfold builtins at h
  simp only [List.lookup_cons, List.lookup_nil] at h
  split at h
  · rename_i k; cases h; obtain rfl := beq_iff_eq.mp k
    exact B (by decide +kernel) rPO_len fun _ => rfl
  split at h
  · rename_i k; cases h; obtain rfl := beq_iff_eq.mp k
    exact B (by decide +kernel) (rPO_of (cp_all hc) (by decide)) (by decide)
  split at h
  · rename_i k; cases h; obtain rfl := beq_iff_eq.mp k
    exact B (by decide +kernel) (rPO_of (cp_any hc) (by decide)) (by decide)
  split at h
  · rename_i k; cases h; obtain rfl := beq_iff_eq.mp k
    exact B (by decide +kernel) (rPO_of (cp_sum hc) (by decide)) (by decide)
  split at h
  · rename_i k; cases h; obtain rfl := beq_iff_eq.mp k
    exact B (by decide +kernel) (rPO_of cp_abs (by decide)) (by decide)
  split at h
  · rename_i k; cases h; obtain rfl := beq_iff_eq.mp k
    exact B (by decide +kernel) (rPO_of (cp_sorted hu) (by decide)) (by decide)
  split at h
  · rename_i k; cases h; obtain rfl := beq_iff_eq.mp k
    exact T (by decide +kernel) (rPO_of cp_tuple (by decide)) (by decide)
  split at h
  · rename_i k; cases h; obtain rfl := beq_iff_eq.mp k
    exact T (by decide +kernel) (rPO_of cp_list (by decide)) (by decide)
  split at h
  · rename_i k; cases h; obtain rfl := beq_iff_eq.mp k
    exact T (by decide +kernel) (rPO_of cp_int (by decide)) (by decide)
  split at h
  · rename_i k; cases h; obtain rfl := beq_iff_eq.mp k
    exact T (by decide +kernel) (rPO_of cp_str (by decide)) (by decide)
  split at h
  · rename_i k; cases h; obtain rfl := beq_iff_eq.mp k
    exact B (by decide +kernel) (rPO_of (cp_repr ok.gd hu) (by decide)) (by decide)
  cases h
theorem setArg_ok {e a : Expr} (h : setArg C e = some a) : ∃ p2 q, e = .Call (.Name "set" p2) [a] [] q ∧ C.blt "set" = true ∧ isStar a = false := by
  unfold setArg at h
  split at h
  · split at h
    · rename_i hz
      obtain ⟨rfl, h2, h3⟩ := hz
      cases h
      exact ⟨_, _, rfl, h2, h3⟩
    · cases h
  · cases h
theorem nmArg_ok {d : Expr} {t : Ty} (h : nmArg C d = some t) : ∃ y p, d = .Name y p ∧ C.blt y = true ∧ tyOf y = some t := by
  unfold nmArg at h
  split at h
  · split at h
    · exact ⟨_, _, rfl, by assumption, h⟩
    · cases h
  · cases h
theorem cCall1_ok (ok : OkE G W ρ flds C X) {f : Expr → Option CE} (hf : ∀ e x, f e = some x → PE X e (TG' X ρ flds G W x)) {x : Str} {e : Expr} {ce : CE} {p pos : Pos} (hg : C.glob x = true) (hfr : C.free.contains x = true) (hst : isStar e = false) (hd : (x == nDbg) = false) (hn : x ≠ nName)
    (h : cCall1 C f x e = some ce) : PE X (.Call (.Name x p) [e] [] pos) (TG' X ρ flds G W ce) := by
  have hblt : C.blt x = true := by
    unfold Cmp.blt
    rw [hg, hfr]
    rfl
  have hc := ok.calm
  have hu := ok.units
  unfold cCall1 at h
  split at h
  · rename_i a ha
    obtain ⟨a', h1, rfl⟩ := Option.map_eq_some_iff.mp h
    split at ha
    · rename_i hx
      obtain ⟨p2, q, rfl, hb, hs⟩ := setArg_ok ha
      rcases hx with rfl | rfl
      · rw [if_pos rfl]
        exact e_sset ok hblt hb hs (hf _ _ h1)
      · rw [if_neg (by decide +kernel)]
        exact e_lset ok hblt hb hs (hf _ _ h1)
    · cases ha
  · split at h
    · rename_i q hb
      obtain ⟨a', h1, rfl⟩ := Option.map_eq_some_iff.mp h
      exact bl_ok ok hg hfr hn hd hb hst (hf _ _ h1)
    · split at h
      · rename_i hx
        subst hx
        obtain ⟨a', h1, rfl⟩ := Option.map_eq_some_iff.mp h
        exact e_primB (f := fun _ => none) (es := []) ok hg hfr hd hn (by decide +kernel) (rPO_of (cp_max hc hu) (by decide)) (by decide) hst (hf _ _ h1) rfl fun _ h => nomatch h
      · split at h
        · rename_i hx
          subst hx
          obtain ⟨a', h1, rfl⟩ := Option.map_eq_some_iff.mp h
          exact e_primB (f := fun _ => none) (es := []) ok hg hfr hd hn (by decide +kernel) (rPO_of (cp_min hc hu) (by decide)) (by decide) hst (hf _ _ h1) rfl fun _ h => nomatch h
        · cases h
theorem cCall2_ok (ok : OkE G W ρ flds C X) {f : Expr → Option CE} (hf : ∀ e x, f e = some x → PE X e (TG' X ρ flds G W x)) {x : Str} {e d : Expr} {ce : CE} {p pos : Pos} (hg : C.glob x = true) (hfr : C.free.contains x = true) (hst : isStar e = false) (hd : (x == nDbg) = false) (hn : x ≠ nName)
    (h : cCall2 C f x e d = some ce) : PE X (.Call (.Name x p) [e, d] [] pos) (TG' X ρ flds G W ce) := by
  have hblt : C.blt x = true := by
    unfold Cmp.blt
    rw [hg, hfr]
    rfl
  have hc := ok.calm
  unfold cCall2 at h
  split at h
  · rename_i hx
    subst hx
    obtain ⟨a, h1, h2⟩ := Option.bind_eq_some_iff.mp h
    obtain ⟨b, h3, rfl⟩ := Option.map_eq_some_iff.mp h2
    exact e_primB ok hg hfr hd hn (by decide +kernel) (rPO_of (cp_max2 hc) (by decide)) (by decide) hst (hf _ _ h1) h3 fun e _ y => hf e y
  · split at h
    · rename_i hx
      subst hx
      obtain ⟨a, h1, h2⟩ := Option.bind_eq_some_iff.mp h
      obtain ⟨b, h3, rfl⟩ := Option.map_eq_some_iff.mp h2
      exact e_primB ok hg hfr hd hn (by decide +kernel) (rPO_of (cp_min2 hc) (by decide)) (by decide) hst (hf _ _ h1) h3 fun e _ y => hf e y
    · split at h
      · rename_i hx
        subst hx
        obtain ⟨t, h1, h2⟩ := Option.bind_eq_some_iff.mp h
        obtain ⟨a, h3, rfl⟩ := Option.map_eq_some_iff.mp h2
        obtain ⟨y, p2, rfl, hb, ht⟩ := nmArg_ok h1
        exact e_isI ok (blt_ok ok hblt).1 (blt_ok ok hblt).2 hb ht hst (hf _ _ h3)
      · cases h
theorem cCall_ok (ok : OkE G W ρ flds C X) {f : Expr → Option CE} (hf : ∀ e x, f e = some x → PE X e (TG' X ρ flds G W x)) {x : Str} {e : Expr} {es : List Expr} {ce : CE} {p pos : Pos} (hg : C.glob x = true) (hd : (x == nDbg) = false) (hn : x ≠ nName)
    (h : cCall C f x e es = some ce) : PE X (.Call (.Name x p) (e :: es) [] pos) (TG' X ρ flds G W ce) := by
  unfold cCall at h
  split at h
  · rename_i hfn
    obtain ⟨a, h1, rfl⟩ := Option.map_eq_some_iff.mp h
    exact e_call ok hg hfn hd h1 fun d _ y => hf d y
  · split at h
    · cases h
    · rename_i hz
      simp only [not_or, Bool.not_eq_false, Bool.not_eq_true] at hz
      split at h
      · exact cCall1_ok ok hf hg hz.1 hz.2 hd hn h
      · exact cCall2_ok ok hf hg hz.1 hz.2 hd hn h
      · cases h
/-- only a list comes -/
def OnlyL (r : R Vl) : Prop := match r with
  | .ok (.d (.list _)) _ => True
  | .ok _ _ => False
  | _ => True
theorem OnlyL.bd {α : Type} {m : M α} {f : α → M Vl} {s : St} (h : ∀ a s', OnlyL (f a s')) : OnlyL (PF.bd m f s) := by
  unfold PF.bd
  cases m s with
  | ok a s1 => exact h a s1
  | exc x y s1 => trivial
  | bad => trivial
theorem OnlyL.asT {w : Vl} {f : List D → M Vl} {s : St} (h : ∀ a s', OnlyL (f a s')) : OnlyL (PF.asT w f s) := by
  unfold PF.asT
  split
  · exact h _ _
  · trivial
theorem OnlyL.asL {w : Vl} {f : List D → M Vl} {s : St} (h : ∀ a s', OnlyL (f a s')) : OnlyL (PF.asL w f s) := by
  unfold PF.asL
  split
  · exact h _ _
  · trivial
theorem only_lst {a : CE} (env : Env) (st : St) : OnlyL (ev G (.lst a) env st) := by
  rw [ev]
  exact OnlyL.bd fun _ _ => OnlyL.asT fun _ _ => OnlyL.bd fun _ _ => trivial
theorem only_lc {own : List Nat} {g : Tg} {a b c : CE} (env : Env) (st : St) : OnlyL (ev G (.lc own g a b c) env st) := by
  rw [ev]
  exact OnlyL.bd fun _ _ => OnlyL.asL fun _ _ => OnlyL.bd fun _ _ => OnlyL.bd fun _ _ => trivial
theorem only_lc2 {own own2 : List Nat} {g g2 : Tg} {a b c d e : CE} (env : Env) (st : St) : OnlyL (ev G (.lc2 own g a b own2 g2 c d e) env st) := by
  rw [ev]
  exact OnlyL.bd fun _ _ => OnlyL.asL fun _ _ => OnlyL.bd fun _ _ => OnlyL.bd fun _ _ => trivial
end
end PF
end
section
set_option Elab.async false
set_option linter.all false
set_option maxRecDepth 100000
set_option maxHeartbeats 4000000
/-! PFv0: t[::-1] of a tuple. -/
namespace PF
open PySem PySem.Spec PyProof.Rows HT
open PySem.SeqAt
open PySem.MeetsSeq PySem.MeetsSeq2 PySem.MeetsSeq3
section
variable {prog : Program} {w : World} {A : Around} {E : Value → Shared → Prop} {s : Shared}
theorem back_places (n : Nat) : Builtin.Slice.slicePlaces ((n : Int) - 1) (-1) (-1) = n := by
  unfold Builtin.Slice.slicePlaces
  rw [if_neg (by decide)]
  by_cases h : (n : Int) - 1 > -1
  · rw [if_pos h, show -(-1 : Int) = 1 from rfl, Int.ediv_one]
    omega
  · rw [if_neg h]
    omega
theorem back_adjust (n : Int) : Builtin.Slice.sliceAdjust none none (-1) n = (n - 1, -1) := rfl
theorem back_applied {sl : Addr} {t : Tok} {n : Nat} {Q : Int × Int × Nat → Shared → Prop} (hs : s.heap.IsSliceOf sl .none .none (.int (-1) t)) (h : Q ((n : Int) - 1, -1, n) s) : wpAny (model prog w) A (Builtin.Slice.sliceApplied (.ref sl) (pure (n : Int))) Q E s := by
  obtain ⟨os, hos, _, hds⟩ := id hs
  unfold Builtin.Slice.sliceApplied
  unfold Builtin.Slice.sliceFields
  have f3 := fun (Q : Value → Shared → Prop) (q : Q (.int (-1) t) s) => wpAny_field (M := model prog w) (A := A) (E := E) hos hds (x := .int (-1) t) (i := 2) rfl q
  refine wpAny_bind (wpAny_bind (wpAny_field hos hds (x := .none) rfl ?_))
  refine wpAny_bind (wpAny_field hos hds (x := .none) rfl ?_)
  refine wpAny_bind (f3 _ (wpAny_pure ?_))
  refine wpAny_bind (slicePart_int ?_)
  show wpAny _ _ (if ((-1 : Int) == 0) = true then _ else _) _ _ s
  rw [if_neg (by decide)]
  refine wpAny_bind (slicePart_none (wpAny_bind (slicePart_none (wpAny_bind (wpAny_pure ?_)))))
  show wpAny _ _ (pure ((n : Int) - 1, (-1 : Int), Builtin.Slice.slicePlaces ((n : Int) - 1) (-1) (-1))) _ _ s
  rw [back_places]
  exact wpAny_pure h
theorem fmap_c {α β : Type} {f g : α → Option β} : ∀ {l : List α}, (∀ x ∈ l, f x = g x) → l.filterMap f = l.filterMap g
  | [], _ => rfl
  | a :: l, h => by
    rw [List.filterMap_cons, List.filterMap_cons, h a List.mem_cons_self, fmap_c fun x hx => h x (List.mem_cons_of_mem _ hx)]
theorem back_pick (xs : Array Value) : ((List.range xs.size).filterMap fun (m : Nat) => xs[((xs.size : Int) - 1 + (m : Int) * (-1)).toNat]?).toArray = xs.toList.reverse.toArray := by
  congr 1
  have e : (List.range xs.size).filterMap (fun (m : Nat) => xs[((xs.size : Int) - 1 + (m : Int) * (-1)).toNat]?) = (List.range xs.size).filterMap fun m => (xs.toList.reverse)[m]? := by
    refine fmap_c fun m hm => ?_
    have hm := List.mem_range.mp hm
    rw [List.getElem?_reverse (by simpa using hm), Array.getElem?_toList, Array.length_toList]
    congr 1
    omega
  rw [e]
  have key : ∀ l : List Value, (List.range l.length).filterMap (fun m => l[m]?) = l := by
    intro l
    induction l with
    | nil => rfl
    | cons a l ih =>
      rw [List.length_cons, List.range_succ_eq_map, List.filterMap_cons]
      show a :: _ = _
      rw [List.filterMap_map]
      exact congrArg _ ih
  have := key xs.toList.reverse
  rw [List.length_reverse, Array.length_toList] at this
  exact this
theorem getItem_tuple_back {t sl : Addr} {items : Array Value} {u : Tok} {Q : Value → Shared → Prop} (ht : IsTup s.heap t items) (hs : s.heap.IsSliceOf sl .none .none (.int (-1) u)) (hz : items.size ≤ sizeLine)
    (h : Q (.ref s.heap.objs.size) { s with heap := s.heap.push { cls := .type "tuple", data := .seq items.toList.reverse.toArray } }) : wpAny (model prog w) A (getItem (.ref t) (.ref sl)) Q E s := by
  have fits : sizeOk (.seq items.toList.reverse.toArray) := by
    show items.toList.reverse.toArray.size ≤ sizeLine
    simpa using hz
  have isSl : s.TypeIs (.ref sl) "slice" := hs.elim fun o z => ⟨o, z.1, z.2.1⟩
  unfold getItem
  try with_reducible refine wpAny_holding ?_
  first | refine wpAny_bind (wpAny_pure ?_) | skip
  refine wpAny_bind (wpAny_sequenceKey ht.typeIs (by decide) ?_)
  refine wpAny_bind (wpAny_callSpecial?_slot (name := Str.ofString "__getitem__") ht.typeIs PyProof.Rows.slot_tuple_getitem (wpAny_call_entry PyProof.Rows.slot_tuple_getitem ht.typeIs entry_tuple_getitem ?_ (args_tuple_getitem _ _)))
  show wpAny _ _ (Builtin.Tuple.tupleItemsOf (.ref t) >>= _) _ _ s
  refine wpAny_bind (tupleItemsOf_ ht (wpAny_bind (wpAny_typeOf isSl ?_)))
  rw [if_pos (by decide)]
  refine wpAny_bind (back_applied hs ?_)
  show wpAny _ _ (if ((((items.size : Int) - 1) == 0 && (-1 : Int) == 1 && items.size == items.size) = true) then _ else _) _ _ s
  rw [if_neg (by rw [show ((-1 : Int) == 1) = false from rfl, Bool.and_false, Bool.false_and]; exact Bool.false_ne_true), back_pick]
  first
    | exact wpAny_bind (m := Builtin.Tuple.tupleExact _) (wpAny_newObj_type (wpAny_pure ⟨_, rfl, wpAny_pure h⟩) fits)
    | exact wpAny_bind (m := Builtin.Tuple.tupleExact _) (wpAny_newObj_type (wpAny_bind (wpAny_pure (wpAny_pure ⟨_, rfl, wpAny_pure h⟩))) fits)
    | exact wpAny_bind (wpAny_bind (m := Builtin.Tuple.tupleExact _) (wpAny_newObj_type (wpAny_pure (wpAny_pure ⟨_, rfl, wpAny_pure h⟩)) fits))
    | exact wpAny_bind (wpAny_bind (m := Builtin.Tuple.tupleExact _) (wpAny_newObj_type (wpAny_pure ⟨_, rfl, wpAny_pure h⟩) fits))
end
section
open L2 PFS
variable {X : Cx}
/-- a list or a tuple turned about -/
def tRevA (K : PySem.W.Frag) (te : TE) : TE := fun σ H Q => te σ H fun x H1 => ∃ a xs, x = .ref a ∧ ((SqL K H1 a xs ∧ ∀ p od, H1 p = none → Q (.ref p) (upd H1 p (.frz od (.lst xs.reverse)))) ∨ (SqT K H1 a xs ∧ ∀ p, H1 p = none → Q (.ref p) (upd H1 p (.tup xs.reverse))))
theorem pe_revA {e : Expr} {te : TE} {k : Nat} {p1 p2 p3 pos : Pos} (he : PE X e te) : PE X (.Subscript e (.Slice none none (some (.UnaryOp .USub (.Constant (.int 1) k p1) p2)) p3) pos) (tRevA X.K te) := by
  constructor
  intro pins s σ H Q I h
  have first_ := he.run pins s σ H _ I h
  refine Subscript_ (thn first_ fun v s1 z => ?_)
  obtain ⟨x, H1, I1, r1, a, xs, rfl, q⟩ := z
  cases r1
  have hst : PO X (some (.UnaryOp .USub (.Constant (.int 1) k p1) p2)) (tPart (tUn (rU fun i => .int (-i)) (tC (.int 1)))) := po_some (pe_un un_neg pe_int)
  have no := fun s2 I2 => (po_none (X := X)).run pins s2 σ H1 (fun o H2 => o = none ∧ H2 = H1) I2 ⟨rfl, rfl⟩
  refine wpAny_Slice (thn (no s1 I1) fun vl s2 z => ?_)
  obtain ⟨l, H2, I2, pl, rfl, rfl⟩ := z
  refine thn (no s2 I2) fun vu s3 z => ?_
  obtain ⟨u, H3, I3, pu, rfl, rfl⟩ := z
  refine thn (hst.run pins s3 σ _ (fun o H4 => o = some (-1) ∧ H4 = _) I3 ⟨1, rfl, -1, rfl, rfl, rfl⟩) fun vs s4 z => ?_
  obtain ⟨o, H4, I4, ps, rfl, rfl⟩ := z
  cases pl
  cases pu
  cases ps
  rename_i tk
  generalize hh : s4.heap.push { cls := .type "slice", data := .fields #[.none, .none, .int (-1) tk] } = h5
  have I5 : Inv X pins σ _ { s4 with heap := h5 } := I4.kept (t' := s4.toks) fun b ob q => by rw [← hh]; exact Heap.get?_push_of_some _ q
  have isS : h5.IsSliceOf s4.heap.objs.size .none .none (.int (-1) tk) := by rw [← hh]; exact Heap.IsSliceOf.new _ _ _ _
  show wpAny (model X.prog X.w) X.A (subscriptTail e (.Slice none none (some (.UnaryOp .USub (.Constant (.int 1) k p1) p2)) p3) (.ref a) (.ref s4.heap.objs.size)) (EP X pins σ Q) X.xe { s4 with heap := h5 }
  rcases q with ⟨hx, q⟩ | ⟨hx, q⟩
  · obtain ⟨its, r, ht, hz⟩ := I5.list hx
    have hlen := r.length
    refine tail_any (ops := [.ref a, .ref s4.heap.objs.size]) ht.isList.typeIs PySem.slot_list_getitem.lookup ?_ (by with_unfolding_all rfl)
    refine wpAny_getItem_list_slice ht.isList isS .none .none (.int _ _) (by decide) ?_ (by rw [List.size_toArray]; omega)
    rw [PySem.W.krv_pick]
    have new := I5.laid (h' := h5.push { cls := .type "list", data := .seq its.toArray.toList.reverse.toArray }) (t' := s4.toks) (a := h5.objs.size) (o := .lst xs.reverse) (fun b ob q => Heap.get?_push_of_some _ q) (Nat.le_refl _)
      ⟨by rw [List.length_reverse]; exact hz, _, 0, r.reverse, Heap.get?_push_size _ rfl⟩
    obtain ⟨od, new2⟩ := new.lock upd_same trivial
    rw [upd_upd] at new2
    exact ⟨.ref _, _, new2, rfl, q _ od (I5.hok.fresh (Nat.le_refl _))⟩
  · obtain ⟨its, r, ht, hz⟩ := I5.tuple hx
    have hlen := r.length
    refine tail_any (ops := [.ref a, .ref s4.heap.objs.size]) ht.typeIs PyProof.Rows.slot_tuple_getitem.lookup ?_ (by with_unfolding_all rfl)
    refine getItem_tuple_back ht isS (by rw [List.size_toArray]; omega) ?_
    have new := I5.laid (h' := h5.push { cls := .type "tuple", data := .seq its.toArray.toList.reverse.toArray }) (t' := s4.toks) (a := h5.objs.size) (o := .tup xs.reverse) (fun b ob q => Heap.get?_push_of_some _ q) (Nat.le_refl _)
      ⟨by rw [List.length_reverse]; exact hz, _, r.reverse, ⟨_, Heap.get?_push_size _ rfl, rfl, 0, rfl⟩⟩
    exact ⟨.ref _, _, new, rfl, q _ (I5.hok.fresh (Nat.le_refl _))⟩
variable {ρ : Addr} {flds : List (Str × Str)} {G : Str → List Vl → M Vl} {W : XK} {C : Cmp}
theorem e_rev {a : Expr} {ca : CE} {k : Nat} {p1 p2 p3 pos : Pos} (ha : PE X a (TG' X ρ flds G W ca)) : PE X (.Subscript a (.Slice none none (some (.UnaryOp .USub (.Constant (.int 1) k p1) p2)) p3) pos) (TG' X ρ flds G W (.rev ca)) := by
  refine PE.imp (pe_revA ha) ?_
  rintro σ H Q ⟨env, st, he, hs, h⟩
  rw [ev] at h
  refine tG_of he hs h fun v st1 x H1 e1 s1 r1 he1 h1 => ?_
  obtain ⟨d, rfl, h2⟩ := Pst.asD h1
  cases d with
  | list ds =>
    cases r1.data with
    | @lst _ _ zs _ h3 h4 =>
      refine ⟨_, _, rfl, .inl ⟨sql_frz h3, fun p od hp => ?_⟩⟩
      have sm : Same H1 (upd H1 p (.frz od (.lst zs.reverse))) := same_new hp
      exact wd_of h2 e1 s1 _ _ sm (.lst upd_same (RepL.mono (samefz sm) _ _ h4.reverse))
  | tuple ds =>
    cases r1.data with
    | @tup _ zs _ h3 h4 =>
      refine ⟨_, _, rfl, .inr ⟨h3, fun p hp => ?_⟩⟩
      have sm : Same H1 (upd H1 p (.tup zs.reverse)) := same_new hp
      exact wd_of h2 e1 s1 _ _ sm (.tup (.of upd_same) (RepL.mono (samefz sm) _ _ h4.reverse))
  | _ => exact h2.elim
end
end PF
end
section
set_option Elab.async false
set_option linter.all false
set_option maxRecDepth 100000
set_option maxHeartbeats 4000000
/-! PFw: THE THEOREM for expressions. -/
namespace PF
open PySem PySem.Spec PyProof.Rows L2 PFS
section
variable {X : Cx} {ρ : Addr} {flds : List (Str × Str)} {G : Str → List Vl → M Vl} {W : XK} {C : Cmp}
theorem tst_ok {f : Expr → Option CE} (hf : ∀ e x, f e = some x → EOk X ρ flds G W e x) : ∀ {ifs : List Expr} {t : CE}, cTst f ifs = some t → PTs X ifs (tT (cOf X ρ flds) G W t)
  | [], t, h => by
    cases h
    refine PTs.imp pts_nil ?_
    rintro σ H Q ⟨env, st, he, hs, h⟩
    exact h H (Ext.refl _ _) hs
  | [e], t, h => pts_one (hf e t h).2
  | _ :: _ :: _, t, h => nomatch h
theorem cI_fold {C : Cmp} {f : Expr → Option CE} {tg iter : Expr} {src : CE} (h : cI C f tg iter = some src) (env : PySem.Env) (x : Value) : foldedSetIterable iter env x = pure x := by
  unfold cI at h
  split at h
  · exact fold_no rfl env x
  · split at h
    · cases h
    · rename_i hs
      simp only [Bool.or_eq_true, not_or, Bool.not_eq_true] at hs
      exact fold_no hs.1 env x
theorem cst_ok {c : Const} {k : Nat} {pos : Pos} {v : V} {d : D} (h : PE X (.Constant c k pos) (tC v)) (r : ∀ H, Rep X.K H v d) : EOk X ρ flds G W (.Constant c k pos) (.cst d) := both (e_cst h r) fun _ => rfl
theorem cE_ok : ∀ (n : Nat) (X : Cx) (W : XK) (C : Cmp), OkE G W ρ flds C X → ∀ e ce, cE n C e = some ce → EOk X ρ flds G W e ce
  | 0, _, _, _, _, _, _, h => nomatch h
  | n + 1, X, W, C, ok, e, ce, h => by
    have ih := fun e x h => cE_ok n X W C ok e x h
    have ih1 : ∀ e x, cE n C e = some x → PE X e (TG' X ρ flds G W x) := fun e x h => (ih e x h).1
    unfold cE at h
    split at h
    · cases h; exact cst_ok pe_int fun _ => .int _
    · cases h; exact cst_ok pe_str fun _ => .str _
    · cases h; exact cst_ok pe_bl fun _ => .bl _
    · cases h; exact cst_ok pe_non fun _ => .non
    · -- a name
      rename_i x pos
      split at h
      · cases h
      · rename_i hz
        simp only [Bool.or_eq_true, not_or, Bool.not_eq_true] at hz
        split at h
        · rename_i hv
          obtain ⟨i, hi, rfl⟩ := Option.map_eq_some_iff.mp h
          exact both (e_var ok hv hi hz.1 hz.2) fun _ => rfl
        · split at h
          · rename_i hg
            split at h
            · rename_i v hc
              cases h
              obtain ⟨y, u, hm, hr, hp⟩ := ok.cns x v hc
              exact both (e_cst (pe_glob (ok.glo hg) hm hr hz.1) hp) fun _ => rfl
            · split at h
              · rename_i hf
                cases h
                exact both (e_fnv ok hg hf hz.1) fun _ => rfl
              · cases h
          · cases h
    · obtain ⟨a, h1, rfl⟩ := Option.map_eq_some_iff.mp h
      exact both (e_tup (pa_L h1 fun d _ y => ih1 d y)) fun _ => rfl
    · obtain ⟨a, h1, rfl⟩ := Option.map_eq_some_iff.mp h
      exact both (e_of_o (o_lst (pa_L h1 fun d _ y => ih1 d y)) only_lst) fun _ => rfl
    · obtain ⟨a, h1, rfl⟩ := Option.map_eq_some_iff.mp h
      exact both (e_neg (ih1 _ _ h1)) fun _ => rfl
    · obtain ⟨a, h1, rfl⟩ := Option.map_eq_some_iff.mp h
      exact ⟨e_not (ih1 _ _ h1), t_not (ih _ _ h1).2⟩
    · obtain ⟨o, h1, h2⟩ := Option.bind_eq_some_iff.mp h
      obtain ⟨a, h3, h4⟩ := Option.bind_eq_some_iff.mp h2
      obtain ⟨b, h5, rfl⟩ := Option.map_eq_some_iff.mp h4
      exact both (e_bin h1 (ih1 _ _ h3) (ih1 _ _ h5)) fun _ => rfl
    · split at h
      · cases h
      · rename_i hb
        obtain ⟨o, h1, h2⟩ := Option.bind_eq_some_iff.mp h
        obtain ⟨a, h3, h4⟩ := Option.bind_eq_some_iff.mp h2
        obtain ⟨b, h5, rfl⟩ := Option.map_eq_some_iff.mp h4
        exact e_cmp ok h1 (by simpa using hb) (ih1 _ _ h3) (ih1 _ _ h5)
    · split at h
      · cases h
      · rename_i hb
        simp only [Bool.or_eq_true, not_or, Bool.not_eq_true] at hb
        obtain ⟨o, h1, h2⟩ := Option.bind_eq_some_iff.mp h
        obtain ⟨p, h3, h4⟩ := Option.bind_eq_some_iff.mp h2
        obtain ⟨a, h5, h6⟩ := Option.bind_eq_some_iff.mp h4
        obtain ⟨b, h7, h8⟩ := Option.bind_eq_some_iff.mp h6
        obtain ⟨c, h9, rfl⟩ := Option.map_eq_some_iff.mp h8
        exact e_chain ok h1 h3 hb.2 (ih1 _ _ h5) (ih1 _ _ h7) (ih1 _ _ h9)
    · rename_i op es pos
      cases op with
      | And =>
        obtain ⟨i1, i2⟩ := b_and (pos := pos) ih h
        exact ⟨i1, i2.pt⟩
      | Or =>
        obtain ⟨i1, i2⟩ := b_or (pos := pos) ih h
        exact ⟨i1, i2.pt⟩
    · obtain ⟨c, h1, h2⟩ := Option.bind_eq_some_iff.mp h
      obtain ⟨a, h3, h4⟩ := Option.bind_eq_some_iff.mp h2
      obtain ⟨b, h5, rfl⟩ := Option.map_eq_some_iff.mp h4
      exact ⟨e_ite (ih _ _ h1).2 (ih1 _ _ h3) (ih1 _ _ h5), t_ite (ih _ _ h1).2 (ih _ _ h3).2 (ih _ _ h5).2⟩
    · -- a slice
      rename_i a lo hi p2 pos
      obtain ⟨ca, h1, h2⟩ := Option.bind_eq_some_iff.mp h
      obtain ⟨cl, h3, h4⟩ := Option.bind_eq_some_iff.mp h2
      obtain ⟨ch, h5, rfl⟩ := Option.map_eq_some_iff.mp h4
      have pl : PO X lo (tB' (cOf X ρ flds) G W lo.isSome cl) := by
        cases lo with
        | none => cases h3; exact po_n
        | some e => exact po_s (ih1 _ _ h3)
      have ph : PO X hi (tB' (cOf X ρ flds) G W hi.isSome ch) := by
        cases hi with
        | none => cases h5; exact po_n
        | some e => exact po_s (ih1 _ _ h5)
      exact both (e_slc (ih1 _ _ h1) pl ph) fun _ => rfl
    · obtain ⟨a, h1, rfl⟩ := Option.map_eq_some_iff.mp h
      exact both (e_rev (ih1 _ _ h1)) fun _ => rfl
    · split at h
      · cases h
      · rename_i hb
        simp only [Bool.or_eq_true, not_or, Bool.not_eq_true] at hb
        obtain ⟨a, h1, h2⟩ := Option.bind_eq_some_iff.mp h
        obtain ⟨b, h3, rfl⟩ := Option.map_eq_some_iff.mp h2
        exact both (e_sub hb.1 (ih1 _ _ h1) (ih1 _ _ h3)) fun _ => rfl
    · split at h
      · rename_i hz
        simp only [Bool.and_eq_true, Bool.not_eq_true'] at hz
        exact both (cCall_ok ok ih1 hz.1.1 hz.1.2 (fun e => by rw [e] at hz; exact absurd hz.2 (by decide +kernel)) h) fun _ => rfl
      · cases h
    · split at h
      · rename_i hz
        cases h
        simp only [Bool.and_eq_true, Bool.not_eq_true'] at hz
        exact both (e_call0 ok hz.1.1 hz.2 hz.1.2) fun _ => rfl
      · cases h
    · -- one clause
      split at h
      · rename_i elt tg iter ifs scope pos hb
        obtain ⟨src, h1, h2⟩ := Option.bind_eq_some_iff.mp h
        obtain ⟨g, h3, h4⟩ := Option.bind_eq_some_iff.mp h2
        obtain ⟨t, h5, h6⟩ := Option.bind_eq_some_iff.mp h4
        obtain ⟨y, h7, h8⟩ := Option.bind_eq_some_iff.mp h6
        split at h8
        · rename_i hs
          cases h8
          obtain ⟨i1, i2⟩ := cI_ok ok ih1 h1
          have okB : BlkOk X.N X.env.scope scope (ownOf C.N scope.names) := by
            rw [ok.N, ok.sc]
            exact blkOk_by hb
          have blk := fun s H Cc cl fp => ok.blk s H scope cl Cc fp
          have p := pe_lc (wi := tI (cOf X ρ flds) G W src) (g := gT (cOf X ρ flds) g) (tt := tT (cOf X ρ flds) G NoX t) (te := tG (cOf X ρ flds) G NoX y) (pos := pos) ok.calm ok.nd i1 okB (fun s H Cc cl fp => g_ok (blk s H Cc cl fp) tg g h3) (fun s H Cc cl fp => tst_ok (fun e x h => cE_ok n _ NoX _ (blk s H Cc cl fp) e x h) h5) (fun s H Cc cl fp => (cE_ok n _ NoX _ (blk s H Cc cl fp) elt y h7).1) (fun x => i2 X.env x)
          refine both (e_of_o (PE.imp p fun σ H Q h => ?_) only_lc) fun _ => rfl
          exact o_lc (elt := elt) (tg := tg) (iter := iter) (ifs := ifs) (scope := scope) (pos := pos) (subL_ok hs) h
        · cases h8
      · cases h
    · split at h
      · rename_i elt tg iter ifs tg2 iter2 ifs2 scope pos hb
        obtain ⟨src, h1, h2⟩ := Option.bind_eq_some_iff.mp h
        obtain ⟨g, h3, h4⟩ := Option.bind_eq_some_iff.mp h2
        obtain ⟨t, h5, h6⟩ := Option.bind_eq_some_iff.mp h4
        obtain ⟨src2, h7, h8⟩ := Option.bind_eq_some_iff.mp h6
        obtain ⟨g2, h9, h10⟩ := Option.bind_eq_some_iff.mp h8
        obtain ⟨t2, h11, h12⟩ := Option.bind_eq_some_iff.mp h10
        obtain ⟨y, h13, h14⟩ := Option.bind_eq_some_iff.mp h12
        split at h14
        · rename_i hs
          simp only [Bool.and_eq_true] at hs
          cases h14
          obtain ⟨i1, i2⟩ := cI_ok ok ih1 h1
          have okB : BlkOk X.N X.env.scope scope (ownOf C.N scope.names) := by
            rw [ok.N, ok.sc]
            exact blkOk_by hb
          have blk := fun s H Cc cl fp => ok.blk s H scope cl Cc fp
          have ihb := fun s H Cc cl fp e x h => cE_ok n _ NoX _ (blk s H Cc cl fp) e x h
          have j := fun s H Cc cl fp => cI_ok (blk s H Cc cl fp) (fun e x h => (ihb s H Cc cl fp e x h).1) h7
          have p := pe_lc2 (wi := tI (cOf X ρ flds) G W src) (g := gT (cOf X ρ flds) g) (tt := tT (cOf X ρ flds) G NoX t) (wi1 := tI (cOf X ρ flds) G NoX src2) (g1 := gT (cOf X ρ flds) g2) (tt1 := tT (cOf X ρ flds) G NoX t2) (te := tG (cOf X ρ flds) G NoX y) (pos := pos) ok.calm ok.nd i1 okB (subL_ok hs.2) (fun s H Cc cl fp => g_ok (blk s H Cc cl fp) tg g h3) (fun s H Cc cl fp => tst_ok (ihb s H Cc cl fp) h5) (fun s H Cc cl fp => (j s H Cc cl fp).1)
            (fun s H Cc cl fp => g_ok (blk s H Cc cl fp) tg2 g2 h9) (fun s H Cc cl fp => tst_ok (ihb s H Cc cl fp) h11) (fun s H Cc cl fp => (ihb s H Cc cl fp elt y h13).1) (fun x => i2 X.env x) (fun env x => cI_fold h7 env x)
          refine both (e_of_o (PE.imp p fun σ H Q h => ?_) only_lc2) fun _ => rfl
          exact o_lc2 (elt := elt) (tg := tg) (iter := iter) (tg2 := tg2) (iter2 := iter2) (subL_ok hs.1) (subL_ok hs.2) h
        · cases h14
      · cases h
    · cases h
end
end PF
end
section
set_option Elab.async false
set_option linter.all false
set_option maxRecDepth 100000
set_option maxHeartbeats 4000000
/-! PFx: the state between statements; stores. -/
namespace PF
open PySem PySem.Spec PyProof.Rows L2 PFS
/-- a place that an extension of H0 leaves free -/
def Frs (c : Cw) (H0 : Hp) (a : Addr) : Prop := ∀ o, H0 a = some o → ¬ (Fz o ∨ (a ≠ c.ρ ∧ NoTbl o))
section
variable {c : Cw} {H0 H H1 : Hp} {σ : L2.St} {env : Env} {st st1 : St} {p a : Addr} {o : HO}
theorem Frs.none (h : H p = none) : Frs c H p := fun o q z => by rw [h] at q; cases q
theorem Frs.ext (e : Ext c.ρ H0 H) (h : Frs c H p) : Frs c H0 p := fun o q z => h o (e p o q z) z
theorem Frs.not {xs : List V} (h : Frs c H p) (hp : p ≠ c.ρ) (q : H p = some (.lst xs)) : False := h _ q (.inr ⟨hp, fun _ z => nomatch z⟩)
theorem Ext.put (f : Frs c H0 a) (e : Ext c.ρ H0 H) : Ext c.ρ H0 (upd H a o) := fun b u q z => by
  have hb : b ≠ a := fun w => f u (by rw [← w]; exact q) (by rw [← w]; exact z)
  rw [upd_ne hb]
  exact e b u q z
/-- between two statements -/
structure Good (c : Cw) (H0 H : Hp) (σ : L2.St) (env : Env) (st : St) : Prop where
  re : RepEnv c H σ env
  frs : ∀ (i : Nat) (y : D) (v : V), env[i]? = some (some (.own y)) → σ[i]? = some (some v) → ∃ a, v = .ref a ∧ Frs c H0 a
  ext : Ext c.ρ H0 H
  sts : RepSt c H st
theorem Good.mono (g : Good c H0 H σ env st) (e : Ext c.ρ H H1) (s : RepSt c H1 st1) : Good c H0 H1 σ env st1 := ⟨g.re.mono e, g.frs, g.ext.trans e, s⟩
theorem Good.set (g : Good c H0 H σ env st) (i : Nat) {x : V} {v : Vl} (r : RepV c H x v) (no : ∀ y, v ≠ .own y) : Good c H0 H (σ.set i (some x)) (env.set i (some v)) st := by
  refine ⟨g.re.set i r no, fun j y w h1 h2 => ?_, g.ext, g.sts⟩
  rcases set_some h1 with ⟨rfl, e, _⟩ | ⟨hj, e⟩
  · exact (no y e.symm).elim
  · rw [List.getElem?_set_ne hj] at h2
    exact g.frs j y w e h2
theorem Good.setO (g : Good c H0 H σ env st) (i : Nat) {y : D} (r : RepV c H (.ref p) (.own y)) (f : Frs c H0 p) (ap : ∀ (j : Nat) (z : D), j ≠ i → env[j]? = some (some (.own z)) → σ[j]? ≠ some (some (.ref p))) :
    Good c H0 H (σ.set i (some (.ref p))) (env.set i (some (.own y))) st := by
  refine ⟨g.re.setW i r fun _ _ j z hj e => ap j z hj e, fun j z w h1 h2 => ?_, g.ext, g.sts⟩
  rcases set_some h1 with ⟨rfl, e, hi⟩ | ⟨hj, e⟩
  · rw [List.getElem?_set_self (by rw [← g.re.len]; exact hi)] at h2
    cases h2
    exact ⟨p, rfl, f⟩
  · rw [List.getElem?_set_ne hj] at h2
    exact g.frs j z w e h2
theorem fz_of {xs : List V} (h : H a = some (.lst xs)) (o : HO) : FzE H (upd H a o) := fun b u e f => by
  by_cases q : b = a
  · rw [q, h] at e
    cases e
    exact f.elim
  · rw [upd_ne q]
    exact e
/-- the own list at i is changed or frozen -/
theorem Good.put (g : Good c H0 H σ env st) {i : Nat} {ds : List D} {xs : List V} {o : HO} {v : Vl} (h : env[i]? = some (some (.own (.list ds)))) (hs : σ[i]? = some (some (.ref a))) (hr : a ≠ c.ρ) (ha : H a = some (.lst xs))
    (r : RepV c (upd H a o) (.ref a) v) : Good c H0 (upd H a o) σ (env.set i (some v)) st := by
  obtain ⟨a', e1, f⟩ := g.frs i _ _ h hs
  cases e1
  have hlt : i < env.length := (List.getElem?_eq_some_iff.mp h).1
  have old : ∀ {j : Nat} {w : Vl}, i ≠ j → env[j]? = some (some w) → ∃ x, σ[j]? = some (some x) ∧ RepV c (upd H a o) x w := fun {j w} hj e => by
    obtain ⟨x, e2, rx⟩ := g.re.at_ j w e
    refine ⟨x, e2, ?_⟩
    cases rx with
    | d rx => exact .d (Rep.mono (fz_of ha o) _ _ rx)
    | @own a2 xs2 ds2 k1 k2 k3 =>
      have hne : a2 ≠ a := fun z => g.re.apart i j _ _ _ hj h e hs (by rw [e2, z])
      exact .own k1 (by rw [upd_ne hne]; exact k2) (RepL.mono (fz_of ha o) _ _ k3)
    | cup => exact .cup
    | fn x => exact .fn x
  refine ⟨⟨by rw [List.length_set]; exact g.re.len, fun j w e => ?_, fun j k y z u hjk e1 e2 e3 => ?_⟩, fun j y w h1 h2 => ?_, g.ext.put f, ?_⟩
  · rcases set_some e with ⟨rfl, rfl, _⟩ | ⟨hj, e⟩
    · exact ⟨_, hs, r⟩
    · exact old hj e
  · rcases set_some e1 with ⟨rfl, _, _⟩ | ⟨hj, f1⟩
    · rcases set_some e2 with ⟨rfl, _, _⟩ | ⟨hk, f2⟩
      · exact (hjk rfl).elim
      · exact g.re.apart i k _ z u hjk h f2 e3
    · rcases set_some e2 with ⟨rfl, _, _⟩ | ⟨hk, f2⟩
      · exact g.re.apart j i y _ u hjk f1 h e3
      · exact g.re.apart j k y z u hjk f1 f2 e3
  · rcases set_some h1 with ⟨rfl, _, _⟩ | ⟨hj, e⟩
    · exact g.frs i _ _ h h2
    · exact g.frs j y w e h2
  · unfold RepSt
    rw [upd_ne (Ne.symm hr)]
    exact g.sts
end
/-- what is wanted behind a statement -/
def Kn (c : Cw) (H0 : Hp) (D : Ends) : Fl → St → Prop
  | .nx env', st' => ∀ σ' H', Good c H0 H' σ' env' st' → D.nx σ' H'
  | .rt v, st' => ∀ x H', Ext c.ρ H0 H' → RepSt c H' st' → RepV c H' x v → D.rt x H'
def tS (c : Cw) (G : Str → List Vl → M Vl) (W : XK) (s : CS) : TS := fun D σ H => ∃ H0 env st, Good c H0 H σ env st ∧ Pst c H0 W (Kn c H0 D) (ex G s env st)
section
variable {X : Cx} {ρ : Addr} {flds : List (Str × Str)} {G : Str → List Vl → M Vl} {W : XK} {C : Cmp}
theorem s_nil : PSs X [] (tS (cOf X ρ flds) G W .nop) := by
  refine PSs.imp pss_nil ?_
  rintro D σ H ⟨H0, env, st, g, h⟩
  rw [ex] at h
  exact h σ H g
theorem s_seq {s : Stmt} {rest : List Stmt} {a b : CS} (h1 : PS X s (tS (cOf X ρ flds) G W a)) (h2 : PSs X rest (tS (cOf X ρ flds) G W b)) : PSs X (s :: rest) (tS (cOf X ρ flds) G W (.seq a b)) := by
  refine PSs.imp (pss_cons h1 h2) ?_
  rintro D σ H ⟨H0, env, st, g, h⟩
  rw [ex] at h
  refine ⟨H0, env, st, g, (Pst.bd h).mono fun fl st' q => ?_⟩
  cases fl with
  | nx e => exact fun σ' H' g' => ⟨H0, e, st', g', q⟩
  | rt v => exact q
theorem thaw_or (env : Env) (i : Nat) : (∃ x, env[i]? = some (some (.own x)) ∧ thaw env i = ret (env.set i (some (.d x)))) ∨ thaw env i = ret env := by
  unfold thaw
  rcases e : env[i]? with _ | _ | v
  · exact .inr rfl
  · exact .inr rfl
  · cases v with
    | own x => exact .inl ⟨x, rfl, rfl⟩
    | _ => exact .inr rfl
theorem s_frz {s : Stmt} {i : Nat} {b : CS} (h : PS X s (tS (cOf X ρ flds) G W b)) : PS X s (tS (cOf X ρ flds) G W (.seq (.frz i) b)) := by
  refine ⟨fun pins s σ H D I hw => ?_⟩
  obtain ⟨H0, env, st, g, hp⟩ := hw
  rw [ex, ex] at hp
  have hp := Pst.bd (Pst.bd hp)
  rcases thaw_or env i with ⟨x, e1, e⟩ | e
  · rw [e] at hp
    obtain ⟨y, e2, r⟩ := g.re.at_ i _ e1
    cases r with
    | @own a xs ds h1 h2 h3 =>
      obtain ⟨od, I1⟩ := I.lock h2 trivial
      refine h.run pins s σ _ D I1 ⟨H0, _, st, g.put e1 e2 h1 h2 (.d (.lst upd_same (RepL.mono (fz_of h2 _) _ _ h3))), hp⟩
  · rw [e] at hp
    exact h.run pins s σ H D I ⟨H0, env, st, g, hp⟩
theorem s_thaw {s : Stmt} {b : CS} (h : PS X s (tS (cOf X ρ flds) G W b)) : ∀ {l : List Nat}, PS X s (tS (cOf X ρ flds) G W (thawAll C l b))
  | [] => h
  | i :: r => by
    unfold thawAll
    split
    · exact s_frz (s_thaw h)
    · exact s_thaw h
theorem B_ok {f : Stmt → Option CS} : ∀ {l : List Stmt} {b : CS}, (∀ s ∈ l, ∀ y, f s = some y → PS X s (tS (cOf X ρ flds) G W y)) → cB f l = some b → PSs X l (tS (cOf X ρ flds) G W b)
  | [], b, _, h => by
    cases h
    exact s_nil
  | [s], b, hf, h => pss_one (hf s List.mem_cons_self b h)
  | s :: s2 :: r, b, hf, h => by
    rw [cB] at h
    · obtain ⟨a, h1, h2⟩ := Option.bind_eq_some_iff.mp h
      obtain ⟨b, h3, rfl⟩ := Option.map_eq_some_iff.mp h2
      exact s_seq (hf s List.mem_cons_self a h1) (B_ok (fun s hs => hf s (List.mem_cons_of_mem _ hs)) h3)
    · exact fun z => nomatch z
/-! ### small ones -/
theorem s_nop {s : Stmt} (h : PS X s tNext) : PS X s (tS (cOf X ρ flds) G W .nop) := by
  refine PS.imp h ?_
  rintro D σ H ⟨H0, env, st, g, h⟩
  rw [ex] at h
  exact h σ H g
theorem s_exp {e : Expr} {ce : CE} {pos : Pos} (he : PE X e (TG' X ρ flds G W ce)) (hl : isLc e = false) : PS X (.Expr e pos) (tS (cOf X ρ flds) G W (.exp ce)) := by
  have hs : swapsWith e none pos.line X.env = pure false := by cases e <;> first | rfl | cases hl
  refine PS.imp (ps_expr he hs) ?_
  rintro D σ H ⟨H0, env, st, g, h⟩
  rw [ex] at h
  exact tG_of g.re g.sts (Pst.rebase h g.ext) fun v st1 x H1 e1 s1 r1 _ h1 => h1 σ H1 (g.mono e1 s1)
theorem s_ret {e : Expr} {ce : CE} {pos : Pos} (he : PE X e (TG' X ρ flds G W ce)) : PS X (.Return (some e) pos) (tS (cOf X ρ flds) G W (.ret ce)) := by
  refine PS.imp (ps_ret he) ?_
  rintro D σ H ⟨H0, env, st, g, h⟩
  rw [ex] at h
  refine tG_of g.re g.sts (Pst.rebase h g.ext) fun v st1 x H1 e1 s1 r1 _ h1 => ?_
  obtain ⟨_, q⟩ := Pst.nown (Pst.bd h1)
  exact q x H1 (g.ext.trans e1) s1 r1
theorem s_retN {pos : Pos} : PS X (.Return none pos) (tS (cOf X ρ flds) G W .retN) := by
  refine PS.imp ps_retN ?_
  rintro D σ H ⟨H0, env, st, g, h⟩
  rw [ex] at h
  exact h .non H g.ext g.sts (.d .non)
theorem s_if {c : Expr} {a b : List Stmt} {cc : CE} {ca cb : CS} {pos : Pos} (hc : PT X c (tT (cOf X ρ flds) G W cc)) (ha : PSs X a (tS (cOf X ρ flds) G W ca)) (hb : PSs X b (tS (cOf X ρ flds) G W cb)) :
    PS X (.If c a b pos) (tS (cOf X ρ flds) G W (.ite cc ca cb)) := by
  refine PS.imp (ps_if hc ha hb) ?_
  rintro D σ H ⟨H0, env, st, g, h⟩
  rw [ex] at h
  refine ⟨env, st, g.re, g.sts, ?_⟩
  have h' : Pst (cOf X ρ flds) H0 W (Kn (cOf X ρ flds) H0 D) (bd (bd (ev G cc env) truth) (fun t => if t = true then ex G ca env else ex G cb env) st) := by
    rw [bd_assoc]
    exact h
  refine Pst.rebase (H := H0) ((Pst.bd h').mono fun t st1 q H1 e1 s1 => ?_) g.ext
  cases t with
  | true =>
    simp only [if_true] at q ⊢
    exact ⟨H0, env, st1, g.mono e1 s1, q⟩
  | false =>
    simp only [Bool.false_eq_true, if_false] at q ⊢
    exact ⟨H0, env, st1, g.mono e1 s1, q⟩
end
end PF
end
section
set_option Elab.async false
set_option linter.all false
set_option maxRecDepth 100000
set_option maxHeartbeats 4000000
/-! PFy: loops, tuple stores, append, o[i] = v. -/
namespace PF
open PySem PySem.Spec PyProof.Rows L2 PFS
section
variable {X : Cx} {ρ : Addr} {flds : List (Str × Str)} {G : Str → List Vl → M Vl} {W : XK} {C : Cmp}
theorem Good.bind {c : Cw} {H0 H : Hp} {σ σ' : L2.St} {env env' : Env} {st : St} {g : Tg} {v : Vl} (k : Good c H0 H σ env st) (hb : bindT g v env = some env') (he : RepEnv c H σ' env') (ho : ∀ i, i ∉ g.ixs → σ'[i]? = σ[i]?) : Good c H0 H σ' env' st := by
  refine ⟨he, fun i y w h1 h2 => ?_, k.ext, k.sts⟩
  obtain ⟨n, e⟩ := bindT_own hb i y h1
  rw [ho i n] at h2
  exact k.frs i y w e h2
theorem s_asg {tg e : Expr} {g : Tg} {ce : CE} {pos : Pos} (he : PE X e (TG' X ρ flds G W ce)) (hg : PG X tg (gT (cOf X ρ flds) g)) (hs : swapsWithSole [tg] e pos.line X.env = pure false) (hw : swappedStores [tg] e X.env = pure none)
    (h1 : (assignEach [tg] X.env).map (·.2) = [assign tg X.env]) : PS X (.Assign [tg] e pos) (tS (cOf X ρ flds) G W (.asg g ce)) := by
  refine PS.imp (ps_asg he hg hs hw h1) ?_
  rintro D σ H ⟨H0, env, st, k, h⟩
  rw [ex] at h
  refine tG_of k.re k.sts (Pst.rebase h k.ext) fun v st1 x H1 e1 s1 r1 _ h1 => ?_
  obtain ⟨env', hb, q⟩ := Pst.opt (Pst.bd h1)
  exact ⟨env, v, env', k.re.mono e1, r1, hb, fun σ' he' ho _ => q σ' H1 ((k.mono e1 s1).bind hb he' ho)⟩
open Classical in
/-- H0 with what is frozen by now -/
noncomputable def fz1 (c : Cw) (H0 H1 : Hp) : Hp := fun b => if ∃ o, H1 b = some o ∧ (Fz o ∨ ∃ u, H0 b = some u ∧ (Fz u ∨ (b ≠ c.ρ ∧ NoTbl u))) then H1 b else none
theorem fz1_some {c : Cw} {H0 H1 : Hp} {b : Addr} {o : HO} (h : fz1 c H0 H1 b = some o) : H1 b = some o ∧ (Fz o ∨ ∃ u, H0 b = some u ∧ (Fz u ∨ (b ≠ c.ρ ∧ NoTbl u))) := by
  unfold fz1 at h
  split at h
  · rename_i z
    obtain ⟨o', e, z⟩ := z
    rw [e] at h
    cases h
    exact ⟨e, z⟩
  · cases h
theorem fz1_of {c : Cw} {H0 H1 : Hp} {b : Addr} {o : HO} (e : H1 b = some o) (z : Fz o ∨ ∃ u, H0 b = some u ∧ (Fz u ∨ (b ≠ c.ρ ∧ NoTbl u))) : fz1 c H0 H1 b = some o := by
  unfold fz1
  rw [if_pos ⟨o, e, z⟩]
  exact e
theorem fz1_ext {c : Cw} {H0 H1 : Hp} (e : Ext c.ρ H0 H1) : Ext c.ρ H0 (fz1 c H0 H1) := fun b o q z => fz1_of (e b o q z) (.inr ⟨o, q, z⟩)
theorem fz1_fz {c : Cw} {H0 H1 : Hp} : FzE H1 (fz1 c H0 H1) := fun b o q z => fz1_of q (.inl z)
theorem Good.fz1 {c : Cw} {H0 H : Hp} {σ : L2.St} {env : Env} {st : St} (g : Good c H0 H σ env st) : Good c (fz1 c H0 H) H σ env st := by
  refine ⟨g.re, fun i y v h1 h2 => ?_, fun b o q _ => (fz1_some q).1, g.sts⟩
  obtain ⟨a, rfl, f⟩ := g.frs i y v h1 h2
  refine ⟨a, rfl, fun o q _ => ?_⟩
  obtain ⟨x, e, r⟩ := g.re.at_ i _ h1
  rw [h2] at e
  cases e
  obtain ⟨e1, e2⟩ := fz1_some q
  cases r with
  | own k1 k2 k3 =>
    rw [k2] at e1
    cases e1
    rcases e2 with z | ⟨u, e3, z⟩
    · exact z.elim
    · exact f u e3 z
theorem Good.back {c : Cw} {H0 H1 H : Hp} {σ : L2.St} {env : Env} {st : St} (e : Ext c.ρ H0 H1) (g : Good c H1 H σ env st) : Good c H0 H σ env st :=
  ⟨g.re, fun i y v h1 h2 => let ⟨a, e1, f⟩ := g.frs i y v h1 h2; ⟨a, e1, f.ext e⟩, e.trans g.ext, g.sts⟩
theorem Kn.fwd {c : Cw} {H0 H1 : Hp} {D : Ends} (e : Ext c.ρ H0 H1) : ∀ (fl : Fl) (st : St), Kn c H0 D fl st → Kn c H1 D fl st
  | .nx _, _, h => fun σ' H' g => h σ' H' (g.back e)
  | .rt _, _, h => fun x H' e1 s r => h x H' (e.trans e1) s r
theorem s_for {tg iter : Expr} {body : List Stmt} {g : Tg} {src : CE} {b : CS} {pos : Pos} (hp : PassesOwn (model X.prog X.w) X.A X.env X.xe) (hc : X.calm = true) (hi : PI X tg iter (tI (cOf X ρ flds) G W src)) (hg : PG X tg (gT (cOf X ρ flds) g))
    (hb : PSs X body (tS (cOf X ρ flds) G W b)) (hs : ∀ x, foldedSetIterable iter X.env x = pure x) : PS X (.For tg iter body [] pos) (tS (cOf X ρ flds) G W (.for_ g src b)) := by
  refine PS.imp (ps_for hp hc hi hg hb hs) ?_
  rintro Dd σ H ⟨H0, env, st, k, h⟩
  rw [ex] at h
  refine ⟨env, st, k.re, k.sts, Pst.rebase (H := H0) ((Pst.bd h).mono fun w st1 h1 => ?_) k.ext⟩
  obtain ⟨xs, rfl, h2⟩ := Pst.asL h1
  refine ⟨xs, rfl, fun H1 e1 s1 J Gd wd g1 => ?_⟩
  generalize hF : (fun x e => bd (opt (bindT g (.d x) e)) fun e' => ex G b e' : D → Env → M Fl) = F
  have h2 : Pst (cOf X ρ flds) H0 W (Kn (cOf X ρ flds) H0 Dd) (forLoop F xs env st1) := by
    rw [← hF]
    exact h2
  have k1 := k.mono e1 s1
  generalize eH2 : fz1 (cOf X ρ flds) H0 H1 = H2
  have e02 : Ext ρ H0 H2 := by rw [← eH2]; exact fz1_ext (c := cOf X ρ flds) k1.ext
  have e12 : FzE H1 H2 := by rw [← eH2]; exact fz1_fz
  have k2 := k1.fz1
  rw [eH2] at k2
  have h3 : Pst (cOf X ρ flds) H2 W (Kn (cOf X ρ flds) H2 Dd) (forLoop F xs env st1) := Pst.rebase (c := cOf X ρ flds) (h2.mono (Kn.fwd e02)) e02
  refine ⟨fun i m σ' H' => m = xs.length - i ∧ i ≤ xs.length ∧ ∃ env' st', Good (cOf X ρ flds) H2 H' σ' env' st' ∧ Pst (cOf X ρ flds) H2 W (Kn (cOf X ρ flds) H2 Dd) (forLoop F (xs.drop i) env' st'),
    ⟨_, rfl, Nat.zero_le _, env, st1, k2, h3⟩, ?_⟩
  rintro i m σ' H' ⟨rfl, hi', env', st', k', h4⟩
  have g' : Gd H' := wd.keep _ _ (fun b o q z => k'.ext.fz b o (e12 b o q z) z) g1
  rcases Nat.lt_or_ge i xs.length with hlt | hge
  · right
    rw [List.drop_eq_getElem_cons hlt] at h4
    refine ⟨wd.walk.goes i H' hlt g', fun σ3 H3 => ∃ env3 st3, Good (cOf X ρ flds) H2 H3 σ3 env3 st3 ∧ Pst (cOf X ρ flds) H2 W (Kn (cOf X ρ flds) H2 Dd) (forLoop F (xs.drop (i + 1)) env3 st3), fun σ3 H3 z => ⟨xs.length - (i + 1), by omega, rfl, hlt, z⟩, fun x H3 y => ?_⟩
    obtain ⟨sm, d, ed, rd⟩ := wd.walk.yields i H' x H3 hlt g' y
    have ed2 : xs[i] = d := by
      rw [List.getElem?_eq_getElem hlt] at ed
      exact Option.some.inj ed
    rw [ed2] at h4
    have k3 := k'.mono (Ext.of (ρ := (cOf X ρ flds).ρ) sm) (sm _ _ k'.sts)
    have h5 := Pst.bd h4
    rw [← hF] at h5
    obtain ⟨env3, hb3, h6⟩ := Pst.opt (Pst.bd h5)
    refine ⟨env', .d d, env3, k3.re, .d rd, hb3, fun σ3 he3 ho3 _ => ⟨H2, env3, st', k3.bind hb3 he3 ho3, h6.mono fun fl st4 q => ?_⟩⟩
    rw [hF] at q
    cases fl with
    | rt v => exact q
    | nx e4 => exact fun σ4 H4 k4 => ⟨e4, st4, k4, q⟩
  · left
    obtain rfl : i = xs.length := by omega
    rw [List.drop_length] at h4
    exact ⟨wd.walk.stops H' g', h4 σ' H' k'⟩
theorem s_while {t : Expr} {body : List Stmt} {ct : CE} {b : CS} {pos : Pos} (hp : PassesOwn (model X.prog X.w) X.A X.env X.xe) (hc : PT X t (tT (cOf X ρ flds) G W ct)) (hb : PSs X body (tS (cOf X ρ flds) G W b)) : PS X (.While t body [] pos) (tS (cOf X ρ flds) G W (.whl ct b)) := by
  refine PS.imp (ps_while hp hc hb) ?_
  rintro Dd σ H ⟨H0, env, st, k, h⟩
  rw [ex] at h
  refine ⟨fun m σ' H' => ∃ env' st', Good (cOf X ρ flds) H0 H' σ' env' st' ∧ Pst (cOf X ρ flds) H0 W (Kn (cOf X ρ flds) H0 Dd) (whileLoop (fun e => bd (ev G ct e) truth) (fun e => ex G b e) m env' st'), ⟨_, env, st, k, h⟩, ?_⟩
  rintro m σ' H' ⟨env', st', k', h1⟩
  cases m with
  | zero => exact h1.elim
  | succ m =>
    refine ⟨env', st', k'.re, k'.sts, Pst.rebase (H := H0) ((Pst.bd h1).mono fun t st1 q H1 e1 s1 => ?_) k'.ext⟩
    have k1 := k'.mono e1 s1
    cases t with
    | true =>
      simp only [if_true] at q ⊢
      refine ⟨fun σ2 H2 => ∃ env2 st2, Good (cOf X ρ flds) H0 H2 σ2 env2 st2 ∧ Pst (cOf X ρ flds) H0 W (Kn (cOf X ρ flds) H0 Dd) (whileLoop (fun e => bd (ev G ct e) truth) (fun e => ex G b e) m env2 st2), fun σ2 H2 z => ⟨m, Nat.lt_succ_self _, z⟩, H0, env', st1, k1, (Pst.bd q).mono fun fl st2 q => ?_⟩
      cases fl with
      | rt v => exact q
      | nx e2 => exact fun σ2 H2 k2 => ⟨e2, st2, k2, q⟩
    | false =>
      simp only [Bool.false_eq_true, if_false] at q ⊢
      exact q σ' H1 k1
end
end PF
end
section
set_option Elab.async false
set_option linter.all false
set_option maxRecDepth 100000
set_option maxHeartbeats 4000000
/-! PFz: name stores; one's own lists; append; o[i] = v. -/
namespace PF
open PySem PySem.Spec PyProof.Rows L2 PFS
section
variable {X : Cx} {ρ : Addr} {flds : List (Str × Str)} {G : Str → List Vl → M Vl} {W : XK} {C : Cmp}
/-- a display: as one's own, and its answer is a list -/
structure DOk (X : Cx) (ρ : Addr) (flds : List (Str × Str)) (G : Str → List Vl → M Vl) (W : XK) (e : Expr) (ce : CE) : Prop where
  pe : PE X e (tO (cOf X ρ flds) G W ce)
  only : ∀ env st, OnlyL (ev G ce env st)
/-- values of a store, one's own among them: new since H -/
inductive RepP (c : Cw) (H H' : Hp) : List V → List Vl → Prop
  | nil : RepP c H H' [] []
  | cons {x : V} {xs : List V} {v : Vl} {vs : List Vl} : RepV c H' x v → (∀ y, v = .own y → ∃ a, x = .ref a ∧ Frs c H a ∧ ∀ (j : Nat) (z : D), vs[j]? = some (.own z) → xs[j]? ≠ some (.ref a)) → RepP c H H' xs vs → RepP c H H' (x :: xs) (v :: vs)
theorem RepP.back {c : Cw} {H H1 H' : Hp} (e : Ext c.ρ H H1) : ∀ {xs : List V} {vs : List Vl}, RepP c H1 H' xs vs → RepP c H H' xs vs
  | _, _, .nil => .nil
  | _, _, .cons r o t => .cons r (fun y h => let ⟨a, e1, f, k⟩ := o y h; ⟨a, e1, f.ext e, k⟩) (RepP.back e t)
theorem RepP.frs {c : Cw} {H H' : Hp} : ∀ {xs : List V} {vs : List Vl}, RepP c H H' xs vs → ∀ (j : Nat) (z : D) (x : V), vs[j]? = some (.own z) → xs[j]? = some x → ∃ a, x = .ref a ∧ Frs c H a
  | _, _, .nil, j, z, x, h, _ => by cases j <;> cases h
  | _, _, .cons r o t, 0, z, x, h, hx => by
    cases h
    cases hx
    obtain ⟨a, e1, f, _⟩ := o z rfl
    exact ⟨a, e1, f⟩
  | _, _, .cons r o t, j + 1, z, x, h, hx => RepP.frs t j z x h hx
def setV : List (Bool × Nat × CE) → List V → L2.St → L2.St
  | p :: r, x :: xs, σ => setV r xs (σ.set p.2.1 (some x))
  | _, _, σ => σ
theorem Good.setP {c : Cw} {H0 H H' : Hp} (e0 : Ext c.ρ H0 H) : ∀ (l : List (Bool × Nat × CE)) {xs : List V} {vs : List Vl} {σ : L2.St} {env : Env} {st : St}, Good c H0 H' σ env st → RepP c H H' xs vs →
    (∀ (i : Nat) (y : D) (v : V), env[i]? = some (some (.own y)) → σ[i]? = some (some v) → ∀ (j : Nat) (z : D), vs[j]? = some (.own z) → xs[j]? ≠ some v) → Good c H0 H' (setV l xs σ) (PF.setP l vs env) st
  | [], _, _, _, _, _, g, r, _ => by
    cases r <;> exact g
  | p :: l, _, _, _, _, _, g, .nil, _ => g
  | p :: l, _, _, σ, env, st, g, .cons (x := x) (xs := xs) (v := v) (vs := vs) r o t, ap => by
    show Good c H0 H' (setV l xs (σ.set p.2.1 (some x))) (PF.setP l vs (env.set p.2.1 (some v))) st
    by_cases hv : ∃ y, v = .own y
    · obtain ⟨y, rfl⟩ := hv
      obtain ⟨a, rfl, f, k⟩ := o y rfl
      refine Good.setP e0 l (g.setO p.2.1 r (f.ext e0) fun j z hj e1 e2 => ap j z _ e1 e2 0 y rfl rfl) t fun i y' u h1 h2 j z hz => ?_
      rcases set_some h1 with ⟨rfl, _, hi⟩ | ⟨hj, h1⟩
      · rw [List.getElem?_set_self (by rw [← g.re.len]; exact hi)] at h2
        cases h2
        exact k j z hz
      · rw [List.getElem?_set_ne hj] at h2
        exact ap i y' u h1 h2 (j + 1) z hz
    · refine Good.setP e0 l (g.set p.2.1 r fun y e => hv ⟨y, e⟩) t fun i y' u h1 h2 j z hz => ?_
      rcases set_some h1 with ⟨rfl, e, hi⟩ | ⟨hj, h1⟩
      · exact (hv ⟨y', e.symm⟩).elim
      · rw [List.getElem?_set_ne hj] at h2
        exact ap i y' u h1 h2 (j + 1) z hz
/-- values for stores -/
def tP (c : Cw) (G : Str → List Vl → M Vl) (W : XK) (l : List (Bool × Nat × CE)) : TA := fun σ H Q => ∃ env st, RepEnv c H σ env ∧ RepSt c H st ∧ Pst c H W (fun vs st' => ∀ xs H', Ext c.ρ H H' → RepSt c H' st' → RepP c H H' xs vs → Q xs H') (evP G l env st)
theorem tO_of {β : Type} {c : Cw} {σ : L2.St} {H : Hp} {env : Env} {st : St} {Φ : β → St → Prop} {a : CE} {f : Vl → M β} {Q1 : VK} (he : RepEnv c H σ env) (hs : RepSt c H st) (hl : ∀ env st, OnlyL (ev G a env st)) (h : Pst c H W Φ (bd (ev G a env) f st))
    (k : ∀ ds st' H1 p xs, Ext c.ρ H H1 → RepSt c H1 st' → H1 p = none → RepL c.K H1 xs ds → Pst c H1 W Φ (f (.d (.list ds)) st') → Q1 (.ref p) (upd H1 p (.lst xs))) : tO c G W a σ H Q1 := by
  refine ⟨env, st, he, hs, ?_⟩
  have hb := Pst.bd h
  have hl := hl env st
  cases e : ev G a env st with
  | ok v st1 =>
    rw [e] at hb hl
    cases v with
    | d x =>
      cases x with
      | list ds => exact ⟨ds, rfl, fun H1 e1 s1 p xs hp r => k ds st1 H1 p xs e1 s1 hp r (Pst.rebase (c := c) hb e1)⟩
      | _ => exact hl.elim
    | _ => exact hl.elim
  | exc x y s => rw [e] at hb; exact hb
  | bad => rw [e] at hb; exact hb.elim
theorem zip3_cons {ps : List (Str × Pos)} {v : Expr} {vs : List Expr} {f : Expr → Option CE} {l : List (Bool × Nat × CE)} (h : zip3 ps (v :: vs) C f = some l) :
    ∃ p r i e l', ps = p :: r ∧ C.slot p.1 = some i ∧ f v = some e ∧ zip3 r vs C f = some l' ∧ l = (C.own.contains p.1 && isL v, i, e) :: l' := by
  cases ps with
  | nil => cases h
  | cons p r =>
    rw [zip3] at h
    obtain ⟨i, h1, h2⟩ := Option.bind_eq_some_iff.mp h
    obtain ⟨e, h3, h4⟩ := Option.bind_eq_some_iff.mp h2
    obtain ⟨l', h5, rfl⟩ := Option.map_eq_some_iff.mp h4
    exact ⟨p, r, i, e, l', rfl, h1, h3, h5, rfl⟩
theorem new_own {c : Cw} {H1 : Hp} {p : Addr} {st : St} (hs : RepSt c H1 st) (hp : H1 p = none) : p ≠ c.ρ := fun e => by
  rw [e] at hp
  rw [show H1 c.ρ = _ from hs] at hp
  cases hp
theorem RepSt.put {c : Cw} {H1 : Hp} {p : Addr} {st : St} {o : HO} (hs : RepSt c H1 st) (hp : p ≠ c.ρ) : RepSt c (upd H1 p o) st := by
  unfold RepSt
  rw [upd_ne (Ne.symm hp)]
  exact hs
theorem pa_P {f : Expr → Option CE} : ∀ {vs : List Expr} {ps : List (Str × Pos)} {l : List (Bool × Nat × CE)}, zip3 ps vs C f = some l → (vs.any isStar) = false → (∀ e ∈ vs, ∀ x, f e = some x → PE X e (TG' X ρ flds G W x) ∧ (isL e = true → DOk X ρ flds G W e x)) → PA X vs (tP (cOf X ρ flds) G W l)
  | [], ps, l, h, _, _ => by
    cases ps with
    | nil =>
      cases h
      refine PA.imp pa_nil ?_
      rintro σ H Q ⟨env, st, he, hs, h⟩
      exact h [] H (Ext.refl _ _) hs .nil
    | cons _ _ => cases h
  | e :: es, ps, l, h, hst, hf => by
    obtain ⟨p, r, i, ce, l', rfl, _, h1, h2, rfl⟩ := zip3_cons h
    rw [List.any_cons, Bool.or_eq_false_iff] at hst
    have tl := pa_P h2 hst.2 fun d hd => hf d (List.mem_cons_of_mem _ hd)
    obtain ⟨pe, dk⟩ := hf e List.mem_cons_self ce h1
    by_cases ho : (C.own.contains p.1 && isL e) = true
    · rw [ho]
      have hl : isL e = true := by
        rw [Bool.and_eq_true] at ho
        exact ho.2
      refine PA.imp (pa_cons (dk hl).pe tl (star_no hst.1)) ?_
      rintro σ H Q ⟨env, st, he, hs, h⟩
      rw [evP] at h
      refine tO_of he hs (dk hl).only h fun ds st1 H1 a xs e1 s1 hn rl h1 => ?_
      have hne := new_own s1 hn
      have e1' : Ext ρ H1 (upd H1 a (.lst xs)) := ext_put (c := cOf X ρ flds) hn (Ext.refl _ _)
      refine ⟨env, st1, he.mono (e1.trans e1'), s1.put hne, (Pst.bd (Pst.rebase (c := cOf X ρ flds) h1 e1')).mono fun vs st2 h2 xs2 H2 e2 s2 r2 => ?_⟩
      have h2' : ∀ xs H', Ext ρ H H' → RepSt (cOf X ρ flds) H' st2 → RepP (cOf X ρ flds) H H' xs (.own (.list ds) :: vs) → Q xs H' := h2
      refine h2' (.ref a :: xs2) H2 (e1.trans (e1'.trans e2)) s2 (.cons (.own hne (e2 _ _ upd_same (.inr ⟨hne, fun _ z => nomatch z⟩)) (RepL.mono (fun b o q z => (e1'.trans e2).fz b o q z) _ _ rl)) (fun y _ => ⟨a, rfl, (Frs.none hn).ext e1, fun j z hz hx => ?_⟩) (r2.back (e1.trans e1')))
      obtain ⟨a', e3, f⟩ := r2.frs j z _ hz hx
      cases e3
      exact f.not hne upd_same
    · rw [Bool.not_eq_true] at ho
      rw [ho]
      refine PA.imp (pa_cons pe tl (star_no hst.1)) ?_
      rintro σ H Q ⟨env, st, he, hs, h⟩
      rw [evP] at h
      refine tG_of he hs h fun v st1 x H1 e1 s1 r1 he1 h1 => ?_
      refine ⟨env, st1, he1, s1, (Pst.bd h1).mono fun vs st2 h2 xs2 H2 e2 s2 r2 => ?_⟩
      have h3 : Pst (cOf X ρ flds) H1 W (fun vs st' => ∀ xs H', Ext ρ H H' → RepSt (cOf X ρ flds) H' st' → RepP (cOf X ρ flds) H H' xs vs → Q xs H') (bd (nown v) (fun v => ret (v :: vs)) st2) := h2
      obtain ⟨no, q⟩ := Pst.nown (Pst.bd h3)
      exact q (x :: xs2) H2 (e1.trans e2) s2 (.cons (r1.mono e2) (fun y e => (no y e).elim) (r2.back e1))
end
end PF
end
section
set_option Elab.async false
set_option linter.all false
set_option maxRecDepth 100000
set_option maxHeartbeats 4000000
/-! PFaa: displays; name = e. -/
namespace PF
open PySem PySem.Spec PyProof.Rows L2 PFS
section
variable {X : Cx} {ρ : Addr} {flds : List (Str × Str)} {G : Str → List Vl → M Vl} {W : XK} {C : Cmp}
/-- a comprehension, as a value and as what a name gets -/
structure LOk (X : Cx) (ρ : Addr) (flds : List (Str × Str)) (G : Str → List Vl → M Vl) (W : XK) (e : Expr) (ce : CE) : Prop extends DOk X ρ flds G W e ce where
  sw : ∀ (i : Nat) (y : Str) (py spos : Pos), X.N[i]? = some y → X.env.scope.names.lookup y = some .local → swapsWith e (some (.Name y py)) spos.line X.env = pure true → PS X (.Assign [.Name y py] e spos) (tAsg (tO (cOf X ρ flds) G W ce) (gName i))
theorem lc1_ok {n : Nat} (ok : OkE G W ρ flds C X) {elt tg iter : Expr} {ifs : List Expr} {scope : Scope} {pos : Pos} {ce : CE} (h : cE (n + 1) C (.ListComp elt [⟨tg, iter, ifs, 0⟩] scope pos) = some ce) : LOk X ρ flds G W (.ListComp elt [⟨tg, iter, ifs, 0⟩] scope pos) ce := by
  have ih1 : ∀ e x, cE n C e = some x → PE X e (TG' X ρ flds G W x) := fun e x h => (cE_ok n X W C ok e x h).1
  rw [cE] at h
  split at h
  · rename_i hb
    obtain ⟨src, h1, h2⟩ := Option.bind_eq_some_iff.mp h
    obtain ⟨g, h3, h4⟩ := Option.bind_eq_some_iff.mp h2
    obtain ⟨t, h5, h6⟩ := Option.bind_eq_some_iff.mp h4
    obtain ⟨y, h7, h8⟩ := Option.bind_eq_some_iff.mp h6
    split at h8
    · rename_i hs
      cases h8
      obtain ⟨i1, i2⟩ := cI_ok ok ih1 h1
      have okB : BlkOk X.N X.env.scope scope (ownOf C.N scope.names) := by
        rw [ok.N, ok.sc]
        exact blkOk_by hb
      have blk := fun s H Cc cl fp => ok.blk s H scope cl Cc fp
      refine ⟨⟨PE.imp (pe_lc (wi := tI (cOf X ρ flds) G W src) (g := gT (cOf X ρ flds) g) (tt := tT (cOf X ρ flds) G NoX t) (te := tG (cOf X ρ flds) G NoX y) (pos := pos) ok.calm ok.nd i1 okB (fun s H Cc cl fp => g_ok (blk s H Cc cl fp) tg g h3) (fun s H Cc cl fp => tst_ok (fun e x h => cE_ok n _ NoX _ (blk s H Cc cl fp) e x h) h5) (fun s H Cc cl fp => (cE_ok n _ NoX _ (blk s H Cc cl fp) elt y h7).1) (fun x => i2 X.env x)) fun σ H Q h => ?_, only_lc⟩, fun i z py spos hi hz hsw => ?_⟩
      · exact o_lc (elt := elt) (tg := tg) (iter := iter) (ifs := ifs) (scope := scope) (pos := pos) (subL_ok hs) h
      · refine PS.imp (ps_setLc (wi := tI (cOf X ρ flds) G W src) (g := gT (cOf X ρ flds) g) (tt := tT (cOf X ρ flds) G NoX t) (te := tG (cOf X ρ flds) G NoX y) (pos := pos) ok.calm ok.nd hi hz hsw i1 okB (fun s H Cc cl fp => g_ok (blk s H Cc cl fp) tg g h3) (fun s H Cc cl fp => tst_ok (fun e x h => cE_ok n _ NoX _ (blk s H Cc cl fp) e x h) h5) (fun s H Cc cl fp => (cE_ok n _ NoX _ (blk s H Cc cl fp) elt y h7).1) (fun x => i2 X.env x)) fun D σ H h => ?_
        exact o_lc (elt := elt) (tg := tg) (iter := iter) (ifs := ifs) (scope := scope) (pos := pos) (subL_ok hs) h
    · cases h8
  · cases h
theorem lc2_ok {n : Nat} (ok : OkE G W ρ flds C X) {elt tg iter tg2 iter2 : Expr} {ifs ifs2 : List Expr} {scope : Scope} {pos : Pos} {ce : CE} (h : cE (n + 1) C (.ListComp elt [⟨tg, iter, ifs, 0⟩, ⟨tg2, iter2, ifs2, 0⟩] scope pos) = some ce) : LOk X ρ flds G W (.ListComp elt [⟨tg, iter, ifs, 0⟩, ⟨tg2, iter2, ifs2, 0⟩] scope pos) ce := by
  have ih1 : ∀ e x, cE n C e = some x → PE X e (TG' X ρ flds G W x) := fun e x h => (cE_ok n X W C ok e x h).1
  rw [cE] at h
  split at h
  · rename_i hb
    obtain ⟨src, h1, h2⟩ := Option.bind_eq_some_iff.mp h
    obtain ⟨g, h3, h4⟩ := Option.bind_eq_some_iff.mp h2
    obtain ⟨t, h5, h6⟩ := Option.bind_eq_some_iff.mp h4
    obtain ⟨src2, h7, h8⟩ := Option.bind_eq_some_iff.mp h6
    obtain ⟨g2, h9, h10⟩ := Option.bind_eq_some_iff.mp h8
    obtain ⟨t2, h11, h12⟩ := Option.bind_eq_some_iff.mp h10
    obtain ⟨y, h13, h14⟩ := Option.bind_eq_some_iff.mp h12
    split at h14
    · rename_i hs
      simp only [Bool.and_eq_true] at hs
      cases h14
      obtain ⟨i1, i2⟩ := cI_ok ok ih1 h1
      have okB : BlkOk X.N X.env.scope scope (ownOf C.N scope.names) := by
        rw [ok.N, ok.sc]
        exact blkOk_by hb
      have blk := fun s H Cc cl fp => ok.blk s H scope cl Cc fp
      have ihb := fun s H Cc cl fp e x h => cE_ok n _ NoX _ (blk s H Cc cl fp) e x h
      have j := fun s H Cc cl fp => cI_ok (blk s H Cc cl fp) (fun e x h => (ihb s H Cc cl fp e x h).1) h7
      refine ⟨⟨PE.imp (pe_lc2 (wi := tI (cOf X ρ flds) G W src) (g := gT (cOf X ρ flds) g) (tt := tT (cOf X ρ flds) G NoX t) (wi1 := tI (cOf X ρ flds) G NoX src2) (g1 := gT (cOf X ρ flds) g2) (tt1 := tT (cOf X ρ flds) G NoX t2) (te := tG (cOf X ρ flds) G NoX y) (pos := pos) ok.calm ok.nd i1 okB (subL_ok hs.2) (fun s H Cc cl fp => g_ok (blk s H Cc cl fp) tg g h3) (fun s H Cc cl fp => tst_ok (ihb s H Cc cl fp) h5) (fun s H Cc cl fp => (j s H Cc cl fp).1)
            (fun s H Cc cl fp => g_ok (blk s H Cc cl fp) tg2 g2 h9) (fun s H Cc cl fp => tst_ok (ihb s H Cc cl fp) h11) (fun s H Cc cl fp => (ihb s H Cc cl fp elt y h13).1) (fun x => i2 X.env x) (fun env x => cI_fold h7 env x)) fun σ H Q h => ?_, only_lc2⟩, fun i z py spos hi hz hsw => ?_⟩
      · exact o_lc2 (elt := elt) (tg := tg) (iter := iter) (tg2 := tg2) (iter2 := iter2) (subL_ok hs.1) (subL_ok hs.2) h
      · refine PS.imp (ps_setLc2 (wi := tI (cOf X ρ flds) G W src) (g := gT (cOf X ρ flds) g) (tt := tT (cOf X ρ flds) G NoX t) (wi1 := tI (cOf X ρ flds) G NoX src2) (g1 := gT (cOf X ρ flds) g2) (tt1 := tT (cOf X ρ flds) G NoX t2) (te := tG (cOf X ρ flds) G NoX y) (pos := pos) ok.calm ok.nd hi hz hsw i1 okB (subL_ok hs.2) (fun s H Cc cl fp => g_ok (blk s H Cc cl fp) tg g h3) (fun s H Cc cl fp => tst_ok (ihb s H Cc cl fp) h5) (fun s H Cc cl fp => (j s H Cc cl fp).1)
            (fun s H Cc cl fp => g_ok (blk s H Cc cl fp) tg2 g2 h9) (fun s H Cc cl fp => tst_ok (ihb s H Cc cl fp) h11) (fun s H Cc cl fp => (ihb s H Cc cl fp elt y h13).1) (fun x => i2 X.env x) (fun env x => cI_fold h7 env x)) fun D σ H h => ?_
        exact o_lc2 (elt := elt) (tg := tg) (iter := iter) (tg2 := tg2) (iter2 := iter2) (subL_ok hs.1) (subL_ok hs.2) h
    · cases h14
  · cases h
theorem isLc_ok {n : Nat} (ok : OkE G W ρ flds C X) {e : Expr} {ce : CE} (h : cE (n + 1) C e = some ce) (hl : isLc e = true) : LOk X ρ flds G W e ce := by
  have h' := h
  unfold cE at h
  split at h
  case h_20 => exact lc1_ok ok h'
  case h_21 => exact lc2_ok ok h'
  all_goals first | (cases hl; done) | (cases h; done)
theorem d_ok {n : Nat} (ok : OkE G W ρ flds C X) {e : Expr} {ce : CE} (h : cE n C e = some ce) (hl : isL e = true) : DOk X ρ flds G W e ce := by
  cases n with
  | zero => cases h
  | succ n =>
    cases e with
    | List es pos =>
      rw [cE] at h
      obtain ⟨a, h1, rfl⟩ := Option.map_eq_some_iff.mp h
      exact ⟨o_lst (pa_L h1 fun d _ y => fun h => (cE_ok n X W C ok d y h).1), only_lst⟩
    | ListComp a b c d => exact (isLc_ok ok h rfl).toDOk
    | _ => cases hl
/-- freeze the new list behind a store -/
theorem s_fin {s : Stmt} {i : Nat} {a : CE} (hl : ∀ env st, OnlyL (ev G a env st)) (h : PS X s (tAsg (tO (cOf X ρ flds) G W a) (gName i))) : PS X s (tAsg (TG' X ρ flds G W a) (gName i)) := by
  refine ⟨fun pins t σ H D I hw => ?_⟩
  obtain ⟨env, st, he, hs, hp⟩ := hw
  let D' : Ends := ⟨fun σ' H' => ∃ p xs ds H1, σ' = σ.set i (some (.ref p)) ∧ H' = upd H1 p (.lst xs) ∧ H1 p = none ∧ RepL X.K H1 xs ds ∧ Wd X.K H1 (fun x H2 => D.nx (σ.set i (some x)) H2) (.list ds), D.rt, D.bk, D.ct⟩
  have key : tAsg (tO (cOf X ρ flds) G W a) (gName i) D' σ H := by
    refine ⟨env, st, he, hs, ?_⟩
    have hl := hl env st
    cases e : ev G a env st with
    | ok v s' =>
      rw [e] at hp hl
      cases v with
      | d x =>
        cases x with
        | list ds => exact ⟨ds, rfl, fun H1 e1 s1 p xs hp1 r => ⟨p, xs, ds, H1, rfl, rfl, hp1, r, wd_of hp e1 s1⟩⟩
        | _ => exact hl.elim
      | _ => exact hl.elim
    | exc x y s' => rw [e] at hp; exact hp
    | bad => rw [e] at hp; exact hp
  refine thn (h.run pins t σ H D' I key) fun f s1 q => ?_
  cases f with
  | next =>
    obtain ⟨σ', H', I', p, xs, ds, H1, e1, e2, hn, rl, q⟩ := q
    subst e1 e2
    obtain ⟨od, I2⟩ := I'.lock upd_same trivial
    rw [upd_upd] at I2
    have sm : Same H1 (upd H1 p (.frz od (.lst xs))) := same_new hn
    exact ⟨_, _, I2, q _ _ sm (.lst upd_same (RepL.mono (samefz sm) ds xs rl))⟩
  | ret v => exact q
  | brk => exact q
  | cont => exact q
/-- the two roads of a comprehension's store -/
theorem sw_or {e : Expr} {y : Str} {py : Pos} {l : Nat} {env : PySem.Env} : swapsWith e (some (.Name y py)) l env = pure false ∨ (isLc e = true ∧ env.scope.names.lookup y = some .local ∧ swapsWith e (some (.Name y py)) l env = pure true) := by
  have fin : ∀ (a : Sem Bool) (b1 b2 : Bool), a = pure (env.blockKind == .function && env.kindOf y == some .local && b1 && b2) → a = pure false ∨ (env.scope.names.lookup y = some .local ∧ a = pure true) := by
    intro a b1 b2 e
    cases hb : (env.blockKind == ScopeKind.function && env.kindOf y == some NameKind.local && b1 && b2) with
    | false => exact .inl (by rw [e, hb])
    | true =>
      refine .inr ⟨?_, by rw [e, hb]⟩
      simp only [Bool.and_eq_true, beq_iff_eq] at hb
      exact hb.1.1.2
  cases e <;> first | exact .inl rfl | skip
  · exact (fin _ _ _ rfl).imp id fun h => ⟨rfl, h⟩
  · exact (fin _ _ _ rfl).imp id fun h => ⟨rfl, h⟩
  · exact (fin _ _ _ rfl).imp id fun h => ⟨rfl, h⟩
end
end PF
end
section
set_option Elab.async false
set_option linter.all false
set_option maxRecDepth 100000
set_option maxHeartbeats 4000000
/-! PFab: THE THEOREM for statements. -/
namespace PF
open PySem PySem.Spec PyProof.Rows L2 PFS
section
variable {X : Cx} {ρ : Addr} {flds : List (Str × Str)} {G : Str → List Vl → M Vl} {W : XK} {C : Cmp}
theorem s_set {n : Nat} (ok : OkE G W ρ flds C X) {x : Str} {e : Expr} {py pos : Pos} {l : List (Bool × Nat × CE)} (h : zip3 [(x, py)] [e] C (cE n C) = some l) : PS X (.Assign [.Name x py] e pos) (tS (cOf X ρ flds) G W (.asgs l)) := by
  obtain ⟨p, r, i, ce, l', e1, h1, h2, h3, rfl⟩ := zip3_cons h
  cases e1
  cases h3
  obtain ⟨hN, hl, _⟩ := slot_ok h1
  obtain ⟨hx, hf⟩ := ok.loc hl
  have hN' : X.N[i]? = some x := by rw [ok.N]; exact hN
  have pe := (cE_ok n X W C ok e ce h2).1
  by_cases ho : (C.own.contains x && isL e) = true
  · rw [ho]
    have hL : isL e = true := by
      rw [Bool.and_eq_true] at ho
      exact ho.2
    have dk := d_ok ok h2 hL
    have key : PS X (.Assign [.Name x py] e pos) (tAsg (tO (cOf X ρ flds) G W ce) (gName i)) := by
      rcases sw_or (e := e) (y := x) (py := py) (l := pos.line) (env := X.env) with hs | ⟨hlc, hz, hs⟩
      · exact ps_set ok.nd hN' hx dk.pe hs hf
      · cases n with
        | zero => cases h2
        | succ n => exact (isLc_ok ok h2 hlc).sw i x py pos hN' hz hs
    refine PS.imp key ?_
    rintro D σ H ⟨H0, env, st, g, h⟩
    rw [ex] at h
    have h' := Pst.rebase (c := cOf X ρ flds) (Pst.bd h) g.ext
    rw [evP] at h'
    refine tO_of g.re g.sts dk.only h' fun ds st1 H1 a xs e1 s1 hn rl h2 => ?_
    have hne := new_own s1 hn
    have h3 : ∀ σ' H', Good (cOf X ρ flds) H0 H' σ' (env.set i (some (.own (.list ds)))) st1 → D.nx σ' H' := h2
    have k1 := g.mono e1 s1
    have e1' : Ext ρ H1 (upd H1 a (.lst xs)) := ext_put (c := cOf X ρ flds) hn (Ext.refl _ _)
    refine h3 _ _ (((k1.mono e1' (s1.put hne)).setO i (.own hne upd_same (RepL.mono e1'.fz _ _ rl)) ((Frs.none hn).ext k1.ext)) fun j z hj ez es => ?_)
    obtain ⟨x', ex', r'⟩ := k1.re.at_ j _ ez
    rw [es] at ex'
    cases ex'
    cases r' with
    | own k1 k2 k3 =>
      rw [hn] at k2
      cases k2
  · rw [Bool.not_eq_true] at ho
    rw [ho]
    have key : PS X (.Assign [.Name x py] e pos) (tAsg (TG' X ρ flds G W ce) (gName i)) := by
      rcases sw_or (e := e) (y := x) (py := py) (l := pos.line) (env := X.env) with hs | ⟨hlc, hz, hs⟩
      · exact ps_set ok.nd hN' hx pe hs hf
      · cases n with
        | zero => cases h2
        | succ n =>
          have k := isLc_ok ok h2 hlc
          exact s_fin k.only (k.sw i x py pos hN' hz hs)
    refine PS.imp key ?_
    rintro D σ H ⟨H0, env, st, g, h⟩
    rw [ex] at h
    have h' := Pst.rebase (c := cOf X ρ flds) (Pst.bd h) g.ext
    rw [evP] at h'
    refine tG_of g.re g.sts h' fun v st1 x1 H1 e1 s1 r1 _ h2 => ?_
    have h3 : Pst (cOf X ρ flds) H1 W (fun vs st' => Pst (cOf X ρ flds) H0 W (Kn (cOf X ρ flds) H0 D) (ret (.nx (setP ((false, i, ce) :: []) vs env)) st')) (bd (nown v) (fun v => ret (v :: [])) st1) := h2
    obtain ⟨no, q⟩ := Pst.nown (Pst.bd h3)
    have q' : ∀ σ' H', Good (cOf X ρ flds) H0 H' σ' (env.set i (some v)) st1 → D.nx σ' H' := q
    exact q' _ _ ((g.mono e1 s1).set i r1 no)
theorem evP_len : ∀ {l : List (Bool × Nat × CE)} {env : Env} {st s : St} {vs : List Vl}, evP G l env st = .ok vs s → vs.length = l.length
  | [], env, st, s, vs, h => by
    rw [evP] at h
    cases h
    rfl
  | p :: l, env, st, s, vs, h => by
    rw [evP] at h
    obtain ⟨v, s1, _, h1⟩ := bd_ok h
    obtain ⟨ws, s2, h2, h3⟩ := bd_ok h1
    obtain ⟨u, s3, _, h4⟩ := bd_ok h3
    cases h4
    rw [List.length_cons, List.length_cons, evP_len h2]
theorem RepP.length {c : Cw} {H H' : Hp} : ∀ {xs : List V} {vs : List Vl}, RepP c H H' xs vs → xs.length = vs.length
  | _, _, .nil => rfl
  | _, _, .cons _ _ t => by rw [List.length_cons, List.length_cons, RepP.length t]
theorem t_par {l : List (Bool × Nat × CE)} {D : Ends} {σ : L2.St} {H : Hp} (h : tS (cOf X ρ flds) G W (.asgs l) D σ H) : tP (cOf X ρ flds) G W l σ H fun xs H1 => xs.length = l.length ∧ D.nx (setV l xs σ) H1 := by
  obtain ⟨H0, env, st, g, h⟩ := h
  rw [ex] at h
  refine ⟨env, st, g.re, g.sts, ?_⟩
  have hb := Pst.rebase (c := cOf X ρ flds) (Pst.bd h) g.ext
  cases e : evP G l env st with
  | ok vs st1 =>
    rw [e] at hb
    intro xs H1 e1 s1 r1
    have hb' : ∀ σ' H', Good (cOf X ρ flds) H0 H' σ' (setP l vs env) st1 → D.nx σ' H' := hb
    refine ⟨by rw [r1.length, evP_len e], hb' _ _ (Good.setP g.ext l (g.mono e1 s1) r1 fun i y v h1 h2 j z hz hx => ?_)⟩
    obtain ⟨a, e2, f⟩ := r1.frs j z v hz hx
    obtain ⟨x', ex', r'⟩ := g.re.at_ i _ h1
    rw [h2] at ex'
    cases ex'
    cases r' with
    | own k1 k2 k3 =>
      cases e2
      exact f.not k1 k2
  | exc x y s => rw [e] at hb; exact hb
  | bad => rw [e] at hb; exact hb.elim
theorem names2_cons {t : Expr} {ts : List Expr} {ns : List (Str × Pos)} (h : names2 (t :: ts) = some ns) : ∃ x p r, t = .Name x p ∧ names2 ts = some r ∧ ns = (x, p) :: r := by
  cases t with
  | Name x p =>
    rw [names2] at h
    obtain ⟨r, h1, rfl⟩ := Option.map_eq_some_iff.mp h
    exact ⟨_, _, r, rfl, h1, rfl⟩
  | _ => exact absurd h (by simp [names2])
theorem idx_ne {N : List Str} {x y : Str} {i j : Nat} (h1 : N[i]? = some x) (h2 : N[j]? = some y) (h : x ≠ y) : i ≠ j := fun e => by
  subst e
  rw [h1] at h2
  exact h (Option.some.inj h2)
theorem names2_nil {ts : List Expr} (h : names2 ts = some []) : ts = [] := by
  cases ts with
  | nil => rfl
  | cons t ts =>
    obtain ⟨_, _, _, _, _, e⟩ := names2_cons h
    cases e
theorem names2_at {ts : List Expr} {x : Str} {p : Pos} {r : List (Str × Pos)} (h : names2 ts = some ((x, p) :: r)) : ∃ ts', ts = .Name x p :: ts' ∧ names2 ts' = some r := by
  cases ts with
  | nil => cases h
  | cons t ts =>
    obtain ⟨x', p', r', rfl, h1, e⟩ := names2_cons h
    cases e
    exact ⟨ts, rfl, h1⟩
theorem bk_fn (hk : X.env.scope.kind = .function) : X.env.blockKind = .function := by unfold PySem.Env.blockKind; rw [hk]; rfl
theorem s_par {n : Nat} (ok : OkE G W ρ flds C X) (hk : X.env.scope.kind = .function) {ts vs : List Expr} {k k2 : Nat} {p p2 pos : Pos} {ns : List (Str × Pos)} {l : List (Bool × Nat × CE)} (hn : names2 ts = some ns) (hp : parB C ns vs = true) (h : zip3 ns vs C (cE n C) = some l) :
    PS X (.Assign [.Tuple ts k p] (.Tuple vs k2 p2) pos) (tS (cOf X ρ flds) G W (.asgs l)) := by
  unfold parB at hp
  simp only [Bool.and_eq_true, Bool.or_eq_true, beq_iff_eq, Bool.not_eq_true', List.all_eq_true] at hp
  obtain ⟨⟨⟨⟨⟨⟨⟨hl, hv⟩, hst⟩, _⟩, hal⟩, hnd⟩, hf⟩, hca⟩ := hp
  have bk := bk_fn hk
  have pa := pa_P (X := X) (ρ := ρ) (flds := flds) (G := G) (W := W) h hst fun e _ x h => ⟨(cE_ok n X W C ok e x h).1, d_ok ok h⟩
  have ff : (vs.all (foldedForSure 8)) = false := by simpa using hf
  have fc : (vs.all (constantsAlone 8)) = false := by simpa using hca
  have kof : ∀ q ∈ ns, X.env.scope.names.lookup q.1 = some .local := fun q hq => by
    rw [ok.sc]
    exact kindB_ok (hal q hq).1
  match ns, hl with
  | [(x, px), (y, py)], _ =>
    obtain ⟨ts2, rfl, hn2⟩ := names2_at hn
    obtain ⟨ts3, rfl, hn3⟩ := names2_at hn2
    cases names2_nil hn3
    obtain ⟨a, b, rfl⟩ : ∃ a b, vs = [a, b] := by
      match vs, hv with
      | [a, b], _ => exact ⟨a, b, rfl⟩
    have hx := kof _ List.mem_cons_self
    have hy := kof _ (List.mem_cons_of_mem _ List.mem_cons_self)
    have lx := (hal _ List.mem_cons_self).2
    have ly := (hal _ (List.mem_cons_of_mem _ List.mem_cons_self)).2
    have hxy : x ≠ y := fun e => by
      subst e
      simp [List.eraseDups_cons] at hnd
    have hw : swappedStores [.Tuple [.Name x px, .Name y py] k p] (.Tuple [a, b] k2 p2) X.env = pure (some [x, y]) := by
      have st : ∀ f : Expr → Bool, (∀ e, f e = isStar e) → [a, b].any f = false := fun f hf => by
        rw [show f = isStar from funext hf]
        exact hst
      have kx : X.env.kindOf x = some .local := hx
      have ky : X.env.kindOf y = some .local := hy
      have ly' : py.line = px.line := ly
      unfold swappedStores
      dsimp only
      refine (if_neg (by rw [bk]; exact Bool.false_ne_true)).trans ?_
      refine (if_neg (by rw [st _ fun e => by cases e <;> rfl]; exact Bool.false_ne_true)).trans ?_
      have hm : ∀ f : Expr → Option Str, f (.Name x px) = some x → f (.Name y py) = some y → List.filterMap f [Expr.Name x px, Expr.Name y py] = [x, y] := fun f h1 h2 => by
        rw [List.filterMap_cons, h1, List.filterMap_cons, h2]
        rfl
      have hd : ([x, y] : List Str).eraseDups.length = 2 := hnd
      rw [ff, fc, hm _ (by simp [kx, Expr.pos]) (by simp [ky, ly', Expr.pos]), hd]
      rfl
    obtain ⟨p', r, i, ce, l1, e1, h1, h2, h3, rfl⟩ := zip3_cons h
    cases e1
    obtain ⟨p', r, j, ce2, l2, e1, h4, h5, h6, rfl⟩ := zip3_cons h3
    cases e1
    cases h6
    have hi : X.N[i]? = some x := by rw [ok.N]; exact (slot_ok h1).1
    have hj : X.N[j]? = some y := by rw [ok.N]; exact (slot_ok h4).1
    refine PS.imp (ps_par ok.calm ok.nd hi hj (idx_ne hi hj hxy) hx hy pa hw) fun D σ H q => ?_
    obtain ⟨env, st, he, hs, q⟩ := t_par q
    refine ⟨env, st, he, hs, q.mono fun us st' q xs H1 e1 s1 r1 => ?_⟩
    obtain ⟨hl, q⟩ := q xs H1 e1 s1 r1
    match xs, hl with
    | [v, w], _ => exact ⟨v, w, rfl, q⟩
  | [(x, px), (y, py), (z, pz)], _ =>
    obtain ⟨ts2, rfl, hn2⟩ := names2_at hn
    obtain ⟨ts3, rfl, hn3⟩ := names2_at hn2
    obtain ⟨ts4, rfl, hn4⟩ := names2_at hn3
    cases names2_nil hn4
    obtain ⟨a, b, c, rfl⟩ : ∃ a b c, vs = [a, b, c] := by
      match vs, hv with
      | [a, b, c], _ => exact ⟨a, b, c, rfl⟩
    have hx := kof _ List.mem_cons_self
    have hy := kof _ (List.mem_cons_of_mem _ List.mem_cons_self)
    have hz := kof _ (List.mem_cons_of_mem _ (List.mem_cons_of_mem _ List.mem_cons_self))
    have ly := (hal _ (List.mem_cons_of_mem _ List.mem_cons_self)).2
    have lz := (hal _ (List.mem_cons_of_mem _ (List.mem_cons_of_mem _ List.mem_cons_self))).2
    have hd : ([x, y, z] : List Str).eraseDups.length = 3 := hnd
    have hxy : x ≠ y := fun e => by
      subst e
      by_cases hz : z = x
      · subst hz
        simp [List.eraseDups_cons] at hd
      · simp [List.eraseDups_cons, hz] at hd
    have hxz : x ≠ z := fun e => by
      subst e
      by_cases hz : y = x
      · subst hz
        simp [List.eraseDups_cons] at hd
      · simp [List.eraseDups_cons, hz] at hd
    have hyz : y ≠ z := fun e => by
      subst e
      by_cases hz : y = x
      · subst hz
        simp [List.eraseDups_cons] at hd
      · simp [List.eraseDups_cons, hz] at hd
    have hw : swappedStores [.Tuple [.Name x px, .Name y py, .Name z pz] k p] (.Tuple [a, b, c] k2 p2) X.env = pure (some [x, y, z]) := by
      have st : ∀ f : Expr → Bool, (∀ e, f e = isStar e) → [a, b, c].any f = false := fun f hf => by
        rw [show f = isStar from funext hf]
        exact hst
      have kx : X.env.kindOf x = some .local := hx
      have ky : X.env.kindOf y = some .local := hy
      have kz : X.env.kindOf z = some .local := hz
      have ly' : py.line = px.line := ly
      have lz' : pz.line = px.line := lz
      unfold swappedStores
      dsimp only
      refine (if_neg (by rw [bk]; exact Bool.false_ne_true)).trans ?_
      refine (if_neg (by rw [st _ fun e => by cases e <;> rfl]; exact Bool.false_ne_true)).trans ?_
      have hm : ∀ f : Expr → Option Str, f (.Name x px) = some x → f (.Name y py) = some y → f (.Name z pz) = some z → List.filterMap f [Expr.Name x px, Expr.Name y py, Expr.Name z pz] = [x, y, z] := fun f h1 h2 h3 => by
        rw [List.filterMap_cons, h1, List.filterMap_cons, h2, List.filterMap_cons, h3]
        rfl
      rw [ff, fc, hm _ (by simp [kx, Expr.pos]) (by simp [ky, ly', Expr.pos]) (by simp [kz, lz', Expr.pos]), hd]
      rfl
    obtain ⟨p', r, i, ce, l1, e1, h1, h2, h3, rfl⟩ := zip3_cons h
    cases e1
    obtain ⟨p', r, j, ce2, l2, e1, h4, h5, h6, rfl⟩ := zip3_cons h3
    cases e1
    obtain ⟨p', r, m, ce3, l3, e1, h7, h8, h9, rfl⟩ := zip3_cons h6
    cases e1
    cases h9
    have hi : X.N[i]? = some x := by rw [ok.N]; exact (slot_ok h1).1
    have hj : X.N[j]? = some y := by rw [ok.N]; exact (slot_ok h4).1
    have hm : X.N[m]? = some z := by rw [ok.N]; exact (slot_ok h7).1
    refine PS.imp (ps_par3 ok.calm ok.nd hi hj hm (idx_ne hi hj hxy) (idx_ne hi hm hxz) (idx_ne hj hm hyz) hx hy hz pa hw) fun D σ H q => ?_
    obtain ⟨env, st, he, hs, q⟩ := t_par q
    refine ⟨env, st, he, hs, q.mono fun us st' q xs H1 e1 s1 r1 => ?_⟩
    obtain ⟨hl, q⟩ := q xs H1 e1 s1 r1
    match xs, hl with
    | [u, v, w], _ => exact ⟨u, v, w, rfl, q⟩
/-! ### one's own list, the cup -/
theorem hp_len {st : St} {c : Cw} {H : Hp} (h : RepSt c H st) : H c.ρ = some (.lst [.int st.1, .int st.2]) := h
theorem s_app {n : Nat} (ok : OkE G W ρ flds C X) {x : Str} {e : Expr} {ce : CE} {j : Nat} {p ap cp pos : Pos} (hst : isStar e = false) (hl : (ap.endLine == cp.line) = true) (hc : (x == nCls) = false) (hj : C.slot x = some j) (he : cE n C e = some ce) :
    PS X (.Expr (.Call (.Attribute (.Name x p) "append" ap) [e] [] cp) pos) (tS (cOf X ρ flds) G W (.app j ce)) := by
  obtain ⟨hN, hlo, hd⟩ := slot_ok hj
  obtain ⟨hx, _⟩ := ok.loc hlo
  have vis : Vis X.env.scope x := by
    rcases hx with h | h
    · exact .inl h
    · exact .inr (.inl h)
  have pe := (cE_ok n X W C ok e ce he).1
  have pn : PE X (.Name x p) (tVar j) := pe_var (by rw [ok.N]; exact hN) vis hd hc
  refine PS.imp (ps_expr (pe_bm PySem.F.plainAttrs_list PySem.F.slot_list_append PySem.F.type_list_append mt_append pn (pa_cons pe pa_nil (star_no hst)) rfl (by rw [star_no hst]; rfl) hl (star_no hst) rfl) rfl) ?_
  rintro D σ H ⟨H0, env, st, g, h⟩
  rw [ex] at h
  have ho : ∃ ds, env[j]? = some (some (.own (.list ds))) := by
    by_cases z : ownJ env j = true
    · unfold ownJ at z
      split at z
      · exact ⟨_, by assumption⟩
      · cases z
    · rw [if_neg z] at h
      exact h.elim
  obtain ⟨ds, ho⟩ := ho
  rw [if_pos (by unfold ownJ; rw [ho])] at h
  obtain ⟨y, e1, r⟩ := g.re.at_ j _ ho
  cases r with
  | @own a xs _ k1 k2 k3 =>
    refine ⟨.ref a, e1, .inl ⟨rfl, xs, .inl (.inl k2)⟩, ?_⟩
    have h0 := Pst.rebase (c := cOf X ρ flds) h g.ext
    refine tG_of g.re g.sts h0 fun v st1 x1 H1 e1' s1 r1 _ h1 => ?_
    obtain ⟨z, rfl, h2⟩ := Pst.asD h1
    have k2' : H1 a = some (.lst xs) := e1' _ _ k2 (.inr ⟨k1, fun _ z => nomatch z⟩)
    have h3 := Pst.bd h2
    unfold appJ at h3
    rw [ho] at h3
    dsimp only at h3
    split at h3
    · rename_i hlt
      have h3' : ∀ σ' H', Good (cOf X ρ flds) H0 H' σ' (env.set j (some (.own (.list (ds ++ [z]))))) st1 → D.nx σ' H' := h3
      have fz := fz_of k2' (.lst (xs ++ [x1]))
      refine ⟨a, xs, x1, rfl, rfl, k2', by rw [k3.length, line_eq]; exact hlt, h3' _ _ ((g.mono e1' s1).put ho e1 k1 k2' (.own k1 upd_same ((RepL.mono (fun b o q z => fz b o (e1'.fz b o q z) z) _ _ k3).append (.cons (Rep.mono fz _ _ r1.data) .nil))))⟩
    · exact h3.elim
theorem setAt_some {xs ys : List D} {i : Int} {z : D} (h : setAt xs i z = some ys) : ixN xs.length i = some i.toNat ∧ ys = xs.set i.toNat z := by
  unfold setAt at h
  split at h
  · rename_i q
    cases h
    exact ⟨by unfold ixN; rw [if_pos q.1, if_pos q.2], rfl⟩
  · cases h
theorem RepL.set {K : PySem.W.Frag} {H : Hp} {v : V} {d : D} (r : Rep K H v d) : ∀ {vs : List V} {ds : List D} (i : Nat), RepL K H vs ds → RepL K H (vs.set i v) (ds.set i d)
  | _, _, _, .nil => .nil
  | _, _, 0, .cons _ t => .cons r t
  | _, _, i + 1, .cons q t => .cons q (RepL.set r i t)
theorem cupPut_some {y z : D} {s s' : St} (h : cupPut y z s = some s') : ∃ k j i, y = .int k ∧ z = .int i ∧ ixN 2 k = some j ∧ ([V.int s.1, V.int s.2].set j (.int i)) = [V.int s'.1, V.int s'.2] := by
  unfold cupPut at h
  split at h
  · cases h
    exact ⟨0, 0, _, rfl, rfl, rfl, rfl⟩
  · cases h
    exact ⟨1, 1, _, rfl, rfl, rfl, rfl⟩
  · cases h
theorem s_sets {n : Nat} (ok : OkE G W ρ flds C X) {x : Str} {e i : Expr} {ce ci : CE} {j : Nat} {p tp pos : Pos} (hv : C.vis x = true) (hd : (x == nDbg) = false) (hc : (x == nCls) = false) (hj : idx C.N x = some j) (he : cE n C e = some ce) (hi : cE n C i = some ci) (hs : isSlc i = false) (hst : isStar i = false) :
    PS X (.Assign [.Subscript (.Name x p) i tp] e pos) (tS (cOf X ρ flds) G W (.sets j ci ce)) := by
  have pe := (cE_ok n X W C ok e ce he).1
  have pi := (cE_ok n X W C ok i ci hi).1
  have pn : PE X (.Name x p) (tVar j) := pe_var (by rw [ok.N]; exact idx_ok hj) (ok.vis hv) hd hc
  have ha : ∀ v, assign (.Subscript (.Name x p) i tp) X.env v = (do
      let ov ← holding [v] (eval (.Name x p) X.env)
      let iv ← holding [v, ov] (eval i X.env)
      standAt tp
      holding [v, ov, iv] (setItem ov iv v)
      release [v, ov, iv] []) := by
    intro v
    cases i <;> first | rfl | (cases hs; done) | (cases hst; done)
  have hsw : swapsWithSole [.Subscript (.Name x p) i tp] e pos.line X.env = pure false := by
    cases e <;> rfl
  refine PS.imp (ps_asg pe (pg_sub pn pi set_list ha) hsw rfl rfl) ?_
  rintro D σ H ⟨H0, env, st, g, h⟩
  rw [ex] at h
  have ho : ∃ u, env[j]? = some (some u) := by
    by_cases z : hasJ env j = true
    · unfold hasJ at z
      split at z
      · exact ⟨_, by assumption⟩
      · cases z
    · rw [if_neg z] at h
      exact h.elim
  obtain ⟨u, ho⟩ := ho
  rw [if_pos (by unfold hasJ; rw [ho])] at h
  have h0 := Pst.rebase (c := cOf X ρ flds) h g.ext
  refine tG_of g.re g.sts h0 fun v st1 x1 H1 e1 s1 r1 re1 h1 => ?_
  obtain ⟨z, rfl, h2⟩ := Pst.asD h1
  obtain ⟨y, ey, ry⟩ := re1.at_ j _ ho
  refine ⟨y, ey, ?_⟩
  refine tG_of re1 s1 h2 fun v2 st2 x2 H2 e2 s2 r2 re2 h3 => ?_
  obtain ⟨w, rfl, h4⟩ := Pst.asD h3
  have h5 := Pst.bd h4
  have g2 := g.mono (e1.trans e2) s2
  unfold setJ at h5
  rw [ho] at h5
  cases u with
  | cup =>
    cases ry with
    | cup =>
      dsimp only at h5
      cases hq : cupPut w z st2 with
      | none => rw [hq] at h5; exact h5.elim
      | some st3 =>
        rw [hq] at h5
        obtain ⟨k, jj, ii, rfl, rfl, hix, hset⟩ := cupPut_some hq
        cases r1.data
        cases r2.data
        have h6 : ∀ σ' H', Good (cOf X ρ flds) H0 H' σ' env st3 → D.nx σ' H' := h5
        have s2' : H2 ρ = some (.lst [.int st2.1, .int st2.2]) := s2
        have ex3 : Ext ρ H2 (upd H2 ρ (.lst [.int st3.1, .int st3.2])) := fun b o q z => by
          have hb : b ≠ ρ := fun w => by
            rw [w, s2'] at q
            cases q
            rcases z with z | ⟨z, _⟩
            · exact z
            · exact z w
          rw [upd_ne hb]
          exact q
        refine ⟨ρ, _, k, jj, rfl, rfl, s2', hix, ?_⟩
        rw [hset]
        exact h6 _ _ (g2.mono ex3 upd_same)
  | own d =>
    cases ry with
    | @own a xs ds k1 k2 k3 =>
      dsimp only at h5
      have k2' : H2 a = some (.lst xs) := e2 _ _ k2 (.inr ⟨k1, fun _ z => nomatch z⟩)
      cases w with
      | int k =>
        dsimp only at h5
        cases hq : setAt ds k z with
        | none => rw [hq] at h5; exact h5.elim
        | some ys =>
          rw [hq] at h5
          obtain ⟨hix, rfl⟩ := setAt_some hq
          have h6 : ∀ σ' H', Good (cOf X ρ flds) H0 H' σ' (env.set j (some (.own (.list (ds.set k.toNat z))))) st2 → D.nx σ' H' := h5
          cases r2.data
          have fz := fz_of k2' (.lst (xs.set k.toNat x1))
          refine ⟨a, xs, k, k.toNat, rfl, rfl, k2', by rw [k3.length]; exact hix, h6 _ _ (g2.put ho ey k1 k2' (.own k1 upd_same (RepL.set (Rep.mono (fun b o q z => fz b o (e2.fz b o q z) z) _ _ r1.data) _ (RepL.mono (fun b o q z => fz b o (e2.fz b o q z) z) _ _ k3))))⟩
      | _ => exact h5.elim
  | d x => exact h5.elim
  | fn x => exact h5.elim
end
end PF
end
section
set_option Elab.async false
set_option linter.all false
set_option maxRecDepth 100000
set_option maxHeartbeats 4000000
/-! PFac: THE THEOREM for statements. -/
namespace PF
open PySem PySem.Spec PyProof.Rows L2 PFS
section
variable {X : Cx} {ρ : Addr} {flds : List (Str × Str)} {G : Str → List Vl → M Vl} {W : XK} {C : Cmp}
theorem sw_notname {tg e : Expr} {l : Nat} {env : PySem.Env} (h : isNm tg = false) : swapsWith e (some tg) l env = pure false := by
  cases e <;> cases tg <;> first | rfl | cases h
theorem swd_nontup {ts : List Expr} {k : Nat} {p : Pos} {e : Expr} {env : PySem.Env} (h : ∀ vs k p, e ≠ .Tuple vs k p) : swappedStores [.Tuple ts k p] e env = pure none := by
  cases e <;> first | rfl | exact (h _ _ _ rfl).elim
theorem filt_lt {f : Expr → Option Str} (hf : ∀ e s, f e = some s → isNm e = true) : ∀ {ts : List Expr}, names2 ts = none → (ts.filterMap f).length < ts.length
  | [], h => by cases h
  | t :: ts, h => by
    rw [List.filterMap_cons]
    cases hn : f t with
    | none =>
      have := List.length_filterMap_le f ts
      simp only [List.length_cons]
      omega
    | some s =>
      have ht := hf t s hn
      cases t with
      | Name x q =>
        rw [names2] at h
        have h' : names2 ts = none := by simpa using h
        have := filt_lt hf h'
        simp only [List.length_cons]
        omega
      | _ => cases ht
theorem swd_none1 {ts vs : List Expr} {k k2 : Nat} {p p2 : Pos} {env : PySem.Env} (h : names2 ts = none) : swappedStores [.Tuple ts k p] (.Tuple vs k2 p2) env = pure none := by
  unfold swappedStores
  dsimp only
  split
  · rfl
  · split
    · rfl
    · refine if_pos ?_
      rw [Bool.or_eq_true]
      left
      have := filt_lt (f := fun x => match x with
        | Expr.Name id pos => if (env.kindOf id == some NameKind.local && pos.line == (Option.map (fun x => x.pos.line) ts.head?).getD 0) = true then some id else none
        | x => none) (fun e s h => by cases e <;> first | rfl | cases h) h
      simp only [bne_iff_ne, ne_eq]
      exact Nat.ne_of_lt this
theorem swd_none2 {ts vs : List Expr} {k k2 : Nat} {p p2 : Pos} {env : PySem.Env} (h : (!(ts.length == 2 || ts.length == 3) || vs.all (foldedForSure 8)) = true) : swappedStores [.Tuple ts k p] (.Tuple vs k2 p2) env = pure none := by
  unfold swappedStores
  dsimp only
  split
  · rfl
  · rename_i h1
    split
    · rfl
    · split
      · rfl
      · rw [Bool.or_eq_true] at h
        rcases h with h | h
        · simp only [Bool.or_eq_true, not_or] at h1
          exact (h1.1.1 h).elim
        · exact if_pos h
theorem filt_lt2 {f : Expr → Option Str} : ∀ {ts : List Expr}, (∃ t ∈ ts, f t = none) → (ts.filterMap f).length < ts.length
  | [], h => by obtain ⟨_, h, _⟩ := h; cases h
  | t :: ts, h => by
    rw [List.filterMap_cons]
    cases hn : f t with
    | none =>
      have := List.length_filterMap_le f ts
      simp only [List.length_cons]
      omega
    | some s =>
      obtain ⟨u, hu, hf⟩ := h
      have hu' : u ∈ ts := by
        rcases List.mem_cons.mp hu with rfl | hu
        · rw [hn] at hf; cases hf
        · exact hu
      have := filt_lt2 (f := f) (ts := ts) ⟨u, hu', hf⟩
      simp only [List.length_cons]
      omega
theorem names2_mem : ∀ {ts : List Expr} {ns : List (Str × Pos)} {q : Str × Pos}, names2 ts = some ns → q ∈ ns → .Name q.1 q.2 ∈ ts
  | [], ns, q, h, hq => by cases h; cases hq
  | t :: ts, ns, q, h, hq => by
    obtain ⟨x, p, r, rfl, h1, rfl⟩ := names2_cons h
    rcases List.mem_cons.mp hq with rfl | hq
    · exact List.mem_cons_self
    · exact List.mem_cons_of_mem _ (names2_mem h1 hq)
theorem swd_none3 {ts vs : List Expr} {ns : List (Str × Pos)} {k k2 : Nat} {p p2 : Pos} {env : PySem.Env} (hn : names2 ts = some ns) (h : (ns.any fun q => !kindB .local (env.scope.names.lookup q.1)) = true) : swappedStores [.Tuple ts k p] (.Tuple vs k2 p2) env = pure none := by
  unfold swappedStores
  dsimp only
  split
  · rfl
  · split
    · rfl
    · refine if_pos ?_
      rw [Bool.or_eq_true]
      left
      obtain ⟨q, hq, hk⟩ := List.any_eq_true.mp h
      have hm := names2_mem hn hq
      have hk' : (env.kindOf q.1 == some NameKind.local) = false := by
        have e : env.kindOf q.1 = env.scope.names.lookup q.1 := rfl
        rw [e]
        cases z : env.scope.names.lookup q.1 with
        | none => rfl
        | some j =>
          rw [z] at hk
          cases j <;> first | rfl | (exact absurd hk (by decide))
      have := filt_lt2 (f := fun x => match x with
        | Expr.Name id pos => if (env.kindOf id == some NameKind.local && pos.line == (Option.map (fun x => x.pos.line) ts.head?).getD 0) = true then some id else none
        | x => none) (ts := ts) ⟨_, hm, by dsimp only; rw [hk']; rfl⟩
      simp only [bne_iff_ne, ne_eq]
      exact Nat.ne_of_lt this
theorem names2_len : ∀ {ts : List Expr} {ns : List (Str × Pos)}, names2 ts = some ns → ns.length = ts.length
  | [], ns, h => by cases h; rfl
  | t :: ts, ns, h => by
    obtain ⟨x, p, r, rfl, h1, rfl⟩ := names2_cons h
    rw [List.length_cons, List.length_cons, names2_len h1]
theorem each_tup {ts : List Expr} {k : Nat} {p : Pos} {env : PySem.Env} : (assignEach [.Tuple ts k p] env).map (·.2) = [assign (.Tuple ts k p) env] := rfl
theorem cS_ok {m : Nat} (ok : OkE G W ρ flds C X) (hk : X.env.scope.kind = .function) (hp : PassesOwn (model X.prog X.w) X.A X.env X.xe) : ∀ (n : Nat) (s : Stmt) (cs : CS), cS m C n s = some cs → PS X s (tS (cOf X ρ flds) G W cs)
  | 0, _, _, h => nomatch h
  | n + 1, s, cs, h => by
    have ih := cS_ok (m := m) ok hk hp n
    have ihB : ∀ (l : List Stmt) (b : CS), cB (cS m C n) l = some b → PSs X l (tS (cOf X ρ flds) G W b) := fun l b h => B_ok (fun s _ y h => ih s y h) h
    have pe : ∀ e x, cE m C e = some x → PE X e (TG' X ρ flds G W x) := fun e x h => (cE_ok m X W C ok e x h).1
    have pt : ∀ e x, cE m C e = some x → PT X e (tT (cOf X ρ flds) G W x) := fun e x h => (cE_ok m X W C ok e x h).2
    have tup : ∀ {ts : List Expr} {k : Nat} {p pos : Pos} {e : Expr} {cs : CS}, ((cTg C (.Tuple ts k p)).bind fun g => (cE m C e).map fun e => thawAll C e.plainR (.asg g e)) = some cs → swappedStores [.Tuple ts k p] e X.env = pure none → PS X (.Assign [.Tuple ts k p] e pos) (tS (cOf X ρ flds) G W cs) := by
      intro ts k p pos e cs h hw
      obtain ⟨g, h1, h2⟩ := Option.bind_eq_some_iff.mp h
      obtain ⟨ce, h3, rfl⟩ := Option.map_eq_some_iff.mp h2
      exact s_thaw (s_asg (pe e ce h3) (g_ok ok _ g h1) (show swapsWith e (some (.Tuple ts k p)) pos.line X.env = pure false from sw_notname rfl) hw each_tup)
    unfold cS at h
    split at h
    · cases h
      exact s_nop ps_doc
    · split at h
      · rename_i hz
        obtain ⟨rfl, h1, h2, h3⟩ := hz
        obtain ⟨j, h4, h5⟩ := Option.bind_eq_some_iff.mp h
        obtain ⟨ce, h6, rfl⟩ := Option.map_eq_some_iff.mp h5
        exact s_thaw (s_app ok h1 h2 h3 h4 h6)
      · cases h
    · split at h
      · cases h
      · rename_i hl
        obtain ⟨ce, h1, rfl⟩ := Option.map_eq_some_iff.mp h
        exact s_thaw (s_exp (pe _ ce h1) (by simpa using hl))
    · cases h
      exact s_nop ps_pass
    · cases h
      exact s_retN
    · obtain ⟨ce, h1, rfl⟩ := Option.map_eq_some_iff.mp h
      exact s_thaw (s_ret (pe _ ce h1))
    · obtain ⟨l, h1, rfl⟩ := Option.map_eq_some_iff.mp h
      exact s_thaw (s_set ok h1)
    · split at h
      · rename_i ns hn
        split at h
        · rename_i hpar
          obtain ⟨l, h1, rfl⟩ := Option.map_eq_some_iff.mp h
          exact s_thaw (s_par ok hk hn hpar h1)
        · split at h
          · rename_i hz
            exact tup h (swd_none2 (by rw [← names2_len hn]; exact hz))
          · split at h
            · rename_i hz
              exact tup h (swd_none3 hn (by rw [show X.env.scope = C.sc from ok.sc]; exact hz))
            · cases h
      · rename_i hn
        exact tup h (swd_none1 hn)
    · rename_i e _ hne
      exact tup h (swd_nontup fun vs k p e => hne vs k p e)
    · split at h
      · cases h
      · rename_i hb
        simp only [Bool.or_eq_true, not_or, Bool.not_eq_true, Bool.not_eq_true', Bool.not_eq_false] at hb
        obtain ⟨j, h1, h2⟩ := Option.bind_eq_some_iff.mp h
        obtain ⟨ce, h3, h4⟩ := Option.bind_eq_some_iff.mp h2
        obtain ⟨ci, h5, rfl⟩ := Option.map_eq_some_iff.mp h4
        exact s_thaw (s_sets ok hb.1.1.2 hb.1.2 hb.2 h1 h3 h5 hb.1.1.1.1.1 hb.1.1.1.1.2)
    · obtain ⟨cc, h1, h2⟩ := Option.bind_eq_some_iff.mp h
      obtain ⟨ca, h3, h4⟩ := Option.bind_eq_some_iff.mp h2
      obtain ⟨cb, h5, rfl⟩ := Option.map_eq_some_iff.mp h4
      exact s_thaw (s_if (pt _ cc h1) (ihB _ ca h3) (ihB _ cb h5))
    · obtain ⟨g, h1, h2⟩ := Option.bind_eq_some_iff.mp h
      obtain ⟨src, h3, h4⟩ := Option.bind_eq_some_iff.mp h2
      obtain ⟨cb, h5, rfl⟩ := Option.map_eq_some_iff.mp h4
      obtain ⟨i1, i2⟩ := cI_ok ok pe h3
      exact s_thaw (s_for hp ok.calm i1 (g_ok ok _ g h1) (ihB _ cb h5) fun x => i2 X.env x)
    · obtain ⟨cc, h1, h2⟩ := Option.bind_eq_some_iff.mp h
      obtain ⟨cb, h3, rfl⟩ := Option.map_eq_some_iff.mp h2
      exact s_while hp (pt _ cc h1) (ihB _ cb h3)
    · cases h
      refine PS.imp ps_never ?_
      rintro D σ H ⟨H0, env, st, g, h⟩
      rw [ex] at h
      exact h.elim
    · cases h
end
end PF
end
section
set_option Elab.async false
set_option linter.all false
set_option maxRecDepth 100000
set_option maxHeartbeats 4000000
/-! PFad: THE THEOREM for defs. -/
namespace PF
open PySem PySem.Spec PyProof.Rows L2 PFS
/-- a def of the text -/
structure DG where
  name : Str
  ps : List Str
  N : List Str
  own : List Str
  args : Arguments
  body : List Stmt
  scope : Scope
/-- the defs that the law reaches, what names mean -/
structure Prg where
  fns : List Str
  cns : List (Str × D)
  free : List Str
  ds : List DG
def DG.cmp (p : Prg) (d : DG) : Cmp := { N := d.N, sc := d.scope, fns := p.fns, cns := p.cns, free := p.free, own := d.own }
def DG.code (p : Prg) (d : DG) : Option CS := cB (cS 40 (d.cmp p) 40) d.body
def Prg.tab (p : Prg) : Tab := p.ds.map fun d => (d.name, ⟨d.ps.length, d.N.length, (d.code p).getD .never⟩)
structure PrgOk (p : Prg) (c : Cw) : Prop where
  defs : ∀ d ∈ p.ds, c.mg d.name = some (.ref (He.ga c.K d.name)) ∧ ∃ params fd, FunD c.K d.name d.name params d.body d.scope [] [] (He.ga c.K d.name) fd ∧ Binds c.K fd d.ps []
  code : ∀ d ∈ p.ds, (d.code p).isSome = true
  sc : ∀ d ∈ p.ds, C8.scC d.N d.ps d.scope = true
  nd : (p.ds.map (·.name)).Nodup
  fns : ∀ f ∈ p.fns, f ∈ p.ds.map (·.name)
  cns : ∀ x v, p.cns.lookup x = some v → ∃ y u, c.mg x = some u ∧ RelV y u ∧ ∀ H, Rep c.K H y v
  free : ∀ x ∈ p.free, c.mg x = none
theorem tab_at {p : Prg} : ∀ {l : List DG} {d : DG}, d ∈ l → (l.map (·.name)).Nodup → (l.map fun d => (d.name, (⟨d.ps.length, d.N.length, (d.code p).getD .never⟩ : Fd))).lookup d.name = some ⟨d.ps.length, d.N.length, (d.code p).getD .never⟩
  | a :: l, d, h, nd => by
    rw [List.map_cons, List.nodup_cons] at nd
    rw [List.map_cons, List.lookup_cons]
    rcases List.mem_cons.mp h with rfl | h
    · rw [beq_self_eq_true]
    · have hne : (d.name == a.name) = false := by
        rw [beq_eq_false_iff_ne]
        exact fun e => nd.1 (e ▸ List.mem_map.mpr ⟨d, h, rfl⟩)
      rw [hne]
      exact tab_at h nd.2
theorem start_good {c : Cw} {H : Hp} {N : List Str} {vs : List V} {args : List Vl} {st : St} (r : RepVs c H vs args) (no : args.all Vl.noOwn = true) (hs : RepSt c H st) : Good c H H (L2.start N vs) (args.map some ++ List.replicate (N.length - args.length) none) st := by
  have noE : ∀ (i : Nat) (y : D), (args.map some ++ List.replicate (N.length - args.length) none)[i]? ≠ some (some (.own y)) := fun i y e => by
    by_cases hi : i < args.length
    · rw [List.getElem?_append_left (by simpa using hi), List.getElem?_map] at e
      obtain ⟨v, h1, h2⟩ := Option.map_eq_some_iff.mp e
      have := List.all_eq_true.mp no v (List.mem_of_getElem? h1)
      cases h2
      cases this
    · rw [List.getElem?_append_right (by simpa using hi), List.getElem?_replicate] at e
      split at e <;> cases e
  have get : ∀ {vs : List V} {args : List Vl} (i : Nat) (v : Vl), RepVs c H vs args → args[i]? = some v → ∃ x, vs[i]? = some x ∧ RepV c H x v := by
    intro vs args i v r
    induction r generalizing i with
    | nil => intro e; cases i <;> cases e
    | cons r1 r2 ih =>
      intro e
      cases i with
      | zero => cases e; exact ⟨_, rfl, r1⟩
      | succ i => exact ih i e
  refine ⟨⟨?_, fun i v e => ?_, fun i j x y v _ e => (noE i x e).elim⟩, fun i y v e => (noE i y e).elim, Ext.refl _ _, hs⟩
  · unfold L2.start
    simp [r.length]
  · by_cases hi : i < args.length
    · rw [List.getElem?_append_left (by simpa using hi), List.getElem?_map] at e
      obtain ⟨w, h1, h2⟩ := Option.map_eq_some_iff.mp e
      cases h2
      obtain ⟨x, h3, h4⟩ := get i v r h1
      refine ⟨x, ?_, h4⟩
      unfold L2.start
      rw [List.getElem?_append_left (by simpa [r.length] using hi), List.getElem?_map, h3]
      rfl
    · rw [List.getElem?_append_right (by simpa using hi), List.getElem?_replicate] at e
      split at e <;> cases e
theorem guards_deep {A : Around} {env : PySem.Env} (h : A.guards = some []) : (A.deeper env).guards = some [] := h
/-- from a body -/
theorem FnG.by_ {P : Program} {w : World} {K : PySem.W.Frag} {mg : Str → Option Value} {base : Heap} {x qual : Str} {params : Arguments} {body : List Stmt} {scope : Scope} {dvs : List V} {kws : List (Str × V)} {f : Addr} {fd : FuncData} {N ps : List Str} {k : Nat} {sp : Sp}
    (F : FunD K x qual params body scope dvs kws f fd) (S : FnScope N ps scope) (many : ∀ xs H Q E, sp xs H Q E → xs.length = ps.length)
    (hb : ∀ (cdv : Value) (A : Around) (out : List PySem.Env) (s : Shared) (H : Hp) (xs : List V) (Q : VK) (E : XK), Room k (A.deeper (envOfC qual scope s.heap.objs.size f cdv)) → A.guards = some [] → sp xs H Q E →
      ∃ t, PSs (cxOf (L2.CX P w) P w K mg base N qual scope f cdv A out s H E) body t ∧ t { nx := fun _ H' => Q .non H', rt := Q } (L2.start N xs) H) : FnG P w K mg base (k + 1) f fd ps sp := by
  obtain ⟨oc, od, dV, kV, doc, pm, an, cdv, ct, osl, rfl, lk, hcd, _, _⟩ := F.ex
  exact ⟨many, fun A out s H gs us xs Q E hr gd e0 b r h => LamX.run_ofS lk hcd S hr e0 b r (many _ _ _ _ h) fun hr' => hb cdv A out s H xs Q E hr' gd h⟩
theorem ok_of {p : Prg} {c : Cw} (k : PrgOk p c) {n : Nat} (ih : ∀ d ∈ p.ds, ∃ fd, FnG c.prog c.w c.K c.mg c.base n (He.ga c.K d.name) fd d.ps (spG c (run p.tab n) d.name) ∧ Binds c.K fd d.ps [])
    {N : List Str} {own : List Str} {qual : Str} {scope : Scope} {f : Addr} {cdv : Value} {A : Around} {outer : List PySem.Env} {s : Shared} {H : Hp} {E : XK} (hr : Room n (A.deeper (envOfC qual scope s.heap.objs.size f cdv))) (gd : A.guards = some []) (nd : N.Nodup) (ρ : Addr) :
    OkE (run p.tab n) E ρ c.flds { N := N, sc := scope, fns := p.fns, cns := p.cns, free := p.free, own := own } (cxOf (L2.CX c.prog c.w) c.prog c.w c.K c.mg c.base N qual scope f cdv A outer s H E) where
  N := rfl
  nd := nd
  sc := rfl
  fn := fun x => rfl
  calm := rfl
  units := by
    have := hr.un
    show (A.deeper _).units + 128 < cLine
    omega
  gd := guards_deep gd
  fns := fun g hg => by
    have hm : g ∈ p.fns := by simpa using hg
    obtain ⟨d, hd, rfl⟩ := List.mem_map.mp (k.fns g hm)
    obtain ⟨fd, F, B⟩ := ih d hd
    obtain ⟨h1, params, fd', F', _⟩ := k.defs d hd
    exact ⟨h1, F'.kp, n, fd, d.ps, F, hr, B⟩
  cns := k.cns
  free := fun x hx => k.free x (by simpa using hx)
  pass := passes_call (takes_of rfl rfl rfl rfl) fun _ _ _ _ h => h
theorem fn_all {p : Prg} {c : Cw} (k : PrgOk p c) : ∀ (n : Nat) (d : DG), d ∈ p.ds → ∃ fd, FnG c.prog c.w c.K c.mg c.base n (He.ga c.K d.name) fd d.ps (spG c (run p.tab n) d.name) ∧ Binds c.K fd d.ps []
  | 0, d, hd => by
    obtain ⟨h1, params, fd, F, B⟩ := k.defs d hd
    refine ⟨fd, ⟨fun vs H Q E h => ?_, fun A outer s H args us vs Q E _ _ _ _ _ h => ?_⟩, B⟩
    · obtain ⟨ρ, args, st, _, _, q⟩ := h
      exact q.elim
    · obtain ⟨ρ, args, st, _, _, q⟩ := h
      exact q.elim
  | n + 1, d, hd => by
    have ih := fn_all k n
    obtain ⟨h1, params, fd, F, B⟩ := k.defs d hd
    have S := C8.fnScope_by (k.sc d hd)
    obtain ⟨cs, hcs⟩ := Option.isSome_iff_exists.mp (k.code d hd)
    have key : ∀ {vs H Q E}, spG c (run p.tab (n + 1)) d.name vs H Q E → ∃ ρ args st, RepVs { c with ρ := ρ } H vs args ∧ RepSt { c with ρ := ρ } H st ∧ args.length = d.ps.length ∧ args.all Vl.noOwn = true ∧
        Post { c with ρ := ρ } H E Q (bd (ex (run p.tab n) cs (args.map some ++ List.replicate (d.N.length - args.length) none)) (fun o => match o with
          | .nx _ => rD .none
          | .rt v => ret v) st) := by
      rintro vs H Q E ⟨ρ, args, st, r, hs, h⟩
      refine ⟨ρ, args, st, r, hs, ?_⟩
      rw [run] at h
      have ht : p.tab.lookup d.name = some ⟨d.ps.length, d.N.length, cs⟩ := by
        have := tab_at (p := p) hd k.nd
        rw [hcs] at this
        exact this
      rw [ht] at h
      dsimp only at h
      by_cases hz : args.length = d.ps.length ∧ args.all Vl.noOwn = true
      · rw [if_pos hz] at h
        refine ⟨hz.1, hz.2, ?_⟩
        rw [hz.1]
        exact h
      · rw [if_neg hz] at h
        exact h.elim
    refine ⟨fd, FnG.by_ F S (fun vs H Q E h => ?_) (fun cdv A outer s H vs Q E hr gd h => ?_), B⟩
    · obtain ⟨ρ, args, st, r, hs, hl, _⟩ := key h
      rw [r.length, hl]
    · obtain ⟨ρ, args, st, r, hs, hl, no, q⟩ := key h
      have ok := ok_of k ih (own := d.own) (qual := d.name) (scope := d.scope) (f := He.ga c.K d.name) (cdv := cdv) (outer := outer) (H := H) (E := E) hr gd S.nd ρ
      refine ⟨tS (cOf (cxOf (L2.CX c.prog c.w) c.prog c.w c.K c.mg c.base d.N d.name d.scope (He.ga c.K d.name) cdv A outer s H E) ρ c.flds) (run p.tab n) E cs, B_ok (fun s _ y h => cS_ok ok S.kind (passes_of rfl) 40 s y h) hcs, ?_⟩
      refine ⟨H, _, st, start_good (c := { c with ρ := ρ }) r no hs, ?_⟩
      refine (Pst.bd q).mono fun fl st' z => ?_
      cases fl with
      | nx e => exact fun σ' H' g => z .non H' g.ext g.sts (.d .non)
      | rt v => exact fun x H' e1 s1 r1 => z x H' e1 s1 r1
end PF
end
section
set_option Elab.async false
set_option linter.all false
set_option maxRecDepth 100000
set_option maxHeartbeats 4000000
/-! PFae: the cup's def, by hand. -/
namespace PF
open PySem PySem.Spec PyProof.Rows L2 PFS
abbrev nm (x : Str) (p : Pos) : Expr := .Name x p
def cupBody (k : Nat) (p : Nat → Pos) : List Stmt :=
  [.Assign [.Name "cell" (p 0)] (.Call (.Name "abs" (p 1)) [.Subscript (.BinOp (.Call (.Name "list" (p 2)) [.Name "script" (p 3)] [] (p 4)) .Add (.List [.Constant (.int 0) k (p 5)] (p 6)) (p 7)) (.Constant (.int 0) k (p 8)) (p 9)] [] (p 10)) (p 11),
   .Return (some (.List [.IfExp (.Compare (.Name "cell" (p 12)) [.GtE] [.BinOp (.Constant (.int 10) k (p 13)) .Pow (.Constant (.int 18) k (p 14)) (p 15)] (p 16)) (.BinOp (.Name "cell" (p 17)) .FloorDiv (.Constant (.int 59) k (p 18)) (p 19)) (.Constant (.int 0) k (p 20)) (p 21),
     .BinOp (.BinOp (.Call (.Name "int" (p 22)) [.BinOp (.BinOp (.Name "cell" (p 23)) .Mult (.Constant (.int 269) k (p 24)) (p 25)) .Add (.Constant (.int 2411) k (p 26)) (p 27)] [] (p 28)) .Mod (.Constant (.int 2077503187) k (p 29)) (p 30)) .Add (.Constant (.int 151) k (p 31)) (p 32)] (p 33))) (p 34)]
def spCup (K : PySem.W.Frag) : Sp := fun vs H Q _ => ∃ a ns, vs = [V.ref a] ∧ SqL K H a (List.map V.int ns) ∧ ns.length < sizeLine ∧ ∀ p x y H', Same H H' → H' p = none → 0 ≤ x → 0 ≤ y → y < 2147483563 → Q (.ref p) (upd H' p (.lst [.int x, .int y]))
abbrev sScript : Str := "script"
abbrev sCell : Str := "cell"
section
variable {X : Cx}
theorem pss_cup {k : Nat} {p : Nat → Pos} (hN : X.N = ([sScript, sCell] : List Str)) (v0 : Vis X.env.scope "script") (lc : X.env.scope.names.lookup sCell = some .local) (hfn : X.fn "cell" = true)
    (ga : Gl X "abs") (gl : Gl X "list") (gi : Gl X "int") (ma : X.mg "abs" = none) (ml : X.mg "list" = none) (mi : X.mg "int" = none) :
    PSs X (cupBody k p) (fun D σ H => ∃ v, σ = [some v, none] ∧ spCup X.K [v] H D.rt fun _ _ _ => False) := by
  have nd : X.N.Nodup := by rw [hN]; decide +kernel
  have h0 : X.N[0]? = some sScript := by rw [hN]; rfl
  have h1 : X.N[1]? = some sCell := by rw [hN]; rfl
  have p0 : ∀ pos, PE X (.Name "script" pos) (tVar 0) := fun pos => pe_var h0 v0 (by decide +kernel) (by decide +kernel)
  have p1 : ∀ pos, PE X (.Name "cell" pos) (tVar 1) := fun pos => pe_var h1 (.inl lc) (by decide +kernel) (by decide +kernel)
  have one : ∀ {e : Expr} {t : TE}, PE X e t → isStar e = false → PA X [e] (tCons t tNil) := fun h hs => pa_cons h pa_nil (star_no hs)
  refine PSs.imp (pss_cons (ps_set nd h1 (.inl lc) (pe_callB call_abs ga ma boot_abs (one (pe_ix ix_list (pe_op op_cat (pe_callTy call_list_of gl ml boot_list (one (p0 _) rfl) (by decide +kernel) (by decide +kernel)) (pe_lst (one pe_int rfl))) pe_int (fun _ _ => rfl)) rfl) (by decide +kernel) (by decide +kernel)) rfl (.inr lc))
    (pss_one (ps_ret (pe_lst (pa_cons (pe_ifExp (pt_cmpR op_ge (p1 _) (pe_op op_pow pe_int pe_int) rfl) (pe_op op_fdiv (p1 _) pe_int) pe_int)
      (one (pe_op op_add (pe_op op_mod (pe_callTy call_int1 gi mi boot_int (one (pe_op op_add (pe_op op_mul (p1 _) pe_int) pe_int) rfl) (by decide +kernel) (by decide +kernel)) pe_int) pe_int) rfl)))))) ?_
  rintro D σ H ⟨v, rfl, a, ns, e, hS, hl, hQ⟩
  cases e
  obtain ⟨z, hz⟩ : ∃ z : Int, atI (List.map V.int ns ++ [V.int 0]) 0 = some (.int z) := by
    cases ns with
    | nil => exact ⟨0, rfl⟩
    | cons n r =>
      refine ⟨n, ?_⟩
      unfold atI ixN
      rw [if_pos (Int.le_refl 0), if_pos (by simp only [List.length_append, List.length_map, List.length_cons]; omega)]
      rfl
  refine ⟨V.ref a, rfl, a, _, rfl, .inl hS, fun l hl0 => ⟨by show 1 ≤ sizeLine; decide, fun b hb => ?_⟩⟩
  have hbl : l ≠ b := fun e => by
    rw [e, upd_same] at hb
    cases hb
  refine ⟨l, b, _, _, rfl, rfl, (upd_ne hbl).trans upd_same, upd_same, by rw [List.length_map]; exact hl, fun q hq => ⟨q, _, 0, _, rfl, rfl, .inl (.inl upd_same), hz, z, rfl, ?_⟩⟩
  generalize hc : (if z < 0 then -z else z) = c
  have c0 : 0 ≤ c := by rw [← hc]; split <;> omega
  have fin : ∀ x : Int, 0 ≤ x → tCons (tOp (rI0 fun i j => V.int (i + j)) (tOp (rI (fun x j => 0 < j) fun i j => V.int (i % j)) (tCB (fun xs H Q => (∃ i, xs = [V.int i] ∧ Q (V.int i) H) ∨ ∃ k, xs = [V.bl k] ∧ Q (V.int (if k = true then 1 else 0)) H)
      (tCons (tOp (rI0 fun i j => V.int (i + j)) (tOp (rI CMul fun i j => V.int (i * j)) (tVar 1) (tC (V.int 269))) (tC (V.int 2411))) tNil)) (tC (V.int 2077503187))) (tC (V.int 151))) tNil
      [some (V.ref a), some (V.int c)] (upd (upd (upd H l (.lst (List.map V.int ns))) b (.lst [V.int 0])) q (.lst (List.map V.int ns ++ [V.int 0]))) fun vs H2 => [V.int x].length + vs.length ≤ sizeLine ∧ ∀ p, H2 p = none → D.rt (.ref p) (upd H2 p (.lst (V.int x :: vs))) := by
    intro x hx
    refine ⟨V.int c, rfl, c, 269, rfl, rfl, .inr ⟨by decide, by decide⟩, _, _, rfl, rfl, .inl ⟨_, rfl, _, _, rfl, rfl, (by decide : (0 : Int) < 2077503187), _, _, rfl, rfl, by show 2 ≤ sizeLine; decide, fun p hp => ?_⟩⟩
    have s1 : Same H (upd H l (.lst (List.map V.int ns))) := same_new hl0
    have s2 := same_new (o := .lst [V.int 0]) hb
    have s3 := same_new (o := .lst (List.map V.int ns ++ [V.int 0])) hq
    refine hQ p x _ _ (s1.trans (s2.trans s3)) hp hx ?_ ?_
    · omega
    · omega
  by_cases hb18 : (10 : Int) ^ 18 ≤ c
  · refine ⟨V.int c, rfl, 10, 18, rfl, rfl, ⟨by decide, by decide, by decide⟩, c, _, rfl, rfl, true, ?_, ?_⟩
    · exact congrArg V.bl (decide_eq_true hb18)
    · exact ⟨V.int c, rfl, c, 59, rfl, rfl, ⟨by decide, by decide⟩, fin _ (by omega)⟩
  · refine ⟨V.int c, rfl, 10, 18, rfl, rfl, ⟨by decide, by decide, by decide⟩, c, _, rfl, rfl, false, ?_, ?_⟩
    · exact congrArg V.bl (decide_eq_false hb18)
    · exact fin 0 (Int.le_refl 0)
end
end PF
end
section
set_option Elab.async false
set_option linter.all false
set_option maxRecDepth 100000
set_option maxHeartbeats 4000000
/-! PFaf: binding of plain parameters; the head's facts. -/
namespace PF
open PySem PySem.Spec PyProof.Rows L2 PFS
theorem zip_look {α : Type} : ∀ {l : List Str} {us : List α}, us.length = l.length → ∀ x ∈ l, ∃ u, (l.zip us).lookup x = some u
  | [], _, _, x, hx => nomatch hx
  | a :: l, [], h, x, hx => nomatch h
  | a :: l, u :: us, h, x, hx => by
    rw [List.zip_cons_cons, List.lookup_cons]
    by_cases e : x = a
    · subst e
      exact ⟨u, by rw [beq_self_eq_true]⟩
    · rw [beq_eq_false_iff_ne.mpr e]
      exact zip_look (by simpa using h) x ((List.mem_cons.mp hx).resolve_left e)
theorem fm_congr {α β : Type} {f g : α → Option β} : ∀ {l : List α}, (∀ x ∈ l, f x = g x) → l.filterMap f = l.filterMap g
  | [], _ => rfl
  | a :: l, h => by
    rw [List.filterMap_cons, List.filterMap_cons, h a List.mem_cons_self, fm_congr fun x hx => h x (List.mem_cons_of_mem _ hx)]
theorem zip_fm {α : Type} : ∀ {l : List Str} {us : List α}, l.Nodup → us.length = l.length → l.filterMap (fun n => ((l.zip us).lookup n).map fun u => (n, u)) = l.zip us
  | [], _, _, _ => rfl
  | a :: l, [], _, h => nomatch h
  | a :: l, u :: us, nd, h => by
    rw [List.nodup_cons] at nd
    rw [List.zip_cons_cons, List.filterMap_cons, List.lookup_cons, beq_self_eq_true]
    dsimp only [Option.map]
    congr 1
    refine (fm_congr fun n hn => ?_).trans (zip_fm nd.2 (by simpa using h))
    have hne : (n == a) = false := beq_eq_false_iff_ne.mpr fun e => nd.1 (by rw [← e]; exact hn)
    rw [List.lookup_cons, hne]
    cases List.lookup n (l.zip us) <;> rfl
theorem zip_miss {α : Type} {l : List Str} {us : List α} (h : us.length = l.length) : l.filter (fun n => ((l.zip us).lookup n).isNone) = [] := by
  rw [List.filter_eq_nil_iff]
  intro x hx
  obtain ⟨u, e⟩ := zip_look h x hx
  rw [e]
  simp
theorem bind_plain {x qual : Str} {as : List Arg} {kd : List (Option Expr)} {df : List Expr} {body : List Stmt} {scope : Scope} {ps : List Str} (hp : as.map (·.arg) = ps) (nd : ps.Nodup) (kV doc pm : Value) (an : Option Addr) (cdv ct : Value) (us : List Value) (h : us.length = ps.length) :
    bindArgs (PySem.W.fnOf x qual ⟨[], as, none, [], kd, none, df⟩ body scope .none kV doc pm an cdv ct) ⟨us, []⟩ = pure (ps.zip us) := by
  subst hp
  unfold bindArgs
  simp only [PySem.W.fnOf, List.map_nil, List.nil_append, List.append_nil, List.forIn_nil, pure_bind]
  rw [show seqItems? Value.none = pure none from rfl]
  simp only [pure_bind, Option.getD_none, List.drop_nil, List.length_nil, Nat.sub_zero, List.take_length, h, zip_miss h, gt_iff_lt, Nat.lt_irrefl, decide_false, Bool.false_and, Bool.false_eq_true, if_false, List.isEmpty_nil, Bool.not_true, List.drop_length, List.zip_nil_left, List.forIn_nil]
  rw [zip_fm nd h]
end PF
end
section
set_option Elab.async false
set_option linter.all false
set_option maxRecDepth 100000
set_option maxHeartbeats 4000000
/-! PFag: from the head's facts to the law's promise. -/
namespace PF
open PySem PySem.Spec PyProof.Rows L2 PFS
def DG.dd (d : DG) : He.DefD := ⟨(d.name, none), d.name, d.name, d.args, d.body, d.scope, [], []⟩
def cnFa : Str × D → List He.Fa
  | (x, .int i) => [.int x i]
  | (x, .str z) => [.str x z]
  | _ => []
def cnOk : Str × D → Bool
  | (_, .int _) => true
  | (_, .str _) => true
  | _ => false
def DG.chk (d : DG) : Bool := C8.scC d.N d.ps d.scope && d.args.posonlyargs.isEmpty && d.args.vararg.isNone && d.args.kwonlyargs.isEmpty && d.args.kwarg.isNone && decide (d.args.args.map (·.arg) = d.ps)
/-- the whole of what the law's module holds for us: the defs, the cup's def, the law -/
structure Whole where
  p : Prg
  U : DG
  L : DG
def Whole.all (W : Whole) : List DG := W.p.ds ++ [W.U, W.L]
def Whole.fn (W : Whole) : List He.DefD := W.all.map DG.dd
def Whole.fa (W : Whole) : List He.Fa := (W.all.map fun d => .glo d.name) ++ W.p.cns.flatMap cnFa ++ W.p.free.map .free
def Prg.chk (p : Prg) : Bool := p.ds.all (fun d => (d.code p).isSome) && decide ((p.ds.map (·.name)).Nodup) && p.fns.all (fun f => (p.ds.map (·.name)).contains f) && p.cns.all cnOk
def Whole.chk (W : Whole) : Bool := W.all.all DG.chk && W.p.chk
section
variable {W : Whole} {K : PySem.W.Frag} {mg : Str → Option Value} {h : Heap} {P : Program} {w : World} {base : Heap}
theorem says_fa {fa : List He.Fa} {fn : List He.DefD} (c : He.SaysD fa fn K) {f : He.Fa} (hf : f ∈ fa) : f.ok K = true := by
  obtain ⟨i, hi, e⟩ := List.getElem_of_mem hf
  exact c.fact i (by rw [List.getElem?_eq_getElem hi, e])
theorem says_fn {fa : List He.Fa} {fn : List He.DefD} (c : He.SaysD fa fn K) {d : He.DefD} (hd : d ∈ fn) : ∃ fd, FunD K d.name d.qual d.params d.body d.scope (d.dvs K) (d.kws K) (He.fAd K d.at_) fd := by
  obtain ⟨i, hi, e⟩ := List.getElem_of_mem hd
  exact c.def_ i (by rw [List.getElem?_eq_getElem hi, e])
theorem def_at (KX : K.In h) (G : h.Ns mainGlobals mg) (c : He.SaysD W.fa W.fn K) (hc : W.all.all DG.chk = true) {d : DG} (hd : d ∈ W.all) :
    mg d.name = some (.ref (He.ga K d.name)) ∧ ∃ fd, FunD K d.name d.name d.args d.body d.scope [] [] (He.ga K d.name) fd ∧ Binds K fd d.ps [] ∧ ∀ (s : Shared) (us : List Value), us.length = d.ps.length → BindsTo s fd ⟨us, []⟩ (d.ps.zip us) := by
  have h1 := says_fa c (f := .glo d.name) (by
    unfold Whole.fa
    exact List.mem_append_left _ (List.mem_append_left _ (List.mem_map.mpr ⟨d, hd, rfl⟩)))
  obtain ⟨fd, F⟩ := says_fn c (d := d.dd) (List.mem_map.mpr ⟨d, hd, rfl⟩)
  have F' : FunD K d.name d.name d.args d.body d.scope [] [] (He.ga K d.name) fd := F
  have hk := List.all_eq_true.mp hc d hd
  unfold DG.chk at hk
  simp only [Bool.and_eq_true, decide_eq_true_eq, List.isEmpty_iff, Option.isNone_iff_eq_none] at hk
  obtain ⟨⟨⟨⟨⟨k1, k2⟩, k3⟩, k4⟩, k5⟩, k6⟩ := hk
  have S := C8.fnScope_by k1
  have ndP : d.ps.Nodup := by rw [← S.pre]; exact S.nd.sublist (List.take_sublist _ _)
  have ha : ∀ (kV doc pm : Value) (an : Option Addr) (cdv ct : Value) (us : List Value), us.length = d.ps.length → bindArgs (PySem.W.fnOf d.name d.name d.args d.body d.scope .none kV doc pm an cdv ct) ⟨us, []⟩ = pure (d.ps.zip us) := by
    intro kV doc pm an cdv ct us hl
    have e : d.args = ⟨[], d.args.args, none, [], d.args.kw_defaults, none, d.args.defaults⟩ := by
      cases hh : d.args
      rw [hh] at k2 k3 k4 k5
      simp only at k2 k3 k4 k5
      subst k2 k3 k4 k5
      rfl
    rw [e]
    exact bind_plain k6 ndP kV doc pm an cdv ct us hl
  exact ⟨He.glo_ok KX G h1, fd, F', F'.bindsN ha, F'.bindsA ha⟩
theorem prg_ok (KX : K.In h) (G : h.Ns mainGlobals mg) (c : He.SaysD W.fa W.fn K) (hc : W.chk = true) : PrgOk W.p ⟨P, w, K, mg, base, 0, []⟩ := by
  unfold Whole.chk Prg.chk at hc
  simp only [Bool.and_eq_true, decide_eq_true_eq] at hc
  obtain ⟨h0, ⟨⟨h1, h2⟩, h3⟩, h4⟩ := hc
  have inA : ∀ d ∈ W.p.ds, d ∈ W.all := fun d hd => List.mem_append_left _ hd
  refine ⟨fun d hd => ?_, fun d hd => List.all_eq_true.mp h1 d hd, fun d hd => ?_, h2, fun f hf => ?_, fun x v e => ?_, fun x hx => ?_⟩
  · obtain ⟨e, fd, F, B, _⟩ := def_at KX G c h0 (inA d hd)
    exact ⟨e, d.args, fd, F, B⟩
  · have hk := List.all_eq_true.mp h0 d (inA d hd)
    unfold DG.chk at hk
    simp only [Bool.and_eq_true] at hk
    exact hk.1.1.1.1.1
  · have := List.all_eq_true.mp h3 f hf
    simpa using this
  · have hm : (x, v) ∈ W.p.cns := PySem.mem_of_lookup e
    have hk := List.all_eq_true.mp h4 _ hm
    have hfa : ∀ f ∈ cnFa (x, v), f ∈ W.fa := fun f hf => by
      unfold Whole.fa
      exact List.mem_append_left _ (List.mem_append_right _ (List.mem_flatMap.mpr ⟨_, hm, hf⟩))
    cases v with
    | int i =>
      obtain ⟨t, e1⟩ := He.int_ok KX G (says_fa c (hfa (.int x i) List.mem_cons_self))
      exact ⟨.int i, _, e1, ⟨t, rfl⟩, fun H => .int i⟩
    | str z =>
      obtain ⟨t, e1⟩ := He.str_ok KX G (says_fa c (hfa (.str x z) List.mem_cons_self))
      exact ⟨.str z, _, e1, ⟨t, rfl⟩, fun H => .str z⟩
    | _ => cases hk
  · exact He.free_ok KX G (says_fa c (f := .free x) (by
      unfold Whole.fa
      exact List.mem_append_right _ (List.mem_map.mpr ⟨x, hx, rfl⟩)))
end
end PF
end
section
set_option Elab.async false
set_option linter.all false
set_option maxRecDepth 100000
set_option maxHeartbeats 4000000
/-! PFah: the law's promise, the row's end. -/
namespace PF
open PySem PySem.Spec PyProof.Rows L2 PFS
theorem getD_ok {o : Option CS} (h : o.isSome = true) : o = some (o.getD .never) := by
  cases o with
  | none => cases h
  | some x => rfl
def spLaw (K : PySem.W.Frag) : Sp := fun vs H Q _ => ∃ a ns, vs = [V.ref a] ∧ SqL K H a (List.map V.int ns) ∧ ns.length < sizeLine ∧ ∀ H', Q (.bl true) H'
abbrev sCup : Str := "cup"
abbrev sLawCup : Str := "_law_cup"
abbrev sAbs : Str := "abs"
abbrev sList : Str := "list"
abbrev sInt : Str := "int"
def cupChk (U : DG) (free : List Str) : Bool := decide (U.name = sLawCup) && decide (U.ps = [sScript]) && decide (U.N = [sScript, sCell]) && kindB .local (U.scope.names.lookup sScript) && kindB .local (U.scope.names.lookup sCell) &&
  kindB .globalImplicit (U.scope.names.lookup sAbs) && kindB .globalImplicit (U.scope.names.lookup sList) && kindB .globalImplicit (U.scope.names.lookup sInt) && free.contains sAbs && free.contains sList && free.contains sInt
def lawS (p : Nat → Pos) : Stmt := .Assign [.Name "cup" (p 0)] (.Call (.Name "_law_cup" (p 1)) [.Name "script" (p 2)] [] (p 3)) (p 4)
def lawChk (p : Prg) (L : DG) (ci : Nat) : Bool := decide (L.ps = [sScript]) && decide (L.N[0]? = some sScript) && decide ((L.cmp p).slot sCup = some ci) && kindB .globalImplicit (L.scope.names.lookup sLawCup) && kindB .local (L.scope.names.lookup sScript)
def Whole.env0 (W : Whole) (ci : Nat) : Env := (List.replicate W.L.N.length none).set ci (some .cup)
section
variable {W : Whole} {K : PySem.W.Frag} {mg : Str → Option Value} {h : Heap} {P : Program} {w : World} {base : Heap}
theorem cup_fn (KX : K.In h) (G : h.Ns mainGlobals mg) (c : He.SaysD W.fa W.fn K) (hc : W.chk = true) (hu : cupChk W.U W.p.free = true) {k : Nat} {p : Nat → Pos} (hb : W.U.body = cupBody k p) :
    ∃ fd, FnOk P w K mg base (L2.CX P w) 1 (He.ga K sLawCup) fd [sScript] (spCup K) ∧ Binds K fd [sScript] [] ∧ mg sLawCup = some (.ref (He.ga K sLawCup)) ∧ PySem.W.keepIn K (.ref (He.ga K sLawCup)) = true := by
  have hc' := hc
  unfold Whole.chk at hc'
  simp only [Bool.and_eq_true] at hc'
  have inA : W.U ∈ W.all := List.mem_append_right _ List.mem_cons_self
  obtain ⟨e, fd, F, B, _⟩ := def_at KX G c hc'.1 inA
  have pk : PrgOk W.p ⟨P, w, K, mg, base, 0, []⟩ := prg_ok KX G c hc
  have hk := List.all_eq_true.mp hc'.1 _ inA
  unfold DG.chk at hk
  simp only [Bool.and_eq_true] at hk
  have S := C8.fnScope_by hk.1.1.1.1.1
  unfold cupChk at hu
  simp only [Bool.and_eq_true, decide_eq_true_eq] at hu
  obtain ⟨⟨⟨⟨⟨⟨⟨⟨⟨⟨u1, u2⟩, u3⟩, u4⟩, u5⟩, u6⟩, u7⟩, u8⟩, u9⟩, u10⟩, u11⟩ := hu
  rw [u1] at F e
  rw [u2] at B S
  rw [u3] at S
  have m1 : mg sAbs = none := pk.free _ (by simpa using u9)
  have m2 : mg sList = none := pk.free _ (by simpa using u10)
  have m3 : mg sInt = none := pk.free _ (by simpa using u11)
  refine ⟨fd, F.ok (CX := L2.CX P w) (base := base) (mg := mg) (P := P) (w := w) S (fun vs H Q E q => ?_) (fun cdv A outer s H vs Q E hr q => ?_), B, e, F.kp⟩
  · obtain ⟨a, ns, rfl, _⟩ := q
    rfl
  · rw [hb]
    refine ⟨_, pss_cup (X := cxOf (L2.CX P w) P w K mg base [sScript, sCell] sLawCup W.U.scope (He.ga K sLawCup) cdv A outer s H E) rfl (.inl (kindB_ok u4)) (kindB_ok u5) rfl (kindB_ok u6) (kindB_ok u7) (kindB_ok u8) m1 m2 m3, ?_⟩
    have q' := q
    obtain ⟨a, ns, rfl, hS, hl, hQ⟩ := q
    exact ⟨V.ref a, rfl, q'⟩
theorem law_fn (KX : K.In h) (G : h.Ns mainGlobals mg) (c : He.SaysD W.fa W.fn K) (hc : W.chk = true) (hu : cupChk W.U W.p.free = true) {k : Nat} {p : Nat → Pos} (hb : W.U.body = cupBody k p)
    {ci : Nat} (hl : lawChk W.p W.L ci = true) {pl : Nat → Pos} {rest : List Stmt} (hlb : W.L.body = lawS pl :: rest) {code : CS} (hcode : cB (cS 40 (W.L.cmp W.p) 40) rest = some code) {n : Nat} (hn : 1 ≤ n)
    (plain : ∀ x y : Int, 0 ≤ x → 0 ≤ y → y < 2147483563 → okP (fun fl _ => fl = .rt (.d (.bool true))) (ex (run W.p.tab n) code (W.env0 ci) (x, y))) :
    ∃ fd, mg W.L.name = some (.ref (He.ga K W.L.name)) ∧ (∀ (s : Shared) (u : Value), BindsTo s fd ⟨[u], []⟩ [(sScript, u)]) ∧ ∀ base, FnG P w K mg base (n + 1) (He.ga K W.L.name) fd [sScript] (spLaw K) := by
  have hc' := hc
  unfold Whole.chk at hc'
  simp only [Bool.and_eq_true] at hc'
  have inA : W.L ∈ W.all := List.mem_append_right _ (List.mem_cons_of_mem _ List.mem_cons_self)
  obtain ⟨e, fd, F, B, bnd⟩ := def_at KX G c hc'.1 inA
  have hk := List.all_eq_true.mp hc'.1 _ inA
  unfold DG.chk at hk
  simp only [Bool.and_eq_true] at hk
  have S := C8.fnScope_by hk.1.1.1.1.1
  unfold lawChk at hl
  simp only [Bool.and_eq_true, decide_eq_true_eq] at hl
  obtain ⟨⟨⟨⟨l1, l2⟩, l3⟩, l4⟩, l5⟩ := hl
  obtain ⟨s1, s2, _⟩ := slot_ok l3
  rw [l1] at S
  refine ⟨fd, e, fun s u => ?_, fun base => FnG.by_ (base := base) (mg := mg) (P := P) (w := w) F S (fun vs H Q E q => ?_) (fun cdv A outer s H vs Q E hr gd q => ?_)⟩
  · rw [l1] at bnd
    exact bnd s [u] rfl
  · obtain ⟨a, ns, rfl, _⟩ := q
    rfl
  · obtain ⟨fdU, FU, BU, mU, kU⟩ := cup_fn (P := P) (w := w) (base := base) KX G c hc hu hb
    have pk : PrgOk W.p ⟨P, w, K, mg, base, 0, []⟩ := prg_ok KX G c hc
    obtain ⟨a, ns, rfl, hS, hlen, hQ⟩ := q
    have ok := fun ρ => ok_of pk (fn_all pk n) (own := W.L.own) (qual := W.L.name) (scope := W.L.scope) (f := He.ga K W.L.name) (cdv := cdv) (outer := outer) (H := H) (E := E) hr gd S.nd ρ
    generalize hX : cxOf (L2.CX P w) P w K mg base W.L.N W.L.name W.L.scope (He.ga K W.L.name) cdv A outer s H E = X
    have restOk : ∀ ρ, PSs X rest (tS (cOf X ρ []) (run W.p.tab n) E code) := fun ρ => by
      rw [← hX]
      exact B_ok (fun s _ y h => cS_ok (ok ρ) S.kind (passes_of rfl) 40 s y h) hcode
    have hxs : X.env.scope = W.L.scope := by rw [← hX]; rfl
    obtain ⟨hloc, hfn⟩ := (ok 0).loc (C := W.L.cmp W.p) s2
    have p0 : ∀ pos, PE X (.Name "script" pos) (tVar 0) := fun pos => pe_var (by rw [← hX]; exact l2) (.inl (by rw [hxs]; exact kindB_ok l5)) (by decide +kernel) (by decide +kernel)
    have st1 : PS X (lawS pl) (tAsg (tCall (spCup K) [] E (tCons (tVar 0) tNil)) (gName ci)) := by
      rw [← hX]
      rw [← hX] at p0
      refine ps_set S.nd s1 hloc (pe_call FU (hr.mono hn) ?_ mU kU BU .nil ?_ (pa_cons (p0 _) pa_nil rfl) (by decide +kernel) rfl rfl) rfl hfn
      · exact kindB_ok l4
      · exact passes_call (takes_of rfl rfl rfl rfl) fun _ _ _ _ h => h
    rw [hlb]
    refine ⟨_, pss_cons st1 (u := fun D σ H => ∃ ρ, tS (cOf X ρ []) (run W.p.tab n) E code D σ H) ⟨fun pins s σ H D I ⟨ρ, h⟩ => (restOk ρ).run pins s σ H D I h⟩, ?_⟩
    have hst : L2.start W.L.N [V.ref a] = some (V.ref a) :: List.replicate (W.L.N.length - 1) none := rfl
    refine ⟨V.ref a, by rw [hst]; rfl, ?_⟩
    refine ⟨a, ns, rfl, hS, hlen, fun p x y H' sm hp hx hy hy2 => ⟨p, upd H' p (.lst [.int x, .int y]), W.env0 ci, (x, y), ?_, ?_⟩⟩
    · have hN : 1 ≤ W.L.N.length := by
        have := (List.getElem?_eq_some_iff.mp l2).1
        omega
      have only : ∀ (i : Nat) (v : Vl), (W.env0 ci)[i]? = some (some v) → i = ci ∧ v = .cup ∧ ci < W.L.N.length := fun i v e => by
        rcases set_some (show ((List.replicate W.L.N.length (none : Option Vl)).set ci (some .cup))[i]? = some (some v) from e) with ⟨h1, h2, h3⟩ | ⟨_, h1⟩
        · exact ⟨h1.symm, h2, by simpa using h3⟩
        · rw [List.getElem?_replicate] at h1
          split at h1 <;> cases h1
      refine ⟨⟨?_, fun i v e => ?_, fun i j x y v hij e1 e2 => ?_⟩, fun i y v e => ?_, Ext.refl _ _, ?_⟩
      · unfold Whole.env0
        rw [List.length_set, List.length_set, hst, List.length_replicate, List.length_cons, List.length_replicate]
        omega
      · obtain ⟨rfl, rfl, h3⟩ := only i v e
        refine ⟨V.ref p, ?_, .cup⟩
        rw [List.getElem?_set_self]
        rw [hst, List.length_cons, List.length_replicate]
        omega
      · obtain ⟨_, h2, _⟩ := only i _ e1
        cases h2
      · obtain ⟨_, h2, _⟩ := only i _ e
        cases h2
      · exact upd_same
    · refine okP.pst ((plain x y hx hy hy2).mono fun fl st q => ?_)
      subst q
      intro v H2 e2 s2 r2
      cases r2 with
      | d r2 =>
        cases r2
        exact hQ H2
/-- the law's def, called from without: its promise, at the heap behind the top (the script alone is known, or it is an object of the module) -/
theorem law_callG {P : Program} {w : World} {K : PySem.W.Frag} {mg mb : Str → Option Value} {k : Nat} {fa a : Addr} {fd : FuncData} {x : Str} {sp : Sp} {t : Shared} {vs : List Value} {ns : List Int}
    (KX : K.In t.heap) (hns : t.heap.Ns mainGlobals mg) (hb : t.heap.Ns builtinsNs mb) (hbb : ∀ x : Str, x ≠ "__name__" → mb x = bootBuiltins x) (hlim : t.heap.NoLimit) (hg : t.gens = #[])
    (ha : t.heap.get? a = some { cls := .type "list", data := .seq vs.toArray }) (hi : IntsAre vs ns) (hl : ns.length ≤ sizeLine) (hr : Room k callerA)
    (F : ∀ base : Heap, K.In base → base.Ns mainGlobals mg → FnG P w K mg base k fa fd [x] sp) (hbind : ∀ (s : Shared) (u : Value), BindsTo s fd ⟨[u], []⟩ [(x, u)])
    (hsp : ∀ H : Hp, Only H → SqL K H a (ns.map V.int) → sp [.ref a] H (fun v _ => v = .bl true) fun _ _ _ => False) (hCX : ∀ H e s', L2.CX P w [] H t (fun _ _ _ => False) e s' → False) :
    codeAny (model P w) callerA (.call (.ref fa) ⟨[.ref a], []⟩) (fun r s' => r = .ok (.ret (.bool true)) ∧ OldK t.heap s'.heap ∧ s'.os = t.os ∧ AllBare s'.gens) t := by
  have rv := L2.vals_ints hi
  have main : ∀ H : Hp, (∀ b, H b ≠ none → b = a ∧ K.lookup a = none) → Only H → SqL K H a (ns.map V.int) → HOk P w H t.heap →
      codeAny (model P w) callerA (.call (.ref fa) ⟨[.ref a], []⟩) (fun r s' => r = .ok (.ret (.bool true)) ∧ OldK t.heap s'.heap ∧ s'.os = t.os ∧ AllBare s'.gens) t := by
    intro H only hO hS hok
    have free : ∀ b, b ≠ a → H b = none := fun b hb => Classical.byContradiction fun z => hb (only b z).1
    have keepD : ∀ {b : Addr} {m : Str → Option Value}, t.heap.Ns b m → (hidT t.heap H).Ns b m := by
      rintro b m ⟨o, es, ep, e, d, r⟩
      refine ⟨o, es, ep, hidT_get e (free b fun z => ?_), d, r⟩
      subst z
      rw [ha] at e
      cases e
      cases d
    have keepK : K.In (hidT t.heap H) := fun b o e => hidT_get (KX b o e) <| Classical.byContradiction fun z => by
      obtain ⟨rfl, n⟩ := only b z
      rw [n] at e
      cases e
    have md : Mod K mg (hidT t.heap H) := ⟨keepK, keepD hns, ⟨mb, keepD hb, hbb⟩, hlim.elim fun mc z => ⟨mc, keepD z.1, z.2⟩⟩
    have e0 : Env0 P w K mg (hidT t.heap H) callerA [] t H := ⟨rfl, md, fun b o e => of_hidT e, Nat.le_of_eq (hidT_size _ _), trivial, fun b hb => (List.not_mem_nil hb).elim, hok, .of_eq hg⟩
    have go := (F _ keepK (keepD hns)).goes callerA [] t H ⟨[.ref a], []⟩ [.ref a] [.ref a] (fun v _ => v = .bl true) (fun _ _ _ => False) hr rfl e0 (hbind t (.ref a)) (.cons rfl .nil) (hsp H hO hS)
    refine codeAny_mono go fun z s' h => ?_
    match z, h with
    | .error e, h => exact (hCX H e s' h).elim
    | .ok .next, h => exact h.elim
    | .ok .brk, h => exact h.elim
    | .ok .cont, h => exact h.elim
    | .ok (.ret u), h =>
      obtain ⟨v, H', os, bare, un, hok', r', q⟩ := h
      have q' : v = V.bl true := q
      rw [q'] at r'
      have eu : u = Value.bool true := r'
      refine ⟨by rw [eu], OldK.of_keep fun b o e => ?_, os, bare⟩
      cases q2 : H b with
      | none => exact un.keep b o e q2 (fun z => (List.not_mem_nil (show b ∈ ([] : List Addr) from z)).elim) (fun z => List.not_mem_nil z)
      | some u2 =>
        obtain ⟨ob, xs, z⟩ := (hO b).resolve_left (by rw [q2]; exact fun z => nomatch z)
        have w1 := (hok b _ z).1
        have w2 := (hok' b _ (un.frzs b ob _ z)).1
        rw [e] at w1
        cases w1
        exact w2
  cases hk : K.lookup a with
  | some o =>
    have e := KX a o hk
    rw [ha] at e
    cases e
    exact main (fun _ => none) (fun b z => (z rfl).elim) (fun _ => .inl rfl) (.inr ⟨_, vs.toArray, _, hk, rfl, rfl, rfl, by rw [List.size_toArray, hi.length]; exact hl, by simpa using rv⟩) fun b u z => nomatch (show (none : Option HO) = some u from z)
  | none =>
    generalize hH : (fun b : Addr => if b = a then some (HO.frz { cls := .type "list", data := .seq vs.toArray } (.lst (ns.map V.int))) else none) = H
    have at_a : H a = some (HO.frz { cls := .type "list", data := .seq vs.toArray } (.lst (ns.map V.int))) := by rw [← hH]; exact if_pos rfl
    have off : ∀ b, b ≠ a → H b = none := fun b hb => by rw [← hH]; exact if_neg hb
    refine main H (fun b z => ⟨Classical.byContradiction fun hb => z (off b hb), hk⟩) (fun b => ?_) (.inl (.inr ⟨_, at_a⟩)) (fun b u z => ?_)
    · by_cases hb : b = a
      · exact .inr ⟨_, _, by rw [hb]; exact at_a⟩
      · exact .inl (off b hb)
    · by_cases hb : b = a
      · subst hb
        rw [at_a] at z
        cases z
        exact ⟨ha, by rw [List.length_map]; exact hl, vs, _, rv, ha⟩
      · rw [off b hb] at z
        cases z
/-- the end of a row: the promise of the law's def gives the walk -/
theorem walk_w {l : PySem.W.OpenLaw} {n k : Nat} {q : Program} {loose : List Str} {XP : (Str → Option Value) → Heap → Prop} {YP : World → Heap → Prop} {d : DefRec} {x : Str}
    (hn : l.most = some n) (hn2 : n ≤ sizeLine) (hdf : d.params.defaults = []) (hr : Room k callerA)
    (F : ∀ (w : World) (mg : Str → Option Value) (fa : Addr) (h : Heap), YP w h → h.Ns mainGlobals mg → mg d.name = some (.ref fa) →
      ∃ (K : PySem.W.Frag) (fd : FuncData) (sp : Sp), K.In h ∧ (∀ (s : Shared) (u : Value), BindsTo s fd ⟨[u], []⟩ [(x, u)]) ∧
        (∀ (H : Hp) (a : Addr) (ns : List Int), ns.length ≤ n → Only H → SqL K H a (ns.map V.int) → sp [.ref a] H (fun v _ => v = .bl true) fun _ _ _ => False) ∧
        ∀ base : Heap, K.In base → base.Ns mainGlobals mg → FnG l.prog w K mg base k fa fd [x] sp) :
    PySem.W.WalkO q loose XP YP l.row.toRowW d [] (fun f vs => PySem.call f vs) := by
  refine Att.attach_call hn hdf fun w s₀ s₁ mg mb fa o pm cd doc a vs ns G Y ho hd hcd hmg hobj hints hlen hg => ?_
  obtain ⟨K, fd, sp, KX, hb, hsp, hF⟩ := F w mg fa _ Y G.T.g hmg
  refine law_callG KX G.T.g G.T.b G.T.builtins G.T.nolimit hg hobj hints (Nat.le_trans hlen hn2) hr hF hb (fun H hO hS => hsp H a ns hlen hO hS) fun H e s' hh => ?_
  obtain ⟨_, _, _, _, _, _, _, _, _, _, _, _, h⟩ := hh
  exact h
theorem row_end {W : Whole} {l : PySem.W.OpenLaw} {m n dep : Nat} {q : Program} {loose : List Str} {XP : (Str → Option Value) → Heap → Prop} {d : DefRec}
    (hm : l.most = some m) (hm2 : m < sizeLine) (hdf : d.params.defaults = []) (hr : Room (n + 1) callerA) (hd : d.name = W.L.name)
    (hc : W.chk = true) (hu : cupChk W.U W.p.free = true) {k : Nat} {p : Nat → Pos} (hb : W.U.body = cupBody k p)
    {ci : Nat} (hl : lawChk W.p W.L ci = true) {pl : Nat → Pos} {rest : List Stmt} (hlb : W.L.body = lawS pl :: rest) {code : CS} (hcode : cB (cS 40 (W.L.cmp W.p) 40) rest = some code) (hn : 1 ≤ n)
    (plain : ∀ x y : Int, 0 ≤ x → 0 ≤ y → y < 2147483563 → okP (fun fl _ => fl = .rt (.d (.bool true))) (ex (run W.p.tab n) code (W.env0 ci) (x, y))) :
    PySem.W.WalkO q loose XP (He.hookD dep W.fa W.fn).says l.row.toRowW d [] (fun f vs => PySem.call f vs) := by
  refine walk_w (x := sScript) hm (Nat.le_of_lt hm2) hdf hr fun w mg fa h Y Y2 hmg => ?_
  obtain ⟨K, KX, c⟩ := Y
  obtain ⟨fd, e, bnd, F⟩ := law_fn (P := l.prog) (w := w) KX Y2 c hc hu hb hl hlb hcode hn plain
  rw [hd, e] at hmg
  cases hmg
  exact ⟨K, fd, spLaw K, KX, bnd, fun H a ns hlen _ hS => ⟨a, ns, rfl, hS, Nat.lt_of_le_of_lt hlen hm2, fun _ => rfl⟩, fun base _ _ => F base⟩
end
end PF
end
section
set_option Elab.async false
set_option linter.all false
set_option maxRecDepth 100000
set_option maxHeartbeats 4000000
/-! PGa: reckoning with the evaluator. -/
namespace PF
open PySem
/-- the table's def -/
def Has (T : Tab) (f : Str) (fd : Fd) : Prop := T.lookup f = some fd
theorem bd_ap {α β : Type} (m : M α) (f : α → M β) (s : St) : bd m f s = match m s with
  | .ok a s' => f a s'
  | .exc c v s' => .exc c v s'
  | .bad => .bad := rfl
theorem ret_ap {α : Type} (a : α) (s : St) : ret a s = .ok a s := rfl
theorem rD_ap (x : D) (s : St) : rD x s = .ok (.d x) s := rfl
theorem opt_some {α : Type} (a : α) : opt (some a) = ret a := rfl
theorem noexc_ok {α : Type} {m : M α} {s s' : St} {a : α} (h : m s = .ok a s') : noexc m s = .ok a s' := by unfold noexc; rw [h]
theorem lc_pure {α β : Type} {F : D → M (Option D)} (g : α → Option β) (e : α → D) (e' : β → D) {s : St} : ∀ {l : List α}, (∀ a ∈ l, F (e a) s = .ok ((g a).map e') s) → lcLoop F (l.map e) s = .ok ((l.filterMap g).map e') s
  | [], _ => rfl
  | a :: l, h => by
    rw [List.map_cons, lcLoop, bd_ap, h a List.mem_cons_self]
    dsimp only
    rw [bd_ap, lc_pure g e e' fun b hb => h b (List.mem_cons_of_mem _ hb)]
    dsimp only
    rw [List.filterMap_cons]
    cases g a <;> rfl
theorem lc_map {α β : Type} {F : D → M (Option D)} (g : α → β) (e : α → D) (e' : β → D) {s : St} {l : List α} (h : ∀ a ∈ l, F (e a) s = .ok (some (e' (g a))) s) : lcLoop F (l.map e) s = .ok ((l.map g).map e') s := by
  have := lc_pure (fun a => some (g a)) e e' (s := s) (l := l) (F := F) h
  rw [List.filterMap_eq_map'] at this
  exact this
theorem intsF_map (l : List Int) : intsF (l.map .int) = some l := by
  induction l with
  | nil => rfl
  | cons a l ih => rw [List.map_cons, intsF, ih]; rfl
theorem zip2 {α β : Type} (e : α → D) (e' : β → D) (l : List α) (m : List β) : (zipAll [l.map e, m.map e']).map PyData.tuple = (l.zip m).map fun p => PyData.tuple [e p.1, e' p.2] := by
  show (List.zipWith (fun x l => x :: l) (l.map e) ((m.map e').map fun x => [x])).map PyData.tuple = _
  induction l generalizing m with
  | nil => rfl
  | cons a l ih =>
    cases m with
    | nil => rfl
    | cons b m =>
      have := ih m
      simp only [List.map_cons, List.zipWith_cons_cons, List.zip_cons_cons] at this ⊢
      rw [this]
theorem atI_map {α β : Type} (f : α → β) (l : List α) (i : Int) : L2.atI (l.map f) i = (L2.atI l i).map f := by
  unfold L2.atI
  rw [List.length_map]
  cases L2.ixN l.length i with
  | none => rfl
  | some j => simp
theorem atI_at {α : Type} {l : List α} {i : Int} (h0 : 0 ≤ i) {x : α} (h : l[i.toNat]? = some x) : L2.atI l i = some x := by
  have hl := (List.getElem?_eq_some_iff.mp h).1
  unfold L2.atI L2.ixN
  rw [if_pos h0, if_pos (by omega)]
  exact h
theorem mulOk_l {i j : Int} (h : -(2 ^ 64) < i ∧ i < 2 ^ 64) : mulOk i j = true := by unfold mulOk; rw [decide_eq_true h]; rfl
theorem run_has {T : Tab} {f : Str} {fd : Fd} (h : Has T f fd) (k : Nat) (args : List Vl) (s : St) (ha : args.length = fd.np) (hn : args.all Vl.noOwn = true) : run T (k + 1) f args s = bd (ex (run T k) fd.body (args.map some ++ List.replicate (fd.nn - fd.np) none)) (fun o => match o with
        | .nx _ => rD .none
        | .rt v => ret v) s := by
  rw [run, show T.lookup f = some fd from h]
  exact congrFun (if_pos ⟨ha, hn⟩) s
/-- the rest waits for the answer -/
theorem bd_go {α β : Type} {m : M α} {f : α → M β} {a : α} {s s' : St} {r : R β} (h : m s = .ok a s') (k : f a s' = r) : bd m f s = r := by
  unfold bd
  rw [h]
  exact k
class BdFn (α β : Type) where
  fn : α → M β
def bdR {α β : Type} (r : R α) [f : BdFn α β] : R β := match r with
  | .ok a s' => f.fn a s'
  | .exc c v s' => .exc c v s'
  | .bad => .bad
theorem bd_R {α β : Type} (m : M α) (f : α → M β) (s : St) : bd m f s = @bdR α β (m s) ⟨f⟩ := rfl
theorem bdR_ok {α β : Type} (a : α) (s : St) (f : α → M β) : @bdR α β (.ok a s) ⟨f⟩ = f a s := rfl
theorem asD_d {α : Type} (x : D) (f : D → M α) : asD (.d x) f = f x := rfl
theorem asR_d {α : Type} (x : D) (f : D → M α) : asR (.d x) f = f x := rfl
theorem asR_o {α : Type} (x : D) (f : D → M α) : asR (.own x) f = f x := rfl
theorem asT_t {α : Type} (x : List D) (f : List D → M α) : asT (.d (.tuple x)) f = f x := rfl
theorem asL_l {α : Type} (x : List D) (f : List D → M α) : asL (.d (.list x)) f = f x := rfl
theorem asB_b {α : Type} (x : Bool) (f : Bool → M α) : asB (.d (.bool x)) f = f x := rfl
theorem nown_d (x : D) : nown (.d x) = ret (.d x) := rfl
theorem nown_c : nown .cup = ret .cup := rfl
theorem getV_0 (v : Vl) (env : Env) : getV (some v :: env) 0 = ret v := rfl
theorem getV_s (o : Option Vl) (env : Env) (i : Nat) : getV (o :: env) (i + 1) = getV env i := rfl
/-- a comprehension's body -/
def lcBody (G : Str → List Vl → M Vl) (own : List Nat) (g : Tg) (t y : CE) (env : Env) : D → M (Option D) := fun x => bd (opt (bindT g (.d x) (wipe env own))) fun e => bd (ev G t e) fun b => bd (truth b) fun t =>
        if t then bd (ev G y e) fun y => asD y fun y => ret (some y) else ret none
theorem ev_lc (G : Str → List Vl → M Vl) (own : List Nat) (g : Tg) (a t y : CE) (env : Env) : ev G (.lc own g a t y) env = bd (ev G a env) fun w => asL w fun xs => bd (noexc (lcLoop (lcBody G own g t y env) xs)) fun ys => bd (short ys) fun ys => rD (.list ys) := by
  rw [ev]
  rfl
def forBody (G : Str → List Vl → M Vl) (g : Tg) (b : CS) : D → Env → M Fl := fun x e => bd (opt (bindT g (.d x) e)) fun e' => ex G b e'
theorem ex_for (G : Str → List Vl → M Vl) (g : Tg) (a : CE) (b : CS) (env : Env) : ex G (.for_ g a b) env = bd (ev G a env) fun w => asL w fun xs => forLoop (forBody G g b) xs env := by
  rw [ex]
  rfl
theorem bindT_nm_d (i : Nat) (x : D) (env : Env) : bindT (.nm i) (.d x) env = some (env.set i (some (.d x))) := rfl
theorem bindT_nm_c (i : Nat) (env : Env) : bindT (.nm i) .cup env = some (env.set i (some .cup)) := rfl
theorem bindT_nil (env : Env) : bindT .nil (.d (.tuple [])) env = some env := rfl
theorem bindT_cons (a b : Tg) (x : D) (xs : List D) (env : Env) : bindT (.cons a b) (.d (.tuple (x :: xs))) env = (bindT a (.d x) env).bind fun e => bindT b (.d (.tuple xs)) e := rfl
theorem noexc_ap {α : Type} {s s' : St} {a : α} {m : M α} (h : m s = .ok a s') : noexc m s = .ok a s' := noexc_ok h
theorem sub_30 (a b c : D) : subF (.tuple [a, b, c]) (.int 0) = some a := rfl
theorem sub_31 (a b c : D) : subF (.tuple [a, b, c]) (.int 1) = some b := rfl
theorem sub_32 (a b c : D) : subF (.tuple [a, b, c]) (.int 2) = some c := rfl
theorem sub_20 (a b : D) : subF (.tuple [a, b]) (.int 0) = some a := rfl
theorem sub_21 (a b : D) : subF (.tuple [a, b]) (.int 1) = some b := rfl
theorem sub_ti {l : List Int} {i : Int} (h0 : 0 ≤ i) (h1 : i < l.length) : subF (.tuple (l.map .int)) (.int i) = some (.int (l.getD i.toNat 0)) := by
  have hl : i.toNat < l.length := by omega
  show L2.atI (l.map PyData.int) i = _
  rw [atI_map, atI_at h0 (List.getElem?_eq_getElem hl), List.getD_eq_getElem?_getD, List.getElem?_eq_getElem hl]
  rfl
theorem prim_sum (l : List Int) : primF .sum [.list (l.map .int)] = some (.int l.sum) := by
  show (intsF (l.map PyData.int)).map (fun ns => PyData.int ns.sum) = _
  rw [intsF_map]
  rfl
theorem as_len (v : Vl) (f : D → M Vl) : Pm.as .len v f = asR v f := rfl
theorem it_zip (xs ys : List D) : itF .zip [.tuple xs, .tuple ys] = some ((zipAll [xs, ys]).map .tuple) := rfl
theorem as_sum (v : Vl) (f : D → M Vl) : Pm.as .sum v f = asD v f := rfl
theorem evP_nil (G : Str → List Vl → M Vl) (env : Env) : evP G [] env = ret [] := by rw [evP]
theorem evP_cons (G : Str → List Vl → M Vl) (p : Bool × Nat × CE) (r : List (Bool × Nat × CE)) (env : Env) : evP G (p :: r) env = bd (ev G p.2.2 env) fun v => bd (evP G r env) fun vs => bd (mkO p.1 v) fun v => ret (v :: vs) := by rw [evP]
theorem mkO_f (v : Vl) : mkO false v = nown v := by cases v <;> rfl
theorem setP_cons (p : Bool × Nat × CE) (r : List (Bool × Nat × CE)) (v : Vl) (vs : List Vl) (env : Env) : setP (p :: r) (v :: vs) env = setP r vs (env.set p.2.1 (some v)) := rfl
theorem setP_nil (vs : List Vl) (env : Env) : setP [] vs env = env := by cases vs <;> rfl
theorem log2_ok {n : Nat} (h : n < 2 ^ 64) : n.log2 < 9000 := by
  by_cases h0 : n = 0
  · subst h0
    decide
  · exact Nat.lt_trans ((Nat.log2_lt h0).mpr h) (by decide)
theorem cm_gt (v : Vl) (f : D → M Vl) : Cm.as .gt v f = asD v f := rfl
theorem cm_lt (v : Vl) (f : D → M Vl) : Cm.as .lt v f = asD v f := rfl
theorem cm_ge (v : Vl) (f : D → M Vl) : Cm.as .ge v f = asD v f := rfl
theorem cm_le (v : Vl) (f : D → M Vl) : Cm.as .le v f = asD v f := rfl
theorem cm_eq (v : Vl) (f : D → M Vl) : Cm.as .eq v f = asD v f := rfl
theorem cm_ne (v : Vl) (f : D → M Vl) : Cm.as .ne v f = asD v f := rfl
theorem cm_is (v : Vl) (f : D → M Vl) : Cm.as .is_ v f = asD v f := rfl
theorem cm_isnot (v : Vl) (f : D → M Vl) : Cm.as .isnot v f = asD v f := rfl
theorem cm_in (v : Vl) (f : D → M Vl) : Cm.as .isin v f = asR v f := rfl
theorem cm_notin (v : Vl) (f : D → M Vl) : Cm.as .notin v f = asR v f := rfl
theorem eqF_d {α : Type} [DecidableEq α] [W.Datum α] (hd : W.Datum.depth α ≤ 64 := by decide) (x y : α) : eqF (W.Datum.toD x) (W.Datum.toD y) = some (decide (x = y)) := by
  unfold eqF
  rw [W.Datum.plain, W.Datum.plain, W.Datum.eqv, decide_eq_true (Nat.le_trans (Nat.min_le_left _ _) (Nat.le_trans (W.Datum.depth_le x) hd))]
  rfl
theorem isNone_d {α : Type} [DecidableEq α] [W.DatumOrd α] (x : α) : isNone (W.Datum.toD x) = false := by
  have h := W.DatumOrd.notNone x
  cases e : (W.Datum.toD x : PyData) with
  | none => exact absurd e h
  | _ => rfl
theorem ltF_d {α : Type} [DecidableEq α] [W.DatumOrd α] (hd : W.Datum.depth α ≤ 64 := by decide) (x y : α) : ltF (W.Datum.toD x) (W.Datum.toD y) = some (W.DatumOrd.lt x y) := by
  unfold ltF
  rw [W.DatumOrd.alike, isNone_d, W.DatumOrd.lt_eq, decide_eq_true (Nat.le_trans (Nat.min_le_left _ _) (Nat.le_trans (W.Datum.depth_le x) hd))]
  rfl
theorem gtF_d {α : Type} [DecidableEq α] [W.DatumOrd α] (hd : W.Datum.depth α ≤ 64 := by decide) (x y : α) : gtF (W.Datum.toD x) (W.Datum.toD y) = some (W.DatumOrd.lt y x) := by
  unfold gtF
  rw [W.DatumOrd.alike, isNone_d, W.DatumOrd.lt_eq, decide_eq_true (Nat.le_trans (Nat.min_le_left _ _) (Nat.le_trans (W.Datum.depth_le x) hd))]
  rfl
theorem ltF_i (a b : Int) : ltF (.int a) (.int b) = some (decide (a < b)) := ltF_d (α := Int) (by decide) a b
theorem gtF_i (a b : Int) : gtF (.int a) (.int b) = some (decide (b < a)) := gtF_d (α := Int) (by decide) a b
theorem cmp_gt (a b : Int) : cmpF .gt (.int a) (.int b) = some (decide (b < a)) := gtF_i a b
theorem cmp_lt (a b : Int) : cmpF .lt (.int a) (.int b) = some (decide (a < b)) := ltF_i a b
theorem cmp_ge (a b : Int) : cmpF .ge (.int a) (.int b) = some (decide (b ≤ a)) := by
  show (ltF (.int a) (.int b)).map (!·) = _
  rw [ltF_i]
  show some (!decide (a < b)) = _
  by_cases h : a < b
  · rw [decide_eq_true h, decide_eq_false (by omega)]; rfl
  · rw [decide_eq_false h, decide_eq_true (by omega)]; rfl
theorem cmp_le (a b : Int) : cmpF .le (.int a) (.int b) = some (decide (a ≤ b)) := by
  show (gtF (.int a) (.int b)).map (!·) = _
  rw [gtF_i]
  show some (!decide (b < a)) = _
  by_cases h : b < a
  · rw [decide_eq_true h, decide_eq_false (by omega)]; rfl
  · rw [decide_eq_false h, decide_eq_true (by omega)]; rfl
theorem cmp_eq (a b : Int) : cmpF .eq (.int a) (.int b) = some (decide (a = b)) := eqF_d (α := Int) (by decide) a b
theorem cmp_ne (a b : Int) : cmpF .ne (.int a) (.int b) = some (!decide (a = b)) := by
  show (eqF (.int a) (.int b)).map (!·) = _
  rw [show eqF (.int a) (.int b) = _ from eqF_d (α := Int) (by decide) a b]
  rfl
theorem tr_b (b : Bool) (s : St) : truth (.d (.bool b)) s = .ok b s := rfl
theorem cup_0 (s : St) : cupAt (.int 0) s = .ok (.d (.int s.1)) s := rfl
theorem cup_1 (s : St) : cupAt (.int 1) s = .ok (.d (.int s.2)) s := rfl
theorem set_0 {env : Env} {j : Nat} (h : env[j]? = some (some .cup)) (i : Int) (s : St) : setJ env j (.int 0) (.int i) s = .ok env (i, s.2) := by
  unfold setJ
  rw [h]
  rfl
theorem set_1 {env : Env} {j : Nat} (h : env[j]? = some (some .cup)) (i : Int) (s : St) : setJ env j (.int 1) (.int i) s = .ok env (s.1, i) := by
  unfold setJ
  rw [h]
  rfl
theorem has_j {env : Env} {j : Nat} {v : Vl} (h : env[j]? = some (some v)) : hasJ env j = true := by
  unfold hasJ
  rw [h]
theorem prim_int (i : Int) : primF .int [.int i] = some (.int i) := rfl
theorem pm_int (v : Vl) (f : D → M Vl) : Pm.as .int v f = asD v f := rfl
theorem add_ii (a b : Int) : binF .add (.int a) (.int b) = some (.int (a + b)) := rfl
theorem sub_ii (a b : Int) : binF .sub (.int a) (.int b) = some (.int (a - b)) := rfl
theorem mul_ii {a b : Int} (h : mulOk a b = true) : binF .mul (.int a) (.int b) = some (.int (a * b)) := if_pos h
theorem fdiv_ii {a b : Int} (h : b ≠ 0 ∧ b.natAbs.log2 < 9000) : binF .fdiv (.int a) (.int b) = some (.int (a.fdiv b)) := if_pos h
theorem mod_ii {a b : Int} (h : b ≠ 0) : binF .mod (.int a) (.int b) = some (.int (a.fmod b)) := if_pos h
theorem len_l (l : List D) : primF .len [.list l] = some (.int l.length) := rfl
theorem len_t (l : List D) : primF .len [.tuple l] = some (.int l.length) := rfl
theorem hasJ_0 (v : Vl) (env : Env) : hasJ (some v :: env) 0 = true := rfl
theorem hasJ_s (o : Option Vl) (env : Env) (j : Nat) : hasJ (o :: env) (j + 1) = hasJ env j := rfl
theorem ownJ_0 (l : List D) (env : Env) : ownJ (some (.own (.list l)) :: env) 0 = true := rfl
theorem ownJ_s (o : Option Vl) (env : Env) (j : Nat) : ownJ (o :: env) (j + 1) = ownJ env j := rfl
theorem pm_tuple (v : Vl) (f : D → M Vl) : Pm.as .tuple v f = asD v f := rfl
theorem tuple_l (l : List D) : primF .tuple [.list l] = some (.tuple l) := rfl
theorem pm_all (v : Vl) (f : D → M Vl) : Pm.as .all v f = asD v f := rfl
theorem pm_isI (t : Ty) (v : Vl) (f : D → M Vl) : Pm.as (.isI t) v f = asD v f := rfl
theorem pm_max (v : Vl) (f : D → M Vl) : Pm.as .max v f = asD v f := rfl
theorem pm_sset (v : Vl) (f : D → M Vl) : Pm.as .sortedset v f = asD v f := rfl
theorem it_seq_l (l : List D) : itF .seq [.list l] = some l := rfl
theorem it_seq_t (l : List D) : itF .seq [.tuple l] = some l := rfl
theorem it_enum_l (l : List D) : itF .enum [.list l] = some (enumFrom 0 l) := rfl
theorem it_enum_t (l : List D) : itF .enum [.tuple l] = some (enumFrom 0 l) := rfl
theorem short_ok {l : List D} (h : l.length ≤ line) : short l = ret l := if_pos h
theorem short0 : short [] = ret [] := if_pos (show 0 ≤ line by decide)
theorem short1 (x0 : D) : short [x0] = ret [x0] := if_pos (show 1 ≤ line by decide)
theorem short2 (x0 x1 : D) : short [x0, x1] = ret [x0, x1] := if_pos (show 2 ≤ line by decide)
theorem short3 (x0 x1 x2 : D) : short [x0, x1, x2] = ret [x0, x1, x2] := if_pos (show 3 ≤ line by decide)
theorem short4 (x0 x1 x2 x3 : D) : short [x0, x1, x2, x3] = ret [x0, x1, x2, x3] := if_pos (show 4 ≤ line by decide)
theorem short5 (x0 x1 x2 x3 x4 : D) : short [x0, x1, x2, x3, x4] = ret [x0, x1, x2, x3, x4] := if_pos (show 5 ≤ line by decide)
theorem short6 (x0 x1 x2 x3 x4 x5 : D) : short [x0, x1, x2, x3, x4, x5] = ret [x0, x1, x2, x3, x4, x5] := if_pos (show 6 ≤ line by decide)
theorem short7 (x0 x1 x2 x3 x4 x5 x6 : D) : short [x0, x1, x2, x3, x4, x5, x6] = ret [x0, x1, x2, x3, x4, x5, x6] := if_pos (show 7 ≤ line by decide)
theorem short8 (x0 x1 x2 x3 x4 x5 x6 x7 : D) : short [x0, x1, x2, x3, x4, x5, x6, x7] = ret [x0, x1, x2, x3, x4, x5, x6, x7] := if_pos (show 8 ≤ line by decide)
theorem short9 (x0 x1 x2 x3 x4 x5 x6 x7 x8 : D) : short [x0, x1, x2, x3, x4, x5, x6, x7, x8] = ret [x0, x1, x2, x3, x4, x5, x6, x7, x8] := if_pos (show 9 ≤ line by decide)
theorem short10 (x0 x1 x2 x3 x4 x5 x6 x7 x8 x9 : D) : short [x0, x1, x2, x3, x4, x5, x6, x7, x8, x9] = ret [x0, x1, x2, x3, x4, x5, x6, x7, x8, x9] := if_pos (show 10 ≤ line by decide)
theorem short11 (x0 x1 x2 x3 x4 x5 x6 x7 x8 x9 x10 : D) : short [x0, x1, x2, x3, x4, x5, x6, x7, x8, x9, x10] = ret [x0, x1, x2, x3, x4, x5, x6, x7, x8, x9, x10] := if_pos (show 11 ≤ line by decide)
theorem short12 (x0 x1 x2 x3 x4 x5 x6 x7 x8 x9 x10 x11 : D) : short [x0, x1, x2, x3, x4, x5, x6, x7, x8, x9, x10, x11] = ret [x0, x1, x2, x3, x4, x5, x6, x7, x8, x9, x10, x11] := if_pos (show 12 ≤ line by decide)
theorem ev_var (G : Str → List Vl → M Vl) (i : Nat) (env : Env) : ev G (.var i) env = getV env i := by first | (rw [ev]; done) | (rw [ev]; rfl)
theorem ev_cst (G : Str → List Vl → M Vl) (v : D) (env : Env) : ev G (.cst v) env = rD v := by first | (rw [ev]; done) | (rw [ev]; rfl)
theorem ev_fnv (G : Str → List Vl → M Vl) (x : Str) (env : Env) : ev G (.fnv x) env = ret (.fn x) := by first | (rw [ev]; done) | (rw [ev]; rfl)
theorem ev_nil (G : Str → List Vl → M Vl)  (env : Env) : ev G (.nil) env = rD (.tuple []) := by first | (rw [ev]; done) | (rw [ev]; rfl)
theorem ev_cons (G : Str → List Vl → M Vl) (a : CE) (b : CE) (env : Env) : ev G (.cons a b) env = bd (ev G a env) fun v => bd (ev G b env) fun w => asD v fun x => asT w fun l => rD (.tuple (x :: l)) := by first | (rw [ev]; done) | (rw [ev]; rfl)
theorem ev_tup (G : Str → List Vl → M Vl) (a : CE) (env : Env) : ev G (.tup a) env = bd (ev G a env) fun w => asT w fun l => bd (short l) fun l => rD (.tuple l) := by first | (rw [ev]; done) | (rw [ev]; rfl)
theorem ev_lst (G : Str → List Vl → M Vl) (a : CE) (env : Env) : ev G (.lst a) env = bd (ev G a env) fun w => asT w fun l => bd (short l) fun l => rD (.list l) := by first | (rw [ev]; done) | (rw [ev]; rfl)
theorem ev_neg (G : Str → List Vl → M Vl) (a : CE) (env : Env) : ev G (.neg a) env = bd (ev G a env) fun v => asD v fun x => match x with
    | .int i => rD (.int (-i))
    | _ => bad := by first | (rw [ev]; done) | (rw [ev]; rfl)
theorem ev_not (G : Str → List Vl → M Vl) (a : CE) (env : Env) : ev G (.not a) env = bd (ev G a env) fun v => asB v fun b => rD (.bool (!b)) := by first | (rw [ev]; done) | (rw [ev]; rfl)
theorem ev_bin (G : Str → List Vl → M Vl) (o : Bi) (a : CE) (b : CE) (env : Env) : ev G (.bin o a b) env = bd (ev G a env) fun v => bd (ev G b env) fun w => asD v fun x => asD w fun y => bd (opt (binF o x y)) rD := by first | (rw [ev]; done) | (rw [ev]; rfl)
theorem ev_cmp (G : Str → List Vl → M Vl) (o : Cm) (a : CE) (b : CE) (env : Env) : ev G (.cmp o a b) env = bd (ev G a env) fun v => bd (ev G b env) fun w => asD v fun x => o.as w fun y => bd (opt (cmpF o x y)) fun t => rD (.bool t) := by first | (rw [ev]; done) | (rw [ev]; rfl)
theorem ev_chain (G : Str → List Vl → M Vl) (o : Cm) (p : Cm) (a : CE) (b : CE) (c : CE) (env : Env) : ev G (.chain o p a b c) env = bd (ev G a env) fun v => bd (ev G b env) fun w => asD v fun x => asD w fun y => bd (opt (cmpF o x y)) fun t =>
      if t then bd (ev G c env) fun u => asD u fun z => bd (opt (cmpF p y z)) fun t => rD (.bool t) else rD (.bool false) := by first | (rw [ev]; done) | (rw [ev]; rfl)
theorem ev_and (G : Str → List Vl → M Vl) (a : CE) (b : CE) (env : Env) : ev G (.and a b) env = bd (ev G a env) fun v => asB v fun t => if t then ev G b env else rD (.bool false) := by first | (rw [ev]; done) | (rw [ev]; rfl)
theorem ev_or (G : Str → List Vl → M Vl) (a : CE) (b : CE) (env : Env) : ev G (.or a b) env = bd (ev G a env) fun v => asB v fun t => if t then rD (.bool true) else ev G b env := by first | (rw [ev]; done) | (rw [ev]; rfl)
theorem ev_ite (G : Str → List Vl → M Vl) (c : CE) (a : CE) (b : CE) (env : Env) : ev G (.ite c a b) env = bd (ev G c env) fun v => bd (truth v) fun t => if t then ev G a env else ev G b env := by first | (rw [ev]; done) | (rw [ev]; rfl)
theorem ev_sub (G : Str → List Vl → M Vl) (a : CE) (i : CE) (env : Env) : ev G (.sub a i) env = bd (ev G a env) fun v => bd (ev G i env) fun w => asD w fun y => match v with
    | .cup => cupAt y
    | v => asR v fun x => bd (opt (subF x y)) rD := by first | (rw [ev]; done) | (rw [ev]; rfl)
theorem ev_slc (G : Str → List Vl → M Vl) (bl : Bool) (bh : Bool) (a : CE) (lo : CE) (hi : CE) (env : Env) : ev G (.slc bl bh a lo hi) env = bd (ev G a env) fun v => bd (bd (ev G lo env) fun l => asD l fun y => opt (boundF bl y)) fun o1 => bd (bd (ev G hi env) fun h => asD h fun z => opt (boundF bh z)) fun o2 => asD v fun x => bd (opt (cutD x o1 o2)) rD := by first | (rw [ev]; done) | (rw [ev]; rfl)
theorem ev_rev (G : Str → List Vl → M Vl) (a : CE) (env : Env) : ev G (.rev a) env = bd (ev G a env) fun v => asD v fun x => match x with
    | .list xs => rD (.list xs.reverse)
    | .tuple xs => rD (.tuple xs.reverse)
    | _ => bad := by first | (rw [ev]; done) | (rw [ev]; rfl)
theorem ev_call (G : Str → List Vl → M Vl) (f : Str) (a : CE) (env : Env) : ev G (.call f a) env = bd (evs G a env) fun l => G f l := by first | (rw [ev]; done) | (rw [ev]; rfl)
theorem ev_prim (G : Str → List Vl → M Vl) (p : Pm) (a : CE) (b : CE) (env : Env) : ev G (.prim p a b) env = bd (ev G a env) fun v => bd (ev G b env) fun w => asT w fun l => p.as v fun x => bd (opt (primF p (x :: l))) rD := by first | (rw [ev]; done) | (rw [ev]; rfl)
theorem ev_it (G : Str → List Vl → M Vl) (k : Ik) (a : CE) (env : Env) : ev G (.it k a) env = bd (ev G a env) fun w => asT w fun l => bd (opt (itF k l)) fun xs => rD (.list xs) := by first | (rw [ev]; done) | (rw [ev]; rfl)
theorem ex_nop (G : Str → List Vl → M Vl)  (env : Env) : ex G (.nop) env = ret (.nx env) := by first | (rw [ex]; done) | (rw [ex]; rfl)
theorem ex_seq (G : Str → List Vl → M Vl) (a : CS) (b : CS) (env : Env) : ex G (.seq a b) env = bd (ex G a env) fun o => match o with
    | .nx e => ex G b e
    | .rt v => ret (.rt v) := by first | (rw [ex]; done) | (rw [ex]; rfl)
theorem ex_asg (G : Str → List Vl → M Vl) (g : Tg) (e : CE) (env : Env) : ex G (.asg g e) env = bd (ev G e env) fun v => bd (opt (bindT g v env)) fun e' => ret (.nx e') := by first | (rw [ex]; done) | (rw [ex]; rfl)
theorem ex_asgs (G : Str → List Vl → M Vl) (l : List (Bool × Nat × CE)) (env : Env) : ex G (.asgs l) env = bd (evP G l env) fun vs => ret (.nx (setP l vs env)) := by first | (rw [ex]; done) | (rw [ex]; rfl)
theorem ex_frz (G : Str → List Vl → M Vl) (i : Nat) (env : Env) : ex G (.frz i) env = bd (thaw env i) fun e => ret (.nx e) := by first | (rw [ex]; done) | (rw [ex]; rfl)
theorem ex_exp (G : Str → List Vl → M Vl) (e : CE) (env : Env) : ex G (.exp e) env = bd (ev G e env) fun _ => ret (.nx env) := by first | (rw [ex]; done) | (rw [ex]; rfl)
theorem ex_ret (G : Str → List Vl → M Vl) (e : CE) (env : Env) : ex G (.ret e) env = bd (ev G e env) fun v => bd (nown v) fun v => ret (.rt v) := by first | (rw [ex]; done) | (rw [ex]; rfl)
theorem ex_retN (G : Str → List Vl → M Vl)  (env : Env) : ex G (.retN) env = ret (.rt (.d .none)) := by first | (rw [ex]; done) | (rw [ex]; rfl)
theorem ex_ite (G : Str → List Vl → M Vl) (c : CE) (a : CS) (b : CS) (env : Env) : ex G (.ite c a b) env = bd (ev G c env) fun v => bd (truth v) fun t => if t then ex G a env else ex G b env := by first | (rw [ex]; done) | (rw [ex]; rfl)
theorem ex_whl (G : Str → List Vl → M Vl) (c : CE) (b : CS) (env : Env) : ex G (.whl c b) env = whileLoop (fun e => bd (ev G c e) truth) (fun e => ex G b e) fuel env := by first | (rw [ex]; done) | (rw [ex]; rfl)
theorem ex_never (G : Str → List Vl → M Vl)  (env : Env) : ex G (.never) env = bad := by first | (rw [ex]; done) | (rw [ex]; rfl)
theorem ex_raise_ (G : Str → List Vl → M Vl) (x : Str) (e : CE) (env : Env) : ex G (.raise_ x e) env = bd (ev G e env) fun v => asD v fun y => fun s => .exc x y s := by first | (rw [ex]; done) | (rw [ex]; rfl)
theorem ex_sets (G : Str → List Vl → M Vl) (j : Nat) (i : CE) (e : CE) (env : Env) : ex G (.sets j i e) env = if hasJ env j then bd (ev G e env) fun v => asD v fun z => bd (ev G i env) fun w => asD w fun y => bd (setJ env j y z) fun e => ret (.nx e) else bad := by first | (rw [ex]; done) | (rw [ex]; rfl)
theorem ex_app (G : Str → List Vl → M Vl) (j : Nat) (e : CE) (env : Env) : ex G (.app j e) env = if ownJ env j then bd (ev G e env) fun v => asD v fun z => bd (appJ env j z) fun e => ret (.nx e) else bad := by first | (rw [ex]; done) | (rw [ex]; rfl)
theorem evs_nil (G : Str → List Vl → M Vl) (env : Env) : evs G .nil env = ret [] := by rw [evs]
theorem evs_cons (G : Str → List Vl → M Vl) (a b : CE) (env : Env) : evs G (.cons a b) env = bd (ev G a env) fun v => bd (evs G b env) fun vs => bd (nown v) fun v => ret (v :: vs) := by rw [evs]
end PF
end
section
set_option Elab.async false
set_option linter.all false
set_option maxRecDepth 100000
set_option maxHeartbeats 4000000
/-! PGb: the cup. -/
namespace PF
open PySem
def c__law_roll : Fd := ⟨2, 4, (.seq (.ite (.cmp .gt (.sub (.var 0) (.cst (.int (0)))) (.cst (.int (0)))) (.seq (.asgs [(false, 3, (.bin .mod (.prim .int (.sub (.var 0) (.cst (.int (0)))) .nil) (.var 1)))]) (.seq (.sets 0 (.cst (.int (0))) (.bin .fdiv (.sub (.var 0) (.cst (.int (0)))) (.var 1))) (.ret (.var 3)))) .nop) (.seq (.sets 0 (.cst (.int (1))) (.bin .mod (.prim .int (.bin .add (.bin .mul (.sub (.var 0) (.cst (.int (1)))) (.cst (.int (31019)))) (.cst (.int (7951)))) .nil) (.cst (.int (2147483563))))) (.seq (.asgs [(false, 2, (.bin .mod (.prim .int (.bin .mul (.sub (.var 0) (.cst (.int (1)))) (.bin .add (.sub (.var 0) (.cst (.int (1)))) (.cst (.int (223))))) .nil) (.cst (.int (2147483587)))))]) (.ret (.bin .mod (.prim .int (.bin .fdiv (.var 2) (.cst (.int (809)))) .nil) (.var 1))))))⟩
def c__law_some : Fd := ⟨2, 2, (.ret (.sub (.var 1) (.call "_law_roll" (.cons (.var 0) (.cons (.prim .len (.var 1) .nil) .nil)))))⟩
/-- what is known of the cup -/
def CupOk (s : St) : Prop := 0 ≤ s.1 ∧ 0 ≤ s.2 ∧ s.2 < 2147483563
theorem r_roll {T : Tab} (h : Has T "_law_roll" c__law_roll) (k : Nat) {many : Int} (hm : 0 < many) (hm2 : many < 2 ^ 64) {s : St} (hs : CupOk s) :
    ∃ r s', run T (k + 1) "_law_roll" [.cup, .d (.int many)] s = .ok (.d (.int r)) s' ∧ 0 ≤ r ∧ r < many ∧ CupOk s' := by
  obtain ⟨a, b⟩ := s
  obtain ⟨h1, h2, h3⟩ := hs
  simp only at h1 h2 h3
  have hlog : many ≠ 0 ∧ many.natAbs.log2 < 9000 := ⟨by omega, log2_ok (by omega)⟩
  rw [run_has h _ _ _ rfl rfl]
  by_cases ha : 0 < a
  · refine ⟨a.fmod many, (a.fdiv many, b), ?_, Int.fmod_nonneg_of_pos a hm, Int.fmod_lt_of_pos a hm, ?_, h2, h3⟩
    · simp only [c__law_roll, ↓ex_for, ↓ev_lc, ↓ev_var, ↓ev_cst, ↓ev_fnv, ↓ev_nil, ↓ev_cons, ↓ev_tup, ↓ev_lst, ↓ev_neg, ↓ev_not, ↓ev_bin, ↓ev_cmp, ↓ev_chain, ↓ev_and, ↓ev_or, ↓ev_ite, ↓ev_sub, ↓ev_slc, ↓ev_rev, ↓ev_call, ↓ev_prim, ↓ev_it, ↓ex_nop, ↓ex_seq, ↓ex_asg, ↓ex_asgs, ↓ex_frz, ↓ex_exp, ↓ex_ret, ↓ex_retN, ↓ex_ite, ↓ex_whl, ↓ex_never, ↓ex_raise_, ↓ex_sets, ↓ex_app, ↓evs_nil, ↓evs_cons, ↓bd_R, bdR_ok, ↓asD_d, ↓asT_t, ↓asL_l, ↓asR_d, ↓asB_b, getV_0, getV_s, ret_ap, rD_ap, List.set_cons_zero, List.set_cons_succ, bindT_nm_d, bindT_nm_c, bindT_cons, bindT_nil, Option.bind_some, opt_some, nown_d, nown_c, List.map_cons, List.map_nil, List.replicate, List.cons_append, List.nil_append, evP_nil, evP_cons, mkO_f, setP_cons, setP_nil, cm_gt, cm_lt, cm_ge, cm_le, cm_eq, cm_ne, cm_is, cm_isnot, cm_in, cm_notin, cmp_gt, cmp_lt, cmp_ge, cmp_le, cmp_eq, cmp_ne, tr_b, cup_0, cup_1, prim_int, pm_int, add_ii, sub_ii, hasJ_0, hasJ_s, ownJ_0, ownJ_s, ↓reduceIte, eq_self, Bool.false_eq_true, set_0, set_1, List.getElem?_cons_zero, List.getElem?_cons_succ, pm_tuple, tuple_l, pm_all, pm_isI, pm_max, pm_sset, it_seq_l, it_seq_t, it_enum_l, it_enum_t, as_len, len_l, len_t, as_sum, sub_30, sub_31, sub_32, sub_20, sub_21, short0, short1, short2, short3, short4, short5, short6, short7, short8, short9, short10, short11, short12, fdiv_ii hlog, mod_ii hlog.1, decide_eq_true ha]
    · exact Int.fdiv_nonneg h1 (by omega)
  · have m1 : mulOk b 31019 = true := mulOk_l ⟨by omega, by omega⟩
    generalize hb : (b * 31019 + 7951).fmod 2147483563 = b'
    have p0 : 0 ≤ b' := by rw [← hb]; exact Int.fmod_nonneg_of_pos _ (by decide)
    have p1 : b' < 2147483563 := by rw [← hb]; exact Int.fmod_lt_of_pos _ (by decide)
    have m2 : mulOk b' (b' + 223) = true := mulOk_l ⟨by omega, by omega⟩
    generalize hd : (b' * (b' + 223)).fmod 2147483587 = d
    refine ⟨(d.fdiv 809).fmod many, (a, b'), ?_, Int.fmod_nonneg_of_pos _ hm, Int.fmod_lt_of_pos _ hm, h1, p0, p1⟩
    have g1 : (2147483563 : Int) ≠ 0 := by decide
    have g2 : (2147483587 : Int) ≠ 0 := by decide
    have g3 : (809 : Int) ≠ 0 ∧ (809 : Int).natAbs.log2 < 9000 := ⟨by decide, log2_ok (by decide)⟩
    simp only [c__law_roll, ↓ex_for, ↓ev_lc, ↓ev_var, ↓ev_cst, ↓ev_fnv, ↓ev_nil, ↓ev_cons, ↓ev_tup, ↓ev_lst, ↓ev_neg, ↓ev_not, ↓ev_bin, ↓ev_cmp, ↓ev_chain, ↓ev_and, ↓ev_or, ↓ev_ite, ↓ev_sub, ↓ev_slc, ↓ev_rev, ↓ev_call, ↓ev_prim, ↓ev_it, ↓ex_nop, ↓ex_seq, ↓ex_asg, ↓ex_asgs, ↓ex_frz, ↓ex_exp, ↓ex_ret, ↓ex_retN, ↓ex_ite, ↓ex_whl, ↓ex_never, ↓ex_raise_, ↓ex_sets, ↓ex_app, ↓evs_nil, ↓evs_cons, ↓bd_R, bdR_ok, ↓asD_d, ↓asT_t, ↓asL_l, ↓asR_d, ↓asB_b, getV_0, getV_s, ret_ap, rD_ap, List.set_cons_zero, List.set_cons_succ, bindT_nm_d, bindT_nm_c, bindT_cons, bindT_nil, Option.bind_some, opt_some, nown_d, nown_c, List.map_cons, List.map_nil, List.replicate, List.cons_append, List.nil_append, evP_nil, evP_cons, mkO_f, setP_cons, setP_nil, cm_gt, cm_lt, cm_ge, cm_le, cm_eq, cm_ne, cm_is, cm_isnot, cm_in, cm_notin, cmp_gt, cmp_lt, cmp_ge, cmp_le, cmp_eq, cmp_ne, tr_b, cup_0, cup_1, prim_int, pm_int, add_ii, sub_ii, hasJ_0, hasJ_s, ownJ_0, ownJ_s, ↓reduceIte, eq_self, Bool.false_eq_true, set_0, set_1, List.getElem?_cons_zero, List.getElem?_cons_succ, pm_tuple, tuple_l, pm_all, pm_isI, pm_max, pm_sset, it_seq_l, it_seq_t, it_enum_l, it_enum_t, as_len, len_l, len_t, as_sum, sub_30, sub_31, sub_32, sub_20, sub_21, short0, short1, short2, short3, short4, short5, short6, short7, short8, short9, short10, short11, short12, fdiv_ii g3, mod_ii hlog.1, mod_ii g1, mod_ii g2, mul_ii m1, mul_ii m2, hb, hd, decide_eq_false ha]
theorem r_some {T : Tab} (hr : Has T "_law_roll" c__law_roll) (h : Has T "_law_some" c__law_some) (k : Nat) {l : List D} (h0 : l ≠ []) (hl : l.length ≤ 1000) {s : St} (hs : CupOk s) :
    ∃ d s', run T (k + 2) "_law_some" [.cup, .d (.list l)] s = .ok (.d d) s' ∧ d ∈ l ∧ CupOk s' := by
  have hp : 0 < l.length := List.length_pos_iff.mpr h0
  obtain ⟨r, s', e, h1, h2, h3⟩ := r_roll hr k (many := l.length) (by omega) (by omega) hs
  have hlt : r.toNat < l.length := by omega
  refine ⟨l[r.toNat], s', ?_, List.getElem_mem hlt, h3⟩
  have hsub : subF (.list l) (.int r) = some l[r.toNat] := atI_at h1 (List.getElem?_eq_getElem hlt)
  rw [run_has h _ _ _ rfl rfl]
  simp only [c__law_some, ↓ex_for, ↓ev_lc, ↓ev_var, ↓ev_cst, ↓ev_fnv, ↓ev_nil, ↓ev_cons, ↓ev_tup, ↓ev_lst, ↓ev_neg, ↓ev_not, ↓ev_bin, ↓ev_cmp, ↓ev_chain, ↓ev_and, ↓ev_or, ↓ev_ite, ↓ev_sub, ↓ev_slc, ↓ev_rev, ↓ev_call, ↓ev_prim, ↓ev_it, ↓ex_nop, ↓ex_seq, ↓ex_asg, ↓ex_asgs, ↓ex_frz, ↓ex_exp, ↓ex_ret, ↓ex_retN, ↓ex_ite, ↓ex_whl, ↓ex_never, ↓ex_raise_, ↓ex_sets, ↓ex_app, ↓evs_nil, ↓evs_cons, ↓bd_R, bdR_ok, ↓asD_d, ↓asT_t, ↓asL_l, ↓asR_d, ↓asB_b, getV_0, getV_s, ret_ap, rD_ap, List.set_cons_zero, List.set_cons_succ, bindT_nm_d, bindT_nm_c, bindT_cons, bindT_nil, Option.bind_some, opt_some, nown_d, nown_c, List.map_cons, List.map_nil, List.replicate, List.cons_append, List.nil_append, evP_nil, evP_cons, mkO_f, setP_cons, setP_nil, cm_gt, cm_lt, cm_ge, cm_le, cm_eq, cm_ne, cm_is, cm_isnot, cm_in, cm_notin, cmp_gt, cmp_lt, cmp_ge, cmp_le, cmp_eq, cmp_ne, tr_b, cup_0, cup_1, prim_int, pm_int, add_ii, sub_ii, hasJ_0, hasJ_s, ownJ_0, ownJ_s, ↓reduceIte, eq_self, Bool.false_eq_true, set_0, set_1, List.getElem?_cons_zero, List.getElem?_cons_succ, pm_tuple, tuple_l, pm_all, pm_isI, pm_max, pm_sset, it_seq_l, it_seq_t, it_enum_l, it_enum_t, as_len, len_l, len_t, as_sum, sub_30, sub_31, sub_32, sub_20, sub_21, short0, short1, short2, short3, short4, short5, short6, short7, short8, short9, short10, short11, short12, as_len, len_l, e, hsub]
end PF
end
section
set_option Elab.async false
set_option linter.all false
set_option maxRecDepth 100000
set_option maxHeartbeats 4000000
/-! PGc: loops with the cup. -/
namespace PF
open PySem
theorem lc_st {F : D → M (Option D)} {I : St → Prop} {P : D → Prop} : ∀ {xs : List D}, (∀ x ∈ xs, ∀ s, I s → ∃ y s', F x s = .ok (some y) s' ∧ P y ∧ I s') → ∀ s, I s → ∃ ys s', lcLoop F xs s = .ok ys s' ∧ ys.length = xs.length ∧ (∀ y ∈ ys, P y) ∧ I s'
  | [], _, s, hs => ⟨[], s, rfl, rfl, fun y hy => (nomatch hy), hs⟩
  | x :: xs, h, s, hs => by
    obtain ⟨y, s1, e1, p1, i1⟩ := h x List.mem_cons_self s hs
    obtain ⟨ys, s2, e2, l2, p2, i2⟩ := lc_st (fun x hx => h x (List.mem_cons_of_mem _ hx)) s1 i1
    refine ⟨y :: ys, s2, ?_, by rw [List.length_cons, List.length_cons, l2], fun z hz => ?_, i2⟩
    · rw [lcLoop, bd_ap, e1]
      dsimp only
      rw [bd_ap, e2]
      rfl
    · rcases List.mem_cons.mp hz with rfl | hz
      · exact p1
      · exact p2 z hz
/-- data of a type, one by one -/
theorem of_all {α : Type} {e : α → D} {p : α → Prop} : ∀ {ys : List D}, (∀ y ∈ ys, ∃ a, y = e a ∧ p a) → ∃ l : List α, ys = l.map e ∧ ∀ a ∈ l, p a
  | [], _ => ⟨[], rfl, fun a ha => (nomatch ha)⟩
  | y :: ys, h => by
    obtain ⟨a, rfl, pa⟩ := h y List.mem_cons_self
    obtain ⟨l, rfl, pl⟩ := of_all fun y hy => h y (List.mem_cons_of_mem _ hy)
    exact ⟨a :: l, rfl, fun b hb => (List.mem_cons.mp hb).elim (fun e => e ▸ pa) (pl b)⟩
theorem lc_ty {α : Type} {e : α → D} {p : α → Prop} {F : D → M (Option D)} {I : St → Prop} {xs : List D} (h : ∀ x ∈ xs, ∀ s, I s → ∃ a s', F x s = .ok (some (e a)) s' ∧ p a ∧ I s') (s : St) (hs : I s) :
    ∃ (l : List α) (s' : St), lcLoop F xs s = .ok (l.map e) s' ∧ l.length = xs.length ∧ (∀ a ∈ l, p a) ∧ I s' := by
  obtain ⟨ys, s', e1, e2, e3, e4⟩ := lc_st (P := fun y => ∃ a, y = e a ∧ p a) (fun x hx s hs => by
    obtain ⟨a, s', q1, q2, q3⟩ := h x hx s hs
    exact ⟨_, s', q1, ⟨a, rfl, q2⟩, q3⟩) s hs
  obtain ⟨l, rfl, pl⟩ := of_all e3
  exact ⟨l, s', e1, by simpa using e2, pl, e4⟩
theorem rng_len : ∀ (n : Nat) (lo : Int), (rng lo n).length = n
  | 0, _ => rfl
  | n + 1, lo => by rw [rng, List.length_cons, rng_len n]
theorem rng_mem : ∀ {n : Nat} {lo : Int} {x : D}, x ∈ rng lo n → ∃ i : Int, x = .int i ∧ lo ≤ i ∧ i < lo + n
  | 0, _, _, h => nomatch h
  | n + 1, lo, x, h => by
    rcases List.mem_cons.mp h with rfl | h
    · exact ⟨lo, rfl, Int.le_refl _, by omega⟩
    · obtain ⟨i, e, h1, h2⟩ := rng_mem h
      exact ⟨i, e, by omega, by omega⟩
theorem it_rng {n : Int} (h : 0 ≤ n ∧ n < 2 ^ 62) : itF .range [.int n] = some (rng 0 n.toNat) := by
  show (if -(2 ^ 62) ≤ n ∧ n < 2 ^ 62 then some (rng 0 n.toNat) else none) = _
  rw [if_pos ⟨by omega, h.2⟩]
def c__law_offset : Fd := ⟨2, 3, (.ret (.prim .tuple (.lc [2] (.nm 2) (.it .range (.cons (.var 1) .nil)) (.cst (.bool true)) (.call "_law_some" (.cons (.var 0) (.cons (.slc false true (.lst (.cons (.cst (.int (0))) (.cons (.cst (.int (0))) (.cons (.cst (.int (1))) (.cons (.cst (.int (1))) (.cons (.cst (.int (1))) (.cons (.neg (.cst (.int (1)))) (.cons (.cst (.int (2))) (.cons (.neg (.cst (.int (2)))) (.cons (.cst (.int (3))) (.cons (.neg (.cst (.int (3)))) .nil))))))))))) (.cst .none) (.call "_law_some" (.cons (.var 0) (.cons (.lst (.cons (.cst (.int (6))) (.cons (.cst (.int (7))) (.cons (.cst (.int (10))) .nil)))) .nil)))) .nil)))) .nil))⟩
def c__law_need : Fd := ⟨3, 3, (.ret (.tup (.cons (.call "_law_roll" (.cons (.var 0) (.cons (.var 1) .nil))) (.cons (.call "_law_roll" (.cons (.var 0) (.cons (.var 1) .nil))) (.cons (.call "_law_offset" (.cons (.var 0) (.cons (.var 2) .nil))) .nil)))))⟩
def c__law_offset_elt : CE := (.call "_law_some" (.cons (.var 0) (.cons (.slc false true (.lst (.cons (.cst (.int (0))) (.cons (.cst (.int (0))) (.cons (.cst (.int (1))) (.cons (.cst (.int (1))) (.cons (.cst (.int (1))) (.cons (.neg (.cst (.int (1)))) (.cons (.cst (.int (2))) (.cons (.neg (.cst (.int (2)))) (.cons (.cst (.int (3))) (.cons (.neg (.cst (.int (3)))) .nil))))))))))) (.cst .none) (.call "_law_some" (.cons (.var 0) (.cons (.lst (.cons (.cst (.int (6))) (.cons (.cst (.int (7))) (.cons (.cst (.int (10))) .nil)))) .nil)))) .nil)))
theorem int_of_mem {l : List Int} {d : D} (h : d ∈ l.map PyData.int) : ∃ i ∈ l, d = .int i := by
  obtain ⟨i, h1, h2⟩ := List.mem_map.mp h
  exact ⟨i, h1, h2.symm⟩
abbrev offs : List Int := [0, 0, 1, 1, 1, -1, 2, -2, 3, -3]
theorem r_offset {T : Tab} (hr : Has T "_law_roll" c__law_roll) (hs : Has T "_law_some" c__law_some) (h : Has T "_law_offset" c__law_offset) (k : Nat) {n : Int} (hn : 0 ≤ n ∧ n ≤ 100) {s : St} (hc : CupOk s) :
    ∃ (l : List Int) (s' : St), run T (k + 3) "_law_offset" [.cup, .d (.int n)] s = .ok (.d (.tuple (l.map .int))) s' ∧ l.length = n.toNat ∧ (∀ x ∈ l, -3 ≤ x ∧ x ≤ 3) ∧ CupOk s' := by
  have one : ∀ x : D, ∀ s, CupOk s → ∃ (a : Int) (s' : St), lcBody (run T (k + 2)) [2] (.nm 2) (.cst (.bool true)) c__law_offset_elt [some .cup, some (.d (.int n)), none] x s = .ok (some (.int a)) s' ∧ (-3 ≤ a ∧ a ≤ 3) ∧ CupOk s' := by
    intro x s hc
    have sh1 : short [PyData.int 6, .int 7, .int 10] = ret _ := short_ok (by decide)
    have sh2 : short (offs.map PyData.int) = ret _ := short_ok (by decide)
    obtain ⟨d, s1, e1, m1, c1⟩ := r_some hr hs k (l := [.int 6, .int 7, .int 10]) (by simp) (by decide) hc
    have key : ∀ (m : Int) (L : List Int), L ≠ [] → L.length ≤ 1000 → (∀ x ∈ L, -3 ≤ x ∧ x ≤ 3) → cutD (.list (offs.map PyData.int)) none (some m) = some (.list (L.map .int)) → d = .int m → ∃ (a : Int) (s' : St), lcBody (run T (k + 2)) [2] (.nm 2) (.cst (.bool true)) c__law_offset_elt [some .cup, some (.d (.int n)), none] x s = .ok (some (.int a)) s' ∧ (-3 ≤ a ∧ a ≤ 3) ∧ CupOk s' := by
      rintro m L h0 hl hL hcut rfl
      obtain ⟨d, s2, e2, m2, c2⟩ := r_some hr hs k (l := L.map .int) (by simpa using h0) (by simpa using hl) c1
      obtain ⟨a, ha, rfl⟩ := int_of_mem m2
      refine ⟨a, s2, ?_, hL a ha, c2⟩
      simp only [offs, List.map_cons, List.map_nil] at sh2 hcut
      simp only [lcBody, wipe, c__law_offset_elt, ↓ex_for, ↓ev_lc, ↓ev_var, ↓ev_cst, ↓ev_fnv, ↓ev_nil, ↓ev_cons, ↓ev_tup, ↓ev_lst, ↓ev_neg, ↓ev_not, ↓ev_bin, ↓ev_cmp, ↓ev_chain, ↓ev_and, ↓ev_or, ↓ev_ite, ↓ev_sub, ↓ev_slc, ↓ev_rev, ↓ev_call, ↓ev_prim, ↓ev_it, ↓ex_nop, ↓ex_seq, ↓ex_asg, ↓ex_asgs, ↓ex_frz, ↓ex_exp, ↓ex_ret, ↓ex_retN, ↓ex_ite, ↓ex_whl, ↓ex_never, ↓ex_raise_, ↓ex_sets, ↓ex_app, ↓evs_nil, ↓evs_cons, ↓bd_R, bdR_ok, ↓asD_d, ↓asT_t, ↓asL_l, ↓asR_d, ↓asB_b, getV_0, getV_s, ret_ap, rD_ap, List.set_cons_zero, List.set_cons_succ, bindT_nm_d, bindT_nm_c, bindT_cons, bindT_nil, Option.bind_some, opt_some, nown_d, nown_c, List.map_cons, List.map_nil, List.replicate, List.cons_append, List.nil_append, evP_nil, evP_cons, mkO_f, setP_cons, setP_nil, cm_gt, cm_lt, cm_ge, cm_le, cm_eq, cm_ne, cm_is, cm_isnot, cm_in, cm_notin, cmp_gt, cmp_lt, cmp_ge, cmp_le, cmp_eq, cmp_ne, tr_b, cup_0, cup_1, prim_int, pm_int, add_ii, sub_ii, hasJ_0, hasJ_s, ownJ_0, ownJ_s, ↓reduceIte, eq_self, Bool.false_eq_true, set_0, set_1, List.getElem?_cons_zero, List.getElem?_cons_succ, pm_tuple, tuple_l, pm_all, pm_isI, pm_max, pm_sset, it_seq_l, it_seq_t, it_enum_l, it_enum_t, as_len, len_l, len_t, as_sum, sub_30, sub_31, sub_32, sub_20, sub_21, short0, short1, short2, short3, short4, short5, short6, short7, short8, short9, short10, short11, short12, sh1, sh2, e1, boundF, hcut, e2]
    simp only [List.mem_cons, List.not_mem_nil, or_false] at m1
    rcases m1 with e | e | e
    · exact key 6 [0, 0, 1, 1, 1, -1] (by simp) (by decide) (by decide) rfl e
    · exact key 7 [0, 0, 1, 1, 1, -1, 2] (by simp) (by decide) (by decide) rfl e
    · exact key 10 offs (by simp) (by decide) (by decide) rfl e
  obtain ⟨l, s', e, h1, h2, h3⟩ := lc_ty (e := PyData.int) (p := fun a => -3 ≤ a ∧ a ≤ 3) (I := CupOk) (xs := rng 0 n.toNat) (fun x _ s hc => one x s hc) s hc
  rw [rng_len] at h1
  refine ⟨l, s', ?_, h1, h2, h3⟩
  have sh : short (l.map PyData.int) = ret _ := short_ok (by rw [List.length_map, h1]; unfold line; omega)
  rw [run_has h _ _ _ rfl rfl]
  simp only [c__law_offset_elt] at e
  simp only [c__law_offset, ↓ex_for, ↓ev_lc, ↓ev_var, ↓ev_cst, ↓ev_fnv, ↓ev_nil, ↓ev_cons, ↓ev_tup, ↓ev_lst, ↓ev_neg, ↓ev_not, ↓ev_bin, ↓ev_cmp, ↓ev_chain, ↓ev_and, ↓ev_or, ↓ev_ite, ↓ev_sub, ↓ev_slc, ↓ev_rev, ↓ev_call, ↓ev_prim, ↓ev_it, ↓ex_nop, ↓ex_seq, ↓ex_asg, ↓ex_asgs, ↓ex_frz, ↓ex_exp, ↓ex_ret, ↓ex_retN, ↓ex_ite, ↓ex_whl, ↓ex_never, ↓ex_raise_, ↓ex_sets, ↓ex_app, ↓evs_nil, ↓evs_cons, ↓bd_R, bdR_ok, ↓asD_d, ↓asT_t, ↓asL_l, ↓asR_d, ↓asB_b, getV_0, getV_s, ret_ap, rD_ap, List.set_cons_zero, List.set_cons_succ, bindT_nm_d, bindT_nm_c, bindT_cons, bindT_nil, Option.bind_some, opt_some, nown_d, nown_c, List.map_cons, List.map_nil, List.replicate, List.cons_append, List.nil_append, evP_nil, evP_cons, mkO_f, setP_cons, setP_nil, cm_gt, cm_lt, cm_ge, cm_le, cm_eq, cm_ne, cm_is, cm_isnot, cm_in, cm_notin, cmp_gt, cmp_lt, cmp_ge, cmp_le, cmp_eq, cmp_ne, tr_b, cup_0, cup_1, prim_int, pm_int, add_ii, sub_ii, hasJ_0, hasJ_s, ownJ_0, ownJ_s, ↓reduceIte, eq_self, Bool.false_eq_true, set_0, set_1, List.getElem?_cons_zero, List.getElem?_cons_succ, pm_tuple, tuple_l, pm_all, pm_isI, pm_max, pm_sset, it_seq_l, it_seq_t, it_enum_l, it_enum_t, as_len, len_l, len_t, as_sum, sub_30, sub_31, sub_32, sub_20, sub_21, short0, short1, short2, short3, short4, short5, short6, short7, short8, short9, short10, short11, short12, it_rng (n := n) ⟨hn.1, by omega⟩, noexc_ap e, sh, pm_tuple, tuple_l]
end PF
end
section
set_option Elab.async false
set_option linter.all false
set_option maxRecDepth 100000
set_option maxHeartbeats 4000000
/-! PGd: books drawn. -/
namespace PF
open PySem
abbrev Need := W.T3 Int Int (W.Tup Int)
def ne (n : Need) : D := .tuple [.int n.a, .int n.b, .tuple (n.c.items.map .int)]
theorem ne_toD (n : Need) : W.Datum.toD n = ne n := rfl
abbrev Book := W.T3 Int Int (W.Tup Need)
def bo (b : Book) : D := .tuple [.int b.a, .int b.b, .tuple (b.c.items.map ne)]
/-- a need of q quantities, c coordinates -/
structure NeedOk (q c : Int) (n : Need) : Prop where
  a0 : 0 ≤ n.a
  a1 : n.a < q
  b0 : 0 ≤ n.b
  b1 : n.b < q
  len : (n.c.items.length : Int) = c
  ent : ∀ x ∈ n.c.items, -3 ≤ x ∧ x ≤ 3
theorem r_need {T : Tab} (hr : Has T "_law_roll" c__law_roll) (hs : Has T "_law_some" c__law_some) (ho : Has T "_law_offset" c__law_offset) (h : Has T "_law_need" c__law_need) (k : Nat) {q c : Int} (hq : 0 < q ∧ q ≤ 100) (hn : 0 ≤ c ∧ c ≤ 100) {s : St} (hc : CupOk s) :
    ∃ (n : Need) (s' : St), run T (k + 4) "_law_need" [.cup, .d (.int q), .d (.int c)] s = .ok (.d (ne n)) s' ∧ NeedOk q c n ∧ CupOk s' := by
  obtain ⟨a, s1, e1, a1, a2, c1⟩ := r_roll hr (k + 2) (many := q) hq.1 (by omega) hc
  obtain ⟨b, s2, e2, b1, b2, c2⟩ := r_roll hr (k + 2) (many := q) hq.1 (by omega) c1
  obtain ⟨l, s3, e3, l1, l2, c3⟩ := r_offset hr hs ho k hn c2
  refine ⟨⟨a, b, ⟨l⟩⟩, s3, ?_, ⟨a1, a2, b1, b2, by rw [l1]; omega, l2⟩, c3⟩
  rw [run_has h _ _ _ rfl rfl]
  simp only [c__law_need, ↓ex_for, ↓ev_lc, ↓ev_var, ↓ev_cst, ↓ev_fnv, ↓ev_nil, ↓ev_cons, ↓ev_tup, ↓ev_lst, ↓ev_neg, ↓ev_not, ↓ev_bin, ↓ev_cmp, ↓ev_chain, ↓ev_and, ↓ev_or, ↓ev_ite, ↓ev_sub, ↓ev_slc, ↓ev_rev, ↓ev_call, ↓ev_prim, ↓ev_it, ↓ex_nop, ↓ex_seq, ↓ex_asg, ↓ex_asgs, ↓ex_frz, ↓ex_exp, ↓ex_ret, ↓ex_retN, ↓ex_ite, ↓ex_whl, ↓ex_never, ↓ex_raise_, ↓ex_sets, ↓ex_app, ↓evs_nil, ↓evs_cons, ↓bd_R, bdR_ok, ↓asD_d, ↓asT_t, ↓asL_l, ↓asR_d, ↓asB_b, getV_0, getV_s, ret_ap, rD_ap, List.set_cons_zero, List.set_cons_succ, bindT_nm_d, bindT_nm_c, bindT_cons, bindT_nil, Option.bind_some, opt_some, nown_d, nown_c, List.map_cons, List.map_nil, List.replicate, List.cons_append, List.nil_append, evP_nil, evP_cons, mkO_f, setP_cons, setP_nil, cm_gt, cm_lt, cm_ge, cm_le, cm_eq, cm_ne, cm_is, cm_isnot, cm_in, cm_notin, cmp_gt, cmp_lt, cmp_ge, cmp_le, cmp_eq, cmp_ne, tr_b, cup_0, cup_1, prim_int, pm_int, add_ii, sub_ii, hasJ_0, hasJ_s, ownJ_0, ownJ_s, ↓reduceIte, eq_self, Bool.false_eq_true, set_0, set_1, List.getElem?_cons_zero, List.getElem?_cons_succ, pm_tuple, tuple_l, pm_all, pm_isI, pm_max, pm_sset, it_seq_l, it_seq_t, it_enum_l, it_enum_t, as_len, len_l, len_t, as_sum, sub_30, sub_31, sub_32, sub_20, sub_21, short0, short1, short2, short3, short4, short5, short6, short7, short8, short9, short10, short11, short12, e1, e2, e3, ne]
def c__law_known_book : Fd := ⟨1, 2, (.seq (.asgs [(false, 1, (.lst (.cons (.tup (.cons (.cst (.int (1))) (.cons (.cst (.int (1))) (.cons (.tup (.cons (.tup (.cons (.cst (.int (0))) (.cons (.cst (.int (0))) (.cons (.tup (.cons (.cst (.int (1))) .nil)) .nil)))) .nil)) .nil)))) (.cons (.tup (.cons (.cst (.int (1))) (.cons (.cst (.int (2))) (.cons (.tup (.cons (.tup (.cons (.cst (.int (0))) (.cons (.cst (.int (0))) (.cons (.tup (.cons (.cst (.int (0))) (.cons (.cst (.int (1))) .nil))) .nil)))) (.cons (.tup (.cons (.cst (.int (0))) (.cons (.cst (.int (0))) (.cons (.tup (.cons (.cst (.int (1))) (.cons (.neg (.cst (.int (1)))) .nil))) .nil)))) .nil))) .nil)))) (.cons (.tup (.cons (.cst (.int (2))) (.cons (.cst (.int (2))) (.cons (.tup (.cons (.tup (.cons (.cst (.int (0))) (.cons (.cst (.int (0))) (.cons (.tup (.cons (.cst (.int (1))) (.cons (.neg (.cst (.int (1)))) .nil))) .nil)))) (.cons (.tup (.cons (.cst (.int (0))) (.cons (.cst (.int (1))) (.cons (.tup (.cons (.cst (.int (0))) (.cons (.cst (.int (0))) .nil))) .nil)))) (.cons (.tup (.cons (.cst (.int (1))) (.cons (.cst (.int (0))) (.cons (.tup (.cons (.cst (.int (1))) (.cons (.cst (.int (1))) .nil))) .nil)))) (.cons (.tup (.cons (.cst (.int (1))) (.cons (.cst (.int (1))) (.cons (.tup (.cons (.neg (.cst (.int (1)))) (.cons (.cst (.int (1))) .nil))) .nil)))) .nil))))) .nil)))) (.cons (.tup (.cons (.cst (.int (1))) (.cons (.cst (.int (1))) (.cons (.tup (.cons (.tup (.cons (.cst (.int (0))) (.cons (.cst (.int (0))) (.cons (.tup (.cons (.neg (.cst (.int (1)))) .nil)) .nil)))) .nil)) .nil)))) .nil))))))]) (.seq (.asgs [(false, 1, (.bin .add (.var 1) (.lst (.cons (.tup (.cons (.cst (.int (2))) (.cons (.cst (.int (1))) (.cons (.tup (.cons (.tup (.cons (.cst (.int (0))) (.cons (.cst (.int (1))) (.cons (.tup (.cons (.cst (.int (0))) .nil)) .nil)))) (.cons (.tup (.cons (.cst (.int (1))) (.cons (.cst (.int (0))) (.cons (.tup (.cons (.cst (.int (1))) .nil)) .nil)))) (.cons (.tup (.cons (.cst (.int (1))) (.cons (.cst (.int (1))) (.cons (.tup (.cons (.neg (.cst (.int (1)))) .nil)) .nil)))) .nil)))) .nil)))) (.cons (.tup (.cons (.cst (.int (2))) (.cons (.cst (.int (2))) (.cons (.tup .nil) .nil)))) (.cons (.tup (.cons (.cst (.int (1))) (.cons (.cst (.int (2))) (.cons (.tup (.cons (.tup (.cons (.cst (.int (0))) (.cons (.cst (.int (0))) (.cons (.tup (.cons (.neg (.cst (.int (1)))) (.cons (.cst (.int (1))) .nil))) .nil)))) (.cons (.tup (.cons (.cst (.int (0))) (.cons (.cst (.int (0))) (.cons (.tup (.cons (.cst (.int (1))) (.cons (.neg (.cst (.int (1)))) .nil))) .nil)))) .nil))) .nil)))) (.cons (.tup (.cons (.cst (.int (2))) (.cons (.cst (.int (2))) (.cons (.tup (.cons (.tup (.cons (.cst (.int (0))) (.cons (.cst (.int (0))) (.cons (.tup (.cons (.cst (.int (1))) (.cons (.neg (.cst (.int (1)))) .nil))) .nil)))) (.cons (.tup (.cons (.cst (.int (1))) (.cons (.cst (.int (1))) (.cons (.tup (.cons (.neg (.cst (.int (1)))) (.cons (.cst (.int (1))) .nil))) .nil)))) .nil))) .nil)))) .nil)))))))]) (.seq (.asgs [(false, 1, (.bin .add (.var 1) (.lst (.cons (.tup (.cons (.cst (.int (1))) (.cons (.cst (.int (1))) (.cons (.tup (.cons (.tup (.cons (.cst (.int (0))) (.cons (.cst (.int (0))) (.cons (.tup (.cons (.cst (.int (0))) .nil)) .nil)))) .nil)) .nil)))) (.cons (.tup (.cons (.cst (.int (1))) (.cons (.cst (.int (2))) (.cons (.tup (.cons (.tup (.cons (.cst (.int (0))) (.cons (.cst (.int (0))) (.cons (.tup (.cons (.cst (.int (0))) (.cons (.cst (.int (1))) .nil))) .nil)))) (.cons (.tup (.cons (.cst (.int (0))) (.cons (.cst (.int (0))) (.cons (.tup (.cons (.cst (.int (1))) (.cons (.cst (.int (0))) .nil))) .nil)))) .nil))) .nil)))) (.cons (.tup (.cons (.cst (.int (1))) (.cons (.cst (.int (2))) (.cons (.tup (.cons (.tup (.cons (.cst (.int (0))) (.cons (.cst (.int (0))) (.cons (.tup (.cons (.cst (.int (1))) (.cons (.neg (.cst (.int (3)))) .nil))) .nil)))) .nil)) .nil)))) (.cons (.tup (.cons (.cst (.int (2))) (.cons (.cst (.int (1))) (.cons (.tup (.cons (.tup (.cons (.cst (.int (0))) (.cons (.cst (.int (1))) (.cons (.tup (.cons (.cst (.int (1))) .nil)) .nil)))) (.cons (.tup (.cons (.cst (.int (1))) (.cons (.cst (.int (0))) (.cons (.tup (.cons (.neg (.cst (.int (1)))) .nil)) .nil)))) .nil))) .nil)))) (.cons (.tup (.cons (.cst (.int (2))) (.cons (.cst (.int (1))) (.cons (.tup (.cons (.tup (.cons (.cst (.int (0))) (.cons (.cst (.int (1))) (.cons (.tup (.cons (.cst (.int (2))) .nil)) .nil)))) (.cons (.tup (.cons (.cst (.int (1))) (.cons (.cst (.int (0))) (.cons (.tup (.cons (.neg (.cst (.int (1)))) .nil)) .nil)))) .nil))) .nil)))) .nil))))))))]) (.ret (.call "_law_some" (.cons (.var 0) (.cons (.var 1) .nil)))))))⟩
/-- the books that are known -/
def knownB : List Book := [⟨1, 1, ⟨[⟨0, 0, ⟨[1]⟩⟩]⟩⟩, ⟨1, 2, ⟨[⟨0, 0, ⟨[0, 1]⟩⟩, ⟨0, 0, ⟨[1, -1]⟩⟩]⟩⟩, ⟨2, 2, ⟨[⟨0, 0, ⟨[1, -1]⟩⟩, ⟨0, 1, ⟨[0, 0]⟩⟩, ⟨1, 0, ⟨[1, 1]⟩⟩, ⟨1, 1, ⟨[-1, 1]⟩⟩]⟩⟩, ⟨1, 1, ⟨[⟨0, 0, ⟨[-1]⟩⟩]⟩⟩,
  ⟨2, 1, ⟨[⟨0, 1, ⟨[0]⟩⟩, ⟨1, 0, ⟨[1]⟩⟩, ⟨1, 1, ⟨[-1]⟩⟩]⟩⟩, ⟨2, 2, ⟨[]⟩⟩, ⟨1, 2, ⟨[⟨0, 0, ⟨[-1, 1]⟩⟩, ⟨0, 0, ⟨[1, -1]⟩⟩]⟩⟩, ⟨2, 2, ⟨[⟨0, 0, ⟨[1, -1]⟩⟩, ⟨1, 1, ⟨[-1, 1]⟩⟩]⟩⟩,
  ⟨1, 1, ⟨[⟨0, 0, ⟨[0]⟩⟩]⟩⟩, ⟨1, 2, ⟨[⟨0, 0, ⟨[0, 1]⟩⟩, ⟨0, 0, ⟨[1, 0]⟩⟩]⟩⟩, ⟨1, 2, ⟨[⟨0, 0, ⟨[1, -3]⟩⟩]⟩⟩, ⟨2, 1, ⟨[⟨0, 1, ⟨[1]⟩⟩, ⟨1, 0, ⟨[-1]⟩⟩]⟩⟩, ⟨2, 1, ⟨[⟨0, 1, ⟨[2]⟩⟩, ⟨1, 0, ⟨[-1]⟩⟩]⟩⟩]
theorem r_known {T : Tab} (hr : Has T "_law_roll" c__law_roll) (hs : Has T "_law_some" c__law_some) (h : Has T "_law_known_book" c__law_known_book) (k : Nat) {s : St} (hc : CupOk s) :
    ∃ (b : Book) (s' : St), run T (k + 3) "_law_known_book" [.cup] s = .ok (.d (bo b)) s' ∧ b ∈ knownB ∧ CupOk s' := by
  obtain ⟨d, s1, e1, m1, c1⟩ := r_some hr hs k (l := knownB.map bo) (by simp [knownB]) (by decide) hc
  obtain ⟨b, hb, rfl⟩ := List.mem_map.mp m1
  refine ⟨b, s1, ?_, hb, c1⟩
  have e0 : ex (run T (k + 2)) c__law_known_book.body [some .cup, none] s = ex (run T (k + 2)) (.ret (.call "_law_some" (.cons (.var 0) (.cons (.var 1) .nil)))) [some .cup, some (.d (.list (knownB.map bo)))] s := by kernel_rfl
  rw [run_has h _ _ _ rfl rfl]
  have e2 : ex (run T (k + 2)) c__law_known_book.body [some .cup, none] s = .ok (.rt (.d (bo b))) s1 := by
    rw [e0]
    simp only [↓ex_for, ↓ev_lc, ↓ev_var, ↓ev_cst, ↓ev_fnv, ↓ev_nil, ↓ev_cons, ↓ev_tup, ↓ev_lst, ↓ev_neg, ↓ev_not, ↓ev_bin, ↓ev_cmp, ↓ev_chain, ↓ev_and, ↓ev_or, ↓ev_ite, ↓ev_sub, ↓ev_slc, ↓ev_rev, ↓ev_call, ↓ev_prim, ↓ev_it, ↓ex_nop, ↓ex_seq, ↓ex_asg, ↓ex_asgs, ↓ex_frz, ↓ex_exp, ↓ex_ret, ↓ex_retN, ↓ex_ite, ↓ex_whl, ↓ex_never, ↓ex_raise_, ↓ex_sets, ↓ex_app, ↓evs_nil, ↓evs_cons, ↓bd_R, bdR_ok, ↓asD_d, ↓asT_t, ↓asL_l, ↓asR_d, ↓asB_b, getV_0, getV_s, ret_ap, rD_ap, List.set_cons_zero, List.set_cons_succ, bindT_nm_d, bindT_nm_c, bindT_cons, bindT_nil, Option.bind_some, opt_some, nown_d, nown_c, List.map_cons, List.map_nil, List.replicate, List.cons_append, List.nil_append, evP_nil, evP_cons, mkO_f, setP_cons, setP_nil, cm_gt, cm_lt, cm_ge, cm_le, cm_eq, cm_ne, cm_is, cm_isnot, cm_in, cm_notin, cmp_gt, cmp_lt, cmp_ge, cmp_le, cmp_eq, cmp_ne, tr_b, cup_0, cup_1, prim_int, pm_int, add_ii, sub_ii, hasJ_0, hasJ_s, ownJ_0, ownJ_s, ↓reduceIte, eq_self, Bool.false_eq_true, set_0, set_1, List.getElem?_cons_zero, List.getElem?_cons_succ, pm_tuple, tuple_l, pm_all, pm_isI, pm_max, pm_sset, it_seq_l, it_seq_t, it_enum_l, it_enum_t, as_len, len_l, len_t, as_sum, sub_30, sub_31, sub_32, sub_20, sub_21, short0, short1, short2, short3, short4, short5, short6, short7, short8, short9, short10, short11, short12, e1]
  exact bd_go e2 rfl
end PF
end
section
set_option Elab.async false
set_option linter.all false
set_option maxRecDepth 100000
set_option maxHeartbeats 4000000
/-! PGe: sets sorted, greatest ones. -/
namespace PF
open PySem
theorem alikeB_of {l : List D} (h : ∀ a ∈ l, ∀ b ∈ l, W.alike a b = true) : alikeB l = true := by
  induction l with
  | nil => rfl
  | cons x r ih =>
    rw [alikeB, ih fun a ha b hb => h a (List.mem_cons_of_mem _ ha) b (List.mem_cons_of_mem _ hb), h x List.mem_cons_self x List.mem_cons_self, Bool.and_true, Bool.and_true, List.all_eq_true]
    intro y hy
    rw [h x List.mem_cons_self y (List.mem_cons_of_mem _ hy), h y (List.mem_cons_of_mem _ hy) x List.mem_cons_self]
    rfl
theorem alike_map {α : Type} [DecidableEq α] [W.DatumOrd α] (l : List α) : ∀ a ∈ l.map W.Datum.toD, ∀ b ∈ l.map W.Datum.toD, W.alike a b = true := fun a ha b hb => by
  obtain ⟨x, _, rfl⟩ := List.mem_map.mp ha
  obtain ⟨y, _, rfl⟩ := List.mem_map.mp hb
  exact W.DatumOrd.alike x y
theorem dedup_len : ∀ l : List D, (dedup l).length ≤ l.length
  | [] => Nat.le_refl _
  | x :: r => by
    rw [dedup, List.length_cons, List.length_cons]
    exact Nat.succ_le_succ (Nat.le_trans (List.length_filter_le _ _) (dedup_len r))
theorem toD_inj {α : Type} [DecidableEq α] [W.Datum α] {x y : α} (h : W.Datum.toD x = W.Datum.toD y) : x = y := by
  have e := W.Datum.eqv x x
  rw [decide_eq_true rfl] at e
  have e2 := W.Datum.eqv x y
  rw [← h, e] at e2
  exact of_decide_eq_true e2.symm
/-- the set of the items, sorted: each once, ascending -/
theorem prim_sset {α : Type} [DecidableEq α] [W.DatumOrd α] (l : List α) (hl : l.length < 64) (hk : keysB (l.map W.Datum.toD) = true) (hk2 : ∀ x ∈ l, keyB (W.Datum.toD x) = true) (hd : W.Datum.depth α ≤ 64)
    (hs : ∀ m : List α, (∀ x ∈ m, x ∈ l) → sortB (m.map W.Datum.toD) = true) : ∃ m : List α, primF .sortedset [.list (l.map W.Datum.toD)] = some (.list (m.map W.Datum.toD)) ∧ (∀ x, x ∈ m ↔ x ∈ l) ∧ m.Pairwise (fun x y => W.DatumOrd.lt x y = true) ∧ m.length ≤ l.length := by
  have hkd : ∀ a ∈ l.map W.Datum.toD, keyB a = true := fun a ha => by
    obtain ⟨x, hx, rfl⟩ := List.mem_map.mp ha
    exact hk2 x hx
  have hmem := dedup_mem hkd
  obtain ⟨d, hdd, hdl⟩ : ∃ d : List α, dedup (l.map W.Datum.toD) = d.map W.Datum.toD ∧ ∀ x ∈ d, x ∈ l := of_all fun y hy => by
    obtain ⟨x, hx, rfl⟩ := List.mem_map.mp ((hmem y).mp hy)
    exact ⟨x, rfl, hx⟩
  have p1 := List.mergeSort_perm (d.map W.Datum.toD) dle
  obtain ⟨m, hm, hml⟩ : ∃ m : List α, (d.map W.Datum.toD).mergeSort dle = m.map W.Datum.toD ∧ ∀ x ∈ m, x ∈ d := of_all fun y hy => by
    obtain ⟨x, hx, rfl⟩ := List.mem_map.mp (p1.mem_iff.mp hy)
    exact ⟨x, rfl, hx⟩
  rw [hm] at p1
  have nd : (m.map (W.Datum.toD : α → D)).Nodup := by
    rw [p1.nodup_iff, ← hdd]
    exact dedup_nodup hkd
  have srt := List.pairwise_mergeSort dLe_trans dLe_total (d.map (W.Datum.toD : α → D))
  rw [show (d.map (W.Datum.toD : α → D)).mergeSort (W.dataLe false id) = m.map W.Datum.toD from hm] at srt
  refine ⟨m, ?_, fun x => ⟨fun h => hdl x (hml x h), fun h => ?_⟩, ?_, ?_⟩
  · show (if (l.map (W.Datum.toD : α → D)).length < 64 ∧ keysB (l.map W.Datum.toD) then sortF (dedup (l.map W.Datum.toD)) else none) = _
    rw [if_pos ⟨by rw [List.length_map]; exact hl, hk⟩, hdd]
    unfold sortF
    rw [alikeB_of (alike_map d), hs d hdl, decide_eq_true (Nat.le_trans (W.depthAll_map d) hd)]
    show some (PyData.list (sortD (d.map (W.Datum.toD : α → D)))) = _
    rw [sortD_eq]
    rw [hm]
  · have h1 : W.Datum.toD x ∈ dedup (l.map W.Datum.toD) := (hmem _).mpr (List.mem_map.mpr ⟨x, h, rfl⟩)
    rw [hdd] at h1
    obtain ⟨y, hy, e⟩ := List.mem_map.mp (p1.mem_iff.mpr h1)
    rw [← toD_inj e]
    exact hy
  · rw [List.pairwise_map] at srt
    have nd2 := nd
    unfold List.Nodup at nd2
    rw [List.pairwise_map] at nd2
    refine (srt.and nd2).imp_of_mem fun {x y} hx hy ⟨h1, h2⟩ => ?_
    cases q : W.DatumOrd.lt x y with
    | true => rfl
    | false =>
      have q1 : W.dataLt (W.Datum.toD x) (W.Datum.toD y) = false := by rw [W.DatumOrd.lt_eq, q]
      have e1 : W.dataLe false id (W.Datum.toD y) (W.Datum.toD x) = true := by
        show (!W.dataLt (W.Datum.toD x) (W.Datum.toD y)) = true
        rw [q1]
        rfl
      have e2 := dLe_anti (W.DatumOrd.alike x y) h1 e1
      exact absurd ((key_eqv _ _ (hk2 x (hdl x (hml x hx))) (hk2 y (hdl y (hml y hy)))).mp e2) h2
  · have e1 := p1.length_eq
    rw [List.length_map, List.length_map] at e1
    have e2 := dedup_len (l.map (W.Datum.toD : α → D))
    rw [hdd, List.length_map, List.length_map] at e2
    omega
/-- the greatest -/
def top1 : List Int → Int
  | [] => 0
  | x :: r => r.foldl max x
theorem prim_max {l : List Int} (h : l ≠ []) : primF .max [.tuple (l.map .int)] = some (.int (top1 l)) := by
  cases l with
  | nil => exact (h rfl).elim
  | cons x r =>
    show (if alikeB ((x :: r).map PyData.int) && !isNone (PyData.int x) && decide (PyData.depthAll ((x :: r).map PyData.int) ≤ 64) then some (W.maxD (.int x) (r.map .int)) else none) = _
    have e1 : alikeB ((x :: r).map PyData.int) = true := alikeB_of (alike_map (x :: r))
    have e2 : PyData.depthAll ((x :: r).map PyData.int) ≤ 64 := Nat.le_trans (W.depthAll_map (x :: r)) (by decide)
    rw [e1, decide_eq_true e2, W.maxD_ints]
    rfl
theorem foldl_max_ge : ∀ (r : List Int) (a : Int), a ≤ r.foldl max a ∧ ∀ x ∈ r, x ≤ r.foldl max a
  | [], a => ⟨Int.le_refl _, fun x hx => (nomatch hx)⟩
  | y :: r, a => by
    obtain ⟨h1, h2⟩ := foldl_max_ge r (max a y)
    rw [List.foldl_cons]
    refine ⟨by omega, fun x hx => ?_⟩
    rcases List.mem_cons.mp hx with rfl | hx
    · omega
    · exact h2 x hx
theorem top1_ge {l : List Int} {x : Int} (hx : x ∈ l) : x ≤ top1 l := by
  cases l with
  | nil => cases hx
  | cons y r =>
    obtain ⟨h1, h2⟩ := foldl_max_ge r y
    rcases List.mem_cons.mp hx with rfl | hx
    · exact h1
    · exact h2 x hx
theorem keyAll_ints (l : List Int) : keyAll (l.map .int) = true := by
  induction l with
  | nil => rfl
  | cons x r ih => rw [List.map_cons, keyAll, keyB, ih]; rfl
theorem depthAll_ints (l : List Int) : PyData.depthAll (l.map .int) = 0 := Nat.le_zero.mp (W.depthAll_map l)
theorem keyB_ne (n : Need) : keyB (ne n) = true := by
  show (keyB (.int n.a) && (keyB (.int n.b) && (keyAll (n.c.items.map .int) && true))) = true
  rw [keyAll_ints]
  rfl
theorem keysB_ne (l : List Need) : keysB (l.map ne) = true := by
  unfold keysB
  rw [Bool.or_eq_true]
  left
  rw [List.all_eq_true]
  intro d hd
  obtain ⟨n, _, rfl⟩ := List.mem_map.mp hd
  show (keyB (ne n) && decide (PyData.depthAll [PyData.int n.a, .int n.b, .tuple (n.c.items.map .int)] ≤ 7)) = true
  rw [keyB_ne]
  have : PyData.depthAll [PyData.int n.a, .int n.b, .tuple (n.c.items.map .int)] ≤ 7 := by
    simp only [PyData.depthAll, PyData.depth, depthAll_ints]
    decide
  rw [decide_eq_true this]
  rfl
theorem sortB_ne (l : List Need) : sortB (l.map ne) = true := by
  unfold sortB
  rw [Bool.or_eq_true]
  left
  rw [List.all_eq_true]
  intro d hd
  obtain ⟨n, _, rfl⟩ := List.mem_map.mp hd
  rfl
theorem sset_ne (l : List Need) (hl : l.length < 64) : ∃ m : List Need, primF .sortedset [.list (l.map ne)] = some (.list (m.map ne)) ∧ (∀ x, x ∈ m ↔ x ∈ l) ∧ m.Pairwise (fun x y => W.DatumOrd.lt x y = true) ∧ m.length ≤ l.length :=
  prim_sset l hl (keysB_ne l) (fun x _ => keyB_ne x) (by decide) fun m _ => sortB_ne m
end PF
end
section
set_option Elab.async false
set_option linter.all false
set_option maxRecDepth 100000
set_option maxHeartbeats 4000000
/-! PHa: rules by which the evaluator's answers are told as typed values. -/
namespace PF
open PySem
open W (Tup T3 T4 Datum DatumOrd SomeDatum)
/-- a typed value -/
abbrev tv {α : Type} [DecidableEq α] [Datum α] (x : α) : Vl := .d (Datum.toD x)
abbrev tD {α : Type} [DecidableEq α] [Datum α] (x : α) : D := Datum.toD x
instance {α : Type} : Inhabited (Tup α) := ⟨⟨[]⟩⟩
instance {α β γ : Type} [Inhabited α] [Inhabited β] [Inhabited γ] : Inhabited (T3 α β γ) := ⟨⟨default, default, default⟩⟩
instance {α β γ δ : Type} [Inhabited α] [Inhabited β] [Inhabited γ] [Inhabited δ] : Inhabited (T4 α β γ δ) := ⟨⟨default, default, default, default⟩⟩
section
variable {G : Str → List Vl → M Vl} {e : Env} {s : St}
variable {α β γ δ : Type} [DecidableEq α] [DecidableEq β] [DecidableEq γ] [DecidableEq δ]
abbrev Ep (G : Str → List Vl → M Vl) (e : Env) (s : St) (c : CE) (v : Vl) : Prop := ev G c e s = .ok v s
abbrev EpL (G : Str → List Vl → M Vl) (e : Env) (s : St) (c : CE) (l : List D) : Prop := ev G c e s = .ok (.d (.tuple l)) s
abbrev EpI (G : Str → List Vl → M Vl) (e : Env) (s : St) (c : CE) (l : List D) : Prop := ev G c e s = .ok (.d (.list l)) s
abbrev Eps (G : Str → List Vl → M Vl) (e : Env) (s : St) (c : CE) (l : List Vl) : Prop := evs G c e s = .ok l s
abbrev Xs (G : Str → List Vl → M Vl) (e : Env) (s : St) (c : CS) (o : Fl) : Prop := ex G c e s = .ok o s
theorem Ep.cast {c : CE} {v w : Vl} (h : Ep G e s c v) (k : v = w) : Ep G e s c w := k ▸ h
theorem p_var {i : Nat} {v : Vl} (h : e[i]? = some (some v)) : Ep G e s (.var i) v := by
  show ev G (.var i) e s = _
  rw [ev_var]
  unfold getV
  rw [h]
  rfl
theorem p_int (i : Int) : Ep G e s (.cst (.int i)) (tv i) := by show ev G _ e s = _; rw [ev_cst]; rfl
theorem p_str (x : Str) : Ep G e s (.cst (.str x)) (tv x) := by show ev G _ e s = _; rw [ev_cst]; rfl
theorem p_bool (b : Bool) : Ep G e s (.cst (.bool b)) (tv b) := by show ev G _ e s = _; rw [ev_cst]; rfl
theorem p_none [Datum α] [SomeDatum α] : Ep G e s (.cst .none) (tv (none : Option α)) := by show ev G _ e s = _; rw [ev_cst]; rfl
theorem p_unit : Ep G e s (.cst .none) (tv ()) := by show ev G _ e s = _; rw [ev_cst]; rfl
theorem p_some [Datum α] [SomeDatum α] {c : CE} {x : α} (h : Ep G e s c (tv x)) : Ep G e s c (tv (some x)) := h
theorem p_nil : EpL G e s .nil [] := by show ev G _ e s = _; rw [ev_nil]; rfl
theorem p_cons {a b : CE} {x : D} {l : List D} (h : Ep G e s a (.d x)) (k : EpL G e s b l) : EpL G e s (.cons a b) (x :: l) := by
  show ev G _ e s = _
  rw [ev_cons]
  exact bd_go h (bd_go k rfl)
theorem p_tup {a : CE} {l : List D} (h : EpL G e s a l) (hl : l.length ≤ line) : Ep G e s (.tup a) (.d (.tuple l)) := by
  show ev G _ e s = _
  rw [ev_tup]
  refine bd_go h ?_
  show bd (short l) _ s = _
  rw [short_ok hl]
  rfl
theorem p_lst {a : CE} {l : List D} (h : EpL G e s a l) (hl : l.length ≤ line) : Ep G e s (.lst a) (.d (.list l)) := by
  show ev G _ e s = _
  rw [ev_lst]
  refine bd_go h ?_
  show bd (short l) _ s = _
  rw [short_ok hl]
  rfl
theorem p_p2 [Datum α] [Datum β] {a b : CE} {x : α} {y : β} (h : Ep G e s a (tv x)) (k : Ep G e s b (tv y)) : Ep G e s (.tup (.cons a (.cons b .nil))) (tv (x, y)) :=
  p_tup (p_cons h (p_cons k p_nil)) (show 2 ≤ line by decide)
theorem p_t3 [Datum α] [Datum β] [Datum γ] {a b c : CE} {x : α} {y : β} {z : γ} (h : Ep G e s a (tv x)) (k : Ep G e s b (tv y)) (j : Ep G e s c (tv z)) : Ep G e s (.tup (.cons a (.cons b (.cons c .nil)))) (tv (T3.mk x y z)) :=
  p_tup (p_cons h (p_cons k (p_cons j p_nil))) (show 3 ≤ line by decide)
theorem p_tupN [Datum α] {a : CE} (l : List α) (h : EpL G e s a (l.map Datum.toD)) (hl : l.length ≤ line) : Ep G e s (.tup a) (tv (Tup.mk l)) := p_tup h (by rw [List.length_map]; exact hl)
theorem p_lstN [Datum α] {a : CE} (l : List α) (h : EpL G e s a (l.map Datum.toD)) (hl : l.length ≤ line) : Ep G e s (.lst a) (tv l) := p_lst h (by rw [List.length_map]; exact hl)
/-! ### numbers -/
theorem p_bin {o : Bi} {a b : CE} {x y z : D} (h : Ep G e s a (.d x)) (k : Ep G e s b (.d y)) (q : binF o x y = some z) : Ep G e s (.bin o a b) (.d z) := by
  show ev G _ e s = _
  rw [ev_bin]
  refine bd_go h (bd_go k ?_)
  show bd (opt (binF o x y)) _ s = _
  rw [q]
  rfl
theorem p_add {a b : CE} {x y : Int} (h : Ep G e s a (tv x)) (k : Ep G e s b (tv y)) : Ep G e s (.bin .add a b) (tv (x + y)) := p_bin h k rfl
theorem p_sub {a b : CE} {x y : Int} (h : Ep G e s a (tv x)) (k : Ep G e s b (tv y)) : Ep G e s (.bin .sub a b) (tv (x - y)) := p_bin h k rfl
theorem p_mul {a b : CE} {x y : Int} (h : Ep G e s a (tv x)) (k : Ep G e s b (tv y)) (q : mulOk x y = true) : Ep G e s (.bin .mul a b) (tv (x * y)) := p_bin h k (mul_ii q)
theorem p_fdiv {a b : CE} {x y : Int} (h : Ep G e s a (tv x)) (k : Ep G e s b (tv y)) (q : y ≠ 0 ∧ y.natAbs.log2 < 9000) : Ep G e s (.bin .fdiv a b) (tv (x.fdiv y)) := p_bin h k (fdiv_ii q)
theorem p_mod {a b : CE} {x y : Int} (h : Ep G e s a (tv x)) (k : Ep G e s b (tv y)) (q : y ≠ 0) : Ep G e s (.bin .mod a b) (tv (x.fmod y)) := p_bin h k (mod_ii q)
theorem p_neg {a : CE} {x : Int} (h : Ep G e s a (tv x)) : Ep G e s (.neg a) (tv (-x)) := by
  show ev G _ e s = _
  rw [ev_neg]
  exact bd_go h rfl
theorem p_addL [Datum α] {a b : CE} {x y : List α} (h : Ep G e s a (tv x)) (k : Ep G e s b (tv y)) (q : (x ++ y).length ≤ line) : Ep G e s (.bin .add a b) (tv (x ++ y)) :=
  p_bin h k (by
    show (if (x.map Datum.toD).length + (y.map Datum.toD).length ≤ line then some (PyData.list (x.map Datum.toD ++ y.map Datum.toD)) else none) = some (.list ((x ++ y).map Datum.toD))
    rw [if_pos (by rw [List.length_map, List.length_map, ← List.length_append]; exact q), List.map_append])
theorem p_addT [Datum α] {a b : CE} {x y : Tup α} (h : Ep G e s a (tv x)) (k : Ep G e s b (tv y)) (q : (x.items ++ y.items).length ≤ line) : Ep G e s (.bin .add a b) (tv (Tup.mk (x.items ++ y.items))) :=
  p_bin h k (by
    show (if (x.items.map Datum.toD).length + (y.items.map Datum.toD).length ≤ line then some (PyData.tuple (x.items.map Datum.toD ++ y.items.map Datum.toD)) else none) = some (.tuple ((x.items ++ y.items).map Datum.toD))
    rw [if_pos (by rw [List.length_map, List.length_map, ← List.length_append]; exact q), List.map_append])
/-! ### comparisons -/
theorem p_cmp {o : Cm} {a b : CE} {x y : D} {t : Bool} (h : Ep G e s a (.d x)) (k : Ep G e s b (.d y)) (q : cmpF o x y = some t) : Ep G e s (.cmp o a b) (tv t) := by
  show ev G _ e s = _
  rw [ev_cmp]
  refine bd_go h (bd_go k ?_)
  have r : ∀ {f : D → M Vl}, o.as (.d y) f = f y := fun {f} => by cases o <;> rfl
  show (o.as (.d y) fun y => bd (opt (cmpF o x y)) fun t => rD (.bool t)) s = _
  rw [r, q]
  rfl
theorem p_eq [Datum α] {a b : CE} {x y : α} (h : Ep G e s a (tv x)) (k : Ep G e s b (tv y)) (hd : Datum.depth α ≤ 64 := by decide) : Ep G e s (.cmp .eq a b) (tv (decide (x = y))) := p_cmp h k (eqF_d hd x y)
theorem p_ne [Datum α] {a b : CE} {x y : α} (h : Ep G e s a (tv x)) (k : Ep G e s b (tv y)) (hd : Datum.depth α ≤ 64 := by decide) : Ep G e s (.cmp .ne a b) (tv (!decide (x = y))) :=
  p_cmp h k (by show (eqF _ _).map (!·) = _; rw [eqF_d hd x y]; rfl)
theorem p_lt {a b : CE} {x y : Int} (h : Ep G e s a (tv x)) (k : Ep G e s b (tv y)) : Ep G e s (.cmp .lt a b) (tv (decide (x < y))) := p_cmp h k (cmp_lt x y)
theorem p_gt {a b : CE} {x y : Int} (h : Ep G e s a (tv x)) (k : Ep G e s b (tv y)) : Ep G e s (.cmp .gt a b) (tv (decide (y < x))) := p_cmp h k (cmp_gt x y)
theorem p_le {a b : CE} {x y : Int} (h : Ep G e s a (tv x)) (k : Ep G e s b (tv y)) : Ep G e s (.cmp .le a b) (tv (decide (x ≤ y))) := p_cmp h k (cmp_le x y)
theorem p_ge {a b : CE} {x y : Int} (h : Ep G e s a (tv x)) (k : Ep G e s b (tv y)) : Ep G e s (.cmp .ge a b) (tv (decide (y ≤ x))) := p_cmp h k (cmp_ge x y)
theorem p_ltD [DatumOrd α] {a b : CE} {x y : α} (h : Ep G e s a (tv x)) (k : Ep G e s b (tv y)) (hd : Datum.depth α ≤ 64 := by decide) : Ep G e s (.cmp .lt a b) (tv (DatumOrd.lt x y)) := p_cmp h k (ltF_d hd x y)
theorem p_gtD [DatumOrd α] {a b : CE} {x y : α} (h : Ep G e s a (tv x)) (k : Ep G e s b (tv y)) (hd : Datum.depth α ≤ 64 := by decide) : Ep G e s (.cmp .gt a b) (tv (DatumOrd.lt y x)) := p_cmp h k (gtF_d hd x y)
theorem inL_d [Datum α] (hd : Datum.depth α ≤ 64) (x : α) (l : List α) : inF (Datum.toD x) (.list (l.map Datum.toD)) = some (decide (x ∈ l)) := by
  show (if (Datum.toD x : D).plain && PyData.plainAll (l.map Datum.toD) && decide (min (Datum.toD x : D).depth (PyData.depthAll (l.map (Datum.toD : α → D))) ≤ 64) then some ((l.map Datum.toD).any fun y => PyData.eqv y (Datum.toD x)) else none) = _
  rw [Datum.plain, W.plainAll_map, decide_eq_true (Nat.le_trans (Nat.min_le_left _ _) (Nat.le_trans (Datum.depth_le x) hd))]
  show some _ = _
  rw [List.any_map]
  congr 1
  rw [Bool.eq_iff_iff, List.any_eq_true, decide_eq_true_iff]
  constructor
  · rintro ⟨y, hy, h⟩
    have h : PyData.eqv (Datum.toD y) (Datum.toD x) = true := h
    rw [Datum.eqv, decide_eq_true_iff] at h
    exact h ▸ hy
  · exact fun h => ⟨x, h, by show PyData.eqv (Datum.toD x) (Datum.toD x) = true; rw [Datum.eqv, decide_eq_true_iff]⟩
theorem inT_d [Datum α] (hd : Datum.depth α ≤ 64) (x : α) (l : List α) : inF (Datum.toD x) (.tuple (l.map Datum.toD)) = some (decide (x ∈ l)) := inL_d hd x l
theorem p_inL [Datum α] {a b : CE} {x : α} {l : List α} (h : Ep G e s a (tv x)) (k : Ep G e s b (tv l)) (hd : Datum.depth α ≤ 64 := by decide) : Ep G e s (.cmp .isin a b) (tv (decide (x ∈ l))) := p_cmp h k (inL_d hd x l)
theorem p_inT [Datum α] {a b : CE} {x : α} {l : Tup α} (h : Ep G e s a (tv x)) (k : Ep G e s b (tv l)) (hd : Datum.depth α ≤ 64 := by decide) : Ep G e s (.cmp .isin a b) (tv (decide (x ∈ l.items))) := p_cmp h k (inT_d hd x l.items)
theorem p_ninL [Datum α] {a b : CE} {x : α} {l : List α} (h : Ep G e s a (tv x)) (k : Ep G e s b (tv l)) (hd : Datum.depth α ≤ 64 := by decide) : Ep G e s (.cmp .notin a b) (tv (!decide (x ∈ l))) :=
  p_cmp h k (by show (inF _ _).map (!·) = _; rw [show inF (Datum.toD x) (Datum.toD l) = _ from inL_d hd x l]; rfl)
theorem p_ninT [Datum α] {a b : CE} {x : α} {l : Tup α} (h : Ep G e s a (tv x)) (k : Ep G e s b (tv l)) (hd : Datum.depth α ≤ 64 := by decide) : Ep G e s (.cmp .notin a b) (tv (!decide (x ∈ l.items))) :=
  p_cmp h k (by show (inF _ _).map (!·) = _; rw [show inF (Datum.toD x) (Datum.toD l) = _ from inT_d hd x l.items]; rfl)
theorem toD_some [Datum α] [SomeDatum α] (x : α) : isNone (Datum.toD x) = false := by
  have h := SomeDatum.left x
  cases q : (Datum.toD x : D) with
  | none => rw [q] at h; simp [PyData.eqv] at h
  | _ => rfl
theorem p_isnone [Datum α] [SomeDatum α] {a : CE} {x : Option α} (h : Ep G e s a (tv x)) : Ep G e s (.cmp .is_ a (.cst .none)) (tv x.isNone) :=
  p_cmp h (p_unit) (by
    show isF (Datum.toD x) .none = _
    have r : ∀ z : D, isF z .none = some (isNone z) := fun z => by cases z <;> rfl
    rw [r]
    cases x with
    | none => rfl
    | some x => exact congrArg some (toD_some x))
theorem p_isntnone [Datum α] [SomeDatum α] {a : CE} {x : Option α} (h : Ep G e s a (tv x)) : Ep G e s (.cmp .isnot a (.cst .none)) (tv x.isSome) :=
  p_cmp h (p_unit) (by
    show (isF (Datum.toD x) .none).map (!·) = _
    have r : ∀ z : D, isF z .none = some (isNone z) := fun z => by cases z <;> rfl
    rw [r]
    cases x with
    | none => rfl
    | some x => exact congrArg (fun b => some (!b)) (toD_some x))
theorem p_chain {a b c : CE} {o p : Cm} {x y z : D} {t u : Bool} (h : Ep G e s a (.d x)) (k : Ep G e s b (.d y)) (j : Ep G e s c (.d z)) (q : cmpF o x y = some t) (r : cmpF p y z = some u) : Ep G e s (.chain o p a b c) (tv (t && u)) := by
  show ev G _ e s = _
  rw [ev_chain]
  refine bd_go h (bd_go k ?_)
  show bd (opt (cmpF o x y)) _ s = _
  rw [q]
  cases t with
  | false => rfl
  | true =>
    refine bd_go (m := ev G c e) j ?_
    show bd (opt (cmpF p y z)) _ s = _
    rw [r]
    rfl
/-! ### truth -/
theorem p_not {a : CE} {b : Bool} (h : Ep G e s a (tv b)) : Ep G e s (.not a) (tv (!b)) := by
  show ev G _ e s = _
  rw [ev_not]
  exact bd_go h rfl
theorem p_and {a b : CE} {p q : Bool} (h : Ep G e s a (tv p)) (k : p = true → Ep G e s b (tv q)) : Ep G e s (.and a b) (tv (p && q)) := by
  show ev G _ e s = _
  rw [ev_and]
  refine bd_go h ?_
  cases p with
  | true => exact k rfl
  | false => rfl
theorem p_or {a b : CE} {p q : Bool} (h : Ep G e s a (tv p)) (k : p = false → Ep G e s b (tv q)) : Ep G e s (.or a b) (tv (p || q)) := by
  show ev G _ e s = _
  rw [ev_or]
  refine bd_go h ?_
  cases p with
  | true => rfl
  | false => exact k rfl
theorem p_ite [Datum α] {c a b : CE} {p : Bool} {x y : α} (h : Ep G e s c (tv p)) (k : p = true → Ep G e s a (tv x)) (j : p = false → Ep G e s b (tv y)) : Ep G e s (.ite c a b) (tv (bif p then x else y)) := by
  show ev G _ e s = _
  rw [ev_ite]
  refine bd_go h ?_
  show bd (truth (.d (.bool p))) _ s = _
  cases p with
  | true => exact k rfl
  | false => exact j rfl
/-! ### items, slices -/
theorem p_at {a i : CE} {x y z : D} (h : Ep G e s a (.d x)) (k : Ep G e s i (.d y)) (q : subF x y = some z) : Ep G e s (.sub a i) (.d z) := by
  show ev G _ e s = _
  rw [ev_sub]
  refine bd_go h (bd_go k ?_)
  show bd (opt (subF x y)) _ s = _
  rw [q]
  rfl
theorem p_fst [Datum α] [Datum β] {a : CE} {p : α × β} (h : Ep G e s a (tv p)) : Ep G e s (.sub a (.cst (.int 0))) (tv p.1) := p_at h (p_int 0) rfl
theorem p_snd [Datum α] [Datum β] {a : CE} {p : α × β} (h : Ep G e s a (tv p)) : Ep G e s (.sub a (.cst (.int 1))) (tv p.2) := p_at h (p_int 1) rfl
theorem p_3a [Datum α] [Datum β] [Datum γ] {a : CE} {p : T3 α β γ} (h : Ep G e s a (tv p)) : Ep G e s (.sub a (.cst (.int 0))) (tv p.a) := p_at h (p_int 0) rfl
theorem p_3b [Datum α] [Datum β] [Datum γ] {a : CE} {p : T3 α β γ} (h : Ep G e s a (tv p)) : Ep G e s (.sub a (.cst (.int 1))) (tv p.b) := p_at h (p_int 1) rfl
theorem p_3c [Datum α] [Datum β] [Datum γ] {a : CE} {p : T3 α β γ} (h : Ep G e s a (tv p)) : Ep G e s (.sub a (.cst (.int 2))) (tv p.c) := p_at h (p_int 2) rfl
theorem atI_get [Inhabited α] {l : List α} {i : Int} (h0 : 0 ≤ i) (h1 : i < l.length) : L2.atI l i = some (l.getD i.toNat default) := by
  have hlt : i.toNat < l.length := by omega
  rw [atI_at h0 (List.getElem?_eq_getElem hlt), List.getD_eq_getElem?_getD, List.getElem?_eq_getElem hlt]
  rfl
theorem p_getL [Inhabited α] [Datum α] {a i : CE} {l : List α} {k : Int} (h : Ep G e s a (tv l)) (j : Ep G e s i (tv k)) (h0 : 0 ≤ k) (h1 : k < l.length) : Ep G e s (.sub a i) (tv (l.getD k.toNat default)) :=
  p_at h j (by show L2.atI (l.map Datum.toD) k = _; rw [atI_map, atI_get h0 h1]; rfl)
theorem p_getT [Inhabited α] [Datum α] {a i : CE} {l : Tup α} {k : Int} (h : Ep G e s a (tv l)) (j : Ep G e s i (tv k)) (h0 : 0 ≤ k) (h1 : k < l.items.length) : Ep G e s (.sub a i) (tv (l.items.getD k.toNat default)) :=
  p_at h j (by show L2.atI (l.items.map Datum.toD) k = _; rw [atI_map, atI_get h0 h1]; rfl)
theorem atI_last [Inhabited α] {l : List α} (h : l ≠ []) : L2.atI l (-1) = some (l.getLastD default) := by
  have hp : 0 < l.length := List.length_pos_iff.mpr h
  unfold L2.atI L2.ixN
  rw [if_neg (by decide), if_pos (by omega)]
  show l[((l.length : Int) + -1).toNat]? = _
  rw [show ((l.length : Int) + -1).toNat = l.length - 1 by omega, ← List.getLast?_eq_getElem?, List.getLastD_eq_getLast?]
  cases q : l.getLast? with
  | none => rw [List.getLast?_eq_none_iff] at q; exact (h q).elim
  | some x => rfl
theorem p_neg1 : Ep G e s (.neg (.cst (.int 1))) (tv (-1 : Int)) := p_neg (p_int 1)
theorem p_lastL [Inhabited α] [Datum α] {a : CE} {l : List α} (h : Ep G e s a (tv l)) (hn : l ≠ []) : Ep G e s (.sub a (.neg (.cst (.int 1)))) (tv (l.getLastD default)) :=
  p_at h p_neg1 (by show L2.atI (l.map Datum.toD) (-1) = _; rw [atI_map, atI_last hn]; rfl)
theorem p_lastT [Inhabited α] [Datum α] {a : CE} {l : Tup α} (h : Ep G e s a (tv l)) (hn : l.items ≠ []) : Ep G e s (.sub a (.neg (.cst (.int 1)))) (tv (l.items.getLastD default)) :=
  p_at h p_neg1 (by show L2.atI (l.items.map Datum.toD) (-1) = _; rw [atI_map, atI_last hn]; rfl)
theorem p_slc {bl bh : Bool} {a lo hi : CE} {x y z w : D} {o1 o2 : Option Int} (h : Ep G e s a (.d x)) (k : Ep G e s lo (.d y)) (j : Ep G e s hi (.d z)) (q1 : boundF bl y = some o1) (q2 : boundF bh z = some o2) (q : cutD x o1 o2 = some w) : Ep G e s (.slc bl bh a lo hi) (.d w) := by
  show ev G _ e s = _
  rw [ev_slc]
  refine bd_go h (bd_go (bd_go k (show opt (boundF bl y) s = _ by rw [q1]; rfl)) (bd_go (bd_go j (show opt (boundF bh z) s = _ by rw [q2]; rfl)) ?_))
  show bd (opt (cutD x o1 o2)) _ s = _
  rw [q]
  rfl
theorem cutL_hi {τ : Type} {l : List τ} {k : Int} (h0 : 0 ≤ k) : cutL l none (some k) = l.take k.toNat := by
  unfold cutL HT.sIx
  simp only [List.drop_zero, Nat.sub_zero]
  by_cases h : (l.length : Int) < k
  · rw [if_neg (by omega)]
    simp only [List.take_eq_take_iff]
    omega
  · rw [if_neg (by omega)]
    simp only [List.take_eq_take_iff]
    omega
theorem cutL_lo {τ : Type} {l : List τ} {k : Int} (h0 : 0 ≤ k) : cutL l (some k) none = l.drop k.toNat := by
  unfold cutL HT.sIx
  dsimp only
  rw [if_neg (by omega)]
  by_cases h : (l.length : Int) < k
  · rw [List.drop_eq_nil_of_le (by omega), List.drop_eq_nil_of_le (by omega), List.take_nil]
  · rw [show min k.toNat l.length = k.toNat by omega]
    rw [List.take_of_length_le]
    rw [List.length_drop]
    omega
theorem p_takeL [Datum α] {a i : CE} {l : List α} {k : Int} (h : Ep G e s a (tv l)) (j : Ep G e s i (tv k)) (h0 : 0 ≤ k) : Ep G e s (.slc false true a (.cst .none) i) (tv (l.take k.toNat)) :=
  p_slc h p_unit j rfl rfl (by show some (PyData.list (cutL (l.map Datum.toD) none (some k))) = some (.list _); rw [cutL_hi h0, List.map_take])
theorem p_takeT [Datum α] {a i : CE} {l : Tup α} {k : Int} (h : Ep G e s a (tv l)) (j : Ep G e s i (tv k)) (h0 : 0 ≤ k) : Ep G e s (.slc false true a (.cst .none) i) (tv (Tup.mk (l.items.take k.toNat))) :=
  p_slc h p_unit j rfl rfl (by show some (PyData.tuple (cutL (l.items.map Datum.toD) none (some k))) = some (.tuple _); rw [cutL_hi h0, List.map_take])
theorem p_dropL [Datum α] {a i : CE} {l : List α} {k : Int} (h : Ep G e s a (tv l)) (j : Ep G e s i (tv k)) (h0 : 0 ≤ k) : Ep G e s (.slc true false a i (.cst .none)) (tv (l.drop k.toNat)) :=
  p_slc h j p_unit rfl rfl (by show some (PyData.list (cutL (l.map Datum.toD) (some k) none)) = some (.list _); rw [cutL_lo h0, List.map_drop])
theorem p_dropT [Datum α] {a i : CE} {l : Tup α} {k : Int} (h : Ep G e s a (tv l)) (j : Ep G e s i (tv k)) (h0 : 0 ≤ k) : Ep G e s (.slc true false a i (.cst .none)) (tv (Tup.mk (l.items.drop k.toNat))) :=
  p_slc h j p_unit rfl rfl (by show some (PyData.tuple (cutL (l.items.map Datum.toD) (some k) none)) = some (.tuple _); rw [cutL_lo h0, List.map_drop])
/-! ### calls -/
theorem p_a0 : Eps G e s .nil [] := by show evs G _ e s = _; rw [evs_nil]; rfl
theorem p_ac {a b : CE} {x : D} {vs : List Vl} (h : Ep G e s a (.d x)) (k : Eps G e s b vs) : Eps G e s (.cons a b) (.d x :: vs) := by
  show evs G _ e s = _
  rw [evs_cons]
  exact bd_go h (bd_go k rfl)
theorem p_call {f : Str} {a : CE} {vs : List Vl} {v : Vl} (h : Eps G e s a vs) (k : G f vs s = .ok v s) : Ep G e s (.call f a) v := by
  show ev G _ e s = _
  rw [ev_call]
  exact bd_go h k
/-! ### built-ins -/
theorem p_prim {p : Pm} {a b : CE} {x z : D} {l : List D} (h : Ep G e s a (.d x)) (k : EpL G e s b l) (q : primF p (x :: l) = some z) : Ep G e s (.prim p a b) (.d z) := by
  show ev G _ e s = _
  rw [ev_prim]
  refine bd_go h (bd_go k ?_)
  have r : ∀ {f : D → M Vl}, p.as (.d x) f = f x := fun {f} => by
    unfold Pm.as
    cases p.reads <;> rfl
  show (p.as (.d x) fun x => bd (opt (primF p (x :: l))) rD) s = _
  rw [r, q]
  rfl
theorem p_lenL [Datum α] {a : CE} {l : List α} (h : Ep G e s a (tv l)) : Ep G e s (.prim .len a .nil) (tv (l.length : Int)) := p_prim h p_nil (by show some (PyData.int ((l.map (Datum.toD : α → D)).length : Int)) = some (.int _); rw [List.length_map])
theorem p_lenT [Datum α] {a : CE} {l : Tup α} (h : Ep G e s a (tv l)) : Ep G e s (.prim .len a .nil) (tv (l.items.length : Int)) := p_prim h p_nil (by show some (PyData.int ((l.items.map (Datum.toD : α → D)).length : Int)) = some (.int _); rw [List.length_map])
theorem all_boolsL (bs : List Bool) : primF .all [.list (bs.map .bool)] = some (.bool (bs.all id)) := by
  show (if PyData.plainAll (bs.map PyData.bool) && (bs.map PyData.bool).all fits then some (PyData.bool ((bs.map PyData.bool).all PyData.truthy)) else none) = _
  have e1 : PyData.plainAll (bs.map PyData.bool) = true := W.plainAll_map bs
  have e2 : (bs.map PyData.bool).all fits = true := by
    rw [List.all_eq_true]
    intro d hd
    obtain ⟨b, _, rfl⟩ := List.mem_map.mp hd
    rfl
  rw [e1, e2]
  show some (PyData.bool ((bs.map PyData.bool).all PyData.truthy)) = _
  rw [List.all_map]
  rfl
theorem any_boolsL (bs : List Bool) : primF .any [.list (bs.map .bool)] = some (.bool (bs.any id)) := by
  show (if PyData.plainAll (bs.map PyData.bool) && (bs.map PyData.bool).all fits then some (PyData.bool ((bs.map PyData.bool).any PyData.truthy)) else none) = _
  have e1 : PyData.plainAll (bs.map PyData.bool) = true := W.plainAll_map bs
  have e2 : (bs.map PyData.bool).all fits = true := by
    rw [List.all_eq_true]
    intro d hd
    obtain ⟨b, _, rfl⟩ := List.mem_map.mp hd
    rfl
  rw [e1, e2]
  show some (PyData.bool ((bs.map PyData.bool).any PyData.truthy)) = _
  rw [List.any_map]
  rfl
theorem p_all {a : CE} {l : List Bool} (h : Ep G e s a (tv l)) : Ep G e s (.prim .all a .nil) (tv (l.all id)) := p_prim h p_nil (all_boolsL l)
theorem p_any {a : CE} {l : List Bool} (h : Ep G e s a (tv l)) : Ep G e s (.prim .any a .nil) (tv (l.any id)) := p_prim h p_nil (any_boolsL l)
theorem p_sum {a : CE} {l : List Int} (h : Ep G e s a (tv l)) : Ep G e s (.prim .sum a .nil) (tv l.sum) := p_prim h p_nil (by
  show (intsF (l.map .int)).map (fun ns => PyData.int ns.sum) = _
  rw [intsF_map]
  rfl)
theorem p_abs {a : CE} {x : Int} (h : Ep G e s a (tv x)) : Ep G e s (.prim .abs a .nil) (tv (if x < 0 then -x else x)) := p_prim h p_nil rfl
theorem p_toint {a : CE} {x : Int} (h : Ep G e s a (tv x)) : Ep G e s (.prim .int a .nil) (tv x) := p_prim h p_nil rfl
theorem p_b2i {a : CE} {x : Bool} (h : Ep G e s a (tv x)) : Ep G e s (.prim .int a .nil) (tv (if x then 1 else 0 : Int)) := p_prim h p_nil rfl
theorem p_max2 {a b : CE} {x y : Int} (h : Ep G e s a (tv x)) (k : Ep G e s b (tv y)) : Ep G e s (.prim .max2 a (.cons b .nil)) (tv (if y > x then y else x)) := p_prim h (p_cons k p_nil) rfl
theorem p_min2 {a b : CE} {x y : Int} (h : Ep G e s a (tv x)) (k : Ep G e s b (tv y)) : Ep G e s (.prim .min2 a (.cons b .nil)) (tv (if y < x then y else x)) := p_prim h (p_cons k p_nil) rfl
theorem p_tupL [Datum α] {a : CE} {l : List α} (h : Ep G e s a (tv l)) : Ep G e s (.prim .tuple a .nil) (tv (Tup.mk l)) := p_prim h p_nil rfl
theorem p_listT [Datum α] {a : CE} {l : Tup α} (h : Ep G e s a (tv l)) : Ep G e s (.prim .list a .nil) (tv l.items) := p_prim h p_nil rfl
theorem p_listL [Datum α] {a : CE} {l : List α} (h : Ep G e s a (tv l)) : Ep G e s (.prim .list a .nil) (tv l) := p_prim h p_nil rfl
/-- the greatest of some, the default of none -/
def maxL [Inhabited α] [DatumOrd α] : List α → α
  | [] => default
  | x :: r => W.maxOf x r
def minL [Inhabited α] [DatumOrd α] : List α → α
  | [] => default
  | x :: r => W.minOf x r
theorem max_d [Inhabited α] [DatumOrd α] (hd : Datum.depth α ≤ 64) {l : List α} (hn : l ≠ []) : (match l.map (Datum.toD : α → D) with
    | a :: r => if alikeB (a :: r) && !isNone a && decide (PyData.depthAll (a :: r) ≤ 64) then some (W.maxD a r) else none
    | [] => none) = some (Datum.toD (maxL l)) := by
  cases l with
  | nil => exact (hn rfl).elim
  | cons x r =>
    show (if alikeB ((x :: r).map (Datum.toD : α → D)) && !isNone (Datum.toD x) && decide (PyData.depthAll ((x :: r).map (Datum.toD : α → D)) ≤ 64) then some (W.maxD (Datum.toD x) (r.map Datum.toD)) else none) = _
    rw [alikeB_of (alike_map (x :: r)), isNone_d, decide_eq_true (Nat.le_trans (W.depthAll_map (x :: r)) hd), W.maxD_map]
    rfl
theorem min_d [Inhabited α] [DatumOrd α] (hd : Datum.depth α ≤ 64) {l : List α} (hn : l ≠ []) : (match l.map (Datum.toD : α → D) with
    | a :: r => if alikeB (a :: r) && !isNone a && decide (PyData.depthAll (a :: r) ≤ 64) then some (W.minD a r) else none
    | [] => none) = some (Datum.toD (minL l)) := by
  cases l with
  | nil => exact (hn rfl).elim
  | cons x r =>
    show (if alikeB ((x :: r).map (Datum.toD : α → D)) && !isNone (Datum.toD x) && decide (PyData.depthAll ((x :: r).map (Datum.toD : α → D)) ≤ 64) then some (W.minD (Datum.toD x) (r.map Datum.toD)) else none) = _
    rw [alikeB_of (alike_map (x :: r)), isNone_d, decide_eq_true (Nat.le_trans (W.depthAll_map (x :: r)) hd), W.minD_map]
    rfl
theorem p_maxL [Inhabited α] [DatumOrd α] {a : CE} {l : List α} (h : Ep G e s a (tv l)) (hn : l ≠ []) (hd : Datum.depth α ≤ 64 := by decide) : Ep G e s (.prim .max a .nil) (tv (maxL l)) := p_prim h p_nil (max_d hd hn)
theorem p_maxT [Inhabited α] [DatumOrd α] {a : CE} {l : Tup α} (h : Ep G e s a (tv l)) (hn : l.items ≠ []) (hd : Datum.depth α ≤ 64 := by decide) : Ep G e s (.prim .max a .nil) (tv (maxL l.items)) := p_prim h p_nil (max_d hd hn)
theorem p_minL [Inhabited α] [DatumOrd α] {a : CE} {l : List α} (h : Ep G e s a (tv l)) (hn : l ≠ []) (hd : Datum.depth α ≤ 64 := by decide) : Ep G e s (.prim .min a .nil) (tv (minL l)) := p_prim h p_nil (min_d hd hn)
theorem p_minT [Inhabited α] [DatumOrd α] {a : CE} {l : Tup α} (h : Ep G e s a (tv l)) (hn : l.items ≠ []) (hd : Datum.depth α ≤ 64 := by decide) : Ep G e s (.prim .min a .nil) (tv (minL l.items)) := p_prim h p_nil (min_d hd hn)
/-! ### what is walked -/
theorem p_it {k : Ik} {a : CE} {l xs : List D} (h : EpL G e s a l) (q : itF k l = some xs) : EpI G e s (.it k a) xs := by
  show ev G _ e s = _
  rw [ev_it]
  refine bd_go h ?_
  show bd (opt (itF k l)) _ s = _
  rw [q]
  rfl
theorem i_L [Datum α] {a : CE} {l : List α} (h : Ep G e s a (tv l)) : EpI G e s (.it .seq (.cons a .nil)) (l.map Datum.toD) := p_it (p_cons h p_nil) rfl
theorem i_T [Datum α] {a : CE} {l : Tup α} (h : Ep G e s a (tv l)) : EpI G e s (.it .seq (.cons a .nil)) (l.items.map Datum.toD) := p_it (p_cons h p_nil) rfl
def enumL : Int → List α → List (Int × α)
  | _, [] => []
  | i, x :: r => (i, x) :: enumL (i + 1) r
theorem enum_d [Datum α] : ∀ (i : Int) (l : List α), enumFrom i (l.map Datum.toD) = (enumL i l).map Datum.toD
  | _, [] => rfl
  | i, x :: r => by
    rw [List.map_cons, enumFrom, enum_d (i + 1) r, enumL, List.map_cons]
    rfl
theorem i_enumL [Datum α] {a : CE} {l : List α} (h : Ep G e s a (tv l)) : EpI G e s (.it .enum (.cons a .nil)) ((enumL 0 l).map Datum.toD) := p_it (p_cons h p_nil) (by show some (enumFrom 0 (l.map Datum.toD)) = _; rw [enum_d])
theorem i_enumT [Datum α] {a : CE} {l : Tup α} (h : Ep G e s a (tv l)) : EpI G e s (.it .enum (.cons a .nil)) ((enumL 0 l.items).map Datum.toD) := p_it (p_cons h p_nil) (by show some (enumFrom 0 (l.items.map Datum.toD)) = _; rw [enum_d])
theorem zip_d [Datum α] [Datum β] (l : List α) (m : List β) : (zipAll [l.map Datum.toD, m.map Datum.toD]).map PyData.tuple = (l.zip m).map Datum.toD := zip2 Datum.toD Datum.toD l m
theorem i_zipTT [Datum α] [Datum β] {a b : CE} {l : Tup α} {m : Tup β} (h : Ep G e s a (tv l)) (k : Ep G e s b (tv m)) : EpI G e s (.it .zip (.cons a (.cons b .nil))) ((l.items.zip m.items).map Datum.toD) :=
  p_it (p_cons h (p_cons k p_nil)) (by show some ((zipAll [l.items.map Datum.toD, m.items.map Datum.toD]).map PyData.tuple) = _; rw [zip_d])
theorem i_zipLL [Datum α] [Datum β] {a b : CE} {l : List α} {m : List β} (h : Ep G e s a (tv l)) (k : Ep G e s b (tv m)) : EpI G e s (.it .zip (.cons a (.cons b .nil))) ((l.zip m).map Datum.toD) :=
  p_it (p_cons h (p_cons k p_nil)) (by show some ((zipAll [l.map Datum.toD, m.map Datum.toD]).map PyData.tuple) = _; rw [zip_d])
theorem i_zipTL [Datum α] [Datum β] {a b : CE} {l : Tup α} {m : List β} (h : Ep G e s a (tv l)) (k : Ep G e s b (tv m)) : EpI G e s (.it .zip (.cons a (.cons b .nil))) ((l.items.zip m).map Datum.toD) :=
  p_it (p_cons h (p_cons k p_nil)) (by show some ((zipAll [l.items.map Datum.toD, m.map Datum.toD]).map PyData.tuple) = _; rw [zip_d])
theorem i_zipLT [Datum α] [Datum β] {a b : CE} {l : List α} {m : Tup β} (h : Ep G e s a (tv l)) (k : Ep G e s b (tv m)) : EpI G e s (.it .zip (.cons a (.cons b .nil))) ((l.zip m.items).map Datum.toD) :=
  p_it (p_cons h (p_cons k p_nil)) (by show some ((zipAll [l.map Datum.toD, m.items.map Datum.toD]).map PyData.tuple) = _; rw [zip_d])
/-- i, i + 1, .., ahead of j -/
def upFrom (i : Int) : Nat → List Int
  | 0 => []
  | n + 1 => i :: upFrom (i + 1) n
def rangeI (i j : Int) : List Int := upFrom i (j - i).toNat
theorem rng_up (i : Int) (n : Nat) : rng i n = (upFrom i n).map Datum.toD := by
  induction n generalizing i with
  | zero => rfl
  | succ n ih => rw [rng, ih, upFrom]; rfl
theorem upFrom_len (i : Int) (n : Nat) : (upFrom i n).length = n := by
  induction n generalizing i with
  | zero => rfl
  | succ n ih => rw [upFrom, List.length_cons, ih]
theorem upFrom_mem {i : Int} {n : Nat} {x : Int} : x ∈ upFrom i n ↔ i ≤ x ∧ x < i + n := by
  induction n generalizing i with
  | zero => simp [upFrom] <;> omega
  | succ n ih =>
    rw [upFrom, List.mem_cons, ih]
    omega
theorem rangeI_mem {i j x : Int} : x ∈ rangeI i j ↔ i ≤ x ∧ x < j := by
  unfold rangeI
  rw [upFrom_mem]
  omega
theorem i_range1 {a : CE} {j : Int} (h : Ep G e s a (tv j)) (q : -(2 ^ 62) ≤ j ∧ j < 2 ^ 62) : EpI G e s (.it .range (.cons a .nil)) ((rangeI 0 j).map Datum.toD) :=
  p_it (p_cons h p_nil) (by
    show (if -(2 ^ 62) ≤ j ∧ j < 2 ^ 62 then some (rng 0 j.toNat) else none) = _
    rw [if_pos q, rng_up]
    unfold rangeI
    rw [show j - 0 = j by omega])
theorem i_range2 {a b : CE} {i j : Int} (h : Ep G e s a (tv i)) (k : Ep G e s b (tv j)) (q : (-(2 ^ 62) ≤ i ∧ i < 2 ^ 62) ∧ (-(2 ^ 62) ≤ j ∧ j < 2 ^ 62)) : EpI G e s (.it .range (.cons a (.cons b .nil))) ((rangeI i j).map Datum.toD) :=
  p_it (p_cons h (p_cons k p_nil)) (by
    show (if -(2 ^ 62) ≤ i ∧ i < 2 ^ 62 ∧ -(2 ^ 62) ≤ j ∧ j < 2 ^ 62 then some (rng i (j - i).toNat) else none) = _
    rw [if_pos ⟨q.1.1, q.1.2, q.2.1, q.2.2⟩, rng_up]
    rfl)
/-! ### comprehensions -/
theorem p_lc0 [Datum α] [Datum β] {own : List Nat} {g : Tg} {src tst elt : CE} {l : List α} {p : α → Bool} {f : α → β} {E : α → Env} (h : EpI G e s src (l.map Datum.toD))
    (hb : ∀ x, bindT g (.d (Datum.toD x)) (wipe e own) = some (E x)) (ht : ∀ x ∈ l, Ep G (E x) s tst (tv (p x))) (hf : ∀ x ∈ l, p x = true → Ep G (E x) s elt (tv (f x))) (hl : l.length ≤ line) :
    Ep G e s (.lc own g src tst elt) (tv ((l.filter p).map f)) := by
  show ev G _ e s = _
  rw [ev_lc]
  refine bd_go h ?_
  have key := lc_pure (F := lcBody G own g tst elt e) (fun a => if p a then some (f a) else none) Datum.toD Datum.toD (s := s) (l := l) fun a ha => by
    unfold lcBody
    refine bd_go (m := opt _) (show _ = R.ok (E a) s by rw [hb a]; rfl) (bd_go (ht a ha) ?_)
    show bd (truth (.d (.bool (p a)))) _ s = _
    cases q : p a with
    | true => exact bd_go (a := true) (s' := s) rfl (bd_go (hf a ha q) rfl)
    | false => rfl
  have ef : l.filterMap (fun a => if p a then some (f a) else none) = (l.filter p).map f := by
    clear h hb ht hf hl key
    induction l with
    | nil => rfl
    | cons a l ih =>
      rw [List.filterMap_cons, List.filter_cons]
      cases p a with
      | true => simp only [if_true, List.map_cons]; rw [← ih]
      | false => exact ih
  rw [ef] at key
  refine bd_go (noexc_ok key) ?_
  rw [short_ok (by rw [List.length_map, List.length_map]; exact Nat.le_trans (List.length_filter_le _ _) hl)]
  rfl
theorem p_lcm [Datum α] [Datum β] {own : List Nat} {g : Tg} {src elt : CE} {l : List α} {f : α → β} {E : α → Env} (h : EpI G e s src (l.map Datum.toD))
    (hb : ∀ x, bindT g (.d (Datum.toD x)) (wipe e own) = some (E x)) (hf : ∀ x ∈ l, Ep G (E x) s elt (tv (f x))) (hl : l.length ≤ line) :
    Ep G e s (.lc own g src (.cst (.bool true)) elt) (tv (l.map f)) := by
  have := p_lc0 (p := fun _ => true) h hb (fun x _ => p_bool true) (fun x hx _ => hf x hx) hl
  rw [List.filter_eq_self.mpr (fun _ _ => rfl)] at this
  exact this
theorem p_lcf [Datum α] {own : List Nat} {g : Tg} {src tst elt : CE} {l : List α} {p : α → Bool} {E : α → Env} (h : EpI G e s src (l.map Datum.toD))
    (hb : ∀ x, bindT g (.d (Datum.toD x)) (wipe e own) = some (E x)) (ht : ∀ x ∈ l, Ep G (E x) s tst (tv (p x))) (hf : ∀ x ∈ l, p x = true → Ep G (E x) s elt (tv x)) (hl : l.length ≤ line) :
    Ep G e s (.lc own g src tst elt) (tv (l.filter p)) := by
  have := p_lc0 (f := fun x => x) h hb ht hf hl
  rw [List.map_id'] at this
  exact this
end
end PF
end
section
set_option Elab.async false
set_option linter.all false
set_option maxRecDepth 100000
set_option maxHeartbeats 4000000
/-! PHb: rules for statements. -/
namespace PF
open PySem
open W (Tup T3 T4 Datum DatumOrd SomeDatum)
/-- a turn's end: on with a state, or back with an answer -/
inductive Stp (σ ρ : Type) where | nx (st : σ) | rt (r : ρ)
def Stp.fin {σ ρ : Type} (x : Stp σ ρ) (k : σ → ρ) : ρ := match x with
  | .nx st => k st
  | .rt r => r
section
variable {G : Str → List Vl → M Vl} {e e' : Env} {s : St}
variable {α β γ δ : Type} [DecidableEq α] [DecidableEq β] [DecidableEq γ] [DecidableEq δ]
theorem x_nop : Xs G e s .nop (.nx e) := by show ex G _ e s = _; rw [ex_nop]; rfl
theorem x_ret {c : CE} {x : D} (h : Ep G e s c (.d x)) : Xs G e s (.ret c) (.rt (.d x)) := by
  show ex G _ e s = _
  rw [ex_ret]
  exact bd_go h rfl
theorem x_seq {a b : CS} {o : Fl} (h : Xs G e s a (.nx e')) (k : Xs G e' s b o) : Xs G e s (.seq a b) o := by
  show ex G _ e s = _
  rw [ex_seq]
  exact bd_go h k
theorem x_seqR {a b : CS} {v : Vl} (h : Xs G e s a (.rt v)) : Xs G e s (.seq a b) (.rt v) := by
  show ex G _ e s = _
  rw [ex_seq]
  exact bd_go h rfl
theorem x_exp {c : CE} {v : Vl} (h : Ep G e s c v) : Xs G e s (.exp c) (.nx e) := by
  show ex G _ e s = _
  rw [ex_exp]
  exact bd_go h rfl
theorem x_frz0 {i : Nat} (h : thaw e i = ret e') : Xs G e s (.frz i) (.nx e') := by
  show ex G _ e s = _
  rw [ex_frz, h]
  rfl
theorem x_frz {i : Nat} {x : D} (h : e[i]? = some (some (.own x))) : Xs G e s (.frz i) (.nx (e.set i (some (.d x)))) := x_frz0 (by unfold thaw; rw [h])
theorem x_frzd {i : Nat} {x : D} (h : e[i]? = some (some (.d x))) : Xs G e s (.frz i) (.nx e) := x_frz0 (by unfold thaw; rw [h])
theorem x_let1 [Datum α] {i : Nat} {c : CE} {x : α} (h : Ep G e s c (tv x)) : Xs G e s (.asgs [(false, i, c)]) (.nx (e.set i (some (tv x)))) := by
  show ex G _ e s = _
  rw [ex_asgs]
  refine (bd_go (a := [tv x]) (s' := s) ?_ rfl)
  rw [evP]
  exact bd_go h (bd_go (a := []) (s' := s) (by rw [evP]; rfl) rfl)
/-- x = c, the rest behind it -/
theorem x_let [Datum α] {i : Nat} {c : CE} {b : CS} {x : α} {o : α → Fl} (h : Ep G e s c (tv x)) (k : ∀ y, y = x → Xs G (e.set i (some (tv y))) s b (o y)) : Xs G e s (.seq (.asgs [(false, i, c)]) b) (o x) := x_seq (x_let1 h) (k x rfl)
/-- x = [..], one's own -/
theorem x_letO [Datum α] {i : Nat} {c : CE} {b : CS} {x : List α} {o : List α → Fl} (h : Ep G e s c (tv x)) (k : ∀ y, y = x → Xs G (e.set i (some (.own (.list (y.map Datum.toD))))) s b (o y)) : Xs G e s (.seq (.asgs [(true, i, c)]) b) (o x) := by
  refine x_seq (e' := e.set i (some (.own (.list (x.map Datum.toD))))) ?_ (k x rfl)
  show ex G _ e s = _
  rw [ex_asgs]
  refine bd_go (a := [.own (.list (x.map Datum.toD))]) (s' := s) ?_ rfl
  rw [evP]
  exact bd_go h (bd_go (a := []) (s' := s) (by rw [evP]; rfl) rfl)
theorem x_let2' {i j : Nat} {c d : CE} {x y : D} (h : Ep G e s c (.d x)) (h2 : Ep G e s d (.d y)) : Xs G e s (.asgs [(false, i, c), (false, j, d)]) (.nx ((e.set i (some (.d x))).set j (some (.d y)))) := by
  show ex G _ e s = _
  rw [ex_asgs]
  refine (bd_go (a := [.d x, .d y]) (s' := s) ?_ rfl)
  rw [evP]
  refine bd_go h (bd_go (a := [.d y]) (s' := s) ?_ rfl)
  rw [evP]
  exact bd_go h2 (bd_go (a := []) (s' := s) (by rw [evP]; rfl) rfl)
/-- x, y = c, d -/
theorem x_let2 {i j : Nat} {c d : CE} {b : CS} {x y : D} {o : Fl} (h : Ep G e s c (.d x)) (h2 : Ep G e s d (.d y)) (k : Xs G ((e.set i (some (.d x))).set j (some (.d y))) s b o) : Xs G e s (.seq (.asgs [(false, i, c), (false, j, d)]) b) o := x_seq (x_let2' h h2) k
theorem x_asg' {g : Tg} {c : CE} {x : D} (h : Ep G e s c (.d x)) (hb : bindT g (.d x) e = some e') : Xs G e s (.asg g c) (.nx e') := by
  show ex G _ e s = _
  rw [ex_asg]
  refine bd_go h ?_
  show bd (opt (bindT g (.d x) e)) _ s = _
  rw [hb]
  rfl
/-- (x, y) = c -/
theorem x_asg {g : Tg} {c : CE} {b : CS} {x : D} {o : Fl} (h : Ep G e s c (.d x)) (hb : bindT g (.d x) e = some e') (k : Xs G e' s b o) : Xs G e s (.seq (.asg g c) b) o := x_seq (x_asg' h hb) k
/-- if, both ways told to the end -/
theorem x_if {c : CE} {a b : CS} {p : Bool} {o : Fl} (h : Ep G e s c (tv p)) (k : p = true → Xs G e s a o) (j : p = false → Xs G e s b o) : Xs G e s (.ite c a b) o := by
  show ex G _ e s = _
  rw [ex_ite]
  refine bd_go h ?_
  show bd (truth (.d (.bool p))) _ s = _
  cases p with
  | true => exact k rfl
  | false => exact j rfl
theorem x_ifR [Datum α] {c : CE} {a b : CS} {p : Bool} {x y : α} (h : Ep G e s c (tv p)) (k : p = true → Xs G e s a (.rt (tv x))) (j : p = false → Xs G e s b (.rt (tv y))) : Xs G e s (.ite c a b) (.rt (tv (bif p then x else y))) :=
  x_if h (fun q => by rw [q]; exact k q) (fun q => by rw [q]; exact j q)
/-- if c: a (which goes back), then b -/
theorem x_guard [Datum α] {c : CE} {a b : CS} {p : Bool} {x y : α} (h : Ep G e s c (tv p)) (k : p = true → Xs G e s a (.rt (tv x))) (j : p = false → Xs G e s b (.rt (tv y))) : Xs G e s (.seq (.ite c a .nop) b) (.rt (tv (bif p then x else y))) := by
  cases p with
  | true => exact x_seqR (x_if h (fun q => k q) (fun q => nomatch q))
  | false => exact x_seq (x_if h (fun q => nomatch q) (fun _ => x_nop)) (j rfl)
/-- .. where a never comes -/
theorem x_never [Datum α] {c : CE} {a b : CS} {o : Fl} (h : Ep G e s c (tv false)) (j : Xs G e s b o) : Xs G e s (.seq (.ite c a .nop) b) o := x_seq (x_if h (fun q => nomatch q) (fun _ => x_nop)) j
theorem x_never1 {c : CE} {a : CS} (h : Ep G e s c (tv false)) : Xs G e s (.ite c a .nop) (.nx e) := x_if h (fun q => nomatch q) (fun _ => x_nop)
/-- l.append(c) -/
theorem x_app [Datum α] {j : Nat} {c : CE} {l : List α} {x : α} (ho : e[j]? = some (some (.own (.list (l.map Datum.toD))))) (h : Ep G e s c (tv x)) (hl : l.length < line) : Xs G e s (.app j c) (.nx (e.set j (some (.own (.list ((l ++ [x]).map Datum.toD)))))) := by
  show ex G _ e s = _
  rw [ex_app]
  have e1 : ownJ e j = true := by unfold ownJ; rw [ho]
  rw [if_pos e1]
  refine bd_go h ?_
  show bd (appJ e j (Datum.toD x)) _ s = _
  unfold appJ
  rw [ho]
  dsimp only
  rw [if_pos (by rw [List.length_map]; exact hl), List.map_append]
  rfl
/-! ### loops -/
def forS {σ ρ α : Type} (f : σ → α → Stp σ ρ) : σ → List α → Stp σ ρ
  | st, [] => .nx st
  | st, x :: r => match f st x with
    | .nx st' => forS f st' r
    | .rt r => .rt r
/-- the state's places in the names' list; J: what else stands there -/
theorem for_go {σ ρ J : Type} [DecidableEq ρ] [Datum ρ] {g : Tg} {body : CS} {E : σ → J → Env} {f : σ → α → Stp σ ρ} [Datum α] {I : List α → σ → Prop} : ∀ {l : List α} {st : σ} {j : J},
    (∀ st j x r, I (x :: r) st → ∃ e1 : Env, bindT g (.d (Datum.toD x)) (E st j) = some e1 ∧ match f st x with
      | .nx st' => I r st' ∧ ∃ j', Xs G e1 s body (.nx (E st' j'))
      | .rt v => Xs G e1 s body (.rt (tv v))) → I l st →
    match forS f st l with
    | .nx st' => I [] st' ∧ ∃ j', forLoop (fun x e => bd (opt (bindT g (.d x) e)) fun e' => ex G body e') (l.map Datum.toD) (E st j) s = .ok (.nx (E st' j')) s
    | .rt v => forLoop (fun x e => bd (opt (bindT g (.d x) e)) fun e' => ex G body e') (l.map Datum.toD) (E st j) s = .ok (.rt (tv v)) s
  | [], st, j, _, hI => ⟨hI, j, rfl⟩
  | x :: r, st, j, hb, hI => by
    obtain ⟨e1, h1, h2⟩ := hb st j x r hI
    have go : ∀ {o : Fl}, Xs G e1 s body o → bd (opt (bindT g (.d (Datum.toD x)) (E st j))) (fun e' => ex G body e') s = .ok o s := fun {o} h => by
      rw [h1]
      exact h
    rw [forS]
    cases q : f st x with
    | nx st' =>
      rw [q] at h2
      obtain ⟨hI', j', hx⟩ := h2
      have ih := for_go (l := r) (st := st') (j := j') hb hI'
      have step : forLoop (fun x e => bd (opt (bindT g (.d x) e)) fun e' => ex G body e') ((x :: r).map Datum.toD) (E st j) s = forLoop (fun x e => bd (opt (bindT g (.d x) e)) fun e' => ex G body e') (r.map Datum.toD) (E st' j') s := by
        rw [List.map_cons, forLoop]
        exact bd_go (go hx) rfl
      rw [step]
      exact ih
    | rt v =>
      rw [q] at h2
      dsimp only
      rw [List.map_cons, forLoop]
      exact bd_go (go h2) rfl
theorem x_for {σ ρ J : Type} [DecidableEq ρ] [Datum ρ] [Datum α] {g : Tg} {src : CE} {body b : CS} {E : σ → J → Env} {f : σ → α → Stp σ ρ} {I : List α → σ → Prop} {l : List α} {st : σ} {j : J} {k : σ → ρ} (h : EpI G (E st j) s src (l.map Datum.toD)) (h0 : I l st)
    (hb : ∀ st j x r, I (x :: r) st → ∃ e1 : Env, bindT g (.d (Datum.toD x)) (E st j) = some e1 ∧ match f st x with
      | .nx st' => I r st' ∧ ∃ j', Xs G e1 s body (.nx (E st' j'))
      | .rt v => Xs G e1 s body (.rt (tv v)))
    (hr : ∀ st' j', I [] st' → forS f st l = .nx st' → Xs G (E st' j') s b (.rt (tv (k st')))) : Xs G (E st j) s (.seq (.for_ g src body) b) (.rt (tv ((forS f st l).fin k))) := by
  show ex G _ _ s = _
  rw [ex_seq, ex_for]
  have hg := for_go (G := G) (s := s) (g := g) (body := body) (E := E) (j := j) hb h0
  cases q : forS f st l with
  | nx st' =>
    rw [q] at hg
    obtain ⟨hI, j', e1⟩ := hg
    exact bd_go (bd_go h e1) (hr st' j' hI q)
  | rt v =>
    rw [q] at hg
    exact bd_go (bd_go h hg) rfl
/-- a loop that goes on behind -/
theorem x_forN {σ J : Type} [Datum α] {g : Tg} {src : CE} {body b : CS} {E : σ → J → Env} {f : σ → α → σ} {I : List α → σ → Prop} {l : List α} {st : σ} {j : J} {o : σ → Fl} (h : EpI G (E st j) s src (l.map Datum.toD)) (h0 : I l st)
    (hb : ∀ st j x r, I (x :: r) st → ∃ e1 : Env, bindT g (.d (Datum.toD x)) (E st j) = some e1 ∧ I r (f st x) ∧ ∃ j', Xs G e1 s body (.nx (E (f st x) j')))
    (hr : ∀ st' j', I [] st' → st' = l.foldl f st → Xs G (E st' j') s b (o st')) : Xs G (E st j) s (.seq (.for_ g src body) b) (o (l.foldl f st)) := by
  show ex G _ _ s = _
  rw [ex_seq, ex_for]
  have hg := for_go (G := G) (s := s) (g := g) (body := body) (E := E) (j := j) (ρ := Unit) (f := fun st x => .nx (f st x)) hb h0
  have q : forS (ρ := Unit) (fun st x => .nx (f st x)) st l = .nx (l.foldl f st) := by
    clear h h0 hg hr
    induction l generalizing st with
    | nil => rfl
    | cons x r ih => rw [forS, List.foldl_cons]; exact ih
  rw [q] at hg
  obtain ⟨hI, j', e1⟩ := hg
  exact bd_go (bd_go h e1) (hr _ j' hI rfl)
/-- a loop inside a loop's body, nothing behind it -/
theorem x_forN' {σ J : Type} [Datum α] {g : Tg} {src : CE} {body : CS} {E : σ → J → Env} {f : σ → α → σ} {I : List α → σ → Prop} {l : List α} {st : σ} {j : J} (h : EpI G (E st j) s src (l.map Datum.toD)) (h0 : I l st)
    (hb : ∀ st j x r, I (x :: r) st → ∃ e1 : Env, bindT g (.d (Datum.toD x)) (E st j) = some e1 ∧ I r (f st x) ∧ ∃ j', Xs G e1 s body (.nx (E (f st x) j'))) :
    I [] (l.foldl f st) ∧ ∃ j', Xs G (E st j) s (.for_ g src body) (.nx (E (l.foldl f st) j')) := by
  have hg := for_go (G := G) (s := s) (g := g) (body := body) (E := E) (j := j) (ρ := Unit) (f := fun st x => .nx (f st x)) hb h0
  have q : forS (ρ := Unit) (fun st x => .nx (f st x)) st l = .nx (l.foldl f st) := by
    clear h h0 hg
    induction l generalizing st with
    | nil => rfl
    | cons x r ih => rw [forS, List.foldl_cons]; exact ih
  rw [q] at hg
  obtain ⟨hI, j', e1⟩ := hg
  refine ⟨hI, j', ?_⟩
  show ex G _ _ s = _
  rw [ex_for]
  exact bd_go h e1
/-- while: n turns at most -/
def whl {σ : Type} (c : σ → Bool) (f : σ → σ) : Nat → σ → σ
  | 0, st => st
  | n + 1, st => if c st then whl c f n (f st) else st
theorem whl_go {σ J : Type} {cc : CE} {body : CS} {E : σ → J → Env} {c : σ → Bool} {f : σ → σ} {I : σ → Prop} (hc : ∀ st j, I st → Ep G (E st j) s cc (tv (c st))) (hb : ∀ st j, I st → c st = true → I (f st) ∧ ∃ j', Xs G (E st j) s body (.nx (E (f st) j'))) :
    ∀ (n m : Nat) {st : σ} {j : J}, n < m → I st → c (whl c f n st) = false → I (whl c f n st) ∧ ∃ j', whileLoop (fun e => bd (ev G cc e) truth) (fun e => ex G body e) m (E st j) s = .ok (.nx (E (whl c f n st) j')) s := by
  intro n
  induction n with
  | zero =>
    intro m st j hm hI hf
    obtain ⟨m, rfl⟩ : ∃ k, m = k + 1 := ⟨m - 1, by omega⟩
    rw [whl] at hf
    refine ⟨hI, j, ?_⟩
    rw [whileLoop]
    refine bd_go (a := false) (s' := s) (bd_go (hc st j hI) ?_) rfl
    rw [hf]
    rfl
  | succ n ih =>
    intro m st j hm hI hf
    obtain ⟨m, rfl⟩ : ∃ k, m = k + 1 := ⟨m - 1, by omega⟩
    rw [whl] at hf ⊢
    rw [whileLoop]
    cases q : c st with
    | false =>
      rw [q] at hf
      refine ⟨hI, j, ?_⟩
      refine bd_go (a := false) (s' := s) (bd_go (hc st j hI) ?_) rfl
      rw [q]
      rfl
    | true =>
      rw [q, if_pos rfl] at hf
      rw [if_pos rfl]
      obtain ⟨hI', j', hx⟩ := hb st j hI q
      obtain ⟨h1, j2, h2⟩ := ih m (j := j') (by omega) hI' hf
      refine ⟨h1, j2, ?_⟩
      refine bd_go (a := true) (s' := s) (bd_go (hc st j hI) ?_) ?_
      · rw [q]; rfl
      · exact bd_go hx h2
theorem x_whl {σ J : Type} {cc : CE} {body b : CS} {E : σ → J → Env} {c : σ → Bool} {f : σ → σ} {I : σ → Prop} {st : σ} {j : J} {o : σ → Fl} (n : Nat) (hn : n < 1000000) (h0 : I st) (hc : ∀ st j, I st → Ep G (E st j) s cc (tv (c st))) (hb : ∀ st j, I st → c st = true → I (f st) ∧ ∃ j', Xs G (E st j) s body (.nx (E (f st) j')))
    (hf : c (whl c f n st) = false) (hr : ∀ st' j', I st' → st' = whl c f n st → Xs G (E st' j') s b (o st')) : Xs G (E st j) s (.seq (.whl cc body) b) (o (whl c f n st)) := by
  obtain ⟨h1, j', h2⟩ := whl_go (G := G) (s := s) (cc := cc) (body := body) (E := E) hc hb n fuel (j := j) hn h0 hf
  show ex G _ _ s = _
  rw [ex_seq, ex_whl]
  exact bd_go h2 (hr _ j' h1 rfl)
/-- a def's answer -/
theorem run_d {T : Tab} {f : Str} {fd : Fd} {n : Nat} {args : List Vl} {x : D} (h : T.lookup f = some fd) (hn : 0 < n) (ha : args.length = fd.np) (hno : args.all Vl.noOwn = true) (k : ∀ m, m + 1 = n → Xs (run T m) (args.map some ++ List.replicate (fd.nn - fd.np) none) s fd.body (.rt (.d x))) : run T n f args s = .ok (.d x) s := by
  obtain ⟨m, rfl⟩ : ∃ m, n = m + 1 := ⟨n - 1, by omega⟩
  rw [run_has h _ _ _ ha hno]
  exact bd_go (k m rfl) rfl
theorem run_dN {T : Tab} {f : Str} {fd : Fd} {n : Nat} {args : List Vl} {e' : Env} (h : T.lookup f = some fd) (hn : 0 < n) (ha : args.length = fd.np) (hno : args.all Vl.noOwn = true) (k : ∀ m, m + 1 = n → Xs (run T m) (args.map some ++ List.replicate (fd.nn - fd.np) none) s fd.body (.nx e')) : run T n f args s = .ok (tv ()) s := by
  obtain ⟨m, rfl⟩ : ∃ m, n = m + 1 := ⟨n - 1, by omega⟩
  rw [run_has h _ _ _ ha hno]
  exact bd_go (k m rfl) rfl
end
end PF
namespace PF
open PySem
open W (Tup T3 T4 Datum DatumOrd SomeDatum)
/-- let x be .., in .. -/
def lt {α β : Type} (x : α) (k : α → β) : β := k x
section
variable {G : Str → List Vl → M Vl} {e e' : Env} {s : St}
variable {α β γ δ ρ : Type} [DecidableEq α] [DecidableEq β] [DecidableEq γ] [DecidableEq δ] [DecidableEq ρ]
theorem y_let [Datum α] [Datum ρ] {i : Nat} {c : CE} {b : CS} {x : α} {r : α → ρ} (h : Ep G e s c (tv x)) (k : ∀ y, y = x → Xs G (e.set i (some (tv y))) s b (.rt (tv (r y)))) : Xs G e s (.seq (.asgs [(false, i, c)]) b) (.rt (tv (lt x r))) := x_seq (x_let1 h) (k x rfl)
theorem y_letO [Datum α] [Datum ρ] {i : Nat} {c : CE} {b : CS} {x : List α} {r : List α → ρ} (h : Ep G e s c (tv x)) (k : ∀ y, y = x → Xs G (e.set i (some (.own (.list (y.map Datum.toD))))) s b (.rt (tv (r y)))) : Xs G e s (.seq (.asgs [(true, i, c)]) b) (.rt (tv (lt x r))) :=
  x_letO (o := fun y => .rt (tv (r y))) h k
theorem y_let2 [Datum α] [Datum β] [Datum ρ] {i j : Nat} {c d : CE} {b : CS} {x : α} {y : β} {r : α → β → ρ} (h : Ep G e s c (tv x)) (h2 : Ep G e s d (tv y)) (k : ∀ x', x' = x → ∀ y', y' = y → Xs G ((e.set i (some (tv x'))).set j (some (tv y'))) s b (.rt (tv (r x' y')))) :
    Xs G e s (.seq (.asgs [(false, i, c), (false, j, d)]) b) (.rt (tv (lt x fun x' => lt y (r x')))) := x_let2 h h2 (k x rfl y rfl)
theorem y_forN {σ J : Type} [Datum α] [Datum ρ] {g : Tg} {src : CE} {body b : CS} {E : σ → J → Env} {f : σ → α → σ} {I : List α → σ → Prop} {l : List α} {st : σ} {j : J} {r : σ → ρ} (h : EpI G (E st j) s src (l.map Datum.toD)) (h0 : I l st)
    (hb : ∀ st j x r, I (x :: r) st → ∃ e1 : Env, bindT g (.d (Datum.toD x)) (E st j) = some e1 ∧ I r (f st x) ∧ ∃ j', Xs G e1 s body (.nx (E (f st x) j')))
    (hr : ∀ st' j', I [] st' → st' = l.foldl f st → Xs G (E st' j') s b (.rt (tv (r st')))) : Xs G (E st j) s (.seq (.for_ g src body) b) (.rt (tv (lt (l.foldl f st) r))) := x_forN (o := fun st => .rt (tv (r st))) h h0 hb hr
theorem y_whl {σ J : Type} [Datum ρ] {cc : CE} {body b : CS} {E : σ → J → Env} {c : σ → Bool} {f : σ → σ} {I : σ → Prop} {st : σ} {j : J} {r : σ → ρ} (n : Nat) (hn : n < 1000000) (h0 : I st) (hc : ∀ st j, I st → Ep G (E st j) s cc (tv (c st))) (hb : ∀ st j, I st → c st = true → I (f st) ∧ ∃ j', Xs G (E st j) s body (.nx (E (f st) j')))
    (hf : c (whl c f n st) = false) (hr : ∀ st' j', I st' → st' = whl c f n st → Xs G (E st' j') s b (.rt (tv (r st')))) : Xs G (E st j) s (.seq (.whl cc body) b) (.rt (tv (lt (whl c f n st) r))) := x_whl (o := fun st => .rt (tv (r st))) n hn h0 hc hb hf hr
/-- if c: a / else: b, what stands behind told twice -/
theorem y_if [Datum ρ] {c : CE} {a b d : CS} {p : Bool} {x y : ρ} (h : Ep G e s c (tv p)) (k : p = true → Xs G e s (.seq a d) (.rt (tv x))) (j : p = false → Xs G e s (.seq b d) (.rt (tv y))) : Xs G e s (.seq (.ite c a b) d) (.rt (tv (bif p then x else y))) := by
  have q : ex G (.ite c a b) e s = (if p = true then ex G a e else ex G b e) s := by
    rw [ex_ite]
    refine bd_go h ?_
    show bd (truth (.d (.bool p))) _ s = _
    cases p <;> rfl
  show ex G _ e s = _
  rw [ex_seq, bd_ap, q]
  cases p with
  | true =>
    have k1 : ex G (.seq a d) e s = _ := k rfl
    rw [ex_seq, bd_ap] at k1
    exact k1
  | false =>
    have k1 : ex G (.seq b d) e s = _ := j rfl
    rw [ex_seq, bd_ap] at k1
    exact k1
end
end PF
namespace PF
theorem len_map {α β : Type} {l : List α} {f : α → β} (h : l.length ≤ line) : (l.map f).length ≤ line := by rw [List.length_map]; exact h
theorem len_filter {α : Type} {l : List α} {p : α → Bool} (h : l.length ≤ line) : (l.filter p).length ≤ line := Nat.le_trans (List.length_filter_le _ _) h
theorem len_zip {α β : Type} {l : List α} {m : List β} (h : l.length ≤ line) : (l.zip m).length ≤ line := by rw [List.length_zip]; omega
theorem enumL_len {α : Type} (i : Int) (l : List α) : (enumL i l).length = l.length := by
  induction l generalizing i with
  | nil => rfl
  | cons x r ih => rw [enumL, List.length_cons, ih, List.length_cons]
theorem len_enum {α : Type} {l : List α} {i : Int} (h : l.length ≤ line) : (enumL i l).length ≤ line := by rw [enumL_len]; exact h
theorem rangeI_len (i j : Int) : (rangeI i j).length = (j - i).toNat := upFrom_len _ _
theorem len_range {i j : Int} (h : j - i ≤ 16777216) : (rangeI i j).length ≤ line := by rw [rangeI_len]; unfold line; omega
theorem len_lit {α : Type} {l : List α} {n : Nat} (h : l.length ≤ n) (k : n ≤ 16777216) : l.length ≤ line := by unfold line; omega
end PF
namespace PF
open PySem
open W (Tup T3 T4 Datum DatumOrd SomeDatum)
section
variable {G : Str → List Vl → M Vl} {e e' : Env} {s : St}
variable {α β γ δ ρ : Type} [DecidableEq α] [DecidableEq β] [DecidableEq γ] [DecidableEq δ] [DecidableEq ρ]
theorem x_gT {c : CE} {a b : CS} {p : Bool} {v : Vl} (h : Ep G e s c (tv p)) (q : p = true) (k : Xs G e s a (.rt v)) : Xs G e s (.seq (.ite c a .nop) b) (.rt v) := x_seqR (x_if h (fun _ => k) (fun z => by rw [q] at z; cases z))
theorem x_gF {c : CE} {a b : CS} {p : Bool} {o : Fl} (h : Ep G e s c (tv p)) (q : p = false) (k : Xs G e s b o) : Xs G e s (.seq (.ite c a .nop) b) o := x_seq (x_if h (fun z => by rw [q] at z; cases z) (fun _ => x_nop)) k
theorem x_gT1 {c : CE} {a : CS} {p : Bool} {v : Vl} (h : Ep G e s c (tv p)) (q : p = true) (k : Xs G e s a (.rt v)) : Xs G e s (.ite c a .nop) (.rt v) := x_if h (fun _ => k) (fun z => by rw [q] at z; cases z)
theorem x_gF1 {c : CE} {a : CS} {p : Bool} (h : Ep G e s c (tv p)) (q : p = false) : Xs G e s (.ite c a .nop) (.nx e) := x_if h (fun z => by rw [q] at z; cases z) (fun _ => x_nop)
theorem x_iT {c : CE} {a b : CS} {p : Bool} {o : Fl} (h : Ep G e s c (tv p)) (q : p = true) (k : Xs G e s a o) : Xs G e s (.ite c a b) o := x_if h (fun _ => k) (fun z => by rw [q] at z; cases z)
theorem x_iF {c : CE} {a b : CS} {p : Bool} {o : Fl} (h : Ep G e s c (tv p)) (q : p = false) (k : Xs G e s b o) : Xs G e s (.ite c a b) o := x_if h (fun z => by rw [q] at z; cases z) (fun _ => k)
/-- a turn is as told -/
def StpOk {σ ρ J : Type} [DecidableEq ρ] [Datum ρ] (G : Str → List Vl → M Vl) (e1 : Env) (s : St) (body : CS) (E : σ → J → Env) (I : σ → Prop) : Stp σ ρ → Prop
  | .nx st' => I st' ∧ ∃ j', Xs G e1 s body (.nx (E st' j'))
  | .rt v => Xs G e1 s body (.rt (tv v))
theorem stp_if {σ J : Type} [Datum ρ] {e1 : Env} {body : CS} {E : σ → J → Env} {I : σ → Prop} {p : Bool} {a b : Stp σ ρ} (k : p = true → StpOk G e1 s body E I a) (j : p = false → StpOk G e1 s body E I b) : StpOk G e1 s body E I (bif p then a else b) := by
  cases p with
  | true => exact k rfl
  | false => exact j rfl
theorem y_for {σ J : Type} [Datum ρ] [Datum α] {g : Tg} {src : CE} {body b : CS} {E : σ → J → Env} {f : σ → α → Stp σ ρ} {I : List α → σ → Prop} {l : List α} {st : σ} {j : J} {k : σ → ρ} (h : EpI G (E st j) s src (l.map Datum.toD)) (h0 : I l st)
    (hb : ∀ st j x r, I (x :: r) st → ∃ e1 : Env, bindT g (.d (Datum.toD x)) (E st j) = some e1 ∧ StpOk G e1 s body E (I r) (f st x))
    (hr : ∀ st' j', I [] st' → forS f st l = .nx st' → Xs G (E st' j') s b (.rt (tv (k st')))) : Xs G (E st j) s (.seq (.for_ g src body) b) (.rt (tv ((forS f st l).fin k))) :=
  x_for h h0 (fun st j x r hI => by
    obtain ⟨e1, h1, h2⟩ := hb st j x r hI
    refine ⟨e1, h1, ?_⟩
    cases q : f st x with
    | nx st' => rw [q] at h2; exact h2
    | rt v => rw [q] at h2; exact h2) hr
end
end PF
namespace PF
open PySem
open W (Tup T3 T4 Datum DatumOrd SomeDatum)
section
variable {G : Str → List Vl → M Vl} {e e' : Env} {s : St}
variable {α β γ δ ρ : Type} [DecidableEq α] [DecidableEq β] [DecidableEq γ] [DecidableEq δ] [DecidableEq ρ]
theorem x_ifB {c : CE} {a b : CS} {p : Bool} {F : Bool → Env} (h : Ep G e s c (tv p)) (k : p = true → Xs G e s a (.nx (F true))) (j : p = false → Xs G e s b (.nx (F false))) : Xs G e s (.ite c a b) (.nx (F p)) :=
  x_if h (fun q => by rw [q]; exact k q) (fun q => by rw [q]; exact j q)
theorem p_isnoneU {a : CE} (h : Ep G e s a (tv ())) : Ep G e s (.cmp .is_ a (.cst .none)) (tv true) := p_cmp h p_unit rfl
theorem p_isnoneS [Datum α] [SomeDatum α] {a : CE} {x : α} (h : Ep G e s a (tv x)) : Ep G e s (.cmp .is_ a (.cst .none)) (tv false) :=
  p_cmp h p_unit (by
    show isF (Datum.toD x) .none = _
    have r : ∀ z : D, isF z .none = some (isNone z) := fun z => by cases z <;> rfl
    rw [r, toD_some x])
theorem p_isntnoneS [Datum α] [SomeDatum α] {a : CE} {x : α} (h : Ep G e s a (tv x)) : Ep G e s (.cmp .isnot a (.cst .none)) (tv true) :=
  p_cmp h p_unit (by
    show (isF (Datum.toD x) .none).map (!·) = _
    have r : ∀ z : D, isF z .none = some (isNone z) := fun z => by cases z <;> rfl
    rw [r, toD_some x]
    rfl)
/-- what can be shown -/
def showB (d : D) : Bool := d.showable && !d.hasDict && d.canLay0 && d.intsShort 13 && decide (d.depth ≤ 64) && decide (d.weight ≤ 2 ^ 20)
theorem p_repr {a : CE} {x : D} (h : Ep G e s a (.d x)) (k : showB x = true) : Ep G e s (.prim .repr a .nil) (tv x.shown) :=
  p_prim h p_nil (by
    unfold showB at k
    simp only [Bool.and_eq_true, Bool.not_eq_true', decide_eq_true_eq] at k
    obtain ⟨⟨⟨⟨⟨k1, k2⟩, k3⟩, k4⟩, k5⟩, k6⟩ := k
    have hl : x.layable0 = true := by
      show (x.canLay0 && decide (x.depth ≤ 64) && decide (x.weight ≤ 2 ^ 20)) = true
      rw [k3, decide_eq_true k5, decide_eq_true k6]
      rfl
    have hz := PyData.shown_le_of_layable0 hl k4
    show (if x.showable && !x.hasDict && decide (x.depth ≤ 64) && decide (x.shown.length ≤ line) then some (PyData.str x.shown) else none) = some (.str x.shown)
    rw [k1, k2, decide_eq_true k5, decide_eq_true (show x.shown.length ≤ line by unfold line; omega)]
    rfl)
end
/-- data that can be shown: of such a depth, such a weight -/
structure ShOk (k w : Nat) (d : D) : Prop where
  a : d.showable = true
  b : d.hasDict = false
  c : d.canLay0 = true
  i : d.intsShort 13 = true
  k : d.depth ≤ k
  w : d.weight ≤ w
theorem ShOk.show_ {k w : Nat} {d : D} (h : ShOk k w d) (hk : k ≤ 64) (hw : w ≤ 2 ^ 20) : showB d = true := by
  unfold showB
  rw [h.a, h.b, h.c, h.i, decide_eq_true (Nat.le_trans h.k hk), decide_eq_true (Nat.le_trans h.w hw)]
  rfl
theorem ShOk.int {x : Int} (h : x.natAbs < 10 ^ 12) : ShOk 0 40 (.int x) := by
  have hl : x.natAbs.log2 < 40 := by
    by_cases z : x.natAbs = 0
    · rw [z]; decide
    · exact (Nat.log2_lt z).mpr (by omega)
  refine ⟨by simp only [PyData.showable]; exact decide_eq_true (by omega), rfl, rfl, ?_, Nat.zero_le _, ?_⟩
  · have := int_text_length_le10 (a := x) (k := 12) (by decide) h
    simp only [PyData.intsShort]
    refine decide_eq_true ?_
    have e : (PyData.int x).shown = Str.ofString (toString x) := rfl
    rw [e, ofString_length]
    omega
  · show (if x == 0 then 0 else x.natAbs.log2 + 1) ≤ 40
    split <;> omega
theorem ShOk.bool (b : Bool) : ShOk 0 0 (.bool b) := ⟨rfl, rfl, rfl, rfl, Nat.le_refl _, Nat.le_refl _⟩
theorem ShOk.none : ShOk 0 0 .none := ⟨rfl, rfl, rfl, rfl, Nat.le_refl _, Nat.le_refl _⟩
theorem ShOk.all {k w : Nat} : ∀ {l : List D}, (∀ d ∈ l, ShOk k w d) → PyData.showableAll l = true ∧ PyData.hasDictAll l = false ∧ PyData.canLayAll0 l = true ∧ PyData.intsShortAll 13 l = true ∧ PyData.depthAll l ≤ k ∧ PyData.weightAll l ≤ l.length * (w + 1)
  | [], _ => ⟨rfl, rfl, rfl, rfl, Nat.zero_le _, Nat.zero_le _⟩
  | d :: l, h => by
    obtain ⟨h1, h2, h3, h4, h5, h6⟩ := ShOk.all fun x hx => h x (List.mem_cons_of_mem _ hx)
    have hd := h d List.mem_cons_self
    refine ⟨by simp only [PyData.showableAll, hd.a, h1, Bool.and_self], by simp only [PyData.hasDictAll, hd.b, h2, Bool.or_self], by simp only [PyData.canLayAll0, hd.c, h3, Bool.and_self], by simp only [PyData.intsShortAll, hd.i, h4, Bool.and_self], ?_, ?_⟩
    · simp only [PyData.depthAll]
      exact Nat.max_le.mpr ⟨hd.k, h5⟩
    · simp only [PyData.weightAll, List.length_cons]
      have := hd.w
      rw [Nat.add_mul]
      omega
theorem ShOk.tuple {k w n : Nat} {l : List D} (h : ∀ d ∈ l, ShOk k w d) (hn : l.length ≤ n) : ShOk (k + 1) (n * (w + 1)) (.tuple l) := by
  obtain ⟨h1, h2, h3, h4, h5, h6⟩ := ShOk.all h
  exact ⟨by simp only [PyData.showable]; exact h1, by simp only [PyData.hasDict]; exact h2, by simp only [PyData.canLay0]; exact h3, by simp only [PyData.intsShort]; exact h4, by simp only [PyData.depth]; omega, by simp only [PyData.weight]; exact Nat.le_trans h6 (Nat.mul_le_mul_right _ hn)⟩
theorem ShOk.list {k w n : Nat} {l : List D} (h : ∀ d ∈ l, ShOk k w d) (hn : l.length ≤ n) : ShOk (k + 1) (n * (w + 1)) (.list l) := by
  obtain ⟨h1, h2, h3, h4, h5, h6⟩ := ShOk.all h
  exact ⟨by simp only [PyData.showable]; exact h1, by simp only [PyData.hasDict]; exact h2, by simp only [PyData.canLay0]; exact h3, by simp only [PyData.intsShort]; exact h4, by simp only [PyData.depth]; omega, by simp only [PyData.weight]; exact Nat.le_trans h6 (Nat.mul_le_mul_right _ hn)⟩
theorem ShOk.mono {k w k' w' : Nat} {d : D} (h : ShOk k w d) (hk : k ≤ k') (hw : w ≤ w') : ShOk k' w' d := ⟨h.a, h.b, h.c, h.i, Nat.le_trans h.k hk, Nat.le_trans h.w hw⟩
end PF
end
section
set_option Elab.async false
set_option linter.all false
set_option maxRecDepth 100000
set_option maxHeartbeats 4000000
/-! PGf: a book drawn. -/
namespace PF
open PySem
def c__law_drawn_book : Fd := ⟨4, 8, (.seq (.asgs [(false, 4, (.lc [5] (.nm 5) (.it .range (.cons (.call "_law_roll" (.cons (.var 0) (.cons (.bin .add (.var 3) (.cst (.int (1)))) .nil))) .nil)) (.cst (.bool true)) (.call "_law_need" (.cons (.var 0) (.cons (.var 1) (.cons (.var 2) .nil))))))]) (.seq (.ite (.cmp .gt (.call "_law_roll" (.cons (.var 0) (.cons (.cst (.int (4))) .nil))) (.cst (.int (0)))) (.seq (.asgs [(false, 4, (.lc [6] (.nm 6) (.it .seq (.cons (.var 4) .nil)) (.cst (.bool true)) (.ite (.cmp .gt (.prim .max (.sub (.var 6) (.cst (.int (2)))) .nil) (.cst (.int (0)))) (.var 6) (.bin .add (.slc false true (.var 6) (.cst .none) (.cst (.int (2)))) (.tup (.cons (.prim .tuple (.lc [7] (.nm 7) (.it .seq (.cons (.sub (.var 6) (.cst (.int (2)))) .nil)) (.cst (.bool true)) (.bin .sub (.cst (.int (1))) (.var 7))) .nil) .nil))))))]) (.asgs [(false, 4, (.lc [6] (.nm 6) (.it .seq (.cons (.var 4) .nil)) (.cmp .le (.prim .max (.sub (.var 6) (.cst (.int (2)))) .nil) (.cst (.int (3)))) (.var 6)))])) .nop) (.ret (.tup (.cons (.var 1) (.cons (.var 2) (.cons (.prim .tuple (.prim .sortedset (.var 4) .nil) .nil) .nil)))))))⟩
def c__law_book : Fd := ⟨1, 1, (.seq (.ite (.cmp .eq (.call "_law_roll" (.cons (.var 0) (.cons (.cst (.int (3))) .nil))) (.cst (.int (0)))) (.ret (.call "_law_known_book" (.cons (.var 0) .nil))) .nop) (.ret (.call "_law_drawn_book" (.cons (.var 0) (.cons (.call "_law_some" (.cons (.var 0) (.cons (.lst (.cons (.cst (.int (1))) (.cons (.cst (.int (2))) (.cons (.cst (.int (2))) .nil)))) .nil))) (.cons (.call "_law_some" (.cons (.var 0) (.cons (.lst (.cons (.cst (.int (1))) (.cons (.cst (.int (2))) (.cons (.cst (.int (2))) .nil)))) .nil))) (.cons (.cst (.int (4))) .nil)))))))⟩
def up (n : Need) : Need := if 0 < top1 n.c.items then n else ⟨n.a, n.b, ⟨n.c.items.map fun x => 1 - x⟩⟩
/-- a book of so many needs at most -/
structure BookN (w : Nat) (b : Book) : Prop where
  q0 : 0 < b.a
  q1 : b.a ≤ 3
  c0 : 0 < b.b
  c1 : b.b ≤ 3
  len : b.c.items.length ≤ w
  ok : ∀ n ∈ b.c.items, NeedOk b.a b.b n
  asc : b.c.items.Pairwise fun x y => W.DatumOrd.lt x y = true
abbrev BookOk (b : Book) : Prop := BookN 4 b
theorem cut_32 (a b c : D) : cutD (.tuple [a, b, c]) none (some 2) = some (.tuple [a, b]) := rfl
theorem add_21 (a b c : D) : binF .add (.tuple [a, b]) (.tuple [c]) = some (.tuple [a, b, c]) := by
  show (if 2 + 1 ≤ line then some (PyData.tuple [a, b, c]) else none) = _
  exact if_pos (by decide)
theorem add_nn (a b : List D) (h : a.length + b.length ≤ line) : binF .add (.list a) (.list b) = some (.list (a ++ b)) := if_pos h
theorem b_up {G : Str → List Vl → M Vl} {e0 e1 e2 e3 e4 e5 : Option Vl} (n : Need) (h : n.c.items ≠ []) (hl : n.c.items.length ≤ 100) (s : St) :
    lcBody G [6] (.nm 6) (.cst (.bool true)) (.ite (.cmp .gt (.prim .max (.sub (.var 6) (.cst (.int (2)))) .nil) (.cst (.int (0)))) (.var 6) (.bin .add (.slc false true (.var 6) (.cst .none) (.cst (.int (2)))) (.tup (.cons (.prim .tuple (.lc [7] (.nm 7) (.it .seq (.cons (.sub (.var 6) (.cst (.int (2)))) .nil)) (.cst (.bool true)) (.bin .sub (.cst (.int (1))) (.var 7))) .nil) .nil)))) [e0, e1, e2, e3, e4, e5, none, none] (ne n) s = .ok (some (ne (up n))) s := by
  have hb : ∀ x ∈ n.c.items, lcBody G [7] (.nm 7) (.cst (.bool true)) (.bin .sub (.cst (.int (1))) (.var 7)) [e0, e1, e2, e3, e4, e5, some (.d (ne n)), none] (.int x) s = .ok (some (.int (1 - x))) s := by
    intro x _
    simp only [lcBody, wipe, ↓ex_for, ↓ev_lc, ↓ev_var, ↓ev_cst, ↓ev_fnv, ↓ev_nil, ↓ev_cons, ↓ev_tup, ↓ev_lst, ↓ev_neg, ↓ev_not, ↓ev_bin, ↓ev_cmp, ↓ev_chain, ↓ev_and, ↓ev_or, ↓ev_ite, ↓ev_sub, ↓ev_slc, ↓ev_rev, ↓ev_call, ↓ev_prim, ↓ev_it, ↓ex_nop, ↓ex_seq, ↓ex_asg, ↓ex_asgs, ↓ex_frz, ↓ex_exp, ↓ex_ret, ↓ex_retN, ↓ex_ite, ↓ex_whl, ↓ex_never, ↓ex_raise_, ↓ex_sets, ↓ex_app, ↓evs_nil, ↓evs_cons, ↓bd_R, bdR_ok, ↓asD_d, ↓asT_t, ↓asL_l, ↓asR_d, ↓asB_b, getV_0, getV_s, ret_ap, rD_ap, List.set_cons_zero, List.set_cons_succ, bindT_nm_d, bindT_nm_c, bindT_cons, bindT_nil, Option.bind_some, opt_some, nown_d, nown_c, List.map_cons, List.map_nil, List.replicate, List.cons_append, List.nil_append, evP_nil, evP_cons, mkO_f, setP_cons, setP_nil, cm_gt, cm_lt, cm_ge, cm_le, cm_eq, cm_ne, cm_is, cm_isnot, cm_in, cm_notin, cmp_gt, cmp_lt, cmp_ge, cmp_le, cmp_eq, cmp_ne, tr_b, cup_0, cup_1, prim_int, pm_int, add_ii, sub_ii, hasJ_0, hasJ_s, ownJ_0, ownJ_s, ↓reduceIte, eq_self, Bool.false_eq_true, set_0, set_1, List.getElem?_cons_zero, List.getElem?_cons_succ, pm_tuple, tuple_l, pm_all, pm_isI, pm_max, pm_sset, it_seq_l, it_seq_t, it_enum_l, it_enum_t, as_len, len_l, len_t, as_sum, sub_30, sub_31, sub_32, sub_20, sub_21, short0, short1, short2, short3, short4, short5, short6, short7, short8, short9, short10, short11, short12]
  have hlc := lc_map (fun x : Int => 1 - x) PyData.int PyData.int hb
  have sh : short ((n.c.items.map fun x : Int => 1 - x).map PyData.int) = ret _ := short_ok (by rw [List.length_map, List.length_map]; unfold line; omega)
  simp only [ne] at hlc ⊢
  unfold up
  by_cases hz : 0 < top1 n.c.items
  · rw [if_pos hz]
    simp only [lcBody, wipe, ↓ex_for, ↓ev_lc, ↓ev_var, ↓ev_cst, ↓ev_fnv, ↓ev_nil, ↓ev_cons, ↓ev_tup, ↓ev_lst, ↓ev_neg, ↓ev_not, ↓ev_bin, ↓ev_cmp, ↓ev_chain, ↓ev_and, ↓ev_or, ↓ev_ite, ↓ev_sub, ↓ev_slc, ↓ev_rev, ↓ev_call, ↓ev_prim, ↓ev_it, ↓ex_nop, ↓ex_seq, ↓ex_asg, ↓ex_asgs, ↓ex_frz, ↓ex_exp, ↓ex_ret, ↓ex_retN, ↓ex_ite, ↓ex_whl, ↓ex_never, ↓ex_raise_, ↓ex_sets, ↓ex_app, ↓evs_nil, ↓evs_cons, ↓bd_R, bdR_ok, ↓asD_d, ↓asT_t, ↓asL_l, ↓asR_d, ↓asB_b, getV_0, getV_s, ret_ap, rD_ap, List.set_cons_zero, List.set_cons_succ, bindT_nm_d, bindT_nm_c, bindT_cons, bindT_nil, Option.bind_some, opt_some, nown_d, nown_c, List.map_cons, List.map_nil, List.replicate, List.cons_append, List.nil_append, evP_nil, evP_cons, mkO_f, setP_cons, setP_nil, cm_gt, cm_lt, cm_ge, cm_le, cm_eq, cm_ne, cm_is, cm_isnot, cm_in, cm_notin, cmp_gt, cmp_lt, cmp_ge, cmp_le, cmp_eq, cmp_ne, tr_b, cup_0, cup_1, prim_int, pm_int, add_ii, sub_ii, hasJ_0, hasJ_s, ownJ_0, ownJ_s, ↓reduceIte, eq_self, Bool.false_eq_true, set_0, set_1, List.getElem?_cons_zero, List.getElem?_cons_succ, pm_tuple, tuple_l, pm_all, pm_isI, pm_max, pm_sset, it_seq_l, it_seq_t, it_enum_l, it_enum_t, as_len, len_l, len_t, as_sum, sub_30, sub_31, sub_32, sub_20, sub_21, short0, short1, short2, short3, short4, short5, short6, short7, short8, short9, short10, short11, short12, prim_max h, decide_eq_true hz]
  · rw [if_neg hz]
    simp only [lcBody, wipe, ↓ex_for, ↓ev_lc, ↓ev_var, ↓ev_cst, ↓ev_fnv, ↓ev_nil, ↓ev_cons, ↓ev_tup, ↓ev_lst, ↓ev_neg, ↓ev_not, ↓ev_bin, ↓ev_cmp, ↓ev_chain, ↓ev_and, ↓ev_or, ↓ev_ite, ↓ev_sub, ↓ev_slc, ↓ev_rev, ↓ev_call, ↓ev_prim, ↓ev_it, ↓ex_nop, ↓ex_seq, ↓ex_asg, ↓ex_asgs, ↓ex_frz, ↓ex_exp, ↓ex_ret, ↓ex_retN, ↓ex_ite, ↓ex_whl, ↓ex_never, ↓ex_raise_, ↓ex_sets, ↓ex_app, ↓evs_nil, ↓evs_cons, ↓bd_R, bdR_ok, ↓asD_d, ↓asT_t, ↓asL_l, ↓asR_d, ↓asB_b, getV_0, getV_s, ret_ap, rD_ap, List.set_cons_zero, List.set_cons_succ, bindT_nm_d, bindT_nm_c, bindT_cons, bindT_nil, Option.bind_some, opt_some, nown_d, nown_c, List.map_cons, List.map_nil, List.replicate, List.cons_append, List.nil_append, evP_nil, evP_cons, mkO_f, setP_cons, setP_nil, cm_gt, cm_lt, cm_ge, cm_le, cm_eq, cm_ne, cm_is, cm_isnot, cm_in, cm_notin, cmp_gt, cmp_lt, cmp_ge, cmp_le, cmp_eq, cmp_ne, tr_b, cup_0, cup_1, prim_int, pm_int, add_ii, sub_ii, hasJ_0, hasJ_s, ownJ_0, ownJ_s, ↓reduceIte, eq_self, Bool.false_eq_true, set_0, set_1, List.getElem?_cons_zero, List.getElem?_cons_succ, pm_tuple, tuple_l, pm_all, pm_isI, pm_max, pm_sset, it_seq_l, it_seq_t, it_enum_l, it_enum_t, as_len, len_l, len_t, as_sum, sub_30, sub_31, sub_32, sub_20, sub_21, short0, short1, short2, short3, short4, short5, short6, short7, short8, short9, short10, short11, short12, prim_max h, decide_eq_false hz, cut_32, add_21, boundF, noexc_ap hlc, sh]
def low (n : Need) : Option Need := if top1 n.c.items ≤ 3 then some n else none
theorem b_low {G : Str → List Vl → M Vl} {e0 e1 e2 e3 e4 e5 : Option Vl} (n : Need) (h : n.c.items ≠ []) (s : St) :
    lcBody G [6] (.nm 6) (.cmp .le (.prim .max (.sub (.var 6) (.cst (.int (2)))) .nil) (.cst (.int (3)))) (.var 6) [e0, e1, e2, e3, e4, e5, none, none] (ne n) s = .ok ((low n).map ne) s := by
  unfold low
  simp only [ne]
  by_cases hz : top1 n.c.items ≤ 3
  · rw [if_pos hz]
    simp only [lcBody, wipe, ↓ex_for, ↓ev_lc, ↓ev_var, ↓ev_cst, ↓ev_fnv, ↓ev_nil, ↓ev_cons, ↓ev_tup, ↓ev_lst, ↓ev_neg, ↓ev_not, ↓ev_bin, ↓ev_cmp, ↓ev_chain, ↓ev_and, ↓ev_or, ↓ev_ite, ↓ev_sub, ↓ev_slc, ↓ev_rev, ↓ev_call, ↓ev_prim, ↓ev_it, ↓ex_nop, ↓ex_seq, ↓ex_asg, ↓ex_asgs, ↓ex_frz, ↓ex_exp, ↓ex_ret, ↓ex_retN, ↓ex_ite, ↓ex_whl, ↓ex_never, ↓ex_raise_, ↓ex_sets, ↓ex_app, ↓evs_nil, ↓evs_cons, ↓bd_R, bdR_ok, ↓asD_d, ↓asT_t, ↓asL_l, ↓asR_d, ↓asB_b, getV_0, getV_s, ret_ap, rD_ap, List.set_cons_zero, List.set_cons_succ, bindT_nm_d, bindT_nm_c, bindT_cons, bindT_nil, Option.bind_some, opt_some, nown_d, nown_c, List.map_cons, List.map_nil, List.replicate, List.cons_append, List.nil_append, evP_nil, evP_cons, mkO_f, setP_cons, setP_nil, cm_gt, cm_lt, cm_ge, cm_le, cm_eq, cm_ne, cm_is, cm_isnot, cm_in, cm_notin, cmp_gt, cmp_lt, cmp_ge, cmp_le, cmp_eq, cmp_ne, tr_b, cup_0, cup_1, prim_int, pm_int, add_ii, sub_ii, hasJ_0, hasJ_s, ownJ_0, ownJ_s, ↓reduceIte, eq_self, Bool.false_eq_true, set_0, set_1, List.getElem?_cons_zero, List.getElem?_cons_succ, pm_tuple, tuple_l, pm_all, pm_isI, pm_max, pm_sset, it_seq_l, it_seq_t, it_enum_l, it_enum_t, as_len, len_l, len_t, as_sum, sub_30, sub_31, sub_32, sub_20, sub_21, short0, short1, short2, short3, short4, short5, short6, short7, short8, short9, short10, short11, short12, prim_max h, decide_eq_true hz, Option.map]
    rfl
  · rw [if_neg hz]
    simp only [lcBody, wipe, ↓ex_for, ↓ev_lc, ↓ev_var, ↓ev_cst, ↓ev_fnv, ↓ev_nil, ↓ev_cons, ↓ev_tup, ↓ev_lst, ↓ev_neg, ↓ev_not, ↓ev_bin, ↓ev_cmp, ↓ev_chain, ↓ev_and, ↓ev_or, ↓ev_ite, ↓ev_sub, ↓ev_slc, ↓ev_rev, ↓ev_call, ↓ev_prim, ↓ev_it, ↓ex_nop, ↓ex_seq, ↓ex_asg, ↓ex_asgs, ↓ex_frz, ↓ex_exp, ↓ex_ret, ↓ex_retN, ↓ex_ite, ↓ex_whl, ↓ex_never, ↓ex_raise_, ↓ex_sets, ↓ex_app, ↓evs_nil, ↓evs_cons, ↓bd_R, bdR_ok, ↓asD_d, ↓asT_t, ↓asL_l, ↓asR_d, ↓asB_b, getV_0, getV_s, ret_ap, rD_ap, List.set_cons_zero, List.set_cons_succ, bindT_nm_d, bindT_nm_c, bindT_cons, bindT_nil, Option.bind_some, opt_some, nown_d, nown_c, List.map_cons, List.map_nil, List.replicate, List.cons_append, List.nil_append, evP_nil, evP_cons, mkO_f, setP_cons, setP_nil, cm_gt, cm_lt, cm_ge, cm_le, cm_eq, cm_ne, cm_is, cm_isnot, cm_in, cm_notin, cmp_gt, cmp_lt, cmp_ge, cmp_le, cmp_eq, cmp_ne, tr_b, cup_0, cup_1, prim_int, pm_int, add_ii, sub_ii, hasJ_0, hasJ_s, ownJ_0, ownJ_s, ↓reduceIte, eq_self, Bool.false_eq_true, set_0, set_1, List.getElem?_cons_zero, List.getElem?_cons_succ, pm_tuple, tuple_l, pm_all, pm_isI, pm_max, pm_sset, it_seq_l, it_seq_t, it_enum_l, it_enum_t, as_len, len_l, len_t, as_sum, sub_30, sub_31, sub_32, sub_20, sub_21, short0, short1, short2, short3, short4, short5, short6, short7, short8, short9, short10, short11, short12, prim_max h, decide_eq_false hz, Option.map]
theorem r_drawn {T : Tab} (hr : Has T "_law_roll" c__law_roll) (hs : Has T "_law_some" c__law_some) (ho : Has T "_law_offset" c__law_offset) (hn : Has T "_law_need" c__law_need) (h : Has T "_law_drawn_book" c__law_drawn_book) (k : Nat) {q c w : Int} (hw : 0 ≤ w ∧ w ≤ 12) (hq : 0 < q ∧ q ≤ 3) (hc : 0 < c ∧ c ≤ 3) {s : St} (hcup : CupOk s) :
    ∃ (b : Book) (s' : St), run T (k + 5) "_law_drawn_book" [.cup, .d (.int q), .d (.int c), .d (.int w)] s = .ok (.d (bo b)) s' ∧ BookN w.toNat b ∧ CupOk s' := by
  obtain ⟨r, s1, e1, r0, r1, c1⟩ := r_roll hr (k + 3) (many := w + 1) (by omega) (by omega) hcup
  obtain ⟨l1, s2, e2, n1, p1, c2⟩ := lc_ty (F := lcBody (run T (k + 4)) [5] (.nm 5) (.cst (.bool true)) (.call "_law_need" (.cons (.var 0) (.cons (.var 1) (.cons (.var 2) .nil)))) [some .cup, some (.d (.int q)), some (.d (.int c)), some (.d (.int w)), none, none, none, none])
    (e := ne) (p := NeedOk q c) (I := CupOk) (xs := rng 0 r.toNat) (fun x _ s hcs => by
      obtain ⟨n, s', e, ok, c'⟩ := r_need hr hs ho hn k (q := q) (c := c) ⟨hq.1, by omega⟩ ⟨by omega, by omega⟩ hcs
      refine ⟨n, s', ?_, ok, c'⟩
      simp only [lcBody, wipe, ↓ex_for, ↓ev_lc, ↓ev_var, ↓ev_cst, ↓ev_fnv, ↓ev_nil, ↓ev_cons, ↓ev_tup, ↓ev_lst, ↓ev_neg, ↓ev_not, ↓ev_bin, ↓ev_cmp, ↓ev_chain, ↓ev_and, ↓ev_or, ↓ev_ite, ↓ev_sub, ↓ev_slc, ↓ev_rev, ↓ev_call, ↓ev_prim, ↓ev_it, ↓ex_nop, ↓ex_seq, ↓ex_asg, ↓ex_asgs, ↓ex_frz, ↓ex_exp, ↓ex_ret, ↓ex_retN, ↓ex_ite, ↓ex_whl, ↓ex_never, ↓ex_raise_, ↓ex_sets, ↓ex_app, ↓evs_nil, ↓evs_cons, ↓bd_R, bdR_ok, ↓asD_d, ↓asT_t, ↓asL_l, ↓asR_d, ↓asB_b, getV_0, getV_s, ret_ap, rD_ap, List.set_cons_zero, List.set_cons_succ, bindT_nm_d, bindT_nm_c, bindT_cons, bindT_nil, Option.bind_some, opt_some, nown_d, nown_c, List.map_cons, List.map_nil, List.replicate, List.cons_append, List.nil_append, evP_nil, evP_cons, mkO_f, setP_cons, setP_nil, cm_gt, cm_lt, cm_ge, cm_le, cm_eq, cm_ne, cm_is, cm_isnot, cm_in, cm_notin, cmp_gt, cmp_lt, cmp_ge, cmp_le, cmp_eq, cmp_ne, tr_b, cup_0, cup_1, prim_int, pm_int, add_ii, sub_ii, hasJ_0, hasJ_s, ownJ_0, ownJ_s, ↓reduceIte, eq_self, Bool.false_eq_true, set_0, set_1, List.getElem?_cons_zero, List.getElem?_cons_succ, pm_tuple, tuple_l, pm_all, pm_isI, pm_max, pm_sset, it_seq_l, it_seq_t, it_enum_l, it_enum_t, as_len, len_l, len_t, as_sum, sub_30, sub_31, sub_32, sub_20, sub_21, short0, short1, short2, short3, short4, short5, short6, short7, short8, short9, short10, short11, short12, e]) s1 c1
  have e1 : run T (k + 4) "_law_roll" [.cup, .d (.int (w + 1))] s = _ := e1
  rw [rng_len] at n1
  obtain ⟨r2, s3, e3, r20, r21, c3⟩ := r_roll hr (k + 3) (many := 4) (by decide) (by decide) c2
  have e3 : run T (k + 4) "_law_roll" [.cup, .d (.int 4)] s2 = _ := e3
  have ne0 : ∀ n ∈ l1, n.c.items ≠ [] := fun n hn e => by
    have := (p1 n hn).len
    rw [e] at this
    simp only [List.length_nil] at this
    omega
  have sh1 : short (l1.map ne) = ret _ := short_ok (by rw [List.length_map, n1]; unfold line; omega)
  have main : ∀ l : List Need, l.length ≤ w.toNat → (∀ n ∈ l, NeedOk q c n) → ∃ m : List Need, primF .sortedset [.list (l.map ne)] = some (.list (m.map ne)) ∧ BookN w.toNat ⟨q, c, ⟨m⟩⟩ := fun l hl hp => by
    obtain ⟨m, h1, h2, h3, h4⟩ := sset_ne l (by omega)
    exact ⟨m, h1, hq.1, hq.2, hc.1, hc.2, Nat.le_trans h4 hl, fun n hn => hp n ((h2 n).mp hn), h3⟩
  rw [run_has h _ _ _ rfl rfl]
  by_cases hz : 0 < r2
  · have up0 : ∀ n ∈ l1.map up, n.c.items ≠ [] := fun n hn => by
      obtain ⟨m, hm, rfl⟩ := List.mem_map.mp hn
      unfold up
      split
      · exact ne0 m hm
      · intro e
        have e' : m.c.items.map (fun x => 1 - x) = [] := e
        exact ne0 m hm (List.map_eq_nil_iff.mp e')
    have e4 := lc_map (F := lcBody (run T (k + 4)) _ _ _ _ [some .cup, some (.d (.int q)), some (.d (.int c)), some (.d (.int w)), some (.d (.list (l1.map ne))), none, none, none]) up ne ne fun n hn => b_up n (ne0 n hn) (by have := (p1 n hn).len; omega) s3
    have e5 := lc_pure (F := lcBody (run T (k + 4)) _ _ _ _ [some .cup, some (.d (.int q)), some (.d (.int c)), some (.d (.int w)), some (.d (.list ((l1.map up).map ne))), none, none, none]) low ne ne fun n hn => b_low n (up0 n hn) s3
    have l2n : (l1.map up).length ≤ w.toNat := by rw [List.length_map, n1]; omega
    have l3n : ((l1.map up).filterMap low).length ≤ w.toNat := Nat.le_trans (List.length_filterMap_le _ _) l2n
    have sh2 : short ((l1.map up).map ne) = ret _ := short_ok (by rw [List.length_map]; unfold line; omega)
    have sh3 : short (((l1.map up).filterMap low).map ne) = ret _ := short_ok (by rw [List.length_map]; unfold line; omega)
    obtain ⟨m, em, bk⟩ := main ((l1.map up).filterMap low) l3n fun n hn => by
      obtain ⟨n', hn', e⟩ := List.mem_filterMap.mp hn
      obtain ⟨n0, h0, rfl⟩ := List.mem_map.mp hn'
      have ok := p1 n0 h0
      unfold low at e
      split at e
      · rename_i htop
        cases e
        unfold up at htop ⊢
        split
        · exact ok
        · rename_i hz2
          rw [if_neg hz2] at htop
          refine ⟨ok.a0, ok.a1, ok.b0, ok.b1, by simpa using ok.len, fun x hx => ?_⟩
          have hx' : x ∈ n0.c.items.map fun x => 1 - x := hx
          obtain ⟨y, hy, rfl⟩ := List.mem_map.mp hx'
          have h1 := top1_ge hy
          have h2 := top1_ge hx'
          have h3 : top1 (n0.c.items.map fun x => 1 - x) ≤ 3 := htop
          omega
      · cases e
    refine ⟨_, s3, ?_, bk, c3⟩
    simp only [c__law_drawn_book, ↓ex_for, ↓ev_lc, ↓ev_var, ↓ev_cst, ↓ev_fnv, ↓ev_nil, ↓ev_cons, ↓ev_tup, ↓ev_lst, ↓ev_neg, ↓ev_not, ↓ev_bin, ↓ev_cmp, ↓ev_chain, ↓ev_and, ↓ev_or, ↓ev_ite, ↓ev_sub, ↓ev_slc, ↓ev_rev, ↓ev_call, ↓ev_prim, ↓ev_it, ↓ex_nop, ↓ex_seq, ↓ex_asg, ↓ex_asgs, ↓ex_frz, ↓ex_exp, ↓ex_ret, ↓ex_retN, ↓ex_ite, ↓ex_whl, ↓ex_never, ↓ex_raise_, ↓ex_sets, ↓ex_app, ↓evs_nil, ↓evs_cons, ↓bd_R, bdR_ok, ↓asD_d, ↓asT_t, ↓asL_l, ↓asR_d, ↓asB_b, getV_0, getV_s, ret_ap, rD_ap, List.set_cons_zero, List.set_cons_succ, bindT_nm_d, bindT_nm_c, bindT_cons, bindT_nil, Option.bind_some, opt_some, nown_d, nown_c, List.map_cons, List.map_nil, List.replicate, List.cons_append, List.nil_append, evP_nil, evP_cons, mkO_f, setP_cons, setP_nil, cm_gt, cm_lt, cm_ge, cm_le, cm_eq, cm_ne, cm_is, cm_isnot, cm_in, cm_notin, cmp_gt, cmp_lt, cmp_ge, cmp_le, cmp_eq, cmp_ne, tr_b, cup_0, cup_1, prim_int, pm_int, add_ii, sub_ii, hasJ_0, hasJ_s, ownJ_0, ownJ_s, ↓reduceIte, eq_self, Bool.false_eq_true, set_0, set_1, List.getElem?_cons_zero, List.getElem?_cons_succ, pm_tuple, tuple_l, pm_all, pm_isI, pm_max, pm_sset, it_seq_l, it_seq_t, it_enum_l, it_enum_t, as_len, len_l, len_t, as_sum, sub_30, sub_31, sub_32, sub_20, sub_21, short0, short1, short2, short3, short4, short5, short6, short7, short8, short9, short10, short11, short12, e1, it_rng (n := r) ⟨r0, by omega⟩, noexc_ap e2, sh1, e3, decide_eq_true hz, noexc_ap e4, sh2, noexc_ap e5, sh3, em, bo]
  · obtain ⟨m, em, bk⟩ := main l1 (by omega) p1
    refine ⟨_, s3, ?_, bk, c3⟩
    simp only [c__law_drawn_book, ↓ex_for, ↓ev_lc, ↓ev_var, ↓ev_cst, ↓ev_fnv, ↓ev_nil, ↓ev_cons, ↓ev_tup, ↓ev_lst, ↓ev_neg, ↓ev_not, ↓ev_bin, ↓ev_cmp, ↓ev_chain, ↓ev_and, ↓ev_or, ↓ev_ite, ↓ev_sub, ↓ev_slc, ↓ev_rev, ↓ev_call, ↓ev_prim, ↓ev_it, ↓ex_nop, ↓ex_seq, ↓ex_asg, ↓ex_asgs, ↓ex_frz, ↓ex_exp, ↓ex_ret, ↓ex_retN, ↓ex_ite, ↓ex_whl, ↓ex_never, ↓ex_raise_, ↓ex_sets, ↓ex_app, ↓evs_nil, ↓evs_cons, ↓bd_R, bdR_ok, ↓asD_d, ↓asT_t, ↓asL_l, ↓asR_d, ↓asB_b, getV_0, getV_s, ret_ap, rD_ap, List.set_cons_zero, List.set_cons_succ, bindT_nm_d, bindT_nm_c, bindT_cons, bindT_nil, Option.bind_some, opt_some, nown_d, nown_c, List.map_cons, List.map_nil, List.replicate, List.cons_append, List.nil_append, evP_nil, evP_cons, mkO_f, setP_cons, setP_nil, cm_gt, cm_lt, cm_ge, cm_le, cm_eq, cm_ne, cm_is, cm_isnot, cm_in, cm_notin, cmp_gt, cmp_lt, cmp_ge, cmp_le, cmp_eq, cmp_ne, tr_b, cup_0, cup_1, prim_int, pm_int, add_ii, sub_ii, hasJ_0, hasJ_s, ownJ_0, ownJ_s, ↓reduceIte, eq_self, Bool.false_eq_true, set_0, set_1, List.getElem?_cons_zero, List.getElem?_cons_succ, pm_tuple, tuple_l, pm_all, pm_isI, pm_max, pm_sset, it_seq_l, it_seq_t, it_enum_l, it_enum_t, as_len, len_l, len_t, as_sum, sub_30, sub_31, sub_32, sub_20, sub_21, short0, short1, short2, short3, short4, short5, short6, short7, short8, short9, short10, short11, short12, e1, it_rng (n := r) ⟨r0, by omega⟩, noexc_ap e2, sh1, e3, decide_eq_false hz, em, bo]
instance (b : Book) : Decidable (∀ n ∈ b.c.items, (0 ≤ n.a ∧ n.a < b.a ∧ 0 ≤ n.b ∧ n.b < b.a) ∧ (n.c.items.length : Int) = b.b ∧ ∀ x ∈ n.c.items, -3 ≤ x ∧ x ≤ 3) := inferInstance
theorem known_ok : ∀ b ∈ knownB, BookOk b := by
  have h : ∀ b ∈ knownB, (0 < b.a ∧ b.a ≤ 3 ∧ 0 < b.b ∧ b.b ≤ 3 ∧ b.c.items.length ≤ 4) ∧ (∀ n ∈ b.c.items, (0 ≤ n.a ∧ n.a < b.a ∧ 0 ≤ n.b ∧ n.b < b.a) ∧ (n.c.items.length : Int) = b.b ∧ ∀ x ∈ n.c.items, -3 ≤ x ∧ x ≤ 3) ∧ b.c.items.Pairwise fun x y => W.DatumOrd.lt x y = true := by decide +kernel
  intro b hb
  obtain ⟨⟨h1, h2, h3, h4, h5⟩, h6, h7⟩ := h b hb
  exact ⟨h1, h2, h3, h4, h5, fun n hn => let ⟨⟨a, b, c, d⟩, e, f⟩ := h6 n hn; ⟨a, b, c, d, e, f⟩, h7⟩
theorem r_book {T : Tab} (hr : Has T "_law_roll" c__law_roll) (hs : Has T "_law_some" c__law_some) (ho : Has T "_law_offset" c__law_offset) (hn : Has T "_law_need" c__law_need) (hk : Has T "_law_known_book" c__law_known_book) (hd : Has T "_law_drawn_book" c__law_drawn_book)
    (h : Has T "_law_book" c__law_book) (k : Nat) {s : St} (hcup : CupOk s) : ∃ (b : Book) (s' : St), run T (k + 6) "_law_book" [.cup] s = .ok (.d (bo b)) s' ∧ BookOk b ∧ CupOk s' := by
  obtain ⟨r, s1, e1, r0, r1, c1⟩ := r_roll hr (k + 4) (many := 3) (by decide) (by decide) hcup
  have e1 : run T (k + 5) "_law_roll" [.cup, .d (.int 3)] s = _ := e1
  rw [run_has h _ _ _ rfl rfl]
  by_cases hz : r = 0
  · obtain ⟨b, s2, e2, hb, c2⟩ := r_known hr hs hk (k + 2) c1
    have e2 : run T (k + 5) "_law_known_book" [.cup] s1 = _ := e2
    refine ⟨b, s2, ?_, known_ok b hb, c2⟩
    simp only [c__law_book, ↓ex_for, ↓ev_lc, ↓ev_var, ↓ev_cst, ↓ev_fnv, ↓ev_nil, ↓ev_cons, ↓ev_tup, ↓ev_lst, ↓ev_neg, ↓ev_not, ↓ev_bin, ↓ev_cmp, ↓ev_chain, ↓ev_and, ↓ev_or, ↓ev_ite, ↓ev_sub, ↓ev_slc, ↓ev_rev, ↓ev_call, ↓ev_prim, ↓ev_it, ↓ex_nop, ↓ex_seq, ↓ex_asg, ↓ex_asgs, ↓ex_frz, ↓ex_exp, ↓ex_ret, ↓ex_retN, ↓ex_ite, ↓ex_whl, ↓ex_never, ↓ex_raise_, ↓ex_sets, ↓ex_app, ↓evs_nil, ↓evs_cons, ↓bd_R, bdR_ok, ↓asD_d, ↓asT_t, ↓asL_l, ↓asR_d, ↓asB_b, getV_0, getV_s, ret_ap, rD_ap, List.set_cons_zero, List.set_cons_succ, bindT_nm_d, bindT_nm_c, bindT_cons, bindT_nil, Option.bind_some, opt_some, nown_d, nown_c, List.map_cons, List.map_nil, List.replicate, List.cons_append, List.nil_append, evP_nil, evP_cons, mkO_f, setP_cons, setP_nil, cm_gt, cm_lt, cm_ge, cm_le, cm_eq, cm_ne, cm_is, cm_isnot, cm_in, cm_notin, cmp_gt, cmp_lt, cmp_ge, cmp_le, cmp_eq, cmp_ne, tr_b, cup_0, cup_1, prim_int, pm_int, add_ii, sub_ii, hasJ_0, hasJ_s, ownJ_0, ownJ_s, ↓reduceIte, eq_self, Bool.false_eq_true, set_0, set_1, List.getElem?_cons_zero, List.getElem?_cons_succ, pm_tuple, tuple_l, pm_all, pm_isI, pm_max, pm_sset, it_seq_l, it_seq_t, it_enum_l, it_enum_t, as_len, len_l, len_t, as_sum, sub_30, sub_31, sub_32, sub_20, sub_21, short0, short1, short2, short3, short4, short5, short6, short7, short8, short9, short10, short11, short12, e1, decide_eq_true hz, e2]
  · have one : ∀ s, CupOk s → ∃ (m : Int) (s' : St), run T (k + 5) "_law_some" [.cup, .d (.list [.int 1, .int 2, .int 2])] s = .ok (.d (.int m)) s' ∧ (0 < m ∧ m ≤ 3) ∧ CupOk s' := fun s hs' => by
      obtain ⟨d, s', e, hm, c'⟩ := r_some hr hs (k + 3) (l := [.int 1, .int 2, .int 2]) (by simp) (by decide) hs'
      simp only [List.mem_cons, List.not_mem_nil, or_false] at hm
      rcases hm with rfl | rfl | rfl
      · exact ⟨1, s', e, by decide, c'⟩
      · exact ⟨2, s', e, by decide, c'⟩
      · exact ⟨2, s', e, by decide, c'⟩
    obtain ⟨q, s2, e2, hq, c2⟩ := one s1 c1
    obtain ⟨c, s3, e3, hc, c3⟩ := one s2 c2
    obtain ⟨b, s4, e4, bk, c4⟩ := r_drawn hr hs ho hn hd k (w := 4) (by decide) hq hc c3
    refine ⟨b, s4, ?_, bk, c4⟩
    simp only [c__law_book, ↓ex_for, ↓ev_lc, ↓ev_var, ↓ev_cst, ↓ev_fnv, ↓ev_nil, ↓ev_cons, ↓ev_tup, ↓ev_lst, ↓ev_neg, ↓ev_not, ↓ev_bin, ↓ev_cmp, ↓ev_chain, ↓ev_and, ↓ev_or, ↓ev_ite, ↓ev_sub, ↓ev_slc, ↓ev_rev, ↓ev_call, ↓ev_prim, ↓ev_it, ↓ex_nop, ↓ex_seq, ↓ex_asg, ↓ex_asgs, ↓ex_frz, ↓ex_exp, ↓ex_ret, ↓ex_retN, ↓ex_ite, ↓ex_whl, ↓ex_never, ↓ex_raise_, ↓ex_sets, ↓ex_app, ↓evs_nil, ↓evs_cons, ↓bd_R, bdR_ok, ↓asD_d, ↓asT_t, ↓asL_l, ↓asR_d, ↓asB_b, getV_0, getV_s, ret_ap, rD_ap, List.set_cons_zero, List.set_cons_succ, bindT_nm_d, bindT_nm_c, bindT_cons, bindT_nil, Option.bind_some, opt_some, nown_d, nown_c, List.map_cons, List.map_nil, List.replicate, List.cons_append, List.nil_append, evP_nil, evP_cons, mkO_f, setP_cons, setP_nil, cm_gt, cm_lt, cm_ge, cm_le, cm_eq, cm_ne, cm_is, cm_isnot, cm_in, cm_notin, cmp_gt, cmp_lt, cmp_ge, cmp_le, cmp_eq, cmp_ne, tr_b, cup_0, cup_1, prim_int, pm_int, add_ii, sub_ii, hasJ_0, hasJ_s, ownJ_0, ownJ_s, ↓reduceIte, eq_self, Bool.false_eq_true, set_0, set_1, List.getElem?_cons_zero, List.getElem?_cons_succ, pm_tuple, tuple_l, pm_all, pm_isI, pm_max, pm_sset, it_seq_l, it_seq_t, it_enum_l, it_enum_t, as_len, len_l, len_t, as_sum, sub_30, sub_31, sub_32, sub_20, sub_21, short0, short1, short2, short3, short4, short5, short6, short7, short8, short9, short10, short11, short12, e1, decide_eq_false hz, e2, e3, e4]
end PF
end
section
set_option Elab.async false
set_option linter.all false
set_option maxRecDepth 100000
set_option maxHeartbeats 4000000
/-! PHc: the rules where the cup is rolled: s before, s' behind. -/
namespace PF
open PySem
open W (Tup T3 T4 Datum DatumOrd SomeDatum)
section
variable {G : Str → List Vl → M Vl} {e e' : Env} {s s1 s2 s3 : St}
variable {α β γ δ ρ : Type} [DecidableEq α] [DecidableEq β] [DecidableEq γ] [DecidableEq δ] [DecidableEq ρ]
abbrev EpS (G : Str → List Vl → M Vl) (e : Env) (s : St) (c : CE) (v : Vl) (s' : St) : Prop := ev G c e s = .ok v s'
abbrev EpLS (G : Str → List Vl → M Vl) (e : Env) (s : St) (c : CE) (l : List D) (s' : St) : Prop := ev G c e s = .ok (.d (.tuple l)) s'
abbrev EpsS (G : Str → List Vl → M Vl) (e : Env) (s : St) (c : CE) (l : List Vl) (s' : St) : Prop := evs G c e s = .ok l s'
abbrev XsS (G : Str → List Vl → M Vl) (e : Env) (s : St) (c : CS) (o : Fl) (s' : St) : Prop := ex G c e s = .ok o s'
theorem pS_cons {a b : CE} {x : D} {l : List D} (h : EpS G e s a (.d x) s1) (k : EpLS G e s1 b l s2) : EpLS G e s (.cons a b) (x :: l) s2 := by
  show ev G _ e s = _
  rw [ev_cons]
  exact bd_go h (bd_go k rfl)
theorem pS_tup {a : CE} {l : List D} (h : EpLS G e s a l s1) (hl : l.length ≤ line) : EpS G e s (.tup a) (.d (.tuple l)) s1 := by
  show ev G _ e s = _
  rw [ev_tup]
  refine bd_go h ?_
  show bd (short l) _ s1 = _
  rw [short_ok hl]
  rfl
theorem pS_p2 [Datum α] [Datum β] {a b : CE} {x : α} {y : β} (h : EpS G e s a (tv x) s1) (k : EpS G e s1 b (tv y) s2) : EpS G e s (.tup (.cons a (.cons b .nil))) (tv (x, y)) s2 :=
  pS_tup (pS_cons h (pS_cons k p_nil)) (show 2 ≤ line by decide)
theorem pS_t3 [Datum α] [Datum β] [Datum γ] {a b c : CE} {x : α} {y : β} {z : γ} (h : EpS G e s a (tv x) s1) (k : EpS G e s1 b (tv y) s2) (j : EpS G e s2 c (tv z) s3) : EpS G e s (.tup (.cons a (.cons b (.cons c .nil)))) (tv (T3.mk x y z)) s3 :=
  pS_tup (pS_cons h (pS_cons k (pS_cons j p_nil))) (show 3 ≤ line by decide)
theorem pS_bin {o : Bi} {a b : CE} {x y z : D} (h : EpS G e s a (.d x) s1) (k : EpS G e s1 b (.d y) s2) (q : binF o x y = some z) : EpS G e s (.bin o a b) (.d z) s2 := by
  show ev G _ e s = _
  rw [ev_bin]
  refine bd_go h (bd_go k ?_)
  show bd (opt (binF o x y)) _ s2 = _
  rw [q]
  rfl
theorem pS_add {a b : CE} {x y : Int} (h : EpS G e s a (tv x) s1) (k : EpS G e s1 b (tv y) s2) : EpS G e s (.bin .add a b) (tv (x + y)) s2 := pS_bin h k rfl
theorem pS_sub {a b : CE} {x y : Int} (h : EpS G e s a (tv x) s1) (k : EpS G e s1 b (tv y) s2) : EpS G e s (.bin .sub a b) (tv (x - y)) s2 := pS_bin h k rfl
theorem pS_cmp {o : Cm} {a b : CE} {x y : D} {t : Bool} (h : EpS G e s a (.d x) s1) (k : EpS G e s1 b (.d y) s2) (q : cmpF o x y = some t) : EpS G e s (.cmp o a b) (tv t) s2 := by
  show ev G _ e s = _
  rw [ev_cmp]
  refine bd_go h (bd_go k ?_)
  have r : ∀ {f : D → M Vl}, o.as (.d y) f = f y := fun {f} => by cases o <;> rfl
  show (o.as (.d y) fun y => bd (opt (cmpF o x y)) fun t => rD (.bool t)) s2 = _
  rw [r, q]
  rfl
theorem pS_eq [Datum α] {a b : CE} {x y : α} (h : EpS G e s a (tv x) s1) (k : EpS G e s1 b (tv y) s2) (hd : Datum.depth α ≤ 64 := by decide) : EpS G e s (.cmp .eq a b) (tv (decide (x = y))) s2 := pS_cmp h k (eqF_d hd x y)
theorem pS_not {a : CE} {b : Bool} (h : EpS G e s a (tv b) s1) : EpS G e s (.not a) (tv (!b)) s1 := by
  show ev G _ e s = _
  rw [ev_not]
  exact bd_go h rfl
theorem pS_orF {a b : CE} {v : Vl} (h : EpS G e s a (tv false) s1) (k : EpS G e s1 b v s2) : EpS G e s (.or a b) v s2 := by
  show ev G _ e s = _
  rw [ev_or]
  exact bd_go h k
theorem pS_orT {a b : CE} (h : EpS G e s a (tv true) s1) : EpS G e s (.or a b) (tv true) s1 := by
  show ev G _ e s = _
  rw [ev_or]
  exact bd_go h rfl
theorem pS_andT {a b : CE} {v : Vl} (h : EpS G e s a (tv true) s1) (k : EpS G e s1 b v s2) : EpS G e s (.and a b) v s2 := by
  show ev G _ e s = _
  rw [ev_and]
  exact bd_go h k
theorem pS_andF {a b : CE} (h : EpS G e s a (tv false) s1) : EpS G e s (.and a b) (tv false) s1 := by
  show ev G _ e s = _
  rw [ev_and]
  exact bd_go h rfl
theorem pS_iteT {c a b : CE} {v : Vl} (h : EpS G e s c (tv true) s1) (k : EpS G e s1 a v s2) : EpS G e s (.ite c a b) v s2 := by
  show ev G _ e s = _
  rw [ev_ite]
  exact bd_go h k
theorem pS_iteF {c a b : CE} {v : Vl} (h : EpS G e s c (tv false) s1) (k : EpS G e s1 b v s2) : EpS G e s (.ite c a b) v s2 := by
  show ev G _ e s = _
  rw [ev_ite]
  exact bd_go h k
theorem pS_at {a i : CE} {x y z : D} (h : EpS G e s a (.d x) s1) (k : EpS G e s1 i (.d y) s2) (q : subF x y = some z) : EpS G e s (.sub a i) (.d z) s2 := by
  show ev G _ e s = _
  rw [ev_sub]
  refine bd_go h (bd_go k ?_)
  show bd (opt (subF x y)) _ s2 = _
  rw [q]
  rfl
theorem pS_acC {i : Nat} {b : CE} {vs : List Vl} (h : e[i]? = some (some .cup)) (k : EpsS G e s b vs s1) : EpsS G e s (.cons (.var i) b) (.cup :: vs) s1 := by
  show evs G _ e s = _
  rw [evs_cons]
  refine bd_go (a := .cup) (s' := s) ?_ (bd_go k rfl)
  rw [ev_var]
  unfold getV
  rw [h]
  rfl
theorem pS_ac {a b : CE} {x : D} {vs : List Vl} (h : EpS G e s a (.d x) s1) (k : EpsS G e s1 b vs s2) : EpsS G e s (.cons a b) (.d x :: vs) s2 := by
  show evs G _ e s = _
  rw [evs_cons]
  exact bd_go h (bd_go k rfl)
theorem pS_call {f : Str} {a : CE} {vs : List Vl} {v : Vl} (h : EpsS G e s a vs s1) (k : G f vs s1 = .ok v s2) : EpS G e s (.call f a) v s2 := by
  show ev G _ e s = _
  rw [ev_call]
  exact bd_go h k
theorem pS_prim {p : Pm} {a b : CE} {x z : D} {l : List D} (h : EpS G e s a (.d x) s1) (k : EpLS G e s1 b l s2) (q : primF p (x :: l) = some z) : EpS G e s (.prim p a b) (.d z) s2 := by
  show ev G _ e s = _
  rw [ev_prim]
  refine bd_go h (bd_go k ?_)
  have r : ∀ {f : D → M Vl}, p.as (.d x) f = f x := fun {f} => by
    unfold Pm.as
    cases p.reads <;> rfl
  show (p.as (.d x) fun x => bd (opt (primF p (x :: l))) rD) s2 = _
  rw [r, q]
  rfl
theorem pS_tupL [Datum α] {a : CE} {l : List α} (h : EpS G e s a (tv l) s1) : EpS G e s (.prim .tuple a .nil) (tv (Tup.mk l)) s1 := pS_prim h p_nil rfl
/-- a comprehension whose items are rolled -/
theorem pS_lc [Datum α] [Datum β] {own : List Nat} {g : Tg} {src elt : CE} {l : List α} {P : α → β → Prop} {E : α → Env} (h : EpI G e s src (l.map Datum.toD))
    (hb : ∀ x, bindT g (.d (Datum.toD x)) (wipe e own) = some (E x)) (hf : ∀ x ∈ l, ∀ s, CupOk s → ∃ (y : β) (s' : St), EpS G (E x) s elt (tv y) s' ∧ P x y ∧ CupOk s') (hl : l.length ≤ line) (hc : CupOk s) :
    ∃ (ys : List β) (s' : St), EpS G e s (.lc own g src (.cst (.bool true)) elt) (tv ys) s' ∧ ys.length = l.length ∧ (∀ y ∈ ys, ∃ x ∈ l, P x y) ∧ CupOk s' := by
  have key : ∀ (l : List α) (s : St), CupOk s → (∀ x ∈ l, ∀ s, CupOk s → ∃ (y : β) (s' : St), EpS G (E x) s elt (tv y) s' ∧ P x y ∧ CupOk s') → ∃ (ys : List β) (s' : St), lcLoop (lcBody G own g (.cst (.bool true)) elt e) (l.map Datum.toD) s = .ok (ys.map Datum.toD) s' ∧ ys.length = l.length ∧ (∀ y ∈ ys, ∃ x ∈ l, P x y) ∧ CupOk s' := by
    intro l
    induction l with
    | nil => exact fun s hc _ => ⟨[], s, rfl, rfl, fun y hy => (nomatch hy), hc⟩
    | cons x r ih =>
      intro s hc hf
      obtain ⟨y, s1, e1, p1, c1⟩ := hf x List.mem_cons_self s hc
      obtain ⟨ys, s2, e2, n2, p2, c2⟩ := ih s1 c1 fun z hz => hf z (List.mem_cons_of_mem _ hz)
      refine ⟨y :: ys, s2, ?_, by rw [List.length_cons, List.length_cons, n2], fun z hz => ?_, c2⟩
      · rw [List.map_cons, lcLoop]
        refine bd_go (a := some (Datum.toD y)) (s' := s1) ?_ (bd_go e2 rfl)
        unfold lcBody
        refine bd_go (m := opt _) (show _ = R.ok (E x) s by rw [hb x]; rfl) (bd_go (m := ev G (.cst (.bool true)) (E x)) (p_bool true) ?_)
        exact bd_go (a := true) (s' := s) rfl (bd_go e1 rfl)
      · rcases List.mem_cons.mp hz with rfl | hz
        · exact ⟨x, List.mem_cons_self, p1⟩
        · obtain ⟨w, hw, q⟩ := p2 z hz
          exact ⟨w, List.mem_cons_of_mem _ hw, q⟩
  obtain ⟨ys, s', e1, n1, p1, c1⟩ := key l s hc hf
  refine ⟨ys, s', ?_, n1, p1, c1⟩
  show ev G _ e s = _
  rw [ev_lc]
  refine bd_go h (bd_go (noexc_ok e1) ?_)
  rw [short_ok (by rw [List.length_map, n1]; exact hl)]
  rfl
/-! ### statements -/
theorem xS_ret {c : CE} {x : D} (h : EpS G e s c (.d x) s1) : XsS G e s (.ret c) (.rt (.d x)) s1 := by
  show ex G _ e s = _
  rw [ex_ret]
  exact bd_go h rfl
theorem xS_seq {a b : CS} {o : Fl} (h : XsS G e s a (.nx e') s1) (k : XsS G e' s1 b o s2) : XsS G e s (.seq a b) o s2 := by
  show ex G _ e s = _
  rw [ex_seq]
  exact bd_go h k
theorem xS_seqR {a b : CS} {v : Vl} (h : XsS G e s a (.rt v) s1) : XsS G e s (.seq a b) (.rt v) s1 := by
  show ex G _ e s = _
  rw [ex_seq]
  exact bd_go h rfl
theorem xS_exp {c : CE} {v : Vl} (h : EpS G e s c v s1) : XsS G e s (.exp c) (.nx e) s1 := by
  show ex G _ e s = _
  rw [ex_exp]
  exact bd_go h rfl
theorem xS_let1 {i : Nat} {c : CE} {x : D} (h : EpS G e s c (.d x) s1) : XsS G e s (.asgs [(false, i, c)]) (.nx (e.set i (some (.d x)))) s1 := by
  show ex G _ e s = _
  rw [ex_asgs]
  refine (bd_go (a := [.d x]) (s' := s1) ?_ rfl)
  rw [evP]
  exact bd_go h (bd_go (a := []) (s' := s1) (by rw [evP]; rfl) rfl)
theorem xS_let2 {i j : Nat} {c d : CE} {x y : D} (h : EpS G e s c (.d x) s1) (h2 : EpS G e s1 d (.d y) s2) : XsS G e s (.asgs [(false, i, c), (false, j, d)]) (.nx ((e.set i (some (.d x))).set j (some (.d y)))) s2 := by
  show ex G _ e s = _
  rw [ex_asgs]
  refine (bd_go (a := [.d x, .d y]) (s' := s2) ?_ rfl)
  rw [evP]
  refine bd_go h (bd_go (a := [.d y]) (s' := s2) ?_ rfl)
  rw [evP]
  exact bd_go h2 (bd_go (a := []) (s' := s2) (by rw [evP]; rfl) rfl)
theorem xS_asg {g : Tg} {c : CE} {x : D} (h : EpS G e s c (.d x) s1) (hb : bindT g (.d x) e = some e') : XsS G e s (.asg g c) (.nx e') s1 := by
  show ex G _ e s = _
  rw [ex_asg]
  refine bd_go h ?_
  show bd (opt (bindT g (.d x) e)) _ s1 = _
  rw [hb]
  rfl
theorem xS_ifT {c : CE} {a b : CS} {o : Fl} (h : EpS G e s c (tv true) s1) (k : XsS G e s1 a o s2) : XsS G e s (.ite c a b) o s2 := by
  show ex G _ e s = _
  rw [ex_ite]
  exact bd_go h k
theorem xS_ifF {c : CE} {a b : CS} {o : Fl} (h : EpS G e s c (tv false) s1) (k : XsS G e s1 b o s2) : XsS G e s (.ite c a b) o s2 := by
  show ex G _ e s = _
  rw [ex_ite]
  exact bd_go h k
theorem xS_no {c : CE} {a : CS} (h : EpS G e s c (tv false) s1) : XsS G e s (.ite c a .nop) (.nx e) s1 := xS_ifF h x_nop
/-- a loop in which the cup is rolled, never left ahead of its end -/
theorem xS_for {σ J : Type} [Datum α] {g : Tg} {src : CE} {body : CS} {E : σ → J → Env} {I : List α → σ → Prop} {l : List α} {st : σ} {j : J} (h : EpI G (E st j) s src (l.map Datum.toD)) (h0 : I l st) (hc : CupOk s)
    (hb : ∀ st j x r s, I (x :: r) st → CupOk s → ∃ e1 : Env, bindT g (.d (Datum.toD x)) (E st j) = some e1 ∧ ∃ (st' : σ) (j' : J) (s' : St), XsS G e1 s body (.nx (E st' j')) s' ∧ I r st' ∧ CupOk s') :
    ∃ (st' : σ) (j' : J) (s' : St), XsS G (E st j) s (.for_ g src body) (.nx (E st' j')) s' ∧ I [] st' ∧ CupOk s' := by
  have key : ∀ (l : List α) (st : σ) (j : J) (s : St), I l st → CupOk s → ∃ (st' : σ) (j' : J) (s' : St), forLoop (fun x e => bd (opt (bindT g (.d x) e)) fun e' => ex G body e') (l.map Datum.toD) (E st j) s = .ok (.nx (E st' j')) s' ∧ I [] st' ∧ CupOk s' := by
    intro l
    induction l with
    | nil => exact fun st j s hI hc => ⟨st, j, s, rfl, hI, hc⟩
    | cons x r ih =>
      intro st j s hI hc
      obtain ⟨e1, b1, st1, j1, s1, x1, i1, c1⟩ := hb st j x r s hI hc
      obtain ⟨st2, j2, s2, x2, i2, c2⟩ := ih st1 j1 s1 i1 c1
      refine ⟨st2, j2, s2, ?_, i2, c2⟩
      rw [List.map_cons, forLoop]
      have q : bd (opt (bindT g (.d (Datum.toD x)) (E st j))) (fun e' => ex G body e') s = .ok (.nx (E st1 j1)) s1 := bd_go (m := opt _) (show _ = R.ok e1 s by rw [b1]; rfl) x1
      exact bd_go q x2
  obtain ⟨st', j', s', e1, i1, c1⟩ := key l st j s h0 hc
  refine ⟨st', j', s', ?_, i1, c1⟩
  show ex G _ _ s = _
  rw [ex_for]
  exact bd_go h e1
theorem run_dS {T : Tab} {f : Str} {fd : Fd} {m : Nat} {args : List Vl} {x : D} (h : T.lookup f = some fd) (ha : args.length = fd.np) (hno : args.all Vl.noOwn = true) (k : XsS (run T m) (args.map some ++ List.replicate (fd.nn - fd.np) none) s fd.body (.rt (.d x)) s1) : run T (m + 1) f args s = .ok (.d x) s1 := by
  rw [run_has h _ _ _ ha hno]
  exact bd_go k rfl
end
end PF
namespace PF
open PySem
open W (Tup T3 T4 Datum DatumOrd SomeDatum)
theorem EpS.cast {G : Str → List Vl → M Vl} {e : Env} {s s' : St} {c : CE} {v w : Vl} (h : EpS G e s c v s') (k : v = w) : EpS G e s c w s' := k ▸ h
theorem roll_t {T : Tab} (h : Has T "_law_roll" c__law_roll) {n : Nat} (hn : 1 ≤ n) {s : St} (hc : CupOk s) (many : Int) (h0 : 0 < many) (h1 : many < 2 ^ 64) : ∃ (r : Int) (s' : St), run T n "_law_roll" [.cup, tv many] s = .ok (tv r) s' ∧ (0 ≤ r ∧ r < many) ∧ CupOk s' := by
  obtain ⟨k, rfl⟩ : ∃ k, n = k + 1 := ⟨n - 1, by omega⟩
  obtain ⟨r, s', e, h1, h2, c⟩ := r_roll h k h0 h1 hc
  exact ⟨r, s', e, ⟨h1, h2⟩, c⟩
theorem some_t {T : Tab} (hr : Has T "_law_roll" c__law_roll) (h : Has T "_law_some" c__law_some) {α : Type} [DecidableEq α] [Datum α] {n : Nat} (hn : 2 ≤ n) {s : St} (hc : CupOk s) (l : List α) (h0 : l ≠ []) (h1 : l.length ≤ 1000) : ∃ (r : α) (s' : St), run T n "_law_some" [.cup, tv l] s = .ok (tv r) s' ∧ (r ∈ l) ∧ CupOk s' := by
  obtain ⟨k, rfl⟩ : ∃ k, n = k + 2 := ⟨n - 2, by omega⟩
  obtain ⟨d, s', e, m, c⟩ := r_some hr h k (l := l.map Datum.toD) (by simpa using h0) (by rw [List.length_map]; exact h1) hc
  obtain ⟨x, hx, rfl⟩ := List.mem_map.mp m
  exact ⟨x, s', e, hx, c⟩
theorem book_t {T : Tab} (hr : Has T "_law_roll" c__law_roll) (hs : Has T "_law_some" c__law_some) (ho : Has T "_law_offset" c__law_offset) (hn' : Has T "_law_need" c__law_need) (hk : Has T "_law_known_book" c__law_known_book) (hd : Has T "_law_drawn_book" c__law_drawn_book)
    (h : Has T "_law_book" c__law_book) {n : Nat} (hn : 6 ≤ n) {s : St} (hc : CupOk s) : ∃ (b : Book) (s' : St), run T n "_law_book" [.cup] s = .ok (tv b) s' ∧ BookOk b ∧ CupOk s' := by
  obtain ⟨k, rfl⟩ : ∃ k, n = k + 6 := ⟨n - 6, by omega⟩
  exact r_book hr hs ho hn' hk hd h k hc
theorem drawn_t {T : Tab} (hr : Has T "_law_roll" c__law_roll) (hs : Has T "_law_some" c__law_some) (ho : Has T "_law_offset" c__law_offset) (hn' : Has T "_law_need" c__law_need) (hd : Has T "_law_drawn_book" c__law_drawn_book) {n : Nat} (hn : 5 ≤ n) {s : St} (hc : CupOk s) (q c w : Int) (hq : 0 < q ∧ q ≤ 3) (hcc : 0 < c ∧ c ≤ 3) (hw : 0 ≤ w ∧ w ≤ 12) :
    ∃ (b : Book) (s' : St), run T n "_law_drawn_book" [.cup, tv q, tv c, tv w] s = .ok (tv b) s' ∧ BookN w.toNat b ∧ CupOk s' := by
  obtain ⟨k, rfl⟩ : ∃ k, n = k + 5 := ⟨n - 5, by omega⟩
  exact r_drawn hr hs ho hn' hd k hw hq hcc hc
section
variable {G : Str → List Vl → M Vl} {e e' : Env} {s : St}
theorem p_isB {a : CE} {x b : Bool} (h : Ep G e s a (tv x)) : Ep G e s (.cmp .is_ a (.cst (.bool b))) (tv (x == b)) := p_cmp h (p_bool b) rfl
theorem p_isntB {a : CE} {x b : Bool} (h : Ep G e s a (tv x)) : Ep G e s (.cmp .isnot a (.cst (.bool b))) (tv (!(x == b))) := p_cmp h (p_bool b) rfl
end
end PF
end
section
set_option Elab.async false
set_option linter.all false
set_option maxRecDepth 100000
set_option maxHeartbeats 4000000
/-! PM: sums, plain mathematics. -/
namespace PF
open PySem
open W (Tup T3 T4 Datum DatumOrd SomeDatum)
/-- the sum over i, i + 1, .. -/
def sumR (f : Int → Int) (i : Int) (n : Nat) : Int := ((upFrom i n).map f).sum
theorem sumR_0 (f : Int → Int) (i : Int) : sumR f i 0 = 0 := rfl
theorem sumR_s (f : Int → Int) (i : Int) (n : Nat) : sumR f i (n + 1) = f i + sumR f (i + 1) n := by
  unfold sumR
  rw [upFrom, List.map_cons, List.sum_cons]
theorem sumR_congr {f g : Int → Int} {i : Int} {n : Nat} (h : ∀ x, i ≤ x → x < i + n → f x = g x) : sumR f i n = sumR g i n := by
  induction n generalizing i with
  | zero => rfl
  | succ n ih =>
    rw [sumR_s, sumR_s, h i (by omega) (by omega), ih fun x h1 h2 => h x (by omega) (by omega)]
theorem sumR_add (f g : Int → Int) (i : Int) (n : Nat) : sumR (fun x => f x + g x) i n = sumR f i n + sumR g i n := by
  induction n generalizing i with
  | zero => rfl
  | succ n ih => rw [sumR_s, sumR_s, sumR_s, ih]; omega
theorem sumR_zero {f : Int → Int} {i : Int} {n : Nat} (h : ∀ x, i ≤ x → x < i + n → f x = 0) : sumR f i n = 0 := by
  induction n generalizing i with
  | zero => rfl
  | succ n ih => rw [sumR_s, h i (by omega) (by omega), ih fun x h1 h2 => h x (by omega) (by omega)]; rfl
theorem sumR_le {f g : Int → Int} {i : Int} {n : Nat} (h : ∀ x, i ≤ x → x < i + n → f x ≤ g x) : sumR f i n ≤ sumR g i n := by
  induction n generalizing i with
  | zero => exact Int.le_refl _
  | succ n ih =>
    rw [sumR_s, sumR_s]
    have h1 := h i (by omega) (by omega)
    have h2 := ih (i := i + 1) fun x h1 h2 => h x (by omega) (by omega)
    omega
theorem sumR_one {f : Int → Int} {i a v : Int} {n : Nat} (h0 : i ≤ a) (h1 : a < i + n) (h : ∀ x, i ≤ x → x < i + n → f x = if x = a then v else 0) : sumR f i n = v := by
  induction n generalizing i with
  | zero => omega
  | succ n ih =>
    rw [sumR_s, h i (by omega) (by omega)]
    by_cases e : i = a
    · rw [if_pos e, sumR_zero fun x h2 h3 => by rw [h x (by omega) (by omega), if_neg (by omega)]]
      omega
    · rw [if_neg e, ih (i := i + 1) (by omega) (by omega) fun x h2 h3 => h x (by omega) (by omega)]
      omega
theorem dot_sumR : ∀ (s t : List Int) (i : Int), s.length = t.length → ((s.zip t).map fun p : Int × Int => p.1 * p.2).sum = sumR (fun x => s.getD (x - i).toNat 0 * t.getD (x - i).toNat 0) i s.length
  | [], _, _, _ => rfl
  | a :: s, [], _, h => by simp at h
  | a :: s, b :: t, i, h => by
    rw [List.length_cons, sumR_s, List.zip_cons_cons, List.map_cons, List.sum_cons, dot_sumR s t (i + 1) (by simpa using h)]
    have e0 : (i - i).toNat = 0 := by omega
    rw [e0]
    congr 1
    refine sumR_congr fun x h1 h2 => ?_
    have e : (x - i).toNat = (x - (i + 1)).toNat + 1 := by omega
    rw [e]
    rfl
theorem rangeI_sum (f : Int → Int) (n : Int) : ((rangeI 0 n).map f).sum = sumR f 0 n.toNat := by
  unfold rangeI sumR
  rw [show n - 0 = n by omega]
theorem sum_nonneg {l : List Int} (h : ∀ x ∈ l, 0 ≤ x) : 0 ≤ l.sum := by
  induction l with
  | nil => exact Int.le_refl _
  | cons a l ih =>
    rw [List.sum_cons]
    have := h a List.mem_cons_self
    have := ih fun x hx => h x (List.mem_cons_of_mem _ hx)
    omega
theorem le_sum {l : List Int} (h : ∀ x ∈ l, 0 ≤ x) {a : Int} (ha : a ∈ l) : a ≤ l.sum := by
  induction l with
  | nil => cases ha
  | cons b l ih =>
    rw [List.sum_cons]
    have hb := h b List.mem_cons_self
    have hl := sum_nonneg fun x hx => h x (List.mem_cons_of_mem _ hx)
    rcases List.mem_cons.mp ha with rfl | ha
    · omega
    · have := ih (fun x hx => h x (List.mem_cons_of_mem _ hx)) ha
      omega
theorem enumL_mem {α : Type} : ∀ {l : List α} {i : Int} {p : Int × α}, p ∈ enumL i l ↔ i ≤ p.1 ∧ l[(p.1 - i).toNat]? = some p.2
  | [], i, p => by simp [enumL]
  | x :: r, i, p => by
    rw [enumL, List.mem_cons, enumL_mem]
    constructor
    · rintro (rfl | ⟨h1, h2⟩)
      · exact ⟨Int.le_refl _, by rw [show (i - i).toNat = 0 by omega]; rfl⟩
      · refine ⟨by omega, ?_⟩
        rw [show (p.1 - i).toNat = (p.1 - (i + 1)).toNat + 1 by omega]
        exact h2
    · rintro ⟨h1, h2⟩
      by_cases e : p.1 = i
      · left
        rw [e, show (i - i).toNat = 0 by omega] at h2
        have h3 : x = p.2 := by simpa using h2
        rw [h3, ← e]
      · right
        refine ⟨by omega, ?_⟩
        rw [show (p.1 - i).toNat = (p.1 - (i + 1)).toNat + 1 by omega] at h2
        exact h2
/-- a loop that is left at the first that is so -/
theorem forS_all {α ρ : Type} {p : α → Bool} {v w : ρ} : ∀ (l : List α), (forS (fun (_ : Unit) (x : α) => (bif p x then Stp.rt v else Stp.nx ())) () l).fin (fun _ => w) = if l.any p then v else w
  | [] => rfl
  | x :: r => by
    rw [forS, List.any_cons]
    cases h : p x with
    | true => rfl
    | false => exact forS_all r
end PF
end
section
set_option Elab.async false
set_option linter.all false
set_option maxRecDepth 100000
set_option maxHeartbeats 4000000
/-! PGg: the program's own looks at books. -/
namespace PF
open PySem
def c_is_whole : Fd := ⟨3, 3, (.ret (.and (.prim (.isI .int) (.var 0) .nil) (.and (.not (.prim (.isI .bool) (.var 0) .nil)) (.chain .le .le (.var 1) (.var 0) (.var 2)))))⟩
def c_is_tuple_of : Fd := ⟨3, 3, (.ret (.and (.prim (.isI .tuple) (.var 0) .nil) (.chain .le .le (.var 1) (.prim .len (.var 0) .nil) (.var 2))))⟩
def c_are_whole : Fd := ⟨3, 4, (.ret (.prim .all (.lc [3] (.nm 3) (.it .seq (.cons (.var 0) .nil)) (.cst (.bool true)) (.call "is_whole" (.cons (.var 3) (.cons (.var 1) (.cons (.var 2) .nil))))) .nil))⟩
def c_ascends : Fd := ⟨1, 3, (.ret (.prim .all (.lc [1, 2] (.cons (.nm 1) (.cons (.nm 2) .nil)) (.it .zip (.cons (.var 0) (.cons (.slc true false (.var 0) (.cst (.int (1))) (.cst .none)) .nil))) (.cst (.bool true)) (.cmp .lt (.var 1) (.var 2))) .nil))⟩
def c_fits_need : Fd := ⟨3, 3, (.seq (.ite (.or (.not (.call "is_tuple_of" (.cons (.var 2) (.cons (.cst (.int (3))) (.cons (.cst (.int (3))) .nil))))) (.not (.call "are_whole" (.cons (.slc false true (.var 2) (.cst .none) (.cst (.int (2)))) (.cons (.cst (.int (0))) (.cons (.bin .sub (.var 0) (.cst (.int (1)))) .nil)))))) (.ret (.cst (.bool false))) .nop) (.ret (.and (.call "is_tuple_of" (.cons (.sub (.var 2) (.cst (.int (2)))) (.cons (.var 1) (.cons (.var 1) .nil)))) (.call "are_whole" (.cons (.sub (.var 2) (.cst (.int (2)))) (.cons (.neg (.cst (.int (3)))) (.cons (.cst (.int (3))) .nil)))))))⟩
def c_fits_book : Fd := ⟨1, 2, (.seq (.ite (.or (.not (.call "is_tuple_of" (.cons (.var 0) (.cons (.cst (.int (3))) (.cons (.cst (.int (3))) .nil))))) (.or (.not (.call "are_whole" (.cons (.slc false true (.var 0) (.cst .none) (.cst (.int (2)))) (.cons (.cst (.int (1))) (.cons (.cst (.int (3))) .nil))))) (.not (.call "is_tuple_of" (.cons (.sub (.var 0) (.cst (.int (2)))) (.cons (.cst (.int (0))) (.cons (.cst (.int (12))) .nil))))))) (.ret (.cst (.bool false))) .nop) (.ret (.and (.prim .all (.lc [1] (.nm 1) (.it .seq (.cons (.sub (.var 0) (.cst (.int (2)))) .nil)) (.cst (.bool true)) (.call "fits_need" (.cons (.sub (.var 0) (.cst (.int (0)))) (.cons (.sub (.var 0) (.cst (.int (1)))) (.cons (.var 1) .nil))))) .nil) (.call "ascends" (.cons (.sub (.var 0) (.cst (.int (2)))) .nil)))))⟩
def c_need_book : Fd := ⟨1, 1, (.ite (.not (.call "fits_book" (.cons (.var 0) .nil))) .never .nop)⟩
theorem isI_int (i : Int) : primF (.isI .int) [.int i] = some (.bool true) := rfl
theorem isI_bool (i : Int) : primF (.isI .bool) [.int i] = some (.bool false) := rfl
theorem isI_tup (l : List D) : primF (.isI .tuple) [.tuple l] = some (.bool true) := rfl
theorem r_whole {T : Tab} (h : Has T "is_whole" c_is_whole) (k : Nat) (i a b : Int) (s : St) : run T (k + 1) "is_whole" [.d (.int i), .d (.int a), .d (.int b)] s = .ok (.d (.bool (decide (a ≤ i) && decide (i ≤ b)))) s := by
  rw [run_has h _ _ _ rfl rfl]
  by_cases h1 : a ≤ i
  · simp only [c_is_whole, ↓ex_for, ↓ev_lc, ↓ev_var, ↓ev_cst, ↓ev_fnv, ↓ev_nil, ↓ev_cons, ↓ev_tup, ↓ev_lst, ↓ev_neg, ↓ev_not, ↓ev_bin, ↓ev_cmp, ↓ev_chain, ↓ev_and, ↓ev_or, ↓ev_ite, ↓ev_sub, ↓ev_slc, ↓ev_rev, ↓ev_call, ↓ev_prim, ↓ev_it, ↓ex_nop, ↓ex_seq, ↓ex_asg, ↓ex_asgs, ↓ex_frz, ↓ex_exp, ↓ex_ret, ↓ex_retN, ↓ex_ite, ↓ex_whl, ↓ex_never, ↓ex_raise_, ↓ex_sets, ↓ex_app, ↓evs_nil, ↓evs_cons, ↓bd_R, bdR_ok, ↓asD_d, ↓asT_t, ↓asL_l, ↓asR_d, ↓asB_b, getV_0, getV_s, ret_ap, rD_ap, List.set_cons_zero, List.set_cons_succ, bindT_nm_d, bindT_nm_c, bindT_cons, bindT_nil, Option.bind_some, opt_some, nown_d, nown_c, List.map_cons, List.map_nil, List.replicate, List.cons_append, List.nil_append, evP_nil, evP_cons, mkO_f, setP_cons, setP_nil, cm_gt, cm_lt, cm_ge, cm_le, cm_eq, cm_ne, cm_is, cm_isnot, cm_in, cm_notin, cmp_gt, cmp_lt, cmp_ge, cmp_le, cmp_eq, cmp_ne, tr_b, cup_0, cup_1, prim_int, pm_int, add_ii, sub_ii, hasJ_0, hasJ_s, ownJ_0, ownJ_s, ↓reduceIte, eq_self, Bool.false_eq_true, set_0, set_1, List.getElem?_cons_zero, List.getElem?_cons_succ, pm_tuple, tuple_l, pm_all, pm_isI, pm_max, pm_sset, it_seq_l, it_seq_t, it_enum_l, it_enum_t, as_len, len_l, len_t, as_sum, sub_30, sub_31, sub_32, sub_20, sub_21, short0, short1, short2, short3, short4, short5, short6, short7, short8, short9, short10, short11, short12, isI_int, isI_bool, Bool.not_false, decide_eq_true h1, Bool.true_and]
  · simp only [c_is_whole, ↓ex_for, ↓ev_lc, ↓ev_var, ↓ev_cst, ↓ev_fnv, ↓ev_nil, ↓ev_cons, ↓ev_tup, ↓ev_lst, ↓ev_neg, ↓ev_not, ↓ev_bin, ↓ev_cmp, ↓ev_chain, ↓ev_and, ↓ev_or, ↓ev_ite, ↓ev_sub, ↓ev_slc, ↓ev_rev, ↓ev_call, ↓ev_prim, ↓ev_it, ↓ex_nop, ↓ex_seq, ↓ex_asg, ↓ex_asgs, ↓ex_frz, ↓ex_exp, ↓ex_ret, ↓ex_retN, ↓ex_ite, ↓ex_whl, ↓ex_never, ↓ex_raise_, ↓ex_sets, ↓ex_app, ↓evs_nil, ↓evs_cons, ↓bd_R, bdR_ok, ↓asD_d, ↓asT_t, ↓asL_l, ↓asR_d, ↓asB_b, getV_0, getV_s, ret_ap, rD_ap, List.set_cons_zero, List.set_cons_succ, bindT_nm_d, bindT_nm_c, bindT_cons, bindT_nil, Option.bind_some, opt_some, nown_d, nown_c, List.map_cons, List.map_nil, List.replicate, List.cons_append, List.nil_append, evP_nil, evP_cons, mkO_f, setP_cons, setP_nil, cm_gt, cm_lt, cm_ge, cm_le, cm_eq, cm_ne, cm_is, cm_isnot, cm_in, cm_notin, cmp_gt, cmp_lt, cmp_ge, cmp_le, cmp_eq, cmp_ne, tr_b, cup_0, cup_1, prim_int, pm_int, add_ii, sub_ii, hasJ_0, hasJ_s, ownJ_0, ownJ_s, ↓reduceIte, eq_self, Bool.false_eq_true, set_0, set_1, List.getElem?_cons_zero, List.getElem?_cons_succ, pm_tuple, tuple_l, pm_all, pm_isI, pm_max, pm_sset, it_seq_l, it_seq_t, it_enum_l, it_enum_t, as_len, len_l, len_t, as_sum, sub_30, sub_31, sub_32, sub_20, sub_21, short0, short1, short2, short3, short4, short5, short6, short7, short8, short9, short10, short11, short12, isI_int, isI_bool, Bool.not_false, decide_eq_false h1, Bool.false_and]
theorem r_istup {T : Tab} (h : Has T "is_tuple_of" c_is_tuple_of) (k : Nat) (l : List D) (a b : Int) (s : St) : run T (k + 1) "is_tuple_of" [.d (.tuple l), .d (.int a), .d (.int b)] s = .ok (.d (.bool (decide (a ≤ l.length) && decide ((l.length : Int) ≤ b)))) s := by
  rw [run_has h _ _ _ rfl rfl]
  by_cases h1 : a ≤ l.length
  · simp only [c_is_tuple_of, ↓ex_for, ↓ev_lc, ↓ev_var, ↓ev_cst, ↓ev_fnv, ↓ev_nil, ↓ev_cons, ↓ev_tup, ↓ev_lst, ↓ev_neg, ↓ev_not, ↓ev_bin, ↓ev_cmp, ↓ev_chain, ↓ev_and, ↓ev_or, ↓ev_ite, ↓ev_sub, ↓ev_slc, ↓ev_rev, ↓ev_call, ↓ev_prim, ↓ev_it, ↓ex_nop, ↓ex_seq, ↓ex_asg, ↓ex_asgs, ↓ex_frz, ↓ex_exp, ↓ex_ret, ↓ex_retN, ↓ex_ite, ↓ex_whl, ↓ex_never, ↓ex_raise_, ↓ex_sets, ↓ex_app, ↓evs_nil, ↓evs_cons, ↓bd_R, bdR_ok, ↓asD_d, ↓asT_t, ↓asL_l, ↓asR_d, ↓asB_b, getV_0, getV_s, ret_ap, rD_ap, List.set_cons_zero, List.set_cons_succ, bindT_nm_d, bindT_nm_c, bindT_cons, bindT_nil, Option.bind_some, opt_some, nown_d, nown_c, List.map_cons, List.map_nil, List.replicate, List.cons_append, List.nil_append, evP_nil, evP_cons, mkO_f, setP_cons, setP_nil, cm_gt, cm_lt, cm_ge, cm_le, cm_eq, cm_ne, cm_is, cm_isnot, cm_in, cm_notin, cmp_gt, cmp_lt, cmp_ge, cmp_le, cmp_eq, cmp_ne, tr_b, cup_0, cup_1, prim_int, pm_int, add_ii, sub_ii, hasJ_0, hasJ_s, ownJ_0, ownJ_s, ↓reduceIte, eq_self, Bool.false_eq_true, set_0, set_1, List.getElem?_cons_zero, List.getElem?_cons_succ, pm_tuple, tuple_l, pm_all, pm_isI, pm_max, pm_sset, it_seq_l, it_seq_t, it_enum_l, it_enum_t, as_len, len_l, len_t, as_sum, sub_30, sub_31, sub_32, sub_20, sub_21, short0, short1, short2, short3, short4, short5, short6, short7, short8, short9, short10, short11, short12, isI_tup, decide_eq_true h1, Bool.true_and]
  · simp only [c_is_tuple_of, ↓ex_for, ↓ev_lc, ↓ev_var, ↓ev_cst, ↓ev_fnv, ↓ev_nil, ↓ev_cons, ↓ev_tup, ↓ev_lst, ↓ev_neg, ↓ev_not, ↓ev_bin, ↓ev_cmp, ↓ev_chain, ↓ev_and, ↓ev_or, ↓ev_ite, ↓ev_sub, ↓ev_slc, ↓ev_rev, ↓ev_call, ↓ev_prim, ↓ev_it, ↓ex_nop, ↓ex_seq, ↓ex_asg, ↓ex_asgs, ↓ex_frz, ↓ex_exp, ↓ex_ret, ↓ex_retN, ↓ex_ite, ↓ex_whl, ↓ex_never, ↓ex_raise_, ↓ex_sets, ↓ex_app, ↓evs_nil, ↓evs_cons, ↓bd_R, bdR_ok, ↓asD_d, ↓asT_t, ↓asL_l, ↓asR_d, ↓asB_b, getV_0, getV_s, ret_ap, rD_ap, List.set_cons_zero, List.set_cons_succ, bindT_nm_d, bindT_nm_c, bindT_cons, bindT_nil, Option.bind_some, opt_some, nown_d, nown_c, List.map_cons, List.map_nil, List.replicate, List.cons_append, List.nil_append, evP_nil, evP_cons, mkO_f, setP_cons, setP_nil, cm_gt, cm_lt, cm_ge, cm_le, cm_eq, cm_ne, cm_is, cm_isnot, cm_in, cm_notin, cmp_gt, cmp_lt, cmp_ge, cmp_le, cmp_eq, cmp_ne, tr_b, cup_0, cup_1, prim_int, pm_int, add_ii, sub_ii, hasJ_0, hasJ_s, ownJ_0, ownJ_s, ↓reduceIte, eq_self, Bool.false_eq_true, set_0, set_1, List.getElem?_cons_zero, List.getElem?_cons_succ, pm_tuple, tuple_l, pm_all, pm_isI, pm_max, pm_sset, it_seq_l, it_seq_t, it_enum_l, it_enum_t, as_len, len_l, len_t, as_sum, sub_30, sub_31, sub_32, sub_20, sub_21, short0, short1, short2, short3, short4, short5, short6, short7, short8, short9, short10, short11, short12, isI_tup, decide_eq_false h1, Bool.false_and]
theorem all_bools (bs : List Bool) : primF .all [.list (bs.map .bool)] = some (.bool (bs.all id)) := by
  show (if PyData.plainAll (bs.map PyData.bool) && (bs.map PyData.bool).all fits then some (PyData.bool ((bs.map PyData.bool).all PyData.truthy)) else none) = _
  have e1 : PyData.plainAll (bs.map PyData.bool) = true := W.plainAll_map bs
  have e2 : (bs.map PyData.bool).all fits = true := by
    rw [List.all_eq_true]
    intro d hd
    obtain ⟨b, _, rfl⟩ := List.mem_map.mp hd
    rfl
  rw [e1, e2]
  show some (PyData.bool ((bs.map PyData.bool).all PyData.truthy)) = _
  rw [List.all_map]
  rfl
theorem r_arewhole {T : Tab} (hw : Has T "is_whole" c_is_whole) (h : Has T "are_whole" c_are_whole) (k : Nat) (l : List Int) (hl : l.length ≤ 1000) (a b : Int) (s : St) : run T (k + 2) "are_whole" [.d (.tuple (l.map .int)), .d (.int a), .d (.int b)] s = .ok (.d (.bool (l.all fun i => decide (a ≤ i) && decide (i ≤ b)))) s := by
  have hb : ∀ i ∈ l, lcBody (run T (k + 1)) [3] (.nm 3) (.cst (.bool true)) (.call "is_whole" (.cons (.var 3) (.cons (.var 1) (.cons (.var 2) .nil)))) [some (.d (.tuple (l.map .int))), some (.d (.int a)), some (.d (.int b)), none] (.int i) s = .ok (some (.bool (decide (a ≤ i) && decide (i ≤ b)))) s := by
    intro i _
    simp only [lcBody, wipe, ↓ex_for, ↓ev_lc, ↓ev_var, ↓ev_cst, ↓ev_fnv, ↓ev_nil, ↓ev_cons, ↓ev_tup, ↓ev_lst, ↓ev_neg, ↓ev_not, ↓ev_bin, ↓ev_cmp, ↓ev_chain, ↓ev_and, ↓ev_or, ↓ev_ite, ↓ev_sub, ↓ev_slc, ↓ev_rev, ↓ev_call, ↓ev_prim, ↓ev_it, ↓ex_nop, ↓ex_seq, ↓ex_asg, ↓ex_asgs, ↓ex_frz, ↓ex_exp, ↓ex_ret, ↓ex_retN, ↓ex_ite, ↓ex_whl, ↓ex_never, ↓ex_raise_, ↓ex_sets, ↓ex_app, ↓evs_nil, ↓evs_cons, ↓bd_R, bdR_ok, ↓asD_d, ↓asT_t, ↓asL_l, ↓asR_d, ↓asB_b, getV_0, getV_s, ret_ap, rD_ap, List.set_cons_zero, List.set_cons_succ, bindT_nm_d, bindT_nm_c, bindT_cons, bindT_nil, Option.bind_some, opt_some, nown_d, nown_c, List.map_cons, List.map_nil, List.replicate, List.cons_append, List.nil_append, evP_nil, evP_cons, mkO_f, setP_cons, setP_nil, cm_gt, cm_lt, cm_ge, cm_le, cm_eq, cm_ne, cm_is, cm_isnot, cm_in, cm_notin, cmp_gt, cmp_lt, cmp_ge, cmp_le, cmp_eq, cmp_ne, tr_b, cup_0, cup_1, prim_int, pm_int, add_ii, sub_ii, hasJ_0, hasJ_s, ownJ_0, ownJ_s, ↓reduceIte, eq_self, Bool.false_eq_true, set_0, set_1, List.getElem?_cons_zero, List.getElem?_cons_succ, pm_tuple, tuple_l, pm_all, pm_isI, pm_max, pm_sset, it_seq_l, it_seq_t, it_enum_l, it_enum_t, as_len, len_l, len_t, as_sum, sub_30, sub_31, sub_32, sub_20, sub_21, short0, short1, short2, short3, short4, short5, short6, short7, short8, short9, short10, short11, short12, r_whole hw]
  have hlc := lc_map (fun i : Int => decide (a ≤ i) && decide (i ≤ b)) PyData.int PyData.bool hb
  have sh : short ((l.map fun i : Int => decide (a ≤ i) && decide (i ≤ b)).map PyData.bool) = ret _ := short_ok (by rw [List.length_map, List.length_map]; unfold line; omega)
  rw [run_has h _ _ _ rfl rfl]
  simp only [c_are_whole, ↓ex_for, ↓ev_lc, ↓ev_var, ↓ev_cst, ↓ev_fnv, ↓ev_nil, ↓ev_cons, ↓ev_tup, ↓ev_lst, ↓ev_neg, ↓ev_not, ↓ev_bin, ↓ev_cmp, ↓ev_chain, ↓ev_and, ↓ev_or, ↓ev_ite, ↓ev_sub, ↓ev_slc, ↓ev_rev, ↓ev_call, ↓ev_prim, ↓ev_it, ↓ex_nop, ↓ex_seq, ↓ex_asg, ↓ex_asgs, ↓ex_frz, ↓ex_exp, ↓ex_ret, ↓ex_retN, ↓ex_ite, ↓ex_whl, ↓ex_never, ↓ex_raise_, ↓ex_sets, ↓ex_app, ↓evs_nil, ↓evs_cons, ↓bd_R, bdR_ok, ↓asD_d, ↓asT_t, ↓asL_l, ↓asR_d, ↓asB_b, getV_0, getV_s, ret_ap, rD_ap, List.set_cons_zero, List.set_cons_succ, bindT_nm_d, bindT_nm_c, bindT_cons, bindT_nil, Option.bind_some, opt_some, nown_d, nown_c, List.map_cons, List.map_nil, List.replicate, List.cons_append, List.nil_append, evP_nil, evP_cons, mkO_f, setP_cons, setP_nil, cm_gt, cm_lt, cm_ge, cm_le, cm_eq, cm_ne, cm_is, cm_isnot, cm_in, cm_notin, cmp_gt, cmp_lt, cmp_ge, cmp_le, cmp_eq, cmp_ne, tr_b, cup_0, cup_1, prim_int, pm_int, add_ii, sub_ii, hasJ_0, hasJ_s, ownJ_0, ownJ_s, ↓reduceIte, eq_self, Bool.false_eq_true, set_0, set_1, List.getElem?_cons_zero, List.getElem?_cons_succ, pm_tuple, tuple_l, pm_all, pm_isI, pm_max, pm_sset, it_seq_l, it_seq_t, it_enum_l, it_enum_t, as_len, len_l, len_t, as_sum, sub_30, sub_31, sub_32, sub_20, sub_21, short0, short1, short2, short3, short4, short5, short6, short7, short8, short9, short10, short11, short12, noexc_ap hlc, sh, all_bools, List.all_map]
  rfl
theorem r_fitsneed {T : Tab} (hw : Has T "is_whole" c_is_whole) (ht : Has T "is_tuple_of" c_is_tuple_of) (ha : Has T "are_whole" c_are_whole) (h : Has T "fits_need" c_fits_need) (k : Nat) {q c : Int} {n : Need} (ok : NeedOk q c n) (hc : c ≤ 100) (s : St) :
    run T (k + 3) "fits_need" [.d (.int q), .d (.int c), .d (ne n)] s = .ok (.d (.bool true)) s := by
  have e1 := r_istup ht (k + 1) [.int n.a, .int n.b, .tuple (n.c.items.map .int)] 3 3 s
  have e2 := r_arewhole hw ha k [n.a, n.b] (show 2 ≤ 1000 by decide) 0 (q - 1) s
  have e3 := r_istup ht (k + 1) (n.c.items.map .int) c c s
  have e4 := r_arewhole hw ha k n.c.items (by have := ok.len; omega) (-3) 3 s
  have b1 : (decide ((3 : Int) ≤ ([PyData.int n.a, .int n.b, .tuple (n.c.items.map .int)] : List D).length) && decide ((([PyData.int n.a, .int n.b, .tuple (n.c.items.map .int)] : List D).length : Int) ≤ 3)) = true := rfl
  have b2 : ([n.a, n.b].all fun i => decide (0 ≤ i) && decide (i ≤ q - 1)) = true := by
    have := ok.a0; have := ok.a1; have := ok.b0; have := ok.b1
    simp only [List.all_cons, List.all_nil, Bool.and_true, Bool.and_eq_true, decide_eq_true_eq]
    omega
  have b3 : (decide (c ≤ ((n.c.items.map PyData.int).length : Int)) && decide (((n.c.items.map PyData.int).length : Int) ≤ c)) = true := by
    rw [List.length_map]
    have := ok.len
    simp only [Bool.and_eq_true, decide_eq_true_eq]
    omega
  have b4 : (n.c.items.all fun i => decide (-3 ≤ i) && decide (i ≤ 3)) = true := by
    rw [List.all_eq_true]
    intro x hx
    have := ok.ent x hx
    simp only [Bool.and_eq_true, decide_eq_true_eq]
    omega
  rw [b1] at e1
  rw [b2] at e2
  rw [b3] at e3
  rw [b4] at e4
  simp only [List.map_cons, List.map_nil] at e2
  rw [run_has h _ _ _ rfl rfl]
  simp only [c_fits_need, ↓ex_for, ↓ev_lc, ↓ev_var, ↓ev_cst, ↓ev_fnv, ↓ev_nil, ↓ev_cons, ↓ev_tup, ↓ev_lst, ↓ev_neg, ↓ev_not, ↓ev_bin, ↓ev_cmp, ↓ev_chain, ↓ev_and, ↓ev_or, ↓ev_ite, ↓ev_sub, ↓ev_slc, ↓ev_rev, ↓ev_call, ↓ev_prim, ↓ev_it, ↓ex_nop, ↓ex_seq, ↓ex_asg, ↓ex_asgs, ↓ex_frz, ↓ex_exp, ↓ex_ret, ↓ex_retN, ↓ex_ite, ↓ex_whl, ↓ex_never, ↓ex_raise_, ↓ex_sets, ↓ex_app, ↓evs_nil, ↓evs_cons, ↓bd_R, bdR_ok, ↓asD_d, ↓asT_t, ↓asL_l, ↓asR_d, ↓asB_b, getV_0, getV_s, ret_ap, rD_ap, List.set_cons_zero, List.set_cons_succ, bindT_nm_d, bindT_nm_c, bindT_cons, bindT_nil, Option.bind_some, opt_some, nown_d, nown_c, List.map_cons, List.map_nil, List.replicate, List.cons_append, List.nil_append, evP_nil, evP_cons, mkO_f, setP_cons, setP_nil, cm_gt, cm_lt, cm_ge, cm_le, cm_eq, cm_ne, cm_is, cm_isnot, cm_in, cm_notin, cmp_gt, cmp_lt, cmp_ge, cmp_le, cmp_eq, cmp_ne, tr_b, cup_0, cup_1, prim_int, pm_int, add_ii, sub_ii, hasJ_0, hasJ_s, ownJ_0, ownJ_s, ↓reduceIte, eq_self, Bool.false_eq_true, set_0, set_1, List.getElem?_cons_zero, List.getElem?_cons_succ, pm_tuple, tuple_l, pm_all, pm_isI, pm_max, pm_sset, it_seq_l, it_seq_t, it_enum_l, it_enum_t, as_len, len_l, len_t, as_sum, sub_30, sub_31, sub_32, sub_20, sub_21, short0, short1, short2, short3, short4, short5, short6, short7, short8, short9, short10, short11, short12, ne, e1, e2, e3, e4, boundF, cut_32, Bool.not_true]
theorem cut_1n (l : List D) : cutD (.tuple l) (some 1) none = some (.tuple (l.drop 1)) := by
  show some (PyData.tuple (cutL l (some 1) none)) = _
  unfold cutL HT.sIx
  cases l with
  | nil => rfl
  | cons x r =>
    simp
theorem zip_tail_lt {α : Type} {lt : α → α → Bool} : ∀ {l : List α}, l.Pairwise (fun x y => lt x y = true) → ∀ p ∈ l.zip (l.drop 1), lt p.1 p.2 = true
  | [], _, p, h => nomatch h
  | [_], _, p, h => nomatch h
  | a :: b :: r, hp, p, h => by
    rw [List.pairwise_cons] at hp
    have h' : p ∈ (a, b) :: (b :: r).zip ((b :: r).drop 1) := h
    rcases List.mem_cons.mp h' with rfl | h2
    · exact hp.1 b List.mem_cons_self
    · exact zip_tail_lt hp.2 p h2
theorem r_ascends {T : Tab} (h : Has T "ascends" c_ascends) (k : Nat) (l : List Need) (hl : l.length ≤ 1000) (hp : l.Pairwise fun x y => W.DatumOrd.lt x y = true) (s : St) : run T (k + 1) "ascends" [.d (.tuple (l.map ne))] s = .ok (.d (.bool true)) s := by
  have hb : ∀ p ∈ l.zip (l.drop 1), lcBody (run T k) [1, 2] (.cons (.nm 1) (.cons (.nm 2) .nil)) (.cst (.bool true)) (.cmp .lt (.var 1) (.var 2)) [some (.d (.tuple (l.map ne))), none, none] (.tuple [ne p.1, ne p.2]) s = .ok (some (.bool true)) s := by
    intro p hp2
    have e1 : cmpF .lt (ne p.1) (ne p.2) = some true := (ltF_d (α := Need) (by decide) p.1 p.2).trans (by rw [zip_tail_lt hp p hp2])
    simp only [lcBody, wipe, ↓ex_for, ↓ev_lc, ↓ev_var, ↓ev_cst, ↓ev_fnv, ↓ev_nil, ↓ev_cons, ↓ev_tup, ↓ev_lst, ↓ev_neg, ↓ev_not, ↓ev_bin, ↓ev_cmp, ↓ev_chain, ↓ev_and, ↓ev_or, ↓ev_ite, ↓ev_sub, ↓ev_slc, ↓ev_rev, ↓ev_call, ↓ev_prim, ↓ev_it, ↓ex_nop, ↓ex_seq, ↓ex_asg, ↓ex_asgs, ↓ex_frz, ↓ex_exp, ↓ex_ret, ↓ex_retN, ↓ex_ite, ↓ex_whl, ↓ex_never, ↓ex_raise_, ↓ex_sets, ↓ex_app, ↓evs_nil, ↓evs_cons, ↓bd_R, bdR_ok, ↓asD_d, ↓asT_t, ↓asL_l, ↓asR_d, ↓asB_b, getV_0, getV_s, ret_ap, rD_ap, List.set_cons_zero, List.set_cons_succ, bindT_nm_d, bindT_nm_c, bindT_cons, bindT_nil, Option.bind_some, opt_some, nown_d, nown_c, List.map_cons, List.map_nil, List.replicate, List.cons_append, List.nil_append, evP_nil, evP_cons, mkO_f, setP_cons, setP_nil, cm_gt, cm_lt, cm_ge, cm_le, cm_eq, cm_ne, cm_is, cm_isnot, cm_in, cm_notin, cmp_gt, cmp_lt, cmp_ge, cmp_le, cmp_eq, cmp_ne, tr_b, cup_0, cup_1, prim_int, pm_int, add_ii, sub_ii, hasJ_0, hasJ_s, ownJ_0, ownJ_s, ↓reduceIte, eq_self, Bool.false_eq_true, set_0, set_1, List.getElem?_cons_zero, List.getElem?_cons_succ, pm_tuple, tuple_l, pm_all, pm_isI, pm_max, pm_sset, it_seq_l, it_seq_t, it_enum_l, it_enum_t, as_len, len_l, len_t, as_sum, sub_30, sub_31, sub_32, sub_20, sub_21, short0, short1, short2, short3, short4, short5, short6, short7, short8, short9, short10, short11, short12, e1]
  have hlc := lc_map (fun _ : Need × Need => true) (fun p => .tuple [ne p.1, ne p.2]) PyData.bool hb
  have hz := zip2 ne ne l (l.drop 1)
  have sh : short (((l.zip (l.drop 1)).map fun _ : Need × Need => true).map PyData.bool) = ret _ := short_ok (by rw [List.length_map, List.length_map, List.length_zip]; unfold line; omega)
  have ha : (((l.zip (l.drop 1)).map fun _ : Need × Need => true).all id) = true := by
    rw [List.all_map, List.all_eq_true]
    intro _ _
    rfl
  rw [List.map_drop] at hz
  rw [run_has h _ _ _ rfl rfl]
  simp only [c_ascends, ↓ex_for, ↓ev_lc, ↓ev_var, ↓ev_cst, ↓ev_fnv, ↓ev_nil, ↓ev_cons, ↓ev_tup, ↓ev_lst, ↓ev_neg, ↓ev_not, ↓ev_bin, ↓ev_cmp, ↓ev_chain, ↓ev_and, ↓ev_or, ↓ev_ite, ↓ev_sub, ↓ev_slc, ↓ev_rev, ↓ev_call, ↓ev_prim, ↓ev_it, ↓ex_nop, ↓ex_seq, ↓ex_asg, ↓ex_asgs, ↓ex_frz, ↓ex_exp, ↓ex_ret, ↓ex_retN, ↓ex_ite, ↓ex_whl, ↓ex_never, ↓ex_raise_, ↓ex_sets, ↓ex_app, ↓evs_nil, ↓evs_cons, ↓bd_R, bdR_ok, ↓asD_d, ↓asT_t, ↓asL_l, ↓asR_d, ↓asB_b, getV_0, getV_s, ret_ap, rD_ap, List.set_cons_zero, List.set_cons_succ, bindT_nm_d, bindT_nm_c, bindT_cons, bindT_nil, Option.bind_some, opt_some, nown_d, nown_c, List.map_cons, List.map_nil, List.replicate, List.cons_append, List.nil_append, evP_nil, evP_cons, mkO_f, setP_cons, setP_nil, cm_gt, cm_lt, cm_ge, cm_le, cm_eq, cm_ne, cm_is, cm_isnot, cm_in, cm_notin, cmp_gt, cmp_lt, cmp_ge, cmp_le, cmp_eq, cmp_ne, tr_b, cup_0, cup_1, prim_int, pm_int, add_ii, sub_ii, hasJ_0, hasJ_s, ownJ_0, ownJ_s, ↓reduceIte, eq_self, Bool.false_eq_true, set_0, set_1, List.getElem?_cons_zero, List.getElem?_cons_succ, pm_tuple, tuple_l, pm_all, pm_isI, pm_max, pm_sset, it_seq_l, it_seq_t, it_enum_l, it_enum_t, as_len, len_l, len_t, as_sum, sub_30, sub_31, sub_32, sub_20, sub_21, short0, short1, short2, short3, short4, short5, short6, short7, short8, short9, short10, short11, short12, boundF, cut_1n, it_zip, hz, noexc_ap hlc, sh, all_bools, ha]
theorem r_fitsbook {T : Tab} (hw : Has T "is_whole" c_is_whole) (ht : Has T "is_tuple_of" c_is_tuple_of) (ha : Has T "are_whole" c_are_whole) (hn : Has T "fits_need" c_fits_need) (hs : Has T "ascends" c_ascends) (h : Has T "fits_book" c_fits_book) (k : Nat) {b : Book} {w : Nat} (ok : BookN w b) (s : St) (hw12 : w ≤ 12 := by decide) :
    run T (k + 4) "fits_book" [.d (bo b)] s = .ok (.d (.bool true)) s := by
  have e1 := r_istup ht (k + 2) [.int b.a, .int b.b, .tuple (b.c.items.map ne)] 3 3 s
  have e2 := r_arewhole hw ha (k + 1) [b.a, b.b] (show 2 ≤ 1000 by decide) 1 3 s
  have e3 := r_istup ht (k + 2) (b.c.items.map ne) 0 12 s
  have hl := ok.len
  have e4 := r_ascends hs (k + 2) b.c.items (by omega) ok.asc s
  have b1 : (decide ((3 : Int) ≤ ([PyData.int b.a, .int b.b, .tuple (b.c.items.map ne)] : List D).length) && decide ((([PyData.int b.a, .int b.b, .tuple (b.c.items.map ne)] : List D).length : Int) ≤ 3)) = true := rfl
  have b2 : ([b.a, b.b].all fun i => decide (1 ≤ i) && decide (i ≤ 3)) = true := by
    have := ok.q0; have := ok.q1; have := ok.c0; have := ok.c1
    simp only [List.all_cons, List.all_nil, Bool.and_true, Bool.and_eq_true, decide_eq_true_eq]
    omega
  have b3 : (decide ((0 : Int) ≤ ((b.c.items.map ne).length : Int)) && decide (((b.c.items.map ne).length : Int) ≤ 12)) = true := by
    rw [List.length_map]
    simp only [Bool.and_eq_true, decide_eq_true_eq]
    omega
  rw [b1] at e1
  rw [b2] at e2
  rw [b3] at e3
  have hb : ∀ n ∈ b.c.items, lcBody (run T (k + 3)) [1] (.nm 1) (.cst (.bool true)) (.call "fits_need" (.cons (.sub (.var 0) (.cst (.int (0)))) (.cons (.sub (.var 0) (.cst (.int (1)))) (.cons (.var 1) .nil)))) [some (.d (bo b)), none] (ne n) s = .ok (some (.bool true)) s := by
    intro n hn2
    have e := r_fitsneed hw ht ha hn k (ok.ok n hn2) (by have := ok.c1; omega) s
    simp only [lcBody, wipe, ↓ex_for, ↓ev_lc, ↓ev_var, ↓ev_cst, ↓ev_fnv, ↓ev_nil, ↓ev_cons, ↓ev_tup, ↓ev_lst, ↓ev_neg, ↓ev_not, ↓ev_bin, ↓ev_cmp, ↓ev_chain, ↓ev_and, ↓ev_or, ↓ev_ite, ↓ev_sub, ↓ev_slc, ↓ev_rev, ↓ev_call, ↓ev_prim, ↓ev_it, ↓ex_nop, ↓ex_seq, ↓ex_asg, ↓ex_asgs, ↓ex_frz, ↓ex_exp, ↓ex_ret, ↓ex_retN, ↓ex_ite, ↓ex_whl, ↓ex_never, ↓ex_raise_, ↓ex_sets, ↓ex_app, ↓evs_nil, ↓evs_cons, ↓bd_R, bdR_ok, ↓asD_d, ↓asT_t, ↓asL_l, ↓asR_d, ↓asB_b, getV_0, getV_s, ret_ap, rD_ap, List.set_cons_zero, List.set_cons_succ, bindT_nm_d, bindT_nm_c, bindT_cons, bindT_nil, Option.bind_some, opt_some, nown_d, nown_c, List.map_cons, List.map_nil, List.replicate, List.cons_append, List.nil_append, evP_nil, evP_cons, mkO_f, setP_cons, setP_nil, cm_gt, cm_lt, cm_ge, cm_le, cm_eq, cm_ne, cm_is, cm_isnot, cm_in, cm_notin, cmp_gt, cmp_lt, cmp_ge, cmp_le, cmp_eq, cmp_ne, tr_b, cup_0, cup_1, prim_int, pm_int, add_ii, sub_ii, hasJ_0, hasJ_s, ownJ_0, ownJ_s, ↓reduceIte, eq_self, Bool.false_eq_true, set_0, set_1, List.getElem?_cons_zero, List.getElem?_cons_succ, pm_tuple, tuple_l, pm_all, pm_isI, pm_max, pm_sset, it_seq_l, it_seq_t, it_enum_l, it_enum_t, as_len, len_l, len_t, as_sum, sub_30, sub_31, sub_32, sub_20, sub_21, short0, short1, short2, short3, short4, short5, short6, short7, short8, short9, short10, short11, short12, bo, e]
  have hlc := lc_map (fun _ : Need => true) ne PyData.bool hb
  have sh : short ((b.c.items.map fun _ : Need => true).map PyData.bool) = ret _ := short_ok (by rw [List.length_map, List.length_map]; unfold line; omega)
  have hall : ((b.c.items.map fun _ : Need => true).all id) = true := by
    rw [List.all_map, List.all_eq_true]
    intro _ _
    rfl
  simp only [List.map_cons, List.map_nil] at e2
  simp only [bo] at hlc ⊢
  rw [run_has h _ _ _ rfl rfl]
  simp only [c_fits_book, ↓ex_for, ↓ev_lc, ↓ev_var, ↓ev_cst, ↓ev_fnv, ↓ev_nil, ↓ev_cons, ↓ev_tup, ↓ev_lst, ↓ev_neg, ↓ev_not, ↓ev_bin, ↓ev_cmp, ↓ev_chain, ↓ev_and, ↓ev_or, ↓ev_ite, ↓ev_sub, ↓ev_slc, ↓ev_rev, ↓ev_call, ↓ev_prim, ↓ev_it, ↓ex_nop, ↓ex_seq, ↓ex_asg, ↓ex_asgs, ↓ex_frz, ↓ex_exp, ↓ex_ret, ↓ex_retN, ↓ex_ite, ↓ex_whl, ↓ex_never, ↓ex_raise_, ↓ex_sets, ↓ex_app, ↓evs_nil, ↓evs_cons, ↓bd_R, bdR_ok, ↓asD_d, ↓asT_t, ↓asL_l, ↓asR_d, ↓asB_b, getV_0, getV_s, ret_ap, rD_ap, List.set_cons_zero, List.set_cons_succ, bindT_nm_d, bindT_nm_c, bindT_cons, bindT_nil, Option.bind_some, opt_some, nown_d, nown_c, List.map_cons, List.map_nil, List.replicate, List.cons_append, List.nil_append, evP_nil, evP_cons, mkO_f, setP_cons, setP_nil, cm_gt, cm_lt, cm_ge, cm_le, cm_eq, cm_ne, cm_is, cm_isnot, cm_in, cm_notin, cmp_gt, cmp_lt, cmp_ge, cmp_le, cmp_eq, cmp_ne, tr_b, cup_0, cup_1, prim_int, pm_int, add_ii, sub_ii, hasJ_0, hasJ_s, ownJ_0, ownJ_s, ↓reduceIte, eq_self, Bool.false_eq_true, set_0, set_1, List.getElem?_cons_zero, List.getElem?_cons_succ, pm_tuple, tuple_l, pm_all, pm_isI, pm_max, pm_sset, it_seq_l, it_seq_t, it_enum_l, it_enum_t, as_len, len_l, len_t, as_sum, sub_30, sub_31, sub_32, sub_20, sub_21, short0, short1, short2, short3, short4, short5, short6, short7, short8, short9, short10, short11, short12, e1, e2, e3, e4, boundF, cut_32, Bool.not_true, noexc_ap hlc, sh, all_bools, hall]
theorem r_needbook {T : Tab} (hw : Has T "is_whole" c_is_whole) (ht : Has T "is_tuple_of" c_is_tuple_of) (ha : Has T "are_whole" c_are_whole) (hn : Has T "fits_need" c_fits_need) (hs : Has T "ascends" c_ascends) (hf : Has T "fits_book" c_fits_book) (h : Has T "need_book" c_need_book) (k : Nat) {b : Book} {w : Nat} (ok : BookN w b) (s : St) (hw12 : w ≤ 12 := by decide) :
    run T (k + 5) "need_book" [.d (bo b)] s = .ok (.d .none) s := by
  have e := r_fitsbook hw ht ha hn hs hf k ok s hw12
  rw [run_has h _ _ _ rfl rfl]
  simp only [c_need_book, ↓ex_for, ↓ev_lc, ↓ev_var, ↓ev_cst, ↓ev_fnv, ↓ev_nil, ↓ev_cons, ↓ev_tup, ↓ev_lst, ↓ev_neg, ↓ev_not, ↓ev_bin, ↓ev_cmp, ↓ev_chain, ↓ev_and, ↓ev_or, ↓ev_ite, ↓ev_sub, ↓ev_slc, ↓ev_rev, ↓ev_call, ↓ev_prim, ↓ev_it, ↓ex_nop, ↓ex_seq, ↓ex_asg, ↓ex_asgs, ↓ex_frz, ↓ex_exp, ↓ex_ret, ↓ex_retN, ↓ex_ite, ↓ex_whl, ↓ex_never, ↓ex_raise_, ↓ex_sets, ↓ex_app, ↓evs_nil, ↓evs_cons, ↓bd_R, bdR_ok, ↓asD_d, ↓asT_t, ↓asL_l, ↓asR_d, ↓asB_b, getV_0, getV_s, ret_ap, rD_ap, List.set_cons_zero, List.set_cons_succ, bindT_nm_d, bindT_nm_c, bindT_cons, bindT_nil, Option.bind_some, opt_some, nown_d, nown_c, List.map_cons, List.map_nil, List.replicate, List.cons_append, List.nil_append, evP_nil, evP_cons, mkO_f, setP_cons, setP_nil, cm_gt, cm_lt, cm_ge, cm_le, cm_eq, cm_ne, cm_is, cm_isnot, cm_in, cm_notin, cmp_gt, cmp_lt, cmp_ge, cmp_le, cmp_eq, cmp_ne, tr_b, cup_0, cup_1, prim_int, pm_int, add_ii, sub_ii, hasJ_0, hasJ_s, ownJ_0, ownJ_s, ↓reduceIte, eq_self, Bool.false_eq_true, set_0, set_1, List.getElem?_cons_zero, List.getElem?_cons_succ, pm_tuple, tuple_l, pm_all, pm_isI, pm_max, pm_sset, it_seq_l, it_seq_t, it_enum_l, it_enum_t, as_len, len_l, len_t, as_sum, sub_30, sub_31, sub_32, sub_20, sub_21, short0, short1, short2, short3, short4, short5, short6, short7, short8, short9, short10, short11, short12, e, Bool.not_true]
end PF
end
section
set_option Elab.async false
set_option linter.all false
set_option maxRecDepth 100000
set_option maxHeartbeats 4000000
/-! PD: looks at any value. -/
namespace PF
open PySem
open W (Tup T3 T4 Datum DatumOrd SomeDatum)
section
variable {G : Str → List Vl → M Vl} {e e' : Env} {s : St}
theorem p_isI {t : Ty} {a : CE} {v : D} (h : Ep G e s a (.d v)) : Ep G e s (.prim (.isI t) a .nil) (tv (isTy t v)) := p_prim h p_nil rfl
theorem p_isI' {t : Ty} {a : CE} {v : D} {b : Bool} (h : Ep G e s a (.d v)) (q : isTy t v = b) : Ep G e s (.prim (.isI t) a .nil) (tv b) := q ▸ p_isI h
theorem p_notE {a : CE} {b c : Bool} (h : Ep G e s a (tv b)) (q : (!b) = c) : Ep G e s (.not a) (tv c) := q ▸ p_not h
theorem p_andF {a b : CE} (h : Ep G e s a (tv false)) : Ep G e s (.and a b) (tv false) := pS_andF h
theorem p_andT {a b : CE} {v : Vl} (h : Ep G e s a (tv true)) (k : Ep G e s b v) : Ep G e s (.and a b) v := pS_andT h k
theorem p_orT {a b : CE} (h : Ep G e s a (tv true)) : Ep G e s (.or a b) (tv true) := pS_orT h
theorem p_orF {a b : CE} {v : Vl} (h : Ep G e s a (tv false)) (k : Ep G e s b v) : Ep G e s (.or a b) v := pS_orF h k
theorem p_lenD {a : CE} {l : List D} (h : Ep G e s a (.d (.tuple l))) : Ep G e s (.prim .len a .nil) (tv (l.length : Int)) := p_prim h p_nil rfl
theorem i_D {a : CE} {l : List D} (h : Ep G e s a (.d (.tuple l))) : EpI G e s (.it .seq (.cons a .nil)) l := p_it (p_cons h p_nil) rfl
/-- a comprehension over any values -/
theorem p_lcD {β : Type} [DecidableEq β] [Datum β] {own : List Nat} {g : Tg} {src elt : CE} {l : List D} {f : D → β} {E : D → Env} (h : EpI G e s src l) (hb : ∀ x, bindT g (.d x) (wipe e own) = some (E x)) (hf : ∀ x ∈ l, Ep G (E x) s elt (tv (f x))) (hl : l.length ≤ line) :
    Ep G e s (.lc own g src (.cst (.bool true)) elt) (tv (l.map f)) := by
  show ev G _ e s = _
  rw [ev_lc]
  refine bd_go h ?_
  have key := lc_map (F := lcBody G own g (.cst (.bool true)) elt e) (s := s) (l := l) f (fun x => x) Datum.toD fun a ha => by
    unfold lcBody
    refine bd_go (m := opt _) (show _ = R.ok (E a) s by rw [hb a]; rfl) (bd_go (m := ev G (.cst (.bool true)) (E a)) (p_bool true) ?_)
    exact bd_go (a := true) (s' := s) rfl (bd_go (hf a ha) rfl)
  rw [List.map_id'] at key
  refine bd_go (noexc_ok key) ?_
  rw [short_ok (by rw [List.length_map, List.length_map]; exact hl)]
  rfl
/-- those of any values that are so -/
theorem p_lcfD {own : List Nat} {i : Nat} {src tst : CE} {l : List D} {p : D → Bool} {E : D → Env} (h : EpI G e s src l) (hb : ∀ x, bindT (.nm i) (.d x) (wipe e own) = some (E x)) (hv : ∀ x, (E x)[i]? = some (some (.d x))) (ht : ∀ x ∈ l, Ep G (E x) s tst (tv (p x))) (hl : l.length ≤ line) :
    Ep G e s (.lc own (.nm i) src tst (.var i)) (.d (.list (l.filter p))) := by
  show ev G _ e s = _
  rw [ev_lc]
  refine bd_go h ?_
  have key := lc_pure (F := lcBody G own (.nm i) tst (.var i) e) (s := s) (l := l) (fun a => if p a then some a else none) (fun x => x) (fun x => x) fun a ha => by
    unfold lcBody
    refine bd_go (m := opt _) (show _ = R.ok (E a) s by rw [hb a]; rfl) (bd_go (ht a ha) ?_)
    show bd (truth (.d (.bool (p a)))) _ s = _
    cases q : p a with
    | true => exact bd_go (a := true) (s' := s) rfl (bd_go (m := ev G (.var i) (E a)) (p_var (hv a)) rfl)
    | false => rfl
  have ef : l.filterMap (fun a => if p a then some a else none) = l.filter p := by
    clear h hb ht hl key
    induction l with
    | nil => rfl
    | cons a l ih =>
      rw [List.filterMap_cons, List.filter_cons]
      cases p a with
      | true => simp only [if_true]; rw [← ih]
      | false => exact ih
  rw [ef, List.map_id', List.map_id'] at key
  refine bd_go (noexc_ok key) ?_
  rw [short_ok (Nat.le_trans (List.length_filter_le _ _) hl)]
  rfl
theorem eqF_nil (l : List D) (h : PyData.plainAll l = true) : eqF (.list l) (.list []) = some (decide (l = [])) := by
  unfold eqF
  have e1 : (PyData.list l).plain = true := by simp only [PyData.plain]; exact h
  have e2 : (PyData.list []).plain = true := rfl
  have e3 : min (PyData.list l).depth (PyData.list []).depth ≤ 64 := Nat.le_trans (Nat.min_le_right _ _) (by decide)
  rw [e1, e2, decide_eq_true e3]
  cases l with
  | nil => rfl
  | cons a l => simp [PyData.eqv, PyData.eqvAll]
end
def wholeB (lo hi : Int) : D → Bool
  | .int i => decide (lo ≤ i) && decide (i ≤ hi)
  | _ => false
def tupB (lo hi : Int) : D → Bool
  | .tuple l => decide (lo ≤ (l.length : Int)) && decide ((l.length : Int) ≤ hi)
  | _ => false
def rowB (c lo hi : Int) : D → Bool
  | .tuple l => decide ((l.length : Int) = c) && l.all (wholeB lo hi)
  | _ => false
def placeB (q c : Int) : D → Bool
  | .tuple [x, y] => wholeB 0 (q - 1) x && rowB c 0 1000000 y
  | _ => false
section
variable {T : Tab} {n : Nat} {s : St}
theorem whole_t (h : Has T "is_whole" c_is_whole) (hn : 1 ≤ n) (v : D) (lo hi : Int) : run T n "is_whole" [.d v, tv lo, tv hi] s = .ok (tv (wholeB lo hi v)) s :=
  run_d h (by omega) rfl rfl fun m hm => (show Xs (run T m) [some (.d v), some (tv lo), some (tv hi)] s c_is_whole.body (.rt (tv (wholeB lo hi v))) from by
    cases v with
    | int i => exact x_ret (p_andT (p_isI' (p_var rfl) rfl) (p_andT (p_notE (p_isI' (p_var rfl) rfl) rfl) (p_chain (p_var (v := tv lo) rfl) (p_var (v := tv i) rfl) (p_var (v := tv hi) rfl) (cmp_le _ _) (cmp_le _ _))))
    | bool b => exact x_ret (p_andT (p_isI' (p_var rfl) rfl) (p_andF (p_notE (p_isI' (p_var rfl) rfl) rfl)))
    | _ => exact x_ret (p_andF (p_isI' (p_var rfl) rfl)))
theorem tupof_t (h : Has T "is_tuple_of" c_is_tuple_of) (hn : 1 ≤ n) (v : D) (lo hi : Int) : run T n "is_tuple_of" [.d v, tv lo, tv hi] s = .ok (tv (tupB lo hi v)) s :=
  run_d h (by omega) rfl rfl fun m hm => (show Xs (run T m) [some (.d v), some (tv lo), some (tv hi)] s c_is_tuple_of.body (.rt (tv (tupB lo hi v))) from by
    cases v with
    | tuple l => exact x_ret (p_andT (p_isI' (p_var rfl) rfl) (p_chain (p_var (v := tv lo) rfl) (p_lenD (p_var rfl)) (p_var (v := tv hi) rfl) (cmp_le _ _) (cmp_le _ _)))
    | _ => exact x_ret (p_andF (p_isI' (p_var rfl) rfl)))
theorem arewhole_t (hw : Has T "is_whole" c_is_whole) (h : Has T "are_whole" c_are_whole) (hn : 2 ≤ n) (l : List D) (hl : l.length ≤ 1000) (lo hi : Int) : run T n "are_whole" [.d (.tuple l), tv lo, tv hi] s = .ok (tv (l.all (wholeB lo hi))) s :=
  run_d h (by omega) rfl rfl fun m hm => (show Xs (run T m) [some (.d (.tuple l)), some (tv lo), some (tv hi), none] s c_are_whole.body (.rt (tv (l.all (wholeB lo hi)))) from by
    have e : l.all (wholeB lo hi) = (l.map (wholeB lo hi)).all id := by rw [List.all_map]; rfl
    rw [e]
    exact x_ret (p_all (p_lcD (f := wholeB lo hi) (i_D (p_var rfl)) (fun _ => rfl) (fun x hx => p_call (p_ac (p_var (v := .d x) rfl) (p_ac (p_var (v := tv lo) rfl) (p_ac (p_var (v := tv hi) rfl) p_a0))) (whole_t hw (by omega) x lo hi)) (by unfold line; omega))))
/-! ### the law's own -/
def c__law_whole : Fd := ⟨3, 3, (.ret (.and (.prim (.isI .int) (.var 0) .nil) (.and (.not (.prim (.isI .bool) (.var 0) .nil)) (.chain .le .le (.var 1) (.var 0) (.var 2)))))⟩
def c__law_row_of : Fd := ⟨4, 5, (.ret (.and (.prim (.isI .tuple) (.var 0) .nil) (.and (.cmp .eq (.prim .len (.var 0) .nil) (.var 1)) (.cmp .eq (.lc [4] (.nm 4) (.it .seq (.cons (.var 0) .nil)) (.not (.call "_law_whole" (.cons (.var 4) (.cons (.var 2) (.cons (.var 3) .nil))))) (.var 4)) (.lst .nil)))))⟩
theorem lwhole_t (h : Has T "_law_whole" c__law_whole) (hn : 1 ≤ n) (v : D) (lo hi : Int) : run T n "_law_whole" [.d v, tv lo, tv hi] s = .ok (tv (wholeB lo hi v)) s :=
  run_d h (by omega) rfl rfl fun m hm => (show Xs (run T m) [some (.d v), some (tv lo), some (tv hi)] s c__law_whole.body (.rt (tv (wholeB lo hi v))) from by
    cases v with
    | int i => exact x_ret (p_andT (p_isI' (p_var rfl) rfl) (p_andT (p_notE (p_isI' (p_var rfl) rfl) rfl) (p_chain (p_var (v := tv lo) rfl) (p_var (v := tv i) rfl) (p_var (v := tv hi) rfl) (cmp_le _ _) (cmp_le _ _))))
    | bool b => exact x_ret (p_andT (p_isI' (p_var rfl) rfl) (p_andF (p_notE (p_isI' (p_var rfl) rfl) rfl)))
    | _ => exact x_ret (p_andF (p_isI' (p_var rfl) rfl)))
theorem plainAll_filter {p : D → Bool} : ∀ {l : List D}, PyData.plainAll l = true → PyData.plainAll (l.filter p) = true
  | [], _ => rfl
  | a :: l, h => by
    simp only [PyData.plainAll, Bool.and_eq_true] at h
    rw [List.filter_cons]
    split
    · simp only [PyData.plainAll, h.1, plainAll_filter h.2, Bool.and_self]
    · exact plainAll_filter h.2
/-- any value whose tuples are plain -/
def plainT : D → Bool
  | .tuple l => PyData.plainAll l
  | _ => true
theorem lrow_t (hw : Has T "_law_whole" c__law_whole) (h : Has T "_law_row_of" c__law_row_of) (hn : 2 ≤ n) (v : D) (hv : plainT v = true) (c lo hi : Int) (hc : c ≤ 1000) : run T n "_law_row_of" [.d v, tv c, tv lo, tv hi] s = .ok (tv (rowB c lo hi v)) s :=
  run_d h (by omega) rfl rfl fun m hm => (show Xs (run T m) [some (.d v), some (tv c), some (tv lo), some (tv hi), none] s c__law_row_of.body (.rt (tv (rowB c lo hi v))) from by
    cases v with
    | tuple l =>
      refine x_ret (p_andT (p_isI' (p_var rfl) rfl) (p_and (p_eq (p_lenD (p_var rfl)) (p_var (v := tv c) rfl)) fun hq => ?_))
      have hl : (l.length : Int) = c := of_decide_eq_true hq
      have e : l.all (wholeB lo hi) = decide ((l.filter fun x => !wholeB lo hi x) = []) := by
        rw [Bool.eq_iff_iff, List.all_eq_true, decide_eq_true_iff, List.filter_eq_nil_iff]
        simp
      rw [e]
      refine p_cmp (p_lcfD (p := fun x => !wholeB lo hi x) (i_D (p_var rfl)) (fun _ => rfl) (fun _ => rfl) (fun x hx => p_not (p_call (p_ac (p_var (v := .d x) rfl) (p_ac (p_var (v := tv lo) rfl) (p_ac (p_var (v := tv hi) rfl) p_a0))) (lwhole_t hw (by omega) x lo hi))) (by unfold line; omega)) (p_lst p_nil (by decide)) (eqF_nil _ (plainAll_filter hv))
    | _ => exact x_ret (p_andF (p_isI' (p_var rfl) rfl)))
end
end PF
end
section
set_option Elab.async false
set_option linter.all false
set_option maxRecDepth 100000
set_option maxHeartbeats 4000000
/-! PE: values spoilt. -/
namespace PF
open PySem
open W (Tup T3 T4 Datum DatumOrd SomeDatum)
def c__law_spoilt : Fd := ⟨2, 4, (.seq (.ite (.or (.not (.prim (.isI .tuple) (.var 1) .nil)) (.or (.cmp .eq (.var 1) (.tup .nil)) (.cmp .eq (.call "_law_roll" (.cons (.var 0) (.cons (.cst (.int (5))) .nil))) (.cst (.int (0)))))) (.ret (.call "_law_some" (.cons (.var 0) (.cons (.lst (.cons (.cst .none) (.cons (.tup .nil) (.cons (.lst .nil) (.cons (.cst (.int (0))) (.cons (.cst (.int (1))) (.cons (.cst (.int (2))) (.cons (.cst (.int (3))) (.cons (.cst (.int (4))) (.cons (.neg (.cst (.int (1)))) (.cons (.neg (.cst (.int (3)))) (.cons (.neg (.cst (.int (4)))) (.cons (.cst (.bool true)) (.cons (.cst (.str "0")) (.cons (.tup (.cons (.cst (.int (0))) .nil)) (.cons (.tup (.cons (.cst (.int (1))) (.cons (.cst (.int (1))) .nil))) (.cons (.tup (.cons (.cst (.int (0))) (.cons (.cst (.int (0))) (.cons (.tup (.cons (.cst (.int (0))) .nil)) .nil)))) (.cons (.bin .pow (.cst (.int (10))) (.cst (.int (6)))) (.cons (.bin .add (.bin .pow (.cst (.int (10))) (.cst (.int (6)))) (.cst (.int (1)))) .nil))))))))))))))))))) .nil)))) .nop) (.seq (.asgs [(false, 2, (.call "_law_roll" (.cons (.var 0) (.cons (.prim .len (.var 1) .nil) .nil)))), (false, 3, (.call "_law_roll" (.cons (.var 0) (.cons (.cst (.int (9))) .nil))))]) (.seq (.ite (.cmp .lt (.var 3) (.cst (.int (2)))) (.ret (.bin .add (.bin .add (.slc false true (.var 1) (.cst .none) (.var 2)) (.slc true false (.var 1) (.bin .add (.var 2) (.var 3)) (.cst .none))) (.ite (.cmp .eq (.var 3) (.cst (.int (0)))) (.slc true true (.var 1) (.var 2) (.bin .add (.var 2) (.cst (.int (1))))) (.tup .nil)))) .nop) (.seq (.ite (.cmp .eq (.var 3) (.cst (.int (2)))) (.ret (.call "_law_some" (.cons (.var 0) (.cons (.lst (.cons (.prim .list (.var 1) .nil) (.cons (.rev (.var 1)) (.cons (.bin .add (.var 1) (.slc true false (.var 1) (.neg (.cst (.int (1)))) (.cst .none))) .nil)))) .nil)))) .nop) (.ret (.bin .add (.bin .add (.slc false true (.var 1) (.cst .none) (.var 2)) (.tup (.cons (.call "_law_spoilt" (.cons (.var 0) (.cons (.sub (.var 1) (.var 2)) .nil))) .nil))) (.slc true false (.var 1) (.bin .add (.var 2) (.cst (.int (1)))) (.cst .none))))))))⟩
def oddC : CE := (.lst (.cons (.cst .none) (.cons (.tup .nil) (.cons (.lst .nil) (.cons (.cst (.int (0))) (.cons (.cst (.int (1))) (.cons (.cst (.int (2))) (.cons (.cst (.int (3))) (.cons (.cst (.int (4))) (.cons (.neg (.cst (.int (1)))) (.cons (.neg (.cst (.int (3)))) (.cons (.neg (.cst (.int (4)))) (.cons (.cst (.bool true)) (.cons (.cst (.str "0")) (.cons (.tup (.cons (.cst (.int (0))) .nil)) (.cons (.tup (.cons (.cst (.int (1))) (.cons (.cst (.int (1))) .nil))) (.cons (.tup (.cons (.cst (.int (0))) (.cons (.cst (.int (0))) (.cons (.tup (.cons (.cst (.int (0))) .nil)) .nil)))) (.cons (.bin .pow (.cst (.int (10))) (.cst (.int (6)))) (.cons (.bin .add (.bin .pow (.cst (.int (10))) (.cst (.int (6)))) (.cst (.int (1)))) .nil)))))))))))))))))))
def oddL : List D := [.none, .tuple [], .list [], .int 0, .int 1, .int 2, .int 3, .int 4, .int (-1), .int (-3), .int (-4), .bool true, .str "0", .tuple [.int 0], .tuple [.int 1, .int 1], .tuple [.int 0, .int 0, .tuple [.int 0]], .int 1000000, .int 1000001]
section
variable {G : Str → List Vl → M Vl} {e e' : Env} {s : St}
theorem odd_e : Ep G e s oddC (.d (.list oddL)) := by
  show ev G oddC e s = _
  kernel_rfl
theorem p_takeD {a i : CE} {l : List D} {k : Int} (h : Ep G e s a (.d (.tuple l))) (j : Ep G e s i (tv k)) (h0 : 0 ≤ k) : Ep G e s (.slc false true a (.cst .none) i) (.d (.tuple (l.take k.toNat))) :=
  p_slc h p_unit j rfl rfl (by show some (PyData.tuple (cutL l none (some k))) = some (.tuple _); rw [cutL_hi h0])
theorem p_dropD {a i : CE} {l : List D} {k : Int} (h : Ep G e s a (.d (.tuple l))) (j : Ep G e s i (tv k)) (h0 : 0 ≤ k) : Ep G e s (.slc true false a i (.cst .none)) (.d (.tuple (l.drop k.toNat))) :=
  p_slc h j p_unit rfl rfl (by show some (PyData.tuple (cutL l (some k) none)) = some (.tuple _); rw [cutL_lo h0])
theorem p_cutD {a i j : CE} {l : List D} {k m : Int} (h : Ep G e s a (.d (.tuple l))) (hi : Ep G e s i (tv k)) (hj : Ep G e s j (tv m)) : Ep G e s (.slc true true a i j) (.d (.tuple (cutL l (some k) (some m)))) := p_slc h hi hj rfl rfl rfl
theorem p_lastD {a : CE} {l : List D} (h : Ep G e s a (.d (.tuple l))) : Ep G e s (.slc true false a (.neg (.cst (.int 1))) (.cst .none)) (.d (.tuple (cutL l (some (-1)) none))) := p_slc h p_neg1 p_unit rfl rfl rfl
theorem p_addD {a b : CE} {l m : List D} (h : Ep G e s a (.d (.tuple l))) (k : Ep G e s b (.d (.tuple m))) (hz : l.length + m.length ≤ line) : Ep G e s (.bin .add a b) (.d (.tuple (l ++ m))) := p_bin h k (if_pos hz)
theorem p_revD {a : CE} {l : List D} (h : Ep G e s a (.d (.tuple l))) : Ep G e s (.rev a) (.d (.tuple l.reverse)) := by
  show ev G _ e s = _
  rw [ev_rev]
  exact bd_go h rfl
theorem p_listD {a : CE} {l : List D} (h : Ep G e s a (.d (.tuple l))) : Ep G e s (.prim .list a .nil) (.d (.list l)) := p_prim h p_nil rfl
end
theorem plainAll_iff : ∀ {l : List D}, PyData.plainAll l = true ↔ ∀ x ∈ l, x.plain = true
  | [] => ⟨fun _ x hx => (nomatch hx), fun _ => rfl⟩
  | a :: l => by
    simp only [PyData.plainAll, Bool.and_eq_true, List.mem_cons, forall_eq_or_imp, plainAll_iff (l := l)]
theorem cutL_sub {α : Type} {l : List α} {i j : Option Int} {x : α} (h : x ∈ cutL l i j) : x ∈ l := List.mem_of_mem_drop (List.mem_of_mem_take h)
theorem cutL_len {α : Type} (l : List α) (i j : Option Int) : (cutL l i j).length ≤ l.length := by
  unfold cutL
  rw [List.length_take, List.length_drop]
  omega
theorem plain_tup {l : List D} : (PyData.tuple l).plain = PyData.plainAll l := by simp only [PyData.plain]
theorem plain_lst {l : List D} : (PyData.list l).plain = PyData.plainAll l := by simp only [PyData.plain]
/-- what may be spoilt: tuples of so many levels -/
def Spo : Nat → D → Prop
  | 0, d => isTy .tuple d = false
  | k + 1, .tuple l => l.length ≤ 1000 ∧ ∀ x ∈ l, Spo k x
  | _ + 1, _ => True
theorem oddL_plain : ∀ d ∈ oddL, d.plain = true := by
  have h : oddL.all (fun d => d.plain) = true := by kernel_rfl
  exact List.all_eq_true.mp h
section
variable {T : Tab}
theorem spoilt_t (hr : Has T "_law_roll" c__law_roll) (hs : Has T "_law_some" c__law_some) (h : Has T "_law_spoilt" c__law_spoilt) : ∀ (k : Nat) (here : D), here.plain = true → Spo k here → ∀ {n : Nat}, k + 3 ≤ n → ∀ {s : St}, CupOk s →
    ∃ (r : D) (s' : St), run T n "_law_spoilt" [.cup, .d here] s = .ok (.d r) s' ∧ r.plain = true ∧ CupOk s' := by
  intro k
  induction k with
  | zero =>
    intro here hp hsp n hn s hc
    obtain ⟨m, rfl⟩ : ∃ m, n = m + 3 := ⟨n - 3, by omega⟩
    obtain ⟨d, s1, e1, m1, c1⟩ := r_some hr hs m (l := oddL) (by decide) (by decide) hc
    refine ⟨d, s1, run_dS h rfl rfl (show XsS (run T (m + 2)) [some .cup, some (.d here), none, none] s c__law_spoilt.body (.rt (.d d)) s1 from ?_), oddL_plain _ m1, c1⟩
    exact xS_seqR (xS_ifT (p_orT (p_notE (p_isI' (p_var rfl) hsp) rfl)) (xS_ret (pS_call (pS_acC rfl (pS_ac odd_e p_a0)) e1)))
  | succ k ih =>
    intro here hp hsp n hn s hc
    obtain ⟨m, rfl⟩ : ∃ m, n = m + 3 := ⟨n - 3, by omega⟩
    have odd_ : ∀ {s : St}, CupOk s → ∃ (d : D) (s' : St), run T (m + 2) "_law_some" [.cup, .d (.list oddL)] s = .ok (.d d) s' ∧ d.plain = true ∧ CupOk s' := fun {s} hc => by
      obtain ⟨d, s1, e1, m1, c1⟩ := r_some hr hs m (l := oddL) (by decide) (by decide) hc
      exact ⟨d, s1, e1, oddL_plain _ m1, c1⟩
    have notT : isTy .tuple here = false → ∃ (r : D) (s' : St), run T (m + 3) "_law_spoilt" [.cup, .d here] s = .ok (.d r) s' ∧ r.plain = true ∧ CupOk s' := fun ht => by
      obtain ⟨d, s1, e1, p1, c1⟩ := odd_ hc
      refine ⟨d, s1, run_dS h rfl rfl (show XsS (run T (m + 2)) [some .cup, some (.d here), none, none] s c__law_spoilt.body (.rt (.d d)) s1 from ?_), p1, c1⟩
      exact xS_seqR (xS_ifT (p_orT (p_notE (p_isI' (p_var rfl) ht) rfl)) (xS_ret (pS_call (pS_acC rfl (pS_ac odd_e p_a0)) e1)))
    match here, hp, hsp, notT with
    | .none, _, _, notT => exact notT rfl
    | .bool _, _, _, notT => exact notT rfl
    | .int _, _, _, notT => exact notT rfl
    | .str _, _, _, notT => exact notT rfl
    | .list _, _, _, notT => exact notT rfl
    | .dict _, _, _, notT => exact notT rfl
    | .tuple l, hp, hsp, _ =>
      obtain ⟨hl, hx⟩ := hsp
      rw [plain_tup] at hp
      have hpl := plainAll_iff.mp hp
      have eqn : eqF (.tuple l) (.tuple []) = some (decide (l = [])) := by
        have := eqF_nil l hp
        unfold eqF at this ⊢
        have e1 : (PyData.tuple l).plain = true := by rw [plain_tup]; exact hp
        have e2 : (PyData.tuple []).plain = true := rfl
        have e3 : min (PyData.tuple l).depth (PyData.tuple []).depth ≤ 64 := Nat.le_trans (Nat.min_le_right _ _) (by decide)
        rw [e1, e2, decide_eq_true e3]
        cases l with
        | nil => rfl
        | cons a l => simp [PyData.eqv, PyData.eqvAll]
      have isT : Ep (run T (m + 2)) [some .cup, some (.d (.tuple l)), none, none] s (.not (.prim (.isI .tuple) (.var 1) .nil)) (tv false) := p_notE (p_isI' (p_var rfl) rfl) rfl
      have eqE : Ep (run T (m + 2)) [some .cup, some (.d (.tuple l)), none, none] s (.cmp .eq (.var 1) (.tup .nil)) (tv (decide (l = []))) := p_cmp (p_var rfl) (p_tup p_nil (by decide)) eqn
      by_cases hz : l = []
      · obtain ⟨d, s1, e1, p1, c1⟩ := odd_ hc
        refine ⟨d, s1, run_dS h rfl rfl (show XsS (run T (m + 2)) [some .cup, some (.d (.tuple l)), none, none] s c__law_spoilt.body (.rt (.d d)) s1 from ?_), p1, c1⟩
        rw [decide_eq_true hz] at eqE
        exact xS_seqR (xS_ifT (p_orF isT (p_orT eqE)) (xS_ret (pS_call (pS_acC rfl (pS_ac odd_e p_a0)) e1)))
      rw [decide_eq_false hz] at eqE
      obtain ⟨r1, s1, e1, r10, r11, c1⟩ := r_roll hr (m + 1) (many := 5) (by decide) (by decide) hc
      have roll5 : EpS (run T (m + 2)) [some .cup, some (.d (.tuple l)), none, none] s (.cmp .eq (.call "_law_roll" (.cons (.var 0) (.cons (.cst (.int (5))) .nil))) (.cst (.int (0)))) (tv (decide (r1 = 0))) s1 :=
        pS_cmp (pS_call (pS_acC rfl (pS_ac (p_int 5) p_a0)) e1) (p_int 0) (cmp_eq r1 0)
      by_cases h0 : r1 = 0
      · obtain ⟨d, s2, e2, p2, c2⟩ := odd_ c1
        refine ⟨d, s2, run_dS h rfl rfl (show XsS (run T (m + 2)) [some .cup, some (.d (.tuple l)), none, none] s c__law_spoilt.body (.rt (.d d)) s2 from ?_), p2, c2⟩
        rw [decide_eq_true h0] at roll5
        exact xS_seqR (xS_ifT (pS_orF isT (pS_orF eqE roll5)) (xS_ret (pS_call (pS_acC rfl (pS_ac odd_e p_a0)) e2)))
      rw [decide_eq_false h0] at roll5
      have hpos : 0 < l.length := List.length_pos_iff.mpr hz
      obtain ⟨a, s2, e2, a0, a1, c2⟩ := r_roll hr (m + 1) (many := l.length) (by omega) (by omega) c1
      obtain ⟨w, s3, e3, w0, w1, c3⟩ := r_roll hr (m + 1) (many := 9) (by decide) (by decide) c2
      have head : ∀ {o : Fl} {s' : St} {rest : CS}, XsS (run T (m + 2)) [some .cup, some (.d (.tuple l)), some (tv a), some (tv w)] s3 rest o s' → XsS (run T (m + 2)) [some .cup, some (.d (.tuple l)), none, none] s1
          (.seq (.asgs [(false, 2, (.call "_law_roll" (.cons (.var 0) (.cons (.prim .len (.var 1) .nil) .nil)))), (false, 3, (.call "_law_roll" (.cons (.var 0) (.cons (.cst (.int (9))) .nil))))]) rest) o s' := fun {o s' rest} k =>
        xS_seq (xS_let2 (pS_call (pS_acC rfl (pS_ac (p_lenD (p_var rfl)) p_a0)) e2) (pS_call (pS_acC rfl (pS_ac (p_int 9) p_a0)) e3)) k
      have guard1 : XsS (run T (m + 2)) [some .cup, some (.d (.tuple l)), none, none] s (.ite (.or (.not (.prim (.isI .tuple) (.var 1) .nil)) (.or (.cmp .eq (.var 1) (.tup .nil)) (.cmp .eq (.call "_law_roll" (.cons (.var 0) (.cons (.cst (.int (5))) .nil))) (.cst (.int (0)))))) (.ret (.call "_law_some" (.cons (.var 0) (.cons oddC .nil)))) .nop) (.nx [some .cup, some (.d (.tuple l)), none, none]) s1 :=
        xS_no (pS_orF isT (pS_orF eqE roll5))
      have vl : ∀ {s : St}, Ep (run T (m + 2)) [some .cup, some (.d (.tuple l)), some (tv a), some (tv w)] s (.var 1) (.d (.tuple l)) := p_var rfl
      have va : ∀ {s : St}, Ep (run T (m + 2)) [some .cup, some (.d (.tuple l)), some (tv a), some (tv w)] s (.var 2) (tv a) := p_var rfl
      have vw : ∀ {s : St}, Ep (run T (m + 2)) [some .cup, some (.d (.tuple l)), some (tv a), some (tv w)] s (.var 3) (tv w) := p_var rfl
      have big : ∀ {a b : List D}, a.length ≤ 2000 → b.length ≤ 1000 → a.length + b.length ≤ line := fun h1 h2 => by unfold line; omega
      have lt : (l.take a.toNat).length ≤ 1000 := by rw [List.length_take]; omega
      have ld : ∀ i : Nat, (l.drop i).length ≤ 1000 := fun i => by rw [List.length_drop]; omega
      have lc : ∀ i j, (cutL l i j).length ≤ 1000 := fun i j => Nat.le_trans (cutL_len l i j) hl
      have pt : ∀ x ∈ l.take a.toNat, x.plain = true := fun x hx => hpl x (List.mem_of_mem_take hx)
      have pd : ∀ i : Nat, ∀ x ∈ l.drop i, x.plain = true := fun i x hx => hpl x (List.mem_of_mem_drop hx)
      have pc : ∀ i j, ∀ x ∈ cutL l i j, x.plain = true := fun i j x hx => hpl x (cutL_sub hx)
      have pa : ∀ {a b : List D}, (∀ x ∈ a, x.plain = true) → (∀ x ∈ b, x.plain = true) → ∀ x ∈ a ++ b, x.plain = true := fun h1 h2 x hx => (List.mem_append.mp hx).elim (h1 x) (h2 x)
      by_cases hw2 : w < 2
      · have last : ∃ t : List D, Ep (run T (m + 2)) [some .cup, some (.d (.tuple l)), some (tv a), some (tv w)] s3 (.ite (.cmp .eq (.var 3) (.cst (.int (0)))) (.slc true true (.var 1) (.var 2) (.bin .add (.var 2) (.cst (.int (1))))) (.tup .nil)) (.d (.tuple t)) ∧ t.length ≤ 1000 ∧ ∀ x ∈ t, x.plain = true := by
          by_cases hw0 : w = 0
          · exact ⟨_, pS_iteT (Ep.cast (p_eq vw (p_int 0)) (congrArg tv (decide_eq_true hw0))) (p_cutD vl va (p_add va (p_int 1))), lc _ _, pc _ _⟩
          · exact ⟨[], pS_iteF (Ep.cast (p_eq vw (p_int 0)) (congrArg tv (decide_eq_false hw0))) (p_tup p_nil (by decide)), by decide, fun x hx => (nomatch hx)⟩
        obtain ⟨t, et, tl, tp⟩ := last
        refine ⟨.tuple ((l.take a.toNat ++ l.drop (a + w).toNat) ++ t), s3, run_dS h rfl rfl (show XsS (run T (m + 2)) [some .cup, some (.d (.tuple l)), none, none] s c__law_spoilt.body (.rt (.d _)) s3 from ?_), ?_, c3⟩
        · have lz : (l.take a.toNat ++ l.drop (a + w).toNat).length ≤ 2000 := by rw [List.length_append]; have := ld (a + w).toNat; omega
          exact xS_seq guard1 (head (xS_seqR (xS_ifT (Ep.cast (p_lt vw (p_int 2)) (congrArg tv (decide_eq_true hw2))) (xS_ret (p_addD (p_addD (p_takeD vl va a0) (p_dropD vl (p_add va vw) (by omega)) (big (by omega) (ld _))) et (big lz tl))))))
        · rw [plain_tup, plainAll_iff]
          exact pa (pa pt (pd _)) tp
      have g2 : Ep (run T (m + 2)) [some .cup, some (.d (.tuple l)), some (tv a), some (tv w)] s3 (.cmp .lt (.var 3) (.cst (.int 2))) (tv false) := Ep.cast (p_lt vw (p_int 2)) (congrArg tv (decide_eq_false hw2))
      by_cases hw3 : w = 2
      · have el : EpL (run T (m + 2)) [some .cup, some (.d (.tuple l)), some (tv a), some (tv w)] s3 (.cons (.prim .list (.var 1) .nil) (.cons (.rev (.var 1)) (.cons (.bin .add (.var 1) (.slc true false (.var 1) (.neg (.cst (.int (1)))) (.cst .none))) .nil))) [.list l, .tuple l.reverse, .tuple (l ++ cutL l (some (-1)) none)] :=
          p_cons (p_listD vl) (p_cons (p_revD vl) (p_cons (p_addD vl (p_lastD vl) (big (by omega) (lc _ _))) p_nil))
        obtain ⟨d, s4, e4, m4, c4⟩ := r_some hr hs m (l := [.list l, .tuple l.reverse, .tuple (l ++ cutL l (some (-1)) none)]) (by simp) (by simp) c3
        refine ⟨d, s4, run_dS h rfl rfl (show XsS (run T (m + 2)) [some .cup, some (.d (.tuple l)), none, none] s c__law_spoilt.body (.rt (.d d)) s4 from ?_), ?_, c4⟩
        · exact xS_seq guard1 (head (xS_seq (xS_no g2) (xS_seqR (xS_ifT (Ep.cast (p_eq vw (p_int 2)) (congrArg tv (decide_eq_true hw3))) (xS_ret (pS_call (pS_acC rfl (pS_ac (p_lst el (show 3 ≤ line by decide)) p_a0)) e4))))))
        · simp only [List.mem_cons, List.not_mem_nil, or_false] at m4
          rcases m4 with rfl | rfl | rfl
          · rw [plain_lst]; exact hp
          · rw [plain_tup, plainAll_iff]; exact fun x hx => hpl x (List.mem_reverse.mp hx)
          · rw [plain_tup, plainAll_iff]; exact pa hpl (pc _ _)
      have hlt : a.toNat < l.length := by omega
      have hat : subF (.tuple l) (.int a) = some l[a.toNat] := atI_at a0 (List.getElem?_eq_getElem hlt)
      obtain ⟨d, s4, e4, p4, c4⟩ := ih l[a.toNat] (hpl _ (List.getElem_mem hlt)) (hx _ (List.getElem_mem hlt)) (n := m + 2) (by omega) c3
      refine ⟨.tuple ((l.take a.toNat ++ [d]) ++ l.drop (a + 1).toNat), s4, run_dS h rfl rfl (show XsS (run T (m + 2)) [some .cup, some (.d (.tuple l)), none, none] s c__law_spoilt.body (.rt (.d _)) s4 from ?_), ?_, c4⟩
      · have g3 : Ep (run T (m + 2)) [some .cup, some (.d (.tuple l)), some (tv a), some (tv w)] s3 (.cmp .eq (.var 3) (.cst (.int 2))) (tv false) := Ep.cast (p_eq vw (p_int 2)) (congrArg tv (decide_eq_false hw3))
        have lz : (l.take a.toNat ++ [d]).length ≤ 2000 := by rw [List.length_append, List.length_singleton]; omega
        have z1 : (l.take a.toNat).length + [d].length ≤ line := by rw [List.length_singleton]; unfold line; omega
        refine xS_seq guard1 (head (xS_seq (xS_no g2) (xS_seq (xS_no g3) (xS_ret ?_))))
        exact pS_bin (pS_bin (p_takeD vl va a0) (pS_tup (pS_cons (pS_call (pS_acC rfl (pS_ac (p_at vl va hat) p_a0)) e4) p_nil) (show 1 ≤ line by decide)) (if_pos z1)) (p_dropD vl (p_add va (p_int 1)) (by omega)) (if_pos (big lz (ld _)))
      · rw [plain_tup, plainAll_iff]
        exact pa (pa pt (fun x hx => by rw [List.mem_singleton] at hx; rw [hx]; exact p4)) (pd _)
end
end PF
end
section
set_option Elab.async false
set_option linter.all false
set_option maxRecDepth 100000
set_option maxHeartbeats 4000000
/-! PQ: places and boxes looked at; what is needed, both ways. -/
namespace PF
open PySem
open W (Tup T3 T4 Datum DatumOrd SomeDatum)
def c_fits_place : Fd := ⟨2, 2, (.seq (.ite (.or (.not (.call "is_tuple_of" (.cons (.var 1) (.cons (.cst (.int (2))) (.cons (.cst (.int (2))) .nil))))) (.not (.call "is_whole" (.cons (.sub (.var 1) (.cst (.int (0)))) (.cons (.cst (.int (0))) (.cons (.bin .sub (.sub (.var 0) (.cst (.int (0)))) (.cst (.int (1)))) .nil)))))) (.ret (.cst (.bool false))) .nop) (.ret (.and (.call "is_tuple_of" (.cons (.sub (.var 1) (.cst (.int (1)))) (.cons (.sub (.var 0) (.cst (.int (1)))) (.cons (.sub (.var 0) (.cst (.int (1)))) .nil)))) (.call "are_whole" (.cons (.sub (.var 1) (.cst (.int (1)))) (.cons (.cst (.int (0))) (.cons (.cst (.int (1000000))) .nil)))))))⟩
def c_fits_box : Fd := ⟨2, 2, (.ret (.and (.call "is_tuple_of" (.cons (.var 1) (.cons (.sub (.var 0) (.cst (.int (1)))) (.cons (.sub (.var 0) (.cst (.int (1)))) .nil)))) (.call "are_whole" (.cons (.var 1) (.cons (.cst (.int (1))) (.cons (.cst (.int (8))) .nil))))))⟩
theorem plainT_of {v : D} (h : v.plain = true) : plainT v = true := by
  cases v with
  | tuple l => rw [plain_tup] at h; exact h
  | _ => rfl
theorem placeB_of (q c : Int) (v : D) : (∃ x y, v = .tuple [x, y]) ∨ (tupB 2 2 v = false ∧ placeB q c v = false) := by
  cases v with
  | tuple l =>
    match l with
    | [] => exact .inr ⟨rfl, rfl⟩
    | [a] => exact .inr ⟨rfl, rfl⟩
    | [a, b] => exact .inl ⟨a, b, rfl⟩
    | a :: b :: d :: l =>
      refine .inr ⟨?_, rfl⟩
      show (decide ((2 : Int) ≤ ((a :: b :: d :: l).length : Int)) && decide (((a :: b :: d :: l).length : Int) ≤ 2)) = false
      have : ¬ ((a :: b :: d :: l).length : Int) ≤ 2 := by simp only [List.length_cons]; omega
      rw [decide_eq_false this, Bool.and_false]
  | _ => exact .inr ⟨rfl, rfl⟩
section
variable {T : Tab} {n : Nat} {e : Env} {s : St}
theorem row_e (ht : Has T "is_tuple_of" c_is_tuple_of) (hw : Has T "is_whole" c_is_whole) (ha : Has T "are_whole" c_are_whole) (hn : 2 ≤ n) {A B L H : CE} {c lo hi : Int} {y : D} (a : Ep (run T n) e s A (.d y)) (b : Ep (run T n) e s B (tv c)) (l : Ep (run T n) e s L (tv lo)) (h : Ep (run T n) e s H (tv hi)) (hc : c ≤ 1000) :
    Ep (run T n) e s (.and (.call "is_tuple_of" (.cons A (.cons B (.cons B .nil)))) (.call "are_whole" (.cons A (.cons L (.cons H .nil))))) (tv (rowB c lo hi y)) := by
  have k := p_call (p_ac a (p_ac b (p_ac b p_a0))) (tupof_t ht (n := n) (s := s) (by omega) y c c)
  cases y with
  | tuple z =>
    by_cases q : (z.length : Int) = c
    · have e1 : tupB c c (.tuple z) = true := by show (decide _ && decide _) = true; rw [decide_eq_true (by omega), decide_eq_true (by omega)]; rfl
      rw [e1] at k
      have e2 : rowB c lo hi (.tuple z) = z.all (wholeB lo hi) := by show (decide _ && _) = _; rw [decide_eq_true q, Bool.true_and]
      rw [e2]
      exact p_andT k (p_call (p_ac a (p_ac l (p_ac h p_a0))) (arewhole_t hw ha (by omega) z (by omega) lo hi))
    · have e1 : tupB c c (.tuple z) = false := by
        show (decide _ && decide _) = false
        by_cases q2 : c ≤ (z.length : Int)
        · rw [decide_eq_false (p := (z.length : Int) ≤ c) (by omega), Bool.and_false]
        · rw [decide_eq_false q2, Bool.false_and]
      have e2 : rowB c lo hi (.tuple z) = false := by show (decide _ && _) = _; rw [decide_eq_false q, Bool.false_and]
      rw [e1] at k
      rw [e2]
      exact p_andF k
  | _ => exact p_andF k
theorem fitsplace_t (ht : Has T "is_tuple_of" c_is_tuple_of) (hw : Has T "is_whole" c_is_whole) (ha : Has T "are_whole" c_are_whole) (h : Has T "fits_place" c_fits_place) (hn : 3 ≤ n) (book : Book) (v : D) (hb : book.b ≤ 1000) : run T n "fits_place" [tv book, .d v] s = .ok (tv (placeB book.a book.b v)) s :=
  run_d h (by omega) rfl rfl fun m hm => (show Xs (run T m) [some (tv book), some (.d v)] s c_fits_place.body (.rt (tv (placeB book.a book.b v))) from by
    have vb : Ep (run T m) [some (tv book), some (.d v)] s (.var 0) (tv book) := p_var rfl
    have vv : Ep (run T m) [some (tv book), some (.d v)] s (.var 1) (.d v) := p_var rfl
    have k := p_call (p_ac vv (p_ac (p_int 2) (p_ac (p_int 2) p_a0))) (tupof_t ht (n := m) (s := s) (by omega) v 2 2)
    rcases placeB_of book.a book.b v with ⟨x, y, rfl⟩ | ⟨e1, e2⟩
    · have v0 : Ep (run T m) [some (tv book), some (.d (.tuple [x, y]))] s (.sub (.var 1) (.cst (.int (0)))) (.d x) := p_at vv (p_int 0) rfl
      have v1 : Ep (run T m) [some (tv book), some (.d (.tuple [x, y]))] s (.sub (.var 1) (.cst (.int (1)))) (.d y) := p_at vv (p_int 1) rfl
      have w := p_call (p_ac v0 (p_ac (p_int 0) (p_ac (p_sub (p_3a vb) (p_int 1)) p_a0))) (whole_t hw (n := m) (s := s) (by omega) x 0 (book.a - 1))
      have r := row_e ht hw ha (by omega) v1 (p_3b vb) (p_int 0) (p_int 1000000) hb
      cases q : wholeB 0 (book.a - 1) x with
      | true =>
        rw [q] at w
        have e3 : placeB book.a book.b (.tuple [x, y]) = rowB book.b 0 1000000 y := by show (wholeB 0 (book.a - 1) x && _) = _; rw [q]; rfl
        rw [e3]
        exact x_never (α := Unit) (p_orF (p_notE k rfl) (p_notE w rfl)) (x_ret r)
      | false =>
        rw [q] at w
        have e3 : placeB book.a book.b (.tuple [x, y]) = false := by show (wholeB 0 (book.a - 1) x && _) = _; rw [q]; rfl
        rw [e3]
        exact x_seqR (x_if (p := true) (p_orF (p_notE k rfl) (p_notE w rfl)) (fun _ => x_ret (x := .bool false) (p_bool false)) (fun q => nomatch q))
    · rw [e1] at k
      rw [e2]
      exact x_seqR (x_if (p := true) (p_orT (p_notE k rfl)) (fun _ => x_ret (x := .bool false) (p_bool false)) (fun q => nomatch q)))
theorem fitsbox_t (ht : Has T "is_tuple_of" c_is_tuple_of) (hw : Has T "is_whole" c_is_whole) (ha : Has T "are_whole" c_are_whole) (h : Has T "fits_box" c_fits_box) (hn : 3 ≤ n) (book : Book) (v : D) (hb : book.b ≤ 1000) : run T n "fits_box" [tv book, .d v] s = .ok (tv (rowB book.b 1 8 v)) s :=
  run_d h (by omega) rfl rfl fun m hm => (show Xs (run T m) [some (tv book), some (.d v)] s c_fits_box.body (.rt (tv (rowB book.b 1 8 v))) from
    x_ret (row_e ht hw ha (by omega) (p_var rfl) (p_3b (p := book) (p_var rfl)) (p_int 1) (p_int 8) hb))
/-- a place looked at on the spot -/
theorem fits_e (hw : Has T "_law_whole" c__law_whole) (hr : Has T "_law_row_of" c__law_row_of) (hn : 2 ≤ n) {i j : Nat} {v : D} {book : Book} (hv : e[i]? = some (some (.d v))) (hb : e[j]? = some (some (tv book))) (hp : v.plain = true) (hc : book.b ≤ 1000) :
    Ep (run T n) e s (.and (.prim (.isI .tuple) (.var i) .nil) (.and (.cmp .eq (.prim .len (.var i) .nil) (.cst (.int (2)))) (.and (.call "_law_whole" (.cons (.sub (.var i) (.cst (.int (0)))) (.cons (.cst (.int (0))) (.cons (.bin .sub (.sub (.var j) (.cst (.int (0)))) (.cst (.int (1)))) .nil)))) (.call "_law_row_of" (.cons (.sub (.var i) (.cst (.int (1)))) (.cons (.sub (.var j) (.cst (.int (1)))) (.cons (.cst (.int (0))) (.cons (.bin .pow (.cst (.int (10))) (.cst (.int (6)))) .nil)))))))) (tv (placeB book.a book.b v)) := by
  cases v with
  | tuple l =>
    have vv : Ep (run T n) e s (.var i) (.d (.tuple l)) := p_var hv
    refine p_andT (p_isI' vv rfl) ?_
    by_cases q : (l.length : Int) = 2
    · match l, q with
      | [x, y], _ =>
        have vb : Ep (run T n) e s (.var j) (tv book) := p_var hb
        have v0 : Ep (run T n) e s (.sub (.var i) (.cst (.int (0)))) (.d x) := p_at vv (p_int 0) rfl
        have v1 : Ep (run T n) e s (.sub (.var i) (.cst (.int (1)))) (.d y) := p_at vv (p_int 1) rfl
        have hy : y.plain = true := by
          rw [plain_tup, plainAll_iff] at hp
          exact hp y (List.mem_cons_of_mem _ List.mem_cons_self)
        refine p_andT (Ep.cast (p_eq (p_lenD vv) (p_int 2)) rfl) ?_
        have w := p_call (p_ac v0 (p_ac (p_int 0) (p_ac (p_sub (p_3a vb) (p_int 1)) p_a0))) (lwhole_t hw (n := n) (s := s) (by omega) x 0 (book.a - 1))
        have r := p_call (p_ac v1 (p_ac (p_3b vb) (p_ac (p_int 0) (p_ac (p_bin (o := .pow) (z := .int 1000000) (p_int 10) (p_int 6) rfl) p_a0)))) (lrow_t hw hr (n := n) (s := s) hn y (plainT_of hy) book.b 0 1000000 hc)
        exact p_and w fun _ => r
    · have e2 : placeB book.a book.b (.tuple l) = false := by
        match l, q with
        | [], _ => rfl
        | [a], _ => rfl
        | [a, b], q => exact absurd rfl q
        | a :: b :: d :: l, _ => rfl
      rw [e2]
      exact p_andF (Ep.cast (p_eq (p_lenD vv) (p_int 2)) (congrArg tv (decide_eq_false q)))
  | _ => exact p_andF (p_isI' (p_var hv) rfl)
end
theorem rowB_tup {c lo hi : Int} {l : List Int} (h : (l.length : Int) = c) (k : ∀ x ∈ l, lo ≤ x ∧ x ≤ hi) : rowB c lo hi (tD (Tup.mk l)) = true := by
  show (decide (((l.map (Datum.toD : Int → D)).length : Int) = c) && (l.map (Datum.toD : Int → D)).all (wholeB lo hi)) = true
  rw [List.length_map, decide_eq_true h, Bool.true_and, List.all_map, List.all_eq_true]
  intro x hx
  show (decide (lo ≤ x) && decide (x ≤ hi)) = true
  rw [decide_eq_true (k x hx).1, decide_eq_true (k x hx).2]
  rfl
theorem placeB_tup {q c a : Int} {l : List Int} (h0 : 0 ≤ a ∧ a < q) (h : (l.length : Int) = c) (k : ∀ x ∈ l, 0 ≤ x ∧ x ≤ 1000000) : placeB q c (tD (a, Tup.mk l)) = true := by
  show (wholeB 0 (q - 1) (.int a) && rowB c 0 1000000 (tD (Tup.mk l))) = true
  rw [rowB_tup h k, Bool.and_true]
  show (decide (0 ≤ a) && decide (a ≤ q - 1)) = true
  rw [decide_eq_true h0.1, decide_eq_true (by omega)]
  rfl
/-- what is due -/
structure DueOk (l : List (Int × (Int × Tup Int))) : Prop where
  len : l.length ≤ 40
  ok : ∀ x ∈ l, x.1.natAbs < 10 ^ 12 ∧ x.2.1.natAbs < 10 ^ 12 ∧ x.2.2.items.length ≤ 3 ∧ ∀ y ∈ x.2.2.items, y.natAbs < 10 ^ 12
theorem show_due {l : List (Int × (Int × Tup Int))} (h : DueOk l) : showB (tD l) = true := by
  refine ShOk.show_ (k := 4) (w := 40 * (2 * (2 * (3 * 41 + 1) + 1) + 1)) (ShOk.list (k := 3) (l := l.map Datum.toD) (fun d hd => ?_) (by rw [List.length_map]; exact h.len)) (by decide) (by decide)
  obtain ⟨x, hx, rfl⟩ := List.mem_map.mp hd
  obtain ⟨h1, h2, h3, h4⟩ := h.ok x hx
  refine ShOk.tuple (k := 2) (l := [.int x.1, .tuple [.int x.2.1, .tuple (x.2.2.items.map Datum.toD)]]) (fun d hd => ?_) (Nat.le_refl 2)
  rw [List.mem_cons, List.mem_singleton] at hd
  rcases hd with rfl | rfl
  · exact (ShOk.int h1).mono (by decide) (by decide)
  · refine ShOk.tuple (k := 1) (fun d hd => ?_) (Nat.le_refl 2)
    rw [List.mem_cons, List.mem_singleton] at hd
    rcases hd with rfl | rfl
    · exact (ShOk.int h2).mono (by decide) (by decide)
    · refine ShOk.tuple (k := 0) (w := 40) (fun d hd => ?_) (by rw [List.length_map]; exact h3)
      obtain ⟨y, hy, rfl⟩ := List.mem_map.mp hd
      exact ShOk.int (h4 y hy)
theorem show_bool (b : Bool) : showB (tD b) = true := (ShOk.bool b).show_ (by decide) (by decide)
theorem minL_nn : ∀ {l : List Int}, l ≠ [] → decide (0 ≤ minL l) = decide (l.filter (fun x => decide (x < 0)) = []) := by
  have go : ∀ (l : List Int) (a : Int), (0 ≤ l.foldl (fun m x => if DatumOrd.lt x m = true then x else m) a ↔ 0 ≤ a ∧ ∀ x ∈ l, 0 ≤ x) := by
    intro l
    induction l with
    | nil => intro a; simp
    | cons b l ih =>
      intro a
      rw [List.foldl_cons, ih]
      have e : (DatumOrd.lt b a = true) = (b < a) := by
        show (decide (b < a) = true) = _
        rw [decide_eq_true_eq]
      simp only [e, List.mem_cons, forall_eq_or_imp]
      split <;> constructor <;> intro h <;> (refine ⟨by omega, ?_⟩) <;> first | exact h.2 | exact h.2.2 | exact ⟨by omega, h.2⟩
  intro l hn
  match l, hn with
  | a :: l, _ =>
    rw [Bool.eq_iff_iff, decide_eq_true_iff, decide_eq_true_iff, List.filter_eq_nil_iff]
    have := go l a
    simp only [List.mem_cons, forall_eq_or_imp, decide_eq_true_eq, Int.not_lt]
    exact this
theorem foldl_app {α β : Type} {p : α → Bool} {f : α → β} : ∀ (l : List α) (acc : List β), l.foldl (fun st x => bif p x then st ++ [f x] else st) acc = acc ++ (l.filter p).map f
  | [], acc => by simp
  | a :: l, acc => by
    rw [List.foldl_cons, foldl_app l]
    cases q : p a with
    | true => simp [q]
    | false => simp [q]
theorem bif_len {β : Type} (b : Bool) (l : List β) (x : β) : (bif b then l ++ [x] else l).length ≤ l.length + 1 := by
  cases b <;> simp
theorem enumL_at {α : Type} [Inhabited α] {l : List α} {p : Int × α} (h : p ∈ enumL 0 l) : 0 ≤ p.1 ∧ p.1 < l.length ∧ l.getD p.1.toNat default = p.2 ∧ p.2 ∈ l := by
  have h := enumL_mem.mp h
  have e : (p.1 - 0).toNat = p.1.toNat := by congr 1; omega
  rw [e] at h
  have hl := (List.getElem?_eq_some_iff.mp h.2).1
  refine ⟨h.1, by omega, ?_, List.mem_of_getElem? h.2⟩
  rw [List.getD_eq_getElem?_getD, h.2]; rfl
end PF
end
section
set_option Elab.async false
set_option linter.all false
set_option maxRecDepth 100000
set_option maxHeartbeats 4000000
/-! PN: what is sorted, said by its items. -/
namespace PF
open PySem
open W (Tup T3 T4 Datum DatumOrd SomeDatum)
section
variable {α : Type} [DecidableEq α] [DatumOrd α]
theorem dle_of (x y : α) : dle (Datum.toD x) (Datum.toD y) = !DatumOrd.lt y x := by
  show (!W.dataLt (Datum.toD y) (Datum.toD x)) = _
  rw [DatumOrd.lt_eq]
theorem lt_asym {x y : α} (h : DatumOrd.lt x y = true) : DatumOrd.lt y x = false := by
  have t := dLe_total (Datum.toD x) (Datum.toD y)
  rw [show W.dataLe false id (Datum.toD x) (Datum.toD y) = !DatumOrd.lt y x from dle_of x y, show W.dataLe false id (Datum.toD y) (Datum.toD x) = !DatumOrd.lt x y from dle_of y x, h] at t
  simpa using t
theorem lt_irr (x : α) : DatumOrd.lt x x = false := by
  rw [← DatumOrd.lt_eq]; exact W.dataLt_self _
theorem lt_tr {x y z : α} (h : DatumOrd.lt x y = true) (k : DatumOrd.lt y z = true) : DatumOrd.lt x z = true := by
  cases q : DatumOrd.lt x z with
  | true => rfl
  | false =>
    have a : dle (Datum.toD x) (Datum.toD y) = true := by rw [dle_of, lt_asym h]; rfl
    have b : dle (Datum.toD y) (Datum.toD z) = true := by rw [dle_of, lt_asym k]; rfl
    have c : dle (Datum.toD z) (Datum.toD x) = true := by rw [dle_of, q]; rfl
    have e := dLe_anti (DatumOrd.alike x z) (dLe_trans _ _ _ a b) c
    rw [Datum.eqv, decide_eq_true_eq] at e
    subst e
    rw [lt_asym h] at k
    cases k
theorem asc_pair : ∀ {l : List α}, ((l.zip (l.drop 1)).map fun p : α × α => DatumOrd.lt p.1 p.2).all id = true ↔ l.Pairwise fun x y => DatumOrd.lt x y = true
  | [] => by simp
  | [a] => by simp
  | a :: b :: l => by
    have ih := asc_pair (l := b :: l)
    simp only [List.drop_succ_cons, List.drop_zero, List.zip_cons_cons, List.map_cons, List.all_cons, Bool.and_eq_true] at ih ⊢
    rw [ih, List.pairwise_cons (a := a)]
    constructor
    · rintro ⟨h, k⟩
      refine ⟨fun z hz => ?_, k⟩
      rcases List.mem_cons.mp hz with rfl | hz
      · exact h
      · exact lt_tr h ((List.pairwise_cons.mp k).1 z hz)
    · rintro ⟨h, k⟩
      exact ⟨h b List.mem_cons_self, k⟩
theorem asc_nodup {l : List α} (h : l.Pairwise fun x y => DatumOrd.lt x y = true) : l.Nodup :=
  h.imp fun {a b} q e => by
    subst e
    rw [lt_irr] at q
    cases q
theorem asc_uniq {l m : List α} (hl : l.Pairwise fun x y => DatumOrd.lt x y = true) (hm : m.Pairwise fun x y => DatumOrd.lt x y = true) (h : ∀ x, x ∈ l ↔ x ∈ m) : l = m := by
  refine List.Perm.eq_of_pairwise (le := fun a b => DatumOrd.lt a b = true) (fun a b _ _ x y => ?_) hl hm ((List.perm_ext_iff_of_nodup (asc_nodup hl) (asc_nodup hm)).mpr h)
  rw [lt_asym x] at y
  cases y
theorem sset_is {l m : List α} (hl : l.length < 64) (hk : keysB (l.map Datum.toD) = true) (hk2 : ∀ x ∈ l, keyB (Datum.toD x) = true) (hd : Datum.depth α ≤ 64) (hs : ∀ m : List α, (∀ x ∈ m, x ∈ l) → sortB (m.map Datum.toD) = true) (hm : ∀ x, x ∈ m ↔ x ∈ l) (ha : m.Pairwise fun x y => DatumOrd.lt x y = true) : primF .sortedset [.list (l.map Datum.toD)] = some (.list (m.map Datum.toD)) := by
  obtain ⟨m', h1, h2, h3, _⟩ := prim_sset l hl hk hk2 hd hs
  rw [h1, asc_uniq h3 ha fun x => (h2 x).trans (hm x).symm]
/-- sorted already -/
theorem sort_is {l m : List α} (hk2 : ∀ x ∈ l, keyB (Datum.toD x) = true) (hd : Datum.depth α ≤ 64) (hs : sortB (l.map Datum.toD) = true) (hn : l.Nodup) (hm : ∀ x, x ∈ m ↔ x ∈ l) (ha : m.Pairwise fun x y => DatumOrd.lt x y = true) : sortF (l.map Datum.toD) = some (.list (m.map Datum.toD)) := by
  unfold sortF
  rw [alikeB_of (alike_map l), hs, decide_eq_true (Nat.le_trans (W.depthAll_map l) hd)]
  have e := sort_perm (l1 := l.map Datum.toD) (l2 := m.map Datum.toD) (((List.perm_ext_iff_of_nodup hn (asc_nodup ha)).mpr fun x => (hm x).symm).map _) (alike_map l) (fun a ha => by
    obtain ⟨x, hx, rfl⟩ := List.mem_map.mp ha
    exact hk2 x hx) (List.pairwise_map.mpr (ha.imp fun {x y} h => by rw [dle_of, lt_asym h]; rfl))
  show some (PyData.list (sortD (l.map (Datum.toD : α → D)))) = _
  rw [sortD_eq, e]
end
theorem keysB_i (l : List Int) : keysB (l.map Datum.toD) = true := by
  unfold keysB
  rw [Bool.or_eq_true]
  right
  rw [List.all_eq_true]
  intro d hd
  obtain ⟨n, _, rfl⟩ := List.mem_map.mp hd
  rfl
theorem sortB_i (l : List Int) : sortB (l.map Datum.toD) = true := by
  unfold sortB
  rw [Bool.or_eq_true]
  right
  rw [List.all_eq_true]
  intro d hd
  obtain ⟨n, _, rfl⟩ := List.mem_map.mp hd
  rfl
theorem keyB_t (x : Tup Int) : keyB (Datum.toD x) = true := keyAll_ints x.items
theorem keysB_t (l : List (Tup Int)) : keysB (l.map Datum.toD) = true := by
  unfold keysB
  rw [Bool.or_eq_true]
  left
  rw [List.all_eq_true]
  intro d hd
  obtain ⟨n, _, rfl⟩ := List.mem_map.mp hd
  show (keyAll (n.items.map Datum.toD) && decide (PyData.depthAll (n.items.map Datum.toD) ≤ 7)) = true
  rw [show keyAll (n.items.map Datum.toD) = true from keyAll_ints n.items, decide_eq_true (Nat.le_trans (W.depthAll_map n.items) (by decide))]
  rfl
theorem sortB_t {l : List (Tup Int)} (h : ∀ x ∈ l, x.items ≠ []) : sortB (l.map Datum.toD) = true := by
  unfold sortB
  rw [Bool.or_eq_true]
  left
  rw [List.all_eq_true]
  intro d hd
  obtain ⟨n, hn, rfl⟩ := List.mem_map.mp hd
  obtain ⟨ys⟩ := n
  cases ys with
  | nil => exact absurd rfl (h _ hn)
  | cons y ys => rfl
section
variable {G : Str → List Vl → M Vl} {e e' : Env} {s : St}
theorem p_ssetI {a : CE} {l m : List Int} (h : Ep G e s a (tv l)) (hl : l.length < 64) (hm : ∀ x, x ∈ m ↔ x ∈ l) (ha : m.Pairwise fun x y => x < y) : Ep G e s (.prim .sortedset a .nil) (tv m) :=
  p_prim h p_nil (sset_is hl (keysB_i l) (fun _ _ => rfl) (by decide) (fun m _ => sortB_i m) hm (ha.imp fun {x y} h => decide_eq_true h))
theorem p_ssetT {a : CE} {l m : List (Tup Int)} (h : Ep G e s a (tv l)) (hl : l.length < 64) (h0 : ∀ x ∈ l, x.items ≠ []) (hm : ∀ x, x ∈ m ↔ x ∈ l) (ha : m.Pairwise fun x y => DatumOrd.lt x y = true) : Ep G e s (.prim .sortedset a .nil) (tv m) :=
  p_prim h p_nil (sset_is hl (keysB_t l) (fun x _ => keyB_t x) (by decide) (fun m hm => sortB_t fun x hx => h0 x (hm x hx)) hm ha)
theorem p_sortI {a : CE} {l m : List Int} (h : Ep G e s a (tv l)) (hn : l.Nodup) (hm : ∀ x, x ∈ m ↔ x ∈ l) (ha : m.Pairwise fun x y => x < y) : Ep G e s (.prim .sorted a .nil) (tv m) :=
  p_prim h p_nil (show sortF _ = _ from sort_is (fun _ _ => rfl) (by decide) (sortB_i l) hn hm (ha.imp fun {x y} h => decide_eq_true h))
theorem p_sortT {a : CE} {l : List (Tup Int)} (h : Ep G e s a (tv l)) (h0 : ∀ x ∈ l, x.items ≠ []) (ha : l.Pairwise fun x y => DatumOrd.lt x y = true) : Ep G e s (.prim .sorted a .nil) (tv l) :=
  p_prim h p_nil (show sortF _ = _ from sort_is (fun x _ => keyB_t x) (by decide) (sortB_t h0) (asc_nodup ha) (fun _ => Iff.rfl) ha)
end
end PF
end
section
set_option Elab.async false
set_option linter.all false
set_option maxRecDepth 100000
set_option maxHeartbeats 4000000
/-! PT: books of any kind looked at. -/
namespace PF
open PySem
open W (Tup T3 T4 Datum DatumOrd SomeDatum)
def c__law_fits_book : Fd := ⟨1, 2, (.seq (.ite (.or (.not (.prim (.isI .tuple) (.var 0) .nil)) (.or (.cmp .ne (.prim .len (.var 0) .nil) (.cst (.int (3)))) (.or (.not (.call "_law_row_of" (.cons (.slc false true (.var 0) (.cst .none) (.cst (.int (2)))) (.cons (.cst (.int (2))) (.cons (.cst (.int (1))) (.cons (.cst (.int (3))) .nil)))))) (.or (.not (.prim (.isI .tuple) (.sub (.var 0) (.cst (.int (2)))) .nil)) (.cmp .gt (.prim .len (.sub (.var 0) (.cst (.int (2)))) .nil) (.cst (.int (12)))))))) (.ret (.cst (.bool false))) .nop) (.seq (.for_ (.nm 1) (.it .seq (.cons (.sub (.var 0) (.cst (.int (2)))) .nil)) (.ite (.or (.not (.prim (.isI .tuple) (.var 1) .nil)) (.or (.cmp .ne (.prim .len (.var 1) .nil) (.cst (.int (3)))) (.or (.not (.call "_law_row_of" (.cons (.slc false true (.var 1) (.cst .none) (.cst (.int (2)))) (.cons (.cst (.int (2))) (.cons (.cst (.int (0))) (.cons (.bin .sub (.sub (.var 0) (.cst (.int (0)))) (.cst (.int (1)))) .nil)))))) (.not (.call "_law_row_of" (.cons (.sub (.var 1) (.cst (.int (2)))) (.cons (.sub (.var 0) (.cst (.int (1)))) (.cons (.neg (.cst (.int (3)))) (.cons (.cst (.int (3))) .nil))))))))) (.ret (.cst (.bool false))) .nop)) (.ret (.cmp .eq (.prim .list (.sub (.var 0) (.cst (.int (2)))) .nil) (.prim .sortedset (.sub (.var 0) (.cst (.int (2)))) .nil)))))⟩
def needB (q c : Int) : D → Bool
  | .tuple [x, y, z] => [x, y].all (wholeB 0 (q - 1)) && rowB c (-3) 3 z
  | _ => false
def ascB (l : List D) : Bool := (l.zip (l.drop 1)).all fun p : D × D => W.dataLt p.1 p.2
def bookB : D → Bool
  | .tuple [.int a, .int b, .tuple l] => ([PyData.int a, .int b].all (wholeB 1 3) && decide (l.length ≤ 12)) && (l.all (needB a b) && ascB l)
  | _ => false
theorem tup3_of (v : D) : (∃ x y z, v = .tuple [x, y, z]) ∨ (tupB 3 3 v = false ∧ bookB v = false ∧ (∀ q c, needB q c v = false) ∧ ∀ l, v = .tuple l → ¬ ((l.length : Int) = 3)) := by
  cases v with
  | tuple l =>
    match l with
    | [] => exact .inr ⟨rfl, rfl, fun _ _ => rfl, fun l e => by cases e; decide⟩
    | [a] => exact .inr ⟨rfl, by cases a <;> rfl, fun _ _ => rfl, fun l e => by cases e; simp⟩
    | [a, b] => exact .inr ⟨rfl, by cases a <;> (try rfl) <;> cases b <;> rfl, fun _ _ => rfl, fun l e => by cases e; simp⟩
    | [a, b, c] => exact .inl ⟨a, b, c, rfl⟩
    | a :: b :: c :: d :: l =>
      have n3 : ¬ ((a :: b :: c :: d :: l).length : Int) ≤ 3 := by simp only [List.length_cons]; omega
      refine .inr ⟨?_, by cases a <;> (try rfl) <;> cases b <;> (try rfl) <;> cases c <;> rfl, fun _ _ => rfl, fun l e => by cases e; omega⟩
      show (decide ((3 : Int) ≤ ((a :: b :: c :: d :: l).length : Int)) && decide (((a :: b :: c :: d :: l).length : Int) ≤ 3)) = false
      rw [decide_eq_false n3, Bool.and_false]
  | _ => exact .inr ⟨rfl, rfl, fun _ _ => rfl, fun l e => by cases e⟩
theorem whole_int {lo hi : Int} : ∀ {v : D}, wholeB lo hi v = true → ∃ i, v = .int i ∧ lo ≤ i ∧ i ≤ hi
  | .int i, h => by
    have h : (decide (lo ≤ i) && decide (i ≤ hi)) = true := h
    simp only [Bool.and_eq_true, decide_eq_true_eq] at h
    exact ⟨i, rfl, h.1, h.2⟩
  | .none, h | .bool _, h | .str _, h | .list _, h | .tuple _, h | .dict _, h => by cases h
theorem intsD_of {lo hi : Int} : ∀ {l : List D}, (∀ x ∈ l, wholeB lo hi x = true) → ∃ m : List Int, l = m.map Datum.toD ∧ ∀ x ∈ m, lo ≤ x ∧ x ≤ hi
  | [], _ => ⟨[], rfl, fun x hx => nomatch hx⟩
  | a :: l, h => by
    obtain ⟨m, e, hm⟩ := intsD_of (l := l) fun x hx => h x (List.mem_cons_of_mem _ hx)
    obtain ⟨i, e2, h2⟩ := whole_int (h a List.mem_cons_self)
    refine ⟨i :: m, by rw [e, e2]; rfl, fun x hx => ?_⟩
    rcases List.mem_cons.mp hx with rfl | hx
    · exact h2
    · exact hm x hx
theorem row_ints {c lo hi : Int} : ∀ {v : D}, rowB c lo hi v = true → ∃ l : List Int, v = tD (Tup.mk l) ∧ (l.length : Int) = c ∧ ∀ x ∈ l, lo ≤ x ∧ x ≤ hi
  | .tuple l, h => by
    have h : (decide ((l.length : Int) = c) && l.all (wholeB lo hi)) = true := h
    simp only [Bool.and_eq_true, decide_eq_true_eq, List.all_eq_true] at h
    obtain ⟨m, e, hm⟩ := intsD_of h.2
    subst e
    exact ⟨m, rfl, by rw [← h.1, List.length_map], hm⟩
  | .none, h | .bool _, h | .str _, h | .list _, h | .int _, h | .dict _, h => by cases h
theorem need_typed {q c : Int} {v : D} (h : needB q c v = true) : ∃ n : Need, v = tD n ∧ NeedOk q c n := by
  rcases tup3_of v with ⟨x, y, z, rfl⟩ | ⟨_, _, e, _⟩
  · have h : ([x, y].all (wholeB 0 (q - 1)) && rowB c (-3) 3 z) = true := h
    simp only [List.all_cons, List.all_nil, Bool.and_true, Bool.and_eq_true] at h
    obtain ⟨a, rfl, a0, a1⟩ := whole_int h.1.1
    obtain ⟨b, rfl, b0, b1⟩ := whole_int h.1.2
    obtain ⟨l, rfl, l0, l1⟩ := row_ints h.2
    exact ⟨⟨a, b, ⟨l⟩⟩, rfl, a0, by show a < q; omega, b0, by show b < q; omega, l0, l1⟩
  · rw [e] at h; cases h
theorem needs_typed {q c : Int} : ∀ {l : List D}, l.all (needB q c) = true → ∃ ns : List Need, l = ns.map Datum.toD
  | [], _ => ⟨[], rfl⟩
  | v :: l, h => by
    rw [List.all_cons, Bool.and_eq_true] at h
    obtain ⟨n, e, _⟩ := need_typed h.1
    obtain ⟨ns, e2⟩ := needs_typed h.2
    exact ⟨n :: ns, by rw [e, e2]; rfl⟩
theorem ascB_typed (ns : List Need) : ascB (ns.map Datum.toD) = ((ns.zip (ns.drop 1)).map fun p : Need × Need => DatumOrd.lt p.1 p.2).all id := by
  unfold ascB
  rw [← List.map_drop, List.zip_map, List.all_map, List.all_map]
  congr 1
  funext p
  exact DatumOrd.lt_eq p.1 p.2
section
variable {G : Str → List Vl → M Vl} {e e' : Env} {s : St}
theorem x_guT {c : CE} {b : CS} (h : Ep G e s c (tv true)) : Xs G e s (.seq (.ite c (.ret (.cst (.bool false))) .nop) b) (.rt (tv false)) := x_seqR (x_if (p := true) h (fun _ => x_ret (x := .bool false) (p_bool false)) (fun q => nomatch q))
theorem x_guF {c : CE} {a b : CS} {o : Fl} (h : Ep G e s c (tv false)) (k : Xs G e s b o) : Xs G e s (.seq (.ite c a .nop) b) o := x_seq (x_if (p := false) h (fun q => nomatch q) (fun _ => x_nop)) k
/-- a walk over any values, that may end at one that is not so -/
theorem x_forD {g : Tg} {src : CE} {body : CS} {E0 : Option Vl → Env} {p : D → Bool} {l : List D} {w : Option Vl} {v : Vl} (h : EpI G (E0 w) s src l) (hb : ∀ x w, bindT g (.d x) (E0 w) = some (E0 (some (.d x)))) (ok : ∀ x ∈ l, p x = true → Xs G (E0 (some (.d x))) s body (.nx (E0 (some (.d x)))))
    (no : ∀ x ∈ l, p x = false → Xs G (E0 (some (.d x))) s body (.rt v)) : (l.all p = true → ∃ w', Xs G (E0 w) s (.for_ g src body) (.nx (E0 w'))) ∧ (l.all p = false → Xs G (E0 w) s (.for_ g src body) (.rt v)) := by
  have key : ∀ (l : List D) (w : Option Vl), (∀ x ∈ l, p x = true → Xs G (E0 (some (.d x))) s body (.nx (E0 (some (.d x))))) → (∀ x ∈ l, p x = false → Xs G (E0 (some (.d x))) s body (.rt v)) →
      (l.all p = true → ∃ w', forLoop (fun x e => bd (opt (bindT g (.d x) e)) fun e' => ex G body e') l (E0 w) s = .ok (.nx (E0 w')) s) ∧ (l.all p = false → forLoop (fun x e => bd (opt (bindT g (.d x) e)) fun e' => ex G body e') l (E0 w) s = .ok (.rt v) s) := by
    intro l
    induction l with
    | nil => exact fun w _ _ => ⟨fun _ => ⟨w, rfl⟩, fun q => nomatch q⟩
    | cons x r ih =>
      intro w ok no
      obtain ⟨i1, i2⟩ := ih (some (.d x)) (fun y hy => ok y (List.mem_cons_of_mem _ hy)) (fun y hy => no y (List.mem_cons_of_mem _ hy))
      have st : ∀ {o : Fl}, Xs G (E0 (some (.d x))) s body o → bd (opt (bindT g (.d x) (E0 w))) (fun e' => ex G body e') s = .ok o s := fun {o} k => bd_go (m := opt _) (show _ = R.ok (E0 (some (.d x))) s by rw [hb]; rfl) k
      rw [List.all_cons, forLoop]
      cases q : p x with
      | true =>
        refine ⟨fun h => ?_, fun h => ?_⟩
        · obtain ⟨w', e1⟩ := i1 (by simpa using h)
          exact ⟨w', bd_go (st (ok x List.mem_cons_self q)) e1⟩
        · exact bd_go (st (ok x List.mem_cons_self q)) (i2 (by simpa using h))
      | false =>
        refine ⟨fun h => by simp at h, fun _ => ?_⟩
        exact bd_go (st (no x List.mem_cons_self q)) rfl
  obtain ⟨k1, k2⟩ := key l w ok no
  refine ⟨fun q => ?_, fun q => ?_⟩
  · obtain ⟨w', e1⟩ := k1 q
    refine ⟨w', ?_⟩
    show ex G _ _ s = _
    rw [ex_for]
    exact bd_go h e1
  · show ex G _ _ s = _
    rw [ex_for]
    exact bd_go h (k2 q)
end
section
variable {T : Tab} {n : Nat} {s : St}
theorem fitsneed_t (ht : Has T "is_tuple_of" c_is_tuple_of) (hw : Has T "is_whole" c_is_whole) (ha : Has T "are_whole" c_are_whole) (h : Has T "fits_need" c_fits_need) (hn : 3 ≤ n) (q c : Int) (v : D) (hc : c ≤ 1000) : run T n "fits_need" [tv q, tv c, .d v] s = .ok (tv (needB q c v)) s :=
  run_d h (by omega) rfl rfl fun m hm => (show Xs (run T m) [some (tv q), some (tv c), some (.d v)] s c_fits_need.body (.rt (tv (needB q c v))) from by
    have vq : Ep (run T m) [some (tv q), some (tv c), some (.d v)] s (.var 0) (tv q) := p_var rfl
    have vc : Ep (run T m) [some (tv q), some (tv c), some (.d v)] s (.var 1) (tv c) := p_var rfl
    have vv : Ep (run T m) [some (tv q), some (tv c), some (.d v)] s (.var 2) (.d v) := p_var rfl
    have k := p_call (p_ac vv (p_ac (p_int 3) (p_ac (p_int 3) p_a0))) (tupof_t ht (n := m) (s := s) (by omega) v 3 3)
    rcases tup3_of v with ⟨x, y, z, rfl⟩ | ⟨e1, _, e2, _⟩
    · have v2 : Ep (run T m) [some (tv q), some (tv c), some (.d (.tuple [x, y, z]))] s (.sub (.var 2) (.cst (.int (2)))) (.d z) := p_at vv (p_int 2) rfl
      have w := p_call (p_ac (p_takeD vv (p_int 2) (by decide)) (p_ac (p_int 0) (p_ac (p_sub vq (p_int 1)) p_a0))) (arewhole_t hw ha (n := m) (s := s) (by omega) [x, y] (show 2 ≤ 1000 by decide) 0 (q - 1))
      have r := row_e ht hw ha (n := m) (by omega) v2 vc (p_neg (p_int 3)) (p_int 3) hc
      have e3 : needB q c (.tuple [x, y, z]) = ([x, y].all (wholeB 0 (q - 1)) && rowB c (-3) 3 z) := rfl
      rw [e3]
      cases q1 : [x, y].all (wholeB 0 (q - 1)) with
      | true =>
        rw [q1] at w
        exact x_guF (p_orF (p_notE k rfl) (p_notE w rfl)) (x_ret r)
      | false =>
        rw [q1] at w
        exact x_guT (p_orF (p_notE k rfl) (p_notE w rfl))
    · rw [e1] at k
      rw [e2]
      exact x_guT (p_orT (p_notE k rfl)))
theorem ascends_t (h : Has T "ascends" c_ascends) (hn : 1 ≤ n) (ns : List Need) (hl : ns.length ≤ 1000) : run T n "ascends" [tv (Tup.mk ns)] s = .ok (tv (ascB (ns.map Datum.toD))) s :=
  run_d h (by omega) rfl rfl fun m hm => (show Xs (run T m) [some (tv (Tup.mk ns)), none, none] s c_ascends.body (.rt (tv (ascB (ns.map Datum.toD)))) from by
    rw [ascB_typed]
    exact x_ret (p_all (p_lcm (l := ns.zip (ns.drop 1)) (f := fun p : Need × Need => DatumOrd.lt p.1 p.2) (i_zipTT (l := Tup.mk ns) (m := Tup.mk (ns.drop 1)) (p_var rfl) (p_dropT (l := Tup.mk ns) (p_var rfl) (p_int 1) (by decide))) (fun _ => rfl) (fun x hx => p_ltD (p_var (v := tv x.1) rfl) (p_var (v := tv x.2) rfl)) (by rw [List.length_zip]; unfold line; omega))))
theorem tup12 (l : List D) : tupB 0 12 (.tuple l) = decide (l.length ≤ 12) := by
  show (decide ((0 : Int) ≤ (l.length : Int)) && decide ((l.length : Int) ≤ 12)) = _
  rw [decide_eq_true (Int.natCast_nonneg _), Bool.true_and]
  by_cases q : l.length ≤ 12
  · rw [decide_eq_true q, decide_eq_true (by omega)]
  · rw [decide_eq_false q, decide_eq_false (by omega)]
theorem bookB3 (x y z : D) : bookB (.tuple [x, y, z]) = (([x, y].all (wholeB 1 3) && tupB 0 12 z) && bookB (.tuple [x, y, z])) := by
  cases x with
  | int a =>
    cases y with
    | int b =>
      cases z with
      | tuple l =>
        rw [tup12]
        show (([PyData.int a, .int b].all (wholeB 1 3) && decide (l.length ≤ 12)) && (l.all (needB a b) && ascB l)) = (([PyData.int a, .int b].all (wholeB 1 3) && decide (l.length ≤ 12)) && (([PyData.int a, .int b].all (wholeB 1 3) && decide (l.length ≤ 12)) && (l.all (needB a b) && ascB l)))
        generalize ([PyData.int a, .int b].all (wholeB 1 3) && decide (l.length ≤ 12)) = X
        cases X <;> rfl
      | _ => simp [bookB]
    | _ => simp [bookB]
  | _ => simp [bookB]
theorem fitsbook_t (ht : Has T "is_tuple_of" c_is_tuple_of) (hw : Has T "is_whole" c_is_whole) (ha : Has T "are_whole" c_are_whole) (hf : Has T "fits_need" c_fits_need) (hs : Has T "ascends" c_ascends) (h : Has T "fits_book" c_fits_book) (hn : 4 ≤ n) (v : D) : run T n "fits_book" [.d v] s = .ok (tv (bookB v)) s :=
  run_d h (by omega) rfl rfl fun m hm => (show Xs (run T m) [some (.d v), none] s c_fits_book.body (.rt (tv (bookB v))) from by
    have vv : Ep (run T m) [some (.d v), none] s (.var 0) (.d v) := p_var rfl
    have k := p_call (p_ac vv (p_ac (p_int 3) (p_ac (p_int 3) p_a0))) (tupof_t ht (n := m) (s := s) (by omega) v 3 3)
    rcases tup3_of v with ⟨x, y, z, rfl⟩ | ⟨e1, e2, _, _⟩
    · have v2 : Ep (run T m) [some (.d (.tuple [x, y, z])), none] s (.sub (.var 0) (.cst (.int (2)))) (.d z) := p_at vv (p_int 2) rfl
      have w := p_call (p_ac (p_takeD vv (p_int 2) (by decide)) (p_ac (p_int 1) (p_ac (p_int 3) p_a0))) (arewhole_t hw ha (n := m) (s := s) (by omega) [x, y] (show 2 ≤ 1000 by decide) 1 3)
      have t := p_call (p_ac v2 (p_ac (p_int 0) (p_ac (p_int 12) p_a0))) (tupof_t ht (n := m) (s := s) (by omega) z 0 12)
      rw [bookB3]
      cases q1 : [x, y].all (wholeB 1 3) with
      | false =>
        rw [q1] at w
        exact x_guT (p_orF (p_notE k rfl) (p_orT (p_notE w rfl)))
      | true =>
        rw [q1] at w
        cases q2 : tupB 0 12 z with
        | false =>
          rw [q2] at t
          exact x_guT (p_orF (p_notE k rfl) (p_orF (p_notE w rfl) (p_notE t rfl)))
        | true =>
          rw [q2] at t
          refine x_guF (p_orF (p_notE k rfl) (p_orF (p_notE w rfl) (p_notE t rfl))) ?_
          simp only [List.all_cons, List.all_nil, Bool.and_true, Bool.and_eq_true] at q1
          obtain ⟨a, rfl, a0, a1⟩ := whole_int q1.1
          obtain ⟨b, rfl, b0, b1⟩ := whole_int q1.2
          cases z with
          | tuple l =>
            rw [tup12] at q2
            have hl := of_decide_eq_true q2
            have e3 : bookB (.tuple [.int a, .int b, .tuple l]) = (l.all (needB a b) && ascB l) := by
              show ((wholeB 1 3 (.int a) && (wholeB 1 3 (.int b) && true)) && decide (l.length ≤ 12) && _) = _
              rw [q1.1, q1.2, q2]
              rfl
            rw [Bool.true_and, e3]
            have v0 : Ep (run T m) [some (.d (.tuple [.int a, .int b, .tuple l])), none] s (.sub (.var 0) (.cst (.int (0)))) (tv a) := p_at vv (p_int 0) rfl
            have e4 : l.all (needB a b) = (l.map (needB a b)).all id := by rw [List.all_map]; rfl
            have al : Ep (run T m) [some (.d (.tuple [.int a, .int b, .tuple l])), none] s (.prim .all (.lc [1] (.nm 1) (.it .seq (.cons (.sub (.var 0) (.cst (.int (2)))) .nil)) (.cst (.bool true)) (.call "fits_need" (.cons (.sub (.var 0) (.cst (.int (0)))) (.cons (.sub (.var 0) (.cst (.int (1)))) (.cons (.var 1) .nil))))) .nil) (tv (l.all (needB a b))) := by
              rw [e4]
              refine p_all (p_lcD (f := needB a b) (i_D v2) (fun _ => rfl) (fun x hx => ?_) (by unfold line; omega))
              have vx : Ep (run T m) [some (.d (.tuple [.int a, .int b, .tuple l])), some (.d x)] s (.var 0) (.d (.tuple [.int a, .int b, .tuple l])) := p_var rfl
              exact p_call (p_ac (p_at vx (p_int 0) rfl) (p_ac (p_at vx (p_int 1) rfl) (p_ac (p_var (v := .d x) rfl) p_a0))) (fitsneed_t ht hw ha hf (by omega) a b x (by omega))
            cases q3 : l.all (needB a b) with
            | false =>
              rw [q3] at al
              exact x_ret (p_andF al)
            | true =>
              rw [q3] at al
              obtain ⟨ns, rfl⟩ := needs_typed q3
              exact x_ret (p_andT al (p_call (p_ac v2 p_a0) (ascends_t hs (by omega) ns (by rw [List.length_map] at hl; omega))))
          | _ => cases q2
    · rw [e1] at k
      rw [e2]
      exact x_guT (p_orT (p_notE k rfl)))
theorem neT {a b : Int} {G : Str → List Vl → M Vl} {e : Env} {c d : CE} (h : Ep G e s c (tv a)) (k : Ep G e s d (tv b)) (q : ¬ a = b) : Ep G e s (.cmp .ne c d) (tv true) := Ep.cast (p_ne h k) (congrArg tv (by rw [decide_eq_false q]; rfl))
theorem neF {a : Int} {G : Str → List Vl → M Vl} {e : Env} {c d : CE} (h : Ep G e s c (tv a)) (k : Ep G e s d (tv a)) : Ep G e s (.cmp .ne c d) (tv false) := Ep.cast (p_ne h k) (congrArg tv (by rw [decide_eq_true rfl]; rfl))
theorem row2 (x y : D) (lo hi : Int) : rowB 2 lo hi (.tuple [x, y]) = [x, y].all (wholeB lo hi) := rfl
theorem lfits_t (hw : Has T "_law_whole" c__law_whole) (hr : Has T "_law_row_of" c__law_row_of) (h : Has T "_law_fits_book" c__law_fits_book) (hn : 3 ≤ n) (v : D) (hp : v.plain = true) : run T n "_law_fits_book" [.d v] s = .ok (tv (bookB v)) s :=
  run_d h (by omega) rfl rfl fun m hm => (show Xs (run T m) [some (.d v), none] s c__law_fits_book.body (.rt (tv (bookB v))) from by
    have vv : Ep (run T m) [some (.d v), none] s (.var 0) (.d v) := p_var rfl
    rcases tup3_of v with ⟨x, y, z, rfl⟩ | ⟨e1, e2, _, e3⟩
    · have v2 : Ep (run T m) [some (.d (.tuple [x, y, z])), none] s (.sub (.var 0) (.cst (.int (2)))) (.d z) := p_at vv (p_int 2) rfl
      have hpl : ∀ d ∈ [x, y, z], d.plain = true := by rw [plain_tup, plainAll_iff] at hp; exact hp
      have hz : z.plain = true := hpl z (by simp)
      have w := p_call (p_ac (p_takeD vv (p_int 2) (by decide)) (p_ac (p_int 2) (p_ac (p_int 1) (p_ac (p_int 3) p_a0)))) (lrow_t hw hr (n := m) (s := s) (by omega) (.tuple [x, y]) (by show PyData.plainAll [x, y] = true; rw [plainAll_iff]; exact fun d hd => hpl d (by simp only [List.mem_cons, List.not_mem_nil, or_false] at hd ⊢; rcases hd with h | h <;> simp [h])) 2 1 3 (by decide))
      rw [row2] at w
      have i1 : Ep (run T m) [some (.d (.tuple [x, y, z])), none] s (.not (.prim (.isI .tuple) (.var 0) .nil)) (tv false) := p_notE (p_isI' vv rfl) rfl
      have i2 : Ep (run T m) [some (.d (.tuple [x, y, z])), none] s (.cmp .ne (.prim .len (.var 0) .nil) (.cst (.int (3)))) (tv false) := neF (a := 3) (p_lenD vv) (p_int 3)
      rw [bookB3]
      cases q1 : [x, y].all (wholeB 1 3) with
      | false =>
        rw [q1] at w
        exact x_guT (p_orF i1 (p_orF i2 (p_orT (p_notE w rfl))))
      | true =>
        rw [q1] at w
        cases z with
        | tuple l =>
          rw [tup12]
          have i4 : Ep (run T m) [some (.d (.tuple [x, y, .tuple l])), none] s (.not (.prim (.isI .tuple) (.sub (.var 0) (.cst (.int (2)))) .nil)) (tv false) := p_notE (p_isI' v2 rfl) rfl
          have i5 := p_gt (p_lenD v2) (p_int (G := run T m) (e := [some (.d (.tuple [x, y, .tuple l])), none]) (s := s) 12)
          by_cases q2 : l.length ≤ 12
          · rw [decide_eq_false (p := (12 : Int) < (l.length : Int)) (by omega)] at i5
            refine x_guF (p_orF i1 (p_orF i2 (p_orF (p_notE w rfl) (p_orF i4 i5)))) ?_
            simp only [List.all_cons, List.all_nil, Bool.and_true, Bool.and_eq_true] at q1
            obtain ⟨a, rfl, a0, a1⟩ := whole_int q1.1
            obtain ⟨b, rfl, b0, b1⟩ := whole_int q1.2
            have e3 : bookB (.tuple [.int a, .int b, .tuple l]) = (l.all (needB a b) && ascB l) := by
              show ((wholeB 1 3 (.int a) && (wholeB 1 3 (.int b) && true)) && decide (l.length ≤ 12) && _) = _
              rw [q1.1, q1.2, decide_eq_true q2]
              rfl
            rw [e3, decide_eq_true q2, Bool.true_and, Bool.true_and]
            have lp : ∀ d ∈ l, d.plain = true := by rw [plain_tup, plainAll_iff] at hz; exact hz
            have loop := x_forD (G := run T m) (s := s) (g := .nm 1) (src := .it .seq (.cons (.sub (.var 0) (.cst (.int (2)))) .nil)) (body := (.ite (.or (.not (.prim (.isI .tuple) (.var 1) .nil)) (.or (.cmp .ne (.prim .len (.var 1) .nil) (.cst (.int (3)))) (.or (.not (.call "_law_row_of" (.cons (.slc false true (.var 1) (.cst .none) (.cst (.int (2)))) (.cons (.cst (.int (2))) (.cons (.cst (.int (0))) (.cons (.bin .sub (.sub (.var 0) (.cst (.int (0)))) (.cst (.int (1)))) .nil)))))) (.not (.call "_law_row_of" (.cons (.sub (.var 1) (.cst (.int (2)))) (.cons (.sub (.var 0) (.cst (.int (1)))) (.cons (.neg (.cst (.int (3)))) (.cons (.cst (.int (3))) .nil))))))))) (.ret (.cst (.bool false))) .nop)) (E0 := fun w => [some (.d (.tuple [.int a, .int b, .tuple l])), w]) (p := needB a b) (l := l) (w := none) (v := tv false) (i_D v2) (fun _ _ => rfl) (fun d hd q => ?_) (fun d hd q => ?_)
            · cases q3 : l.all (needB a b) with
              | false => exact x_seqR (loop.2 q3)
              | true =>
                obtain ⟨w', lo⟩ := loop.1 q3
                obtain ⟨ns, rfl⟩ := needs_typed q3
                have v3 : Ep (run T m) [some (.d (.tuple [.int a, .int b, .tuple (ns.map Datum.toD)])), w'] s (.sub (.var 0) (.cst (.int (2)))) (tv (Tup.mk ns)) := p_at (p_var (v := .d (.tuple [.int a, .int b, .tuple (ns.map Datum.toD)])) rfl) (p_int 2) rfl
                have hn64 : ns.length < 64 := by rw [List.length_map] at q2; omega
                obtain ⟨mm, m1, m2, m3, _⟩ := sset_ne ns hn64
                have st : Ep (run T m) [some (.d (.tuple [.int a, .int b, .tuple (ns.map Datum.toD)])), w'] s (.prim .sortedset (.sub (.var 0) (.cst (.int (2)))) .nil) (tv mm) := p_prim v3 p_nil (show primF .sortedset [.list (ns.map ne)] = _ from m1)
                have ee : (decide (ns = mm)) = ascB (ns.map Datum.toD) := by
                  rw [ascB_typed, Bool.eq_iff_iff, decide_eq_true_iff, asc_pair]
                  exact ⟨fun e => e ▸ m3, fun ha => asc_uniq ha m3 fun x => (m2 x).symm⟩
                rw [Bool.true_and, ← ee]
                exact x_seq lo (x_ret (p_eq (p_listT v3) st))
            · obtain ⟨nd, e5, ok⟩ := need_typed q
              have vd : Ep (run T m) [some (.d (.tuple [.int a, .int b, .tuple l])), some (.d d)] s (.var 1) (.d d) := p_var rfl
              have vb : Ep (run T m) [some (.d (.tuple [.int a, .int b, .tuple l])), some (.d d)] s (.var 0) (.d (.tuple [.int a, .int b, .tuple l])) := p_var rfl
              rcases tup3_of d with ⟨x, y, z, rfl⟩ | ⟨_, _, f3, _⟩
              · have dp : ∀ u ∈ [x, y, z], u.plain = true := by have := lp _ hd; rw [plain_tup, plainAll_iff] at this; exact this
                have q : ([x, y].all (wholeB 0 (a - 1)) && rowB b (-3) 3 z) = true := q
                rw [Bool.and_eq_true] at q
                have r1 := p_call (p_ac (p_takeD vd (p_int 2) (by decide)) (p_ac (p_int 2) (p_ac (p_int 0) (p_ac (p_sub (p_at (z := .int a) vb (p_int 0) rfl) (p_int 1)) p_a0)))) (lrow_t hw hr (n := m) (s := s) (by omega) (.tuple [x, y]) (by show PyData.plainAll [x, y] = true; rw [plainAll_iff]; exact fun u hu => dp u (by simp only [List.mem_cons, List.not_mem_nil, or_false] at hu ⊢; rcases hu with h | h <;> simp [h])) 2 0 (a - 1) (by decide))
                rw [row2, q.1] at r1
                have r2 := p_call (p_ac (p_at vd (p_int 2) rfl) (p_ac (p_at (z := .int b) vb (p_int 1) rfl) (p_ac (p_neg (p_int 3)) (p_ac (p_int 3) p_a0)))) (lrow_t hw hr (n := m) (s := s) (by omega) z (plainT_of (dp z (by simp))) b (-3) 3 (by omega))
                rw [q.2] at r2
                exact x_if (p := false) (p_orF (p_notE (p_isI' vd rfl) rfl) (p_orF (neF (a := 3) (p_lenD vd) (p_int 3)) (p_orF (p_notE r1 rfl) (p_notE r2 rfl)))) (fun q => nomatch q) (fun _ => x_nop)
              · rw [f3] at q; cases q
            · have vd : Ep (run T m) [some (.d (.tuple [.int a, .int b, .tuple l])), some (.d d)] s (.var 1) (.d d) := p_var rfl
              have vb : Ep (run T m) [some (.d (.tuple [.int a, .int b, .tuple l])), some (.d d)] s (.var 0) (.d (.tuple [.int a, .int b, .tuple l])) := p_var rfl
              have fin : ∀ {c : CE}, Ep (run T m) [some (.d (.tuple [.int a, .int b, .tuple l])), some (.d d)] s c (tv true) → Xs (run T m) [some (.d (.tuple [.int a, .int b, .tuple l])), some (.d d)] s (.ite c (.ret (.cst (.bool false))) .nop) (.rt (tv false)) := fun {c} k => x_if (p := true) k (fun _ => x_ret (x := .bool false) (p_bool false)) (fun q => nomatch q)
              rcases tup3_of d with ⟨x, y, z, rfl⟩ | ⟨_, _, _, f4⟩
              · have dp : ∀ u ∈ [x, y, z], u.plain = true := by have := lp _ hd; rw [plain_tup, plainAll_iff] at this; exact this
                have q : ([x, y].all (wholeB 0 (a - 1)) && rowB b (-3) 3 z) = false := q
                have r1 := p_call (p_ac (p_takeD vd (p_int 2) (by decide)) (p_ac (p_int 2) (p_ac (p_int 0) (p_ac (p_sub (p_at (z := .int a) vb (p_int 0) rfl) (p_int 1)) p_a0)))) (lrow_t hw hr (n := m) (s := s) (by omega) (.tuple [x, y]) (by show PyData.plainAll [x, y] = true; rw [plainAll_iff]; exact fun u hu => dp u (by simp only [List.mem_cons, List.not_mem_nil, or_false] at hu ⊢; rcases hu with h | h <;> simp [h])) 2 0 (a - 1) (by decide))
                rw [row2] at r1
                have r2 := p_call (p_ac (p_at vd (p_int 2) rfl) (p_ac (p_at (z := .int b) vb (p_int 1) rfl) (p_ac (p_neg (p_int 3)) (p_ac (p_int 3) p_a0)))) (lrow_t hw hr (n := m) (s := s) (by omega) z (plainT_of (dp z (by simp))) b (-3) 3 (by omega))
                cases q4 : [x, y].all (wholeB 0 (a - 1)) with
                | false =>
                  rw [q4] at r1
                  exact fin (p_orF (p_notE (p_isI' vd rfl) rfl) (p_orF (neF (a := 3) (p_lenD vd) (p_int 3)) (p_orT (p_notE r1 rfl))))
                | true =>
                  rw [q4] at r1 q
                  rw [Bool.true_and] at q
                  rw [q] at r2
                  exact fin (p_orF (p_notE (p_isI' vd rfl) rfl) (p_orF (neF (a := 3) (p_lenD vd) (p_int 3)) (p_orF (p_notE r1 rfl) (p_notE r2 rfl))))
              · cases d with
                | tuple u => exact fin (p_orF (p_notE (p_isI' vd rfl) rfl) (p_orT (neT (p_lenD vd) (p_int 3) (f4 u rfl))))
                | _ => exact fin (p_orT (p_notE (p_isI' vd rfl) rfl))
          · rw [decide_eq_true (p := (12 : Int) < (l.length : Int)) (by omega)] at i5
            rw [decide_eq_false q2, Bool.and_false, Bool.false_and]
            exact x_guT (p_orF i1 (p_orF i2 (p_orF (p_notE w rfl) (p_orF i4 i5))))
        | _ => exact x_guT (p_orF i1 (p_orF i2 (p_orF (p_notE w rfl) (p_orT (p_notE (p_isI' v2 rfl) rfl)))))
    · rw [e2]
      cases v with
      | tuple l => exact x_guT (p_orF (p_notE (p_isI' vv rfl) rfl) (p_orT (neT (p_lenD vv) (p_int 3) (e3 l rfl))))
      | _ => exact x_guT (p_orT (p_notE (p_isI' vv rfl) rfl)))
end
end PF
end
section
set_option Elab.async false
set_option linter.all false
set_option maxRecDepth 100000
set_option maxHeartbeats 4000000
/-! PU: what leads where, among three at most. -/
namespace PF
open PySem
open W (Tup T3 T4 Datum DatumOrd SomeDatum)
abbrev B3 := Bool × Bool × Bool
abbrev M9 := B3 × B3 × B3
def getB (b : B3) (x : Int) : Bool := if x = 0 then b.1 else if x = 1 then b.2.1 else if x = 2 then b.2.2 else false
def rowM (m : M9) (x : Int) : B3 := if x = 0 then m.1 else if x = 1 then m.2.1 else if x = 2 then m.2.2 else (false, false, false)
def three : List Int := [0, 1, 2]
def bits (l : List Int) : B3 := (decide (0 ∈ l), decide (1 ∈ l), decide (2 ∈ l))
def pick (p : Int → Bool) : List Int := three.filter p
/-- each bit looked at once -/
def forceB {α : Type} (b : B3) (k : B3 → α) : α := match b with
  | (true, true, true) => k (true, true, true)
  | (true, true, false) => k (true, true, false)
  | (true, false, true) => k (true, false, true)
  | (true, false, false) => k (true, false, false)
  | (false, true, true) => k (false, true, true)
  | (false, true, false) => k (false, true, false)
  | (false, false, true) => k (false, false, true)
  | (false, false, false) => k (false, false, false)
theorem forceB_eq {α : Type} (b : B3) (k : B3 → α) : forceB b k = k b := by
  obtain ⟨x, y, z⟩ := b
  cases x <;> cases y <;> cases z <;> rfl
def stepB (m : M9) (st : B3 × B3) : B3 × B3 :=
  let fr : B3 := (!st.1.1 && (st.2.1 && m.1.1 || (st.2.2.1 && m.2.1.1 || st.2.2.2 && m.2.2.1)), !st.1.2.1 && (st.2.1 && m.1.2.1 || (st.2.2.1 && m.2.1.2.1 || st.2.2.2 && m.2.2.2.1)), !st.1.2.2 && (st.2.1 && m.1.2.2 || (st.2.2.1 && m.2.1.2.2 || st.2.2.2 && m.2.2.2.2)))
  ((st.1.1 || fr.1, st.1.2.1 || fr.2.1, st.1.2.2 || fr.2.2), fr)
def iterB (m : M9) : Nat → B3 × B3 → B3 × B3
  | 0, st => st
  | n + 1, st => forceB (stepB m st).1 fun a => forceB (stepB m st).2 fun b => iterB m n (a, b)
theorem iterB_s (m : M9) (n : Nat) (st : B3 × B3) : iterB m (n + 1) st = iterB m n (stepB m st) := by
  rw [iterB, forceB_eq, forceB_eq]
theorem stepB_stop (m : M9) (f : B3) : stepB m (f, (false, false, false)) = (f, (false, false, false)) := by
  obtain ⟨a, b, c⟩ := f
  cases a <;> cases b <;> cases c <;> rfl
theorem iterB_stop (m : M9) (f : B3) : ∀ n, iterB m n (f, (false, false, false)) = (f, (false, false, false))
  | 0 => rfl
  | n + 1 => by rw [iterB_s, stepB_stop, iterB_stop m f n]
def reachB (m : M9) (i : Int) : B3 := (iterB m 4 ((false, false, false), bits [i])).1
theorem ends_B : ∀ a b c d e f g h i : Bool, ∀ q ∈ three, (iterB ((a, b, c), (d, e, f), (g, h, i)) 4 ((false, false, false), bits [q])).2 = (false, false, false) := by
  decide +kernel
/-- a walk that is mirrored by the bits -/
theorem whl_bits {c : List Int × List Int → Bool} {f : List Int × List Int → List Int × List Int} {I : List Int × List Int → Prop} {m : M9} (hI : ∀ st, I st → c st = true → I (f st)) (hc : ∀ st, c st = !decide (st.2 = []))
    (hl : ∀ st, I st → ∀ x ∈ st.2, x ∈ three) (hf : ∀ st, I st → (bits (f st).1, bits (f st).2) = stepB m (bits st.1, bits st.2)) : ∀ (n : Nat) (st : List Int × List Int), I st → (bits (whl c f n st).1, bits (whl c f n st).2) = iterB m n (bits st.1, bits st.2) ∧ I (whl c f n st)
  | 0, st, h => ⟨rfl, h⟩
  | n + 1, st, h => by
    rw [whl]
    cases q : c st with
    | true =>
      have := whl_bits hI hc hl hf n (f st) (hI st h q)
      rw [if_pos rfl, iterB_s, ← hf st h]
      exact this
    | false =>
      rw [hc] at q
      have e : st.2 = [] := by simpa using q
      rw [if_neg (by simp), e]
      exact ⟨(iterB_stop m _ (n + 1)).symm, h⟩
theorem bits_nil {l : List Int} (h : ∀ x ∈ l, x ∈ three) (e : bits l = (false, false, false)) : l = [] := by
  cases l with
  | nil => rfl
  | cons a l =>
    have ha := h a List.mem_cons_self
    simp only [bits, Prod.mk.injEq, decide_eq_false_iff_not] at e
    simp only [three, List.mem_cons, List.not_mem_nil, or_false] at ha
    rcases ha with rfl | rfl | rfl
    · exact absurd List.mem_cons_self e.1
    · exact absurd List.mem_cons_self e.2.1
    · exact absurd List.mem_cons_self e.2.2
theorem bits_app (l m : List Int) : bits (l ++ m) = ((bits l).1 || (bits m).1, (bits l).2.1 || (bits m).2.1, (bits l).2.2 || (bits m).2.2) := by
  simp only [bits, List.mem_append, Bool.decide_or]
theorem bits_mem {l : List Int} {x : Int} (hx : x ∈ three) : getB (bits l) x = decide (x ∈ l) := by
  simp only [three, List.mem_cons, List.not_mem_nil, or_false] at hx
  rcases hx with rfl | rfl | rfl <;> rfl
theorem mem_bits {l : List Int} (h : ∀ x ∈ l, x ∈ three) (x : Int) : x ∈ l ↔ x ∈ three ∧ getB (bits l) x = true := by
  constructor
  · exact fun hx => ⟨h x hx, by rw [bits_mem (h x hx)]; exact decide_eq_true hx⟩
  · rintro ⟨h1, h2⟩
    rw [bits_mem h1] at h2
    exact of_decide_eq_true h2
theorem pick_mem {p : Int → Bool} {x : Int} : x ∈ pick p ↔ x ∈ three ∧ p x = true := List.mem_filter
theorem pick_asc (p : Int → Bool) : (pick p).Pairwise fun x y => x < y := List.Pairwise.filter _ (by decide)
theorem pick_nodup (p : Int → Bool) : (pick p).Nodup := (pick_asc p).imp fun {a b} h e => by omega
theorem pick_len (p : Int → Bool) : (pick p).length ≤ 3 := List.length_filter_le _ _
theorem pick_congr {p q : Int → Bool} (h : ∀ x ∈ three, p x = q x) : pick p = pick q := List.filter_congr h
/-- who leads to whom -/
def adjB (l : List Need) (i o : Int) : Bool := l.any fun n => decide (n.a = i) && decide (n.b = o)
def adjM (l : List Need) : M9 := ((adjB l 0 0, adjB l 0 1, adjB l 0 2), (adjB l 1 0, adjB l 1 1, adjB l 1 2), (adjB l 2 0, adjB l 2 1, adjB l 2 2))
def rawL (l : List Need) (st : List Int × List Int) : List Int := (l.filter fun n : Need => decide (n.a ∈ st.2) && !decide (n.b ∈ st.1)).map fun n : Need => n.b
structure In3 (l : List Need) : Prop where
  len : l.length ≤ 12
  ok : ∀ n ∈ l, n.a ∈ three ∧ n.b ∈ three
theorem raw_3 {l : List Need} (h : In3 l) (st : List Int × List Int) : ∀ x ∈ rawL l st, x ∈ three := fun x hx => by
  obtain ⟨n, hn, rfl⟩ := List.mem_map.mp hx
  exact (h.ok n (List.mem_filter.mp hn).1).2
theorem raw_len {l : List Need} (h : In3 l) (st : List Int × List Int) : (rawL l st).length ≤ 12 := by
  unfold rawL
  rw [List.length_map]
  exact Nat.le_trans (List.length_filter_le _ _) h.len
theorem raw_not {l : List Need} {st : List Int × List Int} {x : Int} (hx : x ∈ rawL l st) : x ∉ st.1 := by
  obtain ⟨n, hn, rfl⟩ := List.mem_map.mp hx
  have := (List.mem_filter.mp hn).2
  simp only [Bool.and_eq_true, Bool.not_eq_true', decide_eq_false_iff_not] at this
  exact this.2
theorem raw_bit {l : List Need} (h : In3 l) (st : List Int × List Int) (o : Int) : decide (o ∈ rawL l st) = (!decide (o ∈ st.1) && (decide (0 ∈ st.2) && adjB l 0 o || (decide (1 ∈ st.2) && adjB l 1 o || decide (2 ∈ st.2) && adjB l 2 o))) := by
  rw [Bool.eq_iff_iff, decide_eq_true_iff]
  simp only [decide_eq_true_eq, Bool.and_eq_true, Bool.or_eq_true, Bool.not_eq_true', decide_eq_false_iff_not, adjB, List.any_eq_true]
  constructor
  · intro hx
    obtain ⟨n, hz, rfl⟩ := List.mem_map.mp (show o ∈ List.map _ _ from hx)
    obtain ⟨hn, hz⟩ := List.mem_filter.mp hz
    simp only [Bool.and_eq_true, Bool.not_eq_true', decide_eq_false_iff_not, decide_eq_true_eq] at hz
    obtain ⟨h1, h2⟩ := hz
    refine ⟨h2, ?_⟩
    have h3 := (h.ok n hn).1
    simp only [three, List.mem_cons, List.not_mem_nil, or_false] at h3
    rcases h3 with e | e | e <;> rw [e] at h1
    · exact .inl ⟨h1, n, hn, e, rfl⟩
    · exact .inr (.inl ⟨h1, n, hn, e, rfl⟩)
    · exact .inr (.inr ⟨h1, n, hn, e, rfl⟩)
  · rintro ⟨h2, ⟨h1, n, hn, e, rfl⟩ | ⟨h1, n, hn, e, rfl⟩ | ⟨h1, n, hn, e, rfl⟩⟩ <;> exact List.mem_map.mpr ⟨n, List.mem_filter.mpr ⟨hn, by rw [e, decide_eq_true h1, decide_eq_false h2]; rfl⟩, rfl⟩
theorem bits_pick {l : List Need} (h : In3 l) (st : List Int × List Int) : bits (pick fun o => decide (o ∈ rawL l st)) = bits (rawL l st) := by
  have e : ∀ x ∈ three, decide (x ∈ pick fun o => decide (o ∈ rawL l st)) = decide (x ∈ rawL l st) := fun x hx => by
    rw [Bool.eq_iff_iff, decide_eq_true_iff, decide_eq_true_iff, pick_mem, decide_eq_true_iff]
    exact ⟨fun h => h.2, fun h => ⟨hx, h⟩⟩
  unfold bits
  rw [e 0 (by decide), e 1 (by decide), e 2 (by decide)]
theorem raw_step {l : List Need} (h : In3 l) (st : List Int × List Int) : (bits (st.1 ++ pick fun o => decide (o ∈ rawL l st)), bits (rawL l st)) = stepB (adjM l) (bits st.1, bits st.2) := by
  rw [bits_app, bits_pick h]
  unfold stepB adjM bits
  simp only [raw_bit h]
/-- a walk well begun -/
structure Led (st : List Int × List Int) : Prop where
  f : ∀ x ∈ st.1, x ∈ three
  l : ∀ x ∈ st.2, x ∈ three
  n : st.1.Nodup
theorem Led.len {st : List Int × List Int} (h : Led st) : st.1.length ≤ 3 := by
  have p : st.1.Perm (pick fun o => decide (o ∈ st.1)) := (List.perm_ext_iff_of_nodup h.n (pick_nodup _)).mpr fun x => by
    rw [pick_mem, decide_eq_true_iff]
    exact ⟨fun k => ⟨h.f x k, k⟩, fun k => k.2⟩
  rw [p.length_eq]
  exact pick_len _
theorem Led.app {l : List Need} (h : In3 l) {st : List Int × List Int} (k : Led st) (r : List Int) (hr : ∀ x ∈ r, x ∈ three) : Led (st.1 ++ pick fun o => decide (o ∈ rawL l st), r) where
  f x hx := by
    rcases List.mem_append.mp hx with hx | hx
    · exact k.f x hx
    · exact (pick_mem.mp hx).1
  l := hr
  n := List.nodup_append.mpr ⟨k.n, pick_nodup _, fun x hx y hy e => by
    subst e
    exact raw_not (of_decide_eq_true (pick_mem.mp hy).2) hx⟩
def go1 (l : List Need) (st : List Int × List Int) : List Int × List Int := (st.1 ++ pick (fun o => decide (o ∈ rawL l st)), pick (fun o => decide (o ∈ rawL l st)))
def go2 (l : List Need) (st : List Int × List Int) : List Int × List Int := (st.1 ++ pick (fun o => decide (o ∈ rawL l st)), rawL l st)
def on (st : List Int × List Int) : Bool := !decide (st.2 = [])
theorem go1_led {l : List Need} (h : In3 l) {st : List Int × List Int} (k : Led st) : Led (go1 l st) := k.app h _ fun x hx => (pick_mem.mp hx).1
theorem go2_led {l : List Need} (h : In3 l) {st : List Int × List Int} (k : Led st) : Led (go2 l st) := k.app h _ (raw_3 h st)
theorem led_0 {q : Int} (hq : q ∈ three) : Led ([], [q]) := ⟨(fun _ h => nomatch h), (fun x hx => by rw [List.mem_singleton.mp hx]; exact hq), List.nodup_nil⟩
theorem ends_of {g : List Int × List Int → List Int × List Int} {l : List Need} {q : Int} (hq : q ∈ three) (hg : ∀ st, Led st → Led (g st)) (hb : ∀ st, Led st → (bits (g st).1, bits (g st).2) = stepB (adjM l) (bits st.1, bits st.2)) :
    on (whl on g 4 ([], [q])) = false ∧ bits (whl on g 4 ([], [q])).1 = reachB (adjM l) q ∧ Led (whl on g 4 ([], [q])) := by
  obtain ⟨e, k⟩ := whl_bits (c := on) (f := g) (I := Led) (m := adjM l) (fun st h _ => hg st h) (fun _ => rfl) (fun st h => h.l) hb 4 ([], [q]) (led_0 hq)
  have e2 := congrArg Prod.snd e
  have e1 := congrArg Prod.fst e
  refine ⟨?_, e1, k⟩
  have z : bits (whl on g 4 ([], [q])).2 = (false, false, false) := e2.trans (ends_B _ _ _ _ _ _ _ _ _ q hq)
  show (!decide _) = false
  rw [decide_eq_true (bits_nil k.l z)]
  rfl
theorem ends_1 {l : List Need} (h : In3 l) {q : Int} (hq : q ∈ three) : on (whl on (go1 l) 4 ([], [q])) = false ∧ bits (whl on (go1 l) 4 ([], [q])).1 = reachB (adjM l) q ∧ Led (whl on (go1 l) 4 ([], [q])) :=
  ends_of hq (fun st k => go1_led h k) fun st k => by
    rw [← raw_step h st]
    show (bits (st.1 ++ pick fun o => decide (o ∈ rawL l st)), bits (pick fun o => decide (o ∈ rawL l st))) = _
    rw [bits_pick h]
theorem ends_2 {l : List Need} (h : In3 l) {q : Int} (hq : q ∈ three) : on (whl on (go2 l) 4 ([], [q])) = false ∧ bits (whl on (go2 l) 4 ([], [q])).1 = reachB (adjM l) q ∧ Led (whl on (go2 l) 4 ([], [q])) :=
  ends_of hq (fun st k => go2_led h k) fun st k => raw_step h st
/-- those led to, in order -/
def ledF (b : Book) (q : Int) : List Int := pick (getB (reachB (adjM b.c.items) q))
def leadsF (b : Book) (q : Int) : List Int := (whl on (go2 b.c.items) 4 ([], [q])).1
theorem leads_mem {b : Book} (h : In3 b.c.items) {q : Int} (hq : q ∈ three) (x : Int) : x ∈ leadsF b q ↔ x ∈ ledF b q := by
  obtain ⟨_, e, k⟩ := ends_2 h hq
  rw [show (x ∈ leadsF b q ↔ _) from mem_bits k.f x, e]
  exact pick_mem.symm
def c_led_to : Fd := ⟨2, 8, (.seq (.asg (.cons (.nm 2) (.cons (.nm 3) .nil)) (.tup (.cons (.lst .nil) (.cons (.lst (.cons (.var 1) .nil)) .nil)))) (.seq (.whl (.cmp .ne (.var 3) (.lst .nil)) (.seq (.asgs [(false, 4, (.prim .sortedset (.lc [5, 6, 7] (.cons (.nm 5) (.cons (.nm 6) (.cons (.nm 7) .nil))) (.it .seq (.cons (.sub (.var 0) (.cst (.int (2)))) .nil)) (.and (.cmp .isin (.var 5) (.var 3)) (.cmp .notin (.var 6) (.var 2))) (.var 6)) .nil))]) (.asg (.cons (.nm 2) (.cons (.nm 3) .nil)) (.tup (.cons (.bin .add (.var 2) (.var 4)) (.cons (.var 4) .nil)))))) (.ret (.prim .sorted (.var 2) .nil))))⟩
def c__law_leads : Fd := ⟨2, 6, (.seq (.asg (.cons (.nm 2) (.cons (.nm 3) .nil)) (.tup (.cons (.lst .nil) (.cons (.lst (.cons (.var 1) .nil)) .nil)))) (.seq (.whl (.cmp .ne (.var 3) (.lst .nil)) (.seq (.asgs [(false, 4, (.lc [5] (.nm 5) (.it .seq (.cons (.sub (.var 0) (.cst (.int (2)))) .nil)) (.and (.cmp .isin (.sub (.var 5) (.cst (.int (0)))) (.var 3)) (.cmp .notin (.sub (.var 5) (.cst (.int (1)))) (.var 2))) (.sub (.var 5) (.cst (.int (1))))))]) (.asg (.cons (.nm 2) (.cons (.nm 3) .nil)) (.tup (.cons (.bin .add (.var 2) (.prim .sortedset (.var 4) .nil)) (.cons (.var 4) .nil)))))) (.ret (.var 2))))⟩
section
variable {T : Tab} {n : Nat} {s : St}
theorem led_t (h : Has T "led_to" c_led_to) (hn : 1 ≤ n) (b : Book) (h3 : In3 b.c.items) (q : Int) (hq : q ∈ three) : run T n "led_to" [tv b, tv q] s = .ok (tv (ledF b q)) s :=
  run_d h (by omega) rfl rfl fun m hm => (show Xs (run T m) [some (tv b), some (tv q), none, none, none, none, none, none] s c_led_to.body (.rt (tv (ledF b q))) from by
    obtain ⟨e1, e2, e3⟩ := ends_1 h3 hq
    refine x_asg (x := Datum.toD (([], [q]) : List Int × List Int)) (p_p2 (p_lstN ([] : List Int) p_nil (by decide)) (p_lstN [q] (p_cons (p_var rfl) p_nil) (show 1 ≤ line by decide))) rfl ?_
    refine x_whl (E := fun (st : List Int × List Int) (j : Option Vl) => [some (tv b), some (tv q), some (tv st.1), some (tv st.2), j, none, none, none]) (c := on) (f := go1 b.c.items) (I := Led) (st := ([], [q])) (j := none) (o := fun _ => .rt (tv (ledF b q))) 4 (by decide) (led_0 hq) (fun st j _ => p_ne (p_var (v := tv st.2) rfl) (p_lstN ([] : List Int) p_nil (by decide))) (fun st j k _ => ⟨go1_led h3 k, ?_⟩) e1 (fun st' j' k e => ?_)
    · refine ⟨some (tv (pick fun o => decide (o ∈ rawL b.c.items st))), ?_⟩
      have fr : Ep (run T m) [some (tv b), some (tv q), some (tv st.1), some (tv st.2), j, none, none, none] s (.lc [5, 6, 7] (.cons (.nm 5) (.cons (.nm 6) (.cons (.nm 7) .nil))) (.it .seq (.cons (.sub (.var 0) (.cst (.int (2)))) .nil)) (.and (.cmp .isin (.var 5) (.var 3)) (.cmp .notin (.var 6) (.var 2))) (.var 6)) (tv (rawL b.c.items st)) :=
        p_lc0 (l := b.c.items) (p := fun x : Need => decide (x.a ∈ st.2) && !decide (x.b ∈ st.1)) (f := fun x : Need => x.b) (i_T (l := b.c) (p_3c (p := b) (p_var rfl))) (fun _ => rfl) (fun x hx => p_and (p_inL (x := x.a) (l := st.2) (p_var rfl) (p_var rfl)) (fun _ => p_ninL (x := x.b) (l := st.1) (p_var rfl) (p_var rfl))) (fun x hx _ => p_var (v := tv x.b) rfl) (by have := h3.len; unfold line; omega)
      refine x_seq (x_let1 (p_ssetI (m := pick fun o => decide (o ∈ rawL b.c.items st)) fr (by have := raw_len h3 st; omega) (fun x => ?_) (pick_asc _))) ?_
      · rw [pick_mem, decide_eq_true_iff]
        exact ⟨fun h => h.2, fun h => ⟨raw_3 h3 st x h, h⟩⟩
      · exact x_asg' (x := Datum.toD (go1 b.c.items st)) (p_p2 (p_addL (p_var (v := tv st.1) rfl) (p_var (v := tv (pick fun o => decide (o ∈ rawL b.c.items st))) rfl) (by have h1 := k.len; have h2 := pick_len fun o => decide (o ∈ rawL b.c.items st); rw [List.length_append]; unfold line; omega)) (p_var rfl)) rfl
    · subst e
      refine x_ret (p_sortI (l := (whl on (go1 b.c.items) 4 ([], [q])).1) (m := ledF b q) (p_var rfl) e3.n (fun x => ?_) (pick_asc _))
      rw [mem_bits e3.f x, e2]
      exact pick_mem)
theorem leads_t (h : Has T "_law_leads" c__law_leads) (hn : 1 ≤ n) (b : Book) (h3 : In3 b.c.items) (q : Int) (hq : q ∈ three) : run T n "_law_leads" [tv b, tv q] s = .ok (tv (leadsF b q)) s :=
  run_d h (by omega) rfl rfl fun m hm => (show Xs (run T m) [some (tv b), some (tv q), none, none, none, none] s c__law_leads.body (.rt (tv (leadsF b q))) from by
    obtain ⟨e1, e2, e3⟩ := ends_2 h3 hq
    refine x_asg (x := Datum.toD (([], [q]) : List Int × List Int)) (p_p2 (p_lstN ([] : List Int) p_nil (by decide)) (p_lstN [q] (p_cons (p_var rfl) p_nil) (show 1 ≤ line by decide))) rfl ?_
    refine x_whl (E := fun (st : List Int × List Int) (j : Option Vl) => [some (tv b), some (tv q), some (tv st.1), some (tv st.2), j, none]) (c := on) (f := go2 b.c.items) (I := Led) (st := ([], [q])) (j := none) (o := fun _ => .rt (tv (leadsF b q))) 4 (by decide) (led_0 hq) (fun st j _ => p_ne (p_var (v := tv st.2) rfl) (p_lstN ([] : List Int) p_nil (by decide))) (fun st j k _ => ⟨go2_led h3 k, ?_⟩) e1 (fun st' j' k e => ?_)
    · refine ⟨some (tv (rawL b.c.items st)), ?_⟩
      have fr : Ep (run T m) [some (tv b), some (tv q), some (tv st.1), some (tv st.2), j, none] s (.lc [5] (.nm 5) (.it .seq (.cons (.sub (.var 0) (.cst (.int (2)))) .nil)) (.and (.cmp .isin (.sub (.var 5) (.cst (.int (0)))) (.var 3)) (.cmp .notin (.sub (.var 5) (.cst (.int (1)))) (.var 2))) (.sub (.var 5) (.cst (.int (1))))) (tv (rawL b.c.items st)) :=
        p_lc0 (l := b.c.items) (p := fun x : Need => decide (x.a ∈ st.2) && !decide (x.b ∈ st.1)) (f := fun x : Need => x.b) (i_T (l := b.c) (p_3c (p := b) (p_var rfl))) (fun _ => rfl) (fun x hx => p_and (p_inL (l := st.2) (p_3a (p := x) (p_var rfl)) (p_var rfl)) (fun _ => p_ninL (l := st.1) (p_3b (p := x) (p_var rfl)) (p_var rfl))) (fun x hx _ => p_3b (p := x) (p_var rfl)) (by have := h3.len; unfold line; omega)
      refine x_seq (x_let1 fr) (x_asg' (x := Datum.toD (go2 b.c.items st)) (p_p2 (p_addL (p_var (v := tv st.1) rfl) (p_ssetI (l := rawL b.c.items st) (m := pick fun o => decide (o ∈ rawL b.c.items st)) (p_var rfl) (by have := raw_len h3 st; omega) (fun x => ?_) (pick_asc _)) (by have h1 := k.len; have h2 := pick_len fun o => decide (o ∈ rawL b.c.items st); rw [List.length_append]; unfold line; omega)) (p_var rfl)) rfl)
      rw [pick_mem, decide_eq_true_iff]
      exact ⟨fun h => h.2, fun h => ⟨raw_3 h3 st x h, h⟩⟩
    · subst e
      exact x_ret (p_var (v := tv (leadsF b q)) rfl))
end
end PF
end
section
set_option Elab.async false
set_option linter.all false
set_option maxRecDepth 100000
set_option maxHeartbeats 4000000
/-! PGh: rules and gains. -/
namespace PF
open PySem
def c_need_setting : Fd := ⟨1, 1, (.ite (.or (.not (.prim (.isI .str) (.var 0) .nil)) (.cmp .notin (.var 0) (.tup (.cons (.cst (.str "corner")) (.cons (.cst (.str "boxes")) .nil))))) .never .nop)⟩
def c_fits_rule : Fd := ⟨3, 4, (.seq (.ite (.or (.not (.call "is_tuple_of" (.cons (.var 2) (.cons (.cst (.int (2))) (.cons (.cst (.int (2))) .nil))))) (.not (.call "is_tuple_of" (.cons (.sub (.var 2) (.cst (.int (0)))) (.cons (.sub (.var 0) (.cst (.int (1)))) (.cons (.sub (.var 0) (.cst (.int (1)))) .nil)))))) (.ret (.cst (.bool false))) .nop) (.seq (.asgs [(false, 3, (.ite (.cmp .eq (.var 1) (.cst (.str "corner"))) (.cst (.int (0))) (.neg (.cst (.int (1000000000))))))]) (.seq (.ite (.not (.call "are_whole" (.cons (.sub (.var 2) (.cst (.int (0)))) (.cons (.var 3) (.cons (.cst (.int (1000000000))) .nil))))) (.ret (.cst (.bool false))) .nop) (.ret (.and (.call "is_tuple_of" (.cons (.sub (.var 2) (.cst (.int (1)))) (.cons (.sub (.var 0) (.cst (.int (0)))) (.cons (.sub (.var 0) (.cst (.int (0)))) .nil)))) (.call "are_whole" (.cons (.sub (.var 2) (.cst (.int (1)))) (.cons (.neg (.cst (.int (1000000000)))) (.cons (.cst (.int (1000000000))) .nil)))))))))⟩
def c_need_rule : Fd := ⟨3, 3, (.ite (.not (.call "fits_rule" (.cons (.var 0) (.cons (.var 1) (.cons (.var 2) .nil))))) .never .nop)⟩
def c_gain_in : Fd := ⟨2, 6, (.seq (.asg (.cons (.nm 2) (.cons (.nm 3) .nil)) (.var 1)) (.ret (.bin .sub (.bin .add (.prim .sum (.lc [4, 5] (.cons (.nm 4) (.cons (.nm 5) .nil)) (.it .zip (.cons (.var 2) (.cons (.sub (.var 0) (.cst (.int (2)))) .nil))) (.cst (.bool true)) (.bin .mul (.var 4) (.var 5))) .nil) (.sub (.var 3) (.sub (.var 0) (.cst (.int (0)))))) (.sub (.var 3) (.sub (.var 0) (.cst (.int (1))))))))⟩
def c_gains_in : Fd := ⟨2, 3, (.ret (.lc [2] (.nm 2) (.it .seq (.cons (.sub (.var 0) (.cst (.int (2)))) .nil)) (.cst (.bool true)) (.call "gain_in" (.cons (.var 2) (.cons (.var 1) .nil)))))⟩
def c_is_rule : Fd := ⟨3, 3, (.seq (.exp (.call "need_book" (.cons (.var 0) .nil))) (.seq (.exp (.call "need_setting" (.cons (.var 1) .nil))) (.ret (.call "fits_rule" (.cons (.var 0) (.cons (.var 1) (.cons (.var 2) .nil)))))))⟩
def c_gains_of : Fd := ⟨3, 3, (.seq (.exp (.call "need_book" (.cons (.var 0) .nil))) (.seq (.exp (.call "need_setting" (.cons (.var 1) .nil))) (.seq (.exp (.call "need_rule" (.cons (.var 0) (.cons (.var 1) (.cons (.var 2) .nil))))) (.ret (.prim .tuple (.call "gains_in" (.cons (.var 0) (.cons (.var 2) .nil))) .nil)))))⟩
def c_holds : Fd := ⟨3, 4, (.seq (.exp (.call "need_book" (.cons (.var 0) .nil))) (.seq (.exp (.call "need_setting" (.cons (.var 1) .nil))) (.seq (.exp (.call "need_rule" (.cons (.var 0) (.cons (.var 1) (.cons (.var 2) .nil))))) (.ret (.prim .all (.lc [3] (.nm 3) (.it .seq (.cons (.call "gains_in" (.cons (.var 0) (.cons (.var 2) .nil))) .nil)) (.cst (.bool true)) (.cmp .ge (.var 3) (.cst (.int (0))))) .nil)))))⟩
def c_strict_at : Fd := ⟨3, 5, (.seq (.exp (.call "need_book" (.cons (.var 0) .nil))) (.seq (.exp (.call "need_setting" (.cons (.var 1) .nil))) (.seq (.exp (.call "need_rule" (.cons (.var 0) (.cons (.var 1) (.cons (.var 2) .nil))))) (.ret (.prim .tuple (.lc [3, 4] (.cons (.nm 3) (.cons (.nm 4) .nil)) (.it .enum (.cons (.call "gains_in" (.cons (.var 0) (.cons (.var 2) .nil))) .nil)) (.cmp .ge (.var 4) (.cst (.int (1)))) (.var 3)) .nil)))))⟩
def c__law_gain : Fd := ⟨2, 6, (.seq (.asg (.cons (.nm 2) (.cons (.nm 3) .nil)) (.var 1)) (.ret (.bin .sub (.bin .add (.prim .sum (.lc [4, 5] (.cons (.nm 4) (.cons (.nm 5) .nil)) (.it .zip (.cons (.var 2) (.cons (.sub (.var 0) (.cst (.int (2)))) .nil))) (.cst (.bool true)) (.bin .mul (.var 4) (.var 5))) .nil) (.sub (.var 3) (.sub (.var 0) (.cst (.int (0)))))) (.sub (.var 3) (.sub (.var 0) (.cst (.int (1))))))))⟩
/-- a setting: true for boxes -/
def se : Bool → D
  | true => .str "boxes"
  | false => .str "corner"
abbrev Rule := W.Tup Int × W.Tup Int
def ru (r : Rule) : D := .tuple [.tuple (r.1.items.map .int), .tuple (r.2.items.map .int)]
structure RuleOk (set : Bool) (b : Book) (r : Rule) : Prop where
  l1 : (r.1.items.length : Int) = b.b
  l2 : (r.2.items.length : Int) = b.a
  s0 : ∀ x ∈ r.1.items, (if set then -1000000000 else 0) ≤ x ∧ x ≤ 1000000000
  s1 : ∀ x ∈ r.2.items, -1000000000 ≤ x ∧ x ≤ 1000000000
theorem r_setting {T : Tab} (h : Has T "need_setting" c_need_setting) (k : Nat) (set : Bool) (s : St) : run T (k + 1) "need_setting" [.d (se set)] s = .ok (.d .none) s := by
  rw [run_has h _ _ _ rfl rfl]
  cases set <;> kernel_rfl
theorem eq_set (set : Bool) : cmpF .eq (se set) (.str "corner") = some (!set) := by cases set <;> kernel_rfl
theorem eq_box (set : Bool) : cmpF .eq (se set) (.str "boxes") = some set := by cases set <;> kernel_rfl
theorem r_fitsrule {T : Tab} (hw : Has T "is_whole" c_is_whole) (ht : Has T "is_tuple_of" c_is_tuple_of) (ha : Has T "are_whole" c_are_whole) (h : Has T "fits_rule" c_fits_rule) (k : Nat) {b : Book} (bk : BookOk b) {set : Bool} {r : Rule} (ok : RuleOk set b r) (s : St) :
    run T (k + 3) "fits_rule" [.d (bo b), .d (se set), .d (ru r)] s = .ok (.d (.bool true)) s := by
  have c1 := bk.c1
  have q1 := bk.q1
  have l1 := ok.l1
  have l2 := ok.l2
  have e1 := r_istup ht (k + 1) [.tuple (r.1.items.map .int), .tuple (r.2.items.map .int)] 2 2 s
  have e2 := r_istup ht (k + 1) (r.1.items.map .int) b.b b.b s
  have e3 := r_arewhole hw ha k r.1.items (by omega) (if set then -1000000000 else 0) 1000000000 s
  have e4 := r_istup ht (k + 1) (r.2.items.map .int) b.a b.a s
  have e5 := r_arewhole hw ha k r.2.items (by omega) (-1000000000) 1000000000 s
  have b1 : (decide ((2 : Int) ≤ ([PyData.tuple (r.1.items.map .int), .tuple (r.2.items.map .int)] : List D).length) && decide ((([PyData.tuple (r.1.items.map .int), .tuple (r.2.items.map .int)] : List D).length : Int) ≤ 2)) = true := rfl
  have b2 : (decide (b.b ≤ ((r.1.items.map PyData.int).length : Int)) && decide (((r.1.items.map PyData.int).length : Int) ≤ b.b)) = true := by
    rw [List.length_map]
    simp only [Bool.and_eq_true, decide_eq_true_eq]
    omega
  have b4 : (decide (b.a ≤ ((r.2.items.map PyData.int).length : Int)) && decide (((r.2.items.map PyData.int).length : Int) ≤ b.a)) = true := by
    rw [List.length_map]
    simp only [Bool.and_eq_true, decide_eq_true_eq]
    omega
  have b3 : (r.1.items.all fun i => decide ((if set then -1000000000 else 0) ≤ i) && decide (i ≤ 1000000000)) = true := by
    rw [List.all_eq_true]
    intro x hx
    have := ok.s0 x hx
    simp only [Bool.and_eq_true, decide_eq_true_eq]
    exact this
  have b5 : (r.2.items.all fun i => decide (-1000000000 ≤ i) && decide (i ≤ 1000000000)) = true := by
    rw [List.all_eq_true]
    intro x hx
    have := ok.s1 x hx
    simp only [Bool.and_eq_true, decide_eq_true_eq]
    exact this
  rw [b1] at e1
  rw [b2] at e2
  rw [b3] at e3
  rw [b4] at e4
  rw [b5] at e5
  rw [run_has h _ _ _ rfl rfl]
  cases set with
  | true =>
    simp only [if_true] at e3
    simp only [c_fits_rule, ↓ex_for, ↓ev_lc, ↓ev_var, ↓ev_cst, ↓ev_fnv, ↓ev_nil, ↓ev_cons, ↓ev_tup, ↓ev_lst, ↓ev_neg, ↓ev_not, ↓ev_bin, ↓ev_cmp, ↓ev_chain, ↓ev_and, ↓ev_or, ↓ev_ite, ↓ev_sub, ↓ev_slc, ↓ev_rev, ↓ev_call, ↓ev_prim, ↓ev_it, ↓ex_nop, ↓ex_seq, ↓ex_asg, ↓ex_asgs, ↓ex_frz, ↓ex_exp, ↓ex_ret, ↓ex_retN, ↓ex_ite, ↓ex_whl, ↓ex_never, ↓ex_raise_, ↓ex_sets, ↓ex_app, ↓evs_nil, ↓evs_cons, ↓bd_R, bdR_ok, ↓asD_d, ↓asT_t, ↓asL_l, ↓asR_d, ↓asB_b, getV_0, getV_s, ret_ap, rD_ap, List.set_cons_zero, List.set_cons_succ, bindT_nm_d, bindT_nm_c, bindT_cons, bindT_nil, Option.bind_some, opt_some, nown_d, nown_c, List.map_cons, List.map_nil, List.replicate, List.cons_append, List.nil_append, evP_nil, evP_cons, mkO_f, setP_cons, setP_nil, cm_gt, cm_lt, cm_ge, cm_le, cm_eq, cm_ne, cm_is, cm_isnot, cm_in, cm_notin, cmp_gt, cmp_lt, cmp_ge, cmp_le, cmp_eq, cmp_ne, tr_b, cup_0, cup_1, prim_int, pm_int, add_ii, sub_ii, hasJ_0, hasJ_s, ownJ_0, ownJ_s, ↓reduceIte, eq_self, Bool.false_eq_true, set_0, set_1, List.getElem?_cons_zero, List.getElem?_cons_succ, pm_tuple, tuple_l, pm_all, pm_isI, pm_max, pm_sset, it_seq_l, it_seq_t, it_enum_l, it_enum_t, as_len, len_l, len_t, as_sum, sub_30, sub_31, sub_32, sub_20, sub_21, short0, short1, short2, short3, short4, short5, short6, short7, short8, short9, short10, short11, short12, ru, bo, e1, e2, e3, e4, e5, eq_set, Bool.not_true]
  | false =>
    simp only [Bool.false_eq_true, if_false] at e3
    simp only [c_fits_rule, ↓ex_for, ↓ev_lc, ↓ev_var, ↓ev_cst, ↓ev_fnv, ↓ev_nil, ↓ev_cons, ↓ev_tup, ↓ev_lst, ↓ev_neg, ↓ev_not, ↓ev_bin, ↓ev_cmp, ↓ev_chain, ↓ev_and, ↓ev_or, ↓ev_ite, ↓ev_sub, ↓ev_slc, ↓ev_rev, ↓ev_call, ↓ev_prim, ↓ev_it, ↓ex_nop, ↓ex_seq, ↓ex_asg, ↓ex_asgs, ↓ex_frz, ↓ex_exp, ↓ex_ret, ↓ex_retN, ↓ex_ite, ↓ex_whl, ↓ex_never, ↓ex_raise_, ↓ex_sets, ↓ex_app, ↓evs_nil, ↓evs_cons, ↓bd_R, bdR_ok, ↓asD_d, ↓asT_t, ↓asL_l, ↓asR_d, ↓asB_b, getV_0, getV_s, ret_ap, rD_ap, List.set_cons_zero, List.set_cons_succ, bindT_nm_d, bindT_nm_c, bindT_cons, bindT_nil, Option.bind_some, opt_some, nown_d, nown_c, List.map_cons, List.map_nil, List.replicate, List.cons_append, List.nil_append, evP_nil, evP_cons, mkO_f, setP_cons, setP_nil, cm_gt, cm_lt, cm_ge, cm_le, cm_eq, cm_ne, cm_is, cm_isnot, cm_in, cm_notin, cmp_gt, cmp_lt, cmp_ge, cmp_le, cmp_eq, cmp_ne, tr_b, cup_0, cup_1, prim_int, pm_int, add_ii, sub_ii, hasJ_0, hasJ_s, ownJ_0, ownJ_s, ↓reduceIte, eq_self, Bool.false_eq_true, set_0, set_1, List.getElem?_cons_zero, List.getElem?_cons_succ, pm_tuple, tuple_l, pm_all, pm_isI, pm_max, pm_sset, it_seq_l, it_seq_t, it_enum_l, it_enum_t, as_len, len_l, len_t, as_sum, sub_30, sub_31, sub_32, sub_20, sub_21, short0, short1, short2, short3, short4, short5, short6, short7, short8, short9, short10, short11, short12, ru, bo, e1, e2, e3, e4, e5, eq_set, Bool.not_true, Bool.not_false]
def gainOf (r : Rule) (n : Need) : Int := ((r.1.items.zip n.c.items).map fun p => p.1 * p.2).sum + r.2.items.getD n.a.toNat 0 - r.2.items.getD n.b.toNat 0
theorem b_mul {G : Str → List Vl → M Vl} {e0 e1 e2 e3 : Option Vl} (p : Int × Int) (h : -(2 ^ 64) < p.1 ∧ p.1 < 2 ^ 64) (s : St) :
    lcBody G [4, 5] (.cons (.nm 4) (.cons (.nm 5) .nil)) (.cst (.bool true)) (.bin .mul (.var 4) (.var 5)) [e0, e1, e2, e3, none, none] (.tuple [.int p.1, .int p.2]) s = .ok (some (.int (p.1 * p.2))) s := by
  have hm := mulOk_l (j := p.2) h
  simp only [lcBody, wipe, ↓ex_for, ↓ev_lc, ↓ev_var, ↓ev_cst, ↓ev_fnv, ↓ev_nil, ↓ev_cons, ↓ev_tup, ↓ev_lst, ↓ev_neg, ↓ev_not, ↓ev_bin, ↓ev_cmp, ↓ev_chain, ↓ev_and, ↓ev_or, ↓ev_ite, ↓ev_sub, ↓ev_slc, ↓ev_rev, ↓ev_call, ↓ev_prim, ↓ev_it, ↓ex_nop, ↓ex_seq, ↓ex_asg, ↓ex_asgs, ↓ex_frz, ↓ex_exp, ↓ex_ret, ↓ex_retN, ↓ex_ite, ↓ex_whl, ↓ex_never, ↓ex_raise_, ↓ex_sets, ↓ex_app, ↓evs_nil, ↓evs_cons, ↓bd_R, bdR_ok, ↓asD_d, ↓asT_t, ↓asL_l, ↓asR_d, ↓asB_b, getV_0, getV_s, ret_ap, rD_ap, List.set_cons_zero, List.set_cons_succ, bindT_nm_d, bindT_nm_c, bindT_cons, bindT_nil, Option.bind_some, opt_some, nown_d, nown_c, List.map_cons, List.map_nil, List.replicate, List.cons_append, List.nil_append, evP_nil, evP_cons, mkO_f, setP_cons, setP_nil, cm_gt, cm_lt, cm_ge, cm_le, cm_eq, cm_ne, cm_is, cm_isnot, cm_in, cm_notin, cmp_gt, cmp_lt, cmp_ge, cmp_le, cmp_eq, cmp_ne, tr_b, cup_0, cup_1, prim_int, pm_int, add_ii, sub_ii, hasJ_0, hasJ_s, ownJ_0, ownJ_s, ↓reduceIte, eq_self, Bool.false_eq_true, set_0, set_1, List.getElem?_cons_zero, List.getElem?_cons_succ, pm_tuple, tuple_l, pm_all, pm_isI, pm_max, pm_sset, it_seq_l, it_seq_t, it_enum_l, it_enum_t, as_len, len_l, len_t, as_sum, sub_30, sub_31, sub_32, sub_20, sub_21, short0, short1, short2, short3, short4, short5, short6, short7, short8, short9, short10, short11, short12, mul_ii hm]
theorem r_gain {T : Tab} (h : Has T "gain_in" c_gain_in) (k : Nat) {b : Book} (bk : BookOk b) {set : Bool} {r : Rule} (ok : RuleOk set b r) {n : Need} (hn : n ∈ b.c.items) (s : St) : run T (k + 1) "gain_in" [.d (ne n), .d (ru r)] s = .ok (.d (.int (gainOf r n))) s := by
  have nk := bk.ok n hn
  have c1 := bk.c1
  have l1 := ok.l1
  have l2 := ok.l2
  have a0 := nk.a0
  have a1 := nk.a1
  have b0 := nk.b0
  have b1 := nk.b1
  have hlc := lc_map (F := lcBody (run T k) _ _ _ _ [some (.d (ne n)), some (.d (ru r)), some (.d (.tuple (r.1.items.map .int))), some (.d (.tuple (r.2.items.map .int))), none, none]) (fun p : Int × Int => p.1 * p.2) (fun p => .tuple [.int p.1, .int p.2]) PyData.int (l := r.1.items.zip n.c.items) fun p hp => b_mul p (by
    have := ok.s0 p.1 (List.of_mem_zip hp).1
    split at this <;> omega) s
  have hz := zip2 .int .int r.1.items n.c.items
  have hln : (List.map PyData.int (List.map (fun p : Int × Int => p.1 * p.2) (r.1.items.zip n.c.items))).length ≤ line := by
    rw [List.length_map, List.length_map, List.length_zip]
    unfold line
    omega
  rw [run_has h _ _ _ rfl rfl]
  simp only [ne, ru] at hlc ⊢
  simp only [c_gain_in, ↓ex_for, ↓ev_lc, ↓ev_var, ↓ev_cst, ↓ev_fnv, ↓ev_nil, ↓ev_cons, ↓ev_tup, ↓ev_lst, ↓ev_neg, ↓ev_not, ↓ev_bin, ↓ev_cmp, ↓ev_chain, ↓ev_and, ↓ev_or, ↓ev_ite, ↓ev_sub, ↓ev_slc, ↓ev_rev, ↓ev_call, ↓ev_prim, ↓ev_it, ↓ex_nop, ↓ex_seq, ↓ex_asg, ↓ex_asgs, ↓ex_frz, ↓ex_exp, ↓ex_ret, ↓ex_retN, ↓ex_ite, ↓ex_whl, ↓ex_never, ↓ex_raise_, ↓ex_sets, ↓ex_app, ↓evs_nil, ↓evs_cons, ↓bd_R, bdR_ok, ↓asD_d, ↓asT_t, ↓asL_l, ↓asR_d, ↓asB_b, getV_0, getV_s, ret_ap, rD_ap, List.set_cons_zero, List.set_cons_succ, bindT_nm_d, bindT_nm_c, bindT_cons, bindT_nil, Option.bind_some, opt_some, nown_d, nown_c, List.map_cons, List.map_nil, List.replicate, List.cons_append, List.nil_append, evP_nil, evP_cons, mkO_f, setP_cons, setP_nil, cm_gt, cm_lt, cm_ge, cm_le, cm_eq, cm_ne, cm_is, cm_isnot, cm_in, cm_notin, cmp_gt, cmp_lt, cmp_ge, cmp_le, cmp_eq, cmp_ne, tr_b, cup_0, cup_1, prim_int, pm_int, add_ii, sub_ii, hasJ_0, hasJ_s, ownJ_0, ownJ_s, ↓reduceIte, eq_self, Bool.false_eq_true, set_0, set_1, List.getElem?_cons_zero, List.getElem?_cons_succ, pm_tuple, tuple_l, pm_all, pm_isI, pm_max, pm_sset, it_seq_l, it_seq_t, it_enum_l, it_enum_t, as_len, len_l, len_t, as_sum, sub_30, sub_31, sub_32, sub_20, sub_21, short0, short1, short2, short3, short4, short5, short6, short7, short8, short9, short10, short11, short12, it_zip, hz, noexc_ap hlc, short_ok hln, prim_sum, sub_ti (l := r.2.items) a0 (by omega), sub_ti (l := r.2.items) b0 (by omega), gainOf]
theorem r_lgain {T : Tab} (h : Has T "_law_gain" c__law_gain) (k : Nat) {b : Book} (bk : BookOk b) {set : Bool} {r : Rule} (ok : RuleOk set b r) {n : Need} (hn : n ∈ b.c.items) (s : St) : run T (k + 1) "_law_gain" [.d (ne n), .d (ru r)] s = .ok (.d (.int (gainOf r n))) s := by
  have nk := bk.ok n hn
  have c1 := bk.c1
  have l1 := ok.l1
  have l2 := ok.l2
  have a0 := nk.a0
  have a1 := nk.a1
  have b0 := nk.b0
  have b1 := nk.b1
  have hlc := lc_map (F := lcBody (run T k) _ _ _ _ [some (.d (ne n)), some (.d (ru r)), some (.d (.tuple (r.1.items.map .int))), some (.d (.tuple (r.2.items.map .int))), none, none]) (fun p : Int × Int => p.1 * p.2) (fun p => .tuple [.int p.1, .int p.2]) PyData.int (l := r.1.items.zip n.c.items) fun p hp => b_mul p (by
    have := ok.s0 p.1 (List.of_mem_zip hp).1
    split at this <;> omega) s
  have hz := zip2 .int .int r.1.items n.c.items
  have hln : (List.map PyData.int (List.map (fun p : Int × Int => p.1 * p.2) (r.1.items.zip n.c.items))).length ≤ line := by
    rw [List.length_map, List.length_map, List.length_zip]
    unfold line
    omega
  rw [run_has h _ _ _ rfl rfl]
  simp only [ne, ru] at hlc ⊢
  simp only [c__law_gain, ↓ex_for, ↓ev_lc, ↓ev_var, ↓ev_cst, ↓ev_fnv, ↓ev_nil, ↓ev_cons, ↓ev_tup, ↓ev_lst, ↓ev_neg, ↓ev_not, ↓ev_bin, ↓ev_cmp, ↓ev_chain, ↓ev_and, ↓ev_or, ↓ev_ite, ↓ev_sub, ↓ev_slc, ↓ev_rev, ↓ev_call, ↓ev_prim, ↓ev_it, ↓ex_nop, ↓ex_seq, ↓ex_asg, ↓ex_asgs, ↓ex_frz, ↓ex_exp, ↓ex_ret, ↓ex_retN, ↓ex_ite, ↓ex_whl, ↓ex_never, ↓ex_raise_, ↓ex_sets, ↓ex_app, ↓evs_nil, ↓evs_cons, ↓bd_R, bdR_ok, ↓asD_d, ↓asT_t, ↓asL_l, ↓asR_d, ↓asB_b, getV_0, getV_s, ret_ap, rD_ap, List.set_cons_zero, List.set_cons_succ, bindT_nm_d, bindT_nm_c, bindT_cons, bindT_nil, Option.bind_some, opt_some, nown_d, nown_c, List.map_cons, List.map_nil, List.replicate, List.cons_append, List.nil_append, evP_nil, evP_cons, mkO_f, setP_cons, setP_nil, cm_gt, cm_lt, cm_ge, cm_le, cm_eq, cm_ne, cm_is, cm_isnot, cm_in, cm_notin, cmp_gt, cmp_lt, cmp_ge, cmp_le, cmp_eq, cmp_ne, tr_b, cup_0, cup_1, prim_int, pm_int, add_ii, sub_ii, hasJ_0, hasJ_s, ownJ_0, ownJ_s, ↓reduceIte, eq_self, Bool.false_eq_true, set_0, set_1, List.getElem?_cons_zero, List.getElem?_cons_succ, pm_tuple, tuple_l, pm_all, pm_isI, pm_max, pm_sset, it_seq_l, it_seq_t, it_enum_l, it_enum_t, as_len, len_l, len_t, as_sum, sub_30, sub_31, sub_32, sub_20, sub_21, short0, short1, short2, short3, short4, short5, short6, short7, short8, short9, short10, short11, short12, it_zip, hz, noexc_ap hlc, short_ok hln, prim_sum, sub_ti (l := r.2.items) a0 (by omega), sub_ti (l := r.2.items) b0 (by omega), gainOf]
theorem r_needrule {T : Tab} (hw : Has T "is_whole" c_is_whole) (ht : Has T "is_tuple_of" c_is_tuple_of) (ha : Has T "are_whole" c_are_whole) (hf : Has T "fits_rule" c_fits_rule) (h : Has T "need_rule" c_need_rule) (k : Nat) {b : Book} (bk : BookOk b) {set : Bool} {r : Rule} (ok : RuleOk set b r) (s : St) :
    run T (k + 4) "need_rule" [.d (bo b), .d (se set), .d (ru r)] s = .ok (.d .none) s := by
  have e := r_fitsrule hw ht ha hf k bk ok s
  have hse : nown (.d (se set)) = ret (.d (se set)) := rfl
  rw [run_has h _ _ _ rfl rfl]
  simp only [c_need_rule, ↓ex_for, ↓ev_lc, ↓ev_var, ↓ev_cst, ↓ev_fnv, ↓ev_nil, ↓ev_cons, ↓ev_tup, ↓ev_lst, ↓ev_neg, ↓ev_not, ↓ev_bin, ↓ev_cmp, ↓ev_chain, ↓ev_and, ↓ev_or, ↓ev_ite, ↓ev_sub, ↓ev_slc, ↓ev_rev, ↓ev_call, ↓ev_prim, ↓ev_it, ↓ex_nop, ↓ex_seq, ↓ex_asg, ↓ex_asgs, ↓ex_frz, ↓ex_exp, ↓ex_ret, ↓ex_retN, ↓ex_ite, ↓ex_whl, ↓ex_never, ↓ex_raise_, ↓ex_sets, ↓ex_app, ↓evs_nil, ↓evs_cons, ↓bd_R, bdR_ok, ↓asD_d, ↓asT_t, ↓asL_l, ↓asR_d, ↓asB_b, getV_0, getV_s, ret_ap, rD_ap, List.set_cons_zero, List.set_cons_succ, bindT_nm_d, bindT_nm_c, bindT_cons, bindT_nil, Option.bind_some, opt_some, nown_d, nown_c, List.map_cons, List.map_nil, List.replicate, List.cons_append, List.nil_append, evP_nil, evP_cons, mkO_f, setP_cons, setP_nil, cm_gt, cm_lt, cm_ge, cm_le, cm_eq, cm_ne, cm_is, cm_isnot, cm_in, cm_notin, cmp_gt, cmp_lt, cmp_ge, cmp_le, cmp_eq, cmp_ne, tr_b, cup_0, cup_1, prim_int, pm_int, add_ii, sub_ii, hasJ_0, hasJ_s, ownJ_0, ownJ_s, ↓reduceIte, eq_self, Bool.false_eq_true, set_0, set_1, List.getElem?_cons_zero, List.getElem?_cons_succ, pm_tuple, tuple_l, pm_all, pm_isI, pm_max, pm_sset, it_seq_l, it_seq_t, it_enum_l, it_enum_t, as_len, len_l, len_t, as_sum, sub_30, sub_31, sub_32, sub_20, sub_21, short0, short1, short2, short3, short4, short5, short6, short7, short8, short9, short10, short11, short12, e, Bool.not_true]
theorem r_gainsin {T : Tab} (hg : Has T "gain_in" c_gain_in) (h : Has T "gains_in" c_gains_in) (k : Nat) {b : Book} (bk : BookOk b) {set : Bool} {r : Rule} (ok : RuleOk set b r) (s : St) : run T (k + 2) "gains_in" [.d (bo b), .d (ru r)] s = .ok (.d (.list ((b.c.items.map (gainOf r)).map .int))) s := by
  have hb : ∀ n ∈ b.c.items, lcBody (run T (k + 1)) [2] (.nm 2) (.cst (.bool true)) (.call "gain_in" (.cons (.var 2) (.cons (.var 1) .nil))) [some (.d (bo b)), some (.d (ru r)), none] (ne n) s = .ok (some (.int (gainOf r n))) s := by
    intro n hn
    have e := r_gain hg k bk ok hn s
    simp only [lcBody, wipe, ↓ex_for, ↓ev_lc, ↓ev_var, ↓ev_cst, ↓ev_fnv, ↓ev_nil, ↓ev_cons, ↓ev_tup, ↓ev_lst, ↓ev_neg, ↓ev_not, ↓ev_bin, ↓ev_cmp, ↓ev_chain, ↓ev_and, ↓ev_or, ↓ev_ite, ↓ev_sub, ↓ev_slc, ↓ev_rev, ↓ev_call, ↓ev_prim, ↓ev_it, ↓ex_nop, ↓ex_seq, ↓ex_asg, ↓ex_asgs, ↓ex_frz, ↓ex_exp, ↓ex_ret, ↓ex_retN, ↓ex_ite, ↓ex_whl, ↓ex_never, ↓ex_raise_, ↓ex_sets, ↓ex_app, ↓evs_nil, ↓evs_cons, ↓bd_R, bdR_ok, ↓asD_d, ↓asT_t, ↓asL_l, ↓asR_d, ↓asB_b, getV_0, getV_s, ret_ap, rD_ap, List.set_cons_zero, List.set_cons_succ, bindT_nm_d, bindT_nm_c, bindT_cons, bindT_nil, Option.bind_some, opt_some, nown_d, nown_c, List.map_cons, List.map_nil, List.replicate, List.cons_append, List.nil_append, evP_nil, evP_cons, mkO_f, setP_cons, setP_nil, cm_gt, cm_lt, cm_ge, cm_le, cm_eq, cm_ne, cm_is, cm_isnot, cm_in, cm_notin, cmp_gt, cmp_lt, cmp_ge, cmp_le, cmp_eq, cmp_ne, tr_b, cup_0, cup_1, prim_int, pm_int, add_ii, sub_ii, hasJ_0, hasJ_s, ownJ_0, ownJ_s, ↓reduceIte, eq_self, Bool.false_eq_true, set_0, set_1, List.getElem?_cons_zero, List.getElem?_cons_succ, pm_tuple, tuple_l, pm_all, pm_isI, pm_max, pm_sset, it_seq_l, it_seq_t, it_enum_l, it_enum_t, as_len, len_l, len_t, as_sum, sub_30, sub_31, sub_32, sub_20, sub_21, short0, short1, short2, short3, short4, short5, short6, short7, short8, short9, short10, short11, short12, e]
  have hlc := lc_map (gainOf r) ne PyData.int hb
  have hl := bk.len
  have sh : short ((b.c.items.map (gainOf r)).map PyData.int) = ret _ := short_ok (by rw [List.length_map, List.length_map]; unfold line; omega)
  rw [run_has h _ _ _ rfl rfl]
  simp only [bo] at hlc ⊢
  simp only [c_gains_in, ↓ex_for, ↓ev_lc, ↓ev_var, ↓ev_cst, ↓ev_fnv, ↓ev_nil, ↓ev_cons, ↓ev_tup, ↓ev_lst, ↓ev_neg, ↓ev_not, ↓ev_bin, ↓ev_cmp, ↓ev_chain, ↓ev_and, ↓ev_or, ↓ev_ite, ↓ev_sub, ↓ev_slc, ↓ev_rev, ↓ev_call, ↓ev_prim, ↓ev_it, ↓ex_nop, ↓ex_seq, ↓ex_asg, ↓ex_asgs, ↓ex_frz, ↓ex_exp, ↓ex_ret, ↓ex_retN, ↓ex_ite, ↓ex_whl, ↓ex_never, ↓ex_raise_, ↓ex_sets, ↓ex_app, ↓evs_nil, ↓evs_cons, ↓bd_R, bdR_ok, ↓asD_d, ↓asT_t, ↓asL_l, ↓asR_d, ↓asB_b, getV_0, getV_s, ret_ap, rD_ap, List.set_cons_zero, List.set_cons_succ, bindT_nm_d, bindT_nm_c, bindT_cons, bindT_nil, Option.bind_some, opt_some, nown_d, nown_c, List.map_cons, List.map_nil, List.replicate, List.cons_append, List.nil_append, evP_nil, evP_cons, mkO_f, setP_cons, setP_nil, cm_gt, cm_lt, cm_ge, cm_le, cm_eq, cm_ne, cm_is, cm_isnot, cm_in, cm_notin, cmp_gt, cmp_lt, cmp_ge, cmp_le, cmp_eq, cmp_ne, tr_b, cup_0, cup_1, prim_int, pm_int, add_ii, sub_ii, hasJ_0, hasJ_s, ownJ_0, ownJ_s, ↓reduceIte, eq_self, Bool.false_eq_true, set_0, set_1, List.getElem?_cons_zero, List.getElem?_cons_succ, pm_tuple, tuple_l, pm_all, pm_isI, pm_max, pm_sset, it_seq_l, it_seq_t, it_enum_l, it_enum_t, as_len, len_l, len_t, as_sum, sub_30, sub_31, sub_32, sub_20, sub_21, short0, short1, short2, short3, short4, short5, short6, short7, short8, short9, short10, short11, short12, noexc_ap hlc, sh]
end PF
end
section
set_option Elab.async false
set_option linter.all false
set_option maxRecDepth 100000
set_option maxHeartbeats 4000000
/-! PGi: the asked functions at books drawn. -/
namespace PF
open PySem
/-- the program's own defs that are asked -/
structure Asked (T : Tab) : Prop where
  hw : Has T "is_whole" c_is_whole
  ht : Has T "is_tuple_of" c_is_tuple_of
  ha : Has T "are_whole" c_are_whole
  hn : Has T "fits_need" c_fits_need
  has : Has T "ascends" c_ascends
  hf : Has T "fits_book" c_fits_book
  hb : Has T "need_book" c_need_book
  hs : Has T "need_setting" c_need_setting
  hfr : Has T "fits_rule" c_fits_rule
  hnr : Has T "need_rule" c_need_rule
  hg : Has T "gain_in" c_gain_in
  hgs : Has T "gains_in" c_gains_in
  hir : Has T "is_rule" c_is_rule
  hgo : Has T "gains_of" c_gains_of
  hh : Has T "holds" c_holds
  hst : Has T "strict_at" c_strict_at
section
variable {T : Tab} (A : Asked T) (k : Nat) {b : Book} (bk : BookOk b) {set : Bool} {r : Rule} (ok : RuleOk set b r) (s : St)
include A bk ok
theorem r_isrule : run T (k + 6) "is_rule" [.d (bo b), .d (se set), .d (ru r)] s = .ok (.d (.bool true)) s := by
  have e1 := r_needbook A.hw A.ht A.ha A.hn A.has A.hf A.hb k bk s
  have e2 := r_setting A.hs (k + 4) set s
  have e3 := r_fitsrule A.hw A.ht A.ha A.hfr (k + 2) bk ok s
  rw [run_has A.hir _ _ _ rfl rfl]
  simp only [c_is_rule, ↓ex_for, ↓ev_lc, ↓ev_var, ↓ev_cst, ↓ev_fnv, ↓ev_nil, ↓ev_cons, ↓ev_tup, ↓ev_lst, ↓ev_neg, ↓ev_not, ↓ev_bin, ↓ev_cmp, ↓ev_chain, ↓ev_and, ↓ev_or, ↓ev_ite, ↓ev_sub, ↓ev_slc, ↓ev_rev, ↓ev_call, ↓ev_prim, ↓ev_it, ↓ex_nop, ↓ex_seq, ↓ex_asg, ↓ex_asgs, ↓ex_frz, ↓ex_exp, ↓ex_ret, ↓ex_retN, ↓ex_ite, ↓ex_whl, ↓ex_never, ↓ex_raise_, ↓ex_sets, ↓ex_app, ↓evs_nil, ↓evs_cons, ↓bd_R, bdR_ok, ↓asD_d, ↓asT_t, ↓asL_l, ↓asR_d, ↓asB_b, getV_0, getV_s, ret_ap, rD_ap, List.set_cons_zero, List.set_cons_succ, bindT_nm_d, bindT_nm_c, bindT_cons, bindT_nil, Option.bind_some, opt_some, nown_d, nown_c, List.map_cons, List.map_nil, List.replicate, List.cons_append, List.nil_append, evP_nil, evP_cons, mkO_f, setP_cons, setP_nil, cm_gt, cm_lt, cm_ge, cm_le, cm_eq, cm_ne, cm_is, cm_isnot, cm_in, cm_notin, cmp_gt, cmp_lt, cmp_ge, cmp_le, cmp_eq, cmp_ne, tr_b, cup_0, cup_1, prim_int, pm_int, add_ii, sub_ii, hasJ_0, hasJ_s, ownJ_0, ownJ_s, ↓reduceIte, eq_self, Bool.false_eq_true, set_0, set_1, List.getElem?_cons_zero, List.getElem?_cons_succ, pm_tuple, tuple_l, pm_all, pm_isI, pm_max, pm_sset, it_seq_l, it_seq_t, it_enum_l, it_enum_t, as_len, len_l, len_t, as_sum, sub_30, sub_31, sub_32, sub_20, sub_21, short0, short1, short2, short3, short4, short5, short6, short7, short8, short9, short10, short11, short12, e1, e2, e3]
theorem r_gainsof : run T (k + 6) "gains_of" [.d (bo b), .d (se set), .d (ru r)] s = .ok (.d (.tuple ((b.c.items.map (gainOf r)).map .int))) s := by
  have e1 := r_needbook A.hw A.ht A.ha A.hn A.has A.hf A.hb k bk s
  have e2 := r_setting A.hs (k + 4) set s
  have e3 := r_needrule A.hw A.ht A.ha A.hfr A.hnr (k + 1) bk ok s
  have e4 := r_gainsin A.hg A.hgs (k + 3) bk ok s
  rw [run_has A.hgo _ _ _ rfl rfl]
  simp only [c_gains_of, ↓ex_for, ↓ev_lc, ↓ev_var, ↓ev_cst, ↓ev_fnv, ↓ev_nil, ↓ev_cons, ↓ev_tup, ↓ev_lst, ↓ev_neg, ↓ev_not, ↓ev_bin, ↓ev_cmp, ↓ev_chain, ↓ev_and, ↓ev_or, ↓ev_ite, ↓ev_sub, ↓ev_slc, ↓ev_rev, ↓ev_call, ↓ev_prim, ↓ev_it, ↓ex_nop, ↓ex_seq, ↓ex_asg, ↓ex_asgs, ↓ex_frz, ↓ex_exp, ↓ex_ret, ↓ex_retN, ↓ex_ite, ↓ex_whl, ↓ex_never, ↓ex_raise_, ↓ex_sets, ↓ex_app, ↓evs_nil, ↓evs_cons, ↓bd_R, bdR_ok, ↓asD_d, ↓asT_t, ↓asL_l, ↓asR_d, ↓asB_b, getV_0, getV_s, ret_ap, rD_ap, List.set_cons_zero, List.set_cons_succ, bindT_nm_d, bindT_nm_c, bindT_cons, bindT_nil, Option.bind_some, opt_some, nown_d, nown_c, List.map_cons, List.map_nil, List.replicate, List.cons_append, List.nil_append, evP_nil, evP_cons, mkO_f, setP_cons, setP_nil, cm_gt, cm_lt, cm_ge, cm_le, cm_eq, cm_ne, cm_is, cm_isnot, cm_in, cm_notin, cmp_gt, cmp_lt, cmp_ge, cmp_le, cmp_eq, cmp_ne, tr_b, cup_0, cup_1, prim_int, pm_int, add_ii, sub_ii, hasJ_0, hasJ_s, ownJ_0, ownJ_s, ↓reduceIte, eq_self, Bool.false_eq_true, set_0, set_1, List.getElem?_cons_zero, List.getElem?_cons_succ, pm_tuple, tuple_l, pm_all, pm_isI, pm_max, pm_sset, it_seq_l, it_seq_t, it_enum_l, it_enum_t, as_len, len_l, len_t, as_sum, sub_30, sub_31, sub_32, sub_20, sub_21, short0, short1, short2, short3, short4, short5, short6, short7, short8, short9, short10, short11, short12, e1, e2, e3, e4]
theorem r_holds : run T (k + 6) "holds" [.d (bo b), .d (se set), .d (ru r)] s = .ok (.d (.bool ((b.c.items.map (gainOf r)).all fun g => decide (0 ≤ g)))) s := by
  have e1 := r_needbook A.hw A.ht A.ha A.hn A.has A.hf A.hb k bk s
  have e2 := r_setting A.hs (k + 4) set s
  have e3 := r_needrule A.hw A.ht A.ha A.hfr A.hnr (k + 1) bk ok s
  have e4 := r_gainsin A.hg A.hgs (k + 3) bk ok s
  have hb : ∀ g ∈ b.c.items.map (gainOf r), lcBody (run T (k + 5)) [3] (.nm 3) (.cst (.bool true)) (.cmp .ge (.var 3) (.cst (.int (0)))) [some (.d (bo b)), some (.d (se set)), some (.d (ru r)), none] (.int g) s = .ok (some (.bool (decide (0 ≤ g)))) s := by
    intro g _
    simp only [lcBody, wipe, ↓ex_for, ↓ev_lc, ↓ev_var, ↓ev_cst, ↓ev_fnv, ↓ev_nil, ↓ev_cons, ↓ev_tup, ↓ev_lst, ↓ev_neg, ↓ev_not, ↓ev_bin, ↓ev_cmp, ↓ev_chain, ↓ev_and, ↓ev_or, ↓ev_ite, ↓ev_sub, ↓ev_slc, ↓ev_rev, ↓ev_call, ↓ev_prim, ↓ev_it, ↓ex_nop, ↓ex_seq, ↓ex_asg, ↓ex_asgs, ↓ex_frz, ↓ex_exp, ↓ex_ret, ↓ex_retN, ↓ex_ite, ↓ex_whl, ↓ex_never, ↓ex_raise_, ↓ex_sets, ↓ex_app, ↓evs_nil, ↓evs_cons, ↓bd_R, bdR_ok, ↓asD_d, ↓asT_t, ↓asL_l, ↓asR_d, ↓asB_b, getV_0, getV_s, ret_ap, rD_ap, List.set_cons_zero, List.set_cons_succ, bindT_nm_d, bindT_nm_c, bindT_cons, bindT_nil, Option.bind_some, opt_some, nown_d, nown_c, List.map_cons, List.map_nil, List.replicate, List.cons_append, List.nil_append, evP_nil, evP_cons, mkO_f, setP_cons, setP_nil, cm_gt, cm_lt, cm_ge, cm_le, cm_eq, cm_ne, cm_is, cm_isnot, cm_in, cm_notin, cmp_gt, cmp_lt, cmp_ge, cmp_le, cmp_eq, cmp_ne, tr_b, cup_0, cup_1, prim_int, pm_int, add_ii, sub_ii, hasJ_0, hasJ_s, ownJ_0, ownJ_s, ↓reduceIte, eq_self, Bool.false_eq_true, set_0, set_1, List.getElem?_cons_zero, List.getElem?_cons_succ, pm_tuple, tuple_l, pm_all, pm_isI, pm_max, pm_sset, it_seq_l, it_seq_t, it_enum_l, it_enum_t, as_len, len_l, len_t, as_sum, sub_30, sub_31, sub_32, sub_20, sub_21, short0, short1, short2, short3, short4, short5, short6, short7, short8, short9, short10, short11, short12]
  have hlc := lc_map (fun g : Int => decide (0 ≤ g)) PyData.int PyData.bool hb
  have hl := bk.len
  have sh : short (((b.c.items.map (gainOf r)).map fun g : Int => decide (0 ≤ g)).map PyData.bool) = ret _ := short_ok (by rw [List.length_map, List.length_map, List.length_map]; unfold line; omega)
  have hall : (((b.c.items.map (gainOf r)).map fun g : Int => decide (0 ≤ g)).all id) = ((b.c.items.map (gainOf r)).all fun g => decide (0 ≤ g)) := by
    rw [List.all_map]
    rfl
  rw [run_has A.hh _ _ _ rfl rfl]
  simp only [c_holds, ↓ex_for, ↓ev_lc, ↓ev_var, ↓ev_cst, ↓ev_fnv, ↓ev_nil, ↓ev_cons, ↓ev_tup, ↓ev_lst, ↓ev_neg, ↓ev_not, ↓ev_bin, ↓ev_cmp, ↓ev_chain, ↓ev_and, ↓ev_or, ↓ev_ite, ↓ev_sub, ↓ev_slc, ↓ev_rev, ↓ev_call, ↓ev_prim, ↓ev_it, ↓ex_nop, ↓ex_seq, ↓ex_asg, ↓ex_asgs, ↓ex_frz, ↓ex_exp, ↓ex_ret, ↓ex_retN, ↓ex_ite, ↓ex_whl, ↓ex_never, ↓ex_raise_, ↓ex_sets, ↓ex_app, ↓evs_nil, ↓evs_cons, ↓bd_R, bdR_ok, ↓asD_d, ↓asT_t, ↓asL_l, ↓asR_d, ↓asB_b, getV_0, getV_s, ret_ap, rD_ap, List.set_cons_zero, List.set_cons_succ, bindT_nm_d, bindT_nm_c, bindT_cons, bindT_nil, Option.bind_some, opt_some, nown_d, nown_c, List.map_cons, List.map_nil, List.replicate, List.cons_append, List.nil_append, evP_nil, evP_cons, mkO_f, setP_cons, setP_nil, cm_gt, cm_lt, cm_ge, cm_le, cm_eq, cm_ne, cm_is, cm_isnot, cm_in, cm_notin, cmp_gt, cmp_lt, cmp_ge, cmp_le, cmp_eq, cmp_ne, tr_b, cup_0, cup_1, prim_int, pm_int, add_ii, sub_ii, hasJ_0, hasJ_s, ownJ_0, ownJ_s, ↓reduceIte, eq_self, Bool.false_eq_true, set_0, set_1, List.getElem?_cons_zero, List.getElem?_cons_succ, pm_tuple, tuple_l, pm_all, pm_isI, pm_max, pm_sset, it_seq_l, it_seq_t, it_enum_l, it_enum_t, as_len, len_l, len_t, as_sum, sub_30, sub_31, sub_32, sub_20, sub_21, short0, short1, short2, short3, short4, short5, short6, short7, short8, short9, short10, short11, short12, e1, e2, e3, e4, noexc_ap hlc, sh, all_bools, hall]
end
end PF
end
section
set_option Elab.async false
set_option linter.all false
set_option maxRecDepth 100000
set_option maxHeartbeats 4000000
namespace PF
namespace K05
open PySem
open W (Tup T3 T4 Datum DatumOrd SomeDatum)
def c__law_books : Fd := ⟨0, 0, (.ret (.tup (.cons (.tup (.cons (.cst (.int (1))) (.cons (.cst (.int (2))) (.cons (.tup (.cons (.tup (.cons (.cst (.int (0))) (.cons (.cst (.int (0))) (.cons (.tup (.cons (.cst (.int (0))) (.cons (.cst (.int (1))) .nil))) .nil)))) (.cons (.tup (.cons (.cst (.int (0))) (.cons (.cst (.int (0))) (.cons (.tup (.cons (.cst (.int (1))) (.cons (.neg (.cst (.int (1)))) .nil))) .nil)))) .nil))) .nil)))) (.cons (.tup (.cons (.cst (.int (2))) (.cons (.cst (.int (1))) (.cons (.tup (.cons (.tup (.cons (.cst (.int (0))) (.cons (.cst (.int (1))) (.cons (.tup (.cons (.cst (.int (0))) .nil)) .nil)))) (.cons (.tup (.cons (.cst (.int (1))) (.cons (.cst (.int (0))) (.cons (.tup (.cons (.cst (.int (1))) .nil)) .nil)))) (.cons (.tup (.cons (.cst (.int (1))) (.cons (.cst (.int (1))) (.cons (.tup (.cons (.neg (.cst (.int (1)))) .nil)) .nil)))) .nil)))) .nil)))) .nil))))⟩
def c_ascends : Fd := ⟨1, 3, (.ret (.prim .all (.lc [1, 2] (.cons (.nm 1) (.cons (.nm 2) .nil)) (.it .zip (.cons (.var 0) (.cons (.slc true false (.var 0) (.cst (.int (1))) (.cst .none)) .nil))) (.cst (.bool true)) (.cmp .lt (.var 1) (.var 2))) .nil))⟩
def c_is_tuple_of : Fd := ⟨3, 3, (.ret (.and (.prim (.isI .tuple) (.var 0) .nil) (.chain .le .le (.var 1) (.prim .len (.var 0) .nil) (.var 2))))⟩
def c_is_whole : Fd := ⟨3, 3, (.ret (.and (.prim (.isI .int) (.var 0) .nil) (.and (.not (.prim (.isI .bool) (.var 0) .nil)) (.chain .le .le (.var 1) (.var 0) (.var 2)))))⟩
def c_are_whole : Fd := ⟨3, 4, (.ret (.prim .all (.lc [3] (.nm 3) (.it .seq (.cons (.var 0) .nil)) (.cst (.bool true)) (.call "is_whole" (.cons (.var 3) (.cons (.var 1) (.cons (.var 2) .nil))))) .nil))⟩
def c_fits_need : Fd := ⟨3, 3, (.seq (.ite (.or (.not (.call "is_tuple_of" (.cons (.var 2) (.cons (.cst (.int (3))) (.cons (.cst (.int (3))) .nil))))) (.not (.call "are_whole" (.cons (.slc false true (.var 2) (.cst .none) (.cst (.int (2)))) (.cons (.cst (.int (0))) (.cons (.bin .sub (.var 0) (.cst (.int (1)))) .nil)))))) (.ret (.cst (.bool false))) .nop) (.ret (.and (.call "is_tuple_of" (.cons (.sub (.var 2) (.cst (.int (2)))) (.cons (.var 1) (.cons (.var 1) .nil)))) (.call "are_whole" (.cons (.sub (.var 2) (.cst (.int (2)))) (.cons (.neg (.cst (.int (3)))) (.cons (.cst (.int (3))) .nil)))))))⟩
def c_fits_book : Fd := ⟨1, 2, (.seq (.ite (.or (.not (.call "is_tuple_of" (.cons (.var 0) (.cons (.cst (.int (3))) (.cons (.cst (.int (3))) .nil))))) (.or (.not (.call "are_whole" (.cons (.slc false true (.var 0) (.cst .none) (.cst (.int (2)))) (.cons (.cst (.int (1))) (.cons (.cst (.int (3))) .nil))))) (.not (.call "is_tuple_of" (.cons (.sub (.var 0) (.cst (.int (2)))) (.cons (.cst (.int (0))) (.cons (.cst (.int (12))) .nil))))))) (.ret (.cst (.bool false))) .nop) (.ret (.and (.prim .all (.lc [1] (.nm 1) (.it .seq (.cons (.sub (.var 0) (.cst (.int (2)))) .nil)) (.cst (.bool true)) (.call "fits_need" (.cons (.sub (.var 0) (.cst (.int (0)))) (.cons (.sub (.var 0) (.cst (.int (1)))) (.cons (.var 1) .nil))))) .nil) (.call "ascends" (.cons (.sub (.var 0) (.cst (.int (2)))) .nil)))))⟩
def c_need_book : Fd := ⟨1, 1, (.ite (.not (.call "fits_book" (.cons (.var 0) .nil))) .never .nop)⟩
def c_need_quantity : Fd := ⟨2, 2, (.ite (.not (.call "is_whole" (.cons (.var 1) (.cons (.cst (.int (0))) (.cons (.bin .sub (.sub (.var 0) (.cst (.int (0)))) (.cst (.int (1)))) .nil))))) .never .nop)⟩
def c_indices_of : Fd := ⟨2, 4, (.ret (.lc [2, 3] (.cons (.nm 2) (.cons (.nm 3) .nil)) (.it .enum (.cons (.sub (.var 0) (.cst (.int (2)))) .nil)) (.cmp .eq (.sub (.var 3) (.cst (.int (0)))) (.var 1)) (.var 2)))⟩
def c_needs_of : Fd := ⟨2, 2, (.seq (.exp (.call "need_book" (.cons (.var 0) .nil))) (.seq (.exp (.call "need_quantity" (.cons (.var 0) (.cons (.var 1) .nil)))) (.ret (.prim .tuple (.call "indices_of" (.cons (.var 0) (.cons (.var 1) .nil))) .nil))))⟩
def c__law_roll : Fd := ⟨2, 4, (.seq (.ite (.cmp .gt (.sub (.var 0) (.cst (.int (0)))) (.cst (.int (0)))) (.seq (.asgs [(false, 3, (.bin .mod (.prim .int (.sub (.var 0) (.cst (.int (0)))) .nil) (.var 1)))]) (.seq (.sets 0 (.cst (.int (0))) (.bin .fdiv (.sub (.var 0) (.cst (.int (0)))) (.var 1))) (.ret (.var 3)))) .nop) (.seq (.sets 0 (.cst (.int (1))) (.bin .mod (.prim .int (.bin .add (.bin .mul (.sub (.var 0) (.cst (.int (1)))) (.cst (.int (31019)))) (.cst (.int (7951)))) .nil) (.cst (.int (2147483563))))) (.seq (.asgs [(false, 2, (.bin .mod (.prim .int (.bin .mul (.sub (.var 0) (.cst (.int (1)))) (.bin .add (.sub (.var 0) (.cst (.int (1)))) (.cst (.int (223))))) .nil) (.cst (.int (2147483587)))))]) (.ret (.bin .mod (.prim .int (.bin .fdiv (.var 2) (.cst (.int (809)))) .nil) (.var 1))))))⟩
def c__law_some : Fd := ⟨2, 2, (.ret (.sub (.var 1) (.call "_law_roll" (.cons (.var 0) (.cons (.prim .len (.var 1) .nil) .nil)))))⟩
def c__law_spoilt : Fd := ⟨2, 4, (.seq (.ite (.or (.not (.prim (.isI .tuple) (.var 1) .nil)) (.or (.cmp .eq (.var 1) (.tup .nil)) (.cmp .eq (.call "_law_roll" (.cons (.var 0) (.cons (.cst (.int (5))) .nil))) (.cst (.int (0)))))) (.ret (.call "_law_some" (.cons (.var 0) (.cons (.lst (.cons (.cst .none) (.cons (.tup .nil) (.cons (.lst .nil) (.cons (.cst (.int (0))) (.cons (.cst (.int (1))) (.cons (.cst (.int (2))) (.cons (.cst (.int (3))) (.cons (.cst (.int (4))) (.cons (.neg (.cst (.int (1)))) (.cons (.neg (.cst (.int (3)))) (.cons (.neg (.cst (.int (4)))) (.cons (.cst (.bool true)) (.cons (.cst (.str "0")) (.cons (.tup (.cons (.cst (.int (0))) .nil)) (.cons (.tup (.cons (.cst (.int (1))) (.cons (.cst (.int (1))) .nil))) (.cons (.tup (.cons (.cst (.int (0))) (.cons (.cst (.int (0))) (.cons (.tup (.cons (.cst (.int (0))) .nil)) .nil)))) (.cons (.bin .pow (.cst (.int (10))) (.cst (.int (6)))) (.cons (.bin .add (.bin .pow (.cst (.int (10))) (.cst (.int (6)))) (.cst (.int (1)))) .nil))))))))))))))))))) .nil)))) .nop) (.seq (.asgs [(false, 2, (.call "_law_roll" (.cons (.var 0) (.cons (.prim .len (.var 1) .nil) .nil)))), (false, 3, (.call "_law_roll" (.cons (.var 0) (.cons (.cst (.int (9))) .nil))))]) (.seq (.ite (.cmp .lt (.var 3) (.cst (.int (2)))) (.ret (.bin .add (.bin .add (.slc false true (.var 1) (.cst .none) (.var 2)) (.slc true false (.var 1) (.bin .add (.var 2) (.var 3)) (.cst .none))) (.ite (.cmp .eq (.var 3) (.cst (.int (0)))) (.slc true true (.var 1) (.var 2) (.bin .add (.var 2) (.cst (.int (1))))) (.tup .nil)))) .nop) (.seq (.ite (.cmp .eq (.var 3) (.cst (.int (2)))) (.ret (.call "_law_some" (.cons (.var 0) (.cons (.lst (.cons (.prim .list (.var 1) .nil) (.cons (.rev (.var 1)) (.cons (.bin .add (.var 1) (.slc true false (.var 1) (.neg (.cst (.int (1)))) (.cst .none))) .nil)))) .nil)))) .nop) (.ret (.bin .add (.bin .add (.slc false true (.var 1) (.cst .none) (.var 2)) (.tup (.cons (.call "_law_spoilt" (.cons (.var 0) (.cons (.sub (.var 1) (.var 2)) .nil))) .nil))) (.slc true false (.var 1) (.bin .add (.var 2) (.cst (.int (1)))) (.cst .none))))))))⟩
def c_is_book : Fd := ⟨1, 1, (.ret (.call "fits_book" (.cons (.var 0) .nil)))⟩
def c_led_to : Fd := ⟨2, 8, (.seq (.asg (.cons (.nm 2) (.cons (.nm 3) .nil)) (.tup (.cons (.lst .nil) (.cons (.lst (.cons (.var 1) .nil)) .nil)))) (.seq (.whl (.cmp .ne (.var 3) (.lst .nil)) (.seq (.asgs [(false, 4, (.prim .sortedset (.lc [5, 6, 7] (.cons (.nm 5) (.cons (.nm 6) (.cons (.nm 7) .nil))) (.it .seq (.cons (.sub (.var 0) (.cst (.int (2)))) .nil)) (.and (.cmp .isin (.var 5) (.var 3)) (.cmp .notin (.var 6) (.var 2))) (.var 6)) .nil))]) (.asg (.cons (.nm 2) (.cons (.nm 3) .nil)) (.tup (.cons (.bin .add (.var 2) (.var 4)) (.cons (.var 4) .nil)))))) (.ret (.prim .sorted (.var 2) .nil))))⟩
def c_part_with : Fd := ⟨2, 4, (.seq (.asgs [(false, 2, (.call "led_to" (.cons (.var 0) (.cons (.var 1) .nil))))]) (.ret (.ite (.cmp .isin (.var 1) (.var 2)) (.prim .tuple (.lc [3] (.nm 3) (.it .seq (.cons (.var 2) .nil)) (.cmp .isin (.var 1) (.call "led_to" (.cons (.var 0) (.cons (.var 3) .nil)))) (.var 3)) .nil) (.cst .none))))⟩
def c_parts_in : Fd := ⟨1, 4, (.seq (.asgs [(false, 1, (.lc [2] (.nm 2) (.it .range (.cons (.sub (.var 0) (.cst (.int (0)))) .nil)) (.cst (.bool true)) (.call "part_with" (.cons (.var 0) (.cons (.var 2) .nil)))))]) (.ret (.prim .sortedset (.lc [3] (.nm 3) (.it .seq (.cons (.var 1) .nil)) (.cmp .isnot (.var 3) (.cst .none)) (.var 3)) .nil)))⟩
def c_parts_of : Fd := ⟨1, 1, (.seq (.exp (.call "need_book" (.cons (.var 0) .nil))) (.ret (.call "parts_in" (.cons (.var 0) .nil))))⟩
def c__law_leads : Fd := ⟨2, 6, (.seq (.asg (.cons (.nm 2) (.cons (.nm 3) .nil)) (.tup (.cons (.lst .nil) (.cons (.lst (.cons (.var 1) .nil)) .nil)))) (.seq (.whl (.cmp .ne (.var 3) (.lst .nil)) (.seq (.asgs [(false, 4, (.lc [5] (.nm 5) (.it .seq (.cons (.sub (.var 0) (.cst (.int (2)))) .nil)) (.and (.cmp .isin (.sub (.var 5) (.cst (.int (0)))) (.var 3)) (.cmp .notin (.sub (.var 5) (.cst (.int (1)))) (.var 2))) (.sub (.var 5) (.cst (.int (1))))))]) (.asg (.cons (.nm 2) (.cons (.nm 3) .nil)) (.tup (.cons (.bin .add (.var 2) (.prim .sortedset (.var 4) .nil)) (.cons (.var 4) .nil)))))) (.ret (.var 2))))⟩
def c__law_parts : Fd := ⟨1, 5, (.seq (.asgs [(false, 1, (.lst .nil))]) (.seq (.for_ (.nm 2) (.it .range (.cons (.sub (.var 0) (.cst (.int (0)))) .nil)) (.seq (.asgs [(false, 3, (.prim .tuple (.lc [4] (.nm 4) (.it .range (.cons (.sub (.var 0) (.cst (.int (0)))) .nil)) (.and (.cmp .isin (.var 4) (.call "_law_leads" (.cons (.var 0) (.cons (.var 2) .nil)))) (.cmp .isin (.var 2) (.call "_law_leads" (.cons (.var 0) (.cons (.var 4) .nil))))) (.var 4)) .nil))]) (.asgs [(false, 1, (.bin .add (.var 1) (.ite (.and (.cmp .isin (.var 2) (.var 3)) (.cmp .eq (.sub (.var 3) (.cst (.int (0)))) (.var 2))) (.lst (.cons (.var 3) .nil)) (.lst .nil))))]))) (.ret (.prim .sorted (.var 1) .nil))))⟩
def c__law_whole : Fd := ⟨3, 3, (.ret (.and (.prim (.isI .int) (.var 0) .nil) (.and (.not (.prim (.isI .bool) (.var 0) .nil)) (.chain .le .le (.var 1) (.var 0) (.var 2)))))⟩
def c__law_row_of : Fd := ⟨4, 5, (.ret (.and (.prim (.isI .tuple) (.var 0) .nil) (.and (.cmp .eq (.prim .len (.var 0) .nil) (.var 1)) (.cmp .eq (.lc [4] (.nm 4) (.it .seq (.cons (.var 0) .nil)) (.not (.call "_law_whole" (.cons (.var 4) (.cons (.var 2) (.cons (.var 3) .nil))))) (.var 4)) (.lst .nil)))))⟩
def c__law_fits_book : Fd := ⟨1, 2, (.seq (.ite (.or (.not (.prim (.isI .tuple) (.var 0) .nil)) (.or (.cmp .ne (.prim .len (.var 0) .nil) (.cst (.int (3)))) (.or (.not (.call "_law_row_of" (.cons (.slc false true (.var 0) (.cst .none) (.cst (.int (2)))) (.cons (.cst (.int (2))) (.cons (.cst (.int (1))) (.cons (.cst (.int (3))) .nil)))))) (.or (.not (.prim (.isI .tuple) (.sub (.var 0) (.cst (.int (2)))) .nil)) (.cmp .gt (.prim .len (.sub (.var 0) (.cst (.int (2)))) .nil) (.cst (.int (12)))))))) (.ret (.cst (.bool false))) .nop) (.seq (.for_ (.nm 1) (.it .seq (.cons (.sub (.var 0) (.cst (.int (2)))) .nil)) (.ite (.or (.not (.prim (.isI .tuple) (.var 1) .nil)) (.or (.cmp .ne (.prim .len (.var 1) .nil) (.cst (.int (3)))) (.or (.not (.call "_law_row_of" (.cons (.slc false true (.var 1) (.cst .none) (.cst (.int (2)))) (.cons (.cst (.int (2))) (.cons (.cst (.int (0))) (.cons (.bin .sub (.sub (.var 0) (.cst (.int (0)))) (.cst (.int (1)))) .nil)))))) (.not (.call "_law_row_of" (.cons (.sub (.var 1) (.cst (.int (2)))) (.cons (.sub (.var 0) (.cst (.int (1)))) (.cons (.neg (.cst (.int (3)))) (.cons (.cst (.int (3))) .nil))))))))) (.ret (.cst (.bool false))) .nop)) (.ret (.cmp .eq (.prim .list (.sub (.var 0) (.cst (.int (2)))) .nil) (.prim .sortedset (.sub (.var 0) (.cst (.int (2)))) .nil)))))⟩
def c__law_right : Fd := ⟨2, 7, (.seq (.ite (.or (.cmp .isnot (.call "is_book" (.cons (.var 1) .nil)) (.cst (.bool true))) (.cmp .ne (.prim .repr (.call "parts_of" (.cons (.var 1) .nil)) .nil) (.prim .repr (.call "_law_parts" (.cons (.var 1) .nil)) .nil))) (.ret (.cst (.bool false))) .nop) (.seq (.for_ (.nm 2) (.it .range (.cons (.sub (.var 1) (.cst (.int (0)))) .nil)) (.ite (.cmp .ne (.prim .repr (.call "needs_of" (.cons (.var 1) (.cons (.var 2) .nil))) .nil) (.prim .repr (.prim .tuple (.lc [5, 6] (.cons (.nm 5) (.cons (.nm 6) .nil)) (.it .enum (.cons (.sub (.var 1) (.cst (.int (2)))) .nil)) (.cmp .eq (.sub (.var 6) (.cst (.int (0)))) (.var 2)) (.var 5)) .nil) .nil)) (.ret (.cst (.bool false))) .nop)) (.seq (.for_ (.nm 3) (.it .range (.cons (.cst (.int (3))) .nil)) (.seq (.asgs [(false, 4, (.call "_law_spoilt" (.cons (.var 0) (.cons (.var 1) .nil))))]) (.ite (.cmp .ne (.prim .repr (.call "is_book" (.cons (.var 4) .nil)) .nil) (.prim .repr (.call "_law_fits_book" (.cons (.var 4) .nil)) .nil)) (.ret (.cst (.bool false))) .nop))) (.ret (.cst (.bool true))))))⟩
def c__law_offset : Fd := ⟨2, 3, (.ret (.prim .tuple (.lc [2] (.nm 2) (.it .range (.cons (.var 1) .nil)) (.cst (.bool true)) (.call "_law_some" (.cons (.var 0) (.cons (.slc false true (.lst (.cons (.cst (.int (0))) (.cons (.cst (.int (0))) (.cons (.cst (.int (1))) (.cons (.cst (.int (1))) (.cons (.cst (.int (1))) (.cons (.neg (.cst (.int (1)))) (.cons (.cst (.int (2))) (.cons (.neg (.cst (.int (2)))) (.cons (.cst (.int (3))) (.cons (.neg (.cst (.int (3)))) .nil))))))))))) (.cst .none) (.call "_law_some" (.cons (.var 0) (.cons (.lst (.cons (.cst (.int (6))) (.cons (.cst (.int (7))) (.cons (.cst (.int (10))) .nil)))) .nil)))) .nil)))) .nil))⟩
def c__law_need : Fd := ⟨3, 3, (.ret (.tup (.cons (.call "_law_roll" (.cons (.var 0) (.cons (.var 1) .nil))) (.cons (.call "_law_roll" (.cons (.var 0) (.cons (.var 1) .nil))) (.cons (.call "_law_offset" (.cons (.var 0) (.cons (.var 2) .nil))) .nil)))))⟩
def c__law_drawn_book : Fd := ⟨4, 8, (.seq (.asgs [(false, 4, (.lc [5] (.nm 5) (.it .range (.cons (.call "_law_roll" (.cons (.var 0) (.cons (.bin .add (.var 3) (.cst (.int (1)))) .nil))) .nil)) (.cst (.bool true)) (.call "_law_need" (.cons (.var 0) (.cons (.var 1) (.cons (.var 2) .nil))))))]) (.seq (.ite (.cmp .gt (.call "_law_roll" (.cons (.var 0) (.cons (.cst (.int (4))) .nil))) (.cst (.int (0)))) (.seq (.asgs [(false, 4, (.lc [6] (.nm 6) (.it .seq (.cons (.var 4) .nil)) (.cst (.bool true)) (.ite (.cmp .gt (.prim .max (.sub (.var 6) (.cst (.int (2)))) .nil) (.cst (.int (0)))) (.var 6) (.bin .add (.slc false true (.var 6) (.cst .none) (.cst (.int (2)))) (.tup (.cons (.prim .tuple (.lc [7] (.nm 7) (.it .seq (.cons (.sub (.var 6) (.cst (.int (2)))) .nil)) (.cst (.bool true)) (.bin .sub (.cst (.int (1))) (.var 7))) .nil) .nil))))))]) (.asgs [(false, 4, (.lc [6] (.nm 6) (.it .seq (.cons (.var 4) .nil)) (.cmp .le (.prim .max (.sub (.var 6) (.cst (.int (2)))) .nil) (.cst (.int (3)))) (.var 6)))])) .nop) (.ret (.tup (.cons (.var 1) (.cons (.var 2) (.cons (.prim .tuple (.prim .sortedset (.var 4) .nil) .nil) .nil)))))))⟩
def c__law_known_book : Fd := ⟨1, 2, (.seq (.asgs [(false, 1, (.lst (.cons (.tup (.cons (.cst (.int (1))) (.cons (.cst (.int (1))) (.cons (.tup (.cons (.tup (.cons (.cst (.int (0))) (.cons (.cst (.int (0))) (.cons (.tup (.cons (.cst (.int (1))) .nil)) .nil)))) .nil)) .nil)))) (.cons (.tup (.cons (.cst (.int (1))) (.cons (.cst (.int (2))) (.cons (.tup (.cons (.tup (.cons (.cst (.int (0))) (.cons (.cst (.int (0))) (.cons (.tup (.cons (.cst (.int (0))) (.cons (.cst (.int (1))) .nil))) .nil)))) (.cons (.tup (.cons (.cst (.int (0))) (.cons (.cst (.int (0))) (.cons (.tup (.cons (.cst (.int (1))) (.cons (.neg (.cst (.int (1)))) .nil))) .nil)))) .nil))) .nil)))) (.cons (.tup (.cons (.cst (.int (2))) (.cons (.cst (.int (2))) (.cons (.tup (.cons (.tup (.cons (.cst (.int (0))) (.cons (.cst (.int (0))) (.cons (.tup (.cons (.cst (.int (1))) (.cons (.neg (.cst (.int (1)))) .nil))) .nil)))) (.cons (.tup (.cons (.cst (.int (0))) (.cons (.cst (.int (1))) (.cons (.tup (.cons (.cst (.int (0))) (.cons (.cst (.int (0))) .nil))) .nil)))) (.cons (.tup (.cons (.cst (.int (1))) (.cons (.cst (.int (0))) (.cons (.tup (.cons (.cst (.int (1))) (.cons (.cst (.int (1))) .nil))) .nil)))) (.cons (.tup (.cons (.cst (.int (1))) (.cons (.cst (.int (1))) (.cons (.tup (.cons (.neg (.cst (.int (1)))) (.cons (.cst (.int (1))) .nil))) .nil)))) .nil))))) .nil)))) (.cons (.tup (.cons (.cst (.int (1))) (.cons (.cst (.int (1))) (.cons (.tup (.cons (.tup (.cons (.cst (.int (0))) (.cons (.cst (.int (0))) (.cons (.tup (.cons (.neg (.cst (.int (1)))) .nil)) .nil)))) .nil)) .nil)))) .nil))))))]) (.seq (.asgs [(false, 1, (.bin .add (.var 1) (.lst (.cons (.tup (.cons (.cst (.int (2))) (.cons (.cst (.int (1))) (.cons (.tup (.cons (.tup (.cons (.cst (.int (0))) (.cons (.cst (.int (1))) (.cons (.tup (.cons (.cst (.int (0))) .nil)) .nil)))) (.cons (.tup (.cons (.cst (.int (1))) (.cons (.cst (.int (0))) (.cons (.tup (.cons (.cst (.int (1))) .nil)) .nil)))) (.cons (.tup (.cons (.cst (.int (1))) (.cons (.cst (.int (1))) (.cons (.tup (.cons (.neg (.cst (.int (1)))) .nil)) .nil)))) .nil)))) .nil)))) (.cons (.tup (.cons (.cst (.int (2))) (.cons (.cst (.int (2))) (.cons (.tup .nil) .nil)))) (.cons (.tup (.cons (.cst (.int (1))) (.cons (.cst (.int (2))) (.cons (.tup (.cons (.tup (.cons (.cst (.int (0))) (.cons (.cst (.int (0))) (.cons (.tup (.cons (.neg (.cst (.int (1)))) (.cons (.cst (.int (1))) .nil))) .nil)))) (.cons (.tup (.cons (.cst (.int (0))) (.cons (.cst (.int (0))) (.cons (.tup (.cons (.cst (.int (1))) (.cons (.neg (.cst (.int (1)))) .nil))) .nil)))) .nil))) .nil)))) (.cons (.tup (.cons (.cst (.int (2))) (.cons (.cst (.int (2))) (.cons (.tup (.cons (.tup (.cons (.cst (.int (0))) (.cons (.cst (.int (0))) (.cons (.tup (.cons (.cst (.int (1))) (.cons (.neg (.cst (.int (1)))) .nil))) .nil)))) (.cons (.tup (.cons (.cst (.int (1))) (.cons (.cst (.int (1))) (.cons (.tup (.cons (.neg (.cst (.int (1)))) (.cons (.cst (.int (1))) .nil))) .nil)))) .nil))) .nil)))) .nil)))))))]) (.seq (.asgs [(false, 1, (.bin .add (.var 1) (.lst (.cons (.tup (.cons (.cst (.int (1))) (.cons (.cst (.int (1))) (.cons (.tup (.cons (.tup (.cons (.cst (.int (0))) (.cons (.cst (.int (0))) (.cons (.tup (.cons (.cst (.int (0))) .nil)) .nil)))) .nil)) .nil)))) (.cons (.tup (.cons (.cst (.int (1))) (.cons (.cst (.int (2))) (.cons (.tup (.cons (.tup (.cons (.cst (.int (0))) (.cons (.cst (.int (0))) (.cons (.tup (.cons (.cst (.int (0))) (.cons (.cst (.int (1))) .nil))) .nil)))) (.cons (.tup (.cons (.cst (.int (0))) (.cons (.cst (.int (0))) (.cons (.tup (.cons (.cst (.int (1))) (.cons (.cst (.int (0))) .nil))) .nil)))) .nil))) .nil)))) (.cons (.tup (.cons (.cst (.int (1))) (.cons (.cst (.int (2))) (.cons (.tup (.cons (.tup (.cons (.cst (.int (0))) (.cons (.cst (.int (0))) (.cons (.tup (.cons (.cst (.int (1))) (.cons (.neg (.cst (.int (3)))) .nil))) .nil)))) .nil)) .nil)))) (.cons (.tup (.cons (.cst (.int (2))) (.cons (.cst (.int (1))) (.cons (.tup (.cons (.tup (.cons (.cst (.int (0))) (.cons (.cst (.int (1))) (.cons (.tup (.cons (.cst (.int (1))) .nil)) .nil)))) (.cons (.tup (.cons (.cst (.int (1))) (.cons (.cst (.int (0))) (.cons (.tup (.cons (.neg (.cst (.int (1)))) .nil)) .nil)))) .nil))) .nil)))) (.cons (.tup (.cons (.cst (.int (2))) (.cons (.cst (.int (1))) (.cons (.tup (.cons (.tup (.cons (.cst (.int (0))) (.cons (.cst (.int (1))) (.cons (.tup (.cons (.cst (.int (2))) .nil)) .nil)))) (.cons (.tup (.cons (.cst (.int (1))) (.cons (.cst (.int (0))) (.cons (.tup (.cons (.neg (.cst (.int (1)))) .nil)) .nil)))) .nil))) .nil)))) .nil))))))))]) (.ret (.call "_law_some" (.cons (.var 0) (.cons (.var 1) .nil)))))))⟩
def c__law_book : Fd := ⟨1, 1, (.seq (.ite (.cmp .eq (.call "_law_roll" (.cons (.var 0) (.cons (.cst (.int (3))) .nil))) (.cst (.int (0)))) (.ret (.call "_law_known_book" (.cons (.var 0) .nil))) .nop) (.ret (.call "_law_drawn_book" (.cons (.var 0) (.cons (.call "_law_some" (.cons (.var 0) (.cons (.lst (.cons (.cst (.int (1))) (.cons (.cst (.int (2))) (.cons (.cst (.int (2))) .nil)))) .nil))) (.cons (.call "_law_some" (.cons (.var 0) (.cons (.lst (.cons (.cst (.int (1))) (.cons (.cst (.int (2))) (.cons (.cst (.int (2))) .nil)))) .nil))) (.cons (.cst (.int (4))) .nil)))))))⟩
def tab : Tab := [(("_law_books" : Str), c__law_books), (("ascends" : Str), c_ascends), (("is_tuple_of" : Str), c_is_tuple_of), (("is_whole" : Str), c_is_whole), (("are_whole" : Str), c_are_whole), (("fits_need" : Str), c_fits_need), (("fits_book" : Str), c_fits_book), (("need_book" : Str), c_need_book), (("need_quantity" : Str), c_need_quantity), (("indices_of" : Str), c_indices_of), (("needs_of" : Str), c_needs_of), (("_law_roll" : Str), c__law_roll), (("_law_some" : Str), c__law_some), (("_law_spoilt" : Str), c__law_spoilt), (("is_book" : Str), c_is_book), (("led_to" : Str), c_led_to), (("part_with" : Str), c_part_with), (("parts_in" : Str), c_parts_in), (("parts_of" : Str), c_parts_of), (("_law_leads" : Str), c__law_leads), (("_law_parts" : Str), c__law_parts), (("_law_whole" : Str), c__law_whole), (("_law_row_of" : Str), c__law_row_of), (("_law_fits_book" : Str), c__law_fits_book), (("_law_right" : Str), c__law_right), (("_law_offset" : Str), c__law_offset), (("_law_need" : Str), c__law_need), (("_law_drawn_book" : Str), c__law_drawn_book), (("_law_known_book" : Str), c__law_known_book), (("_law_book" : Str), c__law_book)]
theorem h__law_books : Has tab "_law_books" c__law_books := by unfold Has; kernel_rfl
theorem h_ascends : Has tab "ascends" c_ascends := by unfold Has; kernel_rfl
theorem h_is_tuple_of : Has tab "is_tuple_of" c_is_tuple_of := by unfold Has; kernel_rfl
theorem h_is_whole : Has tab "is_whole" c_is_whole := by unfold Has; kernel_rfl
theorem h_are_whole : Has tab "are_whole" c_are_whole := by unfold Has; kernel_rfl
theorem h_fits_need : Has tab "fits_need" c_fits_need := by unfold Has; kernel_rfl
theorem h_fits_book : Has tab "fits_book" c_fits_book := by unfold Has; kernel_rfl
theorem h_need_book : Has tab "need_book" c_need_book := by unfold Has; kernel_rfl
theorem h_need_quantity : Has tab "need_quantity" c_need_quantity := by unfold Has; kernel_rfl
theorem h_indices_of : Has tab "indices_of" c_indices_of := by unfold Has; kernel_rfl
theorem h_needs_of : Has tab "needs_of" c_needs_of := by unfold Has; kernel_rfl
theorem h__law_roll : Has tab "_law_roll" c__law_roll := by unfold Has; kernel_rfl
theorem h__law_some : Has tab "_law_some" c__law_some := by unfold Has; kernel_rfl
theorem h__law_spoilt : Has tab "_law_spoilt" c__law_spoilt := by unfold Has; kernel_rfl
theorem h_is_book : Has tab "is_book" c_is_book := by unfold Has; kernel_rfl
theorem h_led_to : Has tab "led_to" c_led_to := by unfold Has; kernel_rfl
theorem h_part_with : Has tab "part_with" c_part_with := by unfold Has; kernel_rfl
theorem h_parts_in : Has tab "parts_in" c_parts_in := by unfold Has; kernel_rfl
theorem h_parts_of : Has tab "parts_of" c_parts_of := by unfold Has; kernel_rfl
theorem h__law_leads : Has tab "_law_leads" c__law_leads := by unfold Has; kernel_rfl
theorem h__law_parts : Has tab "_law_parts" c__law_parts := by unfold Has; kernel_rfl
theorem h__law_whole : Has tab "_law_whole" c__law_whole := by unfold Has; kernel_rfl
theorem h__law_row_of : Has tab "_law_row_of" c__law_row_of := by unfold Has; kernel_rfl
theorem h__law_fits_book : Has tab "_law_fits_book" c__law_fits_book := by unfold Has; kernel_rfl
theorem h__law_right : Has tab "_law_right" c__law_right := by unfold Has; kernel_rfl
theorem h__law_offset : Has tab "_law_offset" c__law_offset := by unfold Has; kernel_rfl
theorem h__law_need : Has tab "_law_need" c__law_need := by unfold Has; kernel_rfl
theorem h__law_drawn_book : Has tab "_law_drawn_book" c__law_drawn_book := by unfold Has; kernel_rfl
theorem h__law_known_book : Has tab "_law_known_book" c__law_known_book := by unfold Has; kernel_rfl
theorem h__law_book : Has tab "_law_book" c__law_book := by unfold Has; kernel_rfl

theorem need_book_ok {n : Nat} (hn : 5 ≤ n) {s : St} (value : Book) (bk : BookN 12 value) : run tab n "need_book" [tv value] s = .ok (tv ()) s := by
  obtain ⟨k, rfl⟩ : ∃ k, n = k + 5 := ⟨n - 5, by omega⟩
  exact r_needbook h_is_whole h_is_tuple_of h_are_whole h_fits_need h_ascends h_fits_book h_need_book k bk s
abbrev F_fits_book (value : D) : Bool := bookB value
theorem fits_book_ok {n : Nat} (hn : 4 ≤ n) {s : St} (value : D) : run tab n "fits_book" [.d value] s = .ok (tv (F_fits_book value)) s := fitsbook_t h_is_tuple_of h_is_whole h_are_whole h_fits_need h_ascends h_fits_book hn value
abbrev F_is_whole (value : D) (low high : Int) : Bool := wholeB low high value
theorem is_whole_ok {n : Nat} (hn : 1 ≤ n) {s : St} (value : D) (low high : Int) : run tab n "is_whole" [.d value, tv low, tv high] s = .ok (tv (F_is_whole value low high)) s := whole_t h_is_whole hn value low high
abbrev F__law_fits_book (here : D) : Bool := bookB here
theorem _law_fits_book_ok {n : Nat} (hn : 3 ≤ n) {s : St} (here : D) (hp : here.plain = true) : run tab n "_law_fits_book" [.d here] s = .ok (tv (F__law_fits_book here)) s := lfits_t h__law_whole h__law_row_of h__law_fits_book hn here hp
theorem _law_spoilt_ok {n : Nat} (hn : 7 ≤ n) {s : St} (hc : CupOk s) (here : D) (hp : here.plain = true ∧ Spo 4 here) : ∃ (r : D) (s' : St), run tab n "_law_spoilt" [.cup, .d here] s = .ok (.d r) s' ∧ r.plain = true ∧ CupOk s' := spoilt_t h__law_roll h__law_some h__law_spoilt 4 here hp.1 hp.2 hn hc
abbrev F_led_to (book : Book) (q : Int) : List Int := ledF book q
theorem led_to_ok {n : Nat} (hn : 1 ≤ n) {s : St} (book : Book) (q : Int) (h3 : In3 book.c.items) (hq : q ∈ three) : run tab n "led_to" [tv book, tv q] s = .ok (tv (F_led_to book q)) s := led_t h_led_to hn book h3 q hq
abbrev F__law_leads (book : Book) (q : Int) : List Int := leadsF book q
theorem _law_leads_ok {n : Nat} (hn : 1 ≤ n) {s : St} (book : Book) (q : Int) (h3 : In3 book.c.items) (hq : q ∈ three) : run tab n "_law_leads" [tv book, tv q] s = .ok (tv (F__law_leads book q)) s := leads_t h__law_leads hn book h3 q hq
theorem _law_drawn_book_ok {n : Nat} (hn : 5 ≤ n) {s : St} (hc : CupOk s) (q c w : Int) (hq : 0 < q ∧ q ≤ 3) (hcc : 0 < c ∧ c ≤ 3) (hw : 0 ≤ w ∧ w ≤ 12) : ∃ (b : Book) (s' : St), run tab n "_law_drawn_book" [.cup, tv q, tv c, tv w] s = .ok (tv b) s' ∧ BookN w.toNat b ∧ CupOk s' := drawn_t h__law_roll h__law_some h__law_offset h__law_need h__law_drawn_book hn hc q c w hq hcc hw
theorem BookN.mono {v w : Nat} {b : Book} (h : BookN v b) (k : v ≤ w) : BookN w b := ⟨h.q0, h.q1, h.c0, h.c1, Nat.le_trans h.len k, h.ok, h.asc⟩
theorem three_of {x : Int} (h : 0 ≤ x ∧ x < 3) : x ∈ three := by
  simp only [three, List.mem_cons, List.not_mem_nil, or_false]; omega
theorem in3_of {b : Book} (bk : BookN 12 b) : In3 b.c.items := ⟨bk.len, fun n hn => ⟨three_of (by have := (bk.ok n hn).a0; have := (bk.ok n hn).a1; have := bk.q1; omega), three_of (by have := (bk.ok n hn).b0; have := (bk.ok n hn).b1; have := bk.q1; omega)⟩⟩
theorem in_three {b : Book} (bk : BookN 12 b) {x : Int} (h : x ∈ rangeI 0 b.a) : x ∈ three := three_of (by have := rangeI_mem.mp h; have := bk.q1; omega)
theorem bif_len2 {β : Type} (b : Bool) (l : List β) (x : β) : (l ++ (bif b then [x] else [])).length ≤ l.length + 1 := by
  cases b <;> simp
theorem pos_of {l : List Int} {x : Int} (h : x ∈ l) : (0 : Int) < l.length := by
  have := List.length_pos_of_mem h; omega
/-! the parts, by the bits -/
def partR (r : M9) (q : Int) : List Int := pick fun o => getB (rowM r q) o && getB (rowM r o) q
def canon (r : M9) (a : Int) : List (Tup Int) := ((rangeI 0 a).filter fun q => getB (rowM r q) q && decide ((partR r q).getD 0 default = q)).map fun q => Tup.mk (partR r q)
def reach9 (m : M9) : M9 := (reachB m 0, reachB m 1, reachB m 2)
theorem row_reach (m : M9) {q : Int} (hq : q ∈ three) : rowM (reach9 m) q = reachB m q := by
  simp only [three, List.mem_cons, List.not_mem_nil, or_false] at hq
  rcases hq with rfl | rfl | rfl <;> rfl
def chkR (r : M9) (a : Int) : Bool :=
  ((rangeI 0 a).all fun q => !getB (rowM r q) q || decide (Tup.mk (partR r q) ∈ canon r a)) &&
  (((canon r a).zip ((canon r a).drop 1)).map fun p : Tup Int × Tup Int => DatumOrd.lt p.1 p.2).all id &&
  ((canon r a).all fun x => !decide (x.items = [])) &&
  ((rangeI 0 a).all fun q => decide ((rangeI 0 a).filter (fun o => getB (rowM r q) o && getB (rowM r o) q) = partR r q))
def chkM (m : M9) (a : Int) : Bool := forceB (reachB m 0) fun r0 => forceB (reachB m 1) fun r1 => forceB (reachB m 2) fun r2 => chkR (r0, r1, r2) a
theorem chkM_eq (m : M9) (a : Int) : chkM m a = chkR (reach9 m) a := by
  unfold chkM
  rw [forceB_eq, forceB_eq, forceB_eq]
  rfl
theorem chk1 : ∀ a : Bool, chkM ((a, false, false), (false, false, false), (false, false, false)) 1 = true := by decide +kernel
theorem chk2 : ∀ a b d e : Bool, chkM ((a, b, false), (d, e, false), (false, false, false)) 2 = true := by decide +kernel
theorem chk3 : ∀ a b c d e f g h i : Bool, chkM ((a, b, c), (d, e, f), (g, h, i)) 3 = true := by decide +kernel
theorem adj_out {b : Book} (bk : BookN 12 b) {i o : Int} (h : b.a ≤ i ∨ b.a ≤ o) : adjB b.c.items i o = false := by
  unfold adjB
  rw [List.any_eq_false]
  intro n hn
  have k := bk.ok n hn
  have := k.a1
  have := k.b1
  simp only [Bool.and_eq_true, decide_eq_true_eq, not_and]
  intro e1 e2
  omega
theorem chk_ok {b : Book} (bk : BookN 12 b) : chkR (reach9 (adjM b.c.items)) b.a = true := by
  rw [← chkM_eq]
  have h0 := bk.q0
  have h1 := bk.q1
  have h : b.a = 1 ∨ b.a = 2 ∨ b.a = 3 := by omega
  rcases h with e | e | e
  · rw [e]
    unfold adjM
    rw [adj_out bk (i := 0) (o := 1) (by omega), adj_out bk (i := 0) (o := 2) (by omega), adj_out bk (i := 1) (o := 0) (by omega), adj_out bk (i := 1) (o := 1) (by omega), adj_out bk (i := 1) (o := 2) (by omega), adj_out bk (i := 2) (o := 0) (by omega), adj_out bk (i := 2) (o := 1) (by omega), adj_out bk (i := 2) (o := 2) (by omega)]
    exact chk1 _
  · rw [e]
    unfold adjM
    rw [adj_out bk (i := 0) (o := 2) (by omega), adj_out bk (i := 1) (o := 2) (by omega), adj_out bk (i := 2) (o := 0) (by omega), adj_out bk (i := 2) (o := 1) (by omega), adj_out bk (i := 2) (o := 2) (by omega)]
    exact chk2 _ _ _ _
  · rw [e]
    exact chk3 _ _ _ _ _ _ _ _ _
abbrev rB (b : Book) : M9 := reach9 (adjM b.c.items)
/-- the parts of a book -/
def partsB (b : Book) : List (Tup Int) := canon (rB b) b.a
theorem parts_fine {b : Book} (bk : BookN 12 b) : (∀ q ∈ rangeI 0 b.a, getB (rowM (rB b) q) q = true → Tup.mk (partR (rB b) q) ∈ partsB b) ∧ (partsB b).Pairwise (fun x y => DatumOrd.lt x y = true) ∧ (∀ x ∈ partsB b, x.items ≠ []) := by
  have h := chk_ok bk
  unfold chkR at h
  simp only [Bool.and_eq_true] at h
  obtain ⟨⟨⟨h1, h2⟩, h3⟩, _⟩ := h
  refine ⟨fun q hq k => ?_, asc_pair.mp h2, fun x hx => ?_⟩
  · have := List.all_eq_true.mp h1 q hq
    rw [k] at this
    exact of_decide_eq_true (show decide (Tup.mk (partR (rB b) q) ∈ partsB b) = true from this)
  · have := List.all_eq_true.mp h3 x hx
    simpa using this
theorem part_range {b : Book} (bk : BookN 12 b) {q : Int} (hq : q ∈ rangeI 0 b.a) : (rangeI 0 b.a).filter (fun o => getB (rowM (rB b) q) o && getB (rowM (rB b) o) q) = partR (rB b) q := by
  have h := chk_ok bk
  unfold chkR at h
  simp only [Bool.and_eq_true] at h
  exact of_decide_eq_true (List.all_eq_true.mp h.2 q hq)
theorem led_bit {b : Book} {q x : Int} (hq : q ∈ three) (hx : x ∈ three) : decide (x ∈ ledF b q) = getB (rowM (rB b) q) x := by
  rw [row_reach _ hq, Bool.eq_iff_iff, decide_eq_true_iff]
  exact ⟨fun h => (pick_mem.mp h).2, fun h => pick_mem.mpr ⟨hx, h⟩⟩
theorem leads_bit {b : Book} (bk : BookN 12 b) {q x : Int} (hq : q ∈ three) (hx : x ∈ three) : decide (x ∈ leadsF b q) = getB (rowM (rB b) q) x := by
  rw [← led_bit hq hx, Bool.eq_iff_iff, decide_eq_true_iff, decide_eq_true_iff]
  exact leads_mem (in3_of bk) hq x
/-- a part as the law makes it -/
def lpart (b : Book) (one : Int) : List Int := (rangeI 0 b.a).filter fun x => decide (x ∈ leadsF b one) && decide (one ∈ leadsF b x)
theorem lpart_eq {b : Book} (bk : BookN 12 b) {q : Int} (hq : q ∈ rangeI 0 b.a) : lpart b q = partR (rB b) q := by
  rw [← part_range bk hq]
  refine List.filter_congr fun x hx => ?_
  rw [leads_bit bk (in_three bk hq) (in_three bk hx), leads_bit bk (in_three bk hx) (in_three bk hq)]
theorem foldl_bif {β : Type} {p : Int → Bool} {f : Int → β} : ∀ (l : List Int) (acc : List β), l.foldl (fun st x => st ++ (bif p x then [f x] else [])) acc = acc ++ (l.filter p).map f
  | [], acc => by simp
  | a :: l, acc => by
    rw [List.foldl_cons, foldl_bif l]
    cases q : p a with
    | true => simp [q]
    | false => simp [q]
theorem lparts_eq {b : Book} (bk : BookN 12 b) : (rangeI 0 b.a).foldl (fun (st : List (Tup Int)) (x : Int) => st ++ (bif decide (x ∈ (Tup.mk (lpart b x)).items) && decide ((Tup.mk (lpart b x)).items.getD (0 : Int).toNat default = x) then [Tup.mk (lpart b x)] else [])) [] = partsB b := by
  rw [foldl_bif (p := fun x => decide (x ∈ (Tup.mk (lpart b x)).items) && decide ((Tup.mk (lpart b x)).items.getD (0 : Int).toNat default = x)) (f := fun x => Tup.mk (lpart b x)), List.nil_append]
  unfold partsB canon
  have e : (rangeI 0 b.a).filter (fun x => decide (x ∈ (Tup.mk (lpart b x)).items) && decide ((Tup.mk (lpart b x)).items.getD (0 : Int).toNat default = x)) = (rangeI 0 b.a).filter (fun q => getB (rowM (rB b) q) q && decide ((partR (rB b) q).getD 0 default = q)) := by
    refine List.filter_congr fun x hx => ?_
    show (decide (x ∈ lpart b x) && decide ((lpart b x).getD 0 default = x)) = _
    rw [lpart_eq bk hx]
    congr 1
    rw [Bool.eq_iff_iff, decide_eq_true_iff]
    unfold partR
    rw [pick_mem, Bool.and_self]
    exact ⟨fun h => h.2, fun h => ⟨in_three bk hx, h⟩⟩
  rw [e]
  exact List.map_congr_left fun x hx => congrArg Tup.mk (lpart_eq bk (List.mem_filter.mp hx).1)

theorem need_quantity_ok {n : Nat} (hn : 2 ≤ n) {s : St} (book : Book) (value : Int) (hv : 0 ≤ value ∧ value < book.a) : run tab n "need_quantity" [tv book, tv value] s = .ok (tv ()) s :=
  run_dN h_need_quantity (by omega) rfl rfl fun m hm => (show Xs (run tab m) [some (tv book), some (tv value)] s c_need_quantity.body _ from (x_never1 (Ep.cast (p_not (p_call (p_ac (p_var (v := tv (value : Int)) rfl) (p_ac (p_int 0) (p_ac (p_sub (p_3a (p_var (v := tv (book : Book)) rfl)) (p_int 1)) p_a0))) (is_whole_ok (by omega) (tD (value : Int)) (0 : Int) (book.a - (1 : Int)) ))) (congrArg tv ((by show (!(decide (0 ≤ value) && decide (value ≤ book.a - 1))) = false; rw [decide_eq_true hv.1, decide_eq_true (by omega)]; rfl) : (!(F_is_whole (tD (value : Int)) (0 : Int) (book.a - (1 : Int)))) = false)))))
def F_indices_of (book : Book) (quantity : Int) : (List Int) := ((((enumL 0 (book.c).items)).filter fun x1 : (Int × Need) => (decide (x1.2.a = quantity))).map fun x1 : (Int × Need) => x1.1)
theorem indices_of_ok {n : Nat} (hn : 1 ≤ n) {s : St} (book : Book) (quantity : Int) (bk : BookN 12 book) : run tab n "indices_of" [tv book, tv quantity] s = .ok (tv (F_indices_of book quantity)) s :=
  run_d h_indices_of (by omega) rfl rfl fun m hm => (show Xs (run tab m) [some (tv book), some (tv quantity), none, none] s c_indices_of.body (.rt (tv (((((enumL 0 (book.c).items)).filter fun x1 : (Int × Need) => (decide (x1.2.a = quantity))).map fun x1 : (Int × Need) => x1.1) : (List Int)))) from (x_ret (p_lc0 (l := (enumL 0 (book.c).items)) (p := fun x1 : (Int × Need) => (decide (x1.2.a = quantity))) (f := fun x1 : (Int × Need) => x1.1) (i_enumT (l := book.c) (p_3c (p_var (v := tv (book : Book)) rfl))) (fun _ => rfl) (fun x1 hx1 => (p_eq (p_3a (p_var (v := tv (x1.2 : Need)) rfl)) (p_var (v := tv (quantity : Int)) rfl))) (fun x1 hx1 hq => (p_var (v := tv (x1.1 : Int)) rfl)) (by exact len_enum (by have := bk.len; unfold line; omega)))))
def F_needs_of (book : Book) (quantity : Int) : (Tup Int) := (Tup.mk (F_indices_of book quantity))
theorem needs_of_ok {n : Nat} (hn : 6 ≤ n) {s : St} (book : Book) (quantity : Int) (bk : BookN 12 book) (hv : 0 ≤ quantity ∧ quantity < book.a) : run tab n "needs_of" [tv book, tv quantity] s = .ok (tv (F_needs_of book quantity)) s :=
  run_d h_needs_of (by omega) rfl rfl fun m hm => (show Xs (run tab m) [some (tv book), some (tv quantity)] s c_needs_of.body (.rt (tv ((Tup.mk (F_indices_of book quantity)) : (Tup Int)))) from (x_seq (x_exp (p_call (p_ac (p_var (v := tv (book : Book)) rfl) p_a0) (need_book_ok (by omega) book (by first | assumption | omega | decide)))) (x_seq (x_exp (p_call (p_ac (p_var (v := tv (book : Book)) rfl) (p_ac (p_var (v := tv (quantity : Int)) rfl) p_a0)) (need_quantity_ok (by omega) book quantity (by first | assumption | omega | decide)))) (x_ret (p_tupL (p_call (p_ac (p_var (v := tv (book : Book)) rfl) (p_ac (p_var (v := tv (quantity : Int)) rfl) p_a0)) (indices_of_ok (by omega) book quantity (by first | assumption | omega | decide))))))))
def F_part_with (book : Book) (quantity : Int) : (Option (Tup Int)) := (lt ((F_led_to book quantity) : (List Int)) fun led => (bif (decide (quantity ∈ led)) then (some (Tup.mk ((led).filter fun x1 : Int => (decide (quantity ∈ (F_led_to book x1)))))) else (none : (Option (Tup Int)))))
theorem part_with_ok {n : Nat} (hn : 2 ≤ n) {s : St} (book : Book) (quantity : Int) (h3 : In3 book.c.items) (hq : quantity ∈ three) : run tab n "part_with" [tv book, tv quantity] s = .ok (tv (F_part_with book quantity)) s :=
  run_d h_part_with (by omega) rfl rfl fun m hm => (show Xs (run tab m) [some (tv book), some (tv quantity), none, none] s c_part_with.body (.rt (tv ((lt ((F_led_to book quantity) : (List Int)) fun led => (bif (decide (quantity ∈ led)) then (some (Tup.mk ((led).filter fun x1 : Int => (decide (quantity ∈ (F_led_to book x1)))))) else (none : (Option (Tup Int))))) : (Option (Tup Int))))) from (y_let (x := (F_led_to book quantity)) (r := fun led => (bif (decide (quantity ∈ led)) then (some (Tup.mk ((led).filter fun x1 : Int => (decide (quantity ∈ (F_led_to book x1)))))) else (none : (Option (Tup Int))))) (p_call (p_ac (p_var (v := tv (book : Book)) rfl) (p_ac (p_var (v := tv (quantity : Int)) rfl) p_a0)) (led_to_ok (by omega) book quantity (by first | exact h3 | exact hq | (rw [h_led] at hx1; exact (pick_mem.mp hx1).1)) (by first | exact h3 | exact hq | (rw [h_led] at hx1; exact (pick_mem.mp hx1).1)))) (fun led h_led => (x_ret (p_ite (p_inL (p_var (v := tv (quantity : Int)) rfl) (p_var (v := tv (led : (List Int))) rfl)) (fun hq => (p_some (p_tupL (p_lcf (l := led) (p := fun x1 : Int => (decide (quantity ∈ (F_led_to book x1)))) (i_L (l := led) (p_var (v := tv (led : (List Int))) rfl)) (fun _ => rfl) (fun x1 hx1 => (p_inL (p_var (v := tv (quantity : Int)) rfl) (p_call (p_ac (p_var (v := tv (book : Book)) rfl) (p_ac (p_var (v := tv (x1 : Int)) rfl) p_a0)) (led_to_ok (by omega) book x1 (by first | exact h3 | exact hq | (rw [h_led] at hx1; exact (pick_mem.mp hx1).1)) (by first | exact h3 | exact hq | (rw [h_led] at hx1; exact (pick_mem.mp hx1).1)))))) (fun x1 hx1 hq => (p_var (v := tv (x1 : Int)) rfl)) (by rw [h_led]; have := pick_len (getB (reachB (adjM book.c.items) quantity)); show (pick _).length ≤ line; unfold line; omega))))) (fun hq => (p_none (α := (Tup Int)))))))))

theorem part_is {b : Book} {q : Int} (hq : q ∈ three) : F_part_with b q = if getB (rowM (rB b) q) q = true then some (Tup.mk (partR (rB b) q)) else none := by
  show (bif decide (q ∈ ledF b q) then some (Tup.mk ((ledF b q).filter fun x => decide (q ∈ ledF b x))) else none) = _
  rw [led_bit hq hq]
  have e : (ledF b q).filter (fun x => decide (q ∈ ledF b x)) = partR (rB b) q := by
    show List.filter (fun x => decide (q ∈ ledF b x)) (List.filter (getB (reachB (adjM b.c.items) q)) three) = List.filter (fun o => getB (rowM (rB b) q) o && getB (rowM (rB b) o) q) three
    rw [List.filter_filter]
    refine List.filter_congr fun x hx => ?_
    rw [led_bit hx hq, row_reach _ hq, Bool.and_comm]
  rw [e]
  cases getB (rowM (rB b) q) q <;> rfl
abbrev F_parts_in (book : Book) : List (Tup Int) := partsB book
theorem some_map (l : List (Option (Tup Int))) : (l.filter Option.isSome).map (Datum.toD : Option (Tup Int) → D) = (l.filterMap id).map (Datum.toD : Tup Int → D) := by
  induction l with
  | nil => rfl
  | cons a l ih =>
    cases a with
    | none => exact ih
    | some x => exact congrArg (List.cons (Datum.toD x)) ih
theorem parts_in_ok {n : Nat} (hn : 3 ≤ n) {s : St} (book : Book) (bk : BookN 12 book) : run tab n "parts_in" [tv book] s = .ok (tv (F_parts_in book)) s :=
  run_d h_parts_in (by omega) rfl rfl fun m hm => (show Xs (run tab m) [some (tv book), none, none, none] s c_parts_in.body (.rt (tv (partsB book))) from by
    have rl : (rangeI 0 book.a).length ≤ 3 := by rw [rangeI_len]; have := bk.q1; omega
    refine x_seq (x_let1 (x := (rangeI 0 book.a).map fun q => F_part_with book q) (p_lcm (l := rangeI 0 book.a) (f := fun q => F_part_with book q) (i_range1 (p_3a (p := book) (p_var rfl)) (by have := bk.q0; have := bk.q1; omega)) (fun _ => rfl) (fun x hx => p_call (p_ac (p_var (v := tv book) rfl) (p_ac (p_var (v := tv x) rfl) p_a0)) (part_with_ok (by omega) book x (in3_of bk) (in_three bk hx))) (by unfold line; omega))) ?_
    have fl : Ep (run tab m) [some (tv book), some (tv ((rangeI 0 book.a).map fun q => F_part_with book q)), none, none] s (.lc [3] (.nm 3) (.it .seq (.cons (.var 1) .nil)) (.cmp .isnot (.var 3) (.cst .none)) (.var 3)) (tv (((rangeI 0 book.a).map fun q => F_part_with book q).filterMap id)) :=
      Ep.cast (p_lcf (l := (rangeI 0 book.a).map fun q => F_part_with book q) (p := fun x : Option (Tup Int) => x.isSome) (i_L (l := (rangeI 0 book.a).map fun q => F_part_with book q) (p_var rfl)) (fun _ => rfl) (fun x hx => p_isntnone (x := x) (p_var rfl)) (fun x hx _ => p_var (v := tv x) rfl) (by rw [List.length_map]; unfold line; omega)) (congrArg (fun z => Vl.d (PyData.list z)) (some_map _))
    have hm2 : ∀ x, x ∈ partsB book ↔ x ∈ ((rangeI 0 book.a).map fun q => F_part_with book q).filterMap id := by
      intro x
      rw [List.mem_filterMap]
      constructor
      · intro hx
        obtain ⟨q, hq, rfl⟩ := List.mem_map.mp hx
        obtain ⟨hq, k⟩ := List.mem_filter.mp hq
        rw [Bool.and_eq_true] at k
        refine ⟨_, List.mem_map.mpr ⟨q, hq, rfl⟩, ?_⟩
        show F_part_with book q = _
        rw [part_is (in_three bk hq), if_pos k.1]
      · rintro ⟨o, ho, e⟩
        obtain ⟨q, hq, rfl⟩ := List.mem_map.mp ho
        have e : F_part_with book q = some x := e
        rw [part_is (in_three bk hq)] at e
        split at e
        · rename_i k
          cases e
          exact (parts_fine bk).1 q hq k
        · cases e
    exact x_ret (p_ssetT fl (Nat.lt_of_le_of_lt (Nat.le_trans (List.length_filterMap_le _ _) (by rw [List.length_map]; exact rl)) (by decide)) (fun x hx => (parts_fine bk).2.2 x ((hm2 x).mpr hx)) hm2 (parts_fine bk).2.1))

def F_parts_of (book : Book) : (List (Tup Int)) := (F_parts_in book)
theorem parts_of_ok {n : Nat} (hn : 6 ≤ n) {s : St} (book : Book) (bk : BookN 12 book) : run tab n "parts_of" [tv book] s = .ok (tv (F_parts_of book)) s :=
  run_d h_parts_of (by omega) rfl rfl fun m hm => (show Xs (run tab m) [some (tv book)] s c_parts_of.body (.rt (tv ((F_parts_in book) : (List (Tup Int))))) from (x_seq (x_exp (p_call (p_ac (p_var (v := tv (book : Book)) rfl) p_a0) (need_book_ok (by omega) book (by first | assumption | omega | decide)))) (x_ret (p_call (p_ac (p_var (v := tv (book : Book)) rfl) p_a0) (parts_in_ok (by omega) book (by first | assumption | omega | decide))))))
def F__law_parts (book : Book) : (List (Tup Int)) := (lt (([] : List (Tup Int)) : (List (Tup Int))) fun found => (lt (((rangeI 0 book.a)).foldl (fun (st : (List (Tup Int))) (x1 : Int) => (st ++ (bif ((decide (x1 ∈ ((Tup.mk (((rangeI 0 book.a)).filter fun x2 : Int => ((decide (x2 ∈ (F__law_leads book x1))) && (decide (x1 ∈ (F__law_leads book x2))))))).items)) && (decide (((((Tup.mk (((rangeI 0 book.a)).filter fun x2 : Int => ((decide (x2 ∈ (F__law_leads book x1))) && (decide (x1 ∈ (F__law_leads book x2))))))).items).getD ((0 : Int)).toNat default) = x1))) then [(Tup.mk (((rangeI 0 book.a)).filter fun x2 : Int => ((decide (x2 ∈ (F__law_leads book x1))) && (decide (x1 ∈ (F__law_leads book x2))))))] else ([] : List (Tup Int))))) found) fun (st : (List (Tup Int))) => st))
theorem _law_parts_ok {n : Nat} (hn : 2 ≤ n) {s : St} (book : Book) (bk : BookN 12 book) : run tab n "_law_parts" [tv book] s = .ok (tv (F__law_parts book)) s :=
  run_d h__law_parts (by omega) rfl rfl fun m hm => (show Xs (run tab m) [some (tv book), none, none, none, none] s c__law_parts.body (.rt (tv ((lt (([] : List (Tup Int)) : (List (Tup Int))) fun found => (lt (((rangeI 0 book.a)).foldl (fun (st : (List (Tup Int))) (x1 : Int) => (st ++ (bif ((decide (x1 ∈ ((Tup.mk (((rangeI 0 book.a)).filter fun x2 : Int => ((decide (x2 ∈ (F__law_leads book x1))) && (decide (x1 ∈ (F__law_leads book x2))))))).items)) && (decide (((((Tup.mk (((rangeI 0 book.a)).filter fun x2 : Int => ((decide (x2 ∈ (F__law_leads book x1))) && (decide (x1 ∈ (F__law_leads book x2))))))).items).getD ((0 : Int)).toNat default) = x1))) then [(Tup.mk (((rangeI 0 book.a)).filter fun x2 : Int => ((decide (x2 ∈ (F__law_leads book x1))) && (decide (x1 ∈ (F__law_leads book x2))))))] else ([] : List (Tup Int))))) found) fun (st : (List (Tup Int))) => st)) : (List (Tup Int))))) from (y_let (x := ([] : List (Tup Int))) (r := fun found => (lt (((rangeI 0 book.a)).foldl (fun (st : (List (Tup Int))) (x1 : Int) => (st ++ (bif ((decide (x1 ∈ ((Tup.mk (((rangeI 0 book.a)).filter fun x2 : Int => ((decide (x2 ∈ (F__law_leads book x1))) && (decide (x1 ∈ (F__law_leads book x2))))))).items)) && (decide (((((Tup.mk (((rangeI 0 book.a)).filter fun x2 : Int => ((decide (x2 ∈ (F__law_leads book x1))) && (decide (x1 ∈ (F__law_leads book x2))))))).items).getD ((0 : Int)).toNat default) = x1))) then [(Tup.mk (((rangeI 0 book.a)).filter fun x2 : Int => ((decide (x2 ∈ (F__law_leads book x1))) && (decide (x1 ∈ (F__law_leads book x2))))))] else ([] : List (Tup Int))))) found) fun (st : (List (Tup Int))) => st)) (p_lstN ([] : List (Tup Int)) p_nil (by decide)) (fun found h_found => (y_forN (E := fun (st : (List (Tup Int))) (j : Option Vl × Option Vl × Option Vl) => [some (tv (book : Book)), some (tv (st : (List (Tup Int)))), j.1, j.2.1, j.2.2]) (f := fun (st : (List (Tup Int))) (x1 : Int) => (st ++ (bif ((decide (x1 ∈ ((Tup.mk (((rangeI 0 book.a)).filter fun x2 : Int => ((decide (x2 ∈ (F__law_leads book x1))) && (decide (x1 ∈ (F__law_leads book x2))))))).items)) && (decide (((((Tup.mk (((rangeI 0 book.a)).filter fun x2 : Int => ((decide (x2 ∈ (F__law_leads book x1))) && (decide (x1 ∈ (F__law_leads book x2))))))).items).getD ((0 : Int)).toNat default) = x1))) then [(Tup.mk (((rangeI 0 book.a)).filter fun x2 : Int => ((decide (x2 ∈ (F__law_leads book x1))) && (decide (x1 ∈ (F__law_leads book x2))))))] else ([] : List (Tup Int))))) (I := fun (r : List Int) (st : (List (Tup Int))) => (∀ y ∈ r, y ∈ (rangeI 0 book.a)) ∧ (st.length + r.length ≤ 3)) (l := (rangeI 0 book.a)) (st := found) (j := (none, none, none)) (r := fun (st : (List (Tup Int))) => st) (i_range1 (p_3a (p_var (v := tv (book : Book)) rfl)) (by first | (have := bk.q0; have := bk.q1; omega))) ⟨fun _ h => h, by rw [h_found]; show 0 + (rangeI 0 book.a).length ≤ 3; rw [rangeI_len]; have := bk.q1; omega⟩ (fun st j x1 r hI => ⟨_, rfl, ⟨fun y hy => hI.1 y (List.mem_cons_of_mem _ hy), by have hx1 := hI.1 x1 List.mem_cons_self; have hI := hI.2; have hJ : st.length + (r.length + 1) ≤ 3 := hI; exact Nat.le_trans (Nat.add_le_add_right (bif_len2 _ _ _) _) (by omega)⟩, (some (tv (x1 : Int)), some (tv ((Tup.mk (((rangeI 0 book.a)).filter fun x2 : Int => ((decide (x2 ∈ (F__law_leads book x1))) && (decide (x1 ∈ (F__law_leads book x2)))))) : (Tup Int))), j.2.2), by have hx1 := hI.1 x1 List.mem_cons_self; have hI := hI.2; exact (x_seq (x_let1 (p_tupL (p_lcf (l := (rangeI 0 book.a)) (p := fun x2 : Int => ((decide (x2 ∈ (F__law_leads book x1))) && (decide (x1 ∈ (F__law_leads book x2))))) (i_range1 (p_3a (p_var (v := tv (book : Book)) rfl)) (by first | (have := bk.q0; have := bk.q1; omega))) (fun _ => rfl) (fun x2 hx2 => (p_and (p_inL (p_var (v := tv (x2 : Int)) rfl) (p_call (p_ac (p_var (v := tv (book : Book)) rfl) (p_ac (p_var (v := tv (x1 : Int)) rfl) p_a0)) (_law_leads_ok (by omega) book x1 (by first | exact in3_of bk | exact in_three bk ‹_›) (by first | exact in3_of bk | exact in_three bk ‹_›)))) (fun hq => (p_inL (p_var (v := tv (x1 : Int)) rfl) (p_call (p_ac (p_var (v := tv (book : Book)) rfl) (p_ac (p_var (v := tv (x2 : Int)) rfl) p_a0)) (_law_leads_ok (by omega) book x2 (by first | exact in3_of bk | exact in_three bk ‹_›) (by first | exact in3_of bk | exact in_three bk ‹_›))))))) (fun x2 hx2 hq => (p_var (v := tv (x2 : Int)) rfl)) (by exact len_range (by have := bk.q1; omega))))) (x_let1 (p_addL (p_var (v := tv (st : (List (Tup Int)))) rfl) (p_ite (p_and (p_inT (p_var (v := tv (x1 : Int)) rfl) (p_var (v := tv ((Tup.mk (((rangeI 0 book.a)).filter fun x2 : Int => ((decide (x2 ∈ (F__law_leads book x1))) && (decide (x1 ∈ (F__law_leads book x2)))))) : (Tup Int))) rfl)) (fun hq => (p_eq (p_getT (p_var (v := tv ((Tup.mk (((rangeI 0 book.a)).filter fun x2 : Int => ((decide (x2 ∈ (F__law_leads book x1))) && (decide (x1 ∈ (F__law_leads book x2)))))) : (Tup Int))) rfl) (p_int 0) (by decide) (by exact pos_of (of_decide_eq_true hq))) (p_var (v := tv (x1 : Int)) rfl)))) (fun hq => (p_lstN ([(Tup.mk (((rangeI 0 book.a)).filter fun x2 : Int => ((decide (x2 ∈ (F__law_leads book x1))) && (decide (x1 ∈ (F__law_leads book x2))))))] : List (Tup Int)) (p_cons (p_var (v := tv ((Tup.mk (((rangeI 0 book.a)).filter fun x2 : Int => ((decide (x2 ∈ (F__law_leads book x1))) && (decide (x1 ∈ (F__law_leads book x2)))))) : (Tup Int))) rfl) p_nil) (show 1 ≤ line by decide))) (fun hq => (p_lstN ([] : List (Tup Int)) p_nil (by decide)))) (by have hJ : st.length + (r.length + 1) ≤ 3 := hI; exact len_lit (n := 4) (Nat.le_trans (bif_len2 _ _ _) (by omega)) (by decide)))))⟩) (fun st j hI h_st => by have hI := hI.2; exact (x_ret (p_sortT (p_var (v := tv (st : (List (Tup Int)))) rfl) (by subst h_found; rw [show st = partsB book from h_st.trans (lparts_eq bk)]; exact (parts_fine bk).2.2) (by subst h_found; rw [show st = partsB book from h_st.trans (lparts_eq bk)]; exact (parts_fine bk).2.1))))))))
def F_is_book (value : D) : Bool := (F_fits_book value)
theorem is_book_ok {n : Nat} (hn : 5 ≤ n) {s : St} (value : D)  : run tab n "is_book" [(.d (value))] s = .ok (tv (F_is_book value)) s :=
  run_d h_is_book (by omega) rfl rfl fun m hm => (show Xs (run tab m) [some ((.d (value)))] s c_is_book.body (.rt (tv ((F_fits_book value) : Bool))) from (x_ret (p_call (p_ac (p_var (v := (.d (value))) rfl) p_a0) (fits_book_ok (by omega) value ))))

theorem not_same {a b : Str} (h : a = b) : (!decide (a = b)) = false := by rw [decide_eq_true h]; rfl
theorem book_is {b : Book} (bk : BookN 12 b) : bookB (tD b) = true := by
  have a := r_fitsbook h_is_whole h_is_tuple_of h_are_whole h_fits_need h_ascends h_fits_book 0 bk (0, 0)
  have c := fits_book_ok (n := 0 + 4) (by decide) (s := (0, 0)) (tD b)
  rw [show run tab (0 + 4) "fits_book" [.d (tD b)] (0, 0) = _ from a] at c
  cases k : bookB (tD b) with
  | true => rfl
  | false =>
    rw [show F_fits_book (tD b) = false from k] at c
    cases c
theorem lparts_is {b : Book} (bk : BookN 12 b) : F__law_parts b = partsB b := lparts_eq bk
theorem right_no0 {b : Book} (bk : BookN 12 b) : ((!(F_is_book (tD b) == true)) || (!decide (PyData.shown (tD (F_parts_of b)) = PyData.shown (tD (F__law_parts b))))) = false := by
  rw [show F_is_book (tD b) = true from book_is bk, lparts_is bk, show F_parts_of b = partsB b from rfl, decide_eq_true rfl]
  rfl
theorem show_ints {n : Nat} (hn : n ≤ 100) (x : Tup Int) (h : x.items.length ≤ n) (k : ∀ y ∈ x.items, y.natAbs < 10 ^ 12) : ShOk 1 (n * 41) (tD x) :=
  ShOk.tuple (k := 0) (w := 40) (fun d hd => by
    obtain ⟨y, hy, rfl⟩ := List.mem_map.mp hd
    exact ShOk.int (k y hy)) (by rw [List.length_map]; exact h)
theorem show_parts {b : Book} (bk : BookN 12 b) : showB (tD (partsB b)) = true := by
  refine ShOk.show_ (k := 2) (w := 3 * (3 * 41 + 1)) (ShOk.list (k := 1) (fun d hd => ?_) (by rw [List.length_map]; unfold partsB canon; rw [List.length_map]; refine Nat.le_trans (List.length_filter_le _ _) ?_; rw [rangeI_len]; have := bk.q1; omega)) (by decide) (by decide)
  obtain ⟨x, hx, rfl⟩ := List.mem_map.mp hd
  obtain ⟨q, hq, rfl⟩ := List.mem_map.mp hx
  refine show_ints (by decide) _ (pick_len (fun o => getB (rowM (rB b) q) o && getB (rowM (rB b) o) q)) fun y hy => ?_
  have hy : y ∈ pick (fun o => getB (rowM (rB b) q) o && getB (rowM (rB b) o) q) := hy
  have := (pick_mem.mp hy).1
  simp only [three, List.mem_cons, List.not_mem_nil, or_false] at this
  omega
theorem show_needs {b : Book} (bk : BookN 12 b) (q : Int) : showB (tD (Tup.mk (F_indices_of b q))) = true := by
  have := bk.len
  refine ShOk.show_ (show_ints (n := 12) (by decide) _ ?_ fun y hy => ?_) (by decide) (by decide)
  · show (List.map _ (List.filter _ _)).length ≤ 12
    rw [List.length_map]
    refine Nat.le_trans (List.length_filter_le _ _) ?_
    rw [enumL_len]; omega
  · obtain ⟨x, hx, rfl⟩ := List.mem_map.mp (show y ∈ List.map _ _ from hy)
    have k := enumL_at (List.mem_filter.mp hx).1
    have h1 := k.1
    have h2 := k.2.1
    omega
theorem spo_book {b : Book} (bk : BookN 12 b) : (tD b).plain = true ∧ Spo 4 (tD b) := by
  refine ⟨Datum.plain b, ?_⟩
  refine (show (3 ≤ 1000 ∧ ∀ x ∈ [PyData.int b.a, .int b.b, .tuple (b.c.items.map Datum.toD)], Spo 3 x) from ⟨by decide, fun x hx => ?_⟩)
  simp only [List.mem_cons, List.not_mem_nil, or_false] at hx
  rcases hx with rfl | rfl | rfl
  · exact trivial
  · exact trivial
  · refine ⟨by rw [List.length_map]; have := bk.len; omega, fun y hy => ?_⟩
    obtain ⟨n, hn, rfl⟩ := List.mem_map.mp hy
    refine (show (3 ≤ 1000 ∧ ∀ x ∈ [PyData.int n.a, .int n.b, .tuple (n.c.items.map Datum.toD)], Spo 1 x) from ⟨by decide, fun x hx => ?_⟩)
    simp only [List.mem_cons, List.not_mem_nil, or_false] at hx
    rcases hx with rfl | rfl | rfl
    · exact trivial
    · exact trivial
    · refine ⟨by rw [List.length_map]; have := (bk.ok n hn).len; have := bk.c1; omega, fun z hz => ?_⟩
      obtain ⟨w, _, rfl⟩ := List.mem_map.mp hz
      exact rfl


theorem _law_roll_ok {n : Nat} (hn : 1 ≤ n) {s : St} (hc : CupOk s) (many : Int) (h0 : 0 < many) (h1 : many < 2 ^ 64) : ∃ (r : Int) (s' : St), run tab n "_law_roll" [.cup, tv many] s = .ok (tv r) s' ∧ (0 ≤ r ∧ r < many) ∧ CupOk s' := roll_t h__law_roll hn hc many h0 h1
theorem _law_some_ok {α : Type} [DecidableEq α] [Datum α] {n : Nat} (hn : 2 ≤ n) {s : St} (hc : CupOk s) (l : List α) (h0 : l ≠ []) (h1 : l.length ≤ 1000) : ∃ (r : α) (s' : St), run tab n "_law_some" [.cup, tv l] s = .ok (tv r) s' ∧ (r ∈ l) ∧ CupOk s' := some_t h__law_roll h__law_some hn hc l h0 h1
theorem _law_book_ok {n : Nat} (hn : 6 ≤ n) {s : St} (hc : CupOk s) : ∃ (b : Book) (s' : St), run tab n "_law_book" [.cup] s = .ok (tv b) s' ∧ BookOk b ∧ CupOk s' := book_t h__law_roll h__law_some h__law_offset h__law_need h__law_known_book h__law_drawn_book h__law_book hn hc

theorem _law_right_ok {n : Nat} (hn : 8 ≤ n) {s : St} (hc : CupOk s) (book : Book) (bk : BookN 12 book) : ∃ (r : Bool) (s' : St), run tab n "_law_right" [.cup, tv book] s = .ok (tv r) s' ∧ (r = true) ∧ CupOk s' := by
  obtain ⟨m, hm⟩ : ∃ m, n = m + 1 := ⟨n - 1, by omega⟩
  subst hm
  have no1 : (((!((F_is_book (tD (book : Book))) == true)) || (!decide ((PyData.shown (tD ((F_parts_of book) : (List (Tup Int))))) = (PyData.shown (tD ((F__law_parts book) : (List (Tup Int)))))))) : Bool) = false := (by exact right_no0 bk)
  obtain ⟨st5, j5, s5, e5, i5, c5⟩ := xS_for (g := (.nm 2)) (src := (.it .range (.cons (.sub (.var 1) (.cst (.int (0)))) .nil))) (body := (.ite (.cmp .ne (.prim .repr (.call "needs_of" (.cons (.var 1) (.cons (.var 2) .nil))) .nil) (.prim .repr (.prim .tuple (.lc [5, 6] (.cons (.nm 5) (.cons (.nm 6) .nil)) (.it .enum (.cons (.sub (.var 1) (.cst (.int (2)))) .nil)) (.cmp .eq (.sub (.var 6) (.cst (.int (0)))) (.var 2)) (.var 5)) .nil) .nil)) (.ret (.cst (.bool false))) .nop)) (G := run tab m) (s := s) (E := fun (st : Unit) (j : Option Vl × Option Vl × Option Vl) => [some .cup, some (tv (book : Book)), j.1, none, none, j.2.1, j.2.2]) (I := fun (r : List Int) (st : Unit) => (∀ y ∈ r, y ∈ (rangeI 0 book.a)) ∧ (True)) (l := (rangeI 0 book.a)) (st := ()) (j := (none, none, none)) (i_range1 (p_3a (p_var (v := tv (book : Book)) rfl)) (by first | omega | (have := bk.q0; have := bk.q1; omega))) ⟨fun _ h => h, by trivial⟩ hc (fun st j x2 r s hI hc => ⟨_, rfl, by
      have hx2 := hI.1 x2 List.mem_cons_self
      have hI1 := hI.1
      have hI := hI.2
      have no4 : ((!decide ((PyData.shown (tD ((F_needs_of book x2) : (Tup Int)))) = (PyData.shown (tD ((Tup.mk ((((enumL 0 (book.c).items)).filter fun x3 : (Int × Need) => (decide (x3.2.a = x2))).map fun x3 : (Int × Need) => x3.1)) : (Tup Int)))))) : Bool) = false := (by exact not_same rfl)
      exact ⟨(), (some (tv (x2 : Int)), j.2.1, j.2.2), s, (xS_no (EpS.cast (p_ne (p_repr (p_call (p_ac (p_var (v := tv (book : Book)) rfl) (p_ac (p_var (v := tv (x2 : Int)) rfl) p_a0)) (needs_of_ok (by omega) book x2 (by first | exact bk | exact rangeI_mem.mp ‹_›) (by first | exact bk | exact rangeI_mem.mp ‹_›))) (by first | exact show_bool _ | exact show_parts bk | (rw [lparts_is bk]; exact show_parts bk) | exact show_needs bk _)) (p_repr (p_tupL (p_lc0 (l := (enumL 0 (book.c).items)) (p := fun x3 : (Int × Need) => (decide (x3.2.a = x2))) (f := fun x3 : (Int × Need) => x3.1) (i_enumT (l := book.c) (p_3c (p_var (v := tv (book : Book)) rfl))) (fun _ => rfl) (fun x3 hx3 => (p_eq (p_3a (p_var (v := tv (x3.2 : Need)) rfl)) (p_var (v := tv (x2 : Int)) rfl))) (fun x3 hx3 hq => (p_var (v := tv (x3.1 : Int)) rfl)) (by exact len_enum (by have := bk.len; unfold line; omega)))) (by first | exact show_bool _ | exact show_parts bk | (rw [lparts_is bk]; exact show_parts bk) | exact show_needs bk _))) (congrArg tv no4))), ⟨fun y hy => hI1 y (List.mem_cons_of_mem _ hy), by trivial⟩, hc⟩⟩)
  have hI := i5.2
  obtain ⟨st9, j9, s9, e9, i9, c9⟩ := xS_for (g := (.nm 3)) (src := (.it .range (.cons (.cst (.int (3))) .nil))) (body := (.seq (.asgs [(false, 4, (.call "_law_spoilt" (.cons (.var 0) (.cons (.var 1) .nil))))]) (.ite (.cmp .ne (.prim .repr (.call "is_book" (.cons (.var 4) .nil)) .nil) (.prim .repr (.call "_law_fits_book" (.cons (.var 4) .nil)) .nil)) (.ret (.cst (.bool false))) .nop))) (G := run tab m) (s := s5) (E := fun (st : Unit) (j : Option Vl × Option Vl) => [some .cup, some (tv (book : Book)), j5.1, j.1, j.2, j5.2.1, j5.2.2]) (I := fun (r : List Int) (st : Unit) => (∀ y ∈ r, y ∈ (rangeI 0 (3 : Int))) ∧ (True)) (l := (rangeI 0 (3 : Int))) (st := ()) (j := (none, none)) (i_range1 (p_int 3) (by first | omega | (have := bk.q0; have := bk.q1; omega))) ⟨fun _ h => h, by trivial⟩ c5 (fun st j x6 r s hI hc => ⟨_, rfl, by
      have hx6 := hI.1 x6 List.mem_cons_self
      have hI1 := hI.1
      have hI := hI.2
      obtain ⟨r7, s7, e7, p7, c7⟩ := _law_spoilt_ok (n := m) (by omega) hc (tD (book : Book)) (by exact spo_book bk)
      have no8 : ((!decide ((PyData.shown (tD ((F_is_book r7) : Bool))) = (PyData.shown (tD ((F__law_fits_book r7) : Bool))))) : Bool) = false := (by exact not_same rfl)
      exact ⟨(), (some (tv (x6 : Int)), some ((.d (r7)))), s7, (xS_seq (xS_let1 (pS_call (pS_acC rfl (pS_ac (p_var (v := tv (book : Book)) rfl) p_a0)) e7)) (xS_no (EpS.cast (p_ne (p_repr (p_call (p_ac (p_var (v := (.d (r7))) rfl) p_a0) (is_book_ok (by omega) r7 )) (by first | exact show_bool _ | exact show_parts bk | (rw [lparts_is bk]; exact show_parts bk) | exact show_needs bk _)) (p_repr (p_call (p_ac (p_var (v := (.d (r7))) rfl) p_a0) (_law_fits_book_ok (by omega) r7 (by assumption))) (by first | exact show_bool _ | exact show_parts bk | (rw [lparts_is bk]; exact show_parts bk) | exact show_needs bk _))) (congrArg tv no8)))), ⟨fun y hy => hI1 y (List.mem_cons_of_mem _ hy), by trivial⟩, c7⟩⟩)
  have hI := i9.2
  refine ⟨true, s9, run_dS h__law_right rfl rfl (show XsS (run tab m) [some .cup, some (tv book), none, none, none, none, none] s c__law_right.body (.rt (tv (true : Bool))) s9 from (xS_seq (xS_no (EpS.cast (p_or (p_isntB (p_call (p_ac (p_var (v := tv (book : Book)) rfl) p_a0) (is_book_ok (by omega) (tD (book : Book)) ))) (fun hq => (p_ne (p_repr (p_call (p_ac (p_var (v := tv (book : Book)) rfl) p_a0) (parts_of_ok (by omega) book (by exact bk))) (by first | exact show_bool _ | exact show_parts bk | (rw [lparts_is bk]; exact show_parts bk) | exact show_needs bk _)) (p_repr (p_call (p_ac (p_var (v := tv (book : Book)) rfl) p_a0) (_law_parts_ok (by omega) book (by exact bk))) (by first | exact show_bool _ | exact show_parts bk | (rw [lparts_is bk]; exact show_parts bk) | exact show_needs bk _))))) (congrArg tv no1))) (xS_seq e5 (xS_seq e9 (xS_ret (p_bool true)))))), ?_, c9⟩
  rfl
def c_code : CS := (.seq (.for_ (.nm 2) (.it .range (.cons (.cst (.int (5))) .nil)) (.ite (.or (.not (.call "_law_right" (.cons (.var 1) (.cons (.call "_law_book" (.cons (.var 1) .nil)) .nil)))) (.not (.call "_law_right" (.cons (.var 1) (.cons (.call "_law_drawn_book" (.cons (.var 1) (.cons (.cst (.int (3))) (.cons (.cst (.int (3))) (.cons (.cst (.int (12))) .nil))))) .nil))))) (.ret (.cst (.bool false))) .nop)) (.seq (.asg (.cons (.nm 5) (.cons (.nm 6) .nil)) (.call "_law_books" .nil)) (.seq (.asgs [(false, 3, (.lst (.cons (.tup (.cons (.var 5) (.cons (.cst (.bool true)) .nil))) (.cons (.tup (.cons (.tup (.cons (.cst (.int (1))) (.cons (.cst (.int (2))) (.cons (.tup (.cons (.tup (.cons (.cst (.int (0))) (.cons (.cst (.int (0))) (.cons (.tup (.cons (.cst (.int (0))) .nil)) .nil)))) .nil)) .nil)))) (.cons (.cst (.bool false)) .nil))) (.cons (.tup (.cons (.tup (.cons (.cst (.int (1))) (.cons (.cst (.int (1))) (.cons (.tup (.cons (.tup (.cons (.cst (.int (0))) (.cons (.cst (.int (1))) (.cons (.tup (.cons (.cst (.int (0))) .nil)) .nil)))) .nil)) .nil)))) (.cons (.cst (.bool false)) .nil))) (.cons (.tup (.cons (.tup (.cons (.cst (.int (2))) (.cons (.cst (.int (3))) (.cons (.tup .nil) .nil)))) (.cons (.cst (.bool true)) .nil))) (.cons (.tup (.cons (.tup (.cons (.cst (.int (0))) (.cons (.cst (.int (1))) (.cons (.tup .nil) .nil)))) (.cons (.cst (.bool false)) .nil))) .nil)))))))]) (.seq (.asgs [(false, 3, (.bin .add (.var 3) (.lst (.cons (.tup (.cons (.tup (.cons (.cst (.int (4))) (.cons (.cst (.int (1))) (.cons (.tup .nil) .nil)))) (.cons (.cst (.bool false)) .nil))) (.cons (.tup (.cons (.tup (.cons (.cst (.int (1))) (.cons (.cst (.int (0))) (.cons (.tup .nil) .nil)))) (.cons (.cst (.bool false)) .nil))) (.cons (.tup (.cons (.tup (.cons (.cst (.int (1))) (.cons (.cst (.int (4))) (.cons (.tup .nil) .nil)))) (.cons (.cst (.bool false)) .nil))) (.cons (.tup (.cons (.tup (.cons (.cst (.int (1))) (.cons (.cst (.int (1))) (.cons (.tup (.cons (.tup (.cons (.cst (.int (0))) (.cons (.cst (.int (0))) (.cons (.tup (.cons (.cst (.int (4))) .nil)) .nil)))) .nil)) .nil)))) (.cons (.cst (.bool false)) .nil))) .nil)))))))]) (.seq (.asgs [(false, 3, (.bin .add (.var 3) (.lst (.cons (.tup (.cons (.tup (.cons (.cst (.int (1))) (.cons (.cst (.int (1))) (.cons (.tup (.cons (.tup (.cons (.cst (.int (0))) (.cons (.cst (.int (0))) (.cons (.tup (.cons (.neg (.cst (.int (3)))) .nil)) .nil)))) (.cons (.tup (.cons (.cst (.int (0))) (.cons (.cst (.int (0))) (.cons (.tup (.cons (.cst (.int (3))) .nil)) .nil)))) .nil))) .nil)))) (.cons (.cst (.bool true)) .nil))) (.cons (.tup (.cons (.tup (.cons (.cst (.int (1))) (.cons (.cst (.int (1))) (.cons (.tup (.cons (.tup (.cons (.cst (.int (0))) (.cons (.cst (.int (0))) (.cons (.tup (.cons (.cst (.int (3))) .nil)) .nil)))) (.cons (.tup (.cons (.cst (.int (0))) (.cons (.cst (.int (0))) (.cons (.tup (.cons (.neg (.cst (.int (3)))) .nil)) .nil)))) .nil))) .nil)))) (.cons (.cst (.bool false)) .nil))) .nil)))))]) (.seq (.asgs [(false, 3, (.bin .add (.var 3) (.lst (.cons (.tup (.cons (.tup (.cons (.cst (.int (1))) (.cons (.cst (.int (1))) (.cons (.tup (.cons (.tup (.cons (.cst (.int (0))) (.cons (.cst (.int (0))) (.cons (.tup (.cons (.cst (.int (1))) .nil)) .nil)))) (.cons (.tup (.cons (.cst (.int (0))) (.cons (.cst (.int (0))) (.cons (.tup (.cons (.cst (.int (1))) .nil)) .nil)))) .nil))) .nil)))) (.cons (.cst (.bool false)) .nil))) (.cons (.tup (.cons (.lst (.cons (.cst (.int (1))) (.cons (.cst (.int (1))) (.cons (.tup .nil) .nil)))) (.cons (.cst (.bool false)) .nil))) (.cons (.tup (.cons (.tup (.cons (.cst (.int (1))) (.cons (.cst (.int (1))) (.cons (.lst .nil) .nil)))) (.cons (.cst (.bool false)) .nil))) (.cons (.tup (.cons (.tup (.cons (.cst (.bool true)) (.cons (.cst (.int (1))) (.cons (.tup .nil) .nil)))) (.cons (.cst (.bool false)) .nil))) (.cons (.tup (.cons (.cst .none) (.cons (.cst (.bool false)) .nil))) .nil))))))))]) (.seq (.asgs [(false, 4, (.prim .tuple (.lc [7] (.nm 7) (.it .range (.cons (.cst (.int (12))) .nil)) (.cst (.bool true)) (.tup (.cons (.cst (.int (0))) (.cons (.cst (.int (0))) (.cons (.tup (.cons (.bin .sub (.bin .fdiv (.var 7) (.cst (.int (4)))) (.cst (.int (1)))) (.cons (.bin .sub (.bin .mod (.var 7) (.cst (.int (4)))) (.cst (.int (2)))) .nil))) .nil))))) .nil))]) (.seq (.asgs [(false, 3, (.bin .add (.var 3) (.lst (.cons (.tup (.cons (.tup (.cons (.cst (.int (1))) (.cons (.cst (.int (2))) (.cons (.var 4) .nil)))) (.cons (.cst (.bool true)) .nil))) (.cons (.tup (.cons (.tup (.cons (.cst (.int (1))) (.cons (.cst (.int (2))) (.cons (.prim .tuple (.prim .sorted (.bin .add (.var 4) (.tup (.cons (.tup (.cons (.cst (.int (0))) (.cons (.cst (.int (0))) (.cons (.tup (.cons (.cst (.int (3))) (.cons (.cst (.int (3))) .nil))) .nil)))) .nil))) .nil) .nil) .nil)))) (.cons (.cst (.bool false)) .nil))) (.cons (.tup (.cons (.tup (.cons (.cst (.int (1))) (.cons (.cst (.int (1))) (.cons (.tup (.cons (.tup (.cons (.cst (.int (0))) (.cons (.cst (.int (0))) (.cons (.cst (.int (1))) .nil)))) .nil)) .nil)))) (.cons (.cst (.bool false)) .nil))) (.cons (.tup (.cons (.tup (.cons (.cst (.int (1))) (.cons (.cst (.int (1))) (.cons (.tup (.cons (.tup (.cons (.cst (.int (0))) (.cons (.cst (.int (0))) (.cons (.tup (.cons (.cst (.bool false)) .nil)) .nil)))) .nil)) .nil)))) (.cons (.cst (.bool false)) .nil))) .nil)))))))]) (.seq (.ite (.cmp .ne (.lc [8, 9] (.cons (.nm 8) (.cons (.nm 9) .nil)) (.it .seq (.cons (.var 3) .nil)) (.cmp .ne (.prim .repr (.call "is_book" (.cons (.var 8) .nil)) .nil) (.prim .repr (.var 9) .nil)) (.var 8)) (.lst .nil)) (.ret (.cst (.bool false))) .nop) (.seq (.asgs [(false, 3, (.lst (.cons (.tup (.cons (.var 5) (.cons (.lst (.cons (.tup (.cons (.cst (.int (0))) .nil)) .nil)) .nil))) (.cons (.tup (.cons (.var 6) (.cons (.lst (.cons (.tup (.cons (.cst (.int (0))) (.cons (.cst (.int (1))) .nil))) .nil)) .nil))) (.cons (.tup (.cons (.tup (.cons (.cst (.int (2))) (.cons (.cst (.int (1))) (.cons (.tup (.cons (.tup (.cons (.cst (.int (0))) (.cons (.cst (.int (1))) (.cons (.tup (.cons (.cst (.int (0))) .nil)) .nil)))) .nil)) .nil)))) (.cons (.lst .nil) .nil))) .nil)))))]) (.seq (.asgs [(false, 3, (.bin .add (.var 3) (.lst (.cons (.tup (.cons (.tup (.cons (.cst (.int (3))) (.cons (.cst (.int (1))) (.cons (.tup (.cons (.tup (.cons (.cst (.int (0))) (.cons (.cst (.int (1))) (.cons (.tup (.cons (.cst (.int (1))) .nil)) .nil)))) (.cons (.tup (.cons (.cst (.int (1))) (.cons (.cst (.int (0))) (.cons (.tup (.cons (.cst (.int (1))) .nil)) .nil)))) (.cons (.tup (.cons (.cst (.int (1))) (.cons (.cst (.int (2))) (.cons (.tup (.cons (.cst (.int (0))) .nil)) .nil)))) (.cons (.tup (.cons (.cst (.int (2))) (.cons (.cst (.int (2))) (.cons (.tup (.cons (.cst (.int (1))) .nil)) .nil)))) .nil))))) .nil)))) (.cons (.lst (.cons (.tup (.cons (.cst (.int (0))) (.cons (.cst (.int (1))) .nil))) (.cons (.tup (.cons (.cst (.int (2))) .nil)) .nil))) .nil))) .nil))))]) (.seq (.asgs [(false, 3, (.bin .add (.var 3) (.lst (.cons (.tup (.cons (.tup (.cons (.cst (.int (3))) (.cons (.cst (.int (1))) (.cons (.tup (.cons (.tup (.cons (.cst (.int (0))) (.cons (.cst (.int (1))) (.cons (.tup (.cons (.cst (.int (1))) .nil)) .nil)))) (.cons (.tup (.cons (.cst (.int (1))) (.cons (.cst (.int (2))) (.cons (.tup (.cons (.cst (.int (1))) .nil)) .nil)))) (.cons (.tup (.cons (.cst (.int (2))) (.cons (.cst (.int (0))) (.cons (.tup (.cons (.cst (.int (1))) .nil)) .nil)))) .nil)))) .nil)))) (.cons (.lst (.cons (.tup (.cons (.cst (.int (0))) (.cons (.cst (.int (1))) (.cons (.cst (.int (2))) .nil)))) .nil)) .nil))) (.cons (.tup (.cons (.tup (.cons (.cst (.int (3))) (.cons (.cst (.int (2))) (.cons (.tup .nil) .nil)))) (.cons (.lst .nil) .nil))) .nil)))))]) (.seq (.asgs [(false, 3, (.bin .add (.var 3) (.lst (.cons (.tup (.cons (.tup (.cons (.cst (.int (3))) (.cons (.cst (.int (1))) (.cons (.tup (.cons (.tup (.cons (.cst (.int (0))) (.cons (.cst (.int (0))) (.cons (.tup (.cons (.cst (.int (1))) .nil)) .nil)))) (.cons (.tup (.cons (.cst (.int (0))) (.cons (.cst (.int (1))) (.cons (.tup (.cons (.cst (.int (1))) .nil)) .nil)))) (.cons (.tup (.cons (.cst (.int (1))) (.cons (.cst (.int (2))) (.cons (.tup (.cons (.cst (.int (1))) .nil)) .nil)))) .nil)))) .nil)))) (.cons (.lst (.cons (.tup (.cons (.cst (.int (0))) .nil)) .nil)) .nil))) (.cons (.tup (.cons (.tup (.cons (.cst (.int (3))) (.cons (.cst (.int (1))) (.cons (.tup (.cons (.tup (.cons (.cst (.int (0))) (.cons (.cst (.int (2))) (.cons (.tup (.cons (.cst (.int (1))) .nil)) .nil)))) (.cons (.tup (.cons (.cst (.int (1))) (.cons (.cst (.int (1))) (.cons (.tup (.cons (.cst (.int (1))) .nil)) .nil)))) (.cons (.tup (.cons (.cst (.int (2))) (.cons (.cst (.int (0))) (.cons (.tup (.cons (.neg (.cst (.int (1)))) .nil)) .nil)))) .nil)))) .nil)))) (.cons (.lst (.cons (.tup (.cons (.cst (.int (0))) (.cons (.cst (.int (2))) .nil))) (.cons (.tup (.cons (.cst (.int (1))) .nil)) .nil))) .nil))) .nil)))))]) (.seq (.ite (.cmp .ne (.lc [10, 9] (.cons (.nm 10) (.cons (.nm 9) .nil)) (.it .seq (.cons (.var 3) .nil)) (.or (.cmp .ne (.call "parts_of" (.cons (.var 10) .nil)) (.var 9)) (.cmp .ne (.call "_law_parts" (.cons (.var 10) .nil)) (.var 9))) (.var 10)) (.lst .nil)) (.ret (.cst (.bool false))) .nop) (.ret (.and (.cmp .eq (.call "needs_of" (.cons (.var 6) (.cons (.cst (.int (1))) .nil))) (.tup (.cons (.cst (.int (1))) (.cons (.cst (.int (2))) .nil)))) (.and (.cmp .eq (.call "needs_of" (.cons (.var 6) (.cons (.cst (.int (0))) .nil))) (.tup (.cons (.cst (.int (0))) .nil))) (.cmp .eq (.call "needs_of" (.cons (.tup (.cons (.cst (.int (2))) (.cons (.cst (.int (3))) (.cons (.tup .nil) .nil)))) (.cons (.cst (.int (1))) .nil))) (.tup .nil)))))))))))))))))))
theorem plainK {m : Nat} (hm : m = 8) {s : St} (hc : CupOk s) : ∃ s' : St, ex (run tab m) c_code [none, some .cup, none, none, none, none, none, none, none, none, none] s = .ok (.rt (.d (.bool true))) s' := by
  obtain ⟨st6, j6, s6, e6, i6, c6⟩ := xS_for (g := (.nm 2)) (src := (.it .range (.cons (.cst (.int (5))) .nil))) (body := (.ite (.or (.not (.call "_law_right" (.cons (.var 1) (.cons (.call "_law_book" (.cons (.var 1) .nil)) .nil)))) (.not (.call "_law_right" (.cons (.var 1) (.cons (.call "_law_drawn_book" (.cons (.var 1) (.cons (.cst (.int (3))) (.cons (.cst (.int (3))) (.cons (.cst (.int (12))) .nil))))) .nil))))) (.ret (.cst (.bool false))) .nop)) (G := run tab m) (s := s) (E := fun (st : Unit) (j : Option Vl) => [none, some .cup, j, none, none, none, none, none, none, none, none]) (I := fun (r : List Int) (st : Unit) => (∀ y ∈ r, y ∈ (rangeI 0 (5 : Int))) ∧ (True)) (l := (rangeI 0 (5 : Int))) (st := ()) (j := none) (i_range1 (p_int 5) (by omega)) ⟨fun _ h => h, by trivial⟩ hc (fun st j x1 r s hI hc => ⟨_, rfl, by
      have hx1 := hI.1 x1 List.mem_cons_self
      have hI1 := hI.1
      have hI := hI.2
      obtain ⟨r2, s2, e2, p2, c2⟩ := _law_book_ok (n := m) (by omega) hc  
      obtain ⟨r3, s3, e3, p3, c3⟩ := _law_right_ok (n := m) (by omega) c2 r2 (by first | exact BookN.mono (v := 4) ‹_› (by decide) | exact BookN.mono (v := Int.toNat 12) ‹_› (by decide))
      subst p3
      obtain ⟨r4, s4, e4, p4, c4⟩ := _law_drawn_book_ok (n := m) (by omega) c3 (3 : Int) (3 : Int) (12 : Int) (by first | assumption | omega | decide) (by first | assumption | omega | decide) (by first | assumption | omega | decide)
      obtain ⟨r5, s5, e5, p5, c5⟩ := _law_right_ok (n := m) (by omega) c4 r4 (by first | exact BookN.mono (v := 4) ‹_› (by decide) | exact BookN.mono (v := Int.toNat 12) ‹_› (by decide))
      subst p5
      exact ⟨(), some (tv (x1 : Int)), s5, (xS_no (pS_orF (pS_not (pS_call (pS_acC rfl (pS_ac (pS_call (pS_acC rfl p_a0) e2) p_a0)) e3)) (pS_not (pS_call (pS_acC rfl (pS_ac (pS_call (pS_acC rfl (pS_ac (p_int 3) (pS_ac (p_int 3) (pS_ac (p_int 12) p_a0)))) e4) p_a0)) e5)))), ⟨fun y hy => hI1 y (List.mem_cons_of_mem _ hy), by trivial⟩, c5⟩⟩)
  have hI := i6.2
  exact ⟨s6, (xS_seq e6 (by subst hm; kernel_rfl))⟩
end K05
end PF
end
set_option Elab.async false
set_option linter.all false
set_option maxRecDepth 100000
set_option maxHeartbeats 0
namespace LW
open PySem PySem.Spec PyProof.Rows L2 PF
def top (i : Nat) : Stmt := PySem.Challenge.pw_latticewaits_k05_whole_books_and_parts.main.body.getD i (.Pass ⟨0, 0, 0, 0⟩)
def g__law_books : DG := ⟨"_law_books", ([] : List PySem.Str), ([] : List PySem.Str), ([] : List PySem.Str), defArgs (top 33), defBody (top 33), defScope (top 33)⟩
def g_ascends : DG := ⟨"ascends", (["items"] : List PySem.Str), (["items", "one", "other"] : List PySem.Str), ([] : List PySem.Str), defArgs (top 10), defBody (top 10), defScope (top 10)⟩
def g_is_tuple_of : DG := ⟨"is_tuple_of", (["value", "low", "high"] : List PySem.Str), (["value", "low", "high"] : List PySem.Str), ([] : List PySem.Str), defArgs (top 8), defBody (top 8), defScope (top 8)⟩
def g_is_whole : DG := ⟨"is_whole", (["value", "low", "high"] : List PySem.Str), (["value", "low", "high"] : List PySem.Str), ([] : List PySem.Str), defArgs (top 7), defBody (top 7), defScope (top 7)⟩
def g_are_whole : DG := ⟨"are_whole", (["value", "low", "high"] : List PySem.Str), (["value", "low", "high", "item"] : List PySem.Str), ([] : List PySem.Str), defArgs (top 9), defBody (top 9), defScope (top 9)⟩
def g_fits_need : DG := ⟨"fits_need", (["quantities", "coordinates", "value"] : List PySem.Str), (["quantities", "coordinates", "value"] : List PySem.Str), ([] : List PySem.Str), defArgs (top 11), defBody (top 11), defScope (top 11)⟩
def g_fits_book : DG := ⟨"fits_book", (["value"] : List PySem.Str), (["value", "need"] : List PySem.Str), ([] : List PySem.Str), defArgs (top 12), defBody (top 12), defScope (top 12)⟩
def g_need_book : DG := ⟨"need_book", (["value"] : List PySem.Str), (["value"] : List PySem.Str), ([] : List PySem.Str), defArgs (top 13), defBody (top 13), defScope (top 13)⟩
def g_need_quantity : DG := ⟨"need_quantity", (["book", "value"] : List PySem.Str), (["book", "value"] : List PySem.Str), ([] : List PySem.Str), defArgs (top 14), defBody (top 14), defScope (top 14)⟩
def g_indices_of : DG := ⟨"indices_of", (["book", "quantity"] : List PySem.Str), (["book", "quantity", "at", "need"] : List PySem.Str), ([] : List PySem.Str), defArgs (top 15), defBody (top 15), defScope (top 15)⟩
def g_needs_of : DG := ⟨"needs_of", (["book", "quantity"] : List PySem.Str), (["book", "quantity"] : List PySem.Str), ([] : List PySem.Str), defArgs (top 20), defBody (top 20), defScope (top 20)⟩
def g__law_roll : DG := ⟨"_law_roll", (["cup", "many"] : List PySem.Str), (["cup", "many", "deep", "found"] : List PySem.Str), ([] : List PySem.Str), defArgs (top 24), defBody (top 24), defScope (top 24)⟩
def g__law_some : DG := ⟨"_law_some", (["cup", "things"] : List PySem.Str), (["cup", "things"] : List PySem.Str), ([] : List PySem.Str), defArgs (top 25), defBody (top 25), defScope (top 25)⟩
def g__law_spoilt : DG := ⟨"_law_spoilt", (["cup", "here"] : List PySem.Str), (["cup", "here", "at", "way"] : List PySem.Str), ([] : List PySem.Str), defArgs (top 37), defBody (top 37), defScope (top 37)⟩
def g_is_book : DG := ⟨"is_book", (["value"] : List PySem.Str), (["value"] : List PySem.Str), ([] : List PySem.Str), defArgs (top 19), defBody (top 19), defScope (top 19)⟩
def g_led_to : DG := ⟨"led_to", (["book", "quantity"] : List PySem.Str), (["book", "quantity", "found", "line", "fresh", "one", "other", "offset"] : List PySem.Str), ([] : List PySem.Str), defArgs (top 16), defBody (top 16), defScope (top 16)⟩
def g_part_with : DG := ⟨"part_with", (["book", "quantity"] : List PySem.Str), (["book", "quantity", "led", "other"] : List PySem.Str), ([] : List PySem.Str), defArgs (top 17), defBody (top 17), defScope (top 17)⟩
def g_parts_in : DG := ⟨"parts_in", (["book"] : List PySem.Str), (["book", "parts", "quantity", "part"] : List PySem.Str), ([] : List PySem.Str), defArgs (top 18), defBody (top 18), defScope (top 18)⟩
def g_parts_of : DG := ⟨"parts_of", (["book"] : List PySem.Str), (["book"] : List PySem.Str), ([] : List PySem.Str), defArgs (top 21), defBody (top 21), defScope (top 21)⟩
def g__law_leads : DG := ⟨"_law_leads", (["book", "one"] : List PySem.Str), (["book", "one", "found", "line", "fresh", "need"] : List PySem.Str), ([] : List PySem.Str), defArgs (top 26), defBody (top 26), defScope (top 26)⟩
def g__law_parts : DG := ⟨"_law_parts", (["book"] : List PySem.Str), (["book", "found", "one", "part", "other"] : List PySem.Str), ([] : List PySem.Str), defArgs (top 27), defBody (top 27), defScope (top 27)⟩
def g__law_whole : DG := ⟨"_law_whole", (["here", "low", "high"] : List PySem.Str), (["here", "low", "high"] : List PySem.Str), ([] : List PySem.Str), defArgs (top 34), defBody (top 34), defScope (top 34)⟩
def g__law_row_of : DG := ⟨"_law_row_of", (["here", "many", "low", "high"] : List PySem.Str), (["here", "many", "low", "high", "one"] : List PySem.Str), ([] : List PySem.Str), defArgs (top 35), defBody (top 35), defScope (top 35)⟩
def g__law_fits_book : DG := ⟨"_law_fits_book", (["here"] : List PySem.Str), (["here", "need"] : List PySem.Str), ([] : List PySem.Str), defArgs (top 36), defBody (top 36), defScope (top 36)⟩
def g__law_right : DG := ⟨"_law_right", (["cup", "book"] : List PySem.Str), (["cup", "book", "quantity", "turn", "odd", "at", "need"] : List PySem.Str), ([] : List PySem.Str), defArgs (top 38), defBody (top 38), defScope (top 38)⟩
def g__law_offset : DG := ⟨"_law_offset", (["cup", "coordinates"] : List PySem.Str), (["cup", "coordinates", "at"] : List PySem.Str), ([] : List PySem.Str), defArgs (top 28), defBody (top 28), defScope (top 28)⟩
def g__law_need : DG := ⟨"_law_need", (["cup", "quantities", "coordinates"] : List PySem.Str), (["cup", "quantities", "coordinates"] : List PySem.Str), ([] : List PySem.Str), defArgs (top 29), defBody (top 29), defScope (top 29)⟩
def g__law_drawn_book : DG := ⟨"_law_drawn_book", (["cup", "quantities", "coordinates", "needs"] : List PySem.Str), (["cup", "quantities", "coordinates", "needs", "found", "turn", "need", "one"] : List PySem.Str), ([] : List PySem.Str), defArgs (top 30), defBody (top 30), defScope (top 30)⟩
def g__law_known_book : DG := ⟨"_law_known_book", (["cup"] : List PySem.Str), (["cup", "some"] : List PySem.Str), ([] : List PySem.Str), defArgs (top 31), defBody (top 31), defScope (top 31)⟩
def g__law_book : DG := ⟨"_law_book", (["cup"] : List PySem.Str), (["cup"] : List PySem.Str), ([] : List PySem.Str), defArgs (top 32), defBody (top 32), defScope (top 32)⟩
def g__law_cup : DG := ⟨"_law_cup", (["script"] : List PySem.Str), (["script", "cell"] : List PySem.Str), ([] : List PySem.Str), defArgs (top 23), defBody (top 23), defScope (top 23)⟩
def g_law : DG := ⟨"law", (["script"] : List PySem.Str), (["script", "cup", "turn", "rows", "most", "b", "n", "at", "value", "due", "book"] : List PySem.Str), ([] : List PySem.Str), defArgs (top 39), defBody (top 39), defScope (top 39)⟩
def fns : List Str := (["_law_books", "ascends", "is_tuple_of", "is_whole", "are_whole", "fits_need", "fits_book", "need_book", "need_quantity", "indices_of", "needs_of", "_law_roll", "_law_some", "_law_spoilt", "is_book", "led_to", "part_with", "parts_in", "parts_of", "_law_leads", "_law_parts", "_law_whole", "_law_row_of", "_law_fits_book", "_law_right", "_law_offset", "_law_need", "_law_drawn_book", "_law_known_book", "_law_book"] : List Str)
def cns : List (Str × D) := [("MOST", .int (3)), ("NEEDS", .int (12))]
def free : List Str := (["len", "all", "abs", "sorted", "tuple", "list", "int", "set", "max", "isinstance", "range", "enumerate", "zip", "bool", "repr"] : List PySem.Str)
def ds : List DG := ([g__law_books, g_ascends, g_is_tuple_of, g_is_whole, g_are_whole, g_fits_need, g_fits_book, g_need_book, g_need_quantity, g_indices_of, g_needs_of, g__law_roll, g__law_some, g__law_spoilt, g_is_book, g_led_to, g_part_with, g_parts_in, g_parts_of, g__law_leads, g__law_parts, g__law_whole, g__law_row_of, g__law_fits_book, g__law_right, g__law_offset, g__law_need, g__law_drawn_book, g__law_known_book, g__law_book] : List DG)
def WW : Whole := ⟨⟨fns, cns, free, ds⟩, g__law_cup, g_law⟩
def cupP : List Pos := [⟨58, 4, 58, 8⟩, ⟨58, 11, 58, 14⟩, ⟨58, 16, 58, 20⟩, ⟨58, 21, 58, 27⟩, ⟨58, 16, 58, 28⟩, ⟨58, 32, 58, 33⟩, ⟨58, 31, 58, 34⟩, ⟨58, 16, 58, 34⟩, ⟨58, 36, 58, 37⟩, ⟨58, 15, 58, 38⟩, ⟨58, 11, 58, 39⟩, ⟨58, 4, 58, 39⟩, ⟨59, 26, 59, 30⟩, ⟨59, 34, 59, 36⟩, ⟨59, 40, 59, 42⟩, ⟨59, 34, 59, 42⟩, ⟨59, 26, 59, 42⟩, ⟨59, 12, 59, 16⟩, ⟨59, 20, 59, 22⟩, ⟨59, 12, 59, 22⟩, ⟨59, 48, 59, 49⟩, ⟨59, 12, 59, 49⟩, ⟨59, 51, 59, 54⟩, ⟨59, 55, 59, 59⟩, ⟨59, 62, 59, 65⟩, ⟨59, 55, 59, 65⟩, ⟨59, 68, 59, 72⟩, ⟨59, 55, 59, 72⟩, ⟨59, 51, 59, 73⟩, ⟨59, 76, 59, 86⟩, ⟨59, 51, 59, 86⟩, ⟨59, 89, 59, 92⟩, ⟨59, 51, 59, 92⟩, ⟨59, 11, 59, 93⟩, ⟨59, 4, 59, 93⟩]
def lawP : List Pos := [⟨135, 4, 135, 7⟩, ⟨135, 10, 135, 18⟩, ⟨135, 19, 135, 25⟩, ⟨135, 10, 135, 26⟩, ⟨135, 4, 135, 26⟩]
def rest : List Stmt := (defBody (top 39)).tail
def code : CS := (cB (cS 40 (g_law.cmp WW.p) 40) rest).getD .never
abbrev lev : Nat := 8
abbrev ci : Nat := 1
theorem chk : WW.chk = true := by kernel_rfl
theorem cupOk : cupChk WW.U WW.p.free = true := by kernel_rfl
theorem lawOk : lawChk WW.p WW.L ci = true := by kernel_rfl
theorem cupB : WW.U.body = cupBody 0 (fun i => cupP.getD i ⟨0, 0, 0, 0⟩) := by kernel_rfl
theorem lawB : WW.L.body = lawS (fun i => lawP.getD i ⟨0, 0, 0, 0⟩) :: rest := by kernel_rfl
theorem codeIs : (cB (cS 40 (g_law.cmp WW.p) 40) rest).isSome = true := by kernel_rfl
theorem codeOk : cB (cS 40 (WW.L.cmp WW.p) 40) rest = some code := PF.getD_ok codeIs
theorem tab_eq : WW.p.tab = PF.K05.tab := by kernel_rfl
theorem code_eq : code = PF.K05.c_code := by kernel_rfl
theorem env_eq : WW.env0 ci = ([none, some .cup, none, none, none, none, none, none, none, none, none] : PF.Env) := by kernel_rfl
theorem plain : ∀ x y : Int, 0 ≤ x → 0 ≤ y → y < 2147483563 → okP (fun fl _ => fl = .rt (.d (.bool true))) (ex (run WW.p.tab lev) code (WW.env0 ci) (x, y)) := by
  intro x y h0 h1 h2
  obtain ⟨s', e⟩ := PF.K05.plainK (m := lev) rfl (s := (x, y)) ⟨h0, h1, h2⟩
  rw [tab_eq, code_eq, env_eq, e]
  exact rfl
abbrev R : PySem.W.OpenRow := PySem.W.OpenLaw.row PySem.Challenge.rw_latticewaits_k05_whole_books_and_parts
def ob (s : PySem.W.SharedT) : He.AlD := He.obsDG 4 WW.fa WW.fn (HandSHeadRun.getT s)
theorem ob_eq (s : PySem.W.SharedT) : ob s = (He.hookD 4 WW.fa WW.fn).obs s.abs := He.obsDG_eq (HandSHeadRun.getT_eq s)
theorem run_eq (w : World) : HandSHeadRun.RunEq R (PySem.W.view R.prog [39]) (He.hookD 4 WW.fa WW.fn) ob 4000 ((["WaitError", "InvalidBook", "InvalidQuantity", "MOST", "NEEDS", "is_whole", "is_tuple_of", "are_whole", "ascends", "fits_need", "fits_book", "need_book", "need_quantity", "indices_of", "led_to", "part_with", "parts_in", "is_book", "needs_of", "parts_of", "_law_cup", "_law_roll", "_law_some", "_law_leads", "_law_parts", "_law_offset", "_law_need", "_law_drawn_book", "_law_known_book", "_law_book"] : List PySem.Str) ++ (["_law_books", "_law_whole", "_law_row_of", "_law_fits_book", "_law_spoilt", "_law_right"] : List PySem.Str)) w := by
  intro os
  kernel_rfl
end LW
open PySem PySem.W PySem.Calls PyProof.Rows
theorem PySem.Challenge.cw_latticewaits_k05_whole_books_and_parts_holds : PySem.Challenge.rw_latticewaits_k05_whole_books_and_parts.Holds := by
  w_on; o_law
  refine HandSHeadRun.head_any (r := OpenLaw.row PySem.Challenge.rw_latticewaits_k05_whole_books_and_parts) (q := view (OpenLaw.row PySem.Challenge.rw_latticewaits_k05_whole_books_and_parts).prog [39]) (H := He.hookD 4 LW.WW.fa LW.WW.fn) (ob := LW.ob) (M := 4000) (loose := (["WaitError", "InvalidBook", "InvalidQuantity", "MOST", "NEEDS", "is_whole", "is_tuple_of", "are_whole", "ascends", "fits_need", "fits_book", "need_book", "need_quantity", "indices_of", "led_to", "part_with", "parts_in", "is_book", "needs_of", "parts_of", "_law_cup", "_law_roll", "_law_some", "_law_leads", "_law_parts", "_law_offset", "_law_need", "_law_drawn_book", "_law_known_book", "_law_book"] : List PySem.Str) ++ (["_law_books", "_law_whole", "_law_row_of", "_law_fits_book", "_law_spoilt", "_law_right"] : List PySem.Str)) (d := HandSHeadRun.topDef (OpenLaw.row PySem.Challenge.rw_latticewaits_k05_whole_books_and_parts).prog 39) (kwd := []) LW.ob_eq
    (by kernel_rfl) (fun s => by kernel_rfl) LW.run_eq (by kernel_rfl) (by kernel_rfl) (by kernel_rfl) (by rfl) (by first | assumption | decide +kernel) (by decide +kernel) ⟨rfl, rfl, rfl, rfl, rfl, by decide +kernel⟩ ?hw ?hc
  case hw => w_witness2
  case hc => exact PF.row_end (W := LW.WW) (n := LW.lev) (by rfl) (by decide) (by rfl) ⟨rfl, by decide, by decide⟩ (by rfl) LW.chk LW.cupOk LW.cupB LW.lawOk LW.lawB LW.codeOk (by decide) LW.plain
