import PyProof.Rows.All
import Wide.All
import OpenK.AllK
import Wide.FinOn
import HandS.ForMost
import HandS.Exc
import KE.DataMinMax
import KE.SortData
import KE.KIndexOf
import KE.DataFind
import HandS.TupAny
import HandS.TupMul
import HandS.Deep
import HandS.Flow
import HandS.Style
import HandS.IsInst
import HandS.More
import HandS.Rev
import HandS.TryOnly
import HandS.Lambda
import HandS.HeadHook4
import HandS.Strs
import KE.KRevSl
import HandS.Iter
import HandS.Walk
import KE.GoesEnum
import KE.GoesZip
import KE.GoesMore
import HandS.ExcOwn
import KE.KTupSum
import HandS.SortKw
import HandS.Zip
import HandS.SetFor
import HandS.TupSets
import HandS.Conv
import HandS.ExcIs
import HandS.HeadHook1
import HandS.Keys
import KE.SortKeyHeap
import HandS.Small
import HandS.HeadWalk
import HandS.EndTab
import HandS.Head0
import HandS.Head1
import HandS.Head2
import HandS.HeadEnd
import HandS.HeadHook2
import HandS.Defaults
import PyProof.ReprText
import PyProof.FitsInt
import PyProof.StrLawsRepr
import PySem.Challenge.RW_strewbits_k01_what_is_a_row
set_option Elab.async false
set_option linter.all false
set_option maxRecDepth 100000
/-! Dm0: data trees, states, the small interpreter. -/
namespace Dm
open PySem

inductive D where
  | non | bl (b : Bool) | int (i : Int) | str (x : Str) | lst (xs : List D) | tup (xs : List D) | cel (n : Nat) | scr (ns : List Int) | exn (c : Nat)
  deriving Inhabited

/-- a value as it comes: a plain one, or a new list that nobody else holds -/
inductive EV where
  | val (d : D) | own (xs : List D)
  deriving Inhabited
def EV.d : EV → D
  | .val d => d
  | .own xs => .lst xs

inductive Cell where
  | lst (xs : List D) | ins (c : Nat) (fs : List (Str × D)) | dct (kvs : List (L2.Key × D))
  deriving Inhabited
structure Exn where
  cls : Nat
  flds : List (Str × D)
structure Sta where
  env : List (Option EV)
  mem : List Cell
inductive Out (α : Type) where
  | ok (a : α) (s : Sta) | exc (x : Exn) (s : Sta) | err
abbrev C (α : Type) := Sta → Out α
def ret {α : Type} (a : α) : C α := fun s => .ok a s
def fail {α : Type} : C α := fun _ => .err
/-- an equation that simp does not take for a mere unfolding (the kernel is not to run the interpreter) -/
theorem nr {α : Sort _} {a b : α} (h : a = b) : a = b := h
def Out.bnd {α β : Type} (o : Out α) (f : α → C β) : Out β := match o with
  | .ok a s' => f a s'
  | .exc x s' => .exc x s'
  | .err => .err
@[simp] theorem Out.bnd_ok {α β : Type} (a : α) (s : Sta) (f : α → C β) : (Out.ok a s).bnd f = f a s := nr rfl
@[simp] theorem Out.bnd_exc {α β : Type} (x : Exn) (s : Sta) (f : α → C β) : (Out.exc x s : Out α).bnd f = .exc x s := nr rfl
@[simp] theorem Out.bnd_err {α β : Type} (f : α → C β) : (Out.err : Out α).bnd f = .err := nr rfl
def bnd {α β : Type} (c : C α) (f : α → C β) : C β := fun s => (c s).bnd f
@[simp] theorem bnd_at {α β : Type} (c : C α) (f : α → C β) (s : Sta) : bnd c f s = (c s).bnd f := nr rfl
def ofO {α : Type} : Option α → C α
  | some a => ret a
  | none => fail
@[simp] theorem ofO_some {α : Type} (a : α) : ofO (some a) = ret a := nr rfl
@[simp] theorem ofO_none {α : Type} : (ofO none : C α) = fail := nr rfl

/-- the end of a def -/
inductive FO where
  | ok (r : EV) (m : List Cell) | exc (x : Exn) (m : List Cell) | err
abbrev Fns := Nat → List D → List Cell → FO

/-- the greatest length of a list or text -/
abbrev lim : Nat := 16777216

/-! ### syntax -/
inductive Cn where
  | non | bl (b : Bool) | int (i : Int) | str (x : Str)
  deriving DecidableEq
def Cn.d : Cn → D
  | .non => .non
  | .bl b => .bl b
  | .int i => .int i
  | .str x => .str x
inductive Bop where
  | add | sub | mul | fdiv | mod | pow | shl
  deriving DecidableEq
inductive Cop where
  | eq | ne | lt | le | gt | ge | is | isn | inn | nin
  deriving DecidableEq
inductive Ty where
  | int | bool | str | list | tuple
  deriving DecidableEq
/-- built-in functions, called by their names with values -/
inductive Bi where
  | len | abs | int | str | list | tuple | sorted | sum | max | min | all | any | isi (ts : List Ty) (one : Bool) | lenset | srtset | srtsett | repr | maxd (c : Cn) | mind (c : Cn)
  deriving DecidableEq
/-- methods of values that change nothing -/
inductive Mt where
  | index | count | join | split
  deriving DecidableEq
/-- methods that change a list -/
inductive Om where
  | append | extend | insert | pop | reverse | clear
  deriving DecidableEq

mutual
inductive E where
  | var (i : Nat) | mv (i : Nat) | con (c : Cn) | glo (x : Str) (c : Cn)
  | bin (o : Bop) (a b : E) | neg (a : E)
  | cmp (o : Cop) (a b : E) | chn (o p : Cop) (a b c : E)
  | and (a b : E) | or (a b : E) | not (a : E) | ifx (c : B) (a b : E)
  | tup (es : List E) | lst (es : List E)
  | idx (a b : E) | slc (a : E) (lo hi : Option E)
  | comp (g : G) (it : I) (t : List B) (vs : List Nat) (e : E)
  | call (f : Nat) (es : List E)
  | bi (b : Bi) (es : List E) | mth (m : Mt) (a : E) (es : List E)
  | omt (m : Om) (i : Nat) (es : List E) | cmt (m : Om) (a : E) (es : List E)
  | cel (e : E) | bor (is : List Nat) (e : E) | bcl (is : List Nat) (e : E)
  | rngv (t : Bool) (it : I) | revs (a : E) | srtk (n w : E) | ise (ks cs : List Nat) (one : Bool) (a : E)
  | fld (cs : List Nat) (a : E) (f : Str) | met (x : Str) (tab : List (Nat × Nat)) (a : E) (es : List E) | mk (c f : Nat) (es : List E)
  | dnew | dix (a k : E) | din (neg : Bool) (a d : E)
inductive B where
  | cmp (o : Cop) (a b : E) | chn (o p : Cop) (a b c : E) | and (a b : B) | or (a b : B) | not (a : B) | tru (e : E) | bcm (is : List Nat) (o : Cop) (a b : E) | din (neg : Bool) (a d : E)
inductive I where
  | seq (e : E) | rng1 (a : E) | rng2 (a b : E) | rng3 (a b c : E) | enm (e : E) | zip (a b : E) | zip3 (a b c : E) | rev (e : E)
inductive G where
  | nm (i : Nat) | tp (gs : List G) | osub (i : Nat) (k : E) | csub (a k : E) | dsub (a k : E)
end
inductive S where
  | asg (g : G) (e : E) | asgo (i : Nat) (e : E) | par (is : List Nat) (es : List E)
  | aug (i : Nat) (o : Bop) (e : E) | oaug (i : Nat) (k : E) (o : Bop) (e : E)
  | caug (a k : E) (o : Bop) (e : E)
  | exp (e : E) | ret (e : E) | retN
  | ife (c : B) (a b : List S) | for (g : G) (it : I) (ks : List Nat) (gc : Bool) (body : List S) | whl (fuel : Nat) (c : B) (ks : List Nat) (body : List S)
  | pass | brk | cnt
  | rse (c : Nat) | dead
  | tri (body : List S) (ks : List Nat) (c i j : Nat) | fst (cs : List Nat) (a : E) (f : Str) (e : E)

/-! ### data -/
mutual
def D.py : D → PyData
  | .non => .none
  | .bl b => .bool b
  | .int i => .int i
  | .str x => .str x
  | .lst xs => .list (pyAll xs)
  | .tup xs => .tuple (pyAll xs)
  | .cel _ => .dict []
  | .scr _ => .dict []
  | .exn _ => .dict []
def pyAll : List D → List PyData
  | [] => []
  | x :: xs => x.py :: pyAll xs
end
def D.shaped (d : D) : Bool := SeqAt.shaped d.py
def D.flat : D → Bool
  | .non => true
  | .bl _ => true
  | .int _ => true
  | .str _ => true
  | _ => false
/-- == of data -/
def eqD (a b : D) : Bool := PyData.eqv a.py b.py
/-- the items of a list or tuple -/
def D.items : D → Option (List D)
  | .lst xs => some xs
  | .tup xs => some xs
  | _ => none
def signs (x : Str) : List D := x.cps.toList.map fun c => .str ⟨#[c]⟩
/-- truth -/
def truD : D → Option Bool
  | .non => some false
  | .bl b => some b
  | .int i => some (i != 0)
  | .str x => if x.length ≤ lim then some ((x.length : Int) != 0) else none
  | .lst xs => some (!xs.isEmpty)
  | .tup xs => some (!xs.isEmpty)
  | _ => none

def small (i : Int) : Bool := decide (-(2 ^ 64) < i) && decide (i < 2 ^ 64)
def binD : Bop → D → D → Option EV
  | .add, .int i, .int j => some (.val (.int (i + j)))
  | .add, .str x, .str y => if x.length + y.length ≤ lim then some (.val (.str (x ++ y))) else none
  | .add, .lst xs, .lst ys => if xs.length + ys.length ≤ lim then some (.own (xs ++ ys)) else none
  | .add, .tup xs, .tup ys => if xs.length + ys.length ≤ lim then some (.val (.tup (xs ++ ys))) else none
  | .sub, .int i, .int j => some (.val (.int (i - j)))
  | .mul, .int i, .int j => if small i || small j then some (.val (.int (i * j))) else none
  | .mul, .lst xs, .int k => if -(2 ^ 63) ≤ k ∧ k < 2 ^ 63 ∧ xs.length * k.toNat ≤ lim then some (.own (List.replicate k.toNat xs).flatten) else none
  | .mul, .tup xs, .int k => if k = 1 ∨ (xs ≠ [] ∧ 2 ≤ k ∧ k ≤ 1000 ∧ xs.length ≤ 1000) then some (.val (.tup (List.replicate k.toNat xs).flatten)) else none
  | .fdiv, .int i, .int j => if j ≠ 0 ∧ j.natAbs < 1073741824 then some (.val (.int (i.fdiv j))) else none
  | .mod, .int i, .int j => if j ≠ 0 then some (.val (.int (i.fmod j))) else none
  | .pow, .int i, .int j => if 0 ≤ j ∧ j ≤ 1000000 ∧ i.natAbs < 2 ^ 64 then some (.val (.int (i ^ j.toNat))) else none
  | .shl, .int i, .int j => if 0 ≤ j ∧ j ≤ 1000000 ∧ i.natAbs < 2 ^ 64 then some (.val (.int (i * 2 ^ j.toNat))) else none
  | _, _, _ => none
/-- x in y -/
def inD (x : D) (y : D) : Option Bool := match y with
  | .lst ys => if x.shaped && (D.lst ys).shaped then some (ys.any fun y => eqD y x) else none
  | .tup ys => if x.shaped && (D.lst ys).shaped then some (ys.any fun y => eqD y x) else none
  | .str z => match x with
    | .str w => some (!(Builtin.Str.occurrences z w 0 z.length 1).isEmpty)
    | _ => none
  | _ => none
def cmpD : Cop → D → D → Option Bool
  | .eq, x, y => if x.shaped && y.shaped then some (eqD x y) else none
  | .ne, x, y => if x.shaped && y.shaped then some (!eqD x y) else none
  | .lt, .int i, .int j => some (decide (i < j))
  | .le, .int i, .int j => some (decide (i ≤ j))
  | .gt, .int i, .int j => some (decide (j < i))
  | .ge, .int i, .int j => some (decide (j ≤ i))
  | .is, .non, .non => some true
  | .is, .bl _, .non => some false
  | .is, .int _, .non => some false
  | .is, .str _, .non => some false
  | .is, .lst _, .non => some false
  | .is, .tup _, .non => some false
  | .is, .cel _, .non => some false
  | .is, .exn _, .non => some false
  | .is, .bl a, .bl b => some (a == b)
  | .isn, .non, .non => some false
  | .isn, .bl _, .non => some true
  | .isn, .int _, .non => some true
  | .isn, .str _, .non => some true
  | .isn, .lst _, .non => some true
  | .isn, .tup _, .non => some true
  | .isn, .cel _, .non => some true
  | .isn, .exn _, .non => some true
  | .isn, .bl a, .bl b => some (!(a == b))
  | .inn, x, y => inD x y
  | .nin, x, y => (inD x y).map (!·)
  | _, _, _ => none
/-- the place of an index of any sign -/
def placeD (n : Nat) (i : Int) : Option Nat := L2.ixN n i
def atD {α : Type} (xs : List α) (i : Int) : Option α := L2.atI xs i
def cutD {α : Type} (xs : List α) (lo hi : Option Int) : List α := (xs.drop (HT.sIx xs.length 0 lo)).take (HT.sIx xs.length xs.length hi - HT.sIx xs.length 0 lo)
def idxD (m : List Cell) : D → D → Option D
  | .lst xs, .int i => atD xs i
  | .tup xs, .int i => atD xs i
  | .scr ns, .int i => (atD ns i).map .int
  | .str z, .int i => if z.length ≤ lim then (atD z.cps.toList i).map fun c => .str ⟨#[c]⟩ else none
  | .cel n, .int i => match m[n]? with
    | some (.lst xs) => atD xs i
    | _ => none
  | _, _ => none
def slcD : D → Option Int → Option Int → Option EV
  | .lst xs, lo, hi => some (.own (cutD xs lo hi))
  | .tup xs, lo, hi => some (.val (.tup (cutD xs lo hi)))
  | _, _, _ => none
def intsL : List D → Option (List Int)
  | [] => some []
  | .int i :: r => (intsL r).map (i :: ·)
  | _ => none
def bls : List D → Option (List Bool)
  | [] => some []
  | .bl b :: r => (bls r).map (b :: ·)
  | _ => none
def lenD (m : List Cell) : D → Option Nat
  | .lst xs => some xs.length
  | .tup xs => some xs.length
  | .scr ns => some ns.length
  | .str x => if x.length ≤ lim then some x.length else none
  | .cel n => match m[n]? with
    | some (.lst xs) => some xs.length
    | _ => none
  | _ => none
def tyD (m : List Cell) : D → Ty → Option Bool
  | .non, _ => some false
  | .int _, t => some (decide (t = .int))
  | .bl _, t => some (decide (t = .bool) || decide (t = .int))
  | .str _, t => some (decide (t = .str))
  | .lst _, t => some (decide (t = .list))
  | .tup _, t => some (decide (t = .tuple))
  | .cel n, t => match m[n]? with
    | some (.lst _) => some (decide (t = .list))
    | _ => none
  | .scr _, _ => none
  | .exn _, _ => none
def tysD (m : List Cell) (d : D) : List Ty → Option Bool
  | [] => some false
  | t :: ts => match tyD m d t, tysD m d ts with
    | some a, some b => some (a || b)
    | _, _ => none
/-- the greatest, the least of intsL -/
def maxL : Int → List Int → Int
  | a, [] => a
  | a, b :: r => maxL (if b > a then b else a) r
def minL : Int → List Int → Int
  | a, [] => a
  | a, b :: r => minL (if b < a then b else a) r
/-- in order -/
def ins (a : Int) : List Int → List Int
  | [] => [a]
  | b :: r => if a ≤ b then a :: b :: r else b :: ins a r
def isort : List Int → List Int
  | [] => []
  | a :: r => ins a (isort r)
/-- data that can be compared with one another -/
def alikeB (xs : List D) : Bool := (xs.all fun x => xs.all fun y => PySem.W.alike x.py y.py) && (xs.all fun x => match x with
  | .non => false
  | _ => true) && decide (PyData.depthAll (pyAll xs) ≤ 50) && (D.lst xs).shaped
def ltD (a b : D) : Bool := PySem.W.dataLt a.py b.py
def bestD (mx : Bool) (x : D) (r : List D) : D := r.foldl (fun a y => if (if mx then ltD a y else ltD y a) then y else a) x
def mmD (mx : Bool) (d : Option D) (xs : List D) : Option D := match intsL xs with
  | some [] => d
  | some (a :: r) => some (.int (if mx then maxL a r else minL a r))
  | none => match xs with
    | x :: r => if alikeB (x :: r) then some (bestD mx x r) else none
    | [] => none
def sortD (xs : List D) : List D := xs.mergeSort fun a b => !ltD b a
def isTupD : D → Bool
  | .tup (_ :: _) => true
  | _ => false
def srtD (xs : List D) : Option (List D) := match intsL xs with
  | some ns => some ((isort ns).map .int)
  | none => if alikeB xs && xs.all isTupD && decide (xs.length ≤ lim) then some (sortD xs) else none
/-- each number once, as they come first -/
def firstL (ns : List Int) : List Int := ns.foldl (fun acc x => if acc.any (· == x) then acc else acc ++ [x]) []
/-- each once, as they rise -/
def insI (x : Int) : List Int → List Int
  | [] => [x]
  | y :: l => if x < y then x :: y :: l else if x = y then y :: l else y :: insI x l
def setI : List Int → List Int
  | [] => []
  | x :: ns => insI x (setI ns)
/-- how many unlike ones -/
def unlike : List D → List D → Nat
  | [], _ => 0
  | x :: r, seen => if seen.any (fun y => eqD y x) then unlike r seen else 1 + unlike r (seen ++ [x])
def strsL : List D → Option (List Str)
  | [] => some []
  | .str x :: r => (strsL r).map (x :: ·)
  | _ => none
/-- a value that has the method -/
def mtT : Mt → D → Bool
  | .index, .lst _ => true
  | .index, .tup _ => true
  | .count, .lst _ => true
  | .join, .str _ => true
  | .split, .str _ => true
  | _, _ => false
/-- what a method that changes nothing tells -/
def mthD : Mt → D → List D → Option EV
  | .index, d, [.int k] => d.items.bind fun xs => (intsL xs).bind fun ns => if k ∈ ns then some (.val (.int (ns.idxOf k : Nat))) else none
  | .index, d, [.str k] => d.items.bind fun xs => (strsL xs).bind fun ns => if k ∈ ns then some (.val (.int (ns.idxOf k : Nat))) else none
  | .count, d, [y] => d.items.bind fun xs => if PyData.plainAll (pyAll xs) && y.py.plain && PyData.canLayAll0 (pyAll xs) && y.py.canLay0 && decide (PyData.depthAll (pyAll xs) ≤ 50) then some (.val (.int (xs.countP (fun z => eqD z y) : Nat))) else none
  | .join, .str a, [d] => d.items.bind fun xs => (strsL xs).bind fun ys => if (ys.map (·.length)).sum + ys.length * a.length ≤ lim then some (.val (.str (Txt.join a ys))) else none
  | .split, .str a, [.str b] => if b.length ≠ 0 ∧ a.length + 2 ≤ lim then some (.own ((Txt.split a b).map .str)) else none
  | _, _, _ => none
/-- rows of whole numbers; each once; as they rise -/
def rowsT : List D → Option (List (List Int))
  | [] => some []
  | .tup xs :: r => (intsL xs).bind fun ns => if ns = [] then none else (rowsT r).map (ns :: ·)
  | _ :: _ => none
def dedT : List (List Int) → List (List Int)
  | [] => []
  | x :: r => if x ∈ r then dedT r else x :: dedT r
def setT (rs : List (List Int)) : List (List Int) := (dedT rs).mergeSort fun a b => decide (a ≤ b)
def rowT (r : List Int) : D := .tup (r.map .int)
/-- data as a text -/
def showB (d : D) : Bool := d.py.canLay0 && d.py.showable && decide (d.py.depth ≤ 50) && decide (d.py.shown.length ≤ lim)
def shD (d : D) : Option EV := if showB d then some (.val (.str d.py.shown)) else none
def biD (m : List Cell) : Bi → List D → Option EV
  | .len, [d] => (lenD m d).map fun (n : Nat) => .val (.int (n : Int))
  | .abs, [.int i] => some (.val (.int (if i < 0 then -i else i)))
  | .int, [.int i] => some (.val (.int i))
  | .int, [.bl b] => some (.val (.int (if b then 1 else 0)))
  | .list, [d] => d.items.map .own
  | .tuple, [d] => d.items.map fun xs => .val (.tup xs)
  | .max, [.int i, .int j] => some (.val (.int (if j > i then j else i)))
  | .min, [.int i, .int j] => some (.val (.int (if j < i then j else i)))
  | .max, [d] => d.items.bind fun xs => (mmD true none xs).map .val
  | .min, [d] => d.items.bind fun xs => (mmD false none xs).map .val
  | .maxd c, [d] => d.items.bind fun xs => (mmD true (some c.d) xs).map .val
  | .mind c, [d] => d.items.bind fun xs => (mmD false (some c.d) xs).map .val
  | .sum, [d] => (d.items.bind intsL).map fun ns => .val (.int ns.sum)
  | .all, [.lst xs] => (bls xs).map fun bs => .val (.bl (bs.all id))
  | .any, [.lst xs] => (bls xs).map fun bs => .val (.bl (bs.any id))
  | .sorted, [d] => d.items.bind fun xs => (srtD xs).map .own
  | .lenset, [d] => (d.items.bind intsL).bind fun ns => if ns.length ≤ 4000 then some (.val (.int ((firstL ns).length : Nat))) else none
  | .srtsett, [.lst xs] => (rowsT xs).bind fun rs => if rs.length < 64 then some (.own ((setT rs).map rowT)) else none
  | .srtset, [.lst xs] => (intsL xs).bind fun ns => if ns.length < 64 then some (.own ((setI ns).map .int)) else none
  | .str, [.int i] => if i.natAbs.log2 < 1920 then some (.val (.str (toString i))) else none
  | .str, [.str x] => some (.val (.str x))
  | .str, [d] => shD d
  | .repr, [d] => shD d
  | .isi ts _, [d] => (tysD m d ts).map fun b => .val (.bl b)
  | _, _ => none

/-! ### the interpreter -/
def getv (i : Nat) : C EV := fun s => match s.env[i]? with
  | some (some (.val d)) => .ok (.val d) s
  | some (some (.own xs)) => .ok (.val (.lst xs)) { s with env := s.env.set i (some (.val (.lst xs))) }
  | _ => .err
/-- a slot that holds plain data -/
def geti (i : Nat) : C EV := fun s => match s.env[i]? with
  | some (some (.val d)) => .ok (.val d) s
  | _ => .err
def move (i : Nat) : C EV := fun s => match s.env[i]? with
  | some (some (.own xs)) => .ok (.own xs) { s with env := s.env.set i none }
  | _ => .err
def setv (i : Nat) (e : EV) : C Unit := fun s => if i < s.env.length then .ok () { s with env := s.env.set i (some e) } else .err
def lift (f : List Cell → Option EV) : C EV := fun s => match f s.mem with
  | some r => .ok r s
  | none => .err
def callC (Phi : Fns) (f : Nat) (ds : List D) : C EV := fun s => match Phi f ds s.mem with
  | .ok r m => .ok r { s with mem := m }
  | .exc x m => .exc x { s with mem := m }
  | .err => .err
def celC (r : EV) : C EV := fun s => match r with
  | .own xs => .ok (.val (.cel s.mem.length)) { s with mem := s.mem ++ [.lst xs] }
  | .val d => .ok (.val d) s
mutual
/-- no cell within -/
def D.pure : D → Bool
  | .lst xs => pures xs
  | .tup xs => pures xs
  | .cel _ => false
  | _ => true
def pures : List D → Bool
  | [] => true
  | x :: xs => x.pure && pures xs
end
/-- a slot as it may be read while the list at another is lent -/
def frzv : Option EV → Option EV
  | some (.val d) => if d.pure then some (.val d) else none
  | _ => none
mutual
/-- no list within -/
def D.noL : D → Bool
  | .lst _ => false
  | .tup xs => noLs xs
  | .cel _ => false
  | .scr _ => false
  | .exn _ => false
  | _ => true
def noLs : List D → Bool
  | [] => true
  | x :: xs => x.noL && noLs xs
end
def noR : EV → Bool
  | .val d => d.noL
  | .own xs => noLs xs
/-- lists at is are lent: read while nothing is changed, no list that was there comes out -/
def lendv : Option EV → Option EV
  | some (.own xs) => if pures xs then some (.val (.lst xs)) else none
  | o => frzv o
def lendE (is : List Nat) (e : List (Option EV)) : List (Option EV) := e.mapIdx fun j o => if is.contains j then lendv o else frzv o
def borC (is : List Nat) (c : C EV) : C EV := fun s => match c ⟨lendE is s.env, []⟩ with
  | .ok r _ => if noR r then .ok r s else .err
  | _ => .err
/-- what a slot is while lists and cells are lent -/
def lendw (m : List Cell) : Option EV → Option EV
  | some (.own xs) => if pures xs then some (.val (.lst xs)) else none
  | some (.val (.cel n)) => match m[n]? with
    | some (.lst xs) => if pures xs then some (.val (.lst xs)) else none
    | _ => none
  | o => frzv o
def lendW (is : List Nat) (e : List (Option EV)) (m : List Cell) : List (Option EV) := e.mapIdx fun j o => if is.contains j then lendw m o else frzv o
def bclC (is : List Nat) (c : C EV) : C EV := fun s => match c ⟨lendW is s.env s.mem, []⟩ with
  | .ok r _ => if noR r then .ok r s else .err
  | _ => .err
def borB (is : List Nat) (c : C Bool) : C Bool := fun s => match c ⟨lendE is s.env, []⟩ with
  | .ok r _ => .ok r s
  | _ => .err
/-- a list's method: what it tells, the list behind it -/
def omD : Om → List D → List D → Option (D × List D)
  | .append, xs, [y] => if xs.length < lim then some (.non, xs ++ [y]) else none
  | .extend, xs, [.lst ys] => if xs.length + ys.length ≤ lim then some (.non, xs ++ ys) else none
  | .extend, xs, [.tup ys] => if xs.length + ys.length ≤ lim then some (.non, xs ++ ys) else none
  | .insert, xs, [.int i, y] => if xs.length < lim ∧ 0 ≤ i ∧ i < 2 ^ 63 then some (.non, xs.take i.toNat ++ [y] ++ xs.drop i.toNat) else none
  | .pop, xs, [] => match xs[xs.length - 1]? with
    | some y => some (y, xs.dropLast)
    | none => none
  | .pop, xs, [.int i] => if -(2 ^ 63) ≤ i ∧ i < 2 ^ 63 then match L2.ixN xs.length i with
      | some k => match xs[k]? with
        | some y => some (y, xs.eraseIdx k)
        | none => none
      | none => none
    else none
  | .reverse, xs, [] => some (.non, xs.reverse)
  | .clear, xs, [] => some (.non, [])
  | _, _, _ => none
def isOwn (i : Nat) : C Unit := fun s => match s.env[i]? with
  | some (some (.own _)) => .ok () s
  | _ => .err
def isCel (d : D) : C Unit := fun s => match d with
  | .cel n => match s.mem[n]? with
    | some (.lst _) => .ok () s
    | _ => .err
  | _ => .err
def omC (m : Om) (i : Nat) (ds : List D) : C EV := fun s => match s.env[i]? with
  | some (some (.own xs)) => match omD m xs ds with
    | some (y, ys) => .ok (.val y) { s with env := s.env.set i (some (.own ys)) }
    | none => .err
  | _ => .err
def cmC (m : Om) (d : D) (ds : List D) : C EV := fun s => match d with
  | .cel n => match s.mem[n]? with
    | some (.lst xs) => match omD m xs ds with
      | some (y, ys) => .ok (.val y) { s with mem := s.mem.set n (.lst ys) }
      | none => .err
    | _ => .err
  | _ => .err
def osetC (i : Nat) (k : D) (v : D) : C Unit := fun s => match s.env[i]?, k with
  | some (some (.own xs)), .int k => match L2.ixN xs.length k with
    | some j => .ok () { s with env := s.env.set i (some (.own (xs.set j v))) }
    | none => .err
  | _, _ => .err
def csetC (d : D) (k : D) (v : D) : C Unit := fun s => match d, k with
  | .cel n, .int k => match s.mem[n]? with
    | some (.lst xs) => match L2.ixN xs.length k with
      | some j => .ok () { s with mem := s.mem.set n (.lst (xs.set j v)) }
      | none => .err
    | _ => .err
  | _, _ => .err
/-- an instance's field, its classes being these -/
def fldD (cs : List Nat) (m : List Cell) (d : D) (f : Str) : Option D := match d with
  | .cel n => match m[n]? with
    | some (.ins c fs) => if cs.contains c then fs.lookup f else none
    | _ => none
  | _ => none
def putD {α : Type} (f : Str) (v : α) : List (Str × α) → List (Str × α)
  | [] => [(f, v)]
  | (g, x) :: r => if g = f then (g, v) :: r else (g, x) :: putD f v r
def fsetC (cs : List Nat) (d : D) (f : Str) (v : D) : C Unit := fun s => match d with
  | .cel n => match s.mem[n]? with
    | some (.ins c fs) => if cs.contains c ∧ fs.length < 1000 then .ok () { s with mem := s.mem.set n (.ins c (putD f v fs)) } else .err
    | _ => .err
  | _ => .err
/-- the def that an instance's method is -/
def insC (x : Str) (tab : List (Nat × Nat)) (d : D) : C Nat := fun s => match d with
  | .cel n => match s.mem[n]? with
    | some (.ins c fs) => if (fs.lookup x).isNone then (match tab.lookup c with
      | some f => .ok f s
      | none => .err) else .err
    | _ => .err
  | _ => .err
/-- a new instance: its cell, then its def -/
def mkC (Phi : Fns) (c f : Nat) (ds : List D) : C EV := fun s => match Phi f (.cel s.mem.length :: ds) (s.mem ++ [.ins c []]) with
  | .ok (.val .non) m => .ok (.val (.cel s.mem.length)) { s with mem := m }
  | .exc x m => .exc x { s with mem := m }
  | _ => .err
/-- dicts: keys are ints and texts -/
def keyD : D → Option L2.Key
  | .int i => some (.inl i)
  | .str x => some (.inr x)
  | _ => none
def getK (kvs : List (L2.Key × D)) (k : L2.Key) : Option D := (kvs.find? fun kv => decide (kv.1 = k)).map (·.2)
def putKD (kvs : List (L2.Key × D)) (k : L2.Key) (v : D) : List (L2.Key × D) :=
  if (kvs.any fun kv => decide (kv.1 = k)) = true then kvs.map (fun kv => if kv.1 = k then (kv.1, v) else kv) else kvs ++ [(k, v)]
def dnewC : C EV := fun s => .ok (.val (.cel s.mem.length)) { s with mem := s.mem ++ [.dct []] }
def dctD (m : List Cell) : D → Option (List (L2.Key × D))
  | .cel n => match m[n]? with
    | some (.dct kvs) => some kvs
    | _ => none
  | _ => none
def dixD (m : List Cell) (d k : D) : Option D := (dctD m d).bind fun kvs => (keyD k).bind (getK kvs)
def dinD (neg : Bool) (m : List Cell) (k d : D) : Option Bool := (dctD m d).bind fun kvs => (keyD k).map fun k => xor neg (getK kvs k).isSome
def dsetC (d k v : D) : C Unit := fun s => match d, keyD k with
  | .cel n, some k => match s.mem[n]? with
    | some (.dct kvs) => if kvs.length < lim then .ok () { s with mem := s.mem.set n (.dct (putKD kvs k v)) } else .err
    | _ => .err
  | _, _ => .err
def liftB (f : List Cell → Option Bool) : C Bool := fun s => match f s.mem with
  | some r => .ok r s
  | none => .err
def rangeL (lo : Int) : Nat → List D
  | 0 => []
  | n + 1 => .int lo :: rangeL (lo + 1) n
def rangeC (lo c : Int) : Nat → List D
  | 0 => []
  | n + 1 => .int lo :: rangeC (lo + c) c n
def ok62 (i : Int) : Bool := decide (-(2 ^ 62) ≤ i) && decide (i < 2 ^ 62)
def zipD : List D → List D → List D
  | x :: xs, y :: ys => .tup [x, y] :: zipD xs ys
  | _, _ => []
def zipD3 : List D → List D → List D → List D
  | x :: xs, y :: ys, z :: zs => .tup [x, y, z] :: zipD3 xs ys zs
  | _, _, _ => []
def enumD (n : Nat) : List D → List D
  | [] => []
  | x :: xs => .tup [.int n, x] :: enumD (n + 1) xs
def wipeL (vs : List Nat) (e : List (Option EV)) : List (Option EV) := vs.foldr (fun v e => e.set v none) e
def wipeE (vs : List Nat) (s : Sta) : Sta := { s with env := wipeL vs s.env }
/-- behind a comprehension: the slots of its own names as they were (lists given up) -/
def backL (old : List (Option EV)) (vs : List Nat) (e : List (Option EV)) : List (Option EV) := vs.foldr (fun (v : Nat) (e : List (Option EV)) => match old[v]? with
    | some (some (.val d)) => e.set v (some (.val d))
    | _ => e) e
def backE (vs : List Nat) (old : List (Option EV)) (s : Sta) : Sta := { s with env := backL old vs (wipeL vs s.env) }
def cloop (p : D → C Unit) (vs : List Nat) (t : C Bool) (e : C EV) : List D → C (List D)
  | [] => ret []
  | x :: xs => fun s => (bnd (p x) fun _ => bnd t fun b => if b then bnd e fun r => bnd (cloop p vs t e xs) fun rs => ret (r.d :: rs) else cloop p vs t e xs) (wipeE vs s)
def compC (p : D → C Unit) (vs : List Nat) (t : C Bool) (e : C EV) (xs : List D) : C EV := fun s =>
  if xs.length ≤ lim then match cloop p vs t e xs s with
    | .ok ys s' => .ok (.own ys) (backE vs s.env s')
    | _ => .err
  else .err
def andC (a : D) (b : C EV) : C EV := match truD a with
  | some true => b
  | some false => ret (.val a)
  | none => fail
def orC (a : D) (b : C EV) : C EV := match truD a with
  | some true => ret (.val a)
  | some false => b
  | none => fail
/-- the numbers below n, by what w leaves of them -/
def srtL (w : Nat) (n : Nat) : List Int := ((List.range w).flatMap fun c => (List.range n).filter fun i => i % w == c).map Int.ofNat
def srtK (n w : Int) : Option EV := if 0 ≤ n ∧ n ≤ 1000 ∧ 0 < w ∧ w ≤ 1000 then some (.own ((srtL w.toNat n.toNat).map .int)) else none
def revD : D → Option EV
  | .lst xs => some (.own xs.reverse)
  | .tup xs => some (.val (.tup xs.reverse))
  | _ => none
/-- own classes of exceptions: 0 any, 1 .. 4; 5 ValueError -/
def subX (c t : Nat) : Bool := c == t || t == 0 || t == 5
def iseD (ks cs : List Nat) : D → Option Bool
  | .exn c => if ks.contains c then some (cs.any (subX c)) else none
  | .non => some false
  | _ => none
def asI : D → Option Int
  | .int i => some i
  | _ => none
def lstO : D → Option (List D)
  | .lst xs => some xs
  | _ => none
def seqD : D → Option (List D)
  | .lst xs => some xs
  | .tup xs => some xs
  | .str x => some (signs x)
  | _ => none

mutual
def ev (Phi : Fns) : E → C EV
  | .var i => getv i
  | .mv i => move i
  | .con c => ret (.val c.d)
  | .glo _ c => ret (.val c.d)
  | .bin o a b => bnd (ev Phi a) fun x => bnd (ev Phi b) fun y => ofO (binD o x.d y.d)
  | .neg a => bnd (ev Phi a) fun x => ofO ((asI x.d).map fun i => .val (.int (-i)))
  | .cmp o a b => bnd (ev Phi a) fun x => bnd (ev Phi b) fun y => ofO ((cmpD o x.d y.d).map fun c => .val (.bl c))
  | .chn o p a b c => bnd (ev Phi a) fun x => bnd (ev Phi b) fun y => bnd (ofO (cmpD o x.d y.d)) fun k => if k then bnd (ev Phi c) fun z => ofO ((cmpD p y.d z.d).map fun c => .val (.bl c)) else ret (.val (.bl false))
  | .and a b => bnd (ev Phi a) fun x => andC x.d (ev Phi b)
  | .or a b => bnd (ev Phi a) fun x => orC x.d (ev Phi b)
  | .not a => bnd (ev Phi a) fun x => ofO ((truD x.d).map fun c => .val (.bl (!c)))
  | .ifx c a b => bnd (tst Phi c) fun k => if k then ev Phi a else ev Phi b
  | .tup es => bnd (evs Phi es) fun ds => if ds.length ≤ lim then ret (.val (.tup ds)) else fail
  | .lst es => bnd (evs Phi es) fun ds => if ds.length ≤ lim then ret (.own ds) else fail
  | .idx a b => bnd (ev Phi a) fun x => bnd (ev Phi b) fun y => lift fun m => (idxD m x.d y.d).map .val
  | .slc a lo hi => bnd (ev Phi a) fun x => bnd (evp Phi lo) fun l => bnd (evp Phi hi) fun h => ofO (slcD x.d l h)
  | .comp g it t vs e => bnd (itm Phi it) fun xs => compC (asgG Phi g) vs (tsts Phi t) (ev Phi e) xs
  | .call f es => bnd (evs Phi es) fun ds => callC Phi f ds
  | .bi b es => bnd (evs Phi es) fun ds => lift fun m => biD m b ds
  | .mth m a es => bnd (ev Phi a) fun x => if mtT m x.d then bnd (evs Phi es) fun ds => ofO (mthD m x.d ds) else fail
  | .omt m i es => bnd (isOwn i) fun _ => bnd (evs Phi es) fun ds => omC m i ds
  | .cmt m a es => bnd (ev Phi a) fun x => bnd (isCel x.d) fun _ => bnd (evs Phi es) fun ds => cmC m x.d ds
  | .cel e => bnd (ev Phi e) celC
  | .bor is e => borC is (ev Phi e)
  | .bcl is e => bclC is (ev Phi e)
  | .rngv t it => bnd (itm Phi it) fun xs => if xs.length ≤ lim then ret (if t then .val (.tup xs) else .own xs) else fail
  | .revs a => bnd (ev Phi a) fun x => ofO (revD x.d)
  | .ise ks cs _ a => bnd (ev Phi a) fun x => ofO ((iseD ks cs x.d).map fun b => .val (.bl b))
  | .fld cs a f => bnd (ev Phi a) fun x => lift fun m => (fldD cs m x.d f).map .val
  | .met x tab a es => bnd (ev Phi a) fun o => bnd (insC x tab o.d) fun f => bnd (evs Phi es) fun ds => callC Phi f (o.d :: ds)
  | .mk c f es => bnd (evs Phi es) fun ds => mkC Phi c f ds
  | .dnew => dnewC
  | .dix a k => bnd (ev Phi a) fun x => bnd (ev Phi k) fun y => lift fun m => (dixD m x.d y.d).map .val
  | .din neg a d => bnd (ev Phi a) fun x => bnd (ev Phi d) fun y => lift fun m => (dinD neg m x.d y.d).map fun b => .val (.bl b)
  | .srtk n w => bnd (ev Phi n) fun x => bnd (ev Phi w) fun y => ofO ((asI x.d).bind fun i => (asI y.d).bind fun j => srtK i j)
def evs (Phi : Fns) : List E → C (List D)
  | [] => ret []
  | e :: es => bnd (ev Phi e) fun x => bnd (evs Phi es) fun xs => ret (x.d :: xs)
def evp (Phi : Fns) : Option E → C (Option Int)
  | none => ret none
  | some e => bnd (ev Phi e) fun x => ofO ((asI x.d).map some)
def tst (Phi : Fns) : B → C Bool
  | .cmp o a b => bnd (ev Phi a) fun x => bnd (ev Phi b) fun y => ofO (cmpD o x.d y.d)
  | .chn o p a b c => bnd (ev Phi a) fun x => bnd (ev Phi b) fun y => bnd (ofO (cmpD o x.d y.d)) fun k => if k then bnd (ev Phi c) fun z => ofO (cmpD p y.d z.d) else ret false
  | .and a b => bnd (tst Phi a) fun k => if k then tst Phi b else ret false
  | .or a b => bnd (tst Phi a) fun k => if k then ret true else tst Phi b
  | .not a => bnd (tst Phi a) fun k => ret (!k)
  | .tru e => bnd (ev Phi e) fun x => ofO (truD x.d)
  | .din neg a d => bnd (ev Phi a) fun x => bnd (ev Phi d) fun y => liftB fun m => dinD neg m x.d y.d
  | .bcm is o a b => borB is (bnd (ev Phi a) fun x => bnd (ev Phi b) fun y => ofO (cmpD o x.d y.d))
def tsts (Phi : Fns) : List B → C Bool
  | [] => ret true
  | [b] => tst Phi b
  | _ => fail
def evo (Phi : Fns) : List E → C (List EV)
  | [] => ret []
  | e :: es => bnd (ev Phi e) fun x => bnd (evo Phi es) fun xs => ret (x :: xs)
def itm (Phi : Fns) : I → C (List D)
  | .seq e => bnd (ev Phi e) fun x => ofO (seqD x.d)
  | .rng1 a => bnd (ev Phi a) fun x => ofO ((asI x.d).bind fun j => if ok62 j then some (rangeL 0 j.toNat) else none)
  | .rng2 a b => bnd (ev Phi a) fun x => bnd (ev Phi b) fun y => ofO ((asI x.d).bind fun i => (asI y.d).bind fun j => if ok62 i && ok62 j then some (rangeL i (j - i).toNat) else none)
  | .rng3 a b c => bnd (ev Phi a) fun x => bnd (ev Phi b) fun y => bnd (ev Phi c) fun z => ofO ((asI x.d).bind fun i => (asI y.d).bind fun j => (asI z.d).bind fun c =>
      if c ≠ 0 ∧ c.natAbs < 1073741824 ∧ Builtin.Range.small i j c = true then some (rangeC i c (Builtin.Range.rangeSize i j c).toNat) else none)
  | .enm e => bnd (ev Phi e) fun x => ofO (x.d.items.map (enumD 0))
  | .zip a b => bnd (ev Phi a) fun x => bnd (ev Phi b) fun y => ofO (x.d.items.bind fun xs => y.d.items.map fun ys => zipD xs ys)
  | .zip3 a b c => bnd (ev Phi a) fun x => bnd (ev Phi b) fun y => bnd (ev Phi c) fun z => ofO (x.d.items.bind fun xs => y.d.items.bind fun ys => z.d.items.map fun zs => zipD3 xs ys zs)
  | .rev e => bnd (ev Phi e) fun x => ofO (x.d.items.map List.reverse)
def asgG (Phi : Fns) : G → D → C Unit
  | .nm i, d => setv i (.val d)
  | .tp gs, d => match d with
    | .tup xs => if gs.length = xs.length then asgs Phi gs xs else fail
    | .lst xs => if gs.length = xs.length then asgs Phi gs xs else fail
    | _ => fail
  | .osub i k, d => bnd (isOwn i) fun _ => bnd (ev Phi k) fun x => osetC i x.d d
  | .csub a k, d => bnd (ev Phi a) fun c => bnd (ev Phi k) fun x => csetC c.d x.d d
  | .dsub a k, d => bnd (ev Phi a) fun c => bnd (ev Phi k) fun x => dsetC c.d x.d d
def asgs (Phi : Fns) : List G → List D → C Unit
  | [], [] => ret ()
  | g :: gs, d :: ds => bnd (asgG Phi g d) fun _ => asgs Phi gs ds
  | _, _ => fail
end

def Cell.pure : Cell → Bool
  | .lst xs => pures xs
  | _ => false
/-- what a def made for itself is forgotten, if nothing of it is told -/
def trimM (n : Nat) (m : List Cell) : List Cell := if (m.take n).all Cell.pure then m.take n else m

/-! ### statements -/
inductive Fl where
  | nx | rt (r : EV) | bk | ct
def pureE : Option EV → Bool
  | none => true
  | some (.val d) => d.pure
  | some (.own xs) => pures xs
/-- between the turns of a loop: slots are given up, and what was made meanwhile -/
def cleanS (ks : List Nat) (g : Option Nat) (s : Sta) : Sta := match g with
  | none => { s with env := wipeL ks s.env }
  | some n => if (wipeL ks s.env).all pureE then ⟨wipeL ks s.env, trimM n s.mem⟩ else { s with env := wipeL ks s.env }
def clean (ks : List Nat) (g : Option Nat) : C Fl := fun s => .ok .nx (cleanS ks g s)
def floop (p : D → C Unit) (body : C Fl) (ks : List Nat) (g : Option Nat) : List D → C Fl
  | [] => clean ks g
  | x :: xs => fun s => (bnd (p x) fun _ => bnd body fun f => match f with
    | .nx => floop p body ks g xs
    | .ct => floop p body ks g xs
    | .bk => clean ks g
    | .rt r => ret (.rt r)) (cleanS ks g s)
def wloop (c : C Bool) (body : C Fl) (ks : List Nat) : Nat → C Fl
  | 0 => fail
  | n + 1 => fun s => (bnd c fun k => if k then bnd body fun f => match f with
      | .nx => wloop c body ks n
      | .ct => wloop c body ks n
      | .bk => clean ks none
      | .rt r => ret (.rt r)
    else ret .nx) (cleanS ks none s)
def setm : List Nat → List EV → C Unit
  | [], [] => ret ()
  | i :: is, d :: ds => bnd (setv i d) fun _ => setm is ds
  | _, _ => fail
/-- op= of ints -/
def augV : Bop → D → D → Option D
  | .add, .int i, .int j => some (.int (i + j))
  | .sub, .int i, .int j => some (.int (i - j))
  | .mul, .int i, .int j => if small i || small j then some (.int (i * j)) else none
  | _, _, _ => none
def augD (o : Bop) (x y : D) : Option EV := (augV o x y).map .val
def oaugC (i : Nat) (k : D) (o : Bop) (e : C EV) : C Unit := fun s => match s.env[i]?, k with
  | some (some (.own xs)), .int k => match L2.atI xs k with
    | some x => (bnd e fun y => bnd (ofO (augV o x y.d)) fun z => osetC i (.int k) z) s
    | none => .err
  | _, _ => .err
/-- what is caught is kept in slot j, slot i is given up -/
def triC (body : C Fl) (ks : List Nat) (c i j : Nat) : C Fl := fun s => match body s with
  | .exc x s' => if ks.contains x.cls then (if subX x.cls c then (if j < s'.env.length then .ok .nx { s' with env := (s'.env.set j (some (.val (.exn x.cls)))).set i none } else .err) else .exc x s') else .err
  | o => o

mutual
def sx (Phi : Fns) : S → C Fl
  | .asg g e => bnd (ev Phi e) fun x => bnd (asgG Phi g x.d) fun _ => ret .nx
  | .asgo i e => bnd (ev Phi e) fun x => bnd (setv i x) fun _ => ret .nx
  | .par is es => bnd (evo Phi es) fun ds => bnd (setm is ds) fun _ => ret .nx
  | .aug i o e => bnd (geti i) fun x => bnd (ev Phi e) fun y => bnd (ofO (augD o x.d y.d)) fun z => bnd (setv i z) fun _ => ret .nx
  | .oaug i k o e => bnd (isOwn i) fun _ => bnd (ev Phi k) fun x => bnd (oaugC i x.d o (ev Phi e)) fun _ => ret .nx
  | .caug _ _ _ _ => fail
  | .exp e => bnd (ev Phi e) fun _ => ret .nx
  | .ret e => bnd (ev Phi e) fun r => ret (.rt r)
  | .retN => ret (.rt (.val .non))
  | .ife c a b => bnd (tst Phi c) fun k => if k then sxs Phi a else sxs Phi b
  | .for g it ks gc body => bnd (itm Phi it) fun xs => fun s => floop (asgG Phi g) (sxs Phi body) ks (if gc then some s.mem.length else none) xs s
  | .whl n c ks body => wloop (tst Phi c) (sxs Phi body) ks n
  | .pass => ret .nx
  | .brk => ret .bk
  | .cnt => ret .ct
  | .rse c => fun s => .exc ⟨c, []⟩ s
  | .dead => fail
  | .tri body ks c i j => triC (sxs Phi body) ks c i j
  | .fst cs a f e => bnd (ev Phi e) fun x => bnd (ev Phi a) fun o => bnd (fsetC cs o.d f x.d) fun _ => ret .nx
def sxs (Phi : Fns) : List S → C Fl
  | [] => ret .nx
  | s :: ss => bnd (sx Phi s) fun f => match f with
    | .nx => sxs Phi ss
    | f => ret f
end

/-- a def: how many parameters, how many slots, its body -/
structure Fn where
  ps : Nat
  ns : Nat
  gc : Bool
  body : List S
def trimR (g : Bool) (n : Nat) (r : EV) (m : List Cell) : List Cell := if g && r.d.pure then trimM n m else m
def runFn (Phi : Fns) (fd : Fn) (ds : List D) (m : List Cell) : FO :=
  if ds.length = fd.ps then
    match sxs Phi fd.body ⟨ds.map (fun d => some (.val d)) ++ List.replicate (fd.ns - fd.ps) none, m⟩ with
    | .ok .nx s => .ok (.val .non) (trimR fd.gc m.length (.val .non) s.mem)
    | .ok (.rt r) s => .ok r (trimR fd.gc m.length r s.mem)
    | .exc x s => .exc x (trimR fd.gc m.length (.val .non) s.mem)
    | _ => .err
  else .err
abbrev Tab := Nat → Option Fn
def Phi (T : Tab) : Nat → Fns
  | 0 => fun _ _ _ => .err
  | k + 1 => fun f ds m => match T f with
    | some fd => runFn (Phi T k) fd ds m
    | none => .err
/-! ### the numbers put in order by what is left -/
theorem srtN_pairwise (w n : Nat) : ((List.range w).flatMap fun c => (List.range n).filter fun i => i % w == c).Pairwise fun a b => a % w < b % w ∨ (a % w = b % w ∧ a < b) := by
  rw [List.pairwise_flatMap]
  refine ⟨fun c _ => ?_, ?_⟩
  · have h1 : ((List.range n).filter fun i => i % w == c).Pairwise (· < ·) := List.Pairwise.filter _ List.pairwise_lt_range
    refine List.Pairwise.imp_of_mem (fun {a b} ha hb h => ?_) h1
    have ha := (List.mem_filter.mp ha).2
    have hb := (List.mem_filter.mp hb).2
    simp only [beq_iff_eq] at ha hb
    omega
  · refine List.Pairwise.imp (fun {a b} h x hx y hy => ?_) List.pairwise_lt_range
    have hx := (List.mem_filter.mp hx).2
    have hy := (List.mem_filter.mp hy).2
    simp only [beq_iff_eq] at hx hy
    omega
theorem srtN_perm (w n : Nat) (hw : 0 < w) : ((List.range w).flatMap fun c => (List.range n).filter fun i => i % w == c).Perm (List.range n) := by
  refine (List.perm_ext_iff_of_nodup ?_ List.nodup_range).mpr fun a => ?_
  · refine List.Pairwise.imp (fun {a b} h => ?_) (srtN_pairwise w n)
    intro e
    subst e
    omega
  · simp only [List.mem_flatMap, List.mem_range, List.mem_filter, beq_iff_eq]
    constructor
    · rintro ⟨c, _, h, _⟩
      exact h
    · intro h
      exact ⟨a % w, Nat.mod_lt _ hw, h, rfl⟩
end Dm

set_option Elab.async false
set_option linter.all false
set_option maxRecDepth 100000
set_option maxHeartbeats 1000000
/-! Dm1: data and the heap; what a state of the interpreter says of a state of the layer. -/
namespace Dm
open PySem PySem.Spec PyProof.Rows L2

set_option autoImplicit false
abbrev Sl := L2.St
/-- a table that tells of code objects named q stays one where all but lists and frozen things stay -/
theorem tabS_move {H H' : Hp} {P : Addr} {q : Str} (t : LamX.TabS H P q) (h : ∀ a o, H a = some o → (∀ xs, o ≠ .lst xs) → (∀ ob u, o ≠ .frz ob u) → H' a = some o) : LamX.TabS H' P q := by
  obtain ⟨ps, h1, h2, h3⟩ := t
  refine ⟨ps, h _ _ h1 (fun _ e => by cases e) (fun _ _ e => by cases e), h2, fun pos cv hc => ?_⟩
  obtain ⟨c, e1, e2⟩ := h3 pos cv hc
  exact ⟨c, e1, h _ _ e2 (fun _ e => by cases e) (fun _ _ e => by cases e)⟩
/-- the defs that make lambdas, the names of these -/
def lamNames : List Str := ["_law_any_order", "_law_for"]
def lamQ (x : Str) : Str := x ++ ".<locals>." ++ "<lambda>"
/-- the table P is that of a def that makes lambdas, q their name -/
def TQ (K : PySem.W.Frag) (P : Addr) (q : Str) : Prop := ∃ x ∈ lamNames, PySem.W.codeHdIn K (He.cT K (x, none)).1 (He.cT K (x, none)).2 = true ∧ P = (He.cT K (x, none)).2 ∧ q = lamQ x
/-- frozen lists and tuples stay -/
structure Per (H H' : Hp) : Prop where
  f : ∀ a o u, H a = some (.frz o u) → H' a = some (.frz o u)
  t : ∀ a xs, H a = some (.tup xs) → H' a = some (.tup xs)
theorem Per.refl {H : Hp} : Per H H := ⟨fun _ _ _ h => h, fun _ _ h => h⟩
theorem Per.trans {H H1 H2 : Hp} (a : Per H H1) (b : Per H1 H2) : Per H H2 := ⟨fun _ _ _ h => b.f _ _ _ (a.f _ _ _ h), fun _ _ h => b.t _ _ (a.t _ _ h)⟩
theorem Per.new {H : Hp} {p : Addr} {o : HO} (h : H p = none) : Per H (upd H p o) := ⟨fun a _ _ e => by rw [upd_ne (ne_of_none e h)]; exact e, fun a _ e => by rw [upd_ne (ne_of_none e h)]; exact e⟩
/-- a list is rewritten -/
theorem Per.lst {H : Hp} {p : Addr} {xs : List V} {o : HO} (h : H p = some (.lst xs)) : Per H (upd H p o) :=
  ⟨fun a _ _ e => by rw [upd_ne (ne_of e h (by intro z; cases z))]; exact e, fun a _ e => by rw [upd_ne (ne_of e h (by intro z; cases z))]; exact e⟩
theorem tabS_new {H : Hp} {p : Addr} {o : HO} {P : Addr} {q : Str} (t : LamX.TabS H P q) (h : H p = none) : LamX.TabS (upd H p o) P q := t.ext fun a u e => by rw [upd_ne (ne_of_none e h)]; exact e
theorem tabS_lst {H : Hp} {p : Addr} {xs : List V} {o : HO} {P : Addr} {q : Str} (t : LamX.TabS H P q) (h : H p = some (.lst xs)) : LamX.TabS (upd H p o) P q := tabS_move t fun a u e n _ => by rw [upd_ne (ne_of e h (n _))]; exact e
/-- all but tables stays -/
def XtN (H H' : Hp) : Prop := ∀ a o, H a = some o → (∀ ps, o ≠ .tbl ps) → H' a = some o
theorem Per.seqL {K : PySem.W.Frag} {H H' : Hp} (p : Per H H') {a : Addr} {xs : List V} (h : (∃ o, H a = some (.frz o (.lst xs))) ∨ (SqL K H a xs ∧ H a = none)) : SqL K H' a xs := by
  rcases h with ⟨o, h⟩ | ⟨h, n⟩
  · exact .inl (.inr ⟨o, p.f _ _ _ h⟩)
  · rcases h with (h | ⟨o, h⟩) | h
    · rw [n] at h; cases h
    · rw [n] at h; cases h
    · exact .inr h

/-- the script: frozen, or an object of the module -/
def ScrL (K : PySem.W.Frag) (H : Hp) (a : Addr) (xs : List V) : Prop := (∃ o, H a = some (.frz o (.lst xs))) ∨
  ∃ (o : Obj) (its : Array Value) (n : Nat), K.lookup a = some o ∧ o.cls = .type "list" ∧ o.dict = none ∧ o.data = .seq its n ∧ its.size ≤ sizeLine ∧ Vals xs its.toList
theorem ScrL.sq {K : PySem.W.Frag} {H : Hp} {a : Addr} {xs : List V} (h : ScrL K H a xs) : SqL K H a xs := by
  rcases h with ⟨o, h⟩ | h
  · exact .inl (.inr ⟨o, h⟩)
  · exact .inr h
theorem ScrL.per {K : PySem.W.Frag} {H H' : Hp} {a : Addr} {xs : List V} (p : Per H H') (h : ScrL K H a xs) : ScrL K H' a xs := by
  rcases h with ⟨o, h⟩ | h
  · exact .inl ⟨o, p.f _ _ _ h⟩
  · exact .inr h

/-- a tuple that was made: known, without a dict -/
def TupO (H : Hp) (a : Addr) (vs : List V) : Prop := ∃ o : Obj, H a = some (.frz o (.tup vs)) ∧ o.dict = none
theorem TupO.per {H H' : Hp} {a : Addr} {vs : List V} (p : Per H H') (h : TupO H a vs) : TupO H' a vs := by
  obtain ⟨o, h1, h2⟩ := h
  exact ⟨o, p.f _ _ _ h1, h2⟩
theorem TupO.sq {K : PySem.W.Frag} {H : Hp} {a : Addr} {vs : List V} (h : TupO H a vs) : SqT K H a vs := by
  obtain ⟨o, h1, _⟩ := h
  exact .inl (.inr ⟨o, h1⟩)
theorem TupO.new {H : Hp} {p : Addr} {vs : List V} {o : Obj} (h : o.dict = none) : TupO (upd H p (.frz o (.tup vs))) p vs := ⟨o, upd_same, h⟩
/-- the names of the classes of exceptions, their addresses -/
def exN (c : Nat) : Str := ["StrewError", "NoFit", "NoTurn", "NoMender", "BadRow", "ValueError"].getD c ""
def clA (K : PySem.W.Frag) (c : Nat) : Addr := He.ga K (exN c)
def clV (K : PySem.W.Frag) (c : Nat) : Value := if c = 5 then .type "ValueError" else .ref (clA K c)
/-- a caught exception that is held -/
def exO : HO := .ext fun _ => True
/-- the names of the text's classes, their addresses -/
def csN (c : Nat) : Str := ["Strewer", "Gatherer", "Hunt", "Reading"].getD c ""
def csA (K : PySem.W.Frag) (c : Nat) : Addr := He.ga K (csN c)
mutual
def Rep (K : PySem.W.Frag) (H : Hp) (l : List Addr) : D → V → Prop
  | .non, v => v = .non
  | .bl b, v => v = .bl b
  | .int i, v => v = .int i
  | .str x, v => v = .str x
  | .lst xs, v => ∃ a o vs, v = .ref a ∧ H a = some (.frz o (.lst vs)) ∧ Reps K H l xs vs
  | .tup xs, v => ∃ a vs, v = .ref a ∧ TupO H a vs ∧ Reps K H l xs vs
  | .cel n, v => ∃ a, v = .ref a ∧ l[n]? = some a
  | .scr ns, v => ∃ a, v = .ref a ∧ ScrL K H a (ns.map V.int)
  | .exn c, v => ∃ a oe, v = .ref a ∧ H a = some (.frz oe exO) ∧ oe.cls = .ref (clA K c) ∧ oe.dict = none ∧ ∃ vs, oe.data = .fields vs
def Reps (K : PySem.W.Frag) (H : Hp) (l : List Addr) : List D → List V → Prop
  | [], vs => vs = []
  | x :: xs, vs => ∃ v r, vs = v :: r ∧ Rep K H l x v ∧ Reps K H l xs r
end
theorem pre_get {α : Type} {l l' : List α} (h : l <+: l') {n : Nat} {a : α} (e : l[n]? = some a) : l'[n]? = some a := by
  obtain ⟨t, rfl⟩ := h
  have hn : n < l.length := (List.getElem?_eq_some_iff.mp e).1
  rw [List.getElem?_append_left hn]
  exact e
section
variable {K : PySem.W.Frag} {H H' : Hp} {l l' : List Addr}
mutual
theorem Rep.mono (p : Per H H') (hl : l <+: l') : ∀ (d : D) (v : V), Rep K H l d v → Rep K H' l' d v
  | .non, _, h => h
  | .bl _, _, h => h
  | .int _, _, h => h
  | .str _, _, h => h
  | .lst xs, v, h => by
    obtain ⟨a, o, vs, e, h1, h2⟩ := h
    exact ⟨a, o, vs, e, p.f _ _ _ h1, Reps.mono p hl xs vs h2⟩
  | .tup xs, v, h => by
    obtain ⟨a, vs, e, h1, h2⟩ := h
    exact ⟨a, vs, e, h1.per p, Reps.mono p hl xs vs h2⟩
  | .cel n, v, h => by
    obtain ⟨a, e, h1⟩ := h
    exact ⟨a, e, pre_get hl h1⟩
  | .scr ns, v, h => by
    obtain ⟨a, e, h1⟩ := h
    exact ⟨a, e, h1.per p⟩
  | .exn c, v, h => by
    obtain ⟨a, oe, e, h1, h2⟩ := h
    exact ⟨a, oe, e, p.f _ _ _ h1, h2⟩
theorem Reps.mono (p : Per H H') (hl : l <+: l') : ∀ (ds : List D) (vs : List V), Reps K H l ds vs → Reps K H' l' ds vs
  | [], _, h => h
  | x :: xs, vs, h => by
    obtain ⟨v, r, e, h1, h2⟩ := h
    exact ⟨v, r, e, Rep.mono p hl x v h1, Reps.mono p hl xs r h2⟩
end
theorem Reps.nil : Reps K H l [] [] := rfl
theorem Reps.cons {d : D} {ds : List D} {v : V} {vs : List V} (h : Rep K H l d v) (t : Reps K H l ds vs) : Reps K H l (d :: ds) (v :: vs) := ⟨v, vs, rfl, h, t⟩
theorem Reps.len : ∀ {ds : List D} {vs : List V}, Reps K H l ds vs → vs.length = ds.length
  | [], _, h => by cases (show _ = _ from h); rfl
  | x :: xs, vs, h => by
    obtain ⟨v, r, e, _, h2⟩ := h
    subst e
    simp [Reps.len h2]
theorem Reps.app : ∀ {ds es : List D} {vs ws : List V}, Reps K H l ds vs → Reps K H l es ws → Reps K H l (ds ++ es) (vs ++ ws)
  | [], _, _, _, h, t => by cases (show _ = _ from h); exact t
  | x :: xs, _, vs, _, h, t => by
    obtain ⟨v, r, e, h1, h2⟩ := h
    subst e
    exact .cons h1 (Reps.app h2 t)
theorem Reps.get : ∀ {ds : List D} {vs : List V} {i : Nat} {d : D}, Reps K H l ds vs → ds[i]? = some d → ∃ v, vs[i]? = some v ∧ Rep K H l d v
  | [], _, _, _, _, e => by simp at e
  | x :: xs, vs, 0, d, h, e => by
    obtain ⟨v, r, e1, h1, h2⟩ := h
    subst e1
    simp at e
    subst e
    exact ⟨v, rfl, h1⟩
  | x :: xs, vs, i + 1, d, h, e => by
    obtain ⟨v, r, e1, h1, h2⟩ := h
    subst e1
    obtain ⟨w, e2, h3⟩ := Reps.get (i := i) (d := d) h2 (by simpa using e)
    exact ⟨w, by simpa using e2, h3⟩
theorem Reps.take : ∀ {ds : List D} {vs : List V} (n : Nat), Reps K H l ds vs → Reps K H l (ds.take n) (vs.take n)
  | _, _, 0, _ => by simpa using Reps.nil
  | [], _, n + 1, h => by cases (show _ = _ from h); exact .nil
  | x :: xs, vs, n + 1, h => by
    obtain ⟨v, r, e1, h1, h2⟩ := h
    subst e1
    exact .cons h1 (Reps.take n h2)
theorem Reps.drop : ∀ {ds : List D} {vs : List V} (n : Nat), Reps K H l ds vs → Reps K H l (ds.drop n) (vs.drop n)
  | _, _, 0, h => by simpa using h
  | [], _, n + 1, h => by cases (show _ = _ from h); exact .nil
  | x :: xs, vs, n + 1, h => by
    obtain ⟨v, r, e1, h1, h2⟩ := h
    subst e1
    simpa using Reps.drop n h2
theorem Reps.set : ∀ {ds : List D} {vs : List V} {d : D} {v : V} (i : Nat), Reps K H l ds vs → Rep K H l d v → Reps K H l (ds.set i d) (vs.set i v)
  | [], _, _, _, _, h, _ => by cases (show _ = _ from h); exact .nil
  | x :: xs, vs, d, v, 0, h, r => by
    obtain ⟨w, t, e1, h1, h2⟩ := h
    subst e1
    exact .cons r h2
  | x :: xs, vs, d, v, i + 1, h, r => by
    obtain ⟨w, t, e1, h1, h2⟩ := h
    subst e1
    exact .cons h1 (Reps.set i h2 r)
theorem Reps.erase : ∀ {ds : List D} {vs : List V} (i : Nat), Reps K H l ds vs → Reps K H l (ds.eraseIdx i) (vs.eraseIdx i)
  | [], _, _, h => by cases (show _ = _ from h); exact .nil
  | x :: xs, vs, 0, h => by
    obtain ⟨w, t, e1, h1, h2⟩ := h
    subst e1
    exact h2
  | x :: xs, vs, i + 1, h => by
    obtain ⟨w, t, e1, h1, h2⟩ := h
    subst e1
    exact .cons h1 (Reps.erase i h2)
theorem Reps.rev : ∀ {ds : List D} {vs : List V}, Reps K H l ds vs → Reps K H l ds.reverse vs.reverse
  | [], _, h => by cases (show _ = _ from h); exact .nil
  | x :: xs, vs, h => by
    obtain ⟨w, t, e1, h1, h2⟩ := h
    subst e1
    simpa using Reps.app (Reps.rev h2) (Reps.cons h1 .nil)
theorem Reps.rep {ds : List D} {vs : List V} (h : Reps K H l ds vs) : ∀ k : Nat, Reps K H l (List.replicate k ds).flatten (List.replicate k vs).flatten
  | 0 => .nil
  | k + 1 => by
    rw [List.replicate_succ, List.replicate_succ, List.flatten_cons, List.flatten_cons]
    exact Reps.app h (Reps.rep h k)
theorem Reps.dropLast {ds : List D} {vs : List V} (h : Reps K H l ds vs) : Reps K H l ds.dropLast vs.dropLast := by
  rw [List.dropLast_eq_take, List.dropLast_eq_take, h.len]
  exact h.take _
theorem Reps.ints : ∀ {ds : List D} {vs : List V} {ns : List Int}, Reps K H l ds vs → intsL ds = some ns → vs = ns.map V.int
  | [], _, _, h, e => by
    cases (show _ = _ from h)
    simp [intsL] at e
    subst e
    rfl
  | .int i :: xs, vs, ns, h, e => by
    obtain ⟨w, t, e1, h1, h2⟩ := h
    subst e1
    unfold intsL at e
    obtain ⟨ms, e2, e3⟩ := Option.map_eq_some_iff.mp e
    subst e3
    cases (show w = V.int i from h1)
    rw [Reps.ints h2 e2]
    rfl
  | .non :: _, _, _, _, e => by simp [intsL] at e
  | .bl _ :: _, _, _, _, e => by simp [intsL] at e
  | .str _ :: _, _, _, _, e => by simp [intsL] at e
  | .lst _ :: _, _, _, _, e => by simp [intsL] at e
  | .tup _ :: _, _, _, _, e => by simp [intsL] at e
  | .cel _ :: _, _, _, _, e => by simp [intsL] at e
  | .scr _ :: _, _, _, _, e => by simp [intsL] at e
  | .exn _ :: _, _, _, _, e => by simp [intsL] at e
theorem Reps.bls : ∀ {ds : List D} {vs : List V} {ns : List Bool}, Reps K H l ds vs → Dm.bls ds = some ns → vs = ns.map V.bl
  | [], _, _, h, e => by
    cases (show _ = _ from h)
    simp [Dm.bls] at e
    subst e
    rfl
  | .bl i :: xs, vs, ns, h, e => by
    obtain ⟨w, t, e1, h1, h2⟩ := h
    subst e1
    unfold Dm.bls at e
    obtain ⟨ms, e2, e3⟩ := Option.map_eq_some_iff.mp e
    subst e3
    cases (show w = V.bl i from h1)
    rw [Reps.bls h2 e2]
    rfl
  | .non :: _, _, _, _, e => by simp [Dm.bls] at e
  | .int _ :: _, _, _, _, e => by simp [Dm.bls] at e
  | .str _ :: _, _, _, _, e => by simp [Dm.bls] at e
  | .lst _ :: _, _, _, _, e => by simp [Dm.bls] at e
  | .tup _ :: _, _, _, _, e => by simp [Dm.bls] at e
  | .cel _ :: _, _, _, _, e => by simp [Dm.bls] at e
  | .scr _ :: _, _, _, _, e => by simp [Dm.bls] at e
  | .exn _ :: _, _, _, _, e => by simp [Dm.bls] at e
end

/-- all but tables -/
def noTb (H : Hp) : Hp := fun p => match H p with
  | some (.tbl _) => none
  | o => o
theorem noTb_some {H : Hp} {p : Addr} {o : HO} (h : noTb H p = some o) : H p = some o ∧ ∀ ps, o ≠ .tbl ps := by
  unfold noTb at h
  split at h
  · cases h
  · rename_i h2
    refine ⟨h, fun ps e => ?_⟩
    subst e
    exact h2 ps h
theorem noTb_of {H : Hp} {p : Addr} {o : HO} (h : H p = some o) (n : ∀ ps, o ≠ .tbl ps) : noTb H p = some o := by
  unfold noTb
  split
  · rename_i ps e
    rw [e] at h
    exact absurd (Option.some.inj h).symm (n ps)
  · exact h
theorem noTb_none {H : Hp} {p : Addr} (h : H p = none) : noTb H p = none := by
  unfold noTb
  split
  · rfl
  · exact h
/-! ### cells, slots -/
def CellRep (K : PySem.W.Frag) (H : Hp) (l : List Addr) (a : Addr) : Cell → Prop
  | .lst xs => ∃ vs, H a = some (.lst vs) ∧ Reps K H l xs vs
  | .ins c fs => ∃ dx gs, H a = some (.ins (csA K c) dx gs) ∧ gs.map (·.1) = fs.map (·.1) ∧ Reps K H l (fs.map (·.2)) (gs.map (·.2))
  | .dct kvs => ∃ ws : List (L2.Key × V), H a = some (.dK ws) ∧ ws.map (·.1) = kvs.map (·.1) ∧ Reps K H l (kvs.map (·.2)) (ws.map (·.2))
def SlotRep (K : PySem.W.Frag) (H : Hp) (l : List Addr) (σ : Sl) (i : Nat) : EV → Prop
  | .val d => ∃ v, σ[i]? = some (some v) ∧ Rep K H l d v
  | .own xs => ∃ p vs, σ[i]? = some (some (.ref p)) ∧ H p = some (.lst vs) ∧ Reps K H l xs vs
/-- the state st of the interpreter, of the slots σ and the heap H: Kp is what is kept (others' things), l the cells' addresses -/
structure Rel (K : PySem.W.Frag) (Kp : Hp) (σ : Sl) (H : Hp) (l : List Addr) (st : Sta) : Prop where
  ln : st.env.length = σ.length
  nd : l.Nodup
  ml : l.length = st.mem.length
  tr : ∀ a ∈ l, ∃ o, H a = some o
  kp : ∀ p o, Kp p = some o → H p = some o
  kc : ∀ a ∈ l, Kp a = none
  kt : ∀ a ps, Kp a ≠ some (.tbl ps)
  tb : ∀ P q, TQ K P q → LamX.TabS H P q
  cells : ∀ (n : Nat) (a : Addr) (c : Cell), l[n]? = some a → st.mem[n]? = some c → CellRep K H l a c
  slots : ∀ (i : Nat) (e : EV), st.env[i]? = some (some e) → SlotRep K H l σ i e
  own : ∀ (i : Nat) (xs : List D) (p : Addr), st.env[i]? = some (some (EV.own xs)) → σ[i]? = some (some (V.ref p)) → Kp p = none ∧ p ∉ l
  dist : ∀ (i j : Nat) (xs ys : List D) (p : Addr), st.env[i]? = some (some (EV.own xs)) → st.env[j]? = some (some (EV.own ys)) → i ≠ j → σ[i]? = some (some (V.ref p)) → σ[j]? ≠ some (some (V.ref p))
/-- a value as it comes -/
def RvR (K : PySem.W.Frag) (Kp : Hp) (σ : Sl) (H : Hp) (l : List Addr) (st : Sta) : EV → V → Prop
  | .val d, v => Rep K H l d v
  | .own xs, v => ∃ p vs, v = .ref p ∧ H p = some (.lst vs) ∧ Reps K H l xs vs ∧ Kp p = none ∧ p ∉ l ∧ ∀ (i : Nat) (ys : List D), st.env[i]? = some (some (EV.own ys)) → σ[i]? ≠ some (some (V.ref p))

section
variable {K : PySem.W.Frag} {Kp : Hp} {σ : Sl} {H : Hp} {l : List Addr} {st : Sta} {p : Addr} {o : HO}
theorem CellRep.mono {H' : Hp} {l' : List Addr} {a : Addr} {c : Cell} (pe : Per H H') (hl : l <+: l') (ha : ∀ o, H a = some o → (∀ ps, o ≠ .tbl ps) → H' a = some o) (h : CellRep K H l a c) : CellRep K H' l' a c := by
  cases c with
  | lst xs =>
    obtain ⟨vs, h1, h2⟩ := h
    exact ⟨vs, ha _ h1 fun _ e => (by cases e), h2.mono pe hl⟩
  | ins _ _ =>
    obtain ⟨dx, gs, h1, h2, h3⟩ := h
    exact ⟨dx, gs, ha _ h1 fun _ e => (by cases e), h2, h3.mono pe hl⟩
  | dct _ =>
    obtain ⟨ws, h1, h2, h3⟩ := h
    exact ⟨ws, ha _ h1 fun _ e => (by cases e), h2, h3.mono pe hl⟩
/-- the heap grows or others' things change: what is ours stays -/
theorem Rel.move {H' : Hp} (R : Rel K Kp σ H l st) (pe : Per H H') (kp : ∀ p o, Kp p = some o → H' p = some o) (hl : ∀ a o, H a = some o → (∀ ps, o ≠ .tbl ps) → (a ∈ l ∨ ∃ (i : Nat) (xs : List D), st.env[i]? = some (some (EV.own xs)) ∧ σ[i]? = some (some (V.ref a))) → H' a = some o)
    (tr : ∀ a ∈ l, ∃ o, H' a = some o) (tb : ∀ P q, TQ K P q → LamX.TabS H' P q) : Rel K Kp σ H' l st where
  ln := R.ln
  nd := R.nd
  ml := R.ml
  tr := tr
  kp := kp
  kc := R.kc
  kt := R.kt
  tb := tb
  cells := fun n a c h1 h2 => (R.cells n a c h1 h2).mono pe (List.prefix_refl _) fun o h nt => hl a o h nt (.inl (List.mem_of_getElem? h1))
  slots := fun i e h => by
    have q := R.slots i e h
    cases e with
    | val d =>
      obtain ⟨v, h1, h2⟩ := q
      exact ⟨v, h1, h2.mono pe (List.prefix_refl _)⟩
    | own xs =>
      obtain ⟨p, vs, h1, h2, h3⟩ := q
      exact ⟨p, vs, h1, hl p _ h2 (fun _ e => (by cases e)) (.inr ⟨i, xs, h, h1⟩), h3.mono pe (List.prefix_refl _)⟩
  own := R.own
  dist := R.dist
theorem Rel.new (R : Rel K Kp σ H l st) (h : H p = none) : Rel K Kp σ (upd H p o) l st :=
  R.move (.new h) (fun q u e => by rw [upd_ne (ne_of_none (R.kp q u e) h)]; exact R.kp q u e) (fun a vs e _ _ => by rw [upd_ne (ne_of_none e h)]; exact e)
    (fun a ha => by obtain ⟨u, e⟩ := R.tr a ha; exact ⟨u, by rw [upd_ne (ne_of_none e h)]; exact e⟩) fun P q t => tabS_new (R.tb P q t) h
theorem Rel.kp_none (R : Rel K Kp σ H l st) (h : H p = none) : Kp p = none := by
  cases e : Kp p with
  | none => rfl
  | some u => rw [R.kp p u e] at h; cases h
theorem Rel.nmem (R : Rel K Kp σ H l st) (h : H p = none) : p ∉ l := fun m => by
  obtain ⟨u, e⟩ := R.tr p m
  rw [e] at h; cases h
theorem Rel.nown (R : Rel K Kp σ H l st) (h : H p = none) : ∀ (i : Nat) (ys : List D), st.env[i]? = some (some (EV.own ys)) → σ[i]? ≠ some (some (V.ref p)) := fun i ys e z => by
  obtain ⟨q, vs, h1, h2, _⟩ := R.slots i _ e
  rw [z] at h1
  cases h1
  rw [h2] at h; cases h
theorem Rel.kp_noneT (R : Rel K Kp σ H l st) (h : noTb H p = none) : Kp p = none := by
  cases e : Kp p with
  | none => rfl
  | some u =>
    rw [noTb_of (R.kp p u e) fun ps z => R.kt p ps (by rw [e, z])] at h
    cases h
theorem Rel.at_ (R : Rel K Kp σ H l st) (h : p ∈ l) : ∃ o, H p = some o ∧ ∀ ps, o ≠ .tbl ps := by
  obtain ⟨n, hn⟩ := List.getElem?_of_mem h
  have h1 : n < l.length := (List.getElem?_eq_some_iff.mp hn).1
  rw [R.ml] at h1
  have h2 : st.mem[n]? = some st.mem[n] := List.getElem?_eq_getElem h1
  have q := R.cells n p _ hn h2
  generalize st.mem[n] = c at q
  cases c with
  | lst xs => exact ⟨_, q.choose_spec.1, fun _ e => (by cases e)⟩
  | ins _ _ =>
    obtain ⟨_, _, h1, _⟩ := q
    exact ⟨_, h1, fun _ e => (by cases e)⟩
  | dct _ =>
    obtain ⟨_, h1, _⟩ := q
    exact ⟨_, h1, fun _ e => (by cases e)⟩
theorem Rel.nmemT (R : Rel K Kp σ H l st) (h : noTb H p = none) : p ∉ l := fun m => by
  obtain ⟨o, e, n⟩ := R.at_ m
  rw [noTb_of e n] at h
  cases h
theorem Rel.nownT (R : Rel K Kp σ H l st) (h : noTb H p = none) : ∀ (i : Nat) (ys : List D), st.env[i]? = some (some (EV.own ys)) → σ[i]? ≠ some (some (V.ref p)) := fun i ys e z => by
  obtain ⟨q, vs, h1, h2, _⟩ := R.slots i _ e
  rw [z] at h1
  cases h1
  rw [noTb_of h2 fun _ z => by cases z] at h
  cases h
/-- a new list -/
theorem Rel.ownNew (R : Rel K Kp σ H l st) (h : H p = none) {xs : List D} {vs : List V} (r : Reps K H l xs vs) : RvR K Kp σ (upd H p (.lst vs)) l st (.own xs) (.ref p) :=
  ⟨p, vs, rfl, upd_same, r.mono (.new h) (List.prefix_refl _), R.kp_none h, R.nmem h, R.nown h⟩
theorem Rel.tupNew {ob : Obj} (h : H p = none) {xs : List D} {vs : List V} (r : Reps K H l xs vs) (hd : ob.dict = none) : Rep K (upd H p (.frz ob (.tup vs))) l (.tup xs) (.ref p) :=
  ⟨p, vs, rfl, .new hd, r.mono (.new h) (List.prefix_refl _)⟩
end

/-! ### computations and their ends -/
/-- an exception as it lies -/
def XR (cl : Nat → Addr) (x : Exn) (cls : Value) (d : Option Addr) (H : Hp) : Prop := cls = .ref (cl x.cls) ∧ d = none ∧ x.flds = []
def Fin {α : Type} (K : PySem.W.Frag) (cl : Nat → Addr) (W : WX) (Kp : Hp) (σ : Sl) (H : Hp) (l : List Addr) (o : Out α) (P : α → Sta → Hp → List Addr → Prop) : Prop := match o with
  | .ok a st' => ∀ H' l', Rel K Kp σ H' l' st' → Per H H' → l <+: l' → P a st' H' l'
  | .exc x st' => ∀ cls d H' l', Rel K Kp σ H' l' st' → Per H H' → l <+: l' → XR cl x cls d H' → W cls d σ H'
  | .err => False
section
variable {α β : Type} {K : PySem.W.Frag} {cl : Nat → Addr} {W : WX} {Kp : Hp} {σ : Sl} {H H1 : Hp} {l l1 : List Addr}
theorem Fin.weak {o : Out α} {P : α → Sta → Hp → List Addr → Prop} (h : Fin K cl W Kp σ H l o P) (pe : Per H H1) (hl : l <+: l1) : Fin K cl W Kp σ H1 l1 o P := by
  cases o with
  | ok a s => exact fun H' l' R p q => h H' l' R (pe.trans p) (hl.trans q)
  | exc x s => exact fun c d H' l' R p q => h c d H' l' R (pe.trans p) (hl.trans q)
  | err => exact h
theorem Fin.bnd {o : Out α} {f : α → C β} {P : β → Sta → Hp → List Addr → Prop} (h : Fin K cl W Kp σ H l (o.bnd f) P) :
    Fin K cl W Kp σ H l o fun a st' H' l' => Fin K cl W Kp σ H' l' (f a st') P := by
  cases o with
  | ok a s => exact fun H' l' R p q => Fin.weak h p q
  | exc x s => exact h
  | err => exact h
theorem Fin.imp {o : Out α} {P P' : α → Sta → Hp → List Addr → Prop} (h : Fin K cl W Kp σ H l o P) (f : ∀ a st' H' l', Rel K Kp σ H' l' st' → Per H H' → l <+: l' → P a st' H' l' → P' a st' H' l') : Fin K cl W Kp σ H l o P' := by
  cases o with
  | ok a s => exact fun H' l' R p q => f a s H' l' R p q (h H' l' R p q)
  | exc x s => exact h
  | err => exact h
theorem Fin.ok {a : α} {st : Sta} {P : α → Sta → Hp → List Addr → Prop} (h : Fin K cl W Kp σ H l (.ok a st) P) (R : Rel K Kp σ H l st) : P a st H l := h H l R .refl (List.prefix_refl _)
end

/-- what a def's text leans on: the written part, the classes' addresses, what is wanted of an exception -/
structure Gx where
  K : PySem.W.Frag
  cl : Nat → Addr
/-- the readings of a computation: its value as it comes; its value frozen -/
def rd (g : Gx) (W : WX) (c : C EV) : TE := fun σ H Q => ∃ Kp l st, Rel g.K Kp σ H l st ∧ Fin g.K g.cl W Kp σ H l (c st) fun r st' H' l' => ∀ v, RvR g.K Kp σ H' l' st' r v → Q v H'
def rz (g : Gx) (W : WX) (c : C EV) : TE := fun σ H Q => ∃ Kp l st, Rel g.K Kp σ H l st ∧ Fin g.K g.cl W Kp σ H l (c st) fun r st' H' l' => ∀ v, Rep g.K H' l' r.d v → Q v H'
def rb (g : Gx) (W : WX) (c : C Bool) : TT := fun σ H Q => ∃ Kp l st, Rel g.K Kp σ H l st ∧ Fin g.K g.cl W Kp σ H l (c st) fun r st' H' l' => Q r H'
def ra (g : Gx) (W : WX) (c : C (List D)) : TA := fun σ H Q => ∃ Kp l st, Rel g.K Kp σ H l st ∧ Fin g.K g.cl W Kp σ H l (c st) fun r st' H' l' => ∀ vs, Reps g.K H' l' r vs → Q vs H'

theorem PE.imp {X : Cx} {e : Expr} {t t' : TE} (h : PE X e t) (f : ∀ σ H Q, t' σ H Q → t σ H Q) : PE X e t' := ⟨fun pins s σ H Q I q => h.run pins s σ H Q I (f σ H Q q)⟩
theorem PT.imp {X : Cx} {e : Expr} {t t' : TT} (h : PT X e t) (f : ∀ σ H Q, t' σ H Q → t σ H Q) : PT X e t' := ⟨fun pins s σ H Q I q => h.run pins s σ H Q I (f σ H Q q)⟩
theorem PA.imp {X : Cx} {e : List Expr} {t t' : TA} (h : PA X e t) (f : ∀ σ H Q, t' σ H Q → t σ H Q) : PA X e t' := ⟨fun pos pins s σ H Q I q => h.run pos pins s σ H Q I (f σ H Q q)⟩
theorem PS.imp {X : Cx} {e : Stmt} {t t' : TS} (h : PS X e t) (f : ∀ D σ H, t' D σ H → t D σ H) : PS X e t' := ⟨fun pins s σ H D I q => h.run pins s σ H D I (f D σ H q)⟩
theorem PSs.imp {X : Cx} {e : List Stmt} {t t' : TS} (h : PSs X e t) (f : ∀ D σ H, t' D σ H → t D σ H) : PSs X e t' := ⟨fun pins s σ H D I q => h.run pins s σ H D I (f D σ H q)⟩

/-! ### freezing: a list that nobody else holds -/
theorem inv_lock {X : Cx} {pins : List (Addr × Obj)} {σ : Sl} {H : Hp} {s : Shared} {d : Addr} {u : HO} (I : Inv X pins σ H s) (h : H d = some u) (mu : Mut (some u)) : ∃ od, Inv X pins σ (upd H d (.frz od u)) s := Inv.lock I h mu
section
variable {K : PySem.W.Frag} {Kp : Hp} {σ : Sl} {H : Hp} {l : List Addr} {st : Sta} {p : Addr}
/-- a list of nobody's is frozen -/
theorem Rel.frz {od : Obj} {vs : List V} (R : Rel K Kp σ H l st) (h : H p = some (.lst vs)) (k : Kp p = none) (hl : p ∉ l) (ho : ∀ (i : Nat) (ys : List D), st.env[i]? = some (some (EV.own ys)) → σ[i]? ≠ some (some (V.ref p))) :
    Rel K Kp σ (upd H p (.frz od (.lst vs))) l st := by
  have nl : ∀ a, a ∈ l → a ≠ p := fun a m e => hl (e ▸ m)
  refine R.move (.lst h) (fun q u e => ?_) (fun a vs' e _ m => ?_) (fun a m => ?_) ?_
  · rw [upd_ne (fun z => by rw [z, k] at e; cases e)]
    exact R.kp q u e
  · rw [upd_ne]
    · exact e
    · rcases m with m | ⟨i, xs, h1, h2⟩
      · exact nl a m
      · exact fun z => ho i xs h1 (z ▸ h2)
  · obtain ⟨u, e⟩ := R.tr a m
    exact ⟨u, by rw [upd_ne (nl a m)]; exact e⟩
  · exact fun P q t => tabS_lst (R.tb P q t) h
end
/-- .. of a value as it comes -/
theorem RvR.frz {X : Cx} {K : PySem.W.Frag} {pins : List (Addr × Obj)} {σ σ' : Sl} {H Kp : Hp} {l : List Addr} {st : Sta} {s : Shared} {r : EV} {v : V} (I : Inv X pins σ' H s) (R : Rel K Kp σ H l st) (h : RvR K Kp σ H l st r v) :
    ∃ H', Inv X pins σ' H' s ∧ Rel K Kp σ H' l st ∧ Per H H' ∧ Rep K H' l r.d v := by
  cases r with
  | val d => exact ⟨H, I, R, .refl, h⟩
  | own xs =>
    obtain ⟨p, vs, e, h1, h2, h3, h4, h5⟩ := h
    obtain ⟨od, J⟩ := inv_lock I h1 (by trivial)
    exact ⟨_, J, R.frz h1 h3 h4 h5, .lst h1, p, od, vs, e, upd_same, h2.mono (.lst h1) (List.prefix_refl _)⟩
/-- the same, with its own end -/
theorem pe_rz {X : Cx} {g : Gx} {W : WX} {e : Expr} {c : C EV} (h : PE X e (rd g W c)) : PE X e (rz g W c) := by
  refine ⟨fun pins s σ H Q I q => ?_⟩
  obtain ⟨Kp, l, st, R, f⟩ := q
  refine wpAny_mono (h.run pins s σ H (fun v H' => ∃ r st' l', Rel g.K Kp σ H' l' st' ∧ RvR g.K Kp σ H' l' st' r v ∧ Per H H' ∧ l <+: l' ∧ Fin g.K g.cl W Kp σ H' l' (.ok r st') fun r st' H' l' => ∀ v, Rep g.K H' l' r.d v → Q v H') I ⟨Kp, l, st, R, ?_⟩) ?_ (fun _ _ x => x)
  · cases o : c st with
    | ok r st' =>
      rw [o] at f
      exact fun H' l' R' p q v hv => ⟨r, st', l', R', hv, p, q, Fin.weak f p q⟩
    | exc x st' => rw [o] at f; exact f
    | err => rw [o] at f; exact f
  · rintro u s' ⟨v, H', I', rv, r, st', l', R', hv, p, q, ff⟩
    obtain ⟨H2, I2, R2, p2, r2⟩ := RvR.frz I' R' hv
    exact ⟨v, H2, I2, rv, ff H2 l' R2 p2 (List.prefix_refl _) v r2⟩
end Dm

set_option Elab.async false
set_option linter.all false
set_option maxRecDepth 100000
set_option maxHeartbeats 4000000
set_option autoImplicit false
/-! DmX: a tuple once; a list extended by a tuple. -/
namespace Dm
open PySem PySem.Spec PyProof.Rows L2
theorem tuple_mul1 (l : Addr) (items : Array Value) (n : Nat) (dd : Option Addr) (sl : Array (Option Value)) (u : Tok) :
    Meets (Builtin.«tuple.__mul__» ⟨[.ref l, .int 1 u], []⟩) (fun _ R s => s.heap.get? l = some { cls := .type "tuple", dict := dd, data := .seq items n, slots := sl } ∧ R (.ok (.ret (Value.ref l))) s) :=
  .of_wp fun prog w A R s h => by
    obtain ⟨hp, g, d, tk, os⟩ := s
    obtain ⟨hl, h⟩ := h
    have f1 := AutoSeq1.idx_int
    wp_walk using wpAny_loadPart' hl
    repeat (first
      | (refine wpAny_ite_false (decide_eq_false (by decide)) ?_; wp_walk using wpAny_loadPart' hl)
      | (refine wpAny_ite_true (by simp) ?_; wp_walk using wpAny_loadPart' hl))
    exact ⟨_, rfl, h⟩
section
variable {X : Cx}
theorem op_rep1 : OpR X (binaryOp .Mult) (fun x y H Q => ∃ l xs, x = .ref l ∧ y = .int 1 ∧ SqT X.K H l xs ∧ Q (.ref l) H) := by
  intro pins s σ H x y v u Q I rx ry h
  obtain ⟨l, xs, rfl, rfl, hT, q⟩ := h
  cases rx
  obtain ⟨t, rfl⟩ := ry
  obtain ⟨its, r, ⟨⟨cls, dd, data, sl⟩, ho, hc, n, hd⟩, hs⟩ := I.tuple hT
  simp only at hc hd
  subst hc hd
  refine wpAny_binaryOp_repeat_ref (T := "tuple") (U := "int") (by decide) ⟨_, ho, rfl⟩ (fun s' => typeIs_int s' 1 t) noFill_tuple_mul F.fills_int_mul F.slot_int_rmul repeat_tuple F.slot_int_index.lookup
    (call_meets F.slot_int_rmul (typeIs_int s 1 t) F.entry_int_rmul (F.args_int_rmul_2 _ _) (int_rmul_tuple 1 t l its.toArray n dd sl)
      ⟨ho, rfl, ⟨_, ho, rfl⟩, call_meets F.slot_tuple_mul ⟨_, ho, rfl⟩ F.entry_tuple_mul (F.args_tuple_mul_2 _ _) (tuple_mul1 l its.toArray n dd sl t) ⟨ho, ?_⟩⟩)
  exact ⟨.ref l, H, I.kept (t' := s.toks) fun _ _ z => z, rfl, q⟩
/-- xs.extend(t) -/
theorem mt_extT : MtM X "list.extend" (fun x vs H Q => ∃ l b xs zs, x = .ref l ∧ vs = [.ref b] ∧ H l = some (.lst xs) ∧ (∃ ob : Obj, H b = some (.frz ob (.tup zs))) ∧ xs.length + zs.length ≤ sizeLine ∧ Q .non (upd H l (.lst (xs ++ zs)))) := by
  intro pins s σ H x vs v us Q I rx rv h
  obtain ⟨l, b, xs, zs, rfl, rfl, hH, hB, hz, q⟩ := h
  cases rx
  obtain ⟨u, rfl, ru⟩ := rv.one
  cases ru
  obtain ⟨z, its, n, r, hl, e⟩ := I.lstM hH
  obtain ⟨its2, r2, ⟨o2, ho2, hc2, n2, hd2⟩, hz2⟩ := I.tuple (xs := zs) (.inl (.inr hB))
  have hsz : its.toArray.size + its2.toArray.size ≤ sizeLine := by rw [List.size_toArray, List.size_toArray, ← r.length, ← r2.length]; exact hz
  have hlong : ¬ (!its.toArray.isEmpty && Builtin.List.listTooLong (its.toArray.size + its2.toArray.size)) = true := by
    rw [notLongL hsz, Bool.and_false]
    exact Bool.false_ne_true
  refine wpAny_call_entry F.slot_list_extend ⟨_, e, rfl⟩ F.entry_list_extend ?_ (F.args_list_extend_2 _ _)
  unfold Builtin.«list.extend»
  show wpAny _ _ (Builtin.List.listExtendWith (.ref l) (.ref b) .none) _ _ s
  unfold Builtin.List.listExtendWith
  refine wpAny_bind (wpAny_typeOf (T := "tuple") ⟨o2, ho2, hc2⟩ ?_)
  have ht : (Value.type "tuple" == Value.type "tuple") = true := by rfl
  rw [if_pos (by rw [ht]; simp)]
  refine wpAny_bind (listItems_at ho2 hd2 ?_)
  refine wpAny_bind (listItems_at e rfl ?_)
  rw [if_neg hlong]
  refine wpAny_bind (listUpdate_at e rfl ?_ (by rw [List.size_toArray, ← hl]; exact z) (by rw [Array.size_append]; omega))
  refine wpAny_pure ⟨.none, rfl, .non, _, I.lset (its' := its ++ its2) (ys := xs ++ zs) (t' := s.toks) hH e (by simp) (r.append r2) (by rw [List.length_append]; exact hz), rfl, q⟩
end
end Dm

set_option Elab.async false
set_option linter.all false
set_option maxRecDepth 100000
set_option maxHeartbeats 4000000
set_option autoImplicit false
/-! DmT: tuples as they are made: known, without a dict. -/
namespace Dm
open PySem PySem.Spec PyProof.Rows L2
section
variable {prog : Program} {w : World} {A : Around} {E : Value → Shared → Prop} {s : Shared}
theorem sliceApplied_rev {sl : Addr} {vs : Value} {n : Nat} {Q : Int × Int × Nat → Shared → Prop} (hs : s.heap.IsSliceOf sl .none .none vs) (ps : IsPart vs (some (-1)))
    (h : Q ((n : Int) - 1, -1, n) s) : wpAny (model prog w) A (Builtin.Slice.sliceApplied (.ref sl) (pure (n : Int))) Q E s := by
  obtain ⟨os, hos, hcs, hds⟩ := id hs
  cases ps with
  | int i t =>
  unfold Builtin.Slice.sliceApplied Builtin.Slice.sliceFields
  refine wpAny_bind (wpAny_bind (wpAny_field hos hds (x := .none) rfl (wpAny_bind (wpAny_field hos hds (x := .none) rfl (wpAny_bind (wpAny_field hos hds (x := .int (-1) t) rfl (wpAny_pure ?_)))))))
  refine wpAny_bind (slicePart_int ?_)
  show wpAny _ _ (if ((-1 : Int) == 0) = true then _ else _) _ _ s
  rw [if_neg (by decide)]
  refine wpAny_bind (slicePart_none (wpAny_bind (slicePart_none (wpAny_bind (wpAny_pure ?_)))))
  show wpAny _ _ (pure ((n : Int) - 1, (-1 : Int), Builtin.Slice.slicePlaces ((n : Int) - 1) (-1) (-1))) _ _ s
  have e : Builtin.Slice.slicePlaces ((n : Int) - 1) (-1) (-1) = n := by
    unfold Builtin.Slice.slicePlaces
    rw [if_neg (by decide)]
    split
    · rw [show (-(-1 : Int)) = 1 by decide, Int.ediv_one]
      omega
    · omega
  rw [e]
  exact wpAny_pure h
theorem pick_rev (xs : Array Value) : ((List.range xs.size).filterMap fun (m : Nat) => xs[(((xs.size : Int) - 1) + (m : Int) * (-1)).toNat]?).toArray = xs.toList.reverse.toArray := by
  rw [← PySem.W.krv_pick]
  unfold slicePick
  rw [PySem.W.krv_bounds]
  show _ = ((sliceRange ((xs.size : Int) - 1) (-1) (-1)).filterMap (xs[·]?)).toArray
  rw [PySem.W.krv_sliceRange]
  have e : ((List.range xs.size).filterMap fun (m : Nat) => xs[(((xs.size : Int) - 1) + (m : Int) * (-1)).toNat]?) = ((List.range xs.size).map fun (m : Nat) => (((xs.size : Int) - 1) + (m : Int) * (-1)).toNat).filterMap (xs[·]?) := by
    rw [List.filterMap_map]
    rfl
  rw [e]
  congr 2
  refine List.map_congr_left fun m hm => ?_
  have := List.mem_range.mp hm
  omega
theorem getItem_tuple_rev {t sl : Addr} {items : Array Value} {vs : Value} {Q : Value → Shared → Prop} (ht : IsTup s.heap t items) (hs : s.heap.IsSliceOf sl .none .none vs) (ps : IsPart vs (some (-1)))
    (h : Q (.ref s.heap.objs.size) { s with heap := s.heap.push { cls := .type "tuple", data := .seq items.toList.reverse.toArray } })
    (hsz : items.size ≤ sizeLine) : wpAny (model prog w) A (getItem (.ref t) (.ref sl)) Q E s := by
  have htake : sizeOk (.seq items.toList.reverse.toArray) := by
    show items.toList.reverse.toArray.size ≤ sizeLine
    rw [List.size_toArray, List.length_reverse, Array.length_toList]
    exact hsz
  obtain ⟨os, hos, hcs, hds⟩ := id hs
  have hTs : s.TypeIs (.ref sl) "slice" := ⟨os, hos, hcs⟩
  unfold getItem
  try with_reducible refine wpAny_holding ?_
  first | refine wpAny_bind (wpAny_pure ?_) | skip
  refine wpAny_bind (wpAny_sequenceKey ht.typeIs (by decide) ?_)
  refine wpAny_bind (wpAny_callSpecial?_slot (name := Str.ofString "__getitem__") ht.typeIs PyProof.Rows.slot_tuple_getitem
    (wpAny_call_entry PyProof.Rows.slot_tuple_getitem ht.typeIs entry_tuple_getitem ?_ (args_tuple_getitem _ _)))
  show wpAny _ _ (Builtin.Tuple.tupleItemsOf (.ref t) >>= _) _ _ s
  refine wpAny_bind (tupleItemsOf_ ht ?_)
  refine wpAny_bind (wpAny_typeOf hTs ?_)
  rw [if_pos (by decide)]
  refine wpAny_bind (sliceApplied_rev hs ps ?_)
  have hno : ¬ ((((items.size : Int) - 1 == 0) && ((-1 : Int) == 1) && (items.size == items.size)) = true) := by simp
  show wpAny _ _ (if ((((items.size : Int) - 1 == 0) && ((-1 : Int) == 1) && (items.size == items.size)) = true) then _ else _) _ _ s
  rw [if_neg hno, pick_rev]
  first
    | exact wpAny_bind (m := Builtin.Tuple.tupleExact _) (wpAny_newObj_type (wpAny_pure ⟨_, rfl, wpAny_pure h⟩) htake)
    | exact wpAny_bind (m := Builtin.Tuple.tupleExact _) (wpAny_newObj_type (wpAny_bind (wpAny_pure (wpAny_pure ⟨_, rfl, wpAny_pure h⟩))) htake)
    | exact wpAny_bind (wpAny_bind (m := Builtin.Tuple.tupleExact _) (wpAny_newObj_type (wpAny_pure (wpAny_pure ⟨_, rfl, wpAny_pure h⟩)) htake))
    | exact wpAny_bind (wpAny_bind (m := Builtin.Tuple.tupleExact _) (wpAny_newObj_type (wpAny_pure ⟨_, rfl, wpAny_pure h⟩) htake))
end
section
variable {X : Cx} {es : List Expr} {t : TA} {pos : Pos}
/-- x[::-1] of a list or a tuple -/
def tRevZ (K : PySem.W.Frag) (te : TE) : TE := fun σ H Q => te σ H fun x H1 => ∃ a xs, x = .ref a ∧ ((SqL K H1 a xs ∧ ∀ p, H1 p = none → Q (.ref p) (upd H1 p (.lst xs.reverse))) ∨
  (SqT K H1 a xs ∧ ∀ (p : Addr) (o : Obj), H1 p = none → o.dict = none → Q (.ref p) (upd H1 p (.frz o (.tup xs.reverse)))))
theorem pe_revZ {e : Expr} {te : TE} {k : Nat} {p1 p2 p3 pos : Pos} (he : PE X e te) : PE X (.Subscript e (.Slice none none (some (.UnaryOp .USub (.Constant (.int 1) k p1) p2)) p3) pos) (tRevZ X.K te) := by
  refine ⟨fun pins s σ H Q I h => ?_⟩
  refine Subscript_ (thn (he.run pins s σ H _ I h) fun v s1 ⟨x, H1, I1, r1, q1⟩ => ?_)
  obtain ⟨a, xs, ex, hq⟩ := q1
  subst ex
  cases r1
  have hst : PO X (some (.UnaryOp .USub (.Constant (.int 1) k p1) p2)) (tPart (tUn (rU fun i => .int (-i)) (tC (.int 1)))) := po_some (pe_un un_neg pe_int)
  refine wpAny_Slice (thn (po_none.run pins s1 σ H1 (fun o H2 => o = none ∧ H2 = H1) I1 ⟨rfl, rfl⟩) fun vl s2 ⟨l, H2, I2, pl, el, e2⟩ => ?_)
  subst el e2
  refine thn (po_none.run pins s2 σ H2 (fun o H3 => o = none ∧ H3 = H2) I2 ⟨rfl, rfl⟩) fun vu s3 ⟨u, H3, I3, pu, eu, e3⟩ => ?_
  subst eu e3
  refine thn (hst.run pins s3 σ H3 (fun o H4 => o = some (-1) ∧ H4 = H3) I3 ⟨1, rfl, -1, rfl, rfl, rfl⟩) fun vs s4 ⟨o, H4, I4, ps, eo, e4⟩ => ?_
  subst eo e4
  have I5 : Inv X pins σ H4 { s4 with heap := s4.heap.push { cls := .type "slice", data := .fields #[vl, vu, vs] } } := I4.kept (t' := s4.toks) fun b ob q => Heap.get?_push_of_some _ q
  show wpAny (model X.prog X.w) X.A (subscriptTail e (.Slice none none (some (.UnaryOp .USub (.Constant (.int 1) k p1) p2)) p3) (.ref a) (.ref s4.heap.objs.size)) (EP X pins σ Q) X.xe { s4 with heap := s4.heap.push { cls := .type "slice", data := .fields #[vl, vu, vs] } }
  rcases hq with ⟨hx, q⟩ | ⟨hx, q⟩
  · obtain ⟨its, r, ht, hz⟩ := I5.list hx
    have hlen := r.length
    refine tail_any (ops := [.ref a, .ref s4.heap.objs.size]) ht.isList.typeIs (PySem.slot_list_getitem.lookup) ?_ (by with_unfolding_all rfl)
    refine wpAny_getItem_list_slice ht.isList (Heap.IsSliceOf.new _ vl vu vs) pl pu ps (by decide) ?_ (by rw [List.size_toArray]; omega)
    rw [PySem.W.krv_pick]
    refine ⟨.ref _, _, I5.laid (t' := s4.toks) (o := .lst xs.reverse) (fun b ob q => Heap.get?_push_of_some _ q) (Nat.le_refl _) ?_, rfl, q _ (I5.hok.fresh (Nat.le_refl _))⟩
    exact ⟨by rw [List.length_reverse]; exact hz, _, 0, r.reverse, Heap.get?_push_size _ rfl⟩
  · obtain ⟨its, r, ht, hz⟩ := I5.tuple hx
    have hlen := r.length
    cases pl
    cases pu
    refine tail_any (ops := [.ref a, .ref s4.heap.objs.size]) ht.typeIs PyProof.Rows.slot_tuple_getitem.lookup ?_ (by with_unfolding_all rfl)
    refine getItem_tuple_rev ht (Heap.IsSliceOf.new _ .none .none vs) ps ?_ (by rw [List.size_toArray]; omega)
    refine ⟨.ref _, _, I5.laid (t' := s4.toks) (o := .frz { cls := .type "tuple", data := .seq its.toArray.toList.reverse.toArray } (.tup xs.reverse)) (fun b ob q => Heap.get?_push_of_some _ q) (Nat.le_refl _) ?_, rfl, q _ _ (I5.hok.fresh (Nat.le_refl _)) rfl⟩
    · exact ⟨Heap.get?_push_size _ rfl, by rw [List.length_reverse]; exact hz, _, r.reverse, IsTup.new _ _⟩
/-- t.index(x), the first place -/
theorem mt_tup_indexZ : MtR X "tuple.index" (fun x xs H Q => ∃ p, ∃ ys : List V, ∃ z j, x = .ref p ∧ xs = [z] ∧ SqT X.K H p ys ∧ ys.all flatV = true ∧ flatV z = true ∧ j < ys.length ∧ (∀ m, m < j → ys[m]? ≠ some z) ∧ ys[j]? = some z ∧ ((∃ ns : List Int, ys = ns.map V.int ∧ ∃ k, z = .int k) ∨ ∃ ns : List Str, ys = ns.map V.str ∧ ∃ k, z = .str k) ∧ Q (.int (j : Nat)) H) := by
  intro pins s σ H x xs v us Q I rx rs h
  obtain ⟨p, ys, z, j, rfl, rfl, hq, hf, hfz, hjl, hno, hy, kind, q⟩ := h
  cases rx
  obtain ⟨u, rfl, rz⟩ := rs.one
  obtain ⟨its, r, pl, hz⟩ := I.tuple hq
  obtain ⟨⟨cls, dd, dt, sl⟩, ho, hc, n, hd⟩ := pl
  simp only at hc hd
  subst hc
  subst hd
  have hl : its.toArray.size = ys.length := by rw [List.size_toArray, ← r.length]
  have hj : j < its.toArray.size := by rw [hl]; exact hjl
  have at' : ∀ (m : Nat) (hm : m < its.toArray.size), ∃ y, ys[m]? = some y ∧ RelV y its.toArray[m] := fun m hm => by
    have hm' : m < ys.length := by rw [← hl]; exact hm
    obtain ⟨w, hw, rw'⟩ := r.get (i := m) (x := ys[m]) (by simp [hm'])
    refine ⟨ys[m], List.getElem?_eq_getElem hm', ?_⟩
    have e := (List.getElem?_eq_some_iff.mp hw).2
    rw [← e] at rw'
    simpa using rw'
  refine call_meets PySem.F.slot_tuple_index ⟨_, ho, rfl⟩ PySem.F.entry_tuple_index (PySem.F.args_tuple_index_2 _ _) (TI.tuple_indexAt p its.toArray n dd sl u (eqU z) j hj ?_ ?_)
    ⟨ho, fun w hw => mem_eqAt (x := z) rz hfz r hf w (by simpa using hw), ⟨.int (j : Nat), H, I.tok _, ⟨_, rfl⟩, q⟩⟩
  · obtain ⟨y, h1, h2⟩ := at' j hj
    rw [hy] at h1
    cases h1
    rcases kind with ⟨ns, rfl, k, rfl⟩ | ⟨ns, rfl, k, rfl⟩
    · obtain ⟨t', e⟩ := h2
      rw [e]
      exact beq_self_eq_true k
    · obtain ⟨t', e⟩ := h2
      rw [e]
      exact beq_self_eq_true k
  · intro m hm hmj
    obtain ⟨y, h1, h2⟩ := at' m hm
    have hne := hno m hmj
    rw [h1] at hne
    rcases kind with ⟨ns, rfl, k, rfl⟩ | ⟨ns, rfl, k, rfl⟩
    · rw [List.getElem?_map] at h1
      obtain ⟨n', _, rfl⟩ := Option.map_eq_some_iff.mp h1
      obtain ⟨t', e⟩ := h2
      rw [e]
      refine beq_eq_false_iff_ne.mpr fun e2 => hne ?_
      first | rw [e2] | rw [← e2]
    · rw [List.getElem?_map] at h1
      obtain ⟨n', _, rfl⟩ := Option.map_eq_some_iff.mp h1
      obtain ⟨t', e⟩ := h2
      rw [e]
      refine beq_eq_false_iff_ne.mpr fun e2 => hne ?_
      first | rw [e2] | rw [← e2]
def tTupZ (t : TA) : TE := fun σ H Q => t σ H fun xs H1 => xs.length ≤ sizeLine ∧ ∀ (p : Addr) (o : Obj), H1 p = none → o.dict = none → Q (.ref p) (upd H1 p (.frz o (.tup xs)))
theorem pe_tupZ {x1} (h : PA X es t) : PE X (.Tuple es x1 pos) (tTupZ t) := by
  refine ⟨fun pins s σ H Q I hq => ?_⟩
  refine wpAny_Tuple_spliced (thn (h.run pos pins s σ H _ I hq) fun us s1 ⟨xs, H1, I1, r, z, q⟩ => ⟨by rw [← r.length]; exact z, ?_⟩)
  have hf : H1 s1.heap.objs.size = none := I1.hok.fresh (Nat.le_refl _)
  refine ⟨.ref s1.heap.objs.size, _, I1.laid (t' := s1.toks) (o := .frz { cls := .type "tuple", data := .seq us.toArray } (.tup xs)) (fun b u e => Heap.get?_push_of_some _ e) (Nat.le_refl _) ?_, rfl, q _ _ hf rfl⟩
  exact ⟨Heap.get?_push_size _ rfl, z, us, r, ⟨_, Heap.get?_push_size _ rfl, rfl, _, rfl⟩⟩
theorem call_tupleZ : CallR X (.type "tuple") (fun xs H Q => ∃ p ys, xs = [.ref p] ∧ ((SqL X.K H p ys ∧ ∀ (l : Addr) (o : Obj), H l = none → o.dict = none → Q (.ref l) (upd H l (.frz o (.tup ys)))) ∨ (SqT X.K H p ys ∧ Q (.ref p) H))) := by
  intro pins s σ H xs us Q I r h
  obtain ⟨p, ys, rfl, h⟩ := h
  obtain ⟨u, rfl, rx⟩ := r.one
  cases rx
  rcases h with ⟨hq, q⟩ | ⟨hq, q⟩
  · obtain ⟨its, r', pl, hz⟩ := I.list hq
    have hlen := r'.length
    refine call_tuple_list pl.isList (fun h' kp => ?_) (by simp only [List.size_toArray] <;> omega)
    have I1 : Inv X pins σ H { s with heap := h' } := I.kept (t' := s.toks) kp
    have I2 : Inv X pins σ (upd H h'.objs.size (.frz { cls := .type "tuple", data := .seq its.toArray } (.tup ys))) { s with heap := h'.push { cls := .type "tuple", data := .seq its.toArray } } :=
      I1.laid (t' := s.toks) (fun b o e => Heap.get?_push_of_some _ e) (Nat.le_refl _) (show ObjOk X.prog X.w _ _ _ (.frz _ (.tup ys)) from ⟨Heap.get?_push_size _ rfl, hz, its, r', IsTup.new _ _⟩)
    exact ⟨.ref h'.objs.size, _, I2, rfl, q _ _ (I1.hok.fresh (Nat.le_refl _)) rfl⟩
  · obtain ⟨its, r', pl, hz⟩ := I.tuple hq
    exact call_tuple_same pl ⟨.ref p, H, I, rfl, q⟩
/-- t + u -/
def rCatZ (K : PySem.W.Frag) : R2 := fun x y H Q => ∃ a b xs ys, x = .ref a ∧ y = .ref b ∧ SqT K H a xs ∧ SqT K H b ys ∧ xs.length + ys.length ≤ sizeLine ∧
  (xs = [] → Q (.ref b) H) ∧ (xs ≠ [] → ys = [] → Q (.ref a) H) ∧ (xs ≠ [] → ys ≠ [] → ∀ (p : Addr) (o : Obj), H p = none → o.dict = none → Q (.ref p) (upd H p (.frz o (.tup (xs ++ ys)))))
theorem op_catZ : OpR X (binaryOp .Add) (rCatZ X.K) := by
  intro pins s σ H x y v u Q I rx ry h
  obtain ⟨a, b, xs, ys, rfl, rfl, ha, hb, hz, q0, q1, q2⟩ := h
  cases rx
  cases ry
  obtain ⟨its, r1, p1, _⟩ := I.tuple ha
  obtain ⟨its2, r2, p2, _⟩ := I.tuple hb
  by_cases hx : xs = []
  · subst hx
    cases r1
    exact cat_tup0 p1 p2 ⟨.ref b, H, I, rfl, q0 rfl⟩
  · refine HT.cat_tup p1 p2 (fun z => hx (r1.nil_iff.mp z)) (fun z => ⟨.ref a, H, I, rfl, q1 hx (r2.nil_iff.mp z)⟩) (fun z => ?_) (by rw [← r1.length, ← r2.length]; exact hz)
    refine ⟨.ref s.heap.objs.size, _, I.laid (t' := s.toks) (o := .frz { cls := .type "tuple", data := .seq (its ++ its2).toArray } (.tup (xs ++ ys))) (fun b ob q => Heap.get?_push_of_some _ q) (Nat.le_refl _) ?_, rfl, q2 hx (fun w => z (r2.nil_iff.mpr w)) _ _ (I.hok.fresh (Nat.le_refl _)) rfl⟩
    exact ⟨Heap.get?_push_size _ rfl, by rw [List.length_append]; exact hz, _, r1.append r2, IsTup.new _ _⟩
/-- t[lo:hi]: the whole of it is t itself -/
def rSlZ (K : PySem.W.Frag) : V → Option Int → Option Int → Hp → VK → Prop := fun x lo hi H Q => ∃ a xs, x = .ref a ∧ SqT K H a xs ∧
  (HT.sIx xs.length 0 lo = 0 ∧ HT.sIx xs.length xs.length hi = xs.length → Q (.ref a) H) ∧ (¬ (HT.sIx xs.length 0 lo = 0 ∧ HT.sIx xs.length xs.length hi = xs.length) → ∀ (p : Addr) (o : Obj), H p = none → o.dict = none → Q (.ref p) (upd H p (.frz o (.tup (cutV xs lo hi)))))
theorem sl_tupZ : SlR X (rSlZ X.K) := by
  intro pins s σ H x v vl vu lo hi sl Q I rx hs pl pu h
  obtain ⟨a, xs, rfl, hx, q1, q2⟩ := h
  cases rx
  obtain ⟨its, r, ht, hz⟩ := I.tuple hx
  have hlen : its.toArray.size = xs.length := by rw [List.size_toArray]; exact r.length.symm
  refine ⟨"tuple", _, PyProof.Rows.slot_tuple_getitem.lookup, ht.typeIs, ?_⟩
  by_cases hw : HT.sIx xs.length 0 lo = 0 ∧ HT.sIx xs.length xs.length hi = xs.length
  · exact getItem_tuple_whole ht hs pl pu (by rw [hlen]; exact hw) ⟨.ref a, H, I, rfl, q1 hw⟩
  · refine HT.getItem_tuple_cut ht hs pl pu (by rw [hlen]; exact hw) ?_ (by rw [hlen]; exact hz)
    rw [hlen]
    refine ⟨.ref s.heap.objs.size, _, I.laid (t' := s.toks) (o := .frz { cls := .type "tuple", data := .seq ((its.toArray.toList.drop (HT.sIx xs.length 0 lo)).take (HT.sIx xs.length xs.length hi - HT.sIx xs.length 0 lo)).toArray } (.tup (cutV xs lo hi))) (fun b ob q => Heap.get?_push_of_some _ q) (Nat.le_refl _) ?_, rfl, q2 hw _ _ (I.hok.fresh (Nat.le_refl _)) rfl⟩
    · exact ⟨Heap.get?_push_size _ rfl, Nat.le_trans (cutV_length xs lo hi) hz, _, (r.drop (HT.sIx xs.length 0 lo)).take (HT.sIx xs.length xs.length hi - HT.sIx xs.length 0 lo), IsTup.new _ _⟩
def rRepZ (K : PySem.W.Frag) : R2 := fun x y H Q => ∃ l k xs, x = .ref l ∧ y = .int k ∧ SqT K H l xs ∧ xs ≠ [] ∧ 2 ≤ k ∧ k ≤ 1000 ∧ xs.length ≤ 1000 ∧ ∀ (p : Addr) (o : Obj), H p = none → o.dict = none → Q (.ref p) (upd H p (.frz o (.tup (List.replicate k.toNat xs).flatten)))
theorem op_repZ : OpR X (binaryOp .Mult) (rRepZ X.K) := by
  intro pins s σ H x y v u Q I rx ry h
  obtain ⟨l, k, xs, rfl, rfl, hT, hne, h1, h2, hz, q⟩ := h
  cases rx
  obtain ⟨t, rfl⟩ := ry
  obtain ⟨its, r, ⟨⟨cls, dd, data, sl⟩, ho, hc, n, hd⟩, hs⟩ := I.tuple hT
  simp only at hc hd
  subst hc hd
  have hle : its.length = xs.length := r.length.symm
  have hn : its ≠ [] := fun e => hne (by
    rw [e] at hle
    exact List.eq_nil_of_length_eq_zero hle.symm)
  have hi : its.toArray.isEmpty = false := by
    cases its with
    | nil => exact absurd rfl hn
    | cons a b => rfl
  have hsz0 : its.toArray.size = xs.length := by rw [List.size_toArray, hle]
  have hm : ((its.toArray.size : Nat) : Int) * k ≤ 1000000 := by
    rw [hsz0]
    have a1 : ((xs.length : Nat) : Int) * k ≤ 1000 * k := Int.mul_le_mul_of_nonneg_right (by omega) (by omega)
    omega
  have flen : (List.replicate k.toNat its).flatten.length ≤ sizeLine := by
    rw [PyProof.Rows.lm_len_rep_flat, hle, sizeLine_eq]
    have a1 : k.toNat * xs.length ≤ 1000 * 1000 := Nat.mul_le_mul (by omega) hz
    omega
  have c0 : (decide (k < -(2 ^ 63)) || decide (k ≥ 2 ^ 63)) = false := by
    rw [decide_eq_false (by omega), decide_eq_false (by omega)] <;> rfl
  have c1 : (its.toArray.isEmpty || k == 1) = false := by
    rw [hi, Bool.false_or]
    exact beq_eq_false_iff_ne.mpr (by omega)
  have c2 : (decide (k ≤ 0) || its.toArray.isEmpty) = false := by
    rw [hi, Bool.or_false]
    exact decide_eq_false (by omega)
  have c4 : Builtin.Tuple.tupleTooMany (((its.toArray.size : Nat) : Int) * k) = false := by
    unfold Builtin.Tuple.tupleTooMany
    rw [sizeLine_eq]
    exact decide_eq_false (by omega)
  refine wpAny_binaryOp_repeat_ref (T := "tuple") (U := "int") (by decide) ⟨_, ho, rfl⟩ (fun s' => typeIs_int s' k t) noFill_tuple_mul F.fills_int_mul F.slot_int_rmul repeat_tuple F.slot_int_index.lookup
    (call_meets F.slot_int_rmul (typeIs_int s k t) F.entry_int_rmul (F.args_int_rmul_2 _ _) (int_rmul_tuple k t l its.toArray n dd sl)
      ⟨ho, rfl, ⟨_, ho, rfl⟩, call_meets F.slot_tuple_mul ⟨_, ho, rfl⟩ F.entry_tuple_mul (F.args_tuple_mul_2 _ _) (tuple_mulW l its.toArray n dd sl k t c0 c1 c2 (by omega) c4 (by rw [size_rep, List.size_toArray]; exact flen)) ⟨ho, ?_⟩⟩)
  rw [size_rep]
  refine ⟨.ref s.heap.objs.size, _, I.laid (t' := s.toks) (o := .frz { cls := .type "tuple", data := .seq (List.replicate k.toNat its).flatten.toArray } (.tup (List.replicate k.toNat xs).flatten)) (fun b ob q => Heap.get?_push_of_some _ q) (Nat.le_refl _) ?_, rfl, q _ _ (I.hok.fresh (Nat.le_refl _)) rfl⟩
  · exact ⟨Heap.get?_push_size _ rfl, by rw [PyProof.Rows.lm_len_rep_flat, sizeLine_eq]; have a1 : k.toNat * xs.length ≤ 1000 * 1000 := Nat.mul_le_mul (by omega) hz; omega, _, r.rep k.toNat, IsTup.new _ _⟩
end
end Dm

set_option Elab.async false
set_option linter.all false
set_option maxRecDepth 100000
set_option maxHeartbeats 4000000
set_option autoImplicit false
/-! Dm2: operators. -/
namespace Dm
open PySem PySem.Spec PyProof.Rows L2

def bop : Bop → Operator
  | .add => .Add | .sub => .Sub | .mul => .Mult | .fdiv => .FloorDiv | .mod => .Mod | .pow => .Pow | .shl => .LShift
def cop : Cop → CmpOp
  | .eq => .Eq | .ne => .NotEq | .lt => .Lt | .le => .LtE | .gt => .Gt | .ge => .GtE | .is => .Is | .isn => .IsNot | .inn => .In | .nin => .NotIn

/-- an operation by values -/
def rOp (g : Gx) (W : WX) (f : D → D → Option EV) : R2 := fun x y H Q => ∃ Kp σ l st dx dy, Rel g.K Kp σ H l st ∧ Rep g.K H l dx x ∧ Rep g.K H l dy y ∧
  Fin g.K g.cl W Kp σ H l (ofO (f dx dy) st) fun r st' H' l' => ∀ v, RvR g.K Kp σ H' l' st' r v → Q v H'
theorem fin_val {K : PySem.W.Frag} {cl : Nat → Addr} {W : WX} {Kp : Hp} {σ : Sl} {H : Hp} {l : List Addr} {st : Sta} {d : D} {v : V} {Q : VK} (hF : Fin K cl W Kp σ H l (ofO (some (EV.val d)) st) fun r st' H' l' => ∀ v, RvR K Kp σ H' l' st' r v → Q v H')
    (R : Rel K Kp σ H l st) (r : Rep K H l d v) : Q v H := hF H l R .refl (List.prefix_refl _) v r
theorem fin_new {K : PySem.W.Frag} {cl : Nat → Addr} {W : WX} {Kp : Hp} {σ : Sl} {H : Hp} {l : List Addr} {st : Sta} {xs : List D} {vs : List V} {Q : VK} (hF : Fin K cl W Kp σ H l (ofO (some (EV.own xs)) st) fun r st' H' l' => ∀ v, RvR K Kp σ H' l' st' r v → Q v H')
    (R : Rel K Kp σ H l st) (r : Reps K H l xs vs) {p : Addr} (hp : H p = none) : Q (.ref p) (upd H p (.lst vs)) := hF _ l (R.new hp) (.new hp) (List.prefix_refl _) _ (R.ownNew hp r)
theorem fin_tup {K : PySem.W.Frag} {cl : Nat → Addr} {W : WX} {Kp : Hp} {σ : Sl} {H : Hp} {l : List Addr} {st : Sta} {xs : List D} {vs : List V} {Q : VK} (hF : Fin K cl W Kp σ H l (ofO (some (EV.val (.tup xs))) st) fun r st' H' l' => ∀ v, RvR K Kp σ H' l' st' r v → Q v H')
    (R : Rel K Kp σ H l st) (r : Reps K H l xs vs) {p : Addr} {o : Obj} (hp : H p = none) (ho : o.dict = none) : Q (.ref p) (upd H p (.frz o (.tup vs))) := hF _ l (R.new hp) (.new hp) (List.prefix_refl _) _ (Rel.tupNew hp r ho)

/-! ### lists that are read -/
theorem lstR {X : Cx} {pins : List (Addr × Obj)} {σ : Sl} {H : Hp} {s : Shared} {a : Addr} {xs : List V} (I : Inv X pins σ H s) (h : Rd H a (.lst xs)) :
    xs.length ≤ sizeLine ∧ ∃ (its : List Value) (n : Nat), Vals xs its ∧ xs.length = its.length ∧ s.heap.get? a = some { cls := .type "list", data := .seq its.toArray n } := by
  obtain ⟨z, its, n, r, e⟩ := h.ok I.hok
  exact ⟨z, its, n, r, r.length, e⟩
section
variable {X : Cx}
def rCatR : R2 := fun x y H Q => ∃ l b xs zs, x = .ref l ∧ y = .ref b ∧ Rd H l (.lst xs) ∧ Rd H b (.lst zs) ∧ xs.length + zs.length ≤ sizeLine ∧ ∀ p, H p = none → Q (.ref p) (upd H p (.lst (xs ++ zs)))
theorem op_catR : OpR X (binaryOp .Add) rCatR := by
  intro pins s σ H x y v u Q I rx ry h
  obtain ⟨l, b, xs, zs, rfl, rfl, hH, hB, hz, q⟩ := h
  cases rx
  cases ry
  obtain ⟨z, its, n, r, hl, e⟩ := lstR I hH
  obtain ⟨z2, its2, n2, r2, hl2, e2⟩ := lstR I hB
  refine PySem.P.add_list e e2 ?_ (by rw [List.size_toArray, List.size_toArray]; omega)
  have ea : its.toArray ++ its2.toArray = (its ++ its2).toArray := by simp
  rw [ea]
  exact ⟨.ref _, _, I.lnew (t' := s.toks) (r.append r2) (by rw [List.length_append]; omega), rfl, q _ I.fresh⟩
def rRepR : R2 := fun x y H Q => ∃ l k xs, x = .ref l ∧ y = .int k ∧ Rd H l (.lst xs) ∧ -(2 ^ 63) ≤ k ∧ k < 2 ^ 63 ∧ xs.length * k.toNat ≤ sizeLine ∧
  ∀ p, H p = none → Q (.ref p) (upd H p (.lst (List.replicate k.toNat xs).flatten))
theorem op_repR : OpR X (binaryOp .Mult) rRepR := by
  intro pins s σ H x y v u Q I rx ry h
  obtain ⟨l, k, xs, rfl, rfl, hH, h1, h2, hz, q⟩ := h
  cases rx
  obtain ⟨t, rfl⟩ := ry
  obtain ⟨z, its, n, r, hl, e⟩ := lstR I hH
  have hlen : its.toArray.size * k.toNat ≤ sizeLine := by rw [List.size_toArray, ← hl]; exact hz
  have hcap : ¬ its.toArray.size * k.toNat > (2 ^ 63 - 1) / 8 := by
    have : (sizeLine : Nat) ≤ (2 ^ 63 - 1) / 8 := by decide
    omega
  have hfit : ¬ (!Builtin.List.listFitsIndex k) = true := by
    rw [fitsIndex_both h1 h2]
    exact Bool.false_ne_true
  have hlong : ¬ Builtin.List.listTooLong (its.toArray.size * k.toNat) = true := by
    rw [notLongL hlen]
    exact Bool.false_ne_true
  have hnew : List.foldl (fun x1 x2 => x1 ++ x2) #[] (List.replicate (if its.toArray.isEmpty = true then 0 else k.toNat) its.toArray) = (List.replicate k.toNat its).flatten.toArray := by
    have f0 : ∀ m : Nat, List.foldl (fun x1 x2 => x1 ++ x2) #[] (List.replicate m its.toArray) = (List.replicate m its).flatten.toArray := fun m => by
      have := foldl_rep its m []
      rw [List.nil_append] at this
      exact this
    rw [f0]
    cases its with
    | nil => simp
    | cons a r' => rw [if_neg (by simp)]
  refine wpAny_binaryOp_repeat_ref (T := "list") (U := "int") (by decide) ⟨_, e, rfl⟩ (fun s' => typeIs_int s' k t) noFill_list_mul F.fills_int_mul F.slot_int_rmul repeat_list F.slot_int_index.lookup
    (call_meets F.slot_int_rmul (typeIs_int s k t) F.entry_int_rmul (F.args_int_rmul_2 _ _) (int___rmul___int_list k t l its.toArray n)
      ⟨e, rfl, ⟨_, e, rfl⟩, call_meets F.slot_list_mul ⟨_, e, rfl⟩ F.entry_list_mul (F.args_list_mul_2 _ _) (AutoListH.list___mul___list_int_3 l its.toArray n k t hfit hcap hlong) ⟨e, ?_⟩⟩)
  rw [hnew]
  exact ⟨.ref _, _, I.lnew (t' := s.toks) (r.rep k.toNat) (by rw [PyProof.Rows.lm_len_rep_flat, Nat.mul_comm]; exact hz), rfl, q _ I.fresh⟩
end
theorem lim_line {n : Nat} (h : n ≤ lim) : n ≤ sizeLine := by rw [sizeLine_eq]; exact h

theorem small_ok {i : Int} (h : small i = true) : -(2 ^ 64) < i ∧ i < 2 ^ 64 := by
  unfold small at h
  rw [Bool.and_eq_true] at h
  exact ⟨of_decide_eq_true h.1, of_decide_eq_true h.2⟩
theorem op_bin {X : Cx} {cl : Nat → Addr} {W : WX} (o : Bop) : OpR X (binaryOp (bop o)) (rOp ⟨X.K, cl⟩ W (binD o)) := by
  intro pins s σ H x y v u Q I rx ry h
  obtain ⟨Kp, σ', l, st, dx, dy, R, hx, hy, hF⟩ := h
  cases o with
  | add =>
    cases dx <;> cases dy <;> try exact (show False from hF).elim
    case int.int i j =>
      cases hx; cases hy
      exact op_add pins s σ H _ _ v u Q I rx ry ⟨i, j, rfl, rfl, fin_val hF R rfl⟩
    case str.str i j =>
      cases hx; cases hy
      by_cases c : i.length + j.length ≤ lim
      · have hF' := hF
        simp only [binD, if_pos c] at hF'
        exact op_add_str pins s σ H _ _ v u Q I rx ry ⟨i, j, rfl, rfl, lim_line c, fin_val hF' R rfl⟩
      · simp only [binD, if_neg c] at hF
        exact (show False from hF).elim
    case lst.lst xs ys =>
      obtain ⟨a, o, vs, rfl, ha, ra⟩ := hx
      obtain ⟨b, o2, ws, rfl, hb, rb⟩ := hy
      by_cases c : xs.length + ys.length ≤ lim
      · simp only [binD, if_pos c] at hF
        exact op_catR pins s σ H _ _ v u Q I rx ry ⟨a, b, vs, ws, rfl, rfl, .inr ⟨o, ha⟩, .inr ⟨o2, hb⟩, by rw [ra.len, rb.len]; exact lim_line c, fun p hp => fin_new hF R (ra.app rb) hp⟩
      · simp only [binD, if_neg c] at hF
        exact (show False from hF).elim
    case tup.tup xs ys =>
      obtain ⟨a, vs, rfl, ha, ra⟩ := hx
      obtain ⟨b, ws, rfl, hb, rb⟩ := hy
      by_cases c : xs.length + ys.length ≤ lim
      · simp only [binD, if_pos c] at hF
        refine op_catZ pins s σ H _ _ v u Q I rx ry ⟨a, b, vs, ws, rfl, rfl, ha.sq, hb.sq, by rw [ra.len, rb.len]; exact lim_line c, fun e => ?_, fun _ e => ?_, fun _ _ p o hp ho => fin_tup hF R (ra.app rb) hp ho⟩
        · refine fin_val hF R ⟨b, ws, rfl, hb, ?_⟩
          have := ra.app rb
          rw [e] at this
          exact this
        · refine fin_val hF R ⟨a, vs, rfl, ha, ?_⟩
          have := ra.app rb
          rw [e, List.append_nil] at this
          exact this
      · simp only [binD, if_neg c] at hF
        exact (show False from hF).elim
  | sub =>
    cases dx <;> cases dy <;> try exact (show False from hF).elim
    case int.int i j =>
      cases hx; cases hy
      exact op_sub pins s σ H _ _ v u Q I rx ry ⟨i, j, rfl, rfl, fin_val hF R rfl⟩
  | mul =>
    cases dx <;> cases dy <;> try exact (show False from hF).elim
    case int.int i j =>
      cases hx; cases hy
      by_cases c : (small i || small j) = true
      · simp only [binD, if_pos c] at hF
        have c' : CMul i j := by
          rcases Bool.or_eq_true_iff.mp c with c | c
          · exact .inl (small_ok c)
          · exact .inr (small_ok c)
        exact op_mul pins s σ H _ _ v u Q I rx ry ⟨i, j, rfl, rfl, c', fin_val hF R rfl⟩
      · simp only [binD, if_neg c] at hF
        exact (show False from hF).elim
    case lst.int xs k =>
      obtain ⟨a, o, vs, rfl, ha, ra⟩ := hx
      cases hy
      by_cases c : -(2 ^ 63) ≤ k ∧ k < 2 ^ 63 ∧ xs.length * k.toNat ≤ lim
      · simp only [binD, if_pos c] at hF
        exact op_repR pins s σ H _ _ v u Q I rx ry ⟨a, k, vs, rfl, rfl, .inr ⟨o, ha⟩, c.1, c.2.1, by rw [ra.len]; exact lim_line c.2.2, fun p hp => fin_new hF R (ra.rep _) hp⟩
      · simp only [binD, if_neg c] at hF
        exact (show False from hF).elim
    case tup.int xs k =>
      by_cases c : k = 1 ∨ (xs ≠ [] ∧ 2 ≤ k ∧ k ≤ 1000 ∧ xs.length ≤ 1000)
      · simp only [binD, if_pos c] at hF
        rcases c with c | c
        · subst c
          have hx' := hx
          obtain ⟨a, vs, rfl, ha, ra⟩ := hx
          cases hy
          refine op_rep1 pins s σ H _ _ v u Q I rx ry ⟨a, vs, rfl, rfl, ha.sq, fin_val hF R ?_⟩
          have e : (List.replicate (1 : Int).toNat xs).flatten = xs := by simp
          rw [e]
          exact hx'
        obtain ⟨a, vs, rfl, ha, ra⟩ := hx
        cases hy
        refine op_repZ pins s σ H _ _ v u Q I rx ry ⟨a, k, vs, rfl, rfl, ha.sq, fun e => c.1 ?_, c.2.1, c.2.2.1, by rw [ra.len]; exact c.2.2.2, fun p o hp ho => fin_tup hF R (ra.rep _) hp ho⟩
        have := ra.len
        rw [e] at this
        exact List.eq_nil_of_length_eq_zero this.symm
      · simp only [binD, if_neg c] at hF
        exact (show False from hF).elim
  | fdiv =>
    cases dx <;> cases dy <;> try exact (show False from hF).elim
    case int.int i j =>
      cases hx; cases hy
      by_cases c : j ≠ 0 ∧ j.natAbs < 1073741824
      · simp only [binD, if_pos c] at hF
        exact op_fdivN pins s σ H _ _ v u Q I rx ry ⟨i, j, rfl, rfl, c, fin_val hF R rfl⟩
      · simp only [binD, if_neg c] at hF
        exact (show False from hF).elim
  | mod =>
    cases dx <;> cases dy <;> try exact (show False from hF).elim
    case int.int i j =>
      cases hx; cases hy
      by_cases c : j ≠ 0
      · simp only [binD, if_pos c] at hF
        exact op_modN pins s σ H _ _ v u Q I rx ry ⟨i, j, rfl, rfl, c, fin_val hF R rfl⟩
      · simp only [binD, if_neg c] at hF
        exact (show False from hF).elim
  | pow =>
    cases dx <;> cases dy <;> try exact (show False from hF).elim
    case int.int i j =>
      cases hx; cases hy
      by_cases c : 0 ≤ j ∧ j ≤ 1000000 ∧ i.natAbs < 2 ^ 64
      · simp only [binD, if_pos c] at hF
        exact op_pow pins s σ H _ _ v u Q I rx ry ⟨i, j, rfl, rfl, c, fin_val hF R rfl⟩
      · simp only [binD, if_neg c] at hF
        exact (show False from hF).elim
  | shl =>
    cases dx <;> cases dy <;> try exact (show False from hF).elim
    case int.int i j =>
      cases hx; cases hy
      by_cases c : 0 ≤ j ∧ j ≤ 1000000 ∧ i.natAbs < 2 ^ 64
      · simp only [binD, if_pos c] at hF
        exact op_shl pins s σ H _ _ v u Q I rx ry ⟨i, j, rfl, rfl, c, fin_val hF R rfl⟩
      · simp only [binD, if_neg c] at hF
        exact (show False from hF).elim

/-! ### comparisons -/
mutual
theorem Rep.dp {K : PySem.W.Frag} {H : Hp} {l : List Addr} : ∀ {d : D} {v : V}, Rep K H l d v → d.py.canLay0 = true → Dp K H v d.py
  | .non, _, h, _ => by cases (show _ = _ from h); exact .non
  | .bl b, _, h, _ => by cases (show _ = _ from h); exact .bl b
  | .int i, _, h, _ => by cases (show _ = _ from h); exact .int i
  | .str x, _, h, _ => by cases (show _ = _ from h); exact .str x
  | .lst xs, _, h, c => by
    obtain ⟨a, o, vs, rfl, h1, h2⟩ := h
    exact .lst (.inl (.inr ⟨o, h1⟩)) (Reps.dp h2 (by simpa [D.py, PyData.canLay0] using c))
  | .tup xs, _, h, c => by
    obtain ⟨a, vs, rfl, h1, h2⟩ := h
    exact .tup h1.sq (Reps.dp h2 (by simpa [D.py, PyData.canLay0] using c))
  | .cel _, _, _, c => by simp [D.py, PyData.canLay0] at c
  | .scr _, _, _, c => by simp [D.py, PyData.canLay0] at c
  | .exn _, _, _, c => by simp [D.py, PyData.canLay0] at c
theorem Reps.dp {K : PySem.W.Frag} {H : Hp} {l : List Addr} : ∀ {ds : List D} {vs : List V}, Reps K H l ds vs → PyData.canLayAll0 (pyAll ds) = true → DpAll K H vs (pyAll ds)
  | [], _, h, _ => by cases (show _ = _ from h); exact .nil
  | x :: xs, _, h, c => by
    obtain ⟨v, r, rfl, h1, h2⟩ := h
    have c' : x.py.canLay0 = true ∧ PyData.canLayAll0 (pyAll xs) = true := by simpa [pyAll, PyData.canLayAll0] using c
    exact .cons (Rep.dp h1 c'.1) (Reps.dp h2 c'.2)
end
theorem Rep.dps {K : PySem.W.Frag} {H : Hp} {l : List Addr} {d : D} {v : V} (h : Rep K H l d v) (c : d.shaped = true) : Dp K H v d.py := h.dp (SeqAt.canLay_of_shaped c)
theorem any_py (x : D) : ∀ ys : List D, ((pyAll ys).any fun z => PyData.eqv z x.py) = ys.any fun y => eqD y x
  | [] => rfl
  | y :: ys => by
    simp only [pyAll, List.any_cons, any_py x ys]
    rfl
/-- x in y of data -/
theorem op_inG {X : Cx} (hu : X.A.units + 65 < cLine) : OpR X (compareOp .In) (fun x y H Q => ∃ l dx ys, Rep X.K H l dx x ∧ (Rep X.K H l (.lst ys) y ∨ Rep X.K H l (.tup ys) y) ∧ dx.shaped = true ∧ (D.lst ys).shaped = true ∧ Q (.bl (ys.any fun y => eqD y dx)) H) := by
  intro pins s σ H x y v u Q I rx ry h
  obtain ⟨l, dx, ys, hx, hy, sd, se, q⟩ := h
  have h1 := hx.dps sd
  obtain ⟨as, r1⟩ := Dp.reads I _ x v h1 rx
  rw [← any_py] at q
  have se' : SeqAt.shaped (.list (pyAll ys)) = true := by simpa [D.shaped, D.py] using se
  have sd' : SeqAt.shaped dx.py = true := sd
  rcases hy with hy | hy
  · obtain ⟨bs, r2⟩ := Dp.reads I _ y u (hy.dps se) ry
    exact SeqAt.in_list_reads (by simpa [D.py] using r2) r1 (SeqAt.canLay_of_shaped se') (SeqAt.canLay_of_shaped sd') (room_in_shaped sd' hu) ⟨.bl _, H, I, rfl, q⟩
  · have st : (D.tup ys).py.canLay0 = true := by
      have := SeqAt.canLay_of_shaped se'
      simpa [D.py, PyData.canLay0] using this
    obtain ⟨bs, r2⟩ := Dp.reads I _ y u (hy.dp st) ry
    exact SeqAt.in_tuple_reads (by simpa [D.py] using r2) r1 (SeqAt.canLay_of_shaped se') (SeqAt.canLay_of_shaped sd') (room_in_shaped sd' hu) ⟨.bl _, H, I, rfl, q⟩
theorem op_notInG {X : Cx} (hu : X.A.units + 65 < cLine) : OpR X (compareOp .NotIn) (fun x y H Q => ∃ l dx ys, Rep X.K H l dx x ∧ (Rep X.K H l (.lst ys) y ∨ Rep X.K H l (.tup ys) y) ∧ dx.shaped = true ∧ (D.lst ys).shaped = true ∧ Q (.bl (!ys.any fun y => eqD y dx)) H) := by
  intro pins s σ H x y v u Q I rx ry h
  obtain ⟨l, dx, ys, hx, hy, sd, se, q⟩ := h
  have h1 := hx.dps sd
  obtain ⟨as, r1⟩ := Dp.reads I _ x v h1 rx
  rw [← any_py] at q
  have se' : SeqAt.shaped (.list (pyAll ys)) = true := by simpa [D.shaped, D.py] using se
  have sd' : SeqAt.shaped dx.py = true := sd
  rcases hy with hy | hy
  · obtain ⟨bs, r2⟩ := Dp.reads I _ y u (hy.dps se) ry
    exact SeqAt.notIn_list_reads (by simpa [D.py] using r2) r1 (SeqAt.canLay_of_shaped se') (SeqAt.canLay_of_shaped sd') (room_in_shaped sd' hu) ⟨.bl _, H, I, rfl, q⟩
  · have st : (D.tup ys).py.canLay0 = true := by
      have := SeqAt.canLay_of_shaped se'
      simpa [D.py, PyData.canLay0] using this
    obtain ⟨bs, r2⟩ := Dp.reads I _ y u (hy.dp st) ry
    exact SeqAt.notIn_tuple_reads (by simpa [D.py] using r2) r1 (SeqAt.canLay_of_shaped se') (SeqAt.canLay_of_shaped sd') (room_in_shaped sd' hu) ⟨.bl _, H, I, rfl, q⟩
theorem map_some {α β : Type} {o : Option α} {f : α → β} {P : Option β → Prop} (h : P (o.map f)) (n : ¬ P none) : ∃ a, o = some a ∧ P (some (f a)) := by
  cases o with
  | none => exact absurd h n
  | some a => exact ⟨a, rfl, h⟩
theorem op_cmp {X : Cx} {cl : Nat → Addr} {W : WX} (hu : X.A.units + 65 < cLine) (o : Cop) : OpR X (compareOp (cop o)) (rOp ⟨X.K, cl⟩ W fun x y => (cmpD o x y).map fun c => EV.val (.bl c)) := by
  intro pins s σ H x y v u Q I rx ry h
  obtain ⟨Kp, σ', l, st, dx, dy, R, hx, hy, hF⟩ := h
  obtain ⟨c, hc, hF⟩ := map_some (P := fun o => Fin X.K cl W Kp σ' H l (ofO o st) fun r st' H' l' => ∀ v, RvR X.K Kp σ' H' l' st' r v → Q v H') hF (fun z => z)
  have q : Q (.bl c) H := fin_val hF R rfl
  cases o with
  | eq =>
    simp only [cmpD] at hc
    split at hc
    · rename_i hs
      rw [Bool.and_eq_true] at hs
      cases hc
      exact op_eqD (by omega) pins s σ H x y v u Q I rx ry ⟨_, _, hx.dps hs.1, hy.dps hs.2, hs.1, hs.2, q⟩
    · cases hc
  | ne =>
    simp only [cmpD] at hc
    split at hc
    · rename_i hs
      rw [Bool.and_eq_true] at hs
      cases hc
      exact op_neD (by omega) pins s σ H x y v u Q I rx ry ⟨_, _, hx.dps hs.1, hy.dps hs.2, hs.1, hs.2, q⟩
    · cases hc
  | lt =>
    cases dx <;> cases dy <;> try cases hc
    cases hx; cases hy
    exact op_lt pins s σ H _ _ v u Q I rx ry ⟨_, _, rfl, rfl, q⟩
  | le =>
    cases dx <;> cases dy <;> try cases hc
    cases hx; cases hy
    exact op_le pins s σ H _ _ v u Q I rx ry ⟨_, _, rfl, rfl, q⟩
  | gt =>
    cases dx <;> cases dy <;> try cases hc
    cases hx; cases hy
    exact op_gt pins s σ H _ _ v u Q I rx ry ⟨_, _, rfl, rfl, q⟩
  | ge =>
    cases dx <;> cases dy <;> try cases hc
    cases hx; cases hy
    exact op_ge pins s σ H _ _ v u Q I rx ry ⟨_, _, rfl, rfl, q⟩
  | is =>
    cases dx <;> cases dy <;> try cases hc
    case non.non.refl => cases hx; cases hy; exact op_isN pins s σ H _ _ v u Q I rx ry ⟨rfl, by simpa using q⟩
    case bl.non.refl => cases hx; cases hy; exact op_isN pins s σ H _ _ v u Q I rx ry ⟨rfl, by simpa using q⟩
    case int.non.refl => cases hx; cases hy; exact op_isN pins s σ H _ _ v u Q I rx ry ⟨rfl, by simpa using q⟩
    case str.non.refl => cases hx; cases hy; exact op_isN pins s σ H _ _ v u Q I rx ry ⟨rfl, by simpa using q⟩
    case lst.non.refl =>
      obtain ⟨a, o, vs, rfl, _, _⟩ := hx
      cases hy
      exact op_isN pins s σ H _ _ v u Q I rx ry ⟨rfl, by simpa using q⟩
    case tup.non.refl =>
      obtain ⟨a, vs, rfl, _, _⟩ := hx
      cases hy
      exact op_isN pins s σ H _ _ v u Q I rx ry ⟨rfl, by simpa using q⟩
    case cel.non.refl =>
      obtain ⟨a, rfl, _⟩ := hx
      cases hy
      exact op_isN pins s σ H _ _ v u Q I rx ry ⟨rfl, by simpa using q⟩
    case exn.non.refl =>
      obtain ⟨a, oe, rfl, _⟩ := hx
      cases hy
      exact op_isN pins s σ H _ _ v u Q I rx ry ⟨rfl, by simpa using q⟩
    case bl.bl.refl =>
      cases hx; cases hy
      exact op_isBl pins s σ H _ _ v u Q I rx ry ⟨_, _, rfl, rfl, by rw [← Bool.beq_eq_decide_eq]; exact q⟩
  | isn =>
    cases dx <;> cases dy <;> try cases hc
    case non.non.refl => cases hx; cases hy; exact op_notN pins s σ H _ _ v u Q I rx ry ⟨rfl, by simpa using q⟩
    case bl.non.refl => cases hx; cases hy; exact op_notN pins s σ H _ _ v u Q I rx ry ⟨rfl, by simpa using q⟩
    case int.non.refl => cases hx; cases hy; exact op_notN pins s σ H _ _ v u Q I rx ry ⟨rfl, by simpa using q⟩
    case str.non.refl => cases hx; cases hy; exact op_notN pins s σ H _ _ v u Q I rx ry ⟨rfl, by simpa using q⟩
    case lst.non.refl =>
      obtain ⟨a, o, vs, rfl, _, _⟩ := hx
      cases hy
      exact op_notN pins s σ H _ _ v u Q I rx ry ⟨rfl, by simpa using q⟩
    case tup.non.refl =>
      obtain ⟨a, vs, rfl, _, _⟩ := hx
      cases hy
      exact op_notN pins s σ H _ _ v u Q I rx ry ⟨rfl, by simpa using q⟩
    case cel.non.refl =>
      obtain ⟨a, rfl, _⟩ := hx
      cases hy
      exact op_notN pins s σ H _ _ v u Q I rx ry ⟨rfl, by simpa using q⟩
    case exn.non.refl =>
      obtain ⟨a, oe, rfl, _⟩ := hx
      cases hy
      exact op_notN pins s σ H _ _ v u Q I rx ry ⟨rfl, by simpa using q⟩
    case bl.bl.refl =>
      cases hx; cases hy
      exact op_notBl pins s σ H _ _ v u Q I rx ry ⟨_, _, rfl, rfl, by rw [← Bool.beq_eq_decide_eq]; exact q⟩
  | inn =>
    cases dy <;> try cases hc
    case str z =>
      cases dx <;> try cases hc
      cases hx; cases hy
      exact op_in_str pins s σ H _ _ v u Q I rx ry ⟨_, _, rfl, rfl, q⟩
    case lst ys =>
      simp only [cmpD, inD] at hc
      split at hc
      · rename_i hs
        rw [Bool.and_eq_true] at hs
        cases hc
        exact op_inG hu pins s σ H x y v u Q I rx ry ⟨l, dx, ys, hx, .inl hy, hs.1, hs.2, q⟩
      · cases hc
    case tup ys =>
      simp only [cmpD, inD] at hc
      split at hc
      · rename_i hs
        rw [Bool.and_eq_true] at hs
        cases hc
        exact op_inG hu pins s σ H x y v u Q I rx ry ⟨l, dx, ys, hx, .inr hy, hs.1, hs.2, q⟩
      · cases hc
  | nin =>
    simp only [cmpD] at hc
    obtain ⟨c0, hc0, e⟩ := Option.map_eq_some_iff.mp hc
    subst e
    cases dy <;> try cases hc0
    case str z =>
      cases dx <;> try cases hc0
      cases hx; cases hy
      exact L2.op_notIn_str pins s σ H _ _ v u Q I rx ry ⟨_, _, rfl, rfl, q⟩
    case lst ys =>
      simp only [inD] at hc0
      split at hc0
      · rename_i hs
        rw [Bool.and_eq_true] at hs
        cases hc0
        exact op_notInG hu pins s σ H x y v u Q I rx ry ⟨l, dx, ys, hx, .inl hy, hs.1, hs.2, q⟩
      · cases hc0
    case tup ys =>
      simp only [inD] at hc0
      split at hc0
      · rename_i hs
        rw [Bool.and_eq_true] at hs
        cases hc0
        exact op_notInG hu pins s σ H x y v u Q I rx ry ⟨l, dx, ys, hx, .inr hy, hs.1, hs.2, q⟩
      · cases hc0

/-! ### truth -/
theorem Rep.tru {K : PySem.W.Frag} {H : Hp} {l : List Addr} {d : D} {v : V} {k : Bool} (h : Rep K H l d v) (e : truD d = some k) : TruV K v H k := by
  cases d with
  | non => cases (show _ = _ from h); cases e; exact rfl
  | bl b => cases (show _ = _ from h); cases e; exact rfl
  | int i => cases (show _ = _ from h); cases e; exact rfl
  | str x =>
    cases (show _ = _ from h)
    simp only [truD] at e
    split at e
    · rename_i c
      cases e
      exact ⟨lim_line c, rfl⟩
    · cases e
  | lst xs =>
    obtain ⟨a, o, vs, rfl, h1, h2⟩ := h
    cases e
    refine .inl ⟨vs, .inl (.inr ⟨o, h1⟩), ?_⟩
    have := h2.len
    cases xs <;> cases vs <;> simp_all
  | tup xs =>
    obtain ⟨a, vs, rfl, h1, h2⟩ := h
    cases e
    refine .inr (.inl ⟨vs, h1.sq, ?_⟩)
    have := h2.len
    cases xs <;> cases vs <;> simp_all
  | cel n => cases e
  | scr ns => cases e
  | exn ns => cases e
end Dm

set_option Elab.async false
set_option linter.all false
set_option maxRecDepth 100000
set_option maxHeartbeats 4000000
set_option autoImplicit false
/-! DmI: enumerate and zip over lists and tuples in any mix. -/
namespace Dm
open PySem PySem.Spec PyProof.Rows L2

def IsIt : Bool → Heap → Addr → Addr → Nat → Prop
  | false, h, it, a, i => h.IsListIter it a i
  | true, h, it, a, i => h.IsTupleIter it a i
def IsSq : Bool → Heap → Addr → Array Value → Prop
  | false, h, a, its => h.IsList a its
  | true, h, a, its => h.IsTuple a its
def SqB : Bool → PySem.W.Frag → Hp → Addr → List V → Prop
  | false, K, H, a, xs => SqL K H a xs
  | true, K, H, a, xs => SqT K H a xs
def itO (b : Bool) (a : Addr) : Obj := match b with
  | false => { cls := .type "list_iterator", data := .fields #[.ref a, .int 0 0] }
  | true => { cls := .type "tuple_iterator", data := .fields #[.ref a, .int 0 0] }
theorem draws_sq (b : Bool) {prog : Program} {w : World} {A : Around} (hh : A.handled = none) (it a : Addr) (hne : a ≠ it) (items : Array Value) :
    Draws prog w A it [it, a] items.size (fun i v => items[i]? = some v) (fun i h => IsIt b h it a i ∧ IsSq b h a items) := by
  cases b
  · exact Draws.list hh it a hne items
  · exact Draws.tuple hh it a hne items
theorem begins_sq (b : Bool) (a : Addr) (items : Array Value) : Begins (.ref a) (itO b a) fun h => IsSq b h a items := by
  cases b
  · exact begins_list a items
  · exact begins_tuple a items
theorem isIt_of {b : Bool} {h : Heap} {it a : Addr} (e : h.get? it = some (itO b a)) : IsIt b h it a 0 := by
  cases b
  · exact ⟨_, e, rfl, rfl⟩
  · exact ⟨_, e, rfl, rfl⟩
theorem isIt_obj {b : Bool} {h : Heap} {it a : Addr} {i : Nat} (x : IsIt b h it a i) : ∃ o, h.get? it = some o ∧ ∀ v, o.data ≠ .cell v := by
  cases b
  · obtain ⟨o, e, c, d⟩ := x
    exact ⟨o, e, fun v z => by rw [d] at z; cases z⟩
  · obtain ⟨o, e, c, d⟩ := x
    exact ⟨o, e, fun v z => by rw [d] at z; cases z⟩
theorem isIt_at {b : Bool} {h h' : Heap} {it a : Addr} {i : Nat} (x : IsIt b h it a i) (k : ∀ o, h.get? it = some o → h'.get? it = some o) : IsIt b h' it a i := by
  cases b
  · exact Heap.IsListIter.at x k
  · exact Heap.IsTupleIter.at x k
section
variable {X : Cx} {pins : List (Addr × Obj)} {σ : Sl} {H : Hp} {s : Shared} {a : Addr} {xs ys : List V} {b : Bool}
theorem inv_sq (I : Inv X pins σ H s) (h : SqB b X.K H a xs) : ∃ its : List Value, Vals xs its ∧ IsSq b s.heap a its.toArray ∧ xs.length ≤ sizeLine := by
  cases b
  · obtain ⟨its, r, p, z⟩ := I.list h
    exact ⟨its, r, p.isList, z⟩
  · obtain ⟨its, r, p, z⟩ := I.tuple h
    exact ⟨its, r, p, z⟩
theorem inv_sq_inj (I : Inv X pins σ H s) (h : SqB b X.K H a xs) (h' : SqB b X.K H a ys) : xs = ys := by
  cases b
  · exact I.list_inj h h'
  · exact I.tuple_inj h h'
theorem sq_lt (I : Inv X pins σ H s) (h : SqB b X.K H a xs) : ∃ o, s.heap.get? a = some o ∧ (H a ≠ none ∨ ∃ ok, X.K.lookup a = some ok) := by
  have two : ∀ {u : HO}, Rd H a u → H a ≠ none := fun {u} r n => by
    rcases r with r | ⟨o, r⟩
    · rw [n] at r; cases r
    · rw [n] at r; cases r
  cases b
  · obtain ⟨its, r, ⟨o, n, e, _⟩, z⟩ := I.list h
    refine ⟨o, e, ?_⟩
    rcases h with h | ⟨ok, _, _, hk, _⟩
    · exact .inl (two h)
    · exact .inr ⟨ok, hk⟩
  · obtain ⟨its, r, ⟨o, e, _⟩, z⟩ := I.tuple h
    refine ⟨o, e, ?_⟩
    rcases h with h | ⟨ok, _, _, hk, _⟩
    · exact .inl (two h)
    · exact .inr ⟨ok, hk⟩
/-- an iterator's own object is not the sequence -/
theorem sq_ne (I : Inv X pins σ H s) (h : SqB b X.K H a xs) {it : Addr} {b' : Bool} {a' : Addr} {i : Nat} (x : IsIt b' s.heap it a' i) : a ≠ it := by
  intro e
  subst e
  cases b
  · obtain ⟨its, r, ⟨o, n, e, c, _⟩, z⟩ := I.list h
    cases b' <;> (obtain ⟨o', e', c', _⟩ := x; rw [e] at e'; cases e'; rw [c] at c'; exact absurd c' (by decide +kernel))
  · obtain ⟨its, r, ⟨o, e, c, _⟩, z⟩ := I.tuple h
    cases b' <;> (obtain ⟨o', e', c', _⟩ := x; rw [e] at e'; cases e'; rw [c] at c'; exact absurd c' (by decide +kernel))
end

/-! ### enumerate(v) -/
set_option maxHeartbeats 4000000 in
theorem meets_enum1 {v : Value} {o : Obj} {H : Heap → Prop} (B : Begins v o H) :
    Meets (Builtin.«enumerate.__new__» ⟨[.type "enumerate", v], []⟩) (fun _ R s => H s.heap ∧
      R (.ok (.ret (.ref (s.heap.push o).objs.size))) { s with heap := (s.heap.push o).push { cls := .type "enumerate", data := .fields #[.none, .bool false, .ref s.heap.objs.size, rawInt 0, .none, .none] } }) :=
  .of_wp fun prog w A R s h => by
    obtain ⟨hp, g, d, tk, os⟩ := s; obtain ⟨h1, h⟩ := h
    have hsub := sub_enumerate
    have q1 : ∀ {A' : Around} {E : Value → Shared → Prop} {Q : Value → Shared → Prop}, Q (.ref hp.objs.size) ⟨hp.push o, g, d, tk, os⟩ → wpAny (model prog w) A' (pyIter v) Q E ⟨hp, g, d, tk, os⟩ :=
      fun q => B.iter prog w _ _ ⟨hp, g, d, tk, os⟩ _ h1 q
    wp_walk using q1
    refine wpAny_stack_any fun st => wpAny_pure ?_
    split
    · rename_i c _ _ _ _ _
      cases (c == Value.type "enumerate")
      · wp_walk using q1
        exact ⟨_, rfl, h⟩
      · wp_walk using q1
        exact ⟨_, rfl, h⟩
    · wp_walk using q1
      exact ⟨_, rfl, h⟩
theorem enum_begins1 {prog : Program} {w : World} {A : Around} {E : Value → Shared → Prop} {s : Shared} {v : Value} {o : Obj} {H : Heap → Prop} {Q : Value → Shared → Prop} (B : Begins v o H) (h1 : H s.heap)
    (h : ∀ h', IsEnum h' (s.heap.objs.size + 1) s.heap.objs.size 0 .none → h'.get? s.heap.objs.size = some o → h'.objs.size = s.heap.objs.size + 2 →
      (∀ b o, s.heap.get? b = some o → h'.get? b = some o) → Q (.ref (s.heap.objs.size + 1)) { s with heap := h' }) :
    wpAny (model prog w) A (call (.type "enumerate") [v]) Q E s := by
  refine callType_new F.called_enumerate (by decide) (F.typeCall_enumerate_1 _) (F.newCall_enumerate_1 _) (fun obj => F.args_object_init_2 obj _) F.entry_enumerate_new
    (meets_enum1 B) ⟨h1, ?_⟩
  have hz : (s.heap.push o).objs.size = s.heap.objs.size + 1 := Heap.size_push ..
  show _ ∧ _
  rw [hz]
  have he : IsEnum ((s.heap.push o).push { cls := .type "enumerate", data := .fields #[.none, .bool false, .ref s.heap.objs.size, rawInt 0, .none, .none] }) (s.heap.objs.size + 1) s.heap.objs.size 0 .none := by
    have := Heap.get?_push_size (s.heap.push o) (o := { cls := .type "enumerate", data := .fields #[.none, .bool false, .ref s.heap.objs.size, rawInt 0, .none, .none] }) rfl
    rw [hz] at this; exact this
  refine ⟨⟨_, he, rfl⟩, h _ he (Heap.get?_push_of_some _ (Heap.get?_push_size _ B.free)) (by rw [Heap.size_push, hz]) fun b o x => Heap.get?_push_of_some _ (Heap.get?_push_of_some _ x)⟩

def IteB (b : Bool) (K : PySem.W.Frag) (a : Addr) : It :=
  ⟨fun i H => ∃ (xs : List V) (x : V), SqB b K H a xs ∧ xs[i]? = some x, fun i H v H' => ∃ T x, ∃ o : Obj, o.dict = none ∧ v = .ref T ∧ H T = none ∧ H' = upd H T (.frz o (.tup [.int (i : Nat), x])) ∧ ∀ xs, SqB b K H a xs → xs[i]? = some x, fun i H => ∃ xs : List V, SqB b K H a xs ∧ xs.length = i⟩
theorem turn_enumB {P : Program} {w : World} {K : PySem.W.Frag} {elts : List Expr} {kk : Nat} {tpos : Pos} (b : Bool) (a e it : Addr) :
    Turn P w K (.Tuple elts kk tpos) (IteB b K a) [e, it] e (fun i h => (∃ old, IsEnum h e it ((i : Nat) : Int) old) ∧ IsIt b h it a i ∧ e ≠ it) where
  mem := by simp
  obj := fun i h st c hb => by
    obtain ⟨⟨old, he⟩, hi, _⟩ := st
    have e' : c = e ∨ c = it := by simpa using hb
    rcases e' with z | z
    · rw [z]; exact ⟨_, he, fun v q => nomatch q⟩
    · rw [z]; exact isIt_obj hi
  keep := fun i h h' st k => let ⟨⟨old, he⟩, hi, hne⟩ := st; ⟨⟨old, k e (by simp) _ he⟩, isIt_at hi fun o q => k it (by simp) o q, hne⟩
  item := by
    intro X hP hw hK hc i pins s σ H E I hf st hg
    subst hP hw hK
    obtain ⟨⟨old, he⟩, hit, hne⟩ := st
    obtain ⟨xs, x, hq, hx⟩ := hg
    obtain ⟨its, rv, p, hz⟩ := inv_sq I hq
    obtain ⟨u, hu, ru⟩ := rv.get hx
    have hel : e < s.heap.objs.size := Heap.lt_size he
    have hil : it < s.heap.objs.size := by obtain ⟨_, q, _⟩ := isIt_obj hit; exact Heap.lt_size q
    have hai : a ≠ it := sq_ne I hq hit
    have hea : e ≠ a := fun z => by
      subst z
      obtain ⟨o, e2, hh⟩ := sq_lt I hq
      rw [he] at e2
      cases e2
      cases b
      · obtain ⟨o, e3, c, _⟩ := p
        rw [he] at e3; cases e3; exact absurd c (show ¬ (Value.type "enumerate" = Value.type "list") by decide +kernel)
      · obtain ⟨o, e3, c, _⟩ := p
        rw [he] at e3; cases e3; exact absurd c (show ¬ (Value.type "enumerate" = Value.type "tuple") by decide +kernel)
    have D := draws_sq (prog := X.prog) (w := X.w) b (A := X.A.in1) (by show X.A.handled = none; exact I.ok.hd hc) it a hai its.toArray
    have hin : i < its.toArray.size := by
      have := (List.getElem?_eq_some_iff.mp hu).1
      simpa using this
    refine wpAny_pyNext_enum_itemC D he ⟨hit, p⟩ hin hne (by simp [hne, hea]) fun y h' tk hP ho hit' hT hsz hk => ?_
    have hy : y = u := by
      have h1 : its.toArray[i]? = some u := by simpa using hu
      rw [h1] at hP
      exact (Option.some.inj hP).symm
    subst hy
    refine ⟨_, rfl, wpAny_letOwnedTupleGo_enum (s := { s with heap := h', toks := tk + 1 }) ho fun h'' he' sb => ?_⟩
    have hT2 : h''.get? s.heap.objs.size = some { cls := .type "tuple", data := .seq #[.int i tk, y] } := (sb.2 _ (Nat.ne_of_gt hel)).trans hT
    have new : ObjOk X.prog X.w (upd H s.heap.objs.size (.frz { cls := .type "tuple", data := .seq #[.int i tk, y] } (.tup [.int (i : Nat), x]))) h'' s.heap.objs.size (.frz { cls := .type "tuple", data := .seq #[.int i tk, y] } (.tup [.int (i : Nat), x])) :=
      ⟨hT2, by show 2 ≤ sizeLine; decide, [.int i tk, y], .cons ⟨_, rfl⟩ (.cons ru .nil), ⟨_, hT2, rfl, _, rfl⟩⟩
    have I1 : Inv X pins σ (upd H s.heap.objs.size (.frz { cls := .type "tuple", data := .seq #[.int i tk, y] } (.tup [.int (i : Nat), x]))) { s with heap := h'', toks := tk + 1 } :=
      I.turnedNew (ch := [e, it]) (fun b ob hb q => (sb.2 b (fun z => hb (by simp [z]))).trans (hk b ob (fun z => hb (by simp [z])) (fun z => hb (by simp [z])) q)) hf (Nat.le_refl _) new
    refine ⟨.ref s.heap.objs.size, _, I1, rfl, ⟨_, x, _, rfl, rfl, I.hok.fresh (Nat.le_refl _), rfl, fun ys hy => by rw [inv_sq_inj I hy hq]; exact hx⟩, ⟨⟨y, ?_⟩, isIt_at hit'.1 fun o q => (sb.2 it (Ne.symm hne)).trans q, hne⟩, fun c hb => ?_⟩
    · have e1 : ((i + 1 : Nat) : Int) = (i : Int) + 1 := by omega
      rw [e1]; exact he'
    · have hb' : c < s.heap.objs.size := by
        have e' : c = e ∨ c = it := by simpa using hb
        rcases e' with z | z
        · rw [z]; exact hel
        · rw [z]; exact hil
      rw [upd_ne (Nat.ne_of_lt hb')]
      exact (hf c hb).1
  done := by
    intro X hP hw hK hc i pins s σ H E I hf st hg
    subst hP hw hK
    obtain ⟨⟨old, he⟩, hit, hne⟩ := st
    obtain ⟨xs, hq, hx⟩ := hg
    obtain ⟨its, rv, p, hz⟩ := inv_sq I hq
    have hai : a ≠ it := sq_ne I hq hit
    obtain ⟨f0, f1, f2, f3, f4, f5⟩ := hf it (by simp)
    have hl := rv.length
    have D := draws_sq (prog := X.prog) (w := X.w) b (A := X.A.in1) (by show X.A.handled = none; exact I.ok.hd hc) it a hai its.toArray
    have hn : its.toArray.size = i := by rw [List.size_toArray]; omega
    rw [hn] at D
    exact wpAny_pyNext_enum_endD D he ⟨hit, p⟩ fun h' eb => ⟨rfl, I.turned (t' := s.toks) (fun b o hb q => eb b o hb q) f0 f1 f3 f4 f5⟩
  self := fun A i s Q E st h => let ⟨⟨_, he⟩, _⟩ := st; wpAny_pyIter_enum he h
def iEnumB (K : PySem.W.Frag) (ta : TA) : TI := fun σ H R => ta σ H fun vs H1 => ∃ a xs b, vs = [.ref a] ∧ SqB b K H1 a xs ∧ R (IteB b K a) H1
theorem pi_enumB {X : Cx} {e : Expr} {ta : TA} {p pos tpos : Pos} {elts : List Expr} {kk : Nat} (hg : Gl X "enumerate") (hm : X.mg "enumerate" = none) (ha : PA X [e] ta) (hs : starEach [e] X.env = [(false, eval e X.env)]) :
    PI X (.Tuple elts kk tpos) (.Call (.Name "enumerate" p) [e] [] pos) (iEnumB X.K ta) := by
  refine ⟨fun pins s σ H R I h => ?_⟩
  refine Call_ (ld_blt I hg hm boot_enumerate (PyProof.Rows.callWith_type1 (thn (ha.run pos pins s σ H _ I h) fun us s1 ⟨vs, H1, I1, r1, q1⟩ => ?_) hs rfl))
  obtain ⟨a, xs, b, ex, hq, q⟩ := q1
  subst ex
  cases r1 with
  | cons r rr =>
    cases rr
    cases r
    obtain ⟨its, rv, p', hz⟩ := inv_sq I1 hq
    refine enum_begins1 (begins_sq b a its.toArray) p' fun h' he hit hsz hk => wpAny_pyIter_enum he ?_
    have I2 : Inv X pins σ H1 { s1 with heap := h' } := I1.kept (t' := s1.toks) hk
    refine ⟨s1.heap.objs.size + 1, [s1.heap.objs.size + 1, s1.heap.objs.size], _, _, H1, rfl, I2, turn_enumB b a (s1.heap.objs.size + 1) s1.heap.objs.size, ⟨⟨.none, he⟩, isIt_of hit, Nat.succ_ne_self _⟩, fun c hb => ?_, q⟩
    have e' : c = s1.heap.objs.size + 1 ∨ c = s1.heap.objs.size := by simpa using hb
    have hle : s1.heap.objs.size ≤ c := by
      rcases e' with z | z
      · rw [z]; exact Nat.le_add_right _ _
      · rw [z]; exact Nat.le_refl _
    exact I1.fpOk hle (I1.hok.fresh hle)

/-! ### zip(v1, v2) -/
/-- the iterators' own cells lie apart -/
structure Zap (z TI TO i1 i2 : Addr) : Prop where
  TIz : TI ≠ z
  TOz : TO ≠ z
  TITO : TI ≠ TO
  TIi1 : TI ≠ i1
  TIi2 : TI ≠ i2
  zi1 : z ≠ i1
  zi2 : z ≠ i2
  Ti1 : TO ≠ i1
  Ti2 : TO ≠ i2
  i12 : i1 ≠ i2
def ItzB (b1 b2 : Bool) (K : PySem.W.Frag) (a1 a2 : Addr) : It :=
  ⟨fun i H => ∃ (xs ys : List V) (x y : V), SqB b1 K H a1 xs ∧ SqB b2 K H a2 ys ∧ xs[i]? = some x ∧ ys[i]? = some y,
    fun i H v H' => ∃ T x y, ∃ o : Obj, o.dict = none ∧ v = .ref T ∧ H T = none ∧ H' = upd H T (.frz o (.tup [x, y])) ∧ (∀ xs, SqB b1 K H a1 xs → xs[i]? = some x) ∧ ∀ ys, SqB b2 K H a2 ys → ys[i]? = some y,
    fun i H => ∃ xs ys : List V, SqB b1 K H a1 xs ∧ SqB b2 K H a2 ys ∧ i ≤ xs.length ∧ i ≤ ys.length ∧ (i = xs.length ∨ i = ys.length)⟩
/-- an object that is no sequence is none of a's -/
theorem sq_no {X : Cx} {pins : List (Addr × Obj)} {σ : Sl} {H : Hp} {s : Shared} {a : Addr} {xs : List V} {b : Bool} (I : Inv X pins σ H s) (h : SqB b X.K H a xs) {c : Addr} (n : H c = none) (k : X.K.lookup c = none) : c ≠ a := fun e => by
  subst e
  obtain ⟨o, e2, hh⟩ := sq_lt I h
  rcases hh with hh | ⟨ok, hh⟩
  · exact hh n
  · rw [k] at hh; cases hh
theorem zsep {X : Cx} {pins : List (Addr × Obj)} {σ : Sl} {H : Hp} {s : Shared} {z TI TO i1 i2 a1 a2 : Addr} {xs ys : List V} {b1 b2 : Bool} (D : Zap z TI TO i1 i2) (I : Inv X pins σ H s) (h1 : SqB b1 X.K H a1 xs) (h2 : SqB b2 X.K H a2 ys)
    (f : ∀ c ∈ [z, TI, TO, i1, i2], H c = none ∧ X.K.lookup c = none) : ZipSep2 z TI TO i1 i2 [i1, a1] [i2, a2] where
  TIz := D.TIz
  TOz := D.TOz
  TITO := D.TITO
  TIi1 := D.TIi1
  mem1 := by simp
  zf1 := by
    have := sq_no I h1 (f z (by simp)).1 (f z (by simp)).2
    simp [D.zi1, this]
  Tf1 := by
    have := sq_no I h1 (f TO (by simp)).1 (f TO (by simp)).2
    simp [D.Ti1, this]
  TIi2 := D.TIi2
  mem2 := by simp
  zf2 := by
    have := sq_no I h2 (f z (by simp)).1 (f z (by simp)).2
    simp [D.zi2, this]
  Tf2 := by
    have := sq_no I h2 (f TO (by simp)).1 (f TO (by simp)).2
    simp [D.Ti2, this]
  sep1_2 := by
    have := sq_no I h2 (f i1 (by simp)).1 (f i1 (by simp)).2
    simp [D.i12, this]
  sep2_1 := by
    have := sq_no I h1 (f i2 (by simp)).1 (f i2 (by simp)).2
    simp [D.i12.symm, this]
theorem turn_zipB {P : Program} {w : World} {K : PySem.W.Frag} {elts : List Expr} {kk : Nat} {tpos : Pos} (b1 b2 : Bool) {a1 a2 z TI TO i1 i2 : Addr} (D : Zap z TI TO i1 i2) (hk0 : ∀ c ∈ [z, TI, TO, i1, i2], K.lookup c = none) :
    Turn P w K (.Tuple elts kk tpos) (ItzB b1 b2 K a1 a2) [z, TI, TO, i1, i2] z (fun i h => IsZip h z TI TO .none ∧ IsTupOf2 h TI (.ref i1) (.ref i2) ∧ (∃ x y, IsTupOf2 h TO x y) ∧ IsIt b1 h i1 a1 i ∧ IsIt b2 h i2 a2 i) where
  mem := by simp
  obj := fun i h st c hc => by
    obtain ⟨hz, hTI, ⟨x, y, hTO⟩, h1, h2⟩ := st
    have e' : c = z ∨ c = TI ∨ c = TO ∨ c = i1 ∨ c = i2 := by simpa using hc
    rcases e' with q | q | q | q | q
    · rw [q]; exact ⟨_, hz, fun v q => nomatch q⟩
    · rw [q]; exact ⟨_, hTI, fun v q => nomatch q⟩
    · rw [q]; exact ⟨_, hTO, fun v q => nomatch q⟩
    · rw [q]; exact isIt_obj h1
    · rw [q]; exact isIt_obj h2
  keep := fun i h h' st k => by
    obtain ⟨hz, hTI, ⟨x, y, hTO⟩, h1, h2⟩ := st
    exact ⟨k z (by simp) _ hz, k TI (by simp) _ hTI, ⟨x, y, k TO (by simp) _ hTO⟩, isIt_at h1 fun o q => k i1 (by simp) o q, isIt_at h2 fun o q => k i2 (by simp) o q⟩
  item := by
    intro X hP hw hK hc i pins s σ H E I hf st hg
    subst hP hw hK
    obtain ⟨hz, hTI, ⟨x0, y0, hTO⟩, h1, h2⟩ := st
    obtain ⟨xs, ys, x, y, hqx, hqy, hx, hy⟩ := hg
    obtain ⟨its, rv, p, _⟩ := inv_sq I hqx
    obtain ⟨its2, rv2, p2, _⟩ := inv_sq I hqy
    obtain ⟨u, hu, ru⟩ := rv.get hx
    obtain ⟨u2, hu2, ru2⟩ := rv2.get hy
    have hzl : z < s.heap.objs.size := Heap.lt_size hz
    have fp0 : ∀ c ∈ [z, TI, TO, i1, i2], H c = none ∧ X.K.lookup c = none := fun c hc => ⟨(hf c hc).1, hk0 c hc⟩
    have S := zsep D I hqx hqy fp0
    have D1 := draws_sq (prog := X.prog) (w := X.w) b1 (A := X.A.in1) (by show X.A.handled = none; exact I.ok.hd hc) i1 a1 (sq_ne I hqx h1) its.toArray
    have D2 := draws_sq (prog := X.prog) (w := X.w) b2 (A := X.A.in1) (by show X.A.handled = none; exact I.ok.hd hc) i2 a2 (sq_ne I hqy h2) its2.toArray
    have hn1 : i < its.toArray.size := by simpa using (List.getElem?_eq_some_iff.mp hu).1
    have hn2 : i < its2.toArray.size := by simpa using (List.getElem?_eq_some_iff.mp hu2).1
    refine wpAny_pyNext_zipD2_item S D1 D2 hz hTI hTO ⟨h1, p⟩ ⟨h2, p2⟩ hn1 hn2 fun v1 v2 h' tk hv1 hv2 z' TO' h1' h2' hT hsz hk => ?_
    have e1 : v1 = u := by
      have h1 : its.toArray[i]? = some u := by simpa using hu
      rw [h1] at hv1
      exact (Option.some.inj hv1).symm
    have e2 : v2 = u2 := by
      have h1 : its2.toArray[i]? = some u2 := by simpa using hu2
      rw [h1] at hv2
      exact (Option.some.inj hv2).symm
    subst e1 e2
    refine ⟨_, rfl, wpAny_letOwnedTupleGo_zip (s := { s with heap := h', toks := tk }) z' fun h'' z'' sb => ?_⟩
    have hT2 : h''.get? s.heap.objs.size = some { cls := .type "tuple", data := .seq #[v1, v2] } := (sb.2 _ (Nat.ne_of_gt hzl)).trans hT
    have new : ObjOk X.prog X.w (upd H s.heap.objs.size (.frz { cls := .type "tuple", data := .seq #[v1, v2] } (.tup [x, y]))) h'' s.heap.objs.size (.frz { cls := .type "tuple", data := .seq #[v1, v2] } (.tup [x, y])) :=
      ⟨hT2, by show 2 ≤ sizeLine; decide, [v1, v2], .cons ru (.cons ru2 .nil), ⟨_, hT2, rfl, _, rfl⟩⟩
    have I1 : Inv X pins σ (upd H s.heap.objs.size (.frz { cls := .type "tuple", data := .seq #[v1, v2] } (.tup [x, y]))) { s with heap := h'', toks := tk } :=
      I.turnedNew (t' := tk) (ch := [z, TI, TO, i1, i2]) (fun c o hb q => (sb.2 c (fun q' => hb (by simp [q']))).trans (hk c o (fun q' => hb (by simp [q'])) (fun q' => hb (by simp [q'])) (fun q' => hb (by simp [q'])) (fun q' => hb (by simp [q'])) q)) hf (Nat.le_refl _) new
    refine ⟨.ref s.heap.objs.size, _, I1, rfl, ⟨_, x, y, _, rfl, rfl, I.hok.fresh (Nat.le_refl _), rfl, fun l hl => by rw [inv_sq_inj I hl hqx]; exact hx, fun l hl => by rw [inv_sq_inj I hl hqy]; exact hy⟩, ⟨z'', ?_, ⟨v1, v2, ?_⟩, ?_, ?_⟩, fun c hcm => ?_⟩
    · exact (sb.2 _ D.TIz).trans (hk _ _ D.TIz D.TITO D.TIi1 D.TIi2 hTI)
    · exact (sb.2 _ D.TOz).trans TO'
    · exact isIt_at h1'.1 fun o q => (sb.2 _ D.zi1.symm).trans q
    · exact isIt_at h2'.1 fun o q => (sb.2 _ D.zi2.symm).trans q
    · have hlt : c < s.heap.objs.size := by
        have e' : c = z ∨ c = TI ∨ c = TO ∨ c = i1 ∨ c = i2 := by simpa using hcm
        rcases e' with q | q | q | q | q
        · rw [q]; exact hzl
        · rw [q]; exact Heap.lt_size hTI
        · rw [q]; exact Heap.lt_size hTO
        · rw [q]; obtain ⟨_, e1, _⟩ := isIt_obj h1; exact Heap.lt_size e1
        · rw [q]; obtain ⟨_, e1, _⟩ := isIt_obj h2; exact Heap.lt_size e1
      rw [upd_ne (Nat.ne_of_lt hlt)]
      exact (hf c hcm).1
  done := by
    intro X hP hw hK hc i pins s σ H E I hf st hg
    subst hP hw hK
    obtain ⟨hz, hTI, ⟨x0, y0, hTO⟩, h1, h2⟩ := st
    obtain ⟨xs, ys, hqx, hqy, hx, hy, hend⟩ := hg
    obtain ⟨its, rv, p, _⟩ := inv_sq I hqx
    obtain ⟨its2, rv2, p2, _⟩ := inv_sq I hqy
    have fp0 : ∀ c ∈ [z, TI, TO, i1, i2], H c = none ∧ X.K.lookup c = none := fun c hc => ⟨(hf c hc).1, hk0 c hc⟩
    have S := zsep D I hqx hqy fp0
    have D1 := draws_sq (prog := X.prog) (w := X.w) b1 (A := X.A.in1) (by show X.A.handled = none; exact I.ok.hd hc) i1 a1 (sq_ne I hqx h1) its.toArray
    have D2 := draws_sq (prog := X.prog) (w := X.w) b2 (A := X.A.in1) (by show X.A.handled = none; exact I.ok.hd hc) i2 a2 (sq_ne I hqy h2) its2.toArray
    have l1 : its.toArray.size = xs.length := by rw [List.size_toArray]; exact rv.length.symm
    have l2 : its2.toArray.size = ys.length := by rw [List.size_toArray]; exact rv2.length.symm
    exact wpAny_pyNext_zipD2_end S D1 D2 hz hTI hTO ⟨h1, p⟩ ⟨h2, p2⟩ (by omega) (by omega) (by omega) fun h' tk hk => ⟨rfl,
      I.turnedL (t' := tk) (ch := [z, TI, TO, i1, i2]) (fun c o hb q => hk c o (fun q' => hb (by simp [q'])) (fun q' => hb (by simp [q'])) (fun q' => hb (by simp [q'])) (fun q' => hb (by simp [q'])) q) hf⟩
  self := fun A i s Q E st h => wpAny_pyIter_zip st.1 h
def iZipB (K : PySem.W.Frag) (ta : TA) : TI := fun σ H R => ta σ H fun vs H1 => ∃ a1 a2 xs ys b1 b2, vs = [.ref a1, .ref a2] ∧ SqB b1 K H1 a1 xs ∧ SqB b2 K H1 a2 ys ∧ R (ItzB b1 b2 K a1 a2) H1
theorem pi_zipB {X : Cx} {e e2 : Expr} {ta : TA} {p pos tpos : Pos} {elts : List Expr} {kk : Nat} (hg : Gl X "zip") (hm : X.mg "zip" = none) (ha : PA X [e, e2] ta)
    (hs : starEach [e, e2] X.env = (false, eval e X.env) :: starEach [e2] X.env) (hpl : (backTo pos (starEach [e2] X.env)).any (·.1) = false) :
    PI X (.Tuple elts kk tpos) (.Call (.Name "zip" p) [e, e2] [] pos) (iZipB X.K ta) := by
  refine ⟨fun pins s σ H R I h => ?_⟩
  refine Call_ (ld_blt I hg hm boot_zip (PyProof.Rows.callWith_type1 (thn (ha.run pos pins s σ H _ I h) fun us s1 ⟨vs, H1, I1, r1, q1⟩ => ?_) hs hpl))
  obtain ⟨a1, a2, xs, ys, b1, b2, ex, hq1, hq2, q⟩ := q1
  subst ex
  cases r1 with
  | cons r rr =>
    cases rr with
    | cons r' rr =>
      cases rr
      cases r
      cases r'
      obtain ⟨its, rv, p1, hz1⟩ := inv_sq I1 hq1
      obtain ⟨its2, rv2, p2, hz2⟩ := inv_sq I1 hq2
      refine zip_begins2 (begins_sq b1 a1 its.toArray) (begins_sq b2 a2 its2.toArray) p1 p2 fun h' hz hTI hTO g1 g2 hsz hk => wpAny_pyIter_zip hz ?_
      have I2 : Inv X pins σ H1 { s1 with heap := h' } := I1.kept (t' := s1.toks) hk
      obtain ⟨N, hN⟩ : ∃ N, N = s1.heap.objs.size := ⟨_, rfl⟩
      have mem : ∀ c ∈ [s1.heap.objs.size + 4, s1.heap.objs.size + 2, s1.heap.objs.size + 3, s1.heap.objs.size, s1.heap.objs.size + 1], s1.heap.objs.size ≤ c := fun c hc => by
        have e' : c = s1.heap.objs.size + 4 ∨ c = s1.heap.objs.size + 2 ∨ c = s1.heap.objs.size + 3 ∨ c = s1.heap.objs.size ∨ c = s1.heap.objs.size + 1 := by simpa using hc
        rcases e' with q | q | q | q | q <;> rw [q]
        · exact Nat.le_add_right _ _
        · exact Nat.le_add_right _ _
        · exact Nat.le_add_right _ _
        · exact Nat.le_refl _
        · exact Nat.le_add_right _ _
      have nk : ∀ c ∈ [s1.heap.objs.size + 4, s1.heap.objs.size + 2, s1.heap.objs.size + 3, s1.heap.objs.size, s1.heap.objs.size + 1], X.K.lookup c = none := fun c hc => by
        cases e : X.K.lookup c with
        | none => rfl
        | some o => exact absurd (Nat.lt_of_lt_of_le (Heap.lt_size (I1.kIn c o e)) (mem c hc)) (Nat.lt_irrefl _)
      have ap : Zap (s1.heap.objs.size + 4) (s1.heap.objs.size + 2) (s1.heap.objs.size + 3) s1.heap.objs.size (s1.heap.objs.size + 1) := by
        rw [← hN]
        have ne : ∀ (i j : Nat), i ≠ j → (N + i : Nat) ≠ N + j := fun i j h e => h (Nat.add_left_cancel e)
        have ne0 : ∀ (i : Nat), i ≠ 0 → (N + i : Nat) ≠ N := fun i h e => h (by have e2 : N + i = N := e; omega)
        exact ⟨ne 2 4 (by decide), ne 3 4 (by decide), ne 2 3 (by decide), ne0 2 (by decide), ne 2 1 (by decide), ne0 4 (by decide), ne 4 1 (by decide), ne0 3 (by decide), ne 3 1 (by decide), (ne0 1 (by decide)).symm⟩
      exact ⟨s1.heap.objs.size + 4, [s1.heap.objs.size + 4, s1.heap.objs.size + 2, s1.heap.objs.size + 3, s1.heap.objs.size, s1.heap.objs.size + 1], _, _, H1, rfl, I2, turn_zipB b1 b2 ap nk, ⟨hz, hTI, ⟨_, _, hTO⟩, isIt_of g1, isIt_of g2⟩,
        fun c hc => I1.fpOk (mem c hc) (I1.hok.fresh (mem c hc)), q⟩
end Dm

set_option Elab.async false
set_option linter.all false
set_option maxRecDepth 100000
set_option maxHeartbeats 4000000
set_option autoImplicit false
/-! DmZ: zip of three lists or tuples in any mix. -/
namespace Dm
open PySem PySem.Spec PyProof.Rows L2 PySem.W
structure Zap3 (z TI TO i1 i2 i3 : Addr) : Prop where
  TIz : TI ≠ z
  TOz : TO ≠ z
  TITO : TI ≠ TO
  TIi1 : TI ≠ i1
  TIi2 : TI ≠ i2
  TIi3 : TI ≠ i3
  zi1 : z ≠ i1
  zi2 : z ≠ i2
  zi3 : z ≠ i3
  Ti1 : TO ≠ i1
  Ti2 : TO ≠ i2
  Ti3 : TO ≠ i3
  i12 : i1 ≠ i2
  i13 : i1 ≠ i3
  i23 : i2 ≠ i3
def ItzT (b1 b2 b3 : Bool) (K : PySem.W.Frag) (a1 a2 a3 : Addr) : It :=
  ⟨fun i H => ∃ (xs ys zs : List V) (x y z : V), SqB b1 K H a1 xs ∧ SqB b2 K H a2 ys ∧ SqB b3 K H a3 zs ∧ xs[i]? = some x ∧ ys[i]? = some y ∧ zs[i]? = some z,
    fun i H v H' => ∃ T x y z, ∃ o : Obj, o.dict = none ∧ v = .ref T ∧ H T = none ∧ H' = upd H T (.frz o (.tup [x, y, z])) ∧ (∀ xs, SqB b1 K H a1 xs → xs[i]? = some x) ∧ (∀ ys, SqB b2 K H a2 ys → ys[i]? = some y) ∧ ∀ zs, SqB b3 K H a3 zs → zs[i]? = some z,
    fun i H => ∃ xs ys zs : List V, SqB b1 K H a1 xs ∧ SqB b2 K H a2 ys ∧ SqB b3 K H a3 zs ∧ i ≤ xs.length ∧ i ≤ ys.length ∧ i ≤ zs.length ∧ (i = xs.length ∨ i = ys.length ∨ i = zs.length)⟩
theorem zsep3 {X : Cx} {pins : List (Addr × Obj)} {σ : Sl} {H : Hp} {s : Shared} {z TI TO i1 i2 i3 a1 a2 a3 : Addr} {xs ys zs : List V} {b1 b2 b3 : Bool} (D : Zap3 z TI TO i1 i2 i3) (I : Inv X pins σ H s) (h1 : SqB b1 X.K H a1 xs) (h2 : SqB b2 X.K H a2 ys) (h3 : SqB b3 X.K H a3 zs)
    (f : ∀ c ∈ [z, TI, TO, i1, i2, i3], H c = none ∧ X.K.lookup c = none) : ZipSep3 z TI TO i1 i2 i3 [i1, a1] [i2, a2] [i3, a3] := by
  have n1 : ∀ c ∈ [z, TI, TO, i1, i2, i3], c ≠ a1 := fun c hc => sq_no I h1 (f c hc).1 (f c hc).2
  have n2 : ∀ c ∈ [z, TI, TO, i1, i2, i3], c ≠ a2 := fun c hc => sq_no I h2 (f c hc).1 (f c hc).2
  have n3 : ∀ c ∈ [z, TI, TO, i1, i2, i3], c ≠ a3 := fun c hc => sq_no I h3 (f c hc).1 (f c hc).2
  have m : ∀ c a d : Addr, c ≠ a → c ≠ d → c ∉ [a, d] := fun c a d h1 h2 => by simp [h1, h2]
  exact ⟨D.TIz, D.TOz, D.TITO, D.TIi1, by simp, m _ _ _ D.zi1 (n1 z (by simp)), m _ _ _ D.Ti1 (n1 TO (by simp)),
    D.TIi2, by simp, m _ _ _ D.zi2 (n2 z (by simp)), m _ _ _ D.Ti2 (n2 TO (by simp)),
    D.TIi3, by simp, m _ _ _ D.zi3 (n3 z (by simp)), m _ _ _ D.Ti3 (n3 TO (by simp)),
    m _ _ _ D.i12 (n2 i1 (by simp)), m _ _ _ D.i13 (n3 i1 (by simp)), m _ _ _ D.i12.symm (n1 i2 (by simp)), m _ _ _ D.i23 (n3 i2 (by simp)), m _ _ _ D.i13.symm (n1 i3 (by simp)), m _ _ _ D.i23.symm (n2 i3 (by simp))⟩
theorem mem6 {c z TI TO i1 i2 i3 : Addr} (h : c ∈ [z, TI, TO, i1, i2, i3]) : c = z ∨ c = TI ∨ c = TO ∨ c = i1 ∨ c = i2 ∨ c = i3 := by simpa using h
theorem turn_zipT {P : Program} {w : World} {K : PySem.W.Frag} {elts : List Expr} {kk : Nat} {tpos : Pos} (b1 b2 b3 : Bool) {a1 a2 a3 z TI TO i1 i2 i3 : Addr} (D : Zap3 z TI TO i1 i2 i3) (hk0 : ∀ c ∈ [z, TI, TO, i1, i2, i3], K.lookup c = none) :
    Turn P w K (.Tuple elts kk tpos) (ItzT b1 b2 b3 K a1 a2 a3) [z, TI, TO, i1, i2, i3] z (fun i h => IsZip h z TI TO .none ∧ IsTupOf3 h TI (.ref i1) (.ref i2) (.ref i3) ∧ (∃ x y u, IsTupOf3 h TO x y u) ∧ IsIt b1 h i1 a1 i ∧ IsIt b2 h i2 a2 i ∧ IsIt b3 h i3 a3 i) where
  mem := by simp
  obj := fun i h st c hc => by
    obtain ⟨hz, hTI, ⟨x, y, u, hTO⟩, h1, h2, h3⟩ := st
    rcases mem6 hc with q | q | q | q | q | q
    · rw [q]; exact ⟨_, hz, fun v q => nomatch q⟩
    · rw [q]; exact ⟨_, hTI, fun v q => nomatch q⟩
    · rw [q]; exact ⟨_, hTO, fun v q => nomatch q⟩
    · rw [q]; exact isIt_obj h1
    · rw [q]; exact isIt_obj h2
    · rw [q]; exact isIt_obj h3
  keep := fun i h h' st k => by
    obtain ⟨hz, hTI, ⟨x, y, u, hTO⟩, h1, h2, h3⟩ := st
    exact ⟨k z (by simp) _ hz, k TI (by simp) _ hTI, ⟨x, y, u, k TO (by simp) _ hTO⟩, isIt_at h1 fun o q => k i1 (by simp) o q, isIt_at h2 fun o q => k i2 (by simp) o q, isIt_at h3 fun o q => k i3 (by simp) o q⟩
  item := by
    intro X hP hw hK hc i pins s σ H E I hf st hg
    subst hP hw hK
    obtain ⟨hz, hTI, ⟨x0, y0, u0, hTO⟩, h1, h2, h3⟩ := st
    obtain ⟨xs, ys, zs, x, y, v, hqx, hqy, hqz, hx, hy, hv⟩ := hg
    obtain ⟨its, rv, p, _⟩ := inv_sq I hqx
    obtain ⟨its2, rv2, p2, _⟩ := inv_sq I hqy
    obtain ⟨its3, rv3, p3, _⟩ := inv_sq I hqz
    obtain ⟨u, hu, ru⟩ := rv.get hx
    obtain ⟨u2, hu2, ru2⟩ := rv2.get hy
    obtain ⟨u3, hu3, ru3⟩ := rv3.get hv
    have hzl : z < s.heap.objs.size := Heap.lt_size hz
    have fp0 : ∀ c ∈ [z, TI, TO, i1, i2, i3], H c = none ∧ X.K.lookup c = none := fun c hc => ⟨(hf c hc).1, hk0 c hc⟩
    have S := zsep3 D I hqx hqy hqz fp0
    have hh : X.A.in1.handled = none := by show X.A.handled = none; exact I.ok.hd hc
    have D1 := draws_sq (prog := X.prog) (w := X.w) b1 hh i1 a1 (sq_ne I hqx h1) its.toArray
    have D2 := draws_sq (prog := X.prog) (w := X.w) b2 hh i2 a2 (sq_ne I hqy h2) its2.toArray
    have D3 := draws_sq (prog := X.prog) (w := X.w) b3 hh i3 a3 (sq_ne I hqz h3) its3.toArray
    have hn1 : i < its.toArray.size := by simpa using (List.getElem?_eq_some_iff.mp hu).1
    have hn2 : i < its2.toArray.size := by simpa using (List.getElem?_eq_some_iff.mp hu2).1
    have hn3 : i < its3.toArray.size := by simpa using (List.getElem?_eq_some_iff.mp hu3).1
    refine wpAny_pyNext_zipD3_item S D1 D2 D3 hz hTI hTO ⟨h1, p⟩ ⟨h2, p2⟩ ⟨h3, p3⟩ hn1 hn2 hn3 fun v1 v2 v3 h' tk hv1 hv2 hv3 z' TO' h1' h2' h3' hT hsz hk => ?_
    have same : ∀ {l : List Value} {a b : Value}, l[i]? = some a → l.toArray[i]? = some b → b = a := fun {l a b} h1 h2 => by
      have h3 : l.toArray[i]? = some a := by simpa using h1
      rw [h3] at h2
      exact (Option.some.inj h2).symm
    have e1 : v1 = u := same hu hv1
    have e2 : v2 = u2 := same hu2 hv2
    have e3 : v3 = u3 := same hu3 hv3
    subst e1 e2 e3
    refine ⟨_, rfl, wpAny_letOwnedTupleGo_zip (s := { s with heap := h', toks := tk }) z' fun h'' z'' sb => ?_⟩
    have hT2 : h''.get? s.heap.objs.size = some { cls := .type "tuple", data := .seq #[v1, v2, v3] } := (sb.2 _ (Nat.ne_of_gt hzl)).trans hT
    have new : ObjOk X.prog X.w (upd H s.heap.objs.size (.frz { cls := .type "tuple", data := .seq #[v1, v2, v3] } (.tup [x, y, v]))) h'' s.heap.objs.size (.frz { cls := .type "tuple", data := .seq #[v1, v2, v3] } (.tup [x, y, v])) :=
      ⟨hT2, by show 3 ≤ sizeLine; decide, [v1, v2, v3], .cons ru (.cons ru2 (.cons ru3 .nil)), ⟨_, hT2, rfl, _, rfl⟩⟩
    have I1 : Inv X pins σ (upd H s.heap.objs.size (.frz { cls := .type "tuple", data := .seq #[v1, v2, v3] } (.tup [x, y, v]))) { s with heap := h'', toks := tk } :=
      I.turnedNew (t' := tk) (ch := [z, TI, TO, i1, i2, i3]) (fun c o hb q => (sb.2 c (fun q' => hb (by simp [q']))).trans (hk c o (fun q' => hb (by simp [q'])) (fun q' => hb (by simp [q'])) (fun q' => hb (by simp [q'])) (fun q' => hb (by simp [q'])) (fun q' => hb (by simp [q'])) q)) hf (Nat.le_refl _) new
    refine ⟨.ref s.heap.objs.size, _, I1, rfl, ⟨_, x, y, v, _, rfl, rfl, I.hok.fresh (Nat.le_refl _), rfl, fun l hl => by rw [inv_sq_inj I hl hqx]; exact hx, fun l hl => by rw [inv_sq_inj I hl hqy]; exact hy, fun l hl => by rw [inv_sq_inj I hl hqz]; exact hv⟩, ⟨z'', ?_, ⟨v1, v2, v3, ?_⟩, ?_, ?_, ?_⟩, fun c hcm => ?_⟩
    · exact (sb.2 _ D.TIz).trans (hk _ _ D.TIz D.TITO D.TIi1 D.TIi2 D.TIi3 hTI)
    · exact (sb.2 _ D.TOz).trans TO'
    · exact isIt_at h1'.1 fun o q => (sb.2 _ D.zi1.symm).trans q
    · exact isIt_at h2'.1 fun o q => (sb.2 _ D.zi2.symm).trans q
    · exact isIt_at h3'.1 fun o q => (sb.2 _ D.zi3.symm).trans q
    · have hlt : c < s.heap.objs.size := by
        rcases mem6 hcm with q | q | q | q | q | q
        · rw [q]; exact hzl
        · rw [q]; exact Heap.lt_size hTI
        · rw [q]; exact Heap.lt_size hTO
        · rw [q]; obtain ⟨_, e1, _⟩ := isIt_obj h1; exact Heap.lt_size e1
        · rw [q]; obtain ⟨_, e1, _⟩ := isIt_obj h2; exact Heap.lt_size e1
        · rw [q]; obtain ⟨_, e1, _⟩ := isIt_obj h3; exact Heap.lt_size e1
      rw [upd_ne (Nat.ne_of_lt hlt)]
      exact (hf c hcm).1
  done := by
    intro X hP hw hK hc i pins s σ H E I hf st hg
    subst hP hw hK
    obtain ⟨hz, hTI, ⟨x0, y0, u0, hTO⟩, h1, h2, h3⟩ := st
    obtain ⟨xs, ys, zs, hqx, hqy, hqz, hx, hy, hv, hend⟩ := hg
    obtain ⟨its, rv, p, _⟩ := inv_sq I hqx
    obtain ⟨its2, rv2, p2, _⟩ := inv_sq I hqy
    obtain ⟨its3, rv3, p3, _⟩ := inv_sq I hqz
    have fp0 : ∀ c ∈ [z, TI, TO, i1, i2, i3], H c = none ∧ X.K.lookup c = none := fun c hc => ⟨(hf c hc).1, hk0 c hc⟩
    have S := zsep3 D I hqx hqy hqz fp0
    have hh : X.A.in1.handled = none := by show X.A.handled = none; exact I.ok.hd hc
    have D1 := draws_sq (prog := X.prog) (w := X.w) b1 hh i1 a1 (sq_ne I hqx h1) its.toArray
    have D2 := draws_sq (prog := X.prog) (w := X.w) b2 hh i2 a2 (sq_ne I hqy h2) its2.toArray
    have D3 := draws_sq (prog := X.prog) (w := X.w) b3 hh i3 a3 (sq_ne I hqz h3) its3.toArray
    have l1 : its.toArray.size = xs.length := by rw [List.size_toArray]; exact rv.length.symm
    have l2 : its2.toArray.size = ys.length := by rw [List.size_toArray]; exact rv2.length.symm
    have l3 : its3.toArray.size = zs.length := by rw [List.size_toArray]; exact rv3.length.symm
    exact wpAny_pyNext_zipD3_end S D1 D2 D3 hz hTI hTO ⟨h1, p⟩ ⟨h2, p2⟩ ⟨h3, p3⟩ (by omega) (by omega) (by omega) (by omega) fun h' tk hk => ⟨rfl,
      I.turnedL (t' := tk) (ch := [z, TI, TO, i1, i2, i3]) (fun c o hb q => hk c o (fun q' => hb (by simp [q'])) (fun q' => hb (by simp [q'])) (fun q' => hb (by simp [q'])) (fun q' => hb (by simp [q'])) (fun q' => hb (by simp [q'])) q) hf⟩
  self := fun A i s Q E st h => wpAny_pyIter_zip st.1 h
def iZipT (K : PySem.W.Frag) (ta : TA) : TI := fun σ H R => ta σ H fun vs H1 => ∃ a1 a2 a3 xs ys zs b1 b2 b3, vs = [.ref a1, .ref a2, .ref a3] ∧ SqB b1 K H1 a1 xs ∧ SqB b2 K H1 a2 ys ∧ SqB b3 K H1 a3 zs ∧ R (ItzT b1 b2 b3 K a1 a2 a3) H1
theorem pi_zipT {X : Cx} {e e2 e3 : Expr} {ta : TA} {p pos tpos : Pos} {elts : List Expr} {kk : Nat} (hg : Gl X "zip") (hm : X.mg "zip" = none) (ha : PA X [e, e2, e3] ta)
    (hs : starEach [e, e2, e3] X.env = (false, eval e X.env) :: starEach [e2, e3] X.env) (hpl : (backTo pos (starEach [e2, e3] X.env)).any (·.1) = false) :
    PI X (.Tuple elts kk tpos) (.Call (.Name "zip" p) [e, e2, e3] [] pos) (iZipT X.K ta) := by
  refine ⟨fun pins s σ H R I h => ?_⟩
  refine Call_ (ld_blt I hg hm boot_zip (PyProof.Rows.callWith_type1 (thn (ha.run pos pins s σ H _ I h) fun us s1 ⟨vs, H1, I1, r1, q1⟩ => ?_) hs hpl))
  obtain ⟨a1, a2, a3, xs, ys, zs, b1, b2, b3, ex, hq1, hq2, hq3, q⟩ := q1
  subst ex
  cases r1 with
  | cons r rr =>
    cases rr with
    | cons r' rr =>
      cases rr with
      | cons r'' rr =>
        cases rr
        cases r
        cases r'
        cases r''
        obtain ⟨its, rv, p1, hz1⟩ := inv_sq I1 hq1
        obtain ⟨its2, rv2, p2, hz2⟩ := inv_sq I1 hq2
        obtain ⟨its3, rv3, p3, hz3⟩ := inv_sq I1 hq3
        refine zip_begins3 (begins_sq b1 a1 its.toArray) (begins_sq b2 a2 its2.toArray) (begins_sq b3 a3 its3.toArray) p1 p2 p3 fun h' hz hTI hTO g1 g2 g3 hsz hk => wpAny_pyIter_zip hz ?_
        have I2 : Inv X pins σ H1 { s1 with heap := h' } := I1.kept (t' := s1.toks) hk
        obtain ⟨N, hN⟩ : ∃ N, N = s1.heap.objs.size := ⟨_, rfl⟩
        have mem : ∀ c ∈ [s1.heap.objs.size + 5, s1.heap.objs.size + 3, s1.heap.objs.size + 4, s1.heap.objs.size, s1.heap.objs.size + 1, s1.heap.objs.size + 2], s1.heap.objs.size ≤ c := fun c hc => by
          rcases mem6 hc with q | q | q | q | q | q <;> rw [q]
          · exact Nat.le_add_right _ _
          · exact Nat.le_add_right _ _
          · exact Nat.le_add_right _ _
          · exact Nat.le_refl _
          · exact Nat.le_add_right _ _
          · exact Nat.le_add_right _ _
        have nk : ∀ c ∈ [s1.heap.objs.size + 5, s1.heap.objs.size + 3, s1.heap.objs.size + 4, s1.heap.objs.size, s1.heap.objs.size + 1, s1.heap.objs.size + 2], X.K.lookup c = none := fun c hc => by
          cases e : X.K.lookup c with
          | none => rfl
          | some o => exact absurd (Nat.lt_of_lt_of_le (Heap.lt_size (I1.kIn c o e)) (mem c hc)) (Nat.lt_irrefl _)
        have ap : Zap3 (s1.heap.objs.size + 5) (s1.heap.objs.size + 3) (s1.heap.objs.size + 4) s1.heap.objs.size (s1.heap.objs.size + 1) (s1.heap.objs.size + 2) := by
          rw [← hN]
          have ne : ∀ (i j : Nat), i ≠ j → (N + i : Nat) ≠ N + j := fun i j h e => h (Nat.add_left_cancel e)
          have ne0 : ∀ (i : Nat), i ≠ 0 → (N + i : Nat) ≠ N := fun i h e => h (by have e2 : N + i = N := e; omega)
          exact ⟨ne 3 5 (by decide), ne 4 5 (by decide), ne 3 4 (by decide), ne0 3 (by decide), ne 3 1 (by decide), ne 3 2 (by decide), ne0 5 (by decide), ne 5 1 (by decide), ne 5 2 (by decide), ne0 4 (by decide), ne 4 1 (by decide), ne 4 2 (by decide), (ne0 1 (by decide)).symm, (ne0 2 (by decide)).symm, ne 1 2 (by decide)⟩
        exact ⟨s1.heap.objs.size + 5, [s1.heap.objs.size + 5, s1.heap.objs.size + 3, s1.heap.objs.size + 4, s1.heap.objs.size, s1.heap.objs.size + 1, s1.heap.objs.size + 2], _, _, H1, rfl, I2, turn_zipT b1 b2 b3 ap nk, ⟨hz, hTI, ⟨_, _, _, hTO⟩, isIt_of g1, isIt_of g2, isIt_of g3⟩,
          fun c hc => I1.fpOk (mem c hc) (I1.hok.fresh (mem c hc)), q⟩
end Dm

set_option Elab.async false
set_option linter.all false
set_option maxRecDepth 100000
set_option maxHeartbeats 4000000
set_option autoImplicit false
/-! DmG: what a def promises where no text of a list is being made. -/
namespace Dm
open PySem PySem.Spec PyProof.Rows L2

/-- a def's promise, asked only where no guard stands on the stack -/
structure FnG (P : Program) (w : World) (K : PySem.W.Frag) (mg : Str → Option Value) (base : Heap) (k : Nat) (f : Addr) (fd : FuncData) (ps : List Str) (sp : Sp) : Prop where
  len : ∀ vs H Q E, sp vs H Q E → vs.length = ps.length
  go : ∀ (A : Around) (l : List Env) (s : Shared) (H : Hp) (args : Args) (us : List Value) (vs : List V) (Q : VK) (E : XK), A.guards = some [] → Room k A → Env0 P w K mg base A l s H → BindsTo s fd args (ps.zip us) → Vals vs us → sp vs H Q E →
    codeAny (model P w) A (.call (.ref f) args) (CR (L2.CX P w) l P w H s Q E) s
theorem make_guards {A : Around} {C : Addr} {us : List Value} {kw : List (Str × Value)} (h : A.guards = some []) : (A.under (.builtin "type.__call__" ⟨.ref C :: us, kw⟩)).guards = some [] := by
  have e : (Code.builtin "type.__call__" ⟨.ref C :: us, kw⟩).isGuard = false := by
    first | rfl | simp [Code.isGuard, guardIds]
  show pushGuards (Code.builtin "type.__call__" ⟨.ref C :: us, kw⟩).guards A.guards = some []
  unfold Code.guards
  rw [e]
  exact h
section
variable {X : Cx} {k : Nat} {f : Addr} {fd : FuncData} {ps : List Str} {sp : Sp} {E : L2.St → XK} {x : Str} {p pos : Pos} {e : Expr} {es : List Expr} {t : TA}
/-- the end of a call, seen from the caller -/
def Seen (X : Cx) (pins : List (Addr × Obj)) (σ : L2.St) (Q : VK) (s' : Shared) : Result → Prop
  | .ok (.ret u) => EP X pins σ Q u s'
  | .error z => X.xe z s'
  | .ok _ => False
theorem cr_seen {pins : List (Addr × Obj)} {σ : L2.St} {H : Hp} {s s' : Shared} {Q : VK} {E : XK} {r : Result} (hx : PassesAt (L2.CX X.prog X.w) X σ E) (I : Inv X pins σ H s) (h : CR (L2.CX X.prog X.w) X.stack X.prog X.w H s Q E r s') :
    Seen X pins σ Q s' r := by
  match r, h with
  | .error z, h => exact hx pins H s z s' I h
  | .ok (.ret u), h => exact I.after h
  | .ok .next, h => exact h.elim
  | .ok .brk, h => exact h.elim
  | .ok .cont, h => exact h.elim
theorem run_fnG {pins : List (Addr × Obj)} {σ : L2.St} {H : Hp} {s : Shared} {Q : VK} {E : XK} {us : List Value} {vs : List V} (F : FnG X.prog X.w X.K X.mg X.base k f fd ps sp) (gd : X.A.guards = some []) (hr : Room k X.A) (hb : Binds X.K fd ps []) (hx : PassesAt (L2.CX X.prog X.w) X σ E)
    (I : Inv X pins σ H s) (r : Vals vs us) (h : sp vs H Q E) : wpAny (model X.prog X.w) X.A (call (.ref f) us) (EP X pins σ Q) X.xe s := by
  have n : (us ++ []).length = ps.length := by
    rw [List.append_nil, ← r.length]
    exact F.len _ _ _ _ h
  have b := hb s us I.kIn n
  rw [List.append_nil] at b
  refine wpAny_call (codeAny_mono (F.go X.A X.stack s H ⟨us, []⟩ us vs Q E gd hr I.env0 b r h) fun res s' q => ?_)
  have z := cr_seen hx I q
  cases res with
  | error y => exact z
  | ok fl => cases fl with
    | ret u => exact z
    | _ => exact z.elim
theorem pe_callG (F : FnG X.prog X.w X.K X.mg X.base k f fd ps sp) (gd : X.A.guards = some []) (hr : Room k X.A) (hg : Gl X x) (hm : X.mg x = some (.ref f)) (hk : PySem.W.keepIn X.K (.ref f) = true) (hb : Binds X.K fd ps []) (hx : ∀ σ, PassesAt (L2.CX X.prog X.w) X σ (E σ))
    (ha : PA X (e :: es) t) (hdb : (x == ("__debug__" : Str)) = false) (he : starEach (e :: es) X.env = (false, eval e X.env) :: starEach es X.env) (hpl : (backTo pos (starEach es X.env)).any (·.1) = false) :
    PE X (.Call (.Name x p) (e :: es) [] pos) (tCallS sp E t) := ⟨fun pins s σ H Q I h =>
  wpAny_Call_Name_kw (ld_glob I hg hm (PySem.W.callWith_K (h₀ := X.base) I.ok.mod.kin hk (thn (ha.run pos pins s σ H _ I h) fun us s1 ⟨vs, H1, I1, r, q⟩ => ⟨I1.kIn, run_fnG F gd hr hb (hx σ) I1 r q⟩) he hpl) hdb)⟩
end
/-- a def by its body -/
theorem fnG_of {P : Program} {w : World} {K : PySem.W.Frag} {mg : Str → Option Value} {base : Heap} {k : Nat} {f : Addr} {name qual : Str} {params : Arguments} {body : List Stmt} {scope : Scope} {dV kV doc pm cdv ct oc : Value} {an od : Option Addr}
    {osl : Array (Option Value)} {N ps : List Str} {sp : Sp} (lk : K.lookup f = some ⟨oc, od, .func (PySem.W.fnOf name qual params body scope dV kV doc pm an cdv ct), osl⟩) (hcd : PySem.W.codeIn K cdv qual = true) (S : FnScope N ps scope)
    (len : ∀ vs H Q E, sp vs H Q E → vs.length = ps.length)
    (hbody : ∀ (A : Around) (l : List Env) (s : Shared) (H : Hp) (vs : List V) (Q : VK) (E : XK), (A.deeper (envOfC qual scope s.heap.objs.size f cdv)).guards = some [] → Room k (A.deeper (envOfC qual scope s.heap.objs.size f cdv)) → sp vs H Q E →
      ∃ t, PSs (cxOf (L2.CX P w) P w K mg base N qual scope f cdv A l s H E) body t ∧ t { nx := fun _ H' => Q .non H', rt := Q } (start N vs) H) :
    FnG P w K mg base (k + 1) f (PySem.W.fnOf name qual params body scope dV kV doc pm an cdv ct) ps sp where
  len := len
  go := fun A l s H args us vs Q E gd room e0 bd r want => by
    have known : ∀ b o, base.get? b = some o → s.heap.get? b = some o := fun b o z => (e0.bs b o z).1
    have kin := e0.mod.kin.keeps known
    have cells : ∀ n ∈ ps.zip us, scope.names.lookup n.1 = some .local ∨ (scope.names.lookup n.1 = some .cell ∧ ((cellsFrom (s.heap.objs.size + 1) scope.names []).lookup n.1).isSome = true) := by
      intro n hn
      refine (S.par n.1 (List.of_mem_zip (a := n.1) (b := n.2) hn).1).imp id fun z => ⟨z, PySem.W.cellsFrom_some _ _ _ (.inl z)⟩
    refine codeAny_call_function room.depth (kin _ _ lk) rfl S.co S.gen rfl (PySem.W.codeRec_of kin hcd) (bd _ _ _ _ (wpAny_newFunctionEnv_cells S.kind cells fun env he s1 x => ?_))
    subst he
    refine ⟨(e0.mod.nolimit.keeps known).keeps x.toInCall.keep, codeAny_func ?_⟩
    obtain ⟨t, ht, go⟩ := hbody A l s H vs Q E gd (room.deeper _) want
    have I := inv_start (CX := L2.CX P w) (N := N) (E := E) (cd := cdv) S room.hd e0 (len _ _ _ _ want) r x
    refine wpAny_mono (ht.run [] s1 (start N vs) H _ I go) (fun fl s' z => ?_) fun _ _ z => z
    match fl, z with
    | .next, ⟨_, H', J, q⟩ => exact ⟨V.non, H', J.os, J.bare, J.base, J.hok, rfl, q⟩
    | .ret u, ⟨v, _, H', J, rv, q⟩ => exact ⟨v, H', J.os, J.bare, J.base, J.hok, rv, q⟩
    | .brk, ⟨_, _, _, q⟩ => exact q.elim
    | .cont, ⟨_, _, _, q⟩ => exact q.elim
end Dm

set_option Elab.async false
set_option linter.all false
set_option maxRecDepth 100000
set_option maxHeartbeats 4000000
set_option autoImplicit false
/-! Dm3: syntax seen as ours; the context. -/
namespace Dm
open PySem PySem.Spec PyProof.Rows L2

/-! ### views of a Python expression -/
def vName : Expr → Option Str
  | .Name x _ => some x
  | _ => none
def vConst : Expr → Option Const
  | .Constant c _ _ => some c
  | _ => none
def vBin : Expr → Option (Expr × Operator × Expr)
  | .BinOp a o b _ => some (a, o, b)
  | _ => none
def vUn : Expr → Option (UnaryOp × Expr)
  | .UnaryOp o a _ => some (o, a)
  | _ => none
def vCmp : Expr → Option (Expr × List CmpOp × List Expr)
  | .Compare a os bs _ => some (a, os, bs)
  | _ => none
def vBool : Expr → Option (BoolOp × List Expr × Pos)
  | .BoolOp o es p => some (o, es, p)
  | _ => none
def vIf : Expr → Option (Expr × Expr × Expr)
  | .IfExp c a b _ => some (c, a, b)
  | _ => none
def vTup : Expr → Option (List Expr)
  | .Tuple es _ _ => some es
  | _ => none
def vLst : Expr → Option (List Expr)
  | .List es _ => some es
  | _ => none
def vSub : Expr → Option (Expr × Expr)
  | .Subscript a b _ => some (a, b)
  | _ => none
def vSlc : Expr → Option (Option Expr × Option Expr)
  | .Slice lo hi none _ => some (lo, hi)
  | _ => none
def vCall : Expr → Option (Expr × List Expr × Pos)
  | .Call f es [] p => some (f, es, p)
  | _ => none
def vAttr : Expr → Option (Expr × Str × Pos)
  | .Attribute a n p => some (a, n, p)
  | _ => none
def vComp : Expr → Option (Expr × Expr × Expr × List Expr × Scope)
  | .ListComp e [g] sc _ => if g.is_async = 0 then some (e, g.target, g.iter, g.ifs, sc) else none
  | _ => none
theorem vName_ok {e : Expr} {x : Str} (h : vName e = some x) : ∃ p, e = .Name x p := by
  cases e <;> first | cases h; exact ⟨_, rfl⟩ | cases h
theorem vConst_ok {e : Expr} {c : Const} (h : vConst e = some c) : ∃ k p, e = .Constant c k p := by
  cases e <;> first | cases h; exact ⟨_, _, rfl⟩ | cases h
theorem vBin_ok {e a b : Expr} {o : Operator} (h : vBin e = some (a, o, b)) : ∃ p, e = .BinOp a o b p := by
  cases e <;> first | cases h; exact ⟨_, rfl⟩ | cases h
theorem vUn_ok {e a : Expr} {o : UnaryOp} (h : vUn e = some (o, a)) : ∃ p, e = .UnaryOp o a p := by
  cases e <;> first | cases h; exact ⟨_, rfl⟩ | cases h
theorem vCmp_ok {e a : Expr} {os : List CmpOp} {bs : List Expr} (h : vCmp e = some (a, os, bs)) : ∃ p, e = .Compare a os bs p := by
  cases e <;> first | cases h; exact ⟨_, rfl⟩ | cases h
theorem vBool_ok {e : Expr} {o : BoolOp} {es : List Expr} {p : Pos} (h : vBool e = some (o, es, p)) : e = .BoolOp o es p := by
  cases e <;> first | cases h; rfl | cases h
theorem vIf_ok {e a b c : Expr} (h : vIf e = some (c, a, b)) : ∃ p, e = .IfExp c a b p := by
  cases e <;> first | cases h; exact ⟨_, rfl⟩ | cases h
theorem vTup_ok {e : Expr} {es : List Expr} (h : vTup e = some es) : ∃ k p, e = .Tuple es k p := by
  cases e <;> first | cases h; exact ⟨_, _, rfl⟩ | cases h
theorem vLst_ok {e : Expr} {es : List Expr} (h : vLst e = some es) : ∃ p, e = .List es p := by
  cases e <;> first | cases h; exact ⟨_, rfl⟩ | cases h
theorem vSub_ok {e a b : Expr} (h : vSub e = some (a, b)) : ∃ p, e = .Subscript a b p := by
  cases e <;> first | cases h; exact ⟨_, rfl⟩ | cases h
theorem vSlc_ok {e : Expr} {lo hi : Option Expr} (h : vSlc e = some (lo, hi)) : ∃ p, e = .Slice lo hi none p := by
  cases e with
  | Slice a b c p =>
    cases c with
    | none => cases h; exact ⟨_, rfl⟩
    | some c => cases h
  | _ => cases h
theorem vCall_ok {e f : Expr} {es : List Expr} {p : Pos} (h : vCall e = some (f, es, p)) : e = .Call f es [] p := by
  cases e with
  | Call f es ks p =>
    cases ks with
    | nil => cases h; rfl
    | cons _ _ => cases h
  | _ => cases h
theorem vAttr_ok {e a : Expr} {n : Str} {p : Pos} (h : vAttr e = some (a, n, p)) : e = .Attribute a n p := by
  cases e <;> first | cases h; rfl | cases h
theorem vComp_ok {e elt t it : Expr} {ifs : List Expr} {sc : Scope} (h : vComp e = some (elt, t, it, ifs, sc)) : ∃ p, e = .ListComp elt [⟨t, it, ifs, 0⟩] sc p := by
  cases e with
  | ListComp elt gs sc p =>
    cases gs with
    | nil => cases h
    | cons g r =>
      cases r with
      | nil =>
        obtain ⟨t, it, ifs, n⟩ := g
        simp only [vComp] at h
        split at h
        · rename_i hn
          cases hn
          cases h
          exact ⟨_, rfl⟩
        · cases h
      | cons _ _ => cases h
  | _ => cases h

/-- no star, no display of a set, no comprehension, no bare slice -/
def noStar : Expr → Bool
  | .Starred _ _ => false
  | _ => true
def plainT : Expr → Bool
  | .UnaryOp .Not _ _ => false
  | .BoolOp _ _ _ => false
  | .IfExp _ _ _ _ => false
  | .Compare _ _ _ _ => false
  | _ => true
def noSlice : Expr → Bool
  | .Slice _ _ none _ => false
  | _ => true
def noSet : Expr → Bool
  | .Set _ _ _ => false
  | _ => true
def noCall0 : Expr → Bool
  | .Call (.Name _ _) [] [] _ => false
  | _ => true
def noComp : Expr → Bool
  | .ListComp _ _ _ _ => false
  | .SetComp _ _ _ _ => false
  | .DictComp _ _ _ _ _ => false
  | _ => true
theorem star_cons {e : Expr} {es : List Expr} {env : Env} (h : noStar e = true) : starEach (e :: es) env = (false, eval e env) :: starEach es env := by
  cases e <;> first | rfl | cases h
theorem star_back {es : List Expr} {env : Env} {pos : Pos} (h : es.all noStar = true) : (backTo pos (starEach es env)).any (·.1) = false := by
  induction es with
  | nil => rfl
  | cons e es ih =>
    rw [List.all_cons, Bool.and_eq_true] at h
    rw [star_cons h.1]
    exact ih h.2
theorem star_all {es : List Expr} {env : Env} {pos : Pos} (h : es.all noStar = true) : (backTo pos (starEach es env)).all (fun x => !x.1) = true := by
  induction es with
  | nil => rfl
  | cons e es ih =>
    rw [List.all_cons, Bool.and_eq_true] at h
    rw [star_cons h.1]
    exact ih h.2
theorem plain_true {e : Expr} {env : Env} (h : plainT e = true) : ∀ whole, isTrue e env whole = (do let v ← whole; standAt e.pos; holding [v] (truthy v)) := by
  intro whole
  cases e with
  | UnaryOp o a p => cases o <;> first | rfl | cases h
  | BoolOp _ _ _ => cases h
  | IfExp _ _ _ _ => cases h
  | Compare _ _ _ _ => cases h
  | _ => rfl
theorem no_slice {e : Expr} (h : noSlice e = true) : PlainIx e := by
  intro o i
  cases e with
  | Slice a b c p =>
    cases c with
    | none => cases h
    | some c => rfl
  | _ => rfl
theorem no_fold {e : Expr} {env : Env} (h : noSet e = true) : ∀ x, foldedSetIterable e env x = pure x := by
  intro x
  cases e <;> first | rfl | cases h
theorem no_base {o : Expr} {m : Str} {env : Env} {whole : Sem Value} (h : noCall0 o = true) : attributeBase o m env whole = whole := by
  cases o with
  | Call f es ks p =>
    cases f with
    | Name x q =>
      cases es with
      | nil =>
        cases ks with
        | nil => cases h
        | cons _ _ => rfl
      | cons _ _ => rfl
    | _ => rfl
  | _ => rfl
theorem no_swap {e : Expr} {t : Option Expr} {n : Nat} {env : Env} (h : noComp e = true) : swapsWith e t n env = pure false := by
  cases e <;> first | rfl | cases h
theorem no_mark {o : CmpOp} {e : Expr} (h : noSet e = true) : behindInMarks o e = false := by
  cases e <;> first | rfl | cases h

/-! ### where one stands -/
structure Mx where
  N : List Str
  sc : Scope
  fnc : Str → Bool
  nm : Nat → Option (Str × Nat)
  gl : Str → Option Cn
  lam : Bool
  ex : List Nat
  mt : Nat → Option (Nat × Str × Nat)
  cls : List Nat
  fls : List Str
def Mx.blk (m : Mx) (scope : Scope) : Mx := { m with sc := relS scope m.sc, fnc := (fun x => scope.names.lookup x == some .cell), lam := false }
def visB (sc : Scope) (x : Str) : Bool := sc.names.lookup x == some .local || sc.names.lookup x == some .cell || sc.names.lookup x == some .free
def okNm (x : Str) : Bool := !(x == ("__debug__" : Str)) && !(x == ("__classdict__" : Str))
/-- a name that is read -/
def rdB (m : Mx) (i : Nat) (x : Str) : Bool := decide (m.N[i]? = some x) && visB m.sc x && okNm x
/-- a name that is stored -/
def stB (m : Mx) (i : Nat) (x : Str) : Bool := decide (m.N[i]? = some x) && (m.sc.names.lookup x == some .local || (m.sc.names.lookup x == some .cell && m.fnc x))
def glB (m : Mx) (x : Str) : Bool := (m.sc.names.lookup x == some .globalImplicit) && okNm x && !(x == ("__name__" : Str))
/-- the built-in names that the layer calls -/
def bltNames : List Str := ["len", "abs", "int", "str", "list", "tuple", "sorted", "sum", "max", "min", "all", "any", "isinstance", "bool", "range", "enumerate", "zip", "reversed", "set", "repr"]
def cnV : Cn → V
  | .non => .non
  | .bl b => .bl b
  | .int i => .int i
  | .str x => .str x
/-- the cells at l hold m -/
structure Mem (K : PySem.W.Frag) (H : Hp) (l : List Addr) (m : List Cell) : Prop where
  nd : l.Nodup
  ml : l.length = m.length
  tr : ∀ a ∈ l, ∃ o, H a = some o
  cells : ∀ (n : Nat) (a : Addr) (c : Cell), l[n]? = some a → m[n]? = some c → CellRep K H l a c
  tb : ∀ P q, TQ K P q → LamX.TabS H P q
/-- what a callee leaves as it is: all but the cells and the tables -/
def Kpc (l : List Addr) (H : Hp) : Hp := fun p => if p ∈ l then none else noTb H p
structure Keep (Kp H' : Hp) (l' : List Addr) : Prop where
  kp : ∀ (p : Addr) (o : HO), Kp p = some o → H' p = some o
  kc : ∀ a ∈ l', Kp a = none
/-- a def's value -/
def RvC (K : PySem.W.Frag) (H H' : Hp) (l' : List Addr) : EV → V → Prop
  | .val d, v => Rep K H' l' d v
  | .own xs, v => ∃ p vs, v = .ref p ∧ H' p = some (.lst vs) ∧ Reps K H' l' xs vs ∧ noTb H p = none ∧ p ∉ l'
/-- what a def promises: what the interpreter says -/
def spOf (K : PySem.W.Frag) (cl : Nat → Addr) (n : Nat) (f : List D → List Cell → FO) : Sp := fun vs H Q E => vs.length = n ∧ ∃ ds m l, Reps K H l ds vs ∧ Mem K H l m ∧
  match f ds m with
  | .ok r m' => ∀ v H' l', Per H H' → l <+: l' → Mem K H' l' m' → Keep (Kpc l H) H' l' → RvC K H H' l' r v → Q v H'
  | .exc x m' => ∀ cls d H' l', Per H H' → l <+: l' → Mem K H' l' m' → Keep (Kpc l H) H' l' → XR cl x cls d H' → E cls d H'
  | .err => False
/-- what the text says of a class of exceptions: asked by isinstance, raised -/
def ecB (K : PySem.W.Frag) (D : Addr) : Bool := He.eqO (PySem.W.findIn K (.ref D) "__getattribute__") (some (some (.builtin "BaseException.__getattribute__"))) && He.eqO (PySem.W.findIn K (.ref D) "__getattr__") (some none) && decide (PySem.W.subIn K (.ref D) (.type "BaseException") = some true) &&
  PySem.W.hasDictIn K D && He.eqO (PySem.W.findIn K (.ref D) "__class__") (some (some (.builtin "object.__class__"))) && He.eqO (PySem.W.specialIn K (.builtin "object.__class__") "__get__") (some (some (.builtin "getset_descriptor.__get__"))) &&
  decide (PySem.W.takesIn K (.builtin "object.__class__") = some true) && decide (PySem.W.mroIn K D (.type "object") = some true)
/-- the classes cs of the text: those of 1, 2, 3 can be raised and asked, of them and of None each is asked -/
def exB (K : PySem.W.Frag) (cs : List Nat) : Bool := (cs.all fun c => !([1, 2, 3].contains c) || ((He.Fa.exc (exN c)).ok K && ecB K (clA K c) && cs.all fun t => decide (PySem.W.kitOne K (.ref (clA K c)) (clV K t) = some (subX c t)) && (t == 5 || decide (PySem.W.exmOne K (.ref (clA K c)) (.ref (clA K t)) = some (subX c t))))) &&
  cs.all fun t => decide (PySem.W.kitOne K (.type "NoneType") (clV K t) = some false)
structure ExF (K : PySem.W.Frag) (mg : Str → Option Value) (cs : List Nat) : Prop where
  gl : ∀ c ∈ cs, c ≠ 5 → mg (exN c) = some (.ref (clA K c))
  bl : 5 ∈ cs → mg "ValueError" = none
  ok : exB K cs = true
structure Cxt (X : Cx) (m : Mx) (W : WX) (cl : Nat → Addr) (k : Nat) (Phi : Fns) : Prop where
  N : X.N = m.N
  sc : X.env.scope = m.sc
  fn : X.fn = m.fnc
  calm : X.calm = true
  nd : X.N.Nodup
  gd : X.A.guards = some []
  room : Room (2 * k + 1) X.A
  tk : Takes X W
  blt : ∀ x ∈ bltNames, X.mg x = none
  gl : ∀ x c, m.gl x = some c → ∃ u, X.mg x = some u ∧ RelV (cnV c) u
  ex : ExF X.K X.mg m.ex ∧ cl = clA X.K
  fns : ∀ f x n, m.nm f = some (x, n) → ∃ (j : Nat) (a : Addr) (fd : FuncData) (ps : List Str), j ≤ 2 * k ∧ ps.length = n ∧ X.mg x = some (.ref a) ∧ PySem.W.keepIn X.K (.ref a) = true ∧ Binds X.K fd ps [] ∧ FnG X.prog X.w X.K X.mg X.base j a fd ps (spOf X.K cl ps.length (Phi f))
  mts : ∀ f c x n, m.mt f = some (c, x, n) → ∃ (a : Addr) (fd : FuncData) (ps : List Str), ps.length = n ∧ Cls X.K (csA X.K c) ∧ Meth X.K (csA X.K c) x a ∧ (x = "__init__" → Mk X.K (csA X.K c) a ∧ X.mg (csN c) = some (.ref (csA X.K c))) ∧ Binds X.K fd ps [] ∧ FnG X.prog X.w X.K X.mg X.base (2 * k) a fd ps (spOf X.K cl ps.length (Phi f))
  fld : ∀ c ∈ m.cls, Cls X.K (csA X.K c) ∧ ∀ f ∈ m.fls, NoAttr X.K (csA X.K c) f
  lam : m.lam = true → ∃ c P, X.env.code = .ref c ∧ LamX.TabB X.base X.mg c P ∧ TQ X.K P (X.env.qual ++ "<lambda>") ∧ ∀ P' q', TQ X.K P' q' → P' = P ∧ q' = X.env.qual ++ "<lambda>"
section
variable {X : Cx} {m : Mx} {W : WX} {cl : Nat → Addr} {k : Nat} {Phi : Fns}
theorem Cxt.rd (c : Cxt X m W cl k Phi) {i : Nat} {x : Str} {p : Pos} (h : rdB m i x = true) : PE X (.Name x p) (tVar i) := by
  unfold rdB okNm visB at h
  simp only [Bool.and_eq_true, Bool.or_eq_true, beq_iff_eq, Bool.not_eq_true', decide_eq_true_eq] at h
  obtain ⟨⟨h1, h2⟩, h3, h4⟩ := h
  refine pe_var (by rw [c.N]; exact h1) ?_ h3 h4
  rw [c.sc]
  rcases h2 with (h2 | h2) | h2
  · exact .inl h2
  · exact .inr (.inl h2)
  · exact .inr (.inr h2)
theorem Cxt.glb (c : Cxt X m W cl k Phi) {x : Str} (h : glB m x = true) : Gl X x ∧ (x == ("__debug__" : Str)) = false ∧ x ≠ "__name__" := by
  unfold glB okNm at h
  simp only [Bool.and_eq_true, beq_iff_eq, Bool.not_eq_true'] at h
  refine ⟨?_, h.1.2.1, beq_eq_false_iff_ne.mp h.2⟩
  show X.env.scope.names.lookup x = _
  rw [c.sc]
  exact h.1.1
theorem Cxt.st (c : Cxt X m W cl k Phi) {i : Nat} {x : Str} (h : stB m i x = true) : X.N[i]? = some x ∧ Loc X.env.scope x ∧ (X.fn x = true ∨ X.env.scope.names.lookup x = some .local) := by
  unfold stB at h
  simp only [Bool.and_eq_true, Bool.or_eq_true, beq_iff_eq, decide_eq_true_eq] at h
  obtain ⟨h1, h2⟩ := h
  rw [c.N, c.sc, c.fn]
  refine ⟨h1, ?_, ?_⟩
  · rcases h2 with h2 | h2
    · exact .inl h2
    · exact .inr h2.1
  · rcases h2 with h2 | h2
    · exact .inr h2
    · exact .inl h2.2
theorem relab_eq (scope : Scope) (env : Env) : relabel scope env = relS scope env.scope := rfl
/-- the context of a comprehension's block -/
theorem Cxt.blk (c : Cxt X m W cl k Phi) (s : Shared) (H : Hp) (scope : Scope) (C : Addr) (cells : List (Str × Addr)) (fp : List Addr) :
    Cxt (X.blk s H scope (compEnvC scope cells C X.env) fp) (m.blk scope) (fun _ _ _ _ => False) cl k Phi where
  N := c.N
  sc := by
    show relabel scope X.env = relS scope m.sc
    rw [relab_eq, c.sc]
  fn := rfl
  calm := c.calm
  nd := c.nd
  gd := c.gd
  room := c.room
  tk := fun u s' h => by
    obtain ⟨_, _, _, _, _, _, _, _, _, _, _, _, _, _, _, _, w⟩ := h
    exact w.elim
  blt := c.blt
  gl := c.gl
  ex := c.ex
  fns := c.fns
  mts := c.mts
  fld := c.fld
  lam := fun h => by cases h
end
end Dm

set_option Elab.async false
set_option linter.all false
set_option maxRecDepth 100000
set_option maxHeartbeats 4000000
set_option autoImplicit false
/-! Dm4: the constructs, one by one. -/
namespace Dm
open PySem PySem.Spec PyProof.Rows L2

theorem set_get {α : Type} {xs : List α} {i j : Nat} {x : α} {o : α} (h : (xs.set i x)[j]? = some o) : (i = j ∧ o = x) ∨ (i ≠ j ∧ xs[j]? = some o) := by
  rw [List.getElem?_set] at h
  split at h
  · rename_i e
    split at h
    · exact .inl ⟨e, (Option.some.inj h).symm⟩
    · cases h
  · rename_i e
    exact .inr ⟨e, h⟩
section
variable {K : PySem.W.Frag} {Kp : Hp} {σ : Sl} {H : Hp} {l : List Addr} {st : Sta}
/-- a slot is given up -/
theorem Rel.drop (R : Rel K Kp σ H l st) (i : Nat) : Rel K Kp σ H l { st with env := st.env.set i none } where
  ln := by rw [List.length_set]; exact R.ln
  nd := R.nd
  ml := R.ml
  tr := R.tr
  kp := R.kp
  kc := R.kc
  kt := R.kt
  tb := R.tb
  cells := R.cells
  slots := fun j e h => by
    rcases set_get h with ⟨_, e2⟩ | ⟨_, e2⟩
    · cases e2
    · exact R.slots j e e2
  own := fun j xs p h => by
    rcases set_get h with ⟨_, e2⟩ | ⟨_, e2⟩
    · cases e2
    · exact R.own j xs p e2
  dist := fun j j' xs ys p h h' => by
    rcases set_get h with ⟨_, e2⟩ | ⟨_, e2⟩
    · cases e2
    · rcases set_get h' with ⟨_, e3⟩ | ⟨_, e3⟩
      · cases e3
      · exact R.dist j j' xs ys p e2 e3
/-- a slot's value is told (the slot holds it) -/
theorem Rel.tell (R : Rel K Kp σ H l st) {i : Nat} {v : V} {d : D} (hv : σ[i]? = some (some v)) (r : Rep K H l d v) : Rel K Kp σ H l { st with env := st.env.set i (some (.val d)) } where
  ln := by rw [List.length_set]; exact R.ln
  nd := R.nd
  ml := R.ml
  tr := R.tr
  kp := R.kp
  kc := R.kc
  kt := R.kt
  tb := R.tb
  cells := R.cells
  slots := fun j e h => by
    rcases set_get h with ⟨e1, e2⟩ | ⟨_, e2⟩
    · cases e2
      subst e1
      exact ⟨v, hv, r⟩
    · exact R.slots j e e2
  own := fun j xs p h => by
    rcases set_get h with ⟨_, e2⟩ | ⟨_, e2⟩
    · cases e2
    · exact R.own j xs p e2
  dist := fun j j' xs ys p h h' => by
    rcases set_get h with ⟨_, e2⟩ | ⟨_, e2⟩
    · cases e2
    · rcases set_get h' with ⟨_, e3⟩ | ⟨_, e3⟩
      · cases e3
      · exact R.dist j j' xs ys p e2 e3
/-- a slot is stored -/
theorem Rel.put (R : Rel K Kp σ H l st) {i : Nat} (hi : i < st.env.length) {v : V} {d : D} (r : Rep K H l d v) : Rel K Kp (σ.set i (some v)) H l { st with env := st.env.set i (some (.val d)) } where
  ln := by rw [List.length_set, List.length_set]; exact R.ln
  nd := R.nd
  ml := R.ml
  tr := R.tr
  kp := R.kp
  kc := R.kc
  kt := R.kt
  tb := R.tb
  cells := R.cells
  slots := fun j e h => by
    rcases set_get h with ⟨e1, e2⟩ | ⟨e1, e2⟩
    · cases e2
      subst e1
      exact ⟨v, by rw [List.getElem?_set_self (by rw [← R.ln]; exact hi)], r⟩
    · have q := R.slots j e e2
      cases e with
      | val d =>
        obtain ⟨w, h1, h2⟩ := q
        exact ⟨w, by rw [List.getElem?_set_ne e1]; exact h1, h2⟩
      | own xs =>
        obtain ⟨p, vs, h1, h2⟩ := q
        exact ⟨p, vs, by rw [List.getElem?_set_ne e1]; exact h1, h2⟩
  own := fun j xs p h => by
    rcases set_get h with ⟨_, e2⟩ | ⟨e1, e2⟩
    · cases e2
    · rw [List.getElem?_set_ne e1]
      exact R.own j xs p e2
  dist := fun j j' xs ys p h h' => by
    rcases set_get h with ⟨_, e2⟩ | ⟨e1, e2⟩
    · cases e2
    · rcases set_get h' with ⟨_, e3⟩ | ⟨e4, e3⟩
      · cases e3
      · rw [List.getElem?_set_ne e1, List.getElem?_set_ne e4]
        exact R.dist j j' xs ys p e2 e3
/-- a slot is stored a list that nobody else holds -/
theorem Rel.putOwn (R : Rel K Kp σ H l st) {i : Nat} (hi : i < st.env.length) {v : V} {xs : List D} (r : RvR K Kp σ H l st (.own xs) v) : Rel K Kp (σ.set i (some v)) H l { st with env := st.env.set i (some (.own xs)) } := by
  obtain ⟨p, vs, rfl, h1, h2, h3, h4, h5⟩ := r
  have hσ : i < σ.length := by rw [← R.ln]; exact hi
  exact {
    ln := by rw [List.length_set, List.length_set]; exact R.ln
    nd := R.nd
    ml := R.ml
    tr := R.tr
    kp := R.kp
    kc := R.kc
    kt := R.kt
    tb := R.tb
    cells := R.cells
    slots := fun j e h => by
      rcases set_get h with ⟨e1, e2⟩ | ⟨e1, e2⟩
      · cases e2
        subst e1
        exact ⟨p, vs, by rw [List.getElem?_set_self hσ], h1, h2⟩
      · have q := R.slots j e e2
        cases e with
        | val d =>
          obtain ⟨w, g1, g2⟩ := q
          exact ⟨w, by rw [List.getElem?_set_ne e1]; exact g1, g2⟩
        | own xs =>
          obtain ⟨p, vs, g1, g2⟩ := q
          exact ⟨p, vs, by rw [List.getElem?_set_ne e1]; exact g1, g2⟩
    own := fun j ys q h hq => by
      rcases set_get h with ⟨e1, e2⟩ | ⟨e1, e2⟩
      · subst e1
        rw [List.getElem?_set_self hσ] at hq
        cases hq
        exact ⟨h3, h4⟩
      · rw [List.getElem?_set_ne e1] at hq
        exact R.own j ys q e2 hq
    dist := fun j j' ys zs q h h' hne hq => by
      rcases set_get h with ⟨e1, e2⟩ | ⟨e1, e2⟩
      · subst e1
        rw [List.getElem?_set_self hσ] at hq
        cases hq
        rcases set_get h' with ⟨e3, e4⟩ | ⟨e3, e4⟩
        · exact absurd e3 hne
        · rw [List.getElem?_set_ne e3]
          exact h5 j' zs e4
      · rw [List.getElem?_set_ne e1] at hq
        rcases set_get h' with ⟨e3, e4⟩ | ⟨e3, e4⟩
        · subst e3
          rw [List.getElem?_set_self hσ]
          intro z
          cases z
          exact h5 j ys e2 hq
        · rw [List.getElem?_set_ne e3]
          exact R.dist j j' ys zs q e2 e4 hne hq }
theorem Rel.lt (R : Rel K Kp σ H l st) {i : Nat} {e : EV} (h : st.env[i]? = some (some e)) : i < st.env.length := (List.getElem?_eq_some_iff.mp h).1
/-- the list at a slot is nobody else's -/
theorem Rel.ownR (R : Rel K Kp σ H l st) {i : Nat} {xs : List D} (h : st.env[i]? = some (some (.own xs))) :
    ∃ p vs, σ[i]? = some (some (.ref p)) ∧ H p = some (.lst vs) ∧ Reps K H l xs vs ∧ Kp p = none ∧ p ∉ l ∧ ∀ (j : Nat) (ys : List D), j ≠ i → st.env[j]? = some (some (EV.own ys)) → σ[j]? ≠ some (some (V.ref p)) := by
  obtain ⟨p, vs, h1, h2, h3⟩ := R.slots i _ h
  obtain ⟨h4, h5⟩ := R.own i xs p h h1
  exact ⟨p, vs, h1, h2, h3, h4, h5, fun j ys hne hj => R.dist i j xs ys p h hj hne.symm h1⟩
/-- the list at a slot is written -/
theorem Rel.write (R : Rel K Kp σ H l st) {i : Nat} {xs ys : List D} {p : Addr} {vs ws : List V} (h : st.env[i]? = some (some (.own xs))) (h1 : σ[i]? = some (some (.ref p))) (h2 : H p = some (.lst vs)) (r : Reps K H l ys ws) :
    Rel K Kp σ (upd H p (.lst ws)) l { st with env := st.env.set i (some (.own ys)) } := by
  obtain ⟨h4, h5⟩ := R.own i xs p h h1
  have pe : Per H (upd H p (.lst ws)) := .lst h2
  have nl : ∀ a ∈ l, a ≠ p := fun a m e => h5 (e ▸ m)
  have hi := R.lt h
  exact {
    ln := by rw [List.length_set]; exact R.ln
    nd := R.nd
    ml := R.ml
    tr := fun a m => by
      obtain ⟨u, e⟩ := R.tr a m
      exact ⟨u, by rw [upd_ne (nl a m)]; exact e⟩
    kp := fun q u e => by
      rw [upd_ne (fun z => by rw [z, h4] at e; cases e)]
      exact R.kp q u e
    kc := R.kc
    kt := R.kt
    tb := fun P q h => tabS_lst (R.tb P q h) h2
    cells := fun n a c e1 e2 => (R.cells n a c e1 e2).mono pe (List.prefix_refl _) fun vs' e _ => by
      rw [upd_ne (nl a (List.mem_of_getElem? e1))]
      exact e
    slots := fun j e hj => by
      rcases set_get hj with ⟨e1, e2⟩ | ⟨e1, e2⟩
      · cases e2
        subst e1
        exact ⟨p, ws, h1, upd_same, r.mono pe (List.prefix_refl _)⟩
      · have q := R.slots j e e2
        cases e with
        | val d =>
          obtain ⟨w, g1, g2⟩ := q
          exact ⟨w, g1, g2.mono pe (List.prefix_refl _)⟩
        | own zs =>
          obtain ⟨q, us, g1, g2, g3⟩ := q
          exact ⟨q, us, g1, by rw [upd_ne (show q ≠ p from fun z => R.dist i j xs zs p h e2 e1 h1 (by rw [← z]; exact g1))]; exact g2, g3.mono pe (List.prefix_refl _)⟩
    own := fun j zs q hj hq => by
      rcases set_get hj with ⟨e1, e2⟩ | ⟨e1, e2⟩
      · subst e1
        rw [h1] at hq
        cases hq
        exact ⟨h4, h5⟩
      · exact R.own j zs q e2 hq
    dist := fun j j' us zs q hj hj' hne hq => by
      rcases set_get hj with ⟨e1, e2⟩ | ⟨e1, e2⟩
      · subst e1
        rcases set_get hj' with ⟨e3, e4⟩ | ⟨e3, e4⟩
        · exact absurd e3 hne
        · exact R.dist i j' xs zs q h e4 hne hq
      · rcases set_get hj' with ⟨e3, e4⟩ | ⟨e3, e4⟩
        · subst e3
          exact R.dist j i us xs q e2 h hne hq
        · exact R.dist j j' us zs q e2 e4 hne hq }
/-- a cell is written -/
theorem Rel.wcell (R : Rel K Kp σ H l st) {n : Nat} {ys : List D} {p : Addr} {vs ws : List V} (h : l[n]? = some p) (h2 : H p = some (.lst vs)) (r : Reps K H l ys ws) :
    Rel K Kp σ (upd H p (.lst ws)) l { st with mem := st.mem.set n (.lst ys) } := by
  have pe : Per H (upd H p (.lst ws)) := .lst h2
  have hm := List.mem_of_getElem? h
  exact {
    ln := R.ln
    nd := R.nd
    ml := by rw [List.length_set]; exact R.ml
    tr := fun a m => by
      by_cases e : a = p
      · exact ⟨_, by rw [e]; exact upd_same⟩
      · obtain ⟨u, e2⟩ := R.tr a m
        exact ⟨u, by rw [upd_ne e]; exact e2⟩
    kp := fun q u e => by
      rw [upd_ne (fun z => by rw [z, R.kc p hm] at e; cases e)]
      exact R.kp q u e
    kc := R.kc
    kt := R.kt
    tb := fun P q h => tabS_lst (R.tb P q h) h2
    cells := fun j a c e1 e2 => by
      rcases set_get e2 with ⟨e3, e4⟩ | ⟨e3, e4⟩
      · subst e3 e4
        rw [h] at e1
        cases e1
        exact ⟨ws, upd_same, r.mono pe (List.prefix_refl _)⟩
      · have ne : a ≠ p := fun z => by
          subst z
          have hn := (List.getElem?_eq_some_iff.mp h)
          have hj := (List.getElem?_eq_some_iff.mp e1)
          obtain ⟨hn1, hn2⟩ := hn
          obtain ⟨hj1, hj2⟩ := hj
          exact e3 ((List.getElem_inj R.nd).mp (hn2.trans hj2.symm))
        exact (R.cells j a c e1 e4).mono pe (List.prefix_refl _) fun vs' e _ => by rw [upd_ne ne]; exact e
    slots := fun j e hj => by
      have q := R.slots j e hj
      cases e with
      | val d =>
        obtain ⟨w, g1, g2⟩ := q
        exact ⟨w, g1, g2.mono pe (List.prefix_refl _)⟩
      | own zs =>
        obtain ⟨q, us, g1, g2, g3⟩ := q
        exact ⟨q, us, g1, by rw [upd_ne (show q ≠ p from fun z => (R.own j zs q hj g1).2 (by rw [z]; exact hm))]; exact g2, g3.mono pe (List.prefix_refl _)⟩
    own := R.own
    dist := R.dist }
/-- a list that nobody holds becomes a cell -/
theorem Rel.ncell (R : Rel K Kp σ H l st) {v : V} {xs : List D} (r : RvR K Kp σ H l st (.own xs) v) : ∃ p, v = .ref p ∧ Rel K Kp σ H (l ++ [p]) { st with mem := st.mem ++ [.lst xs] } ∧ Rep K H (l ++ [p]) (.cel st.mem.length) v := by
  obtain ⟨p, vs, rfl, h1, h2, h3, h4, h5⟩ := r
  have pre : l <+: l ++ [p] := List.prefix_append _ _
  refine ⟨p, rfl, ?_, p, rfl, by rw [← R.ml]; simp⟩
  exact {
    ln := R.ln
    nd := by
      rw [List.nodup_append]
      exact ⟨R.nd, by simp, fun a m b hb e => by
        have : b = p := by simpa using hb
        subst this
        subst e
        exact h4 m⟩
    ml := by simp [R.ml]
    tr := fun a m => by
      rcases List.mem_append.mp m with m | m
      · exact R.tr a m
      · have : a = p := by simpa using m
        exact ⟨_, by rw [this]; exact h1⟩
    kp := R.kp
    kc := fun a m => by
      rcases List.mem_append.mp m with m | m
      · exact R.kc a m
      · have : a = p := by simpa using m
        rw [this]; exact h3
    kt := R.kt
    tb := R.tb
    cells := fun n a c e1 e2 => by
      by_cases hn : n < l.length
      · rw [List.getElem?_append_left hn] at e1
        rw [List.getElem?_append_left (by rw [← R.ml]; exact hn)] at e2
        exact (R.cells n a c e1 e2).mono .refl pre fun _ e _ => e
      · have hn' : n < (l ++ [p]).length := (List.getElem?_eq_some_iff.mp e1).1
        have : n = l.length := by
          rw [List.length_append, List.length_singleton] at hn'
          omega
        subst this
        rw [R.ml] at e2
        simp at e1 e2
        subst e1 e2
        exact ⟨vs, h1, h2.mono .refl pre⟩
    slots := fun j e hj => by
      have q := R.slots j e hj
      cases e with
      | val d =>
        obtain ⟨w, g1, g2⟩ := q
        exact ⟨w, g1, g2.mono .refl pre⟩
      | own zs =>
        obtain ⟨q, us, g1, g2, g3⟩ := q
        exact ⟨q, us, g1, g2, g3.mono .refl pre⟩
    own := fun j zs q hj hq => by
      obtain ⟨g1, g2⟩ := R.own j zs q hj hq
      refine ⟨g1, fun m => ?_⟩
      rcases List.mem_append.mp m with m | m
      · exact g2 m
      · have : q = p := by simpa using m
        subst this
        exact h5 j zs hj hq
    dist := R.dist }
theorem Rel.mem (R : Rel K Kp σ H l st) : Mem K H l st.mem := ⟨R.nd, R.ml, R.tr, R.cells, R.tb⟩
/-- behind a callee -/
theorem Rel.callee (R : Rel K Kp σ H l st) {H' : Hp} {l' : List Addr} {m' : List Cell} (pe : Per H H') (hl : l <+: l') (M : Mem K H' l' m') (Ke : Keep (Kpc l H) H' l') : Rel K Kp σ H' l' { st with mem := m' } where
  ln := R.ln
  nd := M.nd
  ml := M.ml
  tr := M.tr
  kp := fun p o e => by
    refine Ke.kp p o ?_
    unfold Kpc
    rw [if_neg (fun m => by rw [R.kc p m] at e; cases e)]
    exact noTb_of (R.kp p o e) fun ps z => R.kt p ps (by rw [e, z])
  kc := fun a m => by
    have q := Ke.kc a m
    unfold Kpc at q
    split at q
    · rename_i hm
      exact R.kc a hm
    · cases e : Kp a with
      | none => rfl
      | some o =>
        rw [noTb_of (R.kp a o e) fun ps z => R.kt a ps (by rw [e, z])] at q
        cases q
  kt := R.kt
  tb := M.tb
  cells := M.cells
  slots := fun j e hj => by
    have q := R.slots j e hj
    cases e with
    | val d =>
      obtain ⟨w, g1, g2⟩ := q
      exact ⟨w, g1, g2.mono pe hl⟩
    | own zs =>
      obtain ⟨q, us, g1, g2, g3⟩ := q
      refine ⟨q, us, g1, Ke.kp q _ ?_, g3.mono pe hl⟩
      unfold Kpc
      rw [if_neg (R.own j zs q hj g1).2]
      exact noTb_of g2 fun _ z => by cases z
  own := fun j zs q hj hq => by
    obtain ⟨g1, g2⟩ := R.own j zs q hj hq
    refine ⟨g1, fun m => ?_⟩
    have z := Ke.kc q m
    unfold Kpc at z
    rw [if_neg g2] at z
    obtain ⟨p, vs, e1, e2, _⟩ := R.slots j _ hj
    rw [hq] at e1
    cases e1
    rw [noTb_of e2 fun _ z => by cases z] at z
    cases z
  dist := R.dist
end

section
variable {X : Cx} {g : Gx} {W : WX} {e : Expr}
/-- a name that is read -/
theorem pe_getv {i : Nat} (h : PE X e (tVar i)) (hk : g.K = X.K) : PE X e (rd g W (getv i)) := by
  refine ⟨fun pins s σ H Q I q => ?_⟩
  obtain ⟨Kp, l, st, R, f⟩ := q
  cases he : st.env[i]? with
  | none => simp only [getv, he] at f; exact (show False from f).elim
  | some o =>
    cases o with
    | none => simp only [getv, he] at f; exact (show False from f).elim
    | some ev =>
      cases ev with
      | val d =>
        simp only [getv, he] at f
        obtain ⟨v, h1, h2⟩ := R.slots i _ he
        exact h.run pins s σ H Q I ⟨v, h1, f H l R .refl (List.prefix_refl _) v h2⟩
      | own xs =>
        simp only [getv, he] at f
        obtain ⟨p, vs, h1, h2, h3, h4, h5, h6⟩ := R.ownR he
        obtain ⟨od, J⟩ := inv_lock I h2 (by trivial)
        have R1 := (R.drop i).frz (od := od) h2 h4 h5 fun j ys hj => by
          rcases set_get hj with ⟨_, e2⟩ | ⟨e1, e2⟩
          · cases e2
          · exact h6 j ys (Ne.symm e1) e2
        have r : Rep g.K (upd H p (.frz od (.lst vs))) l (.lst xs) (.ref p) := ⟨p, od, vs, rfl, upd_same, h3.mono (.lst h2) (List.prefix_refl _)⟩
        have R2 := R1.tell h1 r
        have e3 : (st.env.set i none).set i (some (.val (.lst xs))) = st.env.set i (some (.val (.lst xs))) := List.set_set ..
        simp only [e3] at R2
        exact h.run pins s σ _ Q J ⟨_, h1, f _ l R2 (.lst h2) (List.prefix_refl _) _ r⟩
/-- a list is handed on -/
theorem pe_move {i : Nat} (h : PE X e (tVar i)) : PE X e (rd g W (move i)) := by
  refine PE.imp h fun σ H Q q => ?_
  obtain ⟨Kp, l, st, R, f⟩ := q
  unfold move at f
  split at f
  · rename_i xs he
    obtain ⟨p, vs, h1, h2, h3, h4, h5, h6⟩ := R.ownR he
    refine ⟨_, h1, f H l (R.drop i) .refl (List.prefix_refl _) _ ⟨p, vs, rfl, h2, h3, h4, h5, fun j ys hj => ?_⟩⟩
    rcases set_get hj with ⟨_, e2⟩ | ⟨e1, e2⟩
    · cases e2
    · exact h6 j ys (Ne.symm e1) e2
  · exact (show False from f).elim
theorem pe_con {c : Cn} (h : PE X e (tC (cnV c))) : PE X e (rd g W (ret (.val c.d))) := by
  refine PE.imp h fun σ H Q q => ?_
  obtain ⟨Kp, l, st, R, f⟩ := q
  refine f H l R .refl (List.prefix_refl _) _ ?_
  cases c <;> exact rfl
end
end Dm

set_option Elab.async false
set_option linter.all false
set_option maxRecDepth 100000
set_option maxHeartbeats 4000000
set_option autoImplicit false
/-! Dm5: operators, displays, subscripts, calls, as computations. -/
namespace Dm
open PySem PySem.Spec PyProof.Rows L2

abbrev gx (X : Cx) (cl : Nat → Addr) : Gx := ⟨X.K, cl⟩
section
variable {X : Cx} {cl : Nat → Addr} {W : WX} {a b c : Expr} {pos : Pos} {ca cb cc : C EV}
theorem pe_binC (o : Bop) (ha : PE X a (rd (gx X cl) W ca)) (hb : PE X b (rd (gx X cl) W cb)) :
    PE X (.BinOp a (bop o) b pos) (rd (gx X cl) W (bnd ca fun x => bnd cb fun y => ofO (binD o x.d y.d))) := by
  refine PE.imp (pe_op (op_bin (cl := cl) (W := W) o) (pe_rz ha) (pe_rz hb)) fun σ H Q q => ?_
  obtain ⟨Kp, l, st, R, f⟩ := q
  exact ⟨Kp, l, st, R, (Fin.bnd f).imp fun x st1 H1 l1 R1 _ _ f1 v hv => ⟨Kp, l1, st1, R1, (Fin.bnd f1).imp fun y st2 H2 l2 R2 p2 q2 f2 u hu => ⟨Kp, σ, l2, st2, x.d, y.d, R2, hv.mono p2 q2, hu, f2⟩⟩⟩
theorem pe_cmpC (hu : X.A.units + 65 < cLine) (o : Cop) (ha : PE X a (rd (gx X cl) W ca)) (hb : PE X b (rd (gx X cl) W cb)) (hm : behindInMarks (cop o) b = false) :
    PE X (.Compare a [cop o] [b] pos) (rd (gx X cl) W (bnd ca fun x => bnd cb fun y => ofO ((cmpD o x.d y.d).map fun c => EV.val (.bl c)))) := by
  refine PE.imp (pe_cmpR (op_cmp (cl := cl) (W := W) hu o) (pe_rz ha) (pe_rz hb) hm) fun σ H Q q => ?_
  obtain ⟨Kp, l, st, R, f⟩ := q
  exact ⟨Kp, l, st, R, (Fin.bnd f).imp fun x st1 H1 l1 R1 _ _ f1 v hv => ⟨Kp, l1, st1, R1, (Fin.bnd f1).imp fun y st2 H2 l2 R2 p2 q2 f2 u hu => ⟨Kp, σ, l2, st2, x.d, y.d, R2, hv.mono p2 q2, hu, f2⟩⟩⟩
theorem fin_cmp {K : PySem.W.Frag} {Kp : Hp} {σ : Sl} {H : Hp} {l : List Addr} {st : Sta} {o : Option Bool} {Q : Bool → Hp → Prop} (h : Fin K cl W Kp σ H l (ofO o st) fun k _ H' _ => Q k H') :
    Fin K cl W Kp σ H l (ofO (o.map fun c => EV.val (.bl c)) st) fun r st' H' l' => ∀ v, RvR K Kp σ H' l' st' r v → ∃ k, v = .bl k ∧ Q k H' := by
  cases o with
  | none => exact h
  | some k => exact fun H' l' R p q v hv => ⟨k, hv, h H' l' R p q⟩
theorem pt_cmpC (hu : X.A.units + 65 < cLine) (o : Cop) (ha : PE X a (rd (gx X cl) W ca)) (hb : PE X b (rd (gx X cl) W cb)) (hm : behindInMarks (cop o) b = false) :
    PT X (.Compare a [cop o] [b] pos) (rb (gx X cl) W (bnd ca fun x => bnd cb fun y => ofO (cmpD o x.d y.d))) := by
  refine PT.imp (pt_cmpR (op_cmp (cl := cl) (W := W) hu o) (pe_rz ha) (pe_rz hb) hm) fun σ H Q q => ?_
  obtain ⟨Kp, l, st, R, f⟩ := q
  exact ⟨Kp, l, st, R, (Fin.bnd f).imp fun x st1 H1 l1 R1 _ _ f1 v hv => ⟨Kp, l1, st1, R1, (Fin.bnd f1).imp fun y st2 H2 l2 R2 p2 q2 f2 u hu => ⟨Kp, σ, l2, st2, x.d, y.d, R2, hv.mono p2 q2, hu, fin_cmp f2⟩⟩⟩
theorem chn_read {σ : Sl} {H : Hp} {o p : Cop} {Q : VK} (h : rd (gx X cl) W (bnd ca fun x => bnd cb fun y => bnd (ofO (cmpD o x.d y.d)) fun k => if k then bnd cc fun z => ofO ((cmpD p y.d z.d).map fun c => EV.val (.bl c)) else ret (.val (.bl false))) σ H Q) :
    tChain (rOp (gx X cl) W fun x y => (cmpD o x y).map fun c => EV.val (.bl c)) (rOp (gx X cl) W fun x y => (cmpD p x y).map fun c => EV.val (.bl c)) (rz (gx X cl) W ca) (rz (gx X cl) W cb) (rz (gx X cl) W cc) σ H Q := by
  obtain ⟨Kp, l, st, R, f⟩ := h
  refine ⟨Kp, l, st, R, (Fin.bnd f).imp fun x st1 H1 l1 R1 _ _ f1 v hv => ⟨Kp, l1, st1, R1, (Fin.bnd f1).imp fun y st2 H2 l2 R2 p2 q2 f2 u hu => ⟨Kp, σ, l2, st2, x.d, y.d, R2, hv.mono p2 q2, hu, ?_⟩⟩⟩
  have f3 := Fin.bnd f2
  show Fin _ _ _ _ _ _ _ (ofO ((cmpD o x.d y.d).map fun c => EV.val (.bl c)) st2) _
  cases ho : cmpD o x.d y.d with
  | none => rw [ho] at f3; exact f3
  | some k =>
    rw [ho] at f3
    intro H' l' R' p' q' z hz
    refine ⟨k, hz, ?_⟩
    have f4 := f3 H' l' R' p' q'
    cases k with
    | true =>
      rw [if_pos rfl] at f4 ⊢
      exact ⟨Kp, l', st2, R', (Fin.bnd f4).imp fun z st4 H4 l4 R4 p4 q4 f5 w hw => ⟨Kp, σ, l4, st4, y.d, z.d, R4, hu.mono (p'.trans p4) (q'.trans q4), hw, f5⟩⟩
    | false =>
      rw [if_neg (by simp)] at f4 ⊢
      exact f4 H' l' R' .refl (List.prefix_refl _) _ rfl
theorem pe_chnC (hu : X.A.units + 65 < cLine) (o p : Cop) (ha : PE X a (rd (gx X cl) W ca)) (hb : PE X b (rd (gx X cl) W cb)) (hc : PE X c (rd (gx X cl) W cc)) (hm : lastMarks [cop o, cop p] [b, c] = false) :
    PE X (.Compare a [cop o, cop p] [b, c] pos) (rd (gx X cl) W (bnd ca fun x => bnd cb fun y => bnd (ofO (cmpD o x.d y.d)) fun k => if k then bnd cc fun z => ofO ((cmpD p y.d z.d).map fun c => EV.val (.bl c)) else ret (.val (.bl false)))) :=
  PE.imp (pe_chain (op_cmp (cl := cl) (W := W) hu o) (op_cmp (cl := cl) (W := W) hu p) (pe_rz ha) (pe_rz hb) (pe_rz hc) hm) fun σ H Q q => chn_read q
theorem pt_chnC (hu : X.A.units + 65 < cLine) (o p : Cop) (ha : PE X a (rd (gx X cl) W ca)) (hb : PE X b (rd (gx X cl) W cb)) (hc : PE X c (rd (gx X cl) W cc)) (hm : lastMarks [cop o, cop p] [b, c] = false) :
    PT X (.Compare a [cop o, cop p] [b, c] pos) (rb (gx X cl) W (bnd ca fun x => bnd cb fun y => bnd (ofO (cmpD o x.d y.d)) fun k => if k then bnd cc fun z => ofO (cmpD p y.d z.d) else ret false)) := by
  refine PT.imp (pt_chain (op_cmp (cl := cl) (W := W) hu o) (op_cmp (cl := cl) (W := W) hu p) (pe_rz ha) (pe_rz hb) (pe_rz hc) hm) fun σ H Q q => ?_
  show tChain _ _ _ _ _ σ H _
  refine chn_read ?_
  obtain ⟨Kp, l, st, R, f⟩ := q
  refine ⟨Kp, l, st, R, ?_⟩
  -- the same computation, its truth a value
  cases e1 : ca st with
  | err => simp only [bnd_at, e1, Out.bnd_err] at f; exact (show False from f).elim
  | exc x s1 => simp only [bnd_at, e1] at f ⊢; exact f
  | ok x s1 =>
    simp only [bnd_at, e1, Out.bnd_ok] at f ⊢
    cases e2 : cb s1 with
    | err => simp only [e2, Out.bnd_err] at f; exact (show False from f).elim
    | exc x s1 => simp only [e2] at f ⊢; exact f
    | ok y s2 =>
      simp only [e2, Out.bnd_ok] at f ⊢
      cases e3 : cmpD o x.d y.d with
      | none => simp only [e3, ofO_none, fail, Out.bnd_err] at f; exact (show False from f).elim
      | some k =>
        simp only [e3, bnd_at, ofO_some, ret, Out.bnd_ok] at f ⊢
        cases k with
        | false => exact fun H' l' R' p' q' v hv => ⟨false, hv, f H' l' R' p' q'⟩
        | true =>
          simp only [if_true, bnd_at] at f ⊢
          cases e4 : cc s2 with
          | err => simp only [e4, Out.bnd_err] at f; exact (show False from f).elim
          | exc x s1 => simp only [e4] at f ⊢; exact f
          | ok z s3 =>
            simp only [e4, Out.bnd_ok] at f ⊢
            exact fin_cmp f
theorem pe_negC (ha : PE X a (rd (gx X cl) W ca)) : PE X (.UnaryOp .USub a pos) (rd (gx X cl) W (bnd ca fun x => ofO ((asI x.d).map fun i => EV.val (.int (-i))))) := by
  refine PE.imp (pe_un un_neg (pe_rz ha)) fun σ H Q q => ?_
  obtain ⟨Kp, l, st, R, f⟩ := q
  refine ⟨Kp, l, st, R, (Fin.bnd f).imp fun x st1 H1 l1 R1 _ _ f1 v hv => ?_⟩
  cases hx : x.d with
  | int i =>
    rw [hx] at f1 hv
    exact ⟨i, hv, f1 H1 l1 R1 .refl (List.prefix_refl _) _ rfl⟩
  | _ => rw [hx] at f1; exact (show False from f1).elim
theorem andC_read {σ : Sl} {H : Hp} {Q : VK} (h : rd (gx X cl) W (bnd ca fun x => andC x.d cb) σ H Q) : tAndT X.K (rz (gx X cl) W ca) (rd (gx X cl) W cb) σ H Q := by
  obtain ⟨Kp, l, st, R, f⟩ := h
  refine ⟨Kp, l, st, R, (Fin.bnd f).imp fun x st1 H1 l1 R1 _ _ f1 v hv => ?_⟩
  unfold andC at f1
  cases e : truD x.d with
  | none => rw [e] at f1; exact (show False from f1).elim
  | some k =>
    rw [e] at f1
    cases k with
    | true => exact ⟨true, hv.tru e, by rw [if_pos rfl]; exact ⟨Kp, l1, st1, R1, f1⟩⟩
    | false => exact ⟨false, hv.tru e, by rw [if_neg (by simp)]; exact f1 H1 l1 R1 .refl (List.prefix_refl _) v hv⟩
theorem orC_read {σ : Sl} {H : Hp} {Q : VK} (h : rd (gx X cl) W (bnd ca fun x => orC x.d cb) σ H Q) : tOrT X.K (rz (gx X cl) W ca) (rd (gx X cl) W cb) σ H Q := by
  obtain ⟨Kp, l, st, R, f⟩ := h
  refine ⟨Kp, l, st, R, (Fin.bnd f).imp fun x st1 H1 l1 R1 _ _ f1 v hv => ?_⟩
  unfold orC at f1
  cases e : truD x.d with
  | none => rw [e] at f1; exact (show False from f1).elim
  | some k =>
    rw [e] at f1
    cases k with
    | true => exact ⟨true, hv.tru e, by rw [if_pos rfl]; exact f1 H1 l1 R1 .refl (List.prefix_refl _) v hv⟩
    | false => exact ⟨false, hv.tru e, by rw [if_neg (by simp)]; exact ⟨Kp, l1, st1, R1, f1⟩⟩
theorem pe_notC (ha : PE X a (rd (gx X cl) W ca)) : PE X (.UnaryOp .Not a pos) (rd (gx X cl) W (bnd ca fun x => ofO ((truD x.d).map fun c => EV.val (.bl (!c))))) := by
  refine PE.imp (pe_notT (pe_rz ha)) fun σ H Q q => ?_
  obtain ⟨Kp, l, st, R, f⟩ := q
  refine ⟨Kp, l, st, R, (Fin.bnd f).imp fun x st1 H1 l1 R1 _ _ f1 v hv => ?_⟩
  cases e : truD x.d with
  | none => rw [e] at f1; exact (show False from f1).elim
  | some k =>
    rw [e] at f1
    exact ⟨k, hv.tru e, f1 H1 l1 R1 .refl (List.prefix_refl _) _ rfl⟩
/-! ### tests -/
variable {ta tb : C Bool}
theorem pt_truC (ha : PE X a (rd (gx X cl) W ca)) (hp : plainT a = true) : PT X a (rb (gx X cl) W (bnd ca fun x => ofO (truD x.d))) := by
  refine PT.imp (pt_truth (pe_rz ha) (plain_true hp)) fun σ H Q q => ?_
  obtain ⟨Kp, l, st, R, f⟩ := q
  refine ⟨Kp, l, st, R, (Fin.bnd f).imp fun x st1 H1 l1 R1 _ _ f1 v hv => ?_⟩
  cases e : truD x.d with
  | none => rw [e] at f1; exact (show False from f1).elim
  | some k =>
    rw [e] at f1
    exact ⟨k, hv.tru e, f1 H1 l1 R1 .refl (List.prefix_refl _)⟩
theorem rb_and {σ : Sl} {H : Hp} {Q : Bool → Hp → Prop} (h : rb (gx X cl) W (bnd ta fun k => if k then tb else ret false) σ H Q) : tAnd (rb (gx X cl) W ta) (rb (gx X cl) W tb) σ H Q := by
  obtain ⟨Kp, l, st, R, f⟩ := h
  refine ⟨Kp, l, st, R, (Fin.bnd f).imp fun k st1 H1 l1 R1 _ _ f1 => ?_⟩
  cases k with
  | true => rw [if_pos rfl] at f1 ⊢; exact ⟨Kp, l1, st1, R1, f1⟩
  | false => rw [if_neg (by simp)] at f1 ⊢; exact f1 H1 l1 R1 .refl (List.prefix_refl _)
theorem rb_or {σ : Sl} {H : Hp} {Q : Bool → Hp → Prop} (h : rb (gx X cl) W (bnd ta fun k => if k then ret true else tb) σ H Q) : tOr (rb (gx X cl) W ta) (rb (gx X cl) W tb) σ H Q := by
  obtain ⟨Kp, l, st, R, f⟩ := h
  refine ⟨Kp, l, st, R, (Fin.bnd f).imp fun k st1 H1 l1 R1 _ _ f1 => ?_⟩
  cases k with
  | true => rw [if_pos rfl] at f1 ⊢; exact f1 H1 l1 R1 .refl (List.prefix_refl _)
  | false => rw [if_neg (by simp)] at f1 ⊢; exact ⟨Kp, l1, st1, R1, f1⟩
theorem pt_notC (ha : PT X a (rb (gx X cl) W ta)) : PT X (.UnaryOp .Not a pos) (rb (gx X cl) W (bnd ta fun k => ret (!k))) := by
  refine PT.imp (pt_not ha) fun σ H Q q => ?_
  obtain ⟨Kp, l, st, R, f⟩ := q
  exact ⟨Kp, l, st, R, (Fin.bnd f).imp fun k st1 H1 l1 R1 _ _ f1 => f1 H1 l1 R1 .refl (List.prefix_refl _)⟩
theorem PW.imp {X : Cx} {e : Expr} {t t' : TT} (h : PW X e t) (f : ∀ σ H Q, t' σ H Q → t σ H Q) : PW X e t' := ⟨fun wh pins s σ H Q I q => h.run wh pins s σ H Q I (f σ H Q q)⟩
theorem pe_ifC (hc : PT X c (rb (gx X cl) W ta)) (ha : PE X a (rd (gx X cl) W ca)) (hb : PE X b (rd (gx X cl) W cb)) : PE X (.IfExp c a b pos) (rd (gx X cl) W (bnd ta fun k => if k then ca else cb)) := by
  refine PE.imp (pe_ifExp hc ha hb) fun σ H Q q => ?_
  obtain ⟨Kp, l, st, R, f⟩ := q
  refine ⟨Kp, l, st, R, (Fin.bnd f).imp fun k st1 H1 l1 R1 _ _ f1 => ?_⟩
  cases k with
  | true => rw [if_pos rfl] at f1 ⊢; exact ⟨Kp, l1, st1, R1, f1⟩
  | false => rw [if_neg (by simp)] at f1 ⊢; exact ⟨Kp, l1, st1, R1, f1⟩

/-! ### displays -/
variable {es : List Expr} {cs : C (List D)}
theorem pa_nilC : PA X [] (ra (gx X cl) W (ret [])) := by
  refine PA.imp pa_nil fun σ H Q q => ?_
  obtain ⟨Kp, l, st, R, f⟩ := q
  exact f H l R .refl (List.prefix_refl _) _ rfl
theorem pa_consC (ha : PE X a (rd (gx X cl) W ca)) (hs : PA X es (ra (gx X cl) W cs)) (hn : noStar a = true) : PA X (a :: es) (ra (gx X cl) W (bnd ca fun x => bnd cs fun xs => ret (x.d :: xs))) := by
  refine PA.imp (pa_cons (pe_rz ha) hs (star_cons hn)) fun σ H Q q => ?_
  obtain ⟨Kp, l, st, R, f⟩ := q
  exact ⟨Kp, l, st, R, (Fin.bnd f).imp fun x st1 H1 l1 R1 _ _ f1 v hv => ⟨Kp, l1, st1, R1, (Fin.bnd f1).imp fun xs st2 H2 l2 R2 p2 q2 f2 vs hvs => f2 H2 l2 R2 .refl (List.prefix_refl _) _ (.cons (hv.mono p2 q2) hvs)⟩⟩
theorem pe_tupC {n : Nat} (hs : PA X es (ra (gx X cl) W cs)) : PE X (.Tuple es n pos) (rd (gx X cl) W (bnd cs fun ds => if ds.length ≤ lim then ret (.val (.tup ds)) else fail)) := by
  refine PE.imp (pe_tupZ hs) fun σ H Q q => ?_
  obtain ⟨Kp, l, st, R, f⟩ := q
  refine ⟨Kp, l, st, R, (Fin.bnd f).imp fun ds st1 H1 l1 R1 _ _ f1 vs hvs => ?_⟩
  split at f1
  · rename_i c
    exact ⟨by rw [hvs.len]; exact lim_line c, fun p o hp ho => f1 _ l1 (R1.new hp) (.new hp) (List.prefix_refl _) _ (Rel.tupNew hp hvs ho)⟩
  · exact (show False from f1).elim
theorem pe_lstC (hs : PA X es (ra (gx X cl) W cs)) : PE X (.List es pos) (rd (gx X cl) W (bnd cs fun ds => if ds.length ≤ lim then ret (.own ds) else fail)) := by
  refine PE.imp (pe_lst hs) fun σ H Q q => ?_
  obtain ⟨Kp, l, st, R, f⟩ := q
  refine ⟨Kp, l, st, R, (Fin.bnd f).imp fun ds st1 H1 l1 R1 _ _ f1 vs hvs => ?_⟩
  split at f1
  · rename_i c
    exact ⟨by rw [hvs.len]; exact lim_line c, fun p hp => f1 _ l1 (R1.new hp) (.new hp) (List.prefix_refl _) _ (R1.ownNew hp hvs)⟩
  · exact (show False from f1).elim

/-! ### subscripts -/
def rLift (g : Gx) (W : WX) (f : List Cell → D → D → Option EV) : R2 := fun x y H Q => ∃ Kp σ l st dx dy, Rel g.K Kp σ H l st ∧ Rep g.K H l dx x ∧ Rep g.K H l dy y ∧
  Fin g.K g.cl W Kp σ H l (lift (fun m => f m dx dy) st) fun r st' H' l' => ∀ v, RvR g.K Kp σ H' l' st' r v → Q v H'
theorem fin_lift {K : PySem.W.Frag} {Kp : Hp} {σ : Sl} {H : Hp} {l : List Addr} {st : Sta} {f : List Cell → Option EV} {P : EV → Sta → Hp → List Addr → Prop} (h : Fin K cl W Kp σ H l (lift f st) P) :
    ∃ r, f st.mem = some r ∧ Fin K cl W Kp σ H l (.ok r st) P := by
  unfold lift at h
  split at h
  · rename_i r e
    exact ⟨r, e, h⟩
  · exact (show False from h).elim
theorem atI_map {α β : Type} {f : α → β} {xs : List α} {i : Int} {y : β} (h : atI (xs.map f) i = some y) : ∃ x, atI xs i = some x ∧ f x = y := by
  unfold atI at h ⊢
  rw [List.length_map] at h
  cases e : ixN xs.length i with
  | none => rw [e] at h; cases h
  | some j =>
    rw [e] at h
    simp only [Option.bind_some, List.getElem?_map] at h ⊢
    exact Option.map_eq_some_iff.mp h
theorem Reps.at {K : PySem.W.Frag} {H : Hp} {l : List Addr} {ds : List D} {vs : List V} {i : Int} {d : D} (h : Reps K H l ds vs) (e : atI ds i = some d) : ∃ v, atI vs i = some v ∧ Rep K H l d v := by
  unfold atI at e ⊢
  rw [h.len]
  cases e1 : ixN ds.length i with
  | none => rw [e1] at e; cases e
  | some j =>
    rw [e1] at e
    exact h.get e
theorem ix_C : IxR X (rLift (gx X cl) W fun m x y => (idxD m x y).map .val) := by
  intro value slice pins s σ H x y v u Q I rx ry h hs
  obtain ⟨Kp, σ', l, st, dx, dy, R, hx, hy, hF⟩ := h
  obtain ⟨r, er, hF⟩ := fin_lift hF
  obtain ⟨d, ed, e⟩ := Option.map_eq_some_iff.mp er
  subst e
  have fin : ∀ w, Rep X.K H l d w → Q w H := fun w hw => hF H l R .refl (List.prefix_refl _) w hw
  cases dy with
  | int i =>
    cases hy
    cases dx with
    | lst xs =>
      obtain ⟨a, o, vs, rfl, h1, h2⟩ := hx
      obtain ⟨w, e1, e2⟩ := h2.at ed
      exact ix_list value slice pins s σ H _ _ v u Q I rx ry ⟨a, vs, i, w, rfl, rfl, .inl (.inr ⟨o, h1⟩), e1, fin w e2⟩ hs
    | tup xs =>
      obtain ⟨a, vs, rfl, h1, h2⟩ := hx
      obtain ⟨w, e1, e2⟩ := h2.at ed
      exact ix_tup value slice pins s σ H _ _ v u Q I rx ry ⟨a, vs, i, w, rfl, rfl, h1.sq, e1, fin w e2⟩ hs
    | scr ns =>
      obtain ⟨a, rfl, h1⟩ := hx
      obtain ⟨n, e1, e2⟩ := Option.map_eq_some_iff.mp ed
      subst e2
      refine ix_list value slice pins s σ H _ _ v u Q I rx ry ⟨a, ns.map V.int, i, .int n, rfl, rfl, h1.sq, ?_, fin _ rfl⟩ hs
      unfold atD atI at e1
      unfold atI
      rw [List.length_map]
      cases e3 : ixN ns.length i with
      | none => rw [e3] at e1; cases e1
      | some j =>
        rw [e3] at e1
        have e4 : ns[j]? = some n := e1
        simp [e4]
    | str z =>
      cases hx
      simp only [idxD] at ed
      split at ed
      · rename_i c
        obtain ⟨n, e1, e2⟩ := Option.map_eq_some_iff.mp ed
        subst e2
        exact ix_str value slice pins s σ H _ _ v u Q I rx ry ⟨z, i, n, rfl, rfl, lim_line c, e1, fin _ rfl⟩ hs
      · cases ed
    | cel n =>
      obtain ⟨a, rfl, h1⟩ := hx
      simp only [idxD] at ed
      split at ed
      · rename_i xs em
        obtain ⟨vs, h3, h4⟩ := R.cells n a _ h1 em
        obtain ⟨w, e1, e2⟩ := h4.at ed
        exact ix_list value slice pins s σ H _ _ v u Q I rx ry ⟨a, vs, i, w, rfl, rfl, .inl (.inl h3), e1, fin w e2⟩ hs
      · cases ed
    | _ => cases ed
  | _ => cases dx <;> cases ed
theorem pe_idxC (ha : PE X a (rd (gx X cl) W ca)) (hb : PE X b (rd (gx X cl) W cb)) (hs : noSlice b = true) :
    PE X (.Subscript a b pos) (rd (gx X cl) W (bnd ca fun x => bnd cb fun y => lift fun m => (idxD m x.d y.d).map .val)) := by
  refine PE.imp (pe_ix (ix_C (cl := cl) (W := W)) (pe_rz ha) (pe_rz hb) (no_slice hs)) fun σ H Q q => ?_
  obtain ⟨Kp, l, st, R, f⟩ := q
  exact ⟨Kp, l, st, R, (Fin.bnd f).imp fun x st1 H1 l1 R1 _ _ f1 v hv => ⟨Kp, l1, st1, R1, (Fin.bnd f1).imp fun y st2 H2 l2 R2 p2 q2 f2 u hu => ⟨Kp, σ, l2, st2, x.d, y.d, R2, hv.mono p2 q2, hu, f2⟩⟩⟩
/-! ### slices -/
def ro (g : Gx) (W : WX) (c : C (Option Int)) : TO := fun σ H Q => ∃ Kp l st, Rel g.K Kp σ H l st ∧ Fin g.K g.cl W Kp σ H l (c st) fun r st' H' l' => Q r H'
theorem PO.imp {X : Cx} {e : Option Expr} {t t' : TO} (h : PO X e t) (f : ∀ σ H Q, t' σ H Q → t σ H Q) : PO X e t' := ⟨fun pins s σ H Q I q => h.run pins s σ H Q I (f σ H Q q)⟩
theorem po_noneC : PO X none (ro (gx X cl) W (ret none)) := by
  refine PO.imp po_none fun σ H Q q => ?_
  obtain ⟨Kp, l, st, R, f⟩ := q
  exact f H l R .refl (List.prefix_refl _)
theorem po_someC (ha : PE X a (rd (gx X cl) W ca)) : PO X (some a) (ro (gx X cl) W (bnd ca fun x => ofO ((asI x.d).map some))) := by
  refine PO.imp (po_some (pe_rz ha)) fun σ H Q q => ?_
  obtain ⟨Kp, l, st, R, f⟩ := q
  refine ⟨Kp, l, st, R, (Fin.bnd f).imp fun x st1 H1 l1 R1 _ _ f1 v hv => ?_⟩
  cases hx : x.d with
  | int i =>
    rw [hx] at f1 hv
    exact ⟨i, hv, f1 H1 l1 R1 .refl (List.prefix_refl _)⟩
  | _ => rw [hx] at f1; exact (show False from f1).elim
theorem Reps.cut {K : PySem.W.Frag} {H : Hp} {l : List Addr} {ds : List D} {vs : List V} (h : Reps K H l ds vs) (lo hi : Option Int) : Reps K H l (cutD ds lo hi) (cutV vs lo hi) := by
  unfold cutD cutV
  rw [h.len]
  exact (h.drop _).take _
def rSlc (g : Gx) (W : WX) : V → Option Int → Option Int → Hp → VK → Prop := fun x lo hi H Q => ∃ Kp σ l st dx, Rel g.K Kp σ H l st ∧ Rep g.K H l dx x ∧
  Fin g.K g.cl W Kp σ H l (ofO (slcD dx lo hi) st) fun r st' H' l' => ∀ v, RvR g.K Kp σ H' l' st' r v → Q v H'
theorem sl_C : SlR X (rSlc (gx X cl) W) := by
  intro pins s σ H x v vl vu lo hi sl Q I rx hs pl pu h
  obtain ⟨Kp, σ', l, st, dx, R, hx, hF⟩ := h
  cases dx with
  | lst xs =>
    obtain ⟨a, o, vs, rfl, h1, h2⟩ := hx
    exact sl_list pins s σ H _ v vl vu lo hi sl Q I rx hs pl pu ⟨a, vs, rfl, .inl (.inr ⟨o, h1⟩), fun p hp => fin_new hF R (h2.cut lo hi) hp⟩
  | tup xs =>
    obtain ⟨a, vs, rfl, h1, h2⟩ := hx
    refine sl_tupZ pins s σ H _ v vl vu lo hi sl Q I rx hs pl pu ⟨a, vs, rfl, h1.sq, fun hw => fin_val hF R ?_, fun _ p o hp ho => fin_tup hF R (h2.cut lo hi) hp ho⟩
    have e : cutD xs lo hi = xs := by
      unfold cutD
      rw [← h2.len, hw.1, hw.2, List.drop_zero, Nat.sub_zero, h2.len, List.take_length]
    rw [e]
    exact ⟨a, vs, rfl, h1, h2⟩
  | _ => exact (show False from hF).elim
theorem pe_slcC {lo hi : Option Expr} {cl' ch' : C (Option Int)} {p2 : Pos} (ha : PE X a (rd (gx X cl) W ca)) (hl : PO X lo (ro (gx X cl) W cl')) (hh : PO X hi (ro (gx X cl) W ch')) :
    PE X (.Subscript a (.Slice lo hi none p2) pos) (rd (gx X cl) W (bnd ca fun x => bnd cl' fun l => bnd ch' fun h => ofO (slcD x.d l h))) := by
  refine PE.imp (pe_slice (sl_C (cl := cl) (W := W)) (pe_rz ha) hl hh) fun σ H Q q => ?_
  obtain ⟨Kp, l, st, R, f⟩ := q
  exact ⟨Kp, l, st, R, (Fin.bnd f).imp fun x st1 H1 l1 R1 _ _ f1 v hv => ⟨Kp, l1, st1, R1, (Fin.bnd f1).imp fun y st2 H2 l2 R2 p2 q2 f2 => ⟨Kp, l2, st2, R2, (Fin.bnd f2).imp fun z st3 H3 l3 R3 p3 q3 f3 =>
    ⟨Kp, σ, l3, st3, x.d, R3, hv.mono (p2.trans p3) (q2.trans q3), f3⟩⟩⟩⟩
/-! ### cells, and reading without a change -/
theorem pe_celC (ha : PE X a (rd (gx X cl) W ca)) : PE X a (rd (gx X cl) W (bnd ca celC)) := by
  refine PE.imp ha fun σ H Q q => ?_
  obtain ⟨Kp, l, st, R, f⟩ := q
  refine ⟨Kp, l, st, R, (Fin.bnd f).imp fun x st1 H1 l1 R1 _ _ f1 v hv => ?_⟩
  cases x with
  | val d => exact f1 H1 l1 R1 .refl (List.prefix_refl _) v hv
  | own xs =>
    obtain ⟨p, rfl, R2, r2⟩ := R1.ncell hv
    exact f1 H1 _ R2 .refl (List.prefix_append _ _) _ r2
end
end Dm

set_option Elab.async false
set_option linter.all false
set_option maxRecDepth 100000
set_option maxHeartbeats 4000000
set_option autoImplicit false
/-! DmK: sum, max, min, sorted of lists and tuples of data. -/
namespace PySem.W
open PySem PySem.Spec PySem.Calls PyProof.Rows
section
variable {prog : Program} {w : World} {A : Around} {E : Value → Shared → Prop} {s : Shared}
theorem collect_tupK {l : Addr} {vs : List Value} {Q : List Value → Shared → Prop} (hl : s.heap.IsTuple l vs.toArray)
    (h : Q vs { s with heap := (s.heap.push (seqObj "list" #[] 0)).update s.heap.objs.size (Obj.mapSeq (· ++ vs.toArray)) }) (hsz : vs.length ≤ sizeLine) :
    wpAny (model prog w) A (collect (.ref l)) Q E s := by
  obtain ⟨o, ho, hc, n, hd⟩ := id hl
  unfold collect
  refine wpAny_bind (wpAny_runValue (codeAny_builtin entry_proto_collect' ?_))
  show wpAny _ _ (do again (.builtin "list.__iadd__" ⟨[← newList [], .ref l], []⟩)) _ _ s
  refine wpAny_bind (wpAny_newList (wpAny_pure ⟨Code.quiet_builtin _ (by decide +kernel), codeAny_builtin entry_list_iadd' ?_⟩))
  show wpAny _ _ (Builtin.List.listExtendWith (.ref s.heap.objs.size) (.ref l) (.ref s.heap.objs.size)) _ _ { s with heap := s.heap.push (seqObj "list" #[] 0) }
  unfold Builtin.List.listExtendWith
  have ho' : (s.heap.push (seqObj "list" #[] 0)).get? l = some o := Heap.get?_push_of_some _ ho
  refine wpAny_bind (wpAny_typeOf (T := "tuple") ⟨o, ho', hc⟩ ?_)
  have ht : (Value.type "tuple" == Value.type "tuple") = true := by rfl
  rw [if_pos (by rw [ht]; simp)]
  refine wpAny_bind (listItems_at ho' hd ?_)
  refine wpAny_bind (listItems_at (xs := #[]) (n := 0) (Heap.get?_push_size _ rfl) rfl ?_)
  rw [if_neg (by simp)]
  refine wpAny_bind (listUpdate_at (xs := #[]) (n := 0) (Heap.get?_push_size _ rfl) rfl ?_ (Nat.zero_le _) (by show (#[] ++ vs.toArray).size ≤ sizeLine + 1; simp only [Array.size_append, List.size_toArray, List.length_nil]; omega))
  refine wpAny_pure ?_
  show wpAny (model prog w) A (do
      let o ← load s.heap.objs.size
      match o.data with
      | .seq xs _ => pure xs.toList
      | _ => unsupported "internal:collect") Q E { s with heap := (s.heap.push (seqObj "list" #[] 0)).update s.heap.objs.size (Obj.mapSeq (· ++ vs.toArray)) }
  refine wpAny_bind (wpAny_load (get?_update_seq (Heap.get?_push_size _ rfl) _) ?_)
  show wpAny _ _ (pure ((#[] : Array Value) ++ vs.toArray).toList) Q E _
  rw [show ((#[] : Array Value) ++ vs.toArray).toList = vs by simp]
  exact wpAny_pure h
theorem sorted_of_sortT {l : Addr} {vs : List Value} {kw : List (Str × Value)} {Q : Value → Shared → Prop} (hl : s.heap.IsTuple l vs.toArray) (hL : vs.length ≤ sizeLine) (ha1 : argsOk "sorted" ⟨[.ref l], kw⟩) (ha2 : ∀ x, argsOk "list.sort" ⟨[.ref x], kw⟩)
    (body : ∀ E' : Value → Shared → Prop, wpAny (model prog w) A.in1.in1 (Builtin.«list.sort» ⟨[.ref (s.heap.objs.size + 1)], kw⟩) (fun f s' => f = .done (.ret .none) ∧ Q (.ref (s.heap.objs.size + 1)) s') E' { s with heap := copyHeap s.heap vs }) :
    wpAny (model prog w) A (call (.builtin "sorted") [.ref l] kw) Q E s := by
  refine call_function_entry_kw kind_sorted plain_sorted entry_sorted ha1 ?_
  unfold Builtin.«sorted»
  refine wpAny_bind (m := checkCount "sorted" 1 1 _) (wpAny_pure ?_)
  refine wpAny_bind (collect_tupK hl ?_ hL)
  refine wpAny_bind (wpAny_newList ?_ hL)
  have hsz : ((s.heap.push (seqObj "list" #[] 0)).update s.heap.objs.size (Obj.mapSeq (· ++ vs.toArray))).objs.size = s.heap.objs.size + 1 := by
    rw [Heap.size_update, size_push']
  show wpAny _ _ _ _ _ { s with heap := copyHeap s.heap vs }
  rw [hsz]
  refine wpAny_bind (wpAny_holding (wpAny_call_entry_kw slot_list_sort ⟨_, copyHeap_at s.heap vs, rfl⟩ entry_list_sort ?body (ha2 _)))
  case body =>
    show wpAny (model prog w) A.in1.in1 (Builtin.«list.sort» ⟨[.ref (s.heap.objs.size + 1)], kw⟩) _ _ _
    refine wpAny_mono (body _) (fun f s' hf => ?_) fun _ _ e => e
    obtain ⟨rfl, hq⟩ := hf
    exact ⟨_, rfl, wpAny_pure ⟨_, rfl, hq⟩⟩
theorem sorted_dataT {β : Type} {enc : β → PyData} {R : Value → β → Prop} {vs : List Value} {bs : List β} {l : Addr} {Q : Value → Shared → Prop} (hl : s.heap.IsTuple l vs.toArray) (e : EachIs R vs bs) (er : EachIs (fun v b => ∃ as, Reads s.heap v (enc b) as) vs bs) (hal : AllAlike (bs.map enc)) (hk : Sortable (bs.map enc)) (hL : bs.length ≤ sizeLine)
    (hu : ∀ b, b ∈ bs → A.units + 2 + (enc b).depth < cLine) (h : ∀ out, out.length = bs.length → EachIs R out (bs.mergeSort (dataLe false enc)) → Q (.ref (s.heap.objs.size + 1)) { s with heap := sortedAll s.heap vs (List.toArray out) }) :
    wpAny (model prog w) A (call (.builtin "sorted") [.ref l]) Q E s := by
  have er' : EachIs (fun v b => ∃ as, Reads (sortingHeap (copyHeap s.heap vs) (s.heap.objs.size + 1) vs) v (enc b) as) vs bs := er.mono fun _ _ ⟨as, r⟩ => ⟨as, PyProof.Rows.Reads.keeps (fun _ _ => sorting_copy_old) r⟩
  refine sorted_of_sortT hl (by rw [e.length]; exact hL) (args_sorted1 _) (fun _ => args_list_sort _) fun _ => list_sort_vals (s := { s with heap := copyHeap s.heap vs }) (copyHeap_at s.heap vs) (SortsAt.data (s := { s with heap := sortingHeap (copyHeap s.heap vs) (s.heap.objs.size + 1) vs }) (each_map (R := fun v d => ∃ as, Reads (sortingHeap (copyHeap s.heap vs) (s.heap.objs.size + 1) vs) v d as) enc er') hal hk (bound_map hu)) (by rw [e.length]; exact hL)
    ⟨rfl, h _ (by rw [sortVals_length false rfl]; exact e.length) (sortVals_data false e er' hal)⟩
end
end PySem.W
namespace Dm
open PySem PySem.Spec PyProof.Rows L2
/-! ### the greatest, the least, the order -/
theorem maxL_mem : ∀ (r : List Int) (a : Int), maxL a r ∈ a :: r
  | [], a => by simp [maxL]
  | b :: r, a => by
    unfold maxL
    have h := maxL_mem r (if b > a then b else a)
    rcases List.mem_cons.mp h with h | h
    · rw [h]
      split <;> simp
    · simp [h]
theorem maxL_ge : ∀ (r : List Int) (a : Int), ∀ y ∈ a :: r, y ≤ maxL a r
  | [], a, y, h => by
    have : y = a := by simpa using h
    rw [this]; exact Int.le_refl _
  | b :: r, a, y, h => by
    unfold maxL
    have q := maxL_ge r (if b > a then b else a)
    have q0 := q (if b > a then b else a) (by simp)
    rcases List.mem_cons.mp h with h | h
    · subst h
      refine Int.le_trans ?_ q0
      split <;> omega
    · rcases List.mem_cons.mp h with h | h
      · subst h
        refine Int.le_trans ?_ q0
        split <;> omega
      · exact q y (by simp [h])
theorem minL_mem : ∀ (r : List Int) (a : Int), minL a r ∈ a :: r
  | [], a => by simp [minL]
  | b :: r, a => by
    unfold minL
    have h := minL_mem r (if b < a then b else a)
    rcases List.mem_cons.mp h with h | h
    · rw [h]
      split <;> simp
    · simp [h]
theorem minL_le : ∀ (r : List Int) (a : Int), ∀ y ∈ a :: r, minL a r ≤ y
  | [], a, y, h => by
    have : y = a := by simpa using h
    rw [this]; exact Int.le_refl _
  | b :: r, a, y, h => by
    unfold minL
    have q := minL_le r (if b < a then b else a)
    have q0 := q (if b < a then b else a) (by simp)
    rcases List.mem_cons.mp h with h | h
    · subst h
      refine Int.le_trans q0 ?_
      split <;> omega
    · rcases List.mem_cons.mp h with h | h
      · subst h
        refine Int.le_trans q0 ?_
        split <;> omega
      · exact q y (by simp [h])
theorem ins_perm (a : Int) : ∀ r, (ins a r).Perm (a :: r)
  | [] => .refl _
  | b :: r => by
    unfold ins
    split
    · exact .refl _
    · exact ((ins_perm a r).cons b).trans (.swap a b r)
theorem isort_perm : ∀ r, (isort r).Perm r
  | [] => .refl _
  | a :: r => (ins_perm a (isort r)).trans ((isort_perm r).cons a)
theorem ins_sorted (a : Int) : ∀ r : List Int, r.Pairwise (· ≤ ·) → (ins a r).Pairwise (· ≤ ·)
  | [], _ => by simp [ins]
  | b :: r, h => by
    unfold ins
    have h' := List.pairwise_cons.mp h
    split
    · rename_i c
      exact List.pairwise_cons.mpr ⟨fun y hy => by
        rcases List.mem_cons.mp hy with e | e
        · rw [e]; exact c
        · exact Int.le_trans c (h'.1 y e), h⟩
    · rename_i c
      refine List.pairwise_cons.mpr ⟨fun y hy => ?_, ins_sorted a r h'.2⟩
      have hy := (ins_perm a r).mem_iff.mp hy
      rcases List.mem_cons.mp hy with e | e
      · rw [e]; omega
      · exact h'.1 y e
theorem isort_sorted : ∀ r : List Int, (isort r).Pairwise (· ≤ ·)
  | [] => .nil
  | a :: r => ins_sorted a _ (isort_sorted r)
theorem sorted_eq : ∀ {xs ys : List Int}, xs.Perm ys → xs.Pairwise (· ≤ ·) → ys.Pairwise (· ≤ ·) → xs = ys
  | [], ys, p, _, _ => by rw [List.Perm.nil_eq p]
  | x :: xs, [], p, _, _ => by have := p.length_eq; simp at this
  | x :: xs, y :: ys, p, hx, hy => by
    have hx' := List.pairwise_cons.mp hx
    have hy' := List.pairwise_cons.mp hy
    have e : x = y := by
      have h1 : x ∈ y :: ys := p.mem_iff.mp (by simp)
      have h2 : y ∈ x :: xs := p.mem_iff.mpr (by simp)
      rcases List.mem_cons.mp h1 with h1 | h1
      · exact h1
      · rcases List.mem_cons.mp h2 with h2 | h2
        · exact h2.symm
        · have := hx'.1 y h2
          have := hy'.1 x h1
          omega
    subst e
    rw [sorted_eq (List.perm_cons x |>.mp p) hx'.2 hy'.2]

theorem pyAll_map : ∀ xs : List D, pyAll xs = xs.map D.py
  | [] => rfl
  | x :: xs => by rw [pyAll, pyAll_map xs]; rfl
mutual
theorem py_inj : ∀ (x y : D), x.py = y.py → PySem.W.alike x.py x.py = true → x = y
  | .non, y, h, _ => by cases y <;> simp [D.py] at h ⊢
  | .bl b, y, h, _ => by cases y <;> simp [D.py] at h ⊢ <;> exact h
  | .int b, y, h, _ => by cases y <;> simp [D.py] at h ⊢ <;> exact h
  | .str b, y, h, _ => by cases y <;> simp [D.py] at h ⊢ <;> exact h
  | .lst xs, y, h, a => by
    cases y with
    | lst ys =>
      simp only [D.py, PyData.list.injEq] at h
      rw [py_injs xs ys h (by simpa [D.py, PySem.W.alike] using a)]
    | _ => simp [D.py] at h
  | .tup xs, y, h, a => by
    cases y with
    | tup ys =>
      simp only [D.py, PyData.tuple.injEq] at h
      rw [py_injs xs ys h (by simpa [D.py, PySem.W.alike] using a)]
    | _ => simp [D.py] at h
  | .cel n, y, h, a => by simp [D.py, PySem.W.alike] at a
  | .scr n, y, h, a => by simp [D.py, PySem.W.alike] at a
  | .exn n, y, h, a => by simp [D.py, PySem.W.alike] at a
theorem py_injs : ∀ (xs ys : List D), pyAll xs = pyAll ys → PySem.W.alikeAll (pyAll xs) (pyAll xs) = true → xs = ys
  | [], [], _, _ => rfl
  | [], y :: ys, h, _ => by simp [pyAll] at h
  | x :: xs, [], h, _ => by simp [pyAll] at h
  | x :: xs, y :: ys, h, a => by
    simp only [pyAll, List.cons.injEq] at h
    simp only [pyAll, PySem.W.alikeAll, Bool.and_eq_true] at a
    rw [py_inj x y h.1 a.1, py_injs xs ys h.2 a.2]
end

section
variable {X : Cx} {cl : Nat → Addr} {W : WX}
/-- the items of a list or tuple, as values that read as data -/
structure ItR (X : Cx) (H : Hp) (l : List Addr) (s : Shared) (a : Addr) (xs : List D) (its : List Value) : Prop where
  seq : s.heap.IsList a its.toArray ∨ s.heap.IsTuple a its.toArray
  is : PySem.W.EachIs (fun u d => ∃ v, RelV v u ∧ Rep X.K H l d v) its xs
  len : its.length = xs.length
  sz : its.length ≤ sizeLine
theorem each_reps {K : PySem.W.Frag} {H : Hp} {l : List Addr} : ∀ {xs : List D} {vs : List V} {us : List Value}, Reps K H l xs vs → Vals vs us → PySem.W.EachIs (fun u d => ∃ v, RelV v u ∧ Rep K H l d v) us xs
  | [], _, _, h, r => by
    cases (show _ = _ from h)
    cases r
    exact .nil
  | x :: xs, _, _, h, r => by
    obtain ⟨v, w, rfl, h1, h2⟩ := h
    cases r with
    | cons r1 r2 => exact .cons ⟨v, r1, h1⟩ (each_reps h2 r2)
theorem reps_each {K : PySem.W.Frag} {H : Hp} {l : List Addr} : ∀ {xs : List D} {us : List Value}, PySem.W.EachIs (fun u d => ∃ v, RelV v u ∧ Rep K H l d v) us xs → ∃ vs, Reps K H l xs vs ∧ Vals vs us
  | [], _, h => by
    cases h
    exact ⟨[], rfl, .nil⟩
  | x :: xs, _, h => by
    cases h with
    | cons h1 h2 =>
      obtain ⟨v, r, p⟩ := h1
      obtain ⟨vs, r2, p2⟩ := reps_each h2
      exact ⟨v :: vs, ⟨v, vs, rfl, p, r2⟩, .cons r p2⟩
theorem items_it {pins : List (Addr × Obj)} {σ : Sl} {H : Hp} {s : Shared} {l : List Addr} {d : D} {v : V} {u : Value} {xs : List D} (I : Inv X pins σ H s) (h : Rep X.K H l d v) (r : RelV v u) (e : d.items = some xs) :
    ∃ a its, u = .ref a ∧ ItR X H l s a xs its := by
  cases d with
  | lst ys =>
    cases e
    obtain ⟨a, o, vs, rfl, h1, h2⟩ := h
    cases r
    obtain ⟨its, rv, hl, hz⟩ := I.list (xs := vs) (.inl (.inr ⟨o, h1⟩))
    exact ⟨a, its, rfl, .inl hl.isList, each_reps h2 rv, by rw [← rv.length, h2.len], by rw [← rv.length]; exact hz⟩
  | tup ys =>
    cases e
    obtain ⟨a, vs, rfl, h1, h2⟩ := h
    cases r
    obtain ⟨its, rv, hl, hz⟩ := I.tuple (xs := vs) h1.sq
    exact ⟨a, its, rfl, .inr hl, each_reps h2 rv, by rw [← rv.length, h2.len], by rw [← rv.length]; exact hz⟩
  | _ => cases e
theorem each_reads {pins : List (Addr × Obj)} {σ : Sl} {H : Hp} {s : Shared} {l : List Addr} (I : Inv X pins σ H s) : ∀ {xs : List D} {us : List Value}, PySem.W.EachIs (fun u d => ∃ v, RelV v u ∧ Rep X.K H l d v) us xs → PyData.canLayAll0 (pyAll xs) = true → ∃ as, ReadsAll s.heap us (pyAll xs) as := fun h c => by
  obtain ⟨vs, r, p⟩ := reps_each h
  exact Dp.readsAll I _ vs _ (r.dp c) p

theorem intsL_eq : ∀ {xs : List D} {ns : List Int}, intsL xs = some ns → xs = ns.map D.int
  | [], ns, h => by cases h; rfl
  | x :: xs, ns, h => by
    cases x with
    | int i =>
      obtain ⟨ms, e1, e2⟩ := Option.map_eq_some_iff.mp (show (intsL xs).map (i :: ·) = some ns from h)
      subst e2
      rw [intsL_eq e1]
      rfl
    | _ => simp [intsL] at h
theorem py_ints (ns : List Int) : pyAll (ns.map D.int) = ns.map PyData.int := by
  rw [pyAll_map, List.map_map]
  rfl
theorem lay_ints : ∀ ns : List Int, PyData.canLayAll0 (ns.map PyData.int) = true
  | [] => rfl
  | n :: ns => by
    rw [List.map_cons, PyData.canLayAll0, lay_ints ns]
    rfl
theorem ltD_int (a b : Int) : ltD (.int a) (.int b) = decide (a < b) := PySem.W.dataLt_int a b
theorem best_max : ∀ (r : List Int) (a : Int), bestD true (.int a) (r.map D.int) = .int (maxL a r)
  | [], _ => rfl
  | b :: r, a => by
    unfold bestD maxL
    rw [List.map_cons, List.foldl_cons, if_pos rfl, ltD_int]
    have := best_max r (if b > a then b else a)
    unfold bestD at this
    rw [← this]
    congr 1
    by_cases h : a < b
    · rw [if_pos (by simpa using h), if_pos h]
    · rw [if_neg (by simpa using h), if_neg h]
theorem best_min : ∀ (r : List Int) (a : Int), bestD false (.int a) (r.map D.int) = .int (minL a r)
  | [], _ => rfl
  | b :: r, a => by
    unfold bestD minL
    rw [List.map_cons, List.foldl_cons]
    simp only [Bool.false_eq_true, if_false, ltD_int]
    have := best_min r (if b < a then b else a)
    unfold bestD at this
    simp only [Bool.false_eq_true, if_false] at this
    rw [← this]
    congr 1
    by_cases h : b < a
    · rw [if_pos (by simpa using h), if_pos h]
    · rw [if_neg (by simpa using h), if_neg h]
/-- what is asked of items that are compared -/
structure CmpOk (xs : List D) : Prop where
  al : PySem.W.AlikeAll (pyAll xs)
  lay : PyData.canLayAll0 (pyAll xs) = true
  dp : PyData.depthAll (pyAll xs) ≤ 50
theorem cmpOk_ints (ns : List Int) : CmpOk (ns.map D.int) where
  al := by
    rw [py_ints]
    refine ⟨fun x hx y hy => ?_, fun x hx => ?_⟩
    · obtain ⟨i, _, rfl⟩ := List.mem_map.mp hx
      obtain ⟨j, _, rfl⟩ := List.mem_map.mp hy
      rfl
    · obtain ⟨i, _, rfl⟩ := List.mem_map.mp hx
      exact fun h => by cases h
  lay := by rw [py_ints]; exact lay_ints ns
  dp := by rw [py_ints, PySem.W.depth_ints]; exact Nat.zero_le _
theorem cmpOk_of {xs : List D} (h : alikeB xs = true) : CmpOk xs := by
  unfold alikeB at h
  simp only [Bool.and_eq_true, List.all_eq_true, decide_eq_true_eq] at h
  obtain ⟨⟨⟨h1, h2⟩, h3⟩, h4⟩ := h
  refine ⟨⟨fun x hx y hy => ?_, fun x hx => ?_⟩, ?_, h3⟩
  · rw [pyAll_map] at hx hy
    obtain ⟨i, hi, rfl⟩ := List.mem_map.mp hx
    obtain ⟨j, hj, rfl⟩ := List.mem_map.mp hy
    exact h1 i hi j hj
  · rw [pyAll_map] at hx
    obtain ⟨i, hi, rfl⟩ := List.mem_map.mp hx
    intro e
    have := h2 i hi
    cases i <;> simp [D.py] at e this
  · have := SeqAt.canLay_of_shaped (show SeqAt.shaped (.list (pyAll xs)) = true by simpa [D.shaped, D.py] using h4)
    simpa [PyData.canLay0] using this
theorem mmD_some {mx : Bool} {d : Option D} {xs : List D} {r : D} (h : mmD mx d xs = some r) : (xs = [] ∧ d = some r) ∨ ∃ x rest, xs = x :: rest ∧ CmpOk xs ∧ r = bestD mx x rest := by
  unfold mmD at h
  split at h
  · rename_i e
    exact .inl ⟨by rw [intsL_eq e]; rfl, h⟩
  · rename_i a rr e
    have hx := intsL_eq e
    refine .inr ⟨.int a, rr.map D.int, by rw [hx]; rfl, by rw [hx]; exact cmpOk_ints _, ?_⟩
    cases h
    cases mx
    · rw [if_neg (by simp), best_min]
    · rw [if_pos rfl, best_max]
  · split at h
    · rename_i x rest _
      split at h
      · rename_i ha
        cases h
        exact .inr ⟨x, rest, rfl, cmpOk_of ha, rfl⟩
      · cases h
    · cases h
theorem best_py (mx : Bool) : ∀ (r : List D) (x : D), (bestD mx x r).py = (if mx then PySem.W.maxD x.py (pyAll r) else PySem.W.minD x.py (pyAll r))
  | [], x => by cases mx <;> rfl
  | y :: r, x => by
    have e : bestD mx x (y :: r) = bestD mx (if (if mx then ltD x y else ltD y x) then y else x) r := by
      unfold bestD
      rw [List.foldl_cons]
    rw [e, best_py mx r]
    cases mx
    · simp only [Bool.false_eq_true, if_false]
      unfold PySem.W.minD
      rw [pyAll, List.foldl_cons]
      congr 1
      unfold ltD
      split <;> rfl
    · simp only [if_true]
      unfold PySem.W.maxD
      rw [pyAll, List.foldl_cons]
      congr 1
      unfold ltD
      split <;> rfl
theorem best_mem (mx : Bool) : ∀ (r : List D) (x : D), bestD mx x r ∈ x :: r
  | [], x => by simp [bestD]
  | y :: r, x => by
    have e : bestD mx x (y :: r) = bestD mx (if (if mx then ltD x y else ltD y x) then y else x) r := by
      unfold bestD
      rw [List.foldl_cons]
    rw [e]
    have := best_mem mx r (if (if mx then ltD x y else ltD y x) then y else x)
    rcases List.mem_cons.mp this with h | h
    · rw [h]
      by_cases z : (if mx = true then ltD x y else ltD y x) = true
      · rw [if_pos z]; simp
      · rw [if_neg z]; simp
    · exact List.mem_cons_of_mem _ (List.mem_cons_of_mem _ h)
theorem each_at {K : PySem.W.Frag} {H : Hp} {l : List Addr} : ∀ {xs : List D} {us : List Value} {i : Nat} {u : Value}, PySem.W.EachIs (fun u d => ∃ v, RelV v u ∧ Rep K H l d v) us xs → us[i]? = some u → ∃ d v, d ∈ xs ∧ RelV v u ∧ Rep K H l d v
  | _, _, _, _, .nil, e => by simp at e
  | _, _, 0, _, .cons ⟨v, r, p⟩ _, e => by
    simp at e
    subst e
    exact ⟨_, v, by simp, r, p⟩
  | _, _, i + 1, _, .cons _ t, e => by
    obtain ⟨d, v, h1, h2, h3⟩ := each_at (i := i) t (by simpa using e)
    exact ⟨d, v, by simp [h1], h2, h3⟩
/-- the value that is told is the item's -/
theorem mm_told {pins : List (Addr × Obj)} {σ : Sl} {H : Hp} {s : Shared} {l : List Addr} {a : Addr} {xs rest : List D} {x : D} {its : List Value} {mx : Bool} (I : Inv X pins σ H s) (h : ItR X H l s a xs its) (hx : xs = x :: rest) (c : CmpOk xs) {i : Nat} {u : Value} {h' : Heap} {bs : List Addr}
    (hu : its.toArray[i]? = some u) (rd : Reads h' u (bestD mx x rest).py bs) (hk : ∀ b o, s.heap.get? b = some o → h'.get? b = some o) : ∃ v, RelV v u ∧ Rep X.K H l (bestD mx x rest) v := by
  obtain ⟨d, v, hd, r, p⟩ := each_at h.is (by simpa using hu)
  have lay : ∀ z ∈ xs, z.py.canLay0 = true ∧ PySem.W.alike z.py z.py = true := fun z hz => by
    have hz' : z.py ∈ pyAll xs := by rw [pyAll_map]; exact List.mem_map_of_mem hz
    exact ⟨PyData.canLay0_of_mem _ _ c.lay hz', c.al.1 _ hz' _ hz'⟩
  obtain ⟨as, r0⟩ := Dp.reads I _ _ _ (p.dp (lay d hd).1) r
  have r1 := PyProof.Rows.Reads.keeps hk r0
  have e : d.py = (bestD mx x rest).py := (PyProof.Rows.reads_det (fun _ _ z _ => z) r1 rd).1.symm
  rw [← py_inj d _ e (lay d hd).2]
  exact ⟨v, r, p⟩

theorem cmp_units {pins : List (Addr × Obj)} {σ : Sl} {H : Hp} {s : Shared} {xs : List D} (hu : X.A.units + 65 < cLine) (c : CmpOk xs) : X.A.units + 1 + PyData.depthAll (pyAll xs) < cLine := by
  have := c.dp
  omega
theorem mm_call {mx : Bool} {pins : List (Addr × Obj)} {σ : Sl} {H : Hp} {s : Shared} {l : List Addr} {d r : D} {xs : List D} {v : V} {u : Value} {Q : VK} (hc : X.calm = true) (hu : X.A.units + 65 < cLine) (I : Inv X pins σ H s) (hv : Rep X.K H l d v) (rv : RelV v u) (e : d.items = some xs)
    (em : mmD mx none xs = some r) (q : ∀ w, Rep X.K H l r w → Q w H) : wpAny (model X.prog X.w) X.A (call (.builtin (if mx then "max" else "min")) [u]) (EP X pins σ Q) X.xe s := by
  obtain ⟨a, its, rfl, h⟩ := items_it I hv rv e
  rcases mmD_some em with ⟨_, z⟩ | ⟨x, rest, hx, c, rfl⟩
  · cases z
  obtain ⟨as, rd⟩ := each_reads I h.is c.lay
  have hh := I.ok.hd hc
  have hal := c.al
  have hun := cmp_units (X := X) (pins := pins) (σ := σ) (H := H) (s := s) hu c
  have fin : ∀ (i : Nat) (v : Value) (h' : Heap) (tk : Nat) (bs : List Addr), its.toArray[i]? = some v → Reads h' v (bestD mx x rest).py bs → (∀ b o, s.heap.get? b = some o → h'.get? b = some o) → EP X pins σ Q v { s with heap := h', toks := tk } := fun i v h' tk bs h1 h2 h3 => by
    obtain ⟨w, rw', rp⟩ := mm_told I h hx c h1 h2 h3
    exact ⟨w, H, I.kept (t' := tk) h3, rw', q w rp⟩
  have e0 : pyAll xs = x.py :: pyAll rest := by rw [hx]; rfl
  rw [e0] at rd hal hun
  have bp := best_py mx rest x
  cases mx
  · simp only [Bool.false_eq_true, if_false] at bp ⊢
    rw [bp] at fin
    rcases h.seq with hs | hs
    · exact PySem.W.min_list_data hh hs (by simpa using rd) hal hun fin
    · exact PySem.W.min_tuple_data hh hs (by simpa using rd) hal hun fin
  · simp only [if_true] at bp ⊢
    rw [bp] at fin
    rcases h.seq with hs | hs
    · exact PySem.W.max_list_data hh hs (by simpa using rd) hal hun fin
    · exact PySem.W.max_tuple_data hh hs (by simpa using rd) hal hun fin
theorem mm_callD {mx : Bool} {pins : List (Addr × Obj)} {σ : Sl} {H : Hp} {s : Shared} {l : List Addr} {d r dd : D} {xs : List D} {v vd : V} {u ud : Value} {Q : VK} (hc : X.calm = true) (hu : X.A.units + 65 < cLine) (I : Inv X pins σ H s) (hv : Rep X.K H l d v) (rv : RelV v u) (hvd : Rep X.K H l dd vd) (rvd : RelV vd ud) (e : d.items = some xs)
    (em : mmD mx (some dd) xs = some r) (q : ∀ w, Rep X.K H l r w → Q w H) : wpAny (model X.prog X.w) X.A (call (.builtin (if mx then "max" else "min")) [u] [(Str.ofString "default", ud)]) (EP X pins σ Q) X.xe s := by
  obtain ⟨a, its, rfl, h⟩ := items_it I hv rv e
  have hh := I.ok.hd hc
  have key : CmpOk xs ∧ (xs = [] → r = dd) ∧ ∀ x rest, xs = x :: rest → r = bestD mx x rest := by
    rcases mmD_some em with ⟨h1, z⟩ | ⟨x, rest, hx, c, rfl⟩
    · cases z
      subst h1
      exact ⟨cmpOk_ints [], fun _ => rfl, fun _ _ z => by cases z⟩
    · subst hx
      exact ⟨c, fun z => (by cases z), fun _ _ z => by cases z; rfl⟩
  obtain ⟨c, k0, k1⟩ := key
  obtain ⟨as, rd⟩ := each_reads I h.is c.lay
  have hal := c.al
  have hun := cmp_units (X := X) (pins := pins) (σ := σ) (H := H) (s := s) hu c
  have f0 : pyAll xs = [] → ∀ (h' : Heap) (tk : Nat), (∀ b o, s.heap.get? b = some o → h'.get? b = some o) → EP X pins σ Q ud { s with heap := h', toks := tk } := fun z h' tk h3 => by
    have hx : xs = [] := by
      cases xs with
      | nil => rfl
      | cons _ _ => simp [pyAll] at z
    refine ⟨vd, H, I.kept (t' := tk) h3, rvd, q vd ?_⟩
    rw [k0 hx]
    exact hvd
  have f1 : ∀ (y : PyData) (ys : List PyData) (i : Nat) (v : Value) (h' : Heap) (tk : Nat) (bs : List Addr), pyAll xs = y :: ys → its.toArray[i]? = some v → Reads h' v (if mx then PySem.W.maxD y ys else PySem.W.minD y ys) bs → (∀ b o, s.heap.get? b = some o → h'.get? b = some o) → EP X pins σ Q v { s with heap := h', toks := tk } := fun y ys i v h' tk bs z h1 h2 h3 => by
    cases hx : xs with
    | nil => rw [hx] at z; simp [pyAll] at z
    | cons x rest =>
      rw [hx] at z
      simp only [pyAll, List.cons.injEq] at z
      obtain ⟨rfl, rfl⟩ := z
      rw [← best_py mx rest x] at h2
      obtain ⟨w, rw', rp⟩ := mm_told I h hx c h1 h2 h3
      refine ⟨w, H, I.kept (t' := tk) h3, rw', q w ?_⟩
      rw [k1 x rest hx]
      exact rp
  cases mx
  · simp only [Bool.false_eq_true, if_false] at f1 ⊢
    rcases h.seq with hs | hs
    · exact PySem.W.min_list_default hh hs (by simpa using rd) hal hun f0 f1
    · exact PySem.W.min_tuple_default hh hs (by simpa using rd) hal hun f0 f1
  · simp only [if_true] at f1 ⊢
    rcases h.seq with hs | hs
    · exact PySem.W.max_list_default hh hs (by simpa using rd) hal hun f0 f1
    · exact PySem.W.max_tuple_default hh hs (by simpa using rd) hal hun f0 f1

theorem sum_call {pins : List (Addr × Obj)} {σ : Sl} {H : Hp} {s : Shared} {l : List Addr} {d : D} {ns : List Int} {v : V} {u : Value} {Q : VK} (hc : X.calm = true) (I : Inv X pins σ H s) (hv : Rep X.K H l d v) (rv : RelV v u)
    (e : d.items.bind intsL = some ns) (q : Q (.int ns.sum) H) : wpAny (model X.prog X.w) X.A (call (.builtin "sum") [u]) (EP X pins σ Q) X.xe s := by
  obtain ⟨xs, e1, e2⟩ := Option.bind_eq_some_iff.mp e
  cases d with
  | lst ys =>
    cases e1
    obtain ⟨a, o, vs, rfl, h1, h2⟩ := hv
    cases rv
    refine cr_sum hc pins s σ H [.ref a] [.ref a] Q I (.cons rfl .nil) ⟨a, ns, rfl, .inl (.inr ⟨o, ?_⟩), q⟩
    rw [← h2.ints e2]
    exact h1
  | tup ys =>
    cases e1
    obtain ⟨a, vs, rfl, h1, h2⟩ := hv
    cases rv
    obtain ⟨its, rr, hl, hz⟩ := I.tuple (xs := vs) h1.sq
    rw [h2.ints e2] at rr
    have hi := rr.ints
    obtain ⟨zs, ez⟩ := hi.allInts.items
    have hn : numsOf (intItems zs).toList = ns := by rw [← ez]; exact hi.numsOf
    rw [nums_intItems] at hn
    rw [ez] at hl
    refine PySem.W.ktm_sumG (I.ok.hd hc) hl fun h' tk t' hk => ?_
    rw [preSum_eq, List.take_of_length_le (by simp), hn]
    exact ⟨.int _, H, I.kept (t' := tk) hk, ⟨_, rfl⟩, q⟩
  | _ => cases e1
theorem isort_sortD (ns : List Int) : (isort ns).map D.int = sortD (ns.map D.int) := by
  have e : (ns.mergeSort fun a b => decide (a ≤ b)).map D.int = sortD (ns.map D.int) := by
    unfold sortD
    refine List.map_mergeSort fun a _ b _ => ?_
    rw [ltD_int]
    by_cases h : a ≤ b
    · rw [decide_eq_true h, decide_eq_false (by omega)]; rfl
    · rw [decide_eq_false h, decide_eq_true (by omega)]; rfl
  rw [← e]
  congr 1
  refine sorted_eq ((isort_perm ns).trans (List.mergeSort_perm ns _).symm) (isort_sorted ns) ?_
  have := List.pairwise_mergeSort (le := fun a b : Int => decide (a ≤ b)) (fun a b c h1 h2 => by simp only [decide_eq_true_eq] at *; omega) (fun a b => by simp only [Bool.or_eq_true, decide_eq_true_eq]; omega) ns
  exact this.imp fun h => of_decide_eq_true h
theorem srtD_some {xs ys : List D} (h : srtD xs = some ys) : CmpOk xs ∧ (PySem.W.Sortable (xs.map D.py)) ∧ ys = sortD xs := by
  unfold srtD at h
  split at h
  · rename_i ns e
    have hx := intsL_eq e
    cases h
    subst hx
    refine ⟨cmpOk_ints ns, .inr fun d hd => ?_, isort_sortD ns⟩
    rw [List.map_map] at hd
    obtain ⟨i, _, rfl⟩ := List.mem_map.mp hd
    exact ⟨fun z => (by cases z), fun _ z => (by cases z)⟩
  · split at h
    · rename_i hh
      cases h
      simp only [Bool.and_eq_true, List.all_eq_true, decide_eq_true_eq] at hh
      obtain ⟨⟨h1, h2⟩, h3⟩ := hh
      refine ⟨cmpOk_of h1, .inl fun d hd => ?_, rfl⟩
      obtain ⟨x, hx, rfl⟩ := List.mem_map.mp hd
      have := h2 x hx
      cases x with
      | tup zs => cases zs with
        | nil => cases this
        | cons z zs => exact ⟨z.py, pyAll zs, rfl⟩
      | _ => cases this
    · cases h
theorem sorted_call {pins : List (Addr × Obj)} {σ : Sl} {H : Hp} {s : Shared} {l : List Addr} {d : D} {xs ys : List D} {v : V} {u : Value} {Q : VK} (hu : X.A.units + 65 < cLine) (I : Inv X pins σ H s) (hv : Rep X.K H l d v) (rv : RelV v u)
    (e : d.items = some xs) (es : srtD xs = some ys) (q : ∀ p vs, H p = none → Reps X.K H l ys vs → Q (.ref p) (upd H p (.lst vs))) : wpAny (model X.prog X.w) X.A (call (.builtin "sorted") [u]) (EP X pins σ Q) X.xe s := by
  obtain ⟨a, its, rfl, h⟩ := items_it I hv rv e
  obtain ⟨c, hs, rfl⟩ := srtD_some es
  obtain ⟨as, rd⟩ := each_reads I h.is c.lay
  have hal : PySem.W.AllAlike (xs.map D.py) := fun x hx y hy => by
    rw [← pyAll_map] at hx hy
    exact c.al.1 x hx y hy
  have er := PySem.W.readsAll_each (h := s.heap) D.py (vs := its) (bs := xs) (as := as) (by rw [← pyAll_map]; exact rd)
  have hL : xs.length ≤ sizeLine := by rw [← h.len]; exact h.sz
  have hun : ∀ b, b ∈ xs → X.A.units + 2 + b.py.depth < cLine := fun b hb => by
    have hb' : b.py ∈ pyAll xs := by rw [pyAll_map]; exact List.mem_map_of_mem hb
    have := c.dp
    have dm : ∀ (ds : List PyData) (d : PyData), d ∈ ds → d.depth ≤ PyData.depthAll ds := fun ds => by
      intro d hd
      induction ds with
      | nil => cases hd
      | cons z zs ih =>
        rw [PyData.depthAll]
        rcases List.mem_cons.mp hd with rfl | hd
        · exact Nat.le_max_left _ _
        · exact Nat.le_trans (ih hd) (Nat.le_max_right _ _)
    have := dm _ _ hb'
    omega
  have fin : ∀ out : List Value, out.length = xs.length → PySem.W.EachIs (fun u d => ∃ v, RelV v u ∧ Rep X.K H l d v) out (xs.mergeSort (PySem.W.dataLe false D.py)) → EP X pins σ Q (.ref (s.heap.objs.size + 1)) { s with heap := PyProof.Rows.sortedAll s.heap its (List.toArray out) } := fun out hl ho => by
    obtain ⟨vs, r, p⟩ := reps_each ho
    obtain ⟨ep, he'⟩ := PyProof.Rows.sortedAll_at s.heap its out.toArray
    have hlen : vs.length ≤ sizeLine := by rw [p.length, hl]; exact hL
    have eq : sortD xs = xs.mergeSort (PySem.W.dataLe false D.py) := by
      unfold sortD
      rw [PySem.W.dataLe_eq]
      rfl
    exact ⟨.ref _, upd H (s.heap.objs.size + 1) (.lst vs), I.laid (t' := s.toks) (fun _ _ => PyProof.Rows.sortedAll_old) (Nat.le_succ _) ⟨hlen, out, ep, p, he'⟩, rfl, q _ _ (I.hok.fresh (Nat.le_succ _)) (by rw [eq]; exact r)⟩
  rcases h.seq with hq | hq
  · exact PySem.W.sorted_data hq h.is er hal hs hL hun fin
  · exact PySem.W.sorted_dataT hq h.is er hal hs hL hun fin
end
end Dm

set_option Elab.async false
set_option linter.all false
set_option maxRecDepth 100000
set_option maxHeartbeats 4000000
set_option autoImplicit false
/-! Dm6: built-in functions. -/
namespace Dm
open PySem PySem.Spec PyProof.Rows L2

/-! ### the calls -/
def rBi (g : Gx) (W : WX) (b : Bi) : List V → Hp → VK → Prop := fun vs H Q => ∃ Kp σ l st ds, Rel g.K Kp σ H l st ∧ Reps g.K H l ds vs ∧ Fin g.K g.cl W Kp σ H l (lift (fun m => biD m b ds) st) fun r st' H' l' => ∀ v, RvR g.K Kp σ H' l' st' r v → Q v H'
section
variable {X : Cx} {cl : Nat → Addr} {W : WX}
theorem reps1 {K : PySem.W.Frag} {H : Hp} {l : List Addr} {d : D} {vs : List V} (h : Reps K H l [d] vs) : ∃ v, vs = [v] ∧ Rep K H l d v := by
  obtain ⟨v, r, e, h1, h2⟩ := h
  cases (show _ = _ from h2)
  exact ⟨v, e, h1⟩
theorem reps2 {K : PySem.W.Frag} {H : Hp} {l : List Addr} {d d2 : D} {vs : List V} (h : Reps K H l [d, d2] vs) : ∃ v v2, vs = [v, v2] ∧ Rep K H l d v ∧ Rep K H l d2 v2 := by
  obtain ⟨v, r, e, h1, h2⟩ := h
  obtain ⟨v2, e2, h3⟩ := reps1 h2
  exact ⟨v, v2, by rw [e, e2], h1, h3⟩
/-- the answer that the interpreter tells -/
theorem rBi_read {b : Bi} {vs : List V} {H : Hp} {Q : VK} (h : rBi (gx X cl) W b vs H Q) : ∃ Kp σ l st ds r, Rel X.K Kp σ H l st ∧ Reps X.K H l ds vs ∧ biD st.mem b ds = some r ∧ Fin X.K cl W Kp σ H l (.ok r st) fun r st' H' l' => ∀ v, RvR X.K Kp σ H' l' st' r v → Q v H' := by
  obtain ⟨Kp, σ, l, st, ds, R, hr, hF⟩ := h
  obtain ⟨r, e, hF⟩ := fin_lift hF
  exact ⟨Kp, σ, l, st, ds, r, R, hr, e, hF⟩
theorem lenV_of {m : List Cell} {K : PySem.W.Frag} {H : Hp} {l : List Addr} {d : D} {v : V} {n : Nat} (e : lenD m d = some n) (h : Rep K H l d v) (hc : ∀ (j : Nat) (a : Addr) (c : Cell), l[j]? = some a → m[j]? = some c → CellRep K H l a c) : LenV K v H n := by
  cases d with
  | lst xs =>
    obtain ⟨a, o, vs, rfl, h1, h2⟩ := h
    cases e
    exact .inl ⟨vs, .inl (.inr ⟨o, h1⟩), h2.len.symm⟩
  | tup xs =>
    obtain ⟨a, vs, rfl, h1, h2⟩ := h
    cases e
    exact .inr ⟨vs, h1.sq, h2.len.symm⟩
  | scr ns =>
    obtain ⟨a, rfl, h1⟩ := h
    cases e
    exact .inl ⟨_, h1.sq, by simp⟩
  | str x =>
    cases h
    simp only [lenD] at e
    split at e
    · rename_i c
      cases e
      exact ⟨lim_line c, rfl⟩
    · cases e
  | cel j =>
    obtain ⟨a, rfl, h1⟩ := h
    simp only [lenD] at e
    split at e
    · rename_i xs em
      cases e
      obtain ⟨vs, h2, h3⟩ := hc j a _ h1 em
      exact .inl ⟨vs, .inl (.inl h2), h3.len.symm⟩
    · cases e
  | _ => cases e
theorem cr_len : CallR X (.builtin "len") (rBi (gx X cl) W .len) := by
  intro pins s σ H xs us Q I r h
  obtain ⟨Kp, σ', l, st, ds, rr, R, hr, e, hF⟩ := rBi_read h
  match ds, e with
  | [d], e =>
    simp only [biD] at e
    obtain ⟨n, e1, e2⟩ := Option.map_eq_some_iff.mp e
    subst e2
    obtain ⟨v, rfl, hv⟩ := reps1 hr
    exact call_len pins s σ H _ us Q I r ⟨v, n, rfl, lenV_of e1 hv R.cells, hF.ok R _ rfl⟩
theorem cr_abs : CallR X (.builtin "abs") (rBi (gx X cl) W .abs) := by
  intro pins s σ H xs us Q I r h
  obtain ⟨Kp, σ', l, st, ds, rr, R, hr, e, hF⟩ := rBi_read h
  match ds, e with
  | [.int i], e =>
    cases e
    obtain ⟨v, rfl, hv⟩ := reps1 hr
    cases hv
    exact call_abs pins s σ H _ us Q I r ⟨i, rfl, hF.ok R _ rfl⟩
theorem cr_int : CallR X (.type "int") (rBi (gx X cl) W .int) := by
  intro pins s σ H xs us Q I r h
  obtain ⟨Kp, σ', l, st, ds, rr, R, hr, e, hF⟩ := rBi_read h
  match ds, e with
  | [.int i], e =>
    cases e
    obtain ⟨v, rfl, hv⟩ := reps1 hr
    cases hv
    exact call_int1 pins s σ H _ us Q I r (.inl ⟨i, rfl, hF.ok R _ rfl⟩)
  | [.bl b], e =>
    cases e
    obtain ⟨v, rfl, hv⟩ := reps1 hr
    cases hv
    exact call_int1 pins s σ H _ us Q I r (.inr ⟨b, rfl, hF.ok R _ rfl⟩)
theorem sh_some {d : D} {r : EV} (h : shD d = some r) : r = .val (.str d.py.shown) ∧ d.py.canLay0 = true ∧ d.py.showable = true ∧ d.py.depth ≤ 50 ∧ d.py.shown.length ≤ sizeLine := by
  unfold shD at h
  split at h
  · rename_i b
    cases h
    unfold showB at b
    simp only [Bool.and_eq_true, decide_eq_true_eq] at b
    obtain ⟨⟨⟨b1, b2⟩, b3⟩, b4⟩ := b
    exact ⟨rfl, b1, b2, b3, by rw [sizeLine_eq]; omega⟩
  · cases h
theorem shown_int_ok {i : Int} (h : (PyData.int i).showable = true) : i.natAbs.log2 < 1920 := by simpa [PyData.showable] using h
theorem cr_repr (hg : X.A.guards = some []) (hu : X.A.units + 65 < cLine) : CallR X (.builtin "repr") (rBi (gx X cl) W .repr) := by
  intro pins s σ H xs us Q I r h
  obtain ⟨Kp, σ', l, st, ds, rr, R, hr, e, hF⟩ := rBi_read h
  match ds, e with
  | [d], e =>
    obtain ⟨rfl, c1, c2, c3, c4⟩ := sh_some (show shD d = some rr from e)
    obtain ⟨v, rfl, hv⟩ := reps1 hr
    obtain ⟨u, rfl, ru⟩ := r.one
    have q : Q (.str d.py.shown) H := hF.ok R _ rfl
    have big : ∀ a, u = .ref a → wpAny (model X.prog X.w) X.A (call (.builtin "repr") [u]) (EP X pins σ Q) X.xe s := fun a ea => by
      obtain ⟨as, rd⟩ := Dp.reads I _ _ _ (hv.dp c1) ru
      subst ea
      exact repr_of_reads' rd c2 (PyData.noDict_hsm (PyData.hasDict_of_canLay _ c1)) hg (by omega) (fun _ _ z => z) (fun h' t tk hk => ⟨.str _, H, I.kept (t' := tk) hk, ⟨_, rfl⟩, q⟩) c4
    cases d with
    | non =>
      cases hv
      obtain rfl : u = Value.none := ru
      rw [D.py, PyData.shown_none] at q
      exact PySem.P.repr_of_none ⟨.str _, H, I.tok _, ⟨_, rfl⟩, q⟩
    | bl b =>
      cases hv
      obtain rfl : u = Value.bool b := ru
      rw [D.py, PyData.shown_bool] at q
      exact PySem.P.repr_of_bool ⟨.str _, H, I.tok _, ⟨_, rfl⟩, q⟩
    | int i =>
      cases hv
      obtain ⟨t, rfl⟩ := ru
      rw [D.py, PyData.shown_int] at q
      exact PySem.P.repr_of_int (shown_int_ok c2) ⟨.str _, H, I.tok _, ⟨_, rfl⟩, q⟩
    | str x =>
      cases hv
      obtain ⟨t, rfl⟩ := ru
      rw [D.py, PyData.shown_str] at q c4
      exact PySem.P.repr_of_str ⟨.str _, H, I.tok _, ⟨_, rfl⟩, q⟩ c4
    | lst ys =>
      obtain ⟨a, o, vs, rfl, h1, h2⟩ := id hv
      exact big a ru
    | tup ys =>
      obtain ⟨a, vs, rfl, h1, h2⟩ := id hv
      exact big a ru
    | _ => simp [D.py, PyData.canLay0] at c1
theorem cr_str (hg : X.A.guards = some []) (hu : X.A.units + 65 < cLine) : CallR X (.type "str") (rBi (gx X cl) W .str) := by
  intro pins s σ H xs us Q I r h
  obtain ⟨Kp, σ', l, st, ds, rr, R, hr, e, hF⟩ := rBi_read h
  match ds, e with
  | [.int i], e =>
    simp only [biD] at e
    split at e
    · rename_i c
      cases e
      obtain ⟨v, rfl, hv⟩ := reps1 hr
      cases hv
      exact call_str_int pins s σ H _ us Q I r ⟨i, rfl, c, hF.ok R _ rfl⟩
    · cases e
  | [.str x], e =>
    cases e
    obtain ⟨v, rfl, hv⟩ := reps1 hr
    obtain ⟨u, rfl, ru⟩ := r.one
    cases hv
    obtain ⟨t, rfl⟩ := ru
    exact PySem.P.str_of_str ⟨.str _, H, I, ⟨_, rfl⟩, hF.ok R _ rfl⟩
  | [.non], e =>
    obtain ⟨rfl, c1, c2, c3, c4⟩ := sh_some (show shD .non = some rr from e)
    obtain ⟨v, rfl, hv⟩ := reps1 hr
    obtain ⟨u, rfl, ru⟩ := r.one
    cases hv
    obtain rfl : u = Value.none := ru
    have q : Q (.str (D.non).py.shown) H := hF.ok R _ rfl
    rw [D.py, PyData.shown_none] at q
    exact PySem.P.str_of_none ⟨.str _, H, I.tok _, ⟨_, rfl⟩, q⟩
  | [.bl b], e =>
    obtain ⟨rfl, c1, c2, c3, c4⟩ := sh_some (show shD (.bl b) = some rr from e)
    obtain ⟨v, rfl, hv⟩ := reps1 hr
    obtain ⟨u, rfl, ru⟩ := r.one
    cases hv
    obtain rfl : u = Value.bool b := ru
    have q : Q (.str (D.bl b).py.shown) H := hF.ok R _ rfl
    rw [D.py, PyData.shown_bool] at q
    exact PySem.P.str_of_bool ⟨.str _, H, I.tok _, ⟨_, rfl⟩, q⟩
  | [.lst ys], e =>
    obtain ⟨rfl, c1, c2, c3, c4⟩ := sh_some (show shD (.lst ys) = some rr from e)
    obtain ⟨v, rfl, hv⟩ := reps1 hr
    obtain ⟨u, rfl, ru⟩ := r.one
    obtain ⟨as, rd⟩ := Dp.reads I _ _ _ (hv.dp c1) ru
    obtain ⟨a, o, vs, rfl, h1, h2⟩ := hv
    obtain rfl : u = Value.ref a := ru
    have q : Q (.str (D.lst ys).py.shown) H := hF.ok R _ rfl
    exact str_of_reads rd c2 (PyData.noDict_hsm (PyData.hasDict_of_canLay _ c1)) hg (by omega) (fun _ _ z => z) (fun h' t tk hk => ⟨.str _, H, I.kept (t' := tk) hk, ⟨_, rfl⟩, q⟩) c4
  | [.tup ys], e =>
    obtain ⟨rfl, c1, c2, c3, c4⟩ := sh_some (show shD (.tup ys) = some rr from e)
    obtain ⟨v, rfl, hv⟩ := reps1 hr
    obtain ⟨u, rfl, ru⟩ := r.one
    obtain ⟨as, rd⟩ := Dp.reads I _ _ _ (hv.dp c1) ru
    obtain ⟨a, vs, rfl, h1, h2⟩ := hv
    obtain rfl : u = Value.ref a := ru
    have q : Q (.str (D.tup ys).py.shown) H := hF.ok R _ rfl
    exact str_of_reads rd c2 (PyData.noDict_hsm (PyData.hasDict_of_canLay _ c1)) hg (by omega) (fun _ _ z => z) (fun h' t tk hk => ⟨.str _, H, I.kept (t' := tk) hk, ⟨_, rfl⟩, q⟩) c4
  | [.cel n], e =>
    have c := (sh_some (show shD (.cel n) = some rr from e)).2.1
    simp [D.py, PyData.canLay0] at c
  | [.scr n], e =>
    have c := (sh_some (show shD (.scr n) = some rr from e)).2.1
    simp [D.py, PyData.canLay0] at c
  | [.exn n], e =>
    have c := (sh_some (show shD (.exn n) = some rr from e)).2.1
    simp [D.py, PyData.canLay0] at c
theorem sq_items {K : PySem.W.Frag} {H : Hp} {l : List Addr} {d : D} {v : V} {xs : List D} (h : Rep K H l d v) (e : d.items = some xs) : ∃ a vs, v = .ref a ∧ Reps K H l xs vs ∧ ((d = .lst xs ∧ ∃ o, H a = some (.frz o (.lst vs))) ∨ (d = .tup xs ∧ TupO H a vs)) := by
  cases d with
  | lst ys =>
    cases e
    obtain ⟨a, o, vs, rfl, h1, h2⟩ := h
    exact ⟨a, vs, rfl, h2, .inl ⟨rfl, o, h1⟩⟩
  | tup ys =>
    cases e
    obtain ⟨a, vs, rfl, h1, h2⟩ := h
    exact ⟨a, vs, rfl, h2, .inr ⟨rfl, h1⟩⟩
  | _ => cases e
theorem cr_list : CallR X (.type "list") (rBi (gx X cl) W .list) := by
  intro pins s σ H xs us Q I r h
  obtain ⟨Kp, σ', l, st, ds, rr, R, hr, e, hF⟩ := rBi_read h
  match ds, e with
  | [d], e =>
    obtain ⟨ys, e1, e2⟩ := Option.map_eq_some_iff.mp (show d.items.map EV.own = some rr from e)
    subst e2
    obtain ⟨v, rfl, hv⟩ := reps1 hr
    obtain ⟨a, vs, rfl, hvs, hh⟩ := sq_items hv e1
    refine call_list_of pins s σ H _ us Q I r ⟨a, vs, rfl, ?_, fun p hp => hF _ l (R.new hp) (.new hp) (List.prefix_refl _) _ (R.ownNew hp hvs)⟩
    rcases hh with ⟨_, o, hh⟩ | ⟨_, hh⟩
    · exact .inl (.inl (.inr ⟨o, hh⟩))
    · exact .inr hh.sq
theorem cr_tuple : CallR X (.type "tuple") (rBi (gx X cl) W .tuple) := by
  intro pins s σ H xs us Q I r h
  obtain ⟨Kp, σ', l, st, ds, rr, R, hr, e, hF⟩ := rBi_read h
  match ds, e with
  | [d], e =>
    obtain ⟨ys, e1, e2⟩ := Option.map_eq_some_iff.mp (show d.items.map (fun xs => EV.val (.tup xs)) = some rr from e)
    subst e2
    obtain ⟨v, rfl, hv⟩ := reps1 hr
    obtain ⟨a, vs, rfl, hvs, hh⟩ := sq_items hv e1
    refine call_tupleZ pins s σ H _ us Q I r ⟨a, vs, rfl, ?_⟩
    rcases hh with ⟨_, o, hh⟩ | ⟨_, hh⟩
    · exact .inl ⟨.inl (.inr ⟨o, hh⟩), fun p o hp ho => hF _ l (R.new hp) (.new hp) (List.prefix_refl _) _ (Rel.tupNew hp hvs ho)⟩
    · exact .inr ⟨hh.sq, hF.ok R _ ⟨a, vs, rfl, hh, hvs⟩⟩
/-- a list of ints, of bools -/
theorem sq_ints {K : PySem.W.Frag} {H : Hp} {l : List Addr} {v : V} {xs : List D} {ns : List Int} (h : Rep K H l (.lst xs) v) (e : intsL xs = some ns) : ∃ a, v = .ref a ∧ SqL K H a (ns.map V.int) := by
  obtain ⟨a, o, vs, rfl, h1, h2⟩ := h
  exact ⟨a, rfl, .inl (.inr ⟨o, by rw [h1, h2.ints e]⟩)⟩
theorem sq_bls {K : PySem.W.Frag} {H : Hp} {l : List Addr} {v : V} {xs : List D} {ns : List Bool} (h : Rep K H l (.lst xs) v) (e : bls xs = some ns) : ∃ a, v = .ref a ∧ SqL K H a (ns.map V.bl) := by
  obtain ⟨a, o, vs, rfl, h1, h2⟩ := h
  exact ⟨a, rfl, .inl (.inr ⟨o, by rw [h1, h2.bls e]⟩)⟩
theorem cr_sumD (hc : X.calm = true) : CallR X (.builtin "sum") (rBi (gx X cl) W .sum) := by
  intro pins s σ H xs us Q I r h
  obtain ⟨Kp, σ', l, st, ds, rr, R, hr, e, hF⟩ := rBi_read h
  match ds, e with
  | [d], e =>
    obtain ⟨ns, e1, e2⟩ := Option.map_eq_some_iff.mp (show (d.items.bind intsL).map (fun ns => EV.val (.int ns.sum)) = some rr by simpa only [biD] using e)
    subst e2
    obtain ⟨v, rfl, hv⟩ := reps1 hr
    obtain ⟨u, rfl, ru⟩ := r.one
    exact sum_call hc I hv ru e1 (hF.ok R _ rfl)
theorem cr_allD (hc : X.calm = true) : CallR X (.builtin "all") (rBi (gx X cl) W .all) := by
  intro pins s σ H xs us Q I r h
  obtain ⟨Kp, σ', l, st, ds, rr, R, hr, e, hF⟩ := rBi_read h
  match ds, e with
  | [.lst ys], e =>
    obtain ⟨ns, e1, e2⟩ := Option.map_eq_some_iff.mp (show (bls ys).map _ = some rr from e)
    subst e2
    obtain ⟨v, rfl, hv⟩ := reps1 hr
    obtain ⟨a, rfl, hs⟩ := sq_bls hv e1
    exact cr_all hc pins s σ H _ us Q I r ⟨a, ns, rfl, hs, hF.ok R _ rfl⟩
theorem cr_anyD (hc : X.calm = true) : CallR X (.builtin "any") (rBi (gx X cl) W .any) := by
  intro pins s σ H xs us Q I r h
  obtain ⟨Kp, σ', l, st, ds, rr, R, hr, e, hF⟩ := rBi_read h
  match ds, e with
  | [.lst ys], e =>
    obtain ⟨ns, e1, e2⟩ := Option.map_eq_some_iff.mp (show (bls ys).map _ = some rr from e)
    subst e2
    obtain ⟨v, rfl, hv⟩ := reps1 hr
    obtain ⟨a, rfl, hs⟩ := sq_bls hv e1
    exact cr_any hc pins s σ H _ us Q I r ⟨a, ns, rfl, hs, hF.ok R _ rfl⟩
theorem cr_maxD (hc : X.calm = true) (hu : X.A.units + 65 < cLine) : CallR X (.builtin "max") (rBi (gx X cl) W .max) := by
  intro pins s σ H xs us Q I r h
  obtain ⟨Kp, σ', l, st, ds, rr, R, hr, e, hF⟩ := rBi_read h
  match ds, e with
  | [.int i, .int j], e =>
    cases e
    obtain ⟨v, w, rfl, hv, hw⟩ := reps2 hr
    cases hv; cases hw
    exact call_max2 hc pins s σ H _ us Q I r ⟨i, j, rfl, hF.ok R _ rfl⟩
  | [d], e =>
    obtain ⟨xs', e1, e2⟩ := Option.bind_eq_some_iff.mp (show (d.items.bind fun xs => (mmD true none xs).map EV.val) = some rr by simpa only [biD] using e)
    obtain ⟨y, e3, e4⟩ := Option.map_eq_some_iff.mp e2
    subst e4
    obtain ⟨v, rfl, hv⟩ := reps1 hr
    obtain ⟨u, rfl, ru⟩ := r.one
    exact mm_call (mx := true) hc hu I hv ru e1 e3 fun w hw => hF.ok R _ hw
theorem cr_minD (hc : X.calm = true) (hu : X.A.units + 65 < cLine) : CallR X (.builtin "min") (rBi (gx X cl) W .min) := by
  intro pins s σ H xs us Q I r h
  obtain ⟨Kp, σ', l, st, ds, rr, R, hr, e, hF⟩ := rBi_read h
  match ds, e with
  | [.int i, .int j], e =>
    cases e
    obtain ⟨v, w, rfl, hv, hw⟩ := reps2 hr
    cases hv; cases hw
    exact call_min2 hc pins s σ H _ us Q I r ⟨i, j, rfl, hF.ok R _ rfl⟩
  | [d], e =>
    obtain ⟨xs', e1, e2⟩ := Option.bind_eq_some_iff.mp (show (d.items.bind fun xs => (mmD false none xs).map EV.val) = some rr by simpa only [biD] using e)
    obtain ⟨y, e3, e4⟩ := Option.map_eq_some_iff.mp e2
    subst e4
    obtain ⟨v, rfl, hv⟩ := reps1 hr
    obtain ⟨u, rfl, ru⟩ := r.one
    exact mm_call (mx := false) hc hu I hv ru e1 e3 fun w hw => hF.ok R _ hw
theorem Reps.ofInts {K : PySem.W.Frag} {H : Hp} {l : List Addr} : ∀ (ns : List Int), Reps K H l (ns.map D.int) (ns.map V.int)
  | [] => .nil
  | n :: ns => .cons (show Rep K H l (.int n) (.int n) from rfl) (Reps.ofInts ns)
theorem cr_sortedD (hu : X.A.units + 65 < cLine) : CallR X (.builtin "sorted") (rBi (gx X cl) W .sorted) := by
  intro pins s σ H xs us Q I r h
  obtain ⟨Kp, σ', l, st, ds, rr, R, hr, e, hF⟩ := rBi_read h
  match ds, e with
  | [d], e =>
    obtain ⟨xs', e1, e2⟩ := Option.bind_eq_some_iff.mp (show (d.items.bind fun xs => (srtD xs).map EV.own) = some rr by simpa only [biD] using e)
    obtain ⟨y, e3, e4⟩ := Option.map_eq_some_iff.mp e2
    subst e4
    obtain ⟨v, rfl, hv⟩ := reps1 hr
    obtain ⟨u, rfl, ru⟩ := r.one
    exact sorted_call hu I hv ru e1 e3 fun p vs hp hvs => hF _ l (R.new hp) (.new hp) (List.prefix_refl _) _ (R.ownNew hp hvs)
/-- the names of the built-in functions; what they hold -/
def biF : Bi → Option (Str × String × Bool)
  | .len => some ("len", "len", false)
  | .abs => some ("abs", "abs", false)
  | .int => some ("int", "int", true)
  | .str => some ("str", "str", true)
  | .list => some ("list", "list", true)
  | .tuple => some ("tuple", "tuple", true)
  | .sorted => some ("sorted", "sorted", false)
  | .sum => some ("sum", "sum", false)
  | .max => some ("max", "max", false)
  | .min => some ("min", "min", false)
  | .all => some ("all", "all", false)
  | .any => some ("any", "any", false)
  | .repr => some ("repr", "repr", false)
  | _ => none
def biV : String × Bool → Value
  | (x, false) => .builtin x
  | (x, true) => .type x
theorem cr_bi (hgd : X.A.guards = some []) (hc : X.calm = true) (hu : X.A.units + 65 < cLine) {b : Bi} {x : Str} {v : String × Bool} (h : biF b = some (x, v)) : CallR X (biV v) (rBi (gx X cl) W b) ∧ bootBuiltins x = some (biV v) ∧ x ∈ bltNames ∧ x ≠ "__name__" ∧ (x == ("__debug__" : Str)) = false := by
  cases b with
  | len => cases h; exact ⟨cr_len, by decide +kernel, by decide +kernel, by decide +kernel, by decide +kernel⟩
  | abs => cases h; exact ⟨cr_abs, by decide +kernel, by decide +kernel, by decide +kernel, by decide +kernel⟩
  | int => cases h; exact ⟨cr_int, by decide +kernel, by decide +kernel, by decide +kernel, by decide +kernel⟩
  | str => cases h; exact ⟨cr_str hgd hu, by decide +kernel, by decide +kernel, by decide +kernel, by decide +kernel⟩
  | list => cases h; exact ⟨cr_list, by decide +kernel, by decide +kernel, by decide +kernel, by decide +kernel⟩
  | tuple => cases h; exact ⟨cr_tuple, by decide +kernel, by decide +kernel, by decide +kernel, by decide +kernel⟩
  | sorted => cases h; exact ⟨cr_sortedD hu, by decide +kernel, by decide +kernel, by decide +kernel, by decide +kernel⟩
  | sum => cases h; exact ⟨cr_sumD hc, by decide +kernel, by decide +kernel, by decide +kernel, by decide +kernel⟩
  | max => cases h; exact ⟨cr_maxD hc hu, by decide +kernel, by decide +kernel, by decide +kernel, by decide +kernel⟩
  | min => cases h; exact ⟨cr_minD hc hu, by decide +kernel, by decide +kernel, by decide +kernel, by decide +kernel⟩
  | all => cases h; exact ⟨cr_allD hc, by decide +kernel, by decide +kernel, by decide +kernel, by decide +kernel⟩
  | any => cases h; exact ⟨cr_anyD hc, by decide +kernel, by decide +kernel, by decide +kernel, by decide +kernel⟩
  | repr => cases h; exact ⟨cr_repr hgd hu, by decide +kernel, by decide +kernel, by decide +kernel, by decide +kernel⟩
  | _ => cases h
/-- the call by name -/
theorem pe_biC {b : Bi} {x : Str} {v : String × Bool} {e : Expr} {es : List Expr} {cs : C (List D)} {p pos : Pos} (hb : biF b = some (x, v)) (hgd : X.A.guards = some []) (hc : X.calm = true) (hu : X.A.units + 65 < cLine) (hg : Gl X x) (hm : ∀ x ∈ bltNames, X.mg x = none) (ha : PA X (e :: es) (ra (gx X cl) W cs)) (hn : (e :: es).all noStar = true) :
    PE X (.Call (.Name x p) (e :: es) [] pos) (rd (gx X cl) W (bnd cs fun ds => lift fun m => biD m b ds)) := by
  obtain ⟨hr, hv, hmem, h1, h2⟩ := cr_bi (X := X) (cl := cl) (W := W) hgd hc hu hb
  have key : PE X (.Call (.Name x p) (e :: es) [] pos) (tCB (rBi (gx X cl) W b) (ra (gx X cl) W cs)) := by
    rw [List.all_cons, Bool.and_eq_true] at hn
    obtain ⟨y, k⟩ := v
    cases k with
    | false => exact pe_callB hr hg (hm x hmem) hv ha h1 h2 (star_cons hn.1) (star_back hn.2)
    | true => exact pe_callTy hr hg (hm x hmem) hv ha h1 h2 (star_cons hn.1) (star_back hn.2)
  refine PE.imp key fun σ H Q q => ?_
  obtain ⟨Kp, l, st, R, f⟩ := q
  exact ⟨Kp, l, st, R, (Fin.bnd f).imp fun ds st1 H1 l1 R1 _ _ f1 vs hvs => ⟨Kp, σ, l1, st1, ds, R1, hvs, f1⟩⟩

/-! ### len(set(..)) of numbers -/
theorem firstL_met (ns : List Int) : PyProof.Rows.firstMet (fun i => ns.getD i 0) ns.length = firstL ns := by
  unfold PyProof.Rows.firstMet firstL
  have e : (List.range ns.length).map (fun i => ns.getD i 0) = ns := by
    refine List.ext_getElem (by simp) fun i h1 h2 => by simp [h2]
  rw [e]
  rfl
theorem intsAreD : ∀ {ns : List Int} {us : List Value}, Vals (ns.map V.int) us → PyProof.Rows.IntsAre us ns
  | [], _, .nil => .nil
  | n :: ns, _, .cons r t => by
    obtain ⟨k, rfl⟩ := r
    exact .cons n k (intsAreD t)
theorem firstL_facts : ∀ {ns acc : List Int}, acc.Nodup → (ns.foldl (fun acc x => if acc.any (· == x) then acc else acc ++ [x]) acc).Nodup ∧ ∀ j, j ∈ ns.foldl (fun acc x => if acc.any (· == x) then acc else acc ++ [x]) acc ↔ j ∈ acc ∨ j ∈ ns
  | [], acc, h => ⟨h, fun j => by simp⟩
  | x :: ns, acc, h => by
    rw [List.foldl_cons]
    by_cases hx : x ∈ acc
    · have e : acc.any (· == x) = true := List.any_eq_true.mpr ⟨x, hx, by simp⟩
      rw [if_pos e]
      obtain ⟨h1, h2⟩ := firstL_facts (ns := ns) h
      refine ⟨h1, fun j => ?_⟩
      rw [h2 j, List.mem_cons]
      constructor
      · rintro (z | z)
        · exact .inl z
        · exact .inr (.inr z)
      · rintro (z | z | z)
        · exact .inl z
        · subst z; exact .inl hx
        · exact .inr z
    · have e : acc.any (· == x) = false := by
        rw [List.any_eq_false]
        intro y hy z
        have : y = x := by simpa using z
        subst this
        exact hx hy
      rw [e, if_neg (by simp)]
      have hn : (acc ++ [x]).Nodup := by
        rw [List.nodup_append]
        exact ⟨h, by simp, fun a ha b hb z => by
          have : b = x := by simpa using hb
          subst this
          subst z
          exact hx ha⟩
      obtain ⟨h1, h2⟩ := firstL_facts (ns := ns) hn
      refine ⟨h1, fun j => ?_⟩
      rw [h2 j, List.mem_append, List.mem_singleton, List.mem_cons, or_assoc]
theorem firstL_size {ns ks : List Int} (h1 : ks.Nodup) (h2 : ∀ j, j ∈ ns ↔ j ∈ ks) : ks.length = (firstL ns).length := by
  obtain ⟨a, b⟩ := firstL_facts (ns := ns) (acc := []) List.nodup_nil
  refine List.Perm.length_eq ((List.perm_ext_iff_of_nodup h1 a).mpr fun j => ?_)
  rw [← h2 j]
  exact ((b j).trans (by simp)).symm
theorem pe_lensetC {a : Expr} {ca : C EV} {p p2 q pos : Pos} (hc : X.calm = true) (hg : Gl X "len") (hg2 : Gl X "set") (hm : ∀ x ∈ bltNames, X.mg x = none) (ha : PE X a (rd (gx X cl) W ca)) (hn : noStar a = true) :
    PE X (.Call (.Name "len" p) [.Call (.Name "set" p2) [a] [] q] [] pos) (rd (gx X cl) W (bnd ca fun x => lift fun m => biD m .lenset [x.d])) := by
  have na : starEach [a] X.env = (false, eval a X.env) :: starEach [] X.env := star_cons hn
  refine ⟨fun pins s σ H Q I h => ?_⟩
  obtain ⟨Kp, l, st, R, f⟩ := h
  refine Call_ (ld_blt I hg (hm _ (by decide +kernel)) boot_len ?_)
  refine PyProof.Rows.callWith_builtin1 (PyProof.Rows.args_cons ?_ rfl) rfl rfl
  refine Call_ (ld_blt I hg2 (hm _ (by decide +kernel)) boot_set ?_)
  refine PyProof.Rows.callWith_type1 (PyProof.Rows.args_cons (thn ((pe_rz ha).run pins s σ H (fun v H1 => ∃ l1 st1 d, Rel X.K Kp σ H1 l1 st1 ∧ Rep X.K H1 l1 d v ∧ Fin X.K cl W Kp σ H1 l1 (lift (fun m => biD m .lenset [d]) st1) fun r st' H' l' => ∀ v, RvR X.K Kp σ H' l' st' r v → Q v H') I ⟨Kp, l, st, R, (Fin.bnd f).imp fun x st1 H1 l1 R1 _ _ f1 v hv => ⟨l1, st1, x.d, R1, hv, f1⟩⟩) fun v s1 ⟨x, H1, I1, r1, q1⟩ => PyProof.Rows.args_nil ?_) na) na rfl
  obtain ⟨l1, st1, d, R1, hv, hF⟩ := q1
  obtain ⟨rr, e, hF⟩ := fin_lift hF
  match d, e with
  | .lst ys, e =>
    obtain ⟨ns, e1, e2⟩ := Option.bind_eq_some_iff.mp (show (((some ys).bind intsL).bind fun ns => if ns.length ≤ 4000 then some (EV.val (.int ((firstL ns).length : Nat))) else none) = some rr from e)
    split at e2
    · rename_i hl
      cases e2
      have e1 : intsL ys = some ns := e1
      obtain ⟨b, rfl, hq⟩ := sq_ints hv e1
      cases r1
      obtain ⟨its, r, pl, hz⟩ := I1.list hq
      have hlen : its.toArray.size = ns.length := by rw [List.size_toArray, ← r.length, List.length_map]
      refine call_set_list (I1.ok.hd hc) pl.isList (by simpa using intsAreD r) (by rw [hlen]; unfold scanBound; omega) fun h' tk hS hk => ?_
      refine PyProof.Rows.args_nil ?_
      rw [hlen, firstL_met] at hS
      obtain ⟨o, es, ep, t, ho, hex, hd, _, _, _, hf, hn⟩ := hS
      have I2 : Inv X pins σ H1 { s1 with heap := h', toks := tk } := I1.kept fun b o e => hk b o (Heap.lt_size e) e
      have hb : (firstL ns).length ≤ ns.length := by
        rw [← firstL_met]
        exact PyProof.Rows.firstMet_length_le _ _
      exact call_len_set ho hex hd hf (by rw [hn] <;> omega) ⟨.int ((firstL ns).length : Nat), H1, I2.tok _, ⟨_, by rw [hn]⟩, hF.ok R1 _ rfl⟩
    · cases e2
  | .tup ys, e =>
    obtain ⟨ns, e1, e2⟩ := Option.bind_eq_some_iff.mp (show (((some ys).bind intsL).bind fun ns => if ns.length ≤ 4000 then some (EV.val (.int ((firstL ns).length : Nat))) else none) = some rr from e)
    split at e2
    · rename_i hl
      cases e2
      have e1 : intsL ys = some ns := e1
      obtain ⟨b, vs, rfl, g1, g2⟩ := hv
      cases r1
      rw [g2.ints e1] at g1
      obtain ⟨its, r, pl, hz⟩ := I1.tuple (xs := ns.map V.int) g1.sq
      have hlen : its.toArray.size = ns.length := by rw [List.size_toArray, ← r.length, List.length_map]
      refine call_set_tupI ns (I1.ok.hd hc) pl (by simpa using intsAreD r) (by unfold scanBound; omega) fun h' tk cnt hS hcl hk => ?_
      refine PyProof.Rows.args_nil ?_
      obtain ⟨o, es, ep, t, ho, hex, hd, _, hnd, hmem, _, hf, hsz, _⟩ := hS
      have I2 : Inv X pins σ H1 { s1 with heap := h', toks := tk } := I1.kept fun b o e => hk b o e
      have hn : es.size = (firstL ns).length := by
        rw [← firstL_size hnd fun j => by rw [← hmem j]; simp, List.length_map, Array.length_toList]
      exact call_len_set ho hex hd hf (by rw [hn]; omega) ⟨.int ((firstL ns).length : Nat), H1, I2.tok _, ⟨_, by rw [hn]⟩, hF.ok R1 _ rfl⟩
    · cases e2

/-! ### max, min with a default -/
theorem cr_mmd (mx : Bool) (hc : X.calm = true) (hu : X.A.units + 65 < cLine) : CallRK X (.builtin (if mx then "max" else "min")) [Str.ofString "default"] (fun vs zs H Q => ∃ Kp σ l st d c, Rel X.K Kp σ H l st ∧ Reps X.K H l [d] vs ∧ zs = [cnV c] ∧
    Fin X.K cl W Kp σ H l (lift (fun m => biD m (if mx then .maxd c else .mind c) [d]) st) fun r st' H' l' => ∀ v, RvR X.K Kp σ H' l' st' r v → Q v H') := by
  intro pins s σ H xs zs us ws Q I r r2 h
  obtain ⟨Kp, σ', l, st, d, c, R, hr, rfl, hF⟩ := h
  obtain ⟨rr, e, hF⟩ := fin_lift hF
  have e' : (d.items.bind fun xs => (mmD mx (some c.d) xs).map EV.val) = some rr := by cases mx <;> exact e
  obtain ⟨xs', e1, e2⟩ := Option.bind_eq_some_iff.mp e'
  obtain ⟨y, e3, e4⟩ := Option.map_eq_some_iff.mp e2
  subst e4
  obtain ⟨v, rfl, hv⟩ := reps1 hr
  obtain ⟨u, rfl, ru⟩ := r.one
  obtain ⟨u2, rfl, ru2⟩ := r2.one
  have hcv : Rep X.K H l c.d (cnV c) := by cases c <;> exact rfl
  exact mm_callD hc hu I hv ru hcv ru2 e1 e3 fun w hw => hF.ok R _ hw
theorem pe_mmdC {mx : Bool} {c : Cn} {a ec : Expr} {ca : C EV} {p pos kp : Pos} (hc : X.calm = true) (hu : X.A.units + 65 < cLine) (hg : Gl X (if mx then "max" else "min")) (hm : ∀ x ∈ bltNames, X.mg x = none) (ha : PE X a (rd (gx X cl) W ca)) (hk : PE X ec (tC (cnV c))) (hn : noStar a = true) :
    PE X (.Call (.Name (if mx then "max" else "min") p) [a] [⟨some "default", ec, kp⟩] pos) (rd (gx X cl) W (bnd ca fun x => lift fun m => biD m (if mx then .maxd c else .mind c) [x.d])) := by
  have hmem : X.mg (if mx then "max" else "min") = none := by cases mx <;> exact hm _ (by decide +kernel)
  have hv : bootBuiltins (if mx then "max" else "min") = some (.builtin (if mx then "max" else "min")) := by cases mx <;> decide +kernel
  have hnn : (if mx then "max" else "min" : Str) ≠ "__name__" := by cases mx <;> decide +kernel
  have hdb : ((if mx then "max" else "min" : Str) == ("__debug__" : Str)) = false := by cases mx <;> decide +kernel
  have key := pe_callBK (kws := [⟨some "default", ec, kp⟩]) (cr_mmd (cl := cl) (W := W) mx hc hu) hg hmem hv (pa_cons (pe_rz ha) pa_nil (star_cons hn)) (pk_cons hk pk_nil) hnn hdb (p := p) (pos := pos) (by rw [star_cons hn]; rfl) (star_back (es := [a]) (by simp [hn]))
  refine PE.imp key fun σ H Q q => ?_
  obtain ⟨Kp, l, st, R, f⟩ := q
  exact ⟨Kp, l, st, R, (Fin.bnd f).imp fun x st1 H1 l1 R1 _ _ f1 v hv => ⟨Kp, σ, l1, st1, x.d, c, R1, .cons hv .nil, rfl, f1⟩⟩

/-! ### isinstance -/
def tyN : Ty → Str
  | .int => "int"
  | .bool => "bool"
  | .str => "str"
  | .list => "list"
  | .tuple => "tuple"
def tyS : Ty → String
  | .int => "int"
  | .bool => "bool"
  | .str => "str"
  | .list => "list"
  | .tuple => "tuple"
/-- a type's name, read -/
theorem pe_tyN {t : Ty} {p : Pos} (hg : Gl X (tyN t)) (hm : ∀ x ∈ bltNames, X.mg x = none) : PE X (.Name (tyN t) p) (tC (.ty (tyS t))) := by
  cases t with
  | int => exact pe_bltn hg (hm _ (by decide +kernel)) (by decide +kernel) rfl
  | bool => exact pe_bltn hg (hm _ (by decide +kernel)) (by decide +kernel) rfl
  | str => exact pe_bltn hg (hm _ (by decide +kernel)) (by decide +kernel) rfl
  | list => exact pe_bltn hg (hm _ (by decide +kernel)) (by decide +kernel) rfl
  | tuple => exact pe_bltn hg (hm _ (by decide +kernel)) (by decide +kernel) rfl
theorem ty_of {K : PySem.W.Frag} {H : Hp} {l : List Addr} {m : List Cell} {d : D} {v : V} (h : Rep K H l d v) (hc : ∀ (j : Nat) (a : Addr) (c : Cell), l[j]? = some a → m[j]? = some c → CellRep K H l a c) (hd : tyD m d .int ≠ none) :
    ∃ S : String, TyX K H v (.type S) ∧ ∀ (t : Ty) (b : Bool), tyD m d t = some b → kitB S (tyS t) = some b := by
  cases d with
  | non =>
    cases h
    exact ⟨_, .base .non, fun t b e => by cases e; cases t <;> decide +kernel⟩
  | int i =>
    cases h
    exact ⟨_, .base (.int i), fun t b e => by cases e; cases t <;> decide +kernel⟩
  | bl i =>
    cases h
    exact ⟨_, .base (.bl i), fun t b e => by cases e; cases t <;> decide +kernel⟩
  | str i =>
    cases h
    exact ⟨_, .base (.str i), fun t b e => by cases e; cases t <;> decide +kernel⟩
  | lst xs =>
    obtain ⟨a, o, vs, rfl, h1, h2⟩ := h
    exact ⟨_, .base (.frz h1), fun t b e => by cases e; cases t <;> decide +kernel⟩
  | tup xs =>
    obtain ⟨a, vs, rfl, ⟨o, h1, _⟩, h2⟩ := h
    exact ⟨_, .fTuple h1, fun t b e => by cases e; cases t <;> decide +kernel⟩
  | cel n =>
    obtain ⟨a, rfl, h1⟩ := h
    cases em : m[n]? with
    | none => simp [tyD, em] at hd
    | some c =>
      cases c with
      | lst xs =>
        obtain ⟨vs, h2, h3⟩ := hc n a _ h1 em
        refine ⟨_, .base (.lst h2), fun t b e => ?_⟩
        simp only [tyD, em] at e
        cases e
        cases t <;> decide +kernel
      | ins _ _ => simp [tyD, em] at hd
      | dct _ => simp [tyD, em] at hd
  | scr ns => exact absurd rfl hd
  | exn ns => exact absurd rfl hd
theorem tys_some {m : List Cell} {d : D} {t : Ty} {ts : List Ty} {b : Bool} (h : tysD m d (t :: ts) = some b) : ∃ b1 b2, tyD m d t = some b1 ∧ tysD m d ts = some b2 ∧ b = (b1 || b2) := by
  unfold tysD at h
  split at h
  · rename_i a c e1 e2
    exact ⟨a, c, e1, e2, (Option.some.inj h).symm⟩
  · cases h
theorem ty_any {m : List Cell} {d : D} {t u : Ty} {b : Bool} (h : tyD m d t = some b) : tyD m d u ≠ none := by
  cases d with
  | cel n =>
    simp only [tyD] at h ⊢
    split at h
    · simp
    · cases h
  | scr ns => cases h
  | exn ns => cases h
  | _ => simp [tyD]
theorem kit_all {K : PySem.W.Frag} {m : List Cell} {d : D} {S : String} (h : ∀ (t : Ty) (b : Bool), tyD m d t = some b → kitB S (tyS t) = some b) : ∀ (ts : List Ty) (b : Bool), tysD m d ts = some b → PySem.W.kitAny K (.type S) (ts.map fun t => Value.type (tyS t)) = some b
  | [], b, e => by cases e; rfl
  | t :: ts, b, e => by
    obtain ⟨b1, b2, e1, e2, rfl⟩ := tys_some e
    refine kitAny_cons (kit_ty (h t b1 e1)) (fun z => ?_) (fun z => by rw [z]; rfl)
    rw [z, Bool.false_or]
    exact kit_all h ts b2 e2
theorem pa_tys : ∀ (ts : List Ty) (es : List Expr), (∃ ps : List Pos, ps.length = ts.length ∧ es = (ts.zip ps).map fun x => Expr.Name (tyN x.1) x.2) → (∀ t ∈ ts, Gl X (tyN t)) → (∀ x ∈ bltNames, X.mg x = none) →
    PA X es (fun σ H Q => Q (ts.map fun t => V.ty (tyS t)) H)
  | [], es, he, hg, hm => by
    obtain ⟨ps, h1, h2⟩ := he
    subst h2
    exact PA.imp pa_nil fun σ H Q q => q
  | t :: ts, es, he, hg, hm => by
    obtain ⟨ps, h1, h2⟩ := he
    cases ps with
    | nil => cases h1
    | cons p ps =>
      subst h2
      refine PA.imp (pa_cons (pe_tyN (hg t (by simp)) hm) (pa_tys ts _ ⟨ps, by simpa using h1, rfl⟩ (fun t h => hg t (by simp [h])) hm) (star_cons rfl)) fun σ H Q q => q
theorem cls_tys : ∀ ts : List Ty, Paired ClsV (ts.map fun t => V.ty (tyS t)) (ts.map fun t => Value.type (tyS t))
  | [] => .nil
  | t :: ts => .cons (.ty _) (cls_tys ts)
theorem pe_isi1 {t : Ty} {e : Expr} {ce : C EV} {p p2 pos : Pos} (he : PE X e (rd (gx X cl) W ce)) (hg : Gl X "isinstance") (hgt : Gl X (tyN t)) (hm : ∀ x ∈ bltNames, X.mg x = none) (hn : noStar e = true) :
    PE X (.Call (.Name "isinstance" p) [e, .Name (tyN t) p2] [] pos) (rd (gx X cl) W (bnd (bnd ce fun x => bnd (ret []) fun xs => ret (x.d :: xs)) fun ds => lift fun m => biD m (.isi [t] true) ds)) := by
  have key : PE X (.Call (.Name "isinstance" p) [e, .Name (tyN t) p2] [] pos) (tCB (rIsi X.K) (tCons (rz (gx X cl) W ce) fun σ H Q => Q ([t].map fun t => V.ty (tyS t)) H)) :=
    pe_callB call_isi hg (hm _ (by decide +kernel)) (by decide +kernel) (pa_cons (pe_rz he) (pa_tys [t] _ ⟨[p2], rfl, rfl⟩ (fun u hu => by simp at hu; rw [hu]; exact hgt) hm) (star_cons hn)) (by decide +kernel) (by decide +kernel) (star_cons hn) rfl
  refine PE.imp key fun σ H Q q => ?_
  obtain ⟨Kp, l, st, R, f⟩ := q
  refine ⟨Kp, l, st, R, (Fin.bnd (Fin.bnd f)).imp fun x st1 H1 l1 R1 _ _ f1 v hv => ?_⟩
  obtain ⟨r, e1, f2⟩ := fin_lift (Fin.ok (a := [x.d]) (st := st1) f1 R1)
  obtain ⟨b, e2, e3⟩ := Option.map_eq_some_iff.mp (show (tysD st1.mem x.d [t]).map (fun b => EV.val (.bl b)) = some r from e1)
  subst e3
  obtain ⟨b1, b2, g1, g2, g3⟩ := tys_some e2
  cases g2
  rw [Bool.or_false] at g3
  subst g3
  obtain ⟨S, ty, k⟩ := ty_of hv R1.cells (ty_any g1)
  exact ⟨v, .ty (tyS t), .type S, .type (tyS t), b, rfl, .ty _, ty, kit_ty (k t b g1), f2.ok R1 _ rfl⟩
theorem pe_isiT {ts : List Ty} {e : Expr} {es : List Expr} {kk : Nat} {ce : C EV} {p p2 pos : Pos} (he : PE X e (rd (gx X cl) W ce)) (hg : Gl X "isinstance") (hes : ∃ ps : List Pos, ps.length = ts.length ∧ es = (ts.zip ps).map fun x => Expr.Name (tyN x.1) x.2) (hgt : ∀ t ∈ ts, Gl X (tyN t)) (hl : ts ≠ [] ∧ ts.length ≤ 5)
    (hm : ∀ x ∈ bltNames, X.mg x = none) (hn : noStar e = true) :
    PE X (.Call (.Name "isinstance" p) [e, .Tuple es kk p2] [] pos) (rd (gx X cl) W (bnd (bnd ce fun x => bnd (ret []) fun xs => ret (x.d :: xs)) fun ds => lift fun m => biD m (.isi ts false) ds)) := by
  have key : PE X (.Call (.Name "isinstance" p) [e, .Tuple es kk p2] [] pos) (tCB (rIsiT X.K) (tCons (rz (gx X cl) W ce) (tCons (tTup fun σ H Q => Q (ts.map fun t => V.ty (tyS t)) H) tNil))) :=
    pe_callB call_isiT hg (hm _ (by decide +kernel)) (by decide +kernel) (pa_cons (pe_rz he) (pa_cons (pe_tup (pa_tys ts es hes hgt hm)) pa_nil (star_cons rfl)) (star_cons hn)) (by decide +kernel) (by decide +kernel) (star_cons hn) rfl
  refine PE.imp key fun σ H Q q => ?_
  obtain ⟨Kp, l, st, R, f⟩ := q
  refine ⟨Kp, l, st, R, (Fin.bnd (Fin.bnd f)).imp fun x st1 H1 l1 R1 _ _ f1 v hv => ?_⟩
  obtain ⟨r, e1, f2⟩ := fin_lift (Fin.ok (a := [x.d]) (st := st1) f1 R1)
  obtain ⟨b, e2, e3⟩ := Option.map_eq_some_iff.mp (show (tysD st1.mem x.d ts).map (fun b => EV.val (.bl b)) = some r from e1)
  subst e3
  refine ⟨by rw [List.length_map, sizeLine_eq]; omega, fun q hq => ?_⟩
  have hx : ∃ t b1, tyD st1.mem x.d t = some b1 := by
    cases ts with
    | nil => exact absurd rfl hl.1
    | cons t ts =>
      obtain ⟨b1, b2, g1, _⟩ := tys_some e2
      exact ⟨t, b1, g1⟩
  obtain ⟨t, b1, g1⟩ := hx
  have R2 : Rel X.K Kp σ (upd H1 q (.tup (ts.map fun t => V.ty (tyS t)))) l1 st1 := R1.new hq
  obtain ⟨S, ty, k⟩ := ty_of (hv.mono (.new hq) (List.prefix_refl _)) R2.cells (ty_any g1)
  exact ⟨v, q, _, .type S, _, b, rfl, upd_same, cls_tys ts, ty, kit_all k ts b e2, f2 _ l1 R2 (.new hq) (List.prefix_refl _) _ rfl⟩
end
end Dm

set_option Elab.async false
set_option linter.all false
set_option maxRecDepth 100000
set_option maxHeartbeats 4000000
set_option autoImplicit false
/-! DmU: sorted(set(a list of ints)). -/
namespace Dm
open PySem PySem.Spec PyProof.Rows L2
/-! ### each once, as they rise -/
theorem insI_mem {x y : Int} : ∀ {l : List Int}, y ∈ insI x l ↔ y = x ∨ y ∈ l
  | [] => by simp [insI]
  | z :: l => by
    unfold insI
    split
    · simp
    · split
      · rename_i h
        subst h
        simp
      · rw [List.mem_cons, insI_mem (l := l), List.mem_cons]
        constructor
        · rintro (h | h | h)
          · exact .inr (.inl h)
          · exact .inl h
          · exact .inr (.inr h)
        · rintro (h | h | h)
          · exact .inr (.inl h)
          · exact .inl h
          · exact .inr (.inr h)
theorem insI_lt {x : Int} : ∀ {l : List Int}, l.Pairwise (· < ·) → (insI x l).Pairwise (· < ·)
  | [], _ => by simp [insI]
  | z :: l, h => by
    obtain ⟨h1, h2⟩ := List.pairwise_cons.mp h
    unfold insI
    split
    · rename_i c
      refine List.pairwise_cons.mpr ⟨fun y hy => ?_, h⟩
      rcases List.mem_cons.mp hy with rfl | hy
      · exact c
      · exact Int.lt_trans c (h1 y hy)
    · split
      · exact h
      · rename_i c1 c2
        refine List.pairwise_cons.mpr ⟨fun y hy => ?_, insI_lt h2⟩
        rcases insI_mem.mp hy with rfl | hy
        · omega
        · exact h1 y hy
theorem setI_mem {y : Int} : ∀ {ns : List Int}, y ∈ setI ns ↔ y ∈ ns
  | [] => by simp [setI]
  | x :: ns => by
    show y ∈ insI x (setI ns) ↔ _
    rw [insI_mem, setI_mem (ns := ns), List.mem_cons]
theorem setI_lt : ∀ {ns : List Int}, (setI ns).Pairwise (· < ·)
  | [] => by simp [setI]
  | x :: ns => insI_lt (setI_lt (ns := ns))
theorem lt_uniq : ∀ {a b : List Int}, a.Pairwise (· < ·) → b.Pairwise (· < ·) → (∀ k, k ∈ a ↔ k ∈ b) → a = b
  | [], [], _, _, _ => rfl
  | [], y :: b, _, _, h => by have := (h y).mpr (by simp); cases this
  | x :: a, [], _, _, h => by have := (h x).mp (by simp); cases this
  | x :: a, y :: b, ha, hb, h => by
    obtain ⟨a1, a2⟩ := List.pairwise_cons.mp ha
    obtain ⟨b1, b2⟩ := List.pairwise_cons.mp hb
    have e : x = y := by
      have h1 := (h x).mp (by simp)
      have h2 := (h y).mpr (by simp)
      rcases List.mem_cons.mp h1 with h1 | h1
      · exact h1
      · rcases List.mem_cons.mp h2 with h2 | h2
        · exact h2.symm
        · have := a1 y h2
          have := b1 x h1
          omega
    subst e
    congr 1
    refine lt_uniq a2 b2 fun k => ?_
    have hk := h k
    rw [List.mem_cons, List.mem_cons] at hk
    constructor
    · intro m
      rcases hk.mp (.inr m) with rfl | m'
      · have := a1 k m; omega
      · exact m'
    · intro m
      rcases hk.mpr (.inr m) with rfl | m'
      · have := b1 k m; omega
      · exact m'
/-! ### set(a list of ints), as a table that can be walked -/
section
variable {P : Program} {w : World} {A : Around} {E : Value → Shared → Prop} {s : Shared}
set_option maxHeartbeats 3200000 in
theorem set_of_list {l : Addr} {items : Array Value} (ns : List Int) {Q : Value → Shared → Prop} (hh : A.handled = none) (hl : s.heap.IsList l items) (hit : IntsAre items.toList ns) (hb : ns.length + 1 < scanBound)
    (h : ∀ (h' : Heap) (tk c : Nat), SetR w h' s.heap.objs.size (fun j => decide (j ∈ ns)) c → c ≤ ns.length → (∀ b o, s.heap.get? b = some o → h'.get? b = some o) → Q (.ref s.heap.objs.size) { s with heap := h', toks := tk }) :
    wpAny (model P w) A (call (.type "set") [.ref l]) Q E s := by
  have hisz : items.size = ns.length := by
    have q := IntsAre.length hit
    rwa [Array.length_toList] at q
  obtain ⟨cc, tl, hmro⟩ := F.called_set.mro
  have hmade := F.called_set.made
  have hsub := F.called_set.sub
  refine wpAny_call (codeAny_of_tree ?_)
  show wpAny _ _ (callAny (.type "set") _) _ _ _
  refine wpAny_pure ⟨Code.quiet_builtin _ (by decide +kernel), codeAny_builtin F.entry_type_call ?_⟩
  rw [Around.under_plain (weight_type_call_type "set" [.ref l] []) rfl]
  have h1 := F.called_set.notType
  have h2 := F.called_set.canCreate
  have hct := F.typeCall_set_1 (.ref l)
  repeat (any_goals (first | assumption | wp_step))
  refine codeAny_mono (code_set_led1 (.ref l) (E := E) (Q₁ := fun obj s₁ => obj = .ref s.heap.objs.size ∧ s₁ = { s with heap := s.heap.push ({ cls := .type "set", dict := none, data := .set #[] 0 (.fresh 0 0 (!w.params.followText "set-order")) } : Obj) }) ⟨rfl, rfl⟩) fun r s₁ hr => ?_
  cases r with
  | error e => exact hr
  | ok fl =>
    cases fl with
    | ret obj =>
      obtain ⟨rfl, rfl⟩ := hr
      have hS : (s.heap.push ({ cls := .type "set", dict := none, data := .set #[] 0 (.fresh 0 0 (!w.params.followText "set-order")) } : Obj)).get? s.heap.objs.size = some ({ cls := .type "set", dict := none, data := .set #[] 0 (.fresh 0 0 (!w.params.followText "set-order")) } : Obj) := Heap.get?_push_size _ rfl
      have hT : Shared.TypeIs { s with heap := s.heap.push ({ cls := .type "set", dict := none, data := .set #[] 0 (.fresh 0 0 (!w.params.followText "set-order")) } : Obj) } (.ref s.heap.objs.size) "set" := ⟨_, hS, rfl⟩
      have hli := F.called_set.init.lookup
      have hbi := F.called_set.init.bind (.ref s.heap.objs.size)
      repeat (any_goals (first | assumption | wp_step))
      refine codeAny_mono (codeAny_call_builtin (R := wants (fun r s₂ => r = .none ∧ ∃ h' tk c, s₂ = { s with heap := h', toks := tk } ∧ SetR w h' s.heap.objs.size (fun j => decide (j ∈ ns)) c ∧ c ≤ ns.length ∧
          (∀ b o, s.heap.get? b = some o → h'.get? b = some o)) E) F.called_set.init.plain F.entry_set_init (check_set_init_1 hT ?_)) fun r₂ s₂ hr₂ => ?_
      · obtain ⟨ol, hol, hcl, nl, hdl⟩ := hl
        obtain ⟨ocls, odict, odata, oslots⟩ := ol
        simp only at hcl hdl
        subst hcl; subst hdl
        have hol' : (s.heap.push ({ cls := .type "set", dict := none, data := .set #[] 0 (.fresh 0 0 (!w.params.followText "set-order")) } : Obj)).get? l = some { cls := .type "list", dict := odict, data := .seq items nl, slots := oslots } := Heap.get?_push_of_some _ hol
        have hsls := F.sub_list_set
        have hslf := F.sub_list_frozenset
        have hne : (Value.type "list" == Value.type "dict") = false := by decide
        have hl1 : (s.heap.push ({ cls := .type "set", dict := none, data := .set #[] 0 (.fresh 0 0 (!w.params.followText "set-order")) } : Obj)).IsList l items := ⟨_, hol', rfl, nl, rfl⟩
        unfold Builtin.«set.__init__» noKeywords Builtin.Frozenset.updateFrom
        generalize hPI : pyIter = PI
        wp_walk
        subst hPI
        refine wpAny_pyIter_list hl1 ?_
        refine wpAny_bind (wpAny_runValue ?_)
        have hlS : l < s.heap.objs.size := Heap.lt_size hol
        have hh3 : A.in1.in1.in1.handled = none := by simp [hh]
        obtain ⟨fr, hfr⟩ : ∃ fr : Obj, fr = { cls := .type "set", dict := none, data := .set #[] 0 (.fresh 0 0 (!w.params.followText "set-order")) } := ⟨_, rfl⟩
        rw [← hfr] at hS hT hol' hl1 ⊢
        have sz : (s.heap.push fr).objs.size = s.heap.objs.size + 1 := Heap.size_push ..
        have hneI : l ≠ (s.heap.push fr).objs.size := by rw [sz]; exact Nat.ne_of_lt (Nat.lt_succ_of_lt hlS)
        have hSf : s.heap.objs.size ∉ [(s.heap.push fr).objs.size, l] := by
          rw [sz]
          simp only [List.mem_cons, List.not_mem_nil, or_false, not_or]
          exact ⟨Nat.ne_of_lt (Nat.lt_succ_self _), Nat.ne_of_gt hlS⟩
        have hval : ∀ (i : Nat) (v : Value), items[i]? = some v → ∃ k t, ns[i]? = some k ∧ v = .int k t := fun i v hv => by
          have hi : i < ns.length := by rw [← hisz]; exact (Array.getElem?_eq_some_iff.mp hv).1
          obtain ⟨t, e⟩ := PyProof.Rows.IntsAre.int_at hit i v (by rw [Array.getElem?_toList]; exact hv)
          refine ⟨ns[i], t, List.getElem?_eq_getElem hi, ?_⟩
          rw [e, List.getD_eq_getElem?_getD, List.getElem?_eq_getElem hi] <;> rfl
        refine set_update_ints ((Walks.list hh3 _ l hneI items).toS) s.heap.objs.size hSf ns hisz hb hval (items.size - 0) 0 _ (by omega) (Nat.zero_le _) ⟨⟨_, Heap.get?_push_size _ rfl, rfl, rfl⟩, (hl1.push _)⟩ ?first ?last
        case first =>
          refine ⟨0, Nat.le_refl 0, setR_new_at (Heap.get?_push_of_some _ ?_)⟩
          rw [hS, hfr]
        case last =>
          intro s' c' hm hc' hS'
          obtain ⟨h', g2, d', tk', os'⟩ := s'
          obtain rfl : g2 = s.gens := hm.gens
          obtain rfl : d' = s.drawn := hm.drawn
          obtain rfl : os' = s.os := hm.os
          show wpAny _ _ _ _ _ _
          refine wpAny_pure ?_
          show wpAny _ _ (PySem.ret Value.none) _ _ _
          rw [hisz] at hc'
          refine wpAny_pure ⟨rfl, h', tk', c', rfl, hS', hc', fun b o e => ?_⟩
          have hb0 : b < s.heap.objs.size := Heap.lt_size e
          refine hm.heap b o ?_ (Heap.get?_push_of_some _ (Heap.get?_push_of_some _ e))
          simp only [List.mem_cons, List.not_mem_nil, or_false, not_or]
          rw [sz]
          exact ⟨Nat.ne_of_lt hb0, Nat.ne_of_lt (Nat.lt_succ_of_lt hb0)⟩
      · cases r₂ with
        | error e => exact hr₂
        | ok fl₂ =>
          cases fl₂ with
          | ret r =>
            obtain ⟨rfl, h', tk, c', rfl, hS', hc', hk'⟩ := hr₂
            repeat (any_goals (first | assumption | wp_step))
            exact h _ _ _ hS' hc' hk'
          | _ => exact hr₂.elim
    | _ => exact hr.elim
end
section
variable {X : Cx} {W : WX} {cl : Nat → Addr}
theorem pe_srtsetC {a : Expr} {ca : C EV} {p p2 q pos : Pos} (hc : X.calm = true) (hg : Gl X "sorted") (hg2 : Gl X "set") (hm : ∀ x ∈ bltNames, X.mg x = none) (ha : PE X a (rd (gx X cl) W ca)) (hn : noStar a = true) :
    PE X (.Call (.Name "sorted" p) [.Call (.Name "set" p2) [a] [] q] [] pos) (rd (gx X cl) W (bnd ca fun x => lift fun m => biD m .srtset [x.d])) := by
  have na : starEach [a] X.env = (false, eval a X.env) :: starEach [] X.env := star_cons hn
  refine ⟨fun pins s σ H Q I h => ?_⟩
  obtain ⟨Kp, l, st, R, f⟩ := h
  refine Call_ (ld_blt I hg (hm _ (by decide +kernel)) boot_sorted ?_)
  refine PyProof.Rows.callWith_builtin1 (PyProof.Rows.args_cons ?_ rfl) rfl rfl
  refine Call_ (ld_blt I hg2 (hm _ (by decide +kernel)) boot_set ?_)
  refine PyProof.Rows.callWith_type1 (PyProof.Rows.args_cons (thn ((pe_rz ha).run pins s σ H (fun v H1 => ∃ l1 st1 d, Rel X.K Kp σ H1 l1 st1 ∧ Rep X.K H1 l1 d v ∧ Fin X.K cl W Kp σ H1 l1 (lift (fun m => biD m .srtset [d]) st1) fun r st' H' l' => ∀ v, RvR X.K Kp σ H' l' st' r v → Q v H') I ⟨Kp, l, st, R, (Fin.bnd f).imp fun x st1 H1 l1 R1 _ _ f1 v hv => ⟨l1, st1, x.d, R1, hv, f1⟩⟩) fun v s1 ⟨x, H1, I1, r1, q1⟩ => PyProof.Rows.args_nil ?_) na) na rfl
  obtain ⟨l1, st1, d, R1, hv, hF⟩ := q1
  obtain ⟨rr, e, hF⟩ := fin_lift hF
  match d, e with
  | .lst ys, e =>
    obtain ⟨ns, e1, e2⟩ := Option.bind_eq_some_iff.mp (show ((intsL ys).bind fun ns => if ns.length < 64 then some (EV.own ((setI ns).map .int)) else none) = some rr from e)
    split at e2
    · rename_i hl
      cases e2
      obtain ⟨b, rfl, hq⟩ := sq_ints hv e1
      cases r1
      obtain ⟨its, r, pl, hz⟩ := I1.list hq
      refine set_of_list ns (I1.ok.hd hc) pl.isList (by simpa using intsAreD r) (by unfold scanBound; omega) fun h' tk c hS hcl hk => ?_
      refine PyProof.Rows.args_nil ?_
      have I2 : Inv X pins σ H1 { s1 with heap := h', toks := tk } := I1.kept fun b o e => hk b o e
      refine sorted_set (s := { s1 with heap := h', toks := tk }) hS (I2.ok.hd hc) (by omega) fun s' pp out c2 us k g o hp hgo hi hs hmem hlen => ?_
      have eu : us = setI ns := lt_uniq hs setI_lt fun j => by rw [hmem j, setI_mem, decide_eq_true_eq]
      have hn : H1 pp = none := I2.hok.fresh hp
      have ln : (us.map V.int).length ≤ sizeLine := by rw [List.length_map, hlen, sizeLine_eq]; omega
      have J : Inv X pins σ (upd H1 pp (.lst (us.map V.int))) { s1 with heap := s'.heap, gens := s'.gens, drawn := s'.drawn, toks := s'.toks } :=
        Inv.call (s := { s1 with heap := h', toks := tk }) (ch := []) I2 (Un.laid k hp hn) (I2.hok.laid k hp ⟨ln, out.toList, c2, vals_of_ints hi, hgo⟩) (by rw [g]; exact I2.bare) (fun _ z => nomatch z)
      have es : s' = { s1 with heap := s'.heap, gens := s'.gens, drawn := s'.drawn, toks := s'.toks } := by
        cases s'
        cases s1
        cases o
        rfl
      rw [es]
      refine ⟨.ref pp, _, J, rfl, ?_⟩
      rw [eu]
      exact hF _ l1 (R1.new hn) (.new hn) (List.prefix_refl _) _ (R1.ownNew hn (Reps.ofInts (setI ns)))
    · cases e2
  | .tup ys, e => cases e
  | .non, e => cases e
  | .bl _, e => cases e
  | .int _, e => cases e
  | .str _, e => cases e
  | .cel _, e => cases e
  | .scr _, e => cases e
  | .exn _, e => cases e
end
end Dm

set_option Elab.async false
set_option linter.all false
set_option maxRecDepth 100000
set_option maxHeartbeats 4000000
set_option autoImplicit false
/-! DmW: sorted(set(a list of tuples of ints)). -/
namespace Dm
open PySem PySem.Spec PyProof.Rows L2 PySem.W
section
variable {P : Program} {w : World} {A : Around} {E : Value → Shared → Prop} {s : Shared}
theorem isT_reads {h : Heap} {k : List Int} {b : Addr} (x : IsT P w h k b) : Reads h (.ref b) (.tuple (k.map .int)) [] := by
  obtain ⟨a, items, e, ⟨o, ho, hc, n, hd⟩, hi⟩ := tupInts_of x
  cases e
  exact .tuple ho hc hd (hi.reads h)
theorem alike_rows (a b : List Int) : alike (PyData.tuple (a.map .int)) (PyData.tuple (b.map .int)) = true := by
  simp only [alike]
  exact alike_ints a b
theorem each_L {Q : Value → List Int → Prop} : ∀ {L1 : List (Addr × List Int)}, (∀ q ∈ L1, Q (.ref q.1) q.2) → EachIs Q (L1.map fun q => Value.ref q.1) (L1.map (·.2))
  | [], _ => .nil
  | q :: L1, h => .cons (h q (by simp)) (each_L fun r hr => h r (by simp [hr]))
theorem each_back {L : List (Addr × List Int)} : ∀ {out : List Value} {ds : List (List Int)}, EachIs (fun v d => ∃ q ∈ L, v = Value.ref q.1 ∧ d = q.2) out ds → ∃ L' : List (Addr × List Int), out = L'.map (fun q => Value.ref q.1) ∧ ds = L'.map (·.2) ∧ ∀ q ∈ L', q ∈ L
  | [], _, .nil => ⟨[], rfl, rfl, by simp⟩
  | _ :: _, _, .cons h t => by
    obtain ⟨q, hq, e1, e2⟩ := h
    obtain ⟨L', f1, f2, f3⟩ := each_back t
    refine ⟨q :: L', by rw [e1, f1]; rfl, by rw [e2, f2]; rfl, fun r hr => ?_⟩
    rcases List.mem_cons.mp hr with z | z
    · rw [z]; exact hq
    · exact f3 r z
/-- what comes in another order comes from the same in another order -/
theorem perm_map_ex {α β : Type} {f : α → β} : ∀ {L : List α} {vs : List β}, vs.Perm (L.map f) → ∃ L1 : List α, L1.Perm L ∧ vs = L1.map f
  | [], vs, h => ⟨[], .refl _, by simpa using h.eq_nil⟩
  | x :: L, vs, h => by
    have hm : f x ∈ vs := h.mem_iff.mpr (by simp)
    obtain ⟨a, b, rfl⟩ := List.append_of_mem hm
    have h2 : (a ++ b).Perm (L.map f) := List.Perm.cons_inv ((List.perm_middle.symm).trans h)
    obtain ⟨L1, p, e⟩ := perm_map_ex h2
    refine ⟨L1.take a.length ++ x :: L1.drop a.length, List.perm_middle.trans (.cons _ (by rw [List.take_append_drop]; exact p)), ?_⟩
    have e1 : a = (L1.take a.length).map f := by rw [List.map_take, ← e, List.take_left]
    have e2 : b = (L1.drop a.length).map f := by rw [List.map_drop, ← e, List.drop_left]
    rw [List.map_append, List.map_cons, ← e1, ← e2]
def leT (a b : List Int) : Bool := dataLe false (fun r : List Int => PyData.tuple (r.map .int)) a b
theorem sorted_setD {a : Addr} {L : List (Addr × List Int)} {es : Array (Int × Value)} {ep : Nat} {t : SetTable} {Q : Value → Shared → Prop} (R : SetTR P w s.heap a L es ep t) (hh : A.handled = none) (hu : A.units + 10 < cLine) (hB : ∀ p ∈ L, p.2 ≠ [])
    (hQ : ∀ s' p (out : Array Value) (c : Nat) (L' : List (Addr × List Int)), (∀ b o, s.heap.get? b = some o → s'.heap.get? b = some o) → s'.gens = s.gens → s'.os = s.os → s.heap.objs.size ≤ p →
      s'.heap.get? p = some (seqObj "list" out c) → out.toList = L'.map (fun q => Value.ref q.1) → L'.length = L.length → (∀ q ∈ L', q ∈ L) → (∃ bs : List (List Int), bs.Perm (L.map (·.2)) ∧ L'.map (·.2) = bs.mergeSort leT) → Q (.ref p) s') :
    wpAny (model P w) A (call (.builtin "sorted") [.ref a]) Q E s := by
  obtain ⟨o, ho, hex, hd⟩ := R.ob
  have hsz := R.size
  have hfew := R.few
  refine Calls.call_function_entry kind_sorted plain_sorted entry_sorted (args_sorted1 _) ?_
  unfold Builtin.«sorted»
  refine wpAny_bind (m := checkCount "sorted" 1 1 _) (wpAny_pure ?_)
  refine wpAny_bind (collect_set (A := A.in1) hh ⟨o, ho, hex.1, hd⟩ R.fits (by unfold scanBound; omega) R.tab.ris R.led fun s1 vs k1 hz g1 o1 pm => ?_)
  have hes : es.toList.map (·.2) = L.map fun q => Value.ref q.1 := by
    rw [R.rows]
    unfold L2.rowsOf
    rw [List.map_map] <;> rfl
  rw [hes] at pm
  have hvl : vs.length < 64 := by rw [pm.length_eq, List.length_map]; exact hfew
  obtain ⟨L1, p1, e1⟩ := perm_map_ex pm
  have hs1 : ∀ q ∈ L1, q ∈ L := fun q hq => p1.mem_iff.mp hq
  have hL1 : L1.length < 64 := by rw [p1.length_eq]; exact hfew
  refine wpAny_bind (wpAny_newList ?_ (by rw [sizeLine_eq]; omega))
  have hoL : (s1.heap.push (seqObj "list" vs.toArray 0)).get? s1.heap.objs.size = some (seqObj "list" vs.toArray 0) := Heap.get?_push_size _ rfl
  have rd : ∀ q ∈ L1, Reads (s1.heap.push (seqObj "list" vs.toArray 0)) (.ref q.1) (.tuple (q.2.map .int)) [] := fun q hq => isT_reads (P := P) (w := w) (isT_keep (R.tup q (hs1 q hq)) fun b u e => Heap.get?_push_of_some _ (k1 b u e))
  refine wpAny_bind (wpAny_holding (list_sort_data (s := { s1 with heap := s1.heap.push (seqObj "list" vs.toArray 0) }) (vs := vs) (bs := L1.map (·.2)) (enc := fun r : List Int => PyData.tuple (r.map .int)) (R := fun v d => ∃ q ∈ L, v = Value.ref q.1 ∧ d = q.2) hoL ?_ ?_ ?_ ?_ ?_ ?_ fun out hl ho2 => ?_))
  · rw [e1]
    exact each_L fun q hq => ⟨q, hs1 q hq, rfl, rfl⟩
  · have rd2 : EachIs (fun v b => ∃ as, Reads (s1.heap.push (seqObj "list" vs.toArray 0)) v (PyData.tuple (b.map .int)) as ∧ s1.heap.objs.size ∉ as) (L1.map fun q => Value.ref q.1) (L1.map (·.2)) := each_L fun q hq => ⟨[], rd q hq, by simp⟩
    rw [← e1] at rd2
    exact rd2
  · intro x hx y hy
    obtain ⟨a, _, rfl⟩ := List.mem_map.mp hx
    obtain ⟨b, _, rfl⟩ := List.mem_map.mp hy
    exact alike_rows a b
  · refine .inl fun d hd => ?_
    obtain ⟨r, hr, rfl⟩ := List.mem_map.mp hd
    obtain ⟨q, hq, rfl⟩ := List.mem_map.mp hr
    have := hB q (hs1 q hq)
    cases e : q.2 with
    | nil => exact absurd e this
    | cons z zs => exact ⟨.int z, zs.map .int, rfl⟩
  · rw [List.length_map, sizeLine_eq]; omega
  · intro b hb
    have hdp : (PyData.tuple (b.map .int)).depth = 1 := by
      simp only [PyData.depth, depth_ints]
    show A.in1.units + 1 + (PyData.tuple (b.map .int)).depth < cLine
    rw [hdp]
    show A.units + 1 + 1 + 1 < cLine
    omega
  · obtain ⟨L', f1, f2, f3⟩ := each_back ho2
    obtain ⟨c, hc⟩ := sortedHeap_at (vs := vs) (out := List.toArray out) hoL
    refine wpAny_pure ⟨_, rfl, hQ _ s1.heap.objs.size (List.toArray out) c L' (fun b u e => ?_) g1 o1 hz hc (by simpa using f1) ?_ f3 ⟨L1.map (·.2), p1.map (·.2), f2.symm⟩⟩
    · have q := k1 b u e
      have hlt := Heap.lt_size q
      show (sortedHeap (s1.heap.push (seqObj "list" vs.toArray 0)) s1.heap.objs.size vs (List.toArray out)).get? b = some u
      rw [sortedHeap_old (Nat.ne_of_lt hlt) (by rw [size_push']; exact Nat.lt_succ_of_lt hlt)]
      exact Heap.get?_push_of_some _ q
    · have : out.length = L'.length := by rw [f1, List.length_map]
      rw [← this, hl, List.length_map, p1.length_eq]
end
theorem leT_eq : leT = fun a b => decide (a ≤ b) := by
  funext p q
  show (!dataLt (.tuple (q.map .int)) (.tuple (p.map .int))) = _
  rw [dataLt_tuple]
  show (!rowLt (q.map .int) (p.map .int)) = _
  rw [dataLt_ints]
  by_cases h : q < p
  · have : ¬ p ≤ q := by
      intro hle
      exact absurd h hle
    rw [decide_eq_true h, decide_eq_false this]
    rfl
  · have : p ≤ q := h
    rw [decide_eq_false h, decide_eq_true this]
    rfl
theorem ded_mem {x : List Int} : ∀ {rs : List (List Int)}, x ∈ dedT rs ↔ x ∈ rs
  | [] => by simp [dedT]
  | y :: rs => by
    have ih := ded_mem (x := x) (rs := rs)
    unfold dedT
    split
    · rename_i h
      rw [ih, List.mem_cons]
      constructor
      · exact .inr
      · rintro (rfl | h2)
        · exact h
        · exact h2
    · rw [List.mem_cons, List.mem_cons, ih]
theorem ded_nd : ∀ rs : List (List Int), (dedT rs).Nodup
  | [] => by simp [dedT]
  | y :: rs => by
    unfold dedT
    split
    · exact ded_nd rs
    · rename_i h
      exact List.nodup_cons.mpr ⟨fun z => h (ded_mem.mp z), ded_nd rs⟩
theorem sortT_uniq {a b : List (List Int)} (h : a.Perm b) : (a.mergeSort fun x y => decide (x ≤ y)) = b.mergeSort fun x y => decide (x ≤ y) := by
  have srt : ∀ l : List (List Int), (l.mergeSort fun x y => decide (x ≤ y)).Pairwise fun x y => x ≤ y := fun l => by
    have := List.pairwise_mergeSort (le := fun x y : List Int => decide (x ≤ y)) (fun a b c h1 h2 => by
      simp only [decide_eq_true_eq] at *
      exact List.le_trans h1 h2) (fun a b => by
      simp only [Bool.or_eq_true, decide_eq_true_eq]
      exact List.le_total a b) l
    exact this.imp fun h => of_decide_eq_true h
  refine List.Perm.eq_of_pairwise (le := fun x y : List Int => x ≤ y) (fun x y _ _ h1 h2 => List.le_antisymm h1 h2) (srt a) (srt b) ?_
  exact (List.mergeSort_perm a _).trans (h.trans (List.mergeSort_perm b _).symm)
theorem reps_rowsT {K : PySem.W.Frag} {H : Hp} {l : List Addr} : ∀ {ys : List D} {rs : List (List Int)} {vs : List V}, rowsT ys = some rs → Reps K H l ys vs → ∃ ks : List (Addr × List Int), vs = ks.map (fun p => V.ref p.1) ∧ ks.map (·.2) = rs ∧ ∀ p ∈ ks, TupO H p.1 (p.2.map V.int) ∧ p.2 ≠ []
  | [], rs, vs, e, h => by
    cases e
    exact ⟨[], h, rfl, by simp⟩
  | .tup xs :: r, rs, vs, e, h => by
    obtain ⟨ns, e1, e2⟩ := Option.bind_eq_some_iff.mp (show ((intsL xs).bind fun ns => if ns = [] then none else (rowsT r).map (ns :: ·)) = some rs from e)
    split at e2
    · cases e2
    · rename_i hne
      obtain ⟨rs', e3, e4⟩ := Option.map_eq_some_iff.mp e2
      subst e4
      obtain ⟨v, vr, rfl, h1, h2⟩ := h
      obtain ⟨a, ws, rfl, h3, h4⟩ := h1
      obtain ⟨ks, f1, f2, f3⟩ := reps_rowsT e3 h2
      have := h4.ints e1
      subst this
      refine ⟨(a, ns) :: ks, by rw [f1]; rfl, by rw [← f2]; rfl, fun p hp => ?_⟩
      rcases List.mem_cons.mp hp with z | z
      · rw [z]; exact ⟨h3, hne⟩
      · exact f3 p z
  | .non :: _, _, _, e, _ => by cases e
  | .bl _ :: _, _, _, e, _ => by cases e
  | .int _ :: _, _, _, e, _ => by cases e
  | .str _ :: _, _, _, e, _ => by cases e
  | .lst _ :: _, _, _, e, _ => by cases e
  | .cel _ :: _, _, _, e, _ => by cases e
  | .scr _ :: _, _, _, e, _ => by cases e
  | .exn _ :: _, _, _, e, _ => by cases e
theorem reps_back {K : PySem.W.Frag} {H : Hp} {l : List Addr} : ∀ {L' : List (Addr × List Int)}, (∀ q ∈ L', TupO H q.1 (q.2.map V.int)) → Reps K H l (L'.map fun q => rowT q.2) (L'.map fun q => V.ref q.1)
  | [], _ => rfl
  | q :: L', h => ⟨_, _, rfl, ⟨q.1, _, rfl, h q (by simp), Reps.ofInts q.2⟩, reps_back fun r hr => h r (by simp [hr])⟩
section
variable {X : Cx} {W : WX} {cl : Nat → Addr}
theorem pe_srtsettC {a : Expr} {ca : C EV} {p p2 q pos : Pos} (hc : X.calm = true) (hu : X.A.units + 64 < cLine) (hg : Gl X "sorted") (hg2 : Gl X "set") (hm : ∀ x ∈ bltNames, X.mg x = none) (ha : PE X a (rd (gx X cl) W ca)) (hn : noStar a = true) :
    PE X (.Call (.Name "sorted" p) [.Call (.Name "set" p2) [a] [] q] [] pos) (rd (gx X cl) W (bnd ca fun x => lift fun m => biD m .srtsett [x.d])) := by
  have na : starEach [a] X.env = (false, eval a X.env) :: starEach [] X.env := star_cons hn
  refine ⟨fun pins s σ H Q I h => ?_⟩
  obtain ⟨Kp, l, st, R, f⟩ := h
  refine Call_ (ld_blt I hg (hm _ (by decide +kernel)) boot_sorted ?_)
  refine PyProof.Rows.callWith_builtin1 (PyProof.Rows.args_cons ?_ rfl) rfl rfl
  refine Call_ (ld_blt I hg2 (hm _ (by decide +kernel)) boot_set ?_)
  refine PyProof.Rows.callWith_type1 (PyProof.Rows.args_cons (thn ((pe_rz ha).run pins s σ H (fun v H1 => ∃ l1 st1 d, Rel X.K Kp σ H1 l1 st1 ∧ Rep X.K H1 l1 d v ∧ Fin X.K cl W Kp σ H1 l1 (lift (fun m => biD m .srtsett [d]) st1) fun r st' H' l' => ∀ v, RvR X.K Kp σ H' l' st' r v → Q v H') I ⟨Kp, l, st, R, (Fin.bnd f).imp fun x st1 H1 l1 R1 _ _ f1 v hv => ⟨l1, st1, x.d, R1, hv, f1⟩⟩) fun v s1 ⟨x, H1, I1, r1, q1⟩ => PyProof.Rows.args_nil ?_) na) na rfl
  obtain ⟨l1, st1, d, R1, hv, hF⟩ := q1
  obtain ⟨rr, e, hF⟩ := fin_lift hF
  match d, e with
  | .lst ys, e =>
    obtain ⟨rs, e1, e2⟩ := Option.bind_eq_some_iff.mp (show ((rowsT ys).bind fun rs => if rs.length < 64 then some (EV.own ((setT rs).map rowT)) else none) = some rr from e)
    split at e2
    · rename_i hl
      cases e2
      obtain ⟨b, o, vs, rfl, hb1, hb2⟩ := hv
      have hq : SqL X.K H1 b vs := .inl (.inr ⟨o, hb1⟩)
      obtain ⟨ks, f1, f2, f3⟩ := reps_rowsT e1 hb2
      subst f1
      cases r1
      obtain ⟨its, r, pl, hz⟩ := I1.list hq
      have hkl : ks.length < 64 := by rw [← f2, List.length_map] at hl; exact hl
      refine call_set_tups (P := X.prog) (w := X.w) ks (I1.ok.hd hc) pl.isList (by simpa using refs_of_vals r) (fun p hp => I1.isT (f3 p hp).1.sq) hkl (by omega) fun h' tk L es ep t R2 g hk => ?_
      refine PyProof.Rows.args_nil ?_
      have I2 : Inv X pins σ H1 { s1 with heap := h', toks := tk } := I1.kept fun b o e => hk b o e
      have hLk : ∀ p ∈ L, p ∈ ks := fun p hp => List.mem_of_mem_take (g.sub p hp)
      refine sorted_setD (s := { s1 with heap := h', toks := tk }) R2 (I2.ok.hd hc) (by show X.A.units + 10 < cLine; omega) (fun p hp => (f3 p (hLk p hp)).2) fun s' pp out c2 L' k g2 o2 hp hgo hout hlen hsub hrow => ?_
      have erow : L'.map (·.2) = setT rs := by
        obtain ⟨bs, hbs, er⟩ := hrow
        rw [er, leT_eq]
        unfold setT
        refine sortT_uniq (hbs.trans ((List.perm_ext_iff_of_nodup R2.nd (ded_nd rs)).mpr fun x => ?_))
        rw [ded_mem, ← f2]
        constructor
        · intro hx
          obtain ⟨q, hq, rfl⟩ := List.mem_map.mp hx
          exact List.mem_map.mpr ⟨q, hLk q hq, rfl⟩
        · intro hx
          obtain ⟨q, hq, rfl⟩ := List.mem_map.mp hx
          exact g.all q (by rw [List.take_length]; exact hq)
      have hn : H1 pp = none := I2.hok.fresh hp
      have ln : (L'.map fun q => V.ref q.1).length ≤ sizeLine := by rw [List.length_map, hlen, sizeLine_eq]; have := R2.few; omega
      have hvs : Vals (L'.map fun q => V.ref q.1) out.toList := by rw [hout]; exact vals_of_refs L'
      have J : Inv X pins σ (upd H1 pp (.lst (L'.map fun q => V.ref q.1))) { s1 with heap := s'.heap, gens := s'.gens, drawn := s'.drawn, toks := s'.toks } :=
        Inv.call (s := { s1 with heap := h', toks := tk }) (ch := []) I2 (Un.laid k hp hn) (I2.hok.laid k hp ⟨ln, out.toList, c2, hvs, hgo⟩) (by rw [g2]; exact I2.bare) (fun _ z => nomatch z)
      have es : s' = { s1 with heap := s'.heap, gens := s'.gens, drawn := s'.drawn, toks := s'.toks } := by
        cases s'
        cases s1
        cases o2
        rfl
      rw [es]
      refine ⟨.ref pp, _, J, rfl, ?_⟩
      have hreps : Reps X.K H1 l1 ((setT rs).map rowT) (L'.map fun q => V.ref q.1) := by
        rw [← erow, List.map_map]
        exact reps_back fun q hq => (f3 q (hLk q (hsub q hq))).1
      exact hF _ l1 (R1.new hn) (.new hn) (List.prefix_refl _) _ (R1.ownNew hn hreps)
    · cases e2
  | .tup ys, e => cases e
  | .non, e => cases e
  | .bl _, e => cases e
  | .int _, e => cases e
  | .str _, e => cases e
  | .cel _, e => cases e
  | .scr _, e => cases e
  | .exn _, e => cases e
end
end Dm

set_option Elab.async false
set_option linter.all false
set_option maxRecDepth 100000
set_option maxHeartbeats 4000000
set_option autoImplicit false
/-! Dm7: a list's methods; calls; reading without a change. -/
namespace Dm
open PySem PySem.Spec PyProof.Rows L2

section
variable {X : Cx} {cl : Nat → Addr} {W : WX}
def rExtR : V → List V → Hp → VK → Prop := fun x vs H Q => ∃ l b xs zs, x = .ref l ∧ vs = [.ref b] ∧ H l = some (.lst xs) ∧ Rd H b (.lst zs) ∧ xs.length + zs.length ≤ sizeLine ∧ Q .non (upd H l (.lst (xs ++ zs)))
theorem mt_extR : MtM X "list.extend" rExtR := by
  intro pins s σ H x vs v us Q I rx rv h
  obtain ⟨l, b, xs, zs, rfl, rfl, hH, hB, hz, q⟩ := h
  cases rx
  obtain ⟨u, rfl, ru⟩ := rv.one
  cases ru
  obtain ⟨z, its, n, r, hl, e⟩ := I.lstM hH
  obtain ⟨z2, its2, n2, r2, hl2, e2⟩ := lstR I hB
  have hsz : its.toArray.size + its2.toArray.size ≤ sizeLine := by rw [List.size_toArray, List.size_toArray]; omega
  have hlong : ¬ (!its.toArray.isEmpty && Builtin.List.listTooLong (its.toArray.size + its2.toArray.size)) = true := by
    rw [notLongL hsz, Bool.and_false]
    exact Bool.false_ne_true
  refine call_meets F.slot_list_extend ⟨_, e, rfl⟩ F.entry_list_extend (F.args_list_extend_2 _ _)
    (AutoSeq1.list_extend_list_list_0 l its.toArray n b its2.toArray n2 hlong (by rw [List.size_toArray]; omega) (by omega)) ⟨e, e2, ?_⟩
  refine ⟨.non, _, I.lset (its' := its ++ its2) hH e (by simp) (r.append r2) ?_, rfl, q⟩
  rw [List.length_append]
  omega
def rOmV : Om → V → List V → Hp → VK → Prop
  | .append => rAppend
  | .extend => fun x vs H Q => rExtR x vs H Q ∨ ∃ l b xs zs, x = .ref l ∧ vs = [.ref b] ∧ H l = some (.lst xs) ∧ (∃ ob : Obj, H b = some (.frz ob (.tup zs))) ∧ xs.length + zs.length ≤ sizeLine ∧ Q .non (upd H l (.lst (xs ++ zs)))
  | .pop => fun x vs H Q => rPop x vs H Q ∨ rPopAt x vs H Q
  | .reverse => rReverse
  | .clear => rClear
  | .insert => fun x vs H Q => ∃ (l : Addr) (xs : List V) (i : Int) (y : V), x = .ref l ∧ vs = [.int i, y] ∧ H l = some (.lst xs) ∧ xs.length < sizeLine ∧ 0 ≤ i ∧ i < 2 ^ 63 ∧ Q .non (upd H l (.lst (xs.take i.toNat ++ [y] ++ xs.drop i.toNat)))
def omN : Om → Str
  | .append => "append"
  | .extend => "extend"
  | .pop => "pop"
  | .reverse => "reverse"
  | .clear => "clear"
  | .insert => "insert"
def omId : Om → String
  | .append => "list.append"
  | .extend => "list.extend"
  | .pop => "list.pop"
  | .reverse => "list.reverse"
  | .clear => "list.clear"
  | .insert => "list.insert"
theorem mt_om (m : Om) : MtR X (omId m) (rOmV m) := by
  cases m with
  | append => exact mt_append
  | extend =>
    intro pins s σ H x vs v us Q I rx rv h
    rcases h with h | h
    · exact mt_extR pins s σ H x vs v us Q I rx rv h
    · exact mt_extT pins s σ H x vs v us Q I rx rv h
  | pop =>
    intro pins s σ H x vs v us Q I rx rv h
    rcases h with h | h
    · exact mt_pop pins s σ H x vs v us Q I rx rv h
    · exact mt_popAt pins s σ H x vs v us Q I rx rv h
  | reverse => exact mt_reverse
  | clear => exact mt_clear
  | insert => exact mt_insert
theorem slot_om (m : Om) : Slot "list" (omN m) (omId m) := by
  cases m with
  | append => exact PySem.F.slot_list_append
  | extend => exact PySem.F.slot_list_extend
  | pop => exact PySem.F.slot_list_pop
  | reverse => exact PySem.F.slot_list_reverse
  | clear => exact PySem.F.slot_list_clear
  | insert => exact PySem.F.slot_list_insert
theorem type_om (m : Om) : typeOf (.builtin (omId m)) = pure (.type "method_descriptor") := by
  cases m with
  | append => exact PySem.F.type_list_append
  | extend => exact PySem.F.type_list_extend
  | pop => exact PySem.F.type_list_pop
  | reverse => exact PySem.F.type_list_reverse
  | clear => exact PySem.F.type_list_clear
  | insert => exact PySem.F.type_list_insert
/-- a method by data -/
theorem om_read {K : PySem.W.Frag} {H : Hp} {l : List Addr} {p : Addr} {m : Om} {vs us : List V} {xs ys ds : List D} {y : D} {Q : VK} (hp : H p = some (.lst vs)) (hx : Reps K H l xs vs) (hd : Reps K H l ds us) (e : omD m xs ds = some (y, ys))
    (q : ∀ w ws, Rep K H l y w → Reps K H l ys ws → Q w (upd H p (.lst ws))) : rOmV m (.ref p) us H Q := by
  cases m with
  | append =>
    match ds, e with
    | [d], e =>
      simp only [omD] at e
      split at e
      · rename_i c
        cases e
        obtain ⟨u, rfl, hu⟩ := reps1 hd
        refine ⟨p, vs, u, rfl, rfl, hp, ?_, q _ _ rfl (hx.app (.cons hu .nil))⟩
        rw [hx.len, sizeLine_eq]; exact c
      · cases e
  | extend =>
    match ds, e with
    | [.lst zs], e =>
      simp only [omD] at e
      split at e
      · rename_i c
        cases e
        obtain ⟨u, rfl, hu⟩ := reps1 hd
        obtain ⟨b, o, ws, rfl, h1, h2⟩ := hu
        refine .inl ⟨p, b, vs, ws, rfl, rfl, hp, .inr ⟨o, h1⟩, ?_, q _ _ rfl (hx.app h2)⟩
        rw [hx.len, h2.len]; exact lim_line c
      · cases e
    | [.tup zs], e =>
      simp only [omD] at e
      split at e
      · rename_i c
        cases e
        obtain ⟨u, rfl, hu⟩ := reps1 hd
        obtain ⟨b, ws, rfl, h1, h2⟩ := hu
        refine .inr ⟨p, b, vs, ws, rfl, rfl, hp, (let ⟨o, z, _⟩ := h1; ⟨o, z⟩), ?_, q _ _ rfl (hx.app h2)⟩
        rw [hx.len, h2.len]; exact lim_line c
      · cases e
  | insert =>
    match ds, e with
    | [.int i, d], e =>
      simp only [omD] at e
      split at e
      · rename_i c
        cases e
        obtain ⟨u, u2, rfl, hu, hu2⟩ := reps2 hd
        cases hu
        refine ⟨p, vs, i, u2, rfl, rfl, hp, ?_, c.2.1, c.2.2, q _ _ rfl (((hx.take _).app (.cons hu2 .nil)).app (hx.drop _))⟩
        rw [hx.len, sizeLine_eq]; exact c.1
      · cases e
  | pop =>
    match ds, e with
    | [], e =>
      simp only [omD] at e
      split at e
      · rename_i d ed
        cases e
        cases (show _ = _ from hd)
        obtain ⟨w, e1, e2⟩ := hx.get ed
        exact .inl ⟨p, vs, w, rfl, rfl, hp, by rw [hx.len]; exact e1, q _ _ e2 hx.dropLast⟩
      · cases e
    | [.int i], e =>
      simp only [omD] at e
      split at e
      · rename_i c
        split at e
        · rename_i k ek
          split at e
          · rename_i d ed
            cases e
            obtain ⟨u, rfl, hu⟩ := reps1 hd
            cases hu
            obtain ⟨w, e1, e2⟩ := hx.get ed
            exact .inr ⟨p, vs, i, k, w, rfl, rfl, hp, c.1, c.2, by rw [hx.len]; exact (ixN_seq ek).1, e1, q _ _ e2 (hx.erase k)⟩
          · cases e
        · cases e
      · cases e
  | reverse =>
    match ds, e with
    | [], e =>
      cases e
      cases (show _ = _ from hd)
      exact ⟨p, vs, rfl, rfl, hp, q _ _ rfl hx.rev⟩
  | clear =>
    match ds, e with
    | [], e =>
      cases e
      cases (show _ = _ from hd)
      exact ⟨p, vs, rfl, rfl, hp, q _ _ rfl .nil⟩
variable {o : Expr} {es : List Expr} {cs : C (List D)} {apos cpos : Pos}
/-- what a method's call asks of the text -/
def omOk (es : List Expr) (apos cpos : Pos) : Bool := es.all noStar && decide (es.length < 29) && (apos.endLine == cpos.line)
theorem few_ok {es : List Expr} {env : Env} {cpos : Pos} (h : es.all noStar = true) (hl : es.length < 29) : ((backTo cpos (starEach es env)).all (fun x => !x.1) && (backToKw cpos (keywordEach [] env)).all (fun x => x.1.isSome)
      && decide (es.length + ([] : List Keyword).length + (if ([] : List Keyword).isEmpty then 0 else 1) < 30)) = true := by
  rw [star_all h, Bool.true_and, Bool.and_eq_true]
  exact ⟨rfl, decide_eq_true (by simp; omega)⟩
theorem pe_omK {m : Om} {to : TE} (ho : PE X o to) (ha : PA X es (ra (gx X cl) W cs)) (hb : noCall0 o = true) (hk : omOk es apos cpos = true) (h0 : es = [] → cs = ret []) :
    PE X (.Call (.Attribute o (omN m) apos) es [] cpos) (fun σ H Q => to σ H fun x H1 => tyV X.K "list" x H1 ∧ (ra (gx X cl) W cs) σ H1 fun us H2 => rOmV m x us H2 Q) := by
  unfold omOk at hk
  simp only [Bool.and_eq_true, decide_eq_true_eq] at hk
  obtain ⟨⟨k1, k2⟩, k3⟩ := hk
  cases es with
  | nil =>
    refine ⟨fun pins s σ H Q I q => ?_⟩
    refine wpAny_Call_method0_late (no_base hb) k3 (thn (ho.run pins s σ H _ I q) fun v s1 ⟨x, H1, I1, r1, ty, q1⟩ => ?_)
    obtain ⟨h1, h2⟩ := tyV_is I1 r1 ty
    refine ⟨"list", omId m, PySem.F.plainAttrs_list, slot_om m, type_om m, h1, h2, Calls.callWith_builtin rfl ?_⟩
    refine PySem.evalArgs_none ?_
    rw [h0 rfl] at q1
    obtain ⟨Kp, l, st, R, f⟩ := q1
    exact mt_om m pins s1 σ H1 x [] v [] Q I1 r1 .nil (f H1 l R .refl (List.prefix_refl _) [] rfl)
  | cons e es =>
    have k1' := k1
    rw [List.all_cons, Bool.and_eq_true] at k1'
    exact pe_bm PySem.F.plainAttrs_list (slot_om m) (type_om m) (mt_om m) ho ha (no_base hb) (few_ok k1 k2) k3 (star_cons k1'.1) (star_back k1'.2)
/-- of a list at a slot -/
theorem pe_omC {m : Om} {i : Nat} (ho : PE X o (tVar i)) (ha : PA X es (ra (gx X cl) W cs)) (hb : noCall0 o = true) (hk : omOk es apos cpos = true) (h0 : es = [] → cs = ret []) :
    PE X (.Call (.Attribute o (omN m) apos) es [] cpos) (rd (gx X cl) W (bnd (isOwn i) fun _ => bnd cs fun ds => omC m i ds)) := by
  refine PE.imp (pe_omK (m := m) ho ha hb hk h0) fun σ H Q q => ?_
  obtain ⟨Kp, l, st, R, f⟩ := q
  have f := Fin.bnd f
  unfold isOwn at f
  split at f
  · rename_i xs he
    obtain ⟨p, vs, h1, h2, h3, h4, h5, h6⟩ := R.ownR he
    refine ⟨_, h1, .inl ⟨rfl, vs, .inl (.inl h2)⟩, Kp, l, st, R, (Fin.bnd (f.ok R)).imp fun ds st1 H1 l1 R1 _ _ f1 us hus => ?_⟩
    unfold omC at f1
    split at f1
    · rename_i ys hey
      split at f1
      · rename_i y zs eo
        obtain ⟨p', ws, g1, g2, g3⟩ := R1.slots i _ hey
        rw [h1] at g1
        cases g1
        exact om_read g2 g3 hus eo fun w us' hw hus' => f1 _ l1 (R1.write hey h1 g2 hus') (.lst g2) (List.prefix_refl _) w (hw.mono (.lst g2) (List.prefix_refl _))
      · exact (show False from f1).elim
    · exact (show False from f1).elim
  · exact (show False from f).elim
/-- of a cell -/
theorem pe_cmC {m : Om} {co : C EV} (ho : PE X o (rd (gx X cl) W co)) (ha : PA X es (ra (gx X cl) W cs)) (hb : noCall0 o = true) (hk : omOk es apos cpos = true) (h0 : es = [] → cs = ret []) :
    PE X (.Call (.Attribute o (omN m) apos) es [] cpos) (rd (gx X cl) W (bnd co fun x => bnd (isCel x.d) fun _ => bnd cs fun ds => cmC m x.d ds)) := by
  refine PE.imp (pe_omK (m := m) (pe_rz ho) ha hb hk h0) fun σ H Q q => ?_
  obtain ⟨Kp, l, st, R, f⟩ := q
  refine ⟨Kp, l, st, R, (Fin.bnd f).imp fun x st0 H0 l0 R0 _ _ f0 v hv => ?_⟩
  have f := Fin.bnd f0
  unfold isCel at f
  split at f
  · rename_i n hx
    rw [hx] at hv
    obtain ⟨a, rfl, hn⟩ := hv
    split at f
    · rename_i xs he
      obtain ⟨vs, h2, h3⟩ := R0.cells n a _ hn he
      refine ⟨.inl ⟨rfl, vs, .inl (.inl h2)⟩, Kp, l0, st0, R0, (Fin.bnd (f.ok R0)).imp fun ds st1 H1 l1 R1 p1 q1 f1 us hus => ?_⟩
      rw [hx] at f1
      simp only [cmC] at f1
      split at f1
      · rename_i ys hey
        split at f1
        · rename_i y zs eo
          have hn1 := pre_get q1 hn
          obtain ⟨ws, g2, g3⟩ := R1.cells n a _ hn1 hey
          exact om_read g2 g3 hus eo fun w us' hw hus' => f1 _ l1 (R1.wcell hn1 g2 hus') (.lst g2) (List.prefix_refl _) w (hw.mono (.lst g2) (List.prefix_refl _))
        · exact (show False from f1).elim
      · exact (show False from f1).elim
    · exact (show False from f).elim
  · exact (show False from f).elim
/-! ### calls of defs -/
theorem pe_fnC {m : Mx} {k : Nat} {Phi : Fns} (c : Cxt X m W cl k Phi) {f n : Nat} {x : Str} {e : Expr} {p pos : Pos} (hf : m.nm f = some (x, n)) (hg : glB m x = true) (ha : PA X (e :: es) (ra (gx X cl) W cs)) (hn : (e :: es).all noStar = true)
    (hlen : ∀ st ds st', cs st = .ok ds st' → ds.length = n) :
    PE X (.Call (.Name x p) (e :: es) [] pos) (rd (gx X cl) W (bnd cs fun ds => callC Phi f ds)) := by
  obtain ⟨j, a, fd, ps, hj, hps, hm, hk, hb, F⟩ := c.fns f x n hf
  rw [List.all_cons, Bool.and_eq_true] at hn
  obtain ⟨g1, g2, g3⟩ := c.glb hg
  refine PE.imp (pe_callG (E := WE W) F c.gd (c.room.mono (by omega)) g1 hm hk hb (fun σ => passAt c.tk σ) ha g2 (star_cons hn.1) (star_back hn.2)) fun σ H Q q => ?_
  obtain ⟨Kp, l, st, R, f1⟩ := q
  refine ⟨Kp, l, st, R, ?_⟩
  cases ec : cs st with
  | err => simp only [bnd_at, ec, Out.bnd_err] at f1; exact (show False from f1).elim
  | exc x s1 => simp only [bnd_at, ec, Out.bnd_exc] at f1; exact f1
  | ok ds st1 =>
    simp only [bnd_at, ec, Out.bnd_ok] at f1
    intro H1 l1 R1 p1 q1 vs hvs
    refine ⟨by rw [hvs.len, hlen st ds st1 ec, hps], ds, st1.mem, l1, hvs, R1.mem, ?_⟩
    unfold callC at f1
    split at f1
    · rename_i r m' er
      try rw [er]
      intro v H' l' pe hl M Ke rv
      have R2 := R1.callee pe hl M Ke
      refine f1 H' l' R2 (p1.trans pe) (q1.trans hl) v ?_
      cases r with
      | val d => exact rv
      | own xs =>
        obtain ⟨q, vs', e1, e2, e3, e4, e5⟩ := rv
        exact ⟨q, vs', e1, e2, e3, R1.kp_noneT e4, e5, R1.nownT e4⟩
    · rename_i x m' er
      try rw [er]
      intro cls d H' l' pe hl M Ke xr
      exact f1 cls d H' l' (R1.callee pe hl M Ke) (p1.trans pe) (q1.trans hl) xr
    · exact (show False from f1).elim
end
end Dm

set_option Elab.async false
set_option linter.all false
set_option maxRecDepth 100000
set_option maxHeartbeats 4000000
set_option autoImplicit false
/-! Dm8: a list lent; what is walked. -/
namespace Dm
open PySem PySem.Spec PyProof.Rows L2

def Ext (H H' : Hp) : Prop := ∀ a o, H a = some o → H' a = some o
theorem Ext.per {H H' : Hp} (e : Ext H H') : Per H H' := ⟨fun _ _ _ h => e _ _ h, fun _ _ h => e _ _ h⟩
theorem Ext.refl {H : Hp} : Ext H H := fun _ _ h => h
theorem Ext.new {H : Hp} {p : Addr} {o : HO} (h : H p = none) : Ext H (upd H p o) := fun a u e => by rw [upd_ne (ne_of_none e h)]; exact e
section
variable {K : PySem.W.Frag} {Kp : Hp} {σ : Sl} {H H' : Hp} {l l' : List Addr} {st : Sta}
theorem Rel.ext (R : Rel K Kp σ H l st) (e : Ext H H') : Rel K Kp σ H' l st :=
  R.move e.per (fun p o h => e _ _ (R.kp p o h)) (fun a vs h _ _ => e _ _ h) (fun a m => by
    obtain ⟨o, h⟩ := R.tr a m
    exact ⟨o, e _ _ h⟩) fun P q t => (R.tb P q t).ext e
theorem Rel.extN (R : Rel K Kp σ H l st) (e : XtN H H') (pe : Per H H') (tb : ∀ P q, TQ K P q → LamX.TabS H' P q) : Rel K Kp σ H' l st := by
  refine R.move pe (fun p o h => e _ _ (R.kp p o h) fun ps z => R.kt p ps (by rw [h, z])) (fun a vs h nt _ => e _ _ h nt) (fun a m => ?_) tb
  obtain ⟨vs, h, n⟩ := R.at_ m
  exact ⟨_, e _ _ h n⟩
mutual
theorem Rep.pure : ∀ (d : D) (v : V), d.pure = true → Rep K H l d v → Rep K H l' d v
  | .non, _, _, h => h
  | .bl _, _, _, h => h
  | .int _, _, _, h => h
  | .str _, _, _, h => h
  | .lst xs, v, p, h => by
    obtain ⟨a, o, vs, e, h1, h2⟩ := h
    exact ⟨a, o, vs, e, h1, Reps.pure xs vs (by simpa [D.pure] using p) h2⟩
  | .tup xs, v, p, h => by
    obtain ⟨a, vs, e, h1, h2⟩ := h
    exact ⟨a, vs, e, h1, Reps.pure xs vs (by simpa [D.pure] using p) h2⟩
  | .cel n, v, p, h => by simp [D.pure] at p
  | .scr ns, v, p, h => by
    obtain ⟨a, e, h1⟩ := h
    exact ⟨a, e, h1⟩
  | .exn c, v, p, h => by
    obtain ⟨a, oe, e, h1⟩ := h
    exact ⟨a, oe, e, h1⟩
theorem Reps.pure : ∀ (ds : List D) (vs : List V), pures ds = true → Reps K H l ds vs → Reps K H l' ds vs
  | [], _, _, h => h
  | x :: xs, vs, p, h => by
    obtain ⟨v, r, e, h1, h2⟩ := h
    have p' : (x.pure && pures xs) = true := by simpa [pures] using p
    rw [Bool.and_eq_true] at p'
    exact ⟨v, r, e, Rep.pure x v p'.1 h1, Reps.pure xs r p'.2 h2⟩
end
theorem Rep.flat {d : D} {v : V} (f : d.flat = true) (h : Rep K H l d v) : Rep K H' l' d v := by
  cases d with
  | non => exact h
  | bl _ => exact h
  | int _ => exact h
  | str _ => exact h
  | _ => cases f
theorem Reps.per (p : Per H H') {ds : List D} {vs : List V} (h : Reps K H l ds vs) : Reps K H' l ds vs := h.mono p (List.prefix_refl _)
end
section
variable {X : Cx} {cl : Nat → Addr} {W : WX}
theorem pe_borC0 : True := trivial
mutual
theorem Rep.noL {K : PySem.W.Frag} {H H' : Hp} {l l' : List Addr} (ht : ∀ a o xs, H a = some (.frz o (.tup xs)) → H' a = some (.frz o (.tup xs))) : ∀ (d : D) (v : V), d.noL = true → Rep K H l d v → Rep K H' l' d v
  | .non, _, _, h => h
  | .bl _, _, _, h => h
  | .int _, _, _, h => h
  | .str _, _, _, h => h
  | .lst xs, v, p, h => by simp [D.noL] at p
  | .tup xs, v, p, h => by
    obtain ⟨a, vs, e, h1, h2⟩ := h
    exact ⟨a, vs, e, let ⟨o, z1, z2⟩ := h1; ⟨o, ht _ _ _ z1, z2⟩, Reps.noL ht xs vs (by simpa [D.noL] using p) h2⟩
  | .cel n, v, p, h => by simp [D.noL] at p
  | .scr ns, v, p, h => by simp [D.noL] at p
  | .exn c, v, p, h => by simp [D.noL] at p
theorem Reps.noL {K : PySem.W.Frag} {H H' : Hp} {l l' : List Addr} (ht : ∀ a o xs, H a = some (.frz o (.tup xs)) → H' a = some (.frz o (.tup xs))) : ∀ (ds : List D) (vs : List V), noLs ds = true → Reps K H l ds vs → Reps K H' l' ds vs
  | [], _, _, h => h
  | x :: xs, vs, p, h => by
    obtain ⟨v, r, e, h1, h2⟩ := h
    have p' : (x.noL && noLs xs) = true := by simpa [noLs] using p
    rw [Bool.and_eq_true] at p'
    exact ⟨v, r, e, Rep.noL ht x v p'.1 h1, Reps.noL ht xs r p'.2 h2⟩
end
/-- several lists are locked at once, and given back -/
theorem lock_all {pins : List (Addr × Obj)} {σ : Sl} : ∀ (ps : List (Addr × List V)) {H : Hp} {s : Shared}, Inv X pins σ H s → (∀ x ∈ ps, H x.1 = some (.lst x.2)) → (ps.map (·.1)).Nodup →
    ∃ H', Inv X pins σ H' s ∧ (∀ x ∈ ps, ∃ o, H' x.1 = some (.frz o (.lst x.2))) ∧ (∀ a, a ∉ ps.map (·.1) → H' a = H a) ∧
      ∀ (H1 : Hp) (s1 : Shared) (pins : List (Addr × Obj)) (σ : Sl), Inv X pins σ H1 s1 → XtN H' H1 → ∃ H2, Inv X pins σ H2 s1 ∧ XtN H H2 ∧ ∀ a, a ∉ ps.map (·.1) → H2 a = H1 a
  | [], H, s, I, _, _ => ⟨H, I, fun x m => (by cases m), fun _ _ => rfl, fun H1 s1 pins σ I1 e => ⟨H1, I1, e, fun _ _ => rfl⟩⟩
  | (p, vs) :: ps, H, s, I, hp, nd => by
    have h2 := hp (p, vs) (by simp)
    rw [List.map_cons, List.nodup_cons] at nd
    obtain ⟨od, J⟩ := inv_lock I h2 (by trivial)
    have nf := I.nofrz h2 (by trivial)
    obtain ⟨H', J', a1, a2, a3⟩ := lock_all ps J (fun x hx => by
      have hne : x.1 ≠ p := fun e => nd.1 (by rw [← e]; exact List.mem_map.mpr ⟨x, hx, rfl⟩)
      rw [upd_ne hne]
      exact hp x (by simp [hx])) nd.2
    have ep : H' p = some (.frz od (.lst vs)) := by rw [a2 p nd.1]; exact upd_same
    refine ⟨H', J', fun x hx => ?_, fun a ha => ?_, fun H1 s1 pins' σ' I1 e => ?_⟩
    · rcases List.mem_cons.mp hx with rfl | hx
      · exact ⟨od, ep⟩
      · exact a1 x hx
    · rw [List.map_cons, List.mem_cons, not_or] at ha
      rw [a2 a ha.2, upd_ne ha.1]
    · obtain ⟨H2, I2, e2, k2⟩ := a3 H1 s1 pins' σ' I1 e
      have f2 : H2 p = some (.frz od (.lst vs)) := e2 _ _ upd_same fun _ e => by cases e
      have I3 := I2.unlock f2 nf
      refine ⟨upd H2 p (.lst vs), I3, fun a o z nt => ?_, fun a ha => ?_⟩
      · by_cases q : a = p
        · subst q
          rw [h2] at z
          cases z
          exact upd_same
        · rw [upd_ne q]
          exact e2 a o (by rw [upd_ne q]; exact z) nt
      · rw [List.map_cons, List.mem_cons, not_or] at ha
        rw [upd_ne ha.1]
        exact k2 a ha.2
/-- the lists at the slots js -/
theorem own_all {K : PySem.W.Frag} {Kp : Hp} {σ : Sl} {H : Hp} {l : List Addr} {st : Sta} (R : Rel K Kp σ H l st) : ∀ js : List Nat, js.Nodup → ∃ ps : List (Addr × List V), (ps.map (·.1)).Nodup ∧ (∀ x ∈ ps, H x.1 = some (.lst x.2) ∧ ∃ j ∈ js, ∃ xs, st.env[j]? = some (some (.own xs)) ∧ σ[j]? = some (some (.ref x.1)) ∧ Reps K H l xs x.2) ∧
    ∀ j ∈ js, ∀ xs, st.env[j]? = some (some (.own xs)) → ∃ x ∈ ps, σ[j]? = some (some (.ref x.1)) ∧ Reps K H l xs x.2
  | [], _ => ⟨[], .nil, fun x m => (by cases m), fun j m => (by cases m)⟩
  | j :: js, nd => by
    rw [List.nodup_cons] at nd
    obtain ⟨ps, h1, h2, h3⟩ := own_all R js nd.2
    by_cases ho : ∃ xs, st.env[j]? = some (some (.own xs))
    · obtain ⟨xs, ho⟩ := ho
      obtain ⟨p, vs, g1, g2, g3, g4, g5, g6⟩ := R.ownR ho
      refine ⟨(p, vs) :: ps, ?_, fun x hx => ?_, fun i hi ys hy => ?_⟩
      · rw [List.map_cons, List.nodup_cons]
        refine ⟨fun m => ?_, h1⟩
        obtain ⟨x, hx, e⟩ := List.mem_map.mp m
        obtain ⟨_, i, hi, ys, q1, q2, _⟩ := h2 x hx
        have hne : i ≠ j := fun e => nd.1 (by rw [← e]; exact hi)
        exact g6 i ys hne q1 (by rw [q2, e])
      · rcases List.mem_cons.mp hx with rfl | hx
        · exact ⟨g2, j, by simp, xs, ho, g1, g3⟩
        · obtain ⟨q0, i, hi, r⟩ := h2 x hx
          exact ⟨q0, i, by simp [hi], r⟩
      · rcases List.mem_cons.mp hi with rfl | hi
        · rw [ho] at hy
          cases hy
          exact ⟨(p, vs), by simp, g1, g3⟩
        · obtain ⟨x, hx, r⟩ := h3 i hi ys hy
          exact ⟨x, by simp [hx], r⟩
    · refine ⟨ps, h1, fun x hx => ?_, fun i hi ys hy => ?_⟩
      · obtain ⟨q0, i, hi, r⟩ := h2 x hx
        exact ⟨q0, i, by simp [hi], r⟩
      · rcases List.mem_cons.mp hi with rfl | hi
        · exact absurd ⟨ys, hy⟩ ho
        · exact h3 i hi ys hy
theorem frzv_some {o : Option EV} {x : EV} (h : frzv o = some x) : ∃ d, o = some (.val d) ∧ d.pure = true ∧ x = .val d := by
  unfold frzv at h
  split at h
  · split at h
    · rename_i hp
      cases h
      exact ⟨_, rfl, hp, rfl⟩
    · cases h
  · cases h
theorem lendv_some {o : Option EV} {x : EV} (h : lendv o = some x) : (∃ d, o = some (.val d) ∧ d.pure = true ∧ x = .val d) ∨ ∃ xs, o = some (.own xs) ∧ pures xs = true ∧ x = .val (.lst xs) := by
  unfold lendv at h
  split at h
  · split at h
    · rename_i hp
      cases h
      exact .inr ⟨_, rfl, hp, rfl⟩
    · cases h
  · exact .inl (frzv_some h)
theorem pe_borC {e : Expr} {is : List Nat} {c : C EV} (he : PE X e (rd (gx X cl) W c)) : PE X e (rd (gx X cl) W (borC is c)) := by
  refine ⟨fun pins s σ H Q I q => ?_⟩
  obtain ⟨Kp, l, st, R, f⟩ := q
  unfold borC at f
  split at f
  · rename_i d s2 hc
    split at f
    · rename_i hd
      obtain ⟨ps, o1, o2, o3⟩ := own_all R (List.range st.env.length) List.nodup_range
      obtain ⟨H', J, a1, a2, a3⟩ := lock_all ps I (fun x hx => (o2 x hx).1) o1
      have isL : ∀ x ∈ ps, ∀ o, H x.1 = some o → o = .lst x.2 := fun x hx o z => by
        rw [(o2 x hx).1] at z
        cases z; rfl
      have nin : ∀ a o, H a = some o → (∀ xs, o ≠ .lst xs) → a ∉ ps.map (·.1) := fun a o z hn m => by
        obtain ⟨x, hx, e⟩ := List.mem_map.mp m
        subst e
        exact hn _ (isL x hx o z)
      have pe : Per H H' := ⟨fun a o u z => by rw [a2 a (nin a _ z fun _ e => by cases e)]; exact z, fun a xs z => by rw [a2 a (nin a _ z fun _ e => by cases e)]; exact z⟩
      have noown : ∀ (j : Nat) (x : EV), (lendE is st.env)[j]? = some (some x) → ∃ d, x = .val d ∧ ∃ w, σ[j]? = some (some w) ∧ Rep X.K H' [] d w := fun j x hj => by
        unfold lendE at hj
        rw [List.getElem?_mapIdx] at hj
        obtain ⟨o, e1, e2⟩ := Option.map_eq_some_iff.mp hj
        have key : ((∃ d, o = some (.val d) ∧ d.pure = true ∧ x = .val d) ∨ ∃ xs, o = some (.own xs) ∧ pures xs = true ∧ x = .val (.lst xs)) := by
          split at e2
          · exact lendv_some e2
          · exact .inl (frzv_some e2)
        rcases key with ⟨d', rfl, hp, rfl⟩ | ⟨xs, rfl, hp, rfl⟩
        · obtain ⟨w, g1, g2⟩ := R.slots j _ e1
          exact ⟨d', rfl, w, g1, Rep.pure d' w hp (g2.mono pe (List.prefix_refl _))⟩
        · obtain ⟨y, hy, r1, r2⟩ := o3 j (by rw [List.mem_range]; exact (List.getElem?_eq_some_iff.mp e1).1) xs e1
          obtain ⟨od, ho⟩ := a1 y hy
          exact ⟨.lst xs, rfl, .ref y.1, r1, y.1, od, y.2, rfl, ho, Reps.pure xs y.2 hp (r2.per pe)⟩
      have R' : Rel X.K (noTb H') σ H' [] ⟨lendE is st.env, []⟩ := {
        ln := by unfold lendE; simp [R.ln]
        nd := .nil
        ml := rfl
        tr := fun a m => by cases m
        kp := fun _ _ e => (noTb_some e).1
        kc := fun a m => by cases m
        kt := fun a ps e => (noTb_some e).2 ps rfl
        tb := fun P q h => tabS_move (R.tb P q h) fun a u z n _ => by rw [a2 a (nin a _ z n)]; exact z
        cells := fun n a c e => by simp at e
        slots := fun j x hj => by
          obtain ⟨d', rfl, w, r⟩ := noown j x hj
          exact ⟨w, r⟩
        own := fun j ys q hj => by
          obtain ⟨d', e, _⟩ := noown j _ hj
          cases e
        dist := fun j j' ys zs q hj => by
          obtain ⟨d', e, _⟩ := noown j _ hj
          cases e }
      refine thn (he.run pins s σ _ (fun v H1 => RvR X.K (noTb H') σ H1 [] s2 d v ∧ XtN H' H1 ∧ Per H' H1 ∧ ∀ P q, TQ X.K P q → LamX.TabS H1 P q) J ⟨_, [], _, R', ?_⟩) ?_
      · rw [hc]
        exact fun H' l' R2 pe2 q2 v hv => ⟨by
          cases d with
          | val d => exact Rep.noL (fun _ _ _ z => z) d v hd hv
          | own ys =>
            obtain ⟨q, ws, rfl, g1, g2, g3, g4, g5⟩ := hv
            exact ⟨q, ws, rfl, g1, Reps.noL (fun _ _ _ z => z) ys ws hd g2, g3, by simp, g5⟩, fun a o e n => R2.kp a o (noTb_of e n), pe2, R2.tb⟩
      · rintro u s1 ⟨v, H1, I1, ru, hv, ex, pe1, tb1⟩
        obtain ⟨H2, I2, ex2, k2⟩ := a3 H1 s1 pins σ I1 ex
        refine ⟨v, _, I2, ru, ?_⟩
        have ht : ∀ a o xs, H1 a = some (.frz o (.tup xs)) → H2 a = some (.frz o (.tup xs)) := fun a o xs z => by
          rw [k2 a fun m => ?_]
          · exact z
          · obtain ⟨x, hx, e⟩ := List.mem_map.mp m
            subst e
            obtain ⟨od, ho⟩ := a1 x hx
            rw [ex _ _ ho fun _ e => by cases e] at z
            cases z
        have k3 : ∀ a o, H1 a = some o → (∀ ob u, o ≠ .frz ob u) → H2 a = some o := fun a o e n2 => by
          rw [k2 a fun m => ?_]
          · exact e
          · obtain ⟨x, hx, e3⟩ := List.mem_map.mp m
            subst e3
            obtain ⟨od, ho⟩ := a1 x hx
            rw [ex _ _ ho fun _ e => by cases e] at e
            exact n2 _ _ (Option.some.inj e).symm
        have pe2 : Per H H2 := ⟨fun a o u e => ex2 _ _ e fun _ z => (by cases z), fun a xs e => ex2 _ _ e fun _ z => (by cases z)⟩
        refine f _ l (R.extN ex2 pe2 fun P q h => tabS_move (tb1 P q h) fun a o e _ n2 => k3 a o e n2) pe2 (List.prefix_refl _) v ?_
        cases d with
        | val d => exact Rep.noL ht d v hd hv
        | own ys =>
          obtain ⟨q, ws, rfl, g1, g2, g3, g4, g5⟩ := hv
          have hq : q ∉ ps.map (·.1) := fun m => by
            obtain ⟨x, hx, e⟩ := List.mem_map.mp m
            subst e
            obtain ⟨od, ho⟩ := a1 x hx
            rw [noTb_of ho fun _ z => (by cases z)] at g3
            cases g3
          have hn : noTb H q = none := by
            unfold noTb at g3 ⊢
            rw [← a2 q hq]
            exact g3
          exact ⟨q, ws, rfl, by rw [k2 q hq]; exact g1, Reps.noL ht ys ws hd g2, R.kp_noneT hn, R.nmemT hn, R.nownT hn⟩
    · exact (show False from f).elim
  · exact (show False from f).elim

theorem pt_borB {e : Expr} {is : List Nat} {c : C Bool} (he : PT X e (rb (gx X cl) W c)) : PT X e (rb (gx X cl) W (borB is c)) := by
  refine ⟨fun pins s σ H Q I q => ?_⟩
  obtain ⟨Kp, l, st, R, f⟩ := q
  unfold borB at f
  split at f
  · rename_i d s2 hc
    · obtain ⟨ps, o1, o2, o3⟩ := own_all R (List.range st.env.length) List.nodup_range
      obtain ⟨H', J, a1, a2, a3⟩ := lock_all ps I (fun x hx => (o2 x hx).1) o1
      have isL : ∀ x ∈ ps, ∀ o, H x.1 = some o → o = .lst x.2 := fun x hx o z => by
        rw [(o2 x hx).1] at z
        cases z; rfl
      have nin : ∀ a o, H a = some o → (∀ xs, o ≠ .lst xs) → a ∉ ps.map (·.1) := fun a o z hn m => by
        obtain ⟨x, hx, e⟩ := List.mem_map.mp m
        subst e
        exact hn _ (isL x hx o z)
      have pe : Per H H' := ⟨fun a o u z => by rw [a2 a (nin a _ z fun _ e => by cases e)]; exact z, fun a xs z => by rw [a2 a (nin a _ z fun _ e => by cases e)]; exact z⟩
      have noown : ∀ (j : Nat) (x : EV), (lendE is st.env)[j]? = some (some x) → ∃ d, x = .val d ∧ ∃ w, σ[j]? = some (some w) ∧ Rep X.K H' [] d w := fun j x hj => by
        unfold lendE at hj
        rw [List.getElem?_mapIdx] at hj
        obtain ⟨o, e1, e2⟩ := Option.map_eq_some_iff.mp hj
        have key : ((∃ d, o = some (.val d) ∧ d.pure = true ∧ x = .val d) ∨ ∃ xs, o = some (.own xs) ∧ pures xs = true ∧ x = .val (.lst xs)) := by
          split at e2
          · exact lendv_some e2
          · exact .inl (frzv_some e2)
        rcases key with ⟨d', rfl, hp, rfl⟩ | ⟨xs, rfl, hp, rfl⟩
        · obtain ⟨w, g1, g2⟩ := R.slots j _ e1
          exact ⟨d', rfl, w, g1, Rep.pure d' w hp (g2.mono pe (List.prefix_refl _))⟩
        · obtain ⟨y, hy, r1, r2⟩ := o3 j (by rw [List.mem_range]; exact (List.getElem?_eq_some_iff.mp e1).1) xs e1
          obtain ⟨od, ho⟩ := a1 y hy
          exact ⟨.lst xs, rfl, .ref y.1, r1, y.1, od, y.2, rfl, ho, Reps.pure xs y.2 hp (r2.per pe)⟩
      have R' : Rel X.K (noTb H') σ H' [] ⟨lendE is st.env, []⟩ := {
        ln := by unfold lendE; simp [R.ln]
        nd := .nil
        ml := rfl
        tr := fun a m => by cases m
        kp := fun _ _ e => (noTb_some e).1
        kc := fun a m => by cases m
        kt := fun a ps e => (noTb_some e).2 ps rfl
        tb := fun P q h => tabS_move (R.tb P q h) fun a u z n _ => by rw [a2 a (nin a _ z n)]; exact z
        cells := fun n a c e => by simp at e
        slots := fun j x hj => by
          obtain ⟨d', rfl, w, r⟩ := noown j x hj
          exact ⟨w, r⟩
        own := fun j ys q hj => by
          obtain ⟨d', e, _⟩ := noown j _ hj
          cases e
        dist := fun j j' ys zs q hj => by
          obtain ⟨d', e, _⟩ := noown j _ hj
          cases e }
      refine thn (he.run pins s σ _ (fun b H1 => b = d ∧ XtN H' H1 ∧ Per H' H1 ∧ ∀ P q, TQ X.K P q → LamX.TabS H1 P q) J ⟨_, [], _, R', ?_⟩) ?_
      · rw [hc]
        exact fun H' l' R2 pe2 q2 => ⟨rfl, fun a o e n => R2.kp a o (noTb_of e n), pe2, R2.tb⟩
      · rintro u s1 ⟨H1, I1, rfl, ex, pe1, tb1⟩
        obtain ⟨H2, I2, ex2, k2⟩ := a3 H1 s1 pins σ I1 ex
        have k3 : ∀ a o, H1 a = some o → (∀ ob u, o ≠ .frz ob u) → H2 a = some o := fun a o e n2 => by
          rw [k2 a fun m => ?_]
          · exact e
          · obtain ⟨x, hx, e3⟩ := List.mem_map.mp m
            subst e3
            obtain ⟨od, ho⟩ := a1 x hx
            rw [ex _ _ ho fun _ e => by cases e] at e
            exact n2 _ _ (Option.some.inj e).symm
        have pe2 : Per H H2 := ⟨fun a o u e => ex2 _ _ e fun _ z => (by cases z), fun a xs e => ex2 _ _ e fun _ z => (by cases z)⟩
        exact ⟨H2, I2, f _ l (R.extN ex2 pe2 fun P q h => tabS_move (tb1 P q h) fun a o e _ n2 => k3 a o e n2) pe2 (List.prefix_refl _)⟩
  · exact (show False from f).elim

/-! ### what is walked -/
/-- J walks the data xs while what was frozen at H0 stays -/
def WkD (K : PySem.W.Frag) (l : List Addr) (J : It) (xs : List D) (H0 : Hp) : Prop := Walk J xs.length (fun H => Per H0 H) fun i H x H' => Ext H H' ∧ ∃ d, xs[i]? = some d ∧ Rep K H' l d x
def ri (g : Gx) (W : WX) (c : C (List D)) : TI := fun σ H R => ∃ Kp l st, Rel g.K Kp σ H l st ∧ Fin g.K g.cl W Kp σ H l (c st) fun xs st' H' l' => ∀ J, WkD g.K l' J xs H' → R J H'
section
variable {K : PySem.W.Frag} {H : Hp} {l : List Addr} {a : Addr} {xs ys : List D} {vs ws : List V}
theorem sqF {b : Bool} {o : Obj} (h : (b = false ∧ H a = some (.frz o (.lst vs))) ∨ (b = true ∧ TupO H a vs)) {H' : Hp} (p : Per H H') : SqB b K H' a vs := by
  rcases h with ⟨rfl, h⟩ | ⟨rfl, h⟩
  · exact .inl (.inr ⟨o, p.f _ _ _ h⟩)
  · exact (h.per p).sq
theorem wk_list {o : Obj} (h : H a = some (.frz o (.lst vs))) (r : Reps K H l xs vs) : WkD K l (Itl K a) xs H := by
  have w := (walk_list (K := K) (a := a) (xs := vs)).mono (G' := fun H' => Per H H') (Y' := fun i H x H' => Ext H H' ∧ ∃ d, xs[i]? = some d ∧ Rep K H' l d x) (fun H' p => .inl (.inr ⟨o, p.f _ _ _ h⟩)) fun i H1 x H' hi p y => by
    obtain ⟨rfl, y⟩ := y
    have hi' : i < xs.length := by rw [← r.len]; exact hi
    obtain ⟨v, e1, e2⟩ := (r.per p).get (i := i) (d := xs[i]) (by simp [hi'])
    rw [e1] at y
    cases y
    exact ⟨.refl, _, by simp [hi'], e2⟩
  unfold WkD
  rw [← r.len]
  exact w
theorem wk_tup (h : TupO H a vs) (r : Reps K H l xs vs) : WkD K l (Itt K a) xs H := by
  have w := (walk_tup (K := K) (a := a) (xs := vs)).mono (G' := fun H' => Per H H') (Y' := fun i H x H' => Ext H H' ∧ ∃ d, xs[i]? = some d ∧ Rep K H' l d x) (fun H' p => (h.per p).sq) fun i H1 x H' hi p y => by
    obtain ⟨rfl, y⟩ := y
    have hi' : i < xs.length := by rw [← r.len]; exact hi
    obtain ⟨v, e1, e2⟩ := (r.per p).get (i := i) (d := xs[i]) (by simp [hi'])
    rw [e1] at y
    cases y
    exact ⟨.refl, _, by simp [hi'], e2⟩
  unfold WkD
  rw [← r.len]
  exact w
theorem signs_get {z : Str} {i : Nat} {c : Nat} (h : z.cps[i]? = some c) : (signs z)[i]? = some (.str ⟨#[c]⟩) := by
  unfold signs
  rw [List.getElem?_map, Array.getElem?_toList, h]
  rfl
theorem wk_str {z : Str} : WkD K l (Its z) (signs z) H := by
  have e : (signs z).length = z.cps.size := by unfold signs; simp
  unfold WkD
  rw [e]
  refine (walk_str (z := z)).mono (fun _ _ => trivial) fun i H1 x H' hi p y => ?_
  obtain ⟨rfl, c, e1, rfl⟩ := y
  exact ⟨.refl, _, signs_get e1, rfl⟩
theorem rangeL_get : ∀ (n i : Nat) (lo : Int), i < n → (rangeL lo n)[i]? = some (.int (lo + i))
  | 0, i, lo, h => by omega
  | n + 1, 0, lo, h => by simp [rangeL]
  | n + 1, i + 1, lo, h => by
    unfold rangeL
    rw [List.getElem?_cons_succ, rangeL_get n i (lo + 1) (by omega)]
    congr 2
    omega
theorem rangeL_len : ∀ (n : Nat) (lo : Int), (rangeL lo n).length = n
  | 0, _ => rfl
  | n + 1, lo => by unfold rangeL; rw [List.length_cons, rangeL_len n]
theorem rangeC_get : ∀ (n i : Nat) (lo c : Int), i < n → (rangeC lo c n)[i]? = some (.int (lo + (i : Nat) * c))
  | 0, i, lo, c, h => by omega
  | n + 1, 0, lo, c, h => by simp [rangeC]
  | n + 1, i + 1, lo, c, h => by
    unfold rangeC
    rw [List.getElem?_cons_succ, rangeC_get n i (lo + c) c (by omega)]
    congr 2
    rw [Int.natCast_add, Int.add_mul]
    omega
theorem rangeC_len : ∀ (n : Nat) (lo c : Int), (rangeC lo c n).length = n
  | 0, _, _ => rfl
  | n + 1, lo, c => by unfold rangeC; rw [List.length_cons, rangeC_len n]
theorem wk_range {lo : Int} {n : Nat} : WkD K l (Itr lo n) (rangeL lo n) H := by
  unfold WkD
  rw [rangeL_len]
  refine walk_range.mono (fun _ _ => trivial) fun i H1 x H' hi p y => ?_
  obtain ⟨rfl, rfl⟩ := y
  exact ⟨.refl, _, rangeL_get n i lo hi, rfl⟩
theorem wk_rangeC {lo c : Int} {n : Nat} : WkD K l (Itc lo c n) (rangeC lo c n) H := by
  unfold WkD
  rw [rangeC_len]
  refine walk_rangeC.mono (fun _ _ => trivial) fun i H1 x H' hi p y => ?_
  obtain ⟨rfl, rfl⟩ := y
  exact ⟨.refl, _, rangeC_get n i lo c hi, rfl⟩
theorem wk_rev {o : Obj} (h : H a = some (.frz o (.lst vs))) (r : Reps K H l xs vs) : WkD K l (Itv K a vs.length) xs.reverse H := by
  have w := (walk_rev (K := K) (a := a) (xs := vs)).mono (G' := fun H' => Per H H') (Y' := fun i H x H' => Ext H H' ∧ ∃ d, xs.reverse[i]? = some d ∧ Rep K H' l d x) (fun H' p => .inl (.inr ⟨o, p.f _ _ _ h⟩)) fun i H1 x H' hi p y => by
    obtain ⟨rfl, y⟩ := y
    have hi' : i < xs.reverse.length := by rw [List.length_reverse, ← r.len]; exact hi
    obtain ⟨v, e1, e2⟩ := (r.per p).rev.get (i := i) (d := xs.reverse[i]) (List.getElem?_eq_getElem hi')
    have e3 : vs.reverse[i]? = vs[vs.length - 1 - i]? := List.getElem?_reverse hi
    rw [e3, y] at e1
    cases e1
    exact ⟨.refl, _, List.getElem?_eq_getElem hi', e2⟩
  unfold WkD
  rw [List.length_reverse, ← r.len]
  exact w
theorem wk_revT (h : TupO H a vs) (r : Reps K H l xs vs) : WkD K l (RT.ItvT K a vs.length) xs.reverse H := by
  have w0 : Walk (RT.ItvT K a vs.length) vs.length (fun H => SqT K H a vs) (fun i H x H' => H' = H ∧ vs[vs.length - 1 - i]? = some x) :=
    ⟨fun i _ hi q => ⟨hi, vs, vs[vs.length - 1 - i]'(by omega), q, by simp [show vs.length - 1 - i < vs.length by omega]⟩, fun _ _ => Nat.le_refl _, fun _ _ _ _ _ q y => ⟨y.1, y.2 vs q⟩⟩
  have w := w0.mono (G' := fun H' => Per H H') (Y' := fun i H x H' => Ext H H' ∧ ∃ d, xs.reverse[i]? = some d ∧ Rep K H' l d x) (fun H' p => (h.per p).sq) fun i H1 x H' hi p y => by
    obtain ⟨rfl, y⟩ := y
    have hi' : i < xs.reverse.length := by rw [List.length_reverse, ← r.len]; exact hi
    obtain ⟨v, e1, e2⟩ := (r.per p).rev.get (i := i) (d := xs.reverse[i]) (List.getElem?_eq_getElem hi')
    have e3 : vs.reverse[i]? = vs[vs.length - 1 - i]? := List.getElem?_reverse hi
    rw [e3, y] at e1
    cases e1
    exact ⟨.refl, _, List.getElem?_eq_getElem hi', e2⟩
  unfold WkD
  rw [List.length_reverse, ← r.len]
  exact w
theorem enumD_get : ∀ (xs : List D) (n i : Nat) (d : D), xs[i]? = some d → (enumD n xs)[i]? = some (.tup [.int ((n + i : Nat)), d])
  | [], n, i, d, h => by simp at h
  | x :: xs, n, 0, d, h => by
    simp at h
    subst h
    simp [enumD]
  | x :: xs, n, i + 1, d, h => by
    unfold enumD
    rw [List.getElem?_cons_succ, enumD_get xs (n + 1) i d (by simpa using h)]
    have : n + 1 + i = n + (i + 1) := by omega
    rw [this]
theorem enumD_len : ∀ (xs : List D) (n : Nat), (enumD n xs).length = xs.length
  | [], _ => rfl
  | x :: xs, n => by unfold enumD; rw [List.length_cons, enumD_len xs, List.length_cons]
theorem zipD_get : ∀ (xs ys : List D) (i : Nat) (d e : D), xs[i]? = some d → ys[i]? = some e → (zipD xs ys)[i]? = some (.tup [d, e])
  | [], _, i, d, e, h, _ => by simp at h
  | x :: xs, [], i, d, e, _, h => by simp at h
  | x :: xs, y :: ys, 0, d, e, h, h' => by
    simp at h h'
    subst h h'
    simp [zipD]
  | x :: xs, y :: ys, i + 1, d, e, h, h' => by
    unfold zipD
    rw [List.getElem?_cons_succ, zipD_get xs ys i d e (by simpa using h) (by simpa using h')]
theorem zipD3_get : ∀ (xs ys zs : List D) (i : Nat) (d e f : D), xs[i]? = some d → ys[i]? = some e → zs[i]? = some f → (zipD3 xs ys zs)[i]? = some (.tup [d, e, f])
  | [], _, _, i, d, e, f, h, _, _ => by simp at h
  | x :: xs, [], _, i, d, e, f, _, h, _ => by simp at h
  | x :: xs, y :: ys, [], i, d, e, f, _, _, h => by simp at h
  | x :: xs, y :: ys, z :: zs, 0, d, e, f, h, h', h'' => by
    simp at h h' h''
    subst h h' h''
    simp [zipD3]
  | x :: xs, y :: ys, z :: zs, i + 1, d, e, f, h, h', h'' => by
    unfold zipD3
    rw [List.getElem?_cons_succ, zipD3_get xs ys zs i d e f (by simpa using h) (by simpa using h') (by simpa using h'')]
theorem zipD3_len : ∀ (xs ys zs : List D), (zipD3 xs ys zs).length = min xs.length (min ys.length zs.length)
  | [], _, _ => by simp [zipD3]
  | x :: xs, [], _ => by simp [zipD3]
  | x :: xs, y :: ys, [] => by simp [zipD3]
  | x :: xs, y :: ys, z :: zs => by
    unfold zipD3
    rw [List.length_cons, zipD3_len xs ys zs]
    simp only [List.length_cons]
    omega
theorem zipD_len : ∀ (xs ys : List D), (zipD xs ys).length = min xs.length ys.length
  | [], _ => by simp [zipD]
  | x :: xs, [] => by simp [zipD]
  | x :: xs, y :: ys => by
    unfold zipD
    rw [List.length_cons, zipD_len xs ys, List.length_cons, List.length_cons]
    omega
theorem SqB.inj {b : Bool} {H : Hp} {a : Addr} {xs ys : List V} {o : Obj} (h : (b = false ∧ H a = some (.frz o (.lst xs))) ∨ (b = true ∧ TupO H a xs)) : SqB b K H a xs := sqF h .refl
theorem wk_enum {b : Bool} {o : Obj} (h : (b = false ∧ H a = some (.frz o (.lst vs))) ∨ (b = true ∧ TupO H a vs)) (r : Reps K H l xs vs) : WkD K l (IteB b K a) (enumD 0 xs) H := by
  unfold WkD
  rw [enumD_len, ← r.len]
  refine ⟨fun i H' hi p => ⟨vs, vs[i], sqF h p, by simp [hi]⟩, fun H' p => ⟨vs, sqF h p, rfl⟩, fun i H1 x H' hi p y => ?_⟩
  obtain ⟨T, x', ob, hob, rfl, hT, rfl, hx⟩ := y
  have hi' : i < xs.length := by rw [← r.len]; exact hi
  obtain ⟨v, e1, e2⟩ := (r.per p).get (i := i) (d := xs[i]) (by simp [hi'])
  have e3 := hx vs (sqF h p)
  rw [e1] at e3
  cases e3
  refine ⟨.new hT, _, enumD_get xs 0 i _ (by simp [hi']), T, _, rfl, .new hob, .cons ?_ (.cons (e2.mono (.new hT) (List.prefix_refl _)) .nil)⟩
  rw [Nat.zero_add]
  exact rfl
theorem wk_zip {b1 b2 : Bool} {a2 : Addr} {o o2 : Obj} (h : (b1 = false ∧ H a = some (.frz o (.lst vs))) ∨ (b1 = true ∧ TupO H a vs)) (h2 : (b2 = false ∧ H a2 = some (.frz o2 (.lst ws))) ∨ (b2 = true ∧ TupO H a2 ws))
    (r : Reps K H l xs vs) (r2 : Reps K H l ys ws) : WkD K l (ItzB b1 b2 K a a2) (zipD xs ys) H := by
  unfold WkD
  rw [zipD_len, ← r.len, ← r2.len]
  refine ⟨fun i H' hi p => ?_, fun H' p => ⟨vs, ws, sqF h p, sqF h2 p, by omega, by omega, by omega⟩, fun i H1 x H' hi p y => ?_⟩
  · have g1 : i < vs.length := by omega
    have g2 : i < ws.length := by omega
    exact ⟨vs, ws, vs[i], ws[i], sqF h p, sqF h2 p, by simp [g1], by simp [g2]⟩
  · obtain ⟨T, x', y', ob, hob, rfl, hT, rfl, hx, hy⟩ := y
    have g1 : i < xs.length := by rw [← r.len]; omega
    have g2 : i < ys.length := by rw [← r2.len]; omega
    obtain ⟨v, e1, e2⟩ := (r.per p).get (i := i) (d := xs[i]) (by simp [g1])
    obtain ⟨w, f1, f2⟩ := (r2.per p).get (i := i) (d := ys[i]) (by simp [g2])
    have e3 := hx vs (sqF h p)
    have f3 := hy ws (sqF h2 p)
    rw [e1] at e3
    cases e3
    rw [f1] at f3
    cases f3
    exact ⟨.new hT, _, zipD_get xs ys i _ _ (by simp [g1]) (by simp [g2]), T, _, rfl, .new hob, .cons (e2.mono (.new hT) (List.prefix_refl _)) (.cons (f2.mono (.new hT) (List.prefix_refl _)) .nil)⟩
theorem wk_zip3 {b1 b2 b3 : Bool} {a2 a3 : Addr} {o o2 o3 : Obj} {zs : List D} {us : List V} (h : (b1 = false ∧ H a = some (.frz o (.lst vs))) ∨ (b1 = true ∧ TupO H a vs)) (h2 : (b2 = false ∧ H a2 = some (.frz o2 (.lst ws))) ∨ (b2 = true ∧ TupO H a2 ws)) (h3 : (b3 = false ∧ H a3 = some (.frz o3 (.lst us))) ∨ (b3 = true ∧ TupO H a3 us))
    (r : Reps K H l xs vs) (r2 : Reps K H l ys ws) (r3 : Reps K H l zs us) : WkD K l (ItzT b1 b2 b3 K a a2 a3) (zipD3 xs ys zs) H := by
  unfold WkD
  rw [zipD3_len, ← r.len, ← r2.len, ← r3.len]
  refine ⟨fun i H' hi p => ?_, fun H' p => ⟨vs, ws, us, sqF h p, sqF h2 p, sqF h3 p, by omega, by omega, by omega, by omega⟩, fun i H1 x H' hi p y => ?_⟩
  · have g1 : i < vs.length := by omega
    have g2 : i < ws.length := by omega
    have g3 : i < us.length := by omega
    exact ⟨vs, ws, us, vs[i], ws[i], us[i], sqF h p, sqF h2 p, sqF h3 p, by simp [g1], by simp [g2], by simp [g3]⟩
  · obtain ⟨T, x', y', z', ob, hob, rfl, hT, rfl, hx, hy, hz⟩ := y
    have g1 : i < xs.length := by rw [← r.len]; omega
    have g2 : i < ys.length := by rw [← r2.len]; omega
    have g3 : i < zs.length := by rw [← r3.len]; omega
    obtain ⟨v, e1, e2⟩ := (r.per p).get (i := i) (d := xs[i]) (by simp [g1])
    obtain ⟨w, f1, f2⟩ := (r2.per p).get (i := i) (d := ys[i]) (by simp [g2])
    obtain ⟨u, k1, k2⟩ := (r3.per p).get (i := i) (d := zs[i]) (by simp [g3])
    have e3 := hx vs (sqF h p)
    have f3 := hy ws (sqF h2 p)
    have k3 := hz us (sqF h3 p)
    rw [e1] at e3
    cases e3
    rw [f1] at f3
    cases f3
    rw [k1] at k3
    cases k3
    exact ⟨.new hT, _, zipD3_get xs ys zs i _ _ _ (by simp [g1]) (by simp [g2]) (by simp [g3]), T, _, rfl, .new hob, .cons (e2.mono (.new hT) (List.prefix_refl _)) (.cons (f2.mono (.new hT) (List.prefix_refl _)) (.cons (k2.mono (.new hT) (List.prefix_refl _)) .nil))⟩
end
variable {tg : Expr}
/-- a list, a tuple or a text is walked -/
theorem pi_seqC {e : Expr} {c : C EV} (he : PE X e (rd (gx X cl) W c)) : PI X tg e (ri (gx X cl) W (bnd c fun x => ofO (seqD x.d))) := by
  refine ⟨fun pins s σ H R I h => ?_⟩
  obtain ⟨Kp, l, st, R0, f⟩ := h
  refine thn ((pe_rz he).run pins s σ H (fun v H1 => (∃ z, v = .str z ∧ R (Its z) H1) ∨ (∃ a, v = .ref a ∧ (∃ xs, SqL X.K H1 a xs) ∧ R (Itl X.K a) H1) ∨ (∃ a, v = .ref a ∧ (∃ xs, SqT X.K H1 a xs) ∧ R (Itt X.K a) H1)) I ⟨Kp, l, st, R0, (Fin.bnd f).imp fun x st1 H1 l1 R1 _ _ f1 v hv => ?_⟩) fun v s1 ⟨x, H1, I1, r1, q1⟩ => ?_
  · cases hx : x.d with
    | lst xs =>
      rw [hx] at hv f1
      obtain ⟨a, o, vs, rfl, h1, h2⟩ := hv
      exact .inr (.inl ⟨a, rfl, ⟨vs, .inl (.inr ⟨o, h1⟩)⟩, f1 H1 l1 R1 .refl (List.prefix_refl _) _ (wk_list h1 h2)⟩)
    | tup xs =>
      rw [hx] at hv f1
      obtain ⟨a, vs, rfl, h1, h2⟩ := hv
      exact .inr (.inr ⟨a, rfl, ⟨vs, h1.sq⟩, f1 H1 l1 R1 .refl (List.prefix_refl _) _ (wk_tup h1 h2)⟩)
    | str z =>
      rw [hx] at hv f1
      cases hv
      exact .inl ⟨z, rfl, f1 H1 l1 R1 .refl (List.prefix_refl _) _ wk_str⟩
    | _ => rw [hx] at f1; exact (show False from f1).elim
  · rcases q1 with ⟨z, rfl, q⟩ | ⟨a, rfl, ⟨xs, hq⟩, q⟩ | ⟨a, rfl, ⟨xs, hq⟩, q⟩
    · obtain ⟨t, rfl⟩ := r1
      cases ha : z.cps.all (· < 128)
      · exact wpAny_pyIter_wide ha (pi_one (tk := s1.toks) I1 _ (turn_str _ z t "str_iterator" (.inr rfl)) ⟨_, Heap.get?_push_size _ rfl, rfl, rfl⟩ q)
      · exact wpAny_pyIter_ascii ha (pi_one (tk := s1.toks) I1 _ (turn_str _ z t "str_ascii_iterator" (.inl rfl)) ⟨_, Heap.get?_push_size _ rfl, rfl, rfl⟩ q)
    · cases r1
      obtain ⟨its, rv, p, hz⟩ := I1.list hq
      refine wpAny_pyIter_list p.isList ?_
      refine ⟨s1.heap.objs.size, [s1.heap.objs.size], _, _, H1, rfl, I1.kept (t' := s1.toks) fun b o e => Heap.get?_push_of_some _ e, turn_list a _, ⟨_, Heap.get?_push_size _ rfl, rfl, rfl⟩, fun b hb => ?_, q⟩
      have e : b = s1.heap.objs.size := by simpa using hb
      subst e
      exact I1.fpOk (Nat.le_refl _) (I1.hok.fresh (Nat.le_refl _))
    · cases r1
      obtain ⟨its, rv, p, hz⟩ := I1.tuple hq
      refine wpAny_pyIter_tuple (show s1.heap.IsTuple a its.toArray from p) ?_
      refine ⟨s1.heap.objs.size, [s1.heap.objs.size], _, _, H1, rfl, I1.kept (t' := s1.toks) fun b o e => Heap.get?_push_of_some _ e, turn_tuple a _, ⟨_, Heap.get?_push_size _ rfl, rfl, rfl⟩, fun b hb => ?_, q⟩
      have e : b = s1.heap.objs.size := by simpa using hb
      subst e
      exact I1.fpOk (Nat.le_refl _) (I1.hok.fresh (Nat.le_refl _))
variable {a b c : Expr} {ca cb cc : C EV} {p pos : Pos}
theorem ok62_iff {i : Int} (h : ok62 i = true) : -(2 ^ 62) ≤ i ∧ i < 2 ^ 62 := by
  unfold ok62 at h
  simpa only [Bool.and_eq_true, decide_eq_true_eq] using h
theorem fin_asI {K : PySem.W.Frag} {Kp : Hp} {σ : Sl} {H : Hp} {l : List Addr} {st : Sta} {d : D} {β : Type} {f : Int → Option β} {P : β → Sta → Hp → List Addr → Prop} (h : Fin K cl W Kp σ H l (ofO ((asI d).bind f) st) P) :
    ∃ i, d = .int i ∧ Fin K cl W Kp σ H l (ofO (f i) st) P := by
  cases d with
  | int i => exact ⟨i, rfl, h⟩
  | _ => exact (show False from h).elim
theorem pi_rng1C (ha : PE X a (rd (gx X cl) W ca)) (hg : Gl X "range") (hm : ∀ x ∈ bltNames, X.mg x = none) (hn : noStar a = true) :
    PI X tg (.Call (.Name "range" p) [a] [] pos) (ri (gx X cl) W (bnd ca fun x => ofO ((asI x.d).bind fun j => if ok62 j then some (rangeL 0 j.toNat) else none))) := by
  have key := pi_range1 (tg := tg) (p := p) (pos := pos) hg (hm _ (by decide +kernel)) (pa_consC ha pa_nilC hn) (star_cons hn)
  refine ⟨fun pins s σ H R I h => key.run pins s σ H R I ?_⟩
  obtain ⟨Kp, l, st, R0, f⟩ := h
  refine ⟨Kp, l, st, R0, ?_⟩
  cases ec : ca st with
  | err => simp only [bnd_at, ec, Out.bnd_err] at f; exact (show False from f).elim
  | exc x s1 => simp only [bnd_at, ec, Out.bnd_exc] at f ⊢; exact f
  | ok x st1 =>
    simp only [bnd_at, ec, Out.bnd_ok] at f ⊢
    intro H1 l1 R1 p1 q1 vs hvs
    obtain ⟨j, ej, f⟩ := fin_asI f
    rw [ej] at hvs
    obtain ⟨v, rfl, hv⟩ := reps1 hvs
    cases hv
    split at f
    · rename_i c
      obtain ⟨h1, h2⟩ := ok62_iff c
      exact ⟨j, rfl, h1, h2, f H1 l1 R1 p1 q1 _ wk_range⟩
    · exact (show False from f).elim
theorem pi_rng2C (ha : PE X a (rd (gx X cl) W ca)) (hb : PE X b (rd (gx X cl) W cb)) (hg : Gl X "range") (hm : ∀ x ∈ bltNames, X.mg x = none) (hn : noStar a = true) (hn2 : noStar b = true) :
    PI X tg (.Call (.Name "range" p) [a, b] [] pos) (ri (gx X cl) W (bnd ca fun x => bnd cb fun y => ofO ((asI x.d).bind fun i => (asI y.d).bind fun j => if ok62 i && ok62 j then some (rangeL i (j - i).toNat) else none))) := by
  have key := pi_range2 (tg := tg) (p := p) (pos := pos) hg (hm _ (by decide +kernel)) (pa_cons (pe_rz ha) (pa_cons (pe_rz hb) pa_nil (star_cons hn2)) (star_cons hn)) (by rw [star_cons hn, star_cons hn2]; rfl) (star_cons hn2)
  refine ⟨fun pins s σ H R I h => key.run pins s σ H R I ?_⟩
  obtain ⟨Kp, l, st, R0, f⟩ := h
  refine ⟨Kp, l, st, R0, (Fin.bnd f).imp fun x st1 H1 l1 R1 _ _ f1 v hv => ⟨Kp, l1, st1, R1, (Fin.bnd f1).imp fun y st2 H2 l2 R2 p2 q2 f2 u hu => ?_⟩⟩
  obtain ⟨i, ei, f2⟩ := fin_asI f2
  obtain ⟨j, ej, f2⟩ := fin_asI f2
  rw [ei] at hv
  rw [ej] at hu
  cases hv; cases hu
  split at f2
  · rename_i c
    rw [Bool.and_eq_true] at c
    obtain ⟨h1, h2⟩ := ok62_iff c.1
    obtain ⟨h3, h4⟩ := ok62_iff c.2
    exact ⟨i, j, rfl, ⟨h1, h2, h3, h4⟩, f2 H2 l2 R2 .refl (List.prefix_refl _) _ wk_range⟩
  · exact (show False from f2).elim
theorem pi_rng3C (ha : PE X a (rd (gx X cl) W ca)) (hb : PE X b (rd (gx X cl) W cb)) (hc : PE X c (rd (gx X cl) W cc)) (hg : Gl X "range") (hm : ∀ x ∈ bltNames, X.mg x = none) (hn : noStar a = true) (hn2 : noStar b = true) (hn3 : noStar c = true) :
    PI X tg (.Call (.Name "range" p) [a, b, c] [] pos) (ri (gx X cl) W (bnd ca fun x => bnd cb fun y => bnd cc fun z => ofO ((asI x.d).bind fun i => (asI y.d).bind fun j => (asI z.d).bind fun c =>
      if c ≠ 0 ∧ c.natAbs < 1073741824 ∧ Builtin.Range.small i j c = true then some (rangeC i c (Builtin.Range.rangeSize i j c).toNat) else none))) := by
  have key := pi_range3 (tg := tg) (p := p) (pos := pos) hg (hm _ (by decide +kernel)) (pa_cons (pe_rz ha) (pa_cons (pe_rz hb) (pa_cons (pe_rz hc) pa_nil (star_cons hn3)) (star_cons hn2)) (star_cons hn)) (star_cons hn) (star_back (by simp [hn2, hn3]))
  refine ⟨fun pins s σ H R I h => key.run pins s σ H R I ?_⟩
  obtain ⟨Kp, l, st, R0, f⟩ := h
  refine ⟨Kp, l, st, R0, (Fin.bnd f).imp fun x st1 H1 l1 R1 _ _ f1 v hv => ⟨Kp, l1, st1, R1, (Fin.bnd f1).imp fun y st2 H2 l2 R2 p2 q2 f2 u hu => ⟨Kp, l2, st2, R2, (Fin.bnd f2).imp fun z st3 H3 l3 R3 p3 q3 f3 w hw => ?_⟩⟩⟩
  obtain ⟨i, ei, f3⟩ := fin_asI f3
  obtain ⟨j, ej, f3⟩ := fin_asI f3
  obtain ⟨k, ek, f3⟩ := fin_asI f3
  rw [ei] at hv
  rw [ej] at hu
  rw [ek] at hw
  cases hv; cases hu; cases hw
  split at f3
  · rename_i cc
    have hpos : 0 ≤ Builtin.Range.rangeSize i j k := by
      have c0 := cc.1
      unfold Builtin.Range.rangeSize
      split
      · split
        · have := Int.ediv_nonneg (a := j - i - 1) (b := k) (by omega) (by omega)
          omega
        · omega
      · split
        · have := Int.ediv_nonneg (a := i - j - 1) (b := -k) (by omega) (by omega)
          omega
        · omega
    exact ⟨i, j, k, _, rfl, ⟨cc.1, cc.2.1, cc.2.2, (Int.toNat_of_nonneg hpos).symm⟩, f3 H3 l3 R3 .refl (List.prefix_refl _) _ wk_rangeC⟩
  · exact (show False from f3).elim
theorem pi_enmC {elts : List Expr} {kk : Nat} {tpos : Pos} (ha : PE X a (rd (gx X cl) W ca)) (hg : Gl X "enumerate") (hm : ∀ x ∈ bltNames, X.mg x = none) (hn : noStar a = true) :
    PI X (.Tuple elts kk tpos) (.Call (.Name "enumerate" p) [a] [] pos) (ri (gx X cl) W (bnd ca fun x => ofO (x.d.items.map (enumD 0)))) := by
  have key := pi_enumB (elts := elts) (kk := kk) (tpos := tpos) (p := p) (pos := pos) hg (hm _ (by decide +kernel)) (pa_cons (pe_rz ha) pa_nil (star_cons hn)) (star_cons hn)
  refine ⟨fun pins s σ H R I h => key.run pins s σ H R I ?_⟩
  obtain ⟨Kp, l, st, R0, f⟩ := h
  refine ⟨Kp, l, st, R0, (Fin.bnd f).imp fun x st1 H1 l1 R1 _ _ f1 v hv => ?_⟩
  cases hx : x.d.items with
  | none => rw [hx] at f1; exact (show False from f1).elim
  | some xs =>
    rw [hx] at f1
    obtain ⟨a, vs, rfl, hvs, hh⟩ := sq_items hv hx
    rcases hh with ⟨_, o, hh⟩ | ⟨_, hh⟩
    · exact ⟨a, vs, false, rfl, sqF (o := o) (.inl ⟨rfl, hh⟩) .refl, f1 H1 l1 R1 .refl (List.prefix_refl _) _ (wk_enum (o := o) (.inl ⟨rfl, hh⟩) hvs)⟩
    · exact ⟨a, vs, true, rfl, sqF (o := default) (.inr ⟨rfl, hh⟩) .refl, f1 H1 l1 R1 .refl (List.prefix_refl _) _ (wk_enum (o := default) (.inr ⟨rfl, hh⟩) hvs)⟩
theorem pi_zipC {elts : List Expr} {kk : Nat} {tpos : Pos} (ha : PE X a (rd (gx X cl) W ca)) (hb : PE X b (rd (gx X cl) W cb)) (hg : Gl X "zip") (hm : ∀ x ∈ bltNames, X.mg x = none) (hn : noStar a = true) (hn2 : noStar b = true) :
    PI X (.Tuple elts kk tpos) (.Call (.Name "zip" p) [a, b] [] pos) (ri (gx X cl) W (bnd ca fun x => bnd cb fun y => ofO (x.d.items.bind fun xs => y.d.items.map fun ys => zipD xs ys))) := by
  have key := pi_zipB (elts := elts) (kk := kk) (tpos := tpos) (p := p) (pos := pos) hg (hm _ (by decide +kernel)) (pa_cons (pe_rz ha) (pa_cons (pe_rz hb) pa_nil (star_cons hn2)) (star_cons hn)) (star_cons hn) (star_back (by simp [hn2]))
  refine ⟨fun pins s σ H R I h => key.run pins s σ H R I ?_⟩
  obtain ⟨Kp, l, st, R0, f⟩ := h
  refine ⟨Kp, l, st, R0, (Fin.bnd f).imp fun x st1 H1 l1 R1 _ _ f1 v hv => ⟨Kp, l1, st1, R1, (Fin.bnd f1).imp fun y st2 H2 l2 R2 p2 q2 f2 u hu => ?_⟩⟩
  cases hx : x.d.items with
  | none => rw [hx] at f2; exact (show False from f2).elim
  | some xs =>
    cases hy : y.d.items with
    | none => rw [hx, hy] at f2; exact (show False from f2).elim
    | some ys =>
      rw [hx, hy] at f2
      obtain ⟨a1, vs, rfl, hvs, hh⟩ := sq_items (hv.mono p2 q2) hx
      obtain ⟨a2, ws, rfl, hws, hh2⟩ := sq_items hu hy
      have h1 : ∃ b1 o, (b1 = false ∧ H2 a1 = some (.frz o (.lst vs))) ∨ (b1 = true ∧ TupO H2 a1 vs) := by
        rcases hh with ⟨_, o, hh⟩ | ⟨_, hh⟩
        · exact ⟨false, o, .inl ⟨rfl, hh⟩⟩
        · exact ⟨true, default, .inr ⟨rfl, hh⟩⟩
      have h2 : ∃ b1 o, (b1 = false ∧ H2 a2 = some (.frz o (.lst ws))) ∨ (b1 = true ∧ TupO H2 a2 ws) := by
        rcases hh2 with ⟨_, o, hh⟩ | ⟨_, hh⟩
        · exact ⟨false, o, .inl ⟨rfl, hh⟩⟩
        · exact ⟨true, default, .inr ⟨rfl, hh⟩⟩
      obtain ⟨b1, o1, h1⟩ := h1
      obtain ⟨b2, o2, h2⟩ := h2
      exact ⟨a1, a2, vs, ws, b1, b2, rfl, sqF h1 .refl, sqF h2 .refl, f2 H2 l2 R2 .refl (List.prefix_refl _) _ (wk_zip h1 h2 hvs hws)⟩
theorem pi_zip3C {elts : List Expr} {kk : Nat} {tpos : Pos} (ha : PE X a (rd (gx X cl) W ca)) (hb : PE X b (rd (gx X cl) W cb)) (hc : PE X c (rd (gx X cl) W cc)) (hg : Gl X "zip") (hm : ∀ x ∈ bltNames, X.mg x = none) (hn : noStar a = true) (hn2 : noStar b = true) (hn3 : noStar c = true) :
    PI X (.Tuple elts kk tpos) (.Call (.Name "zip" p) [a, b, c] [] pos) (ri (gx X cl) W (bnd ca fun x => bnd cb fun y => bnd cc fun z => ofO (x.d.items.bind fun xs => y.d.items.bind fun ys => z.d.items.map fun zs => zipD3 xs ys zs))) := by
  have key := pi_zipT (elts := elts) (kk := kk) (tpos := tpos) (p := p) (pos := pos) hg (hm _ (by decide +kernel)) (pa_cons (pe_rz ha) (pa_cons (pe_rz hb) (pa_cons (pe_rz hc) pa_nil (star_cons hn3)) (star_cons hn2)) (star_cons hn)) (star_cons hn) (star_back (by simp [hn2, hn3]))
  refine ⟨fun pins s σ H R I h => key.run pins s σ H R I ?_⟩
  obtain ⟨Kp, l, st, R0, f⟩ := h
  refine ⟨Kp, l, st, R0, (Fin.bnd f).imp fun x st1 H1 l1 R1 _ _ f1 v hv => ⟨Kp, l1, st1, R1, (Fin.bnd f1).imp fun y st2 H2 l2 R2 p2 q2 f2 u hu => ⟨Kp, l2, st2, R2, (Fin.bnd f2).imp fun z st3 H3 l3 R3 p3 q3 f3 w hw => ?_⟩⟩⟩
  cases hx : x.d.items with
  | none => rw [hx] at f3; exact (show False from f3).elim
  | some xs =>
    cases hy : y.d.items with
    | none => rw [hx, hy] at f3; exact (show False from f3).elim
    | some ys =>
      cases hz : z.d.items with
      | none => rw [hx, hy, hz] at f3; exact (show False from f3).elim
      | some zs =>
        rw [hx, hy, hz] at f3
        obtain ⟨a1, vs, rfl, hvs, hh⟩ := sq_items ((hv.mono p2 q2).mono p3 q3) hx
        obtain ⟨a2, ws, rfl, hws, hh2⟩ := sq_items (hu.mono p3 q3) hy
        obtain ⟨a3, us, rfl, hus, hh3⟩ := sq_items hw hz
        have one : ∀ {a : Addr} {vs : List V} {d : D} {ds : List D}, ((d = .lst ds ∧ ∃ o, H3 a = some (.frz o (.lst vs))) ∨ (d = .tup ds ∧ TupO H3 a vs)) → ∃ b1 o, (b1 = false ∧ H3 a = some (.frz o (.lst vs))) ∨ (b1 = true ∧ TupO H3 a vs) := by
          intro a vs d ds hh
          rcases hh with ⟨_, o, hh⟩ | ⟨_, hh⟩
          · exact ⟨false, o, .inl ⟨rfl, hh⟩⟩
          · exact ⟨true, default, .inr ⟨rfl, hh⟩⟩
        obtain ⟨b1, o1, h1⟩ := one hh
        obtain ⟨b2, o2, h2⟩ := one hh2
        obtain ⟨b3, o3, h3⟩ := one hh3
        exact ⟨a1, a2, a3, vs, ws, us, b1, b2, b3, rfl, sqF h1 .refl, sqF h2 .refl, sqF h3 .refl, f3 H3 l3 R3 .refl (List.prefix_refl _) _ (wk_zip3 h1 h2 h3 hvs hws hus)⟩
theorem pi_revC (ha : PE X a (rd (gx X cl) W ca)) (hg : Gl X "reversed") (hm : ∀ x ∈ bltNames, X.mg x = none) (hn : noStar a = true) :
    PI X tg (.Call (.Name "reversed" p) [a] [] pos) (ri (gx X cl) W (bnd ca fun x => ofO (x.d.items.map List.reverse))) := by
  have key := RT.pi_revA (tg := tg) (p := p) (pos := pos) hg (hm _ (by decide +kernel)) (pe_rz ha) (star_cons hn)
  refine ⟨fun pins s σ H R I h => key.run pins s σ H R I ?_⟩
  obtain ⟨Kp, l, st, R0, f⟩ := h
  refine ⟨Kp, l, st, R0, (Fin.bnd f).imp fun x st1 H1 l1 R1 _ _ f1 v hv => ?_⟩
  cases hx : x.d.items with
  | none => rw [hx] at f1; exact (show False from f1).elim
  | some xs =>
    rw [hx] at f1
    obtain ⟨a, vs, rfl, hvs, hh⟩ := sq_items hv hx
    rcases hh with ⟨_, o, hh⟩ | ⟨_, hh⟩
    · exact ⟨a, vs, rfl, .inl ⟨.inl (.inr ⟨o, hh⟩), f1 H1 l1 R1 .refl (List.prefix_refl _) _ (wk_rev hh hvs)⟩⟩
    · exact ⟨a, vs, rfl, .inr ⟨hh.sq, f1 H1 l1 R1 .refl (List.prefix_refl _) _ (wk_revT hh hvs)⟩⟩
end
end Dm

set_option Elab.async false
set_option linter.all false
set_option maxRecDepth 100000
set_option maxHeartbeats 4000000
set_option autoImplicit false
/-! DmV: lists and cells lent. -/
namespace Dm
open PySem PySem.Spec PyProof.Rows L2
theorem lendw_some {m : List Cell} {o : Option EV} {x : EV} (h : lendw m o = some x) : (∃ d, o = some (.val d) ∧ d.pure = true ∧ x = .val d) ∨ (∃ xs, o = some (.own xs) ∧ pures xs = true ∧ x = .val (.lst xs)) ∨ ∃ n xs, o = some (.val (.cel n)) ∧ m[n]? = some (.lst xs) ∧ pures xs = true ∧ x = .val (.lst xs) := by
  unfold lendw at h
  split at h
  · split at h
    · rename_i hp
      cases h
      exact .inr (.inl ⟨_, rfl, hp, rfl⟩)
    · cases h
  · split at h
    · rename_i xs hm
      split at h
      · rename_i hp
        cases h
        exact .inr (.inr ⟨_, _, rfl, hm, hp, rfl⟩)
      · cases h
    · cases h
  · exact .inl (frzv_some h)
/-- all the cells, with what they hold -/
theorem cells_all {K : PySem.W.Frag} {Kp : Hp} {σ : Sl} {H : Hp} {l : List Addr} {st : Sta} (R : Rel K Kp σ H l st) : ∀ k : Nat, k ≤ l.length → ∃ qs : List (Addr × List V), (qs.map (·.1)).Sublist (l.take k) ∧ (∀ x ∈ qs, H x.1 = some (.lst x.2)) ∧
    ∀ n, n < k → ∀ xs, st.mem[n]? = some (.lst xs) → ∃ x ∈ qs, l[n]? = some x.1 ∧ Reps K H l xs x.2
  | 0, _ => ⟨[], .slnil, fun x m => (by cases m), fun n h => by omega⟩
  | k + 1, hk => by
    obtain ⟨qs, h1, h2, h3⟩ := cells_all R k (by omega)
    have ha : l[k]? = some l[k] := List.getElem?_eq_getElem (by omega)
    have hm : k < st.mem.length := by rw [← R.ml]; omega
    have hc : st.mem[k]? = some st.mem[k] := List.getElem?_eq_getElem hm
    have cr := R.cells k _ _ ha hc
    have skip : (∀ xs, st.mem[k] ≠ .lst xs) → ∃ qs : List (Addr × List V), (qs.map (·.1)).Sublist (l.take (k + 1)) ∧ (∀ x ∈ qs, H x.1 = some (.lst x.2)) ∧
        ∀ n, n < k + 1 → ∀ xs, st.mem[n]? = some (.lst xs) → ∃ x ∈ qs, l[n]? = some x.1 ∧ Reps K H l xs x.2 := fun hne => by
      refine ⟨qs, h1.trans (List.take_sublist_take_left (by omega)), h2, fun n hn ys hy => ?_⟩
      by_cases e : n = k
      · subst e
        rw [hc] at hy
        exact absurd (Option.some.inj hy) (hne ys)
      · exact h3 n (by omega) ys hy
    cases hx : st.mem[k] with
    | ins _ _ => exact skip fun xs e => by rw [hx] at e; cases e
    | dct _ => exact skip fun xs e => by rw [hx] at e; cases e
    | lst xs =>
      rw [hx] at cr
      obtain ⟨vs, g1, g2⟩ := cr
      refine ⟨qs ++ [(l[k], vs)], ?_, fun x hx => ?_, fun n hn ys hy => ?_⟩
      · rw [List.map_append, List.take_succ_eq_append_getElem (by omega)]
        exact h1.append (List.Sublist.refl _)
      · rcases List.mem_append.mp hx with hx | hx
        · exact h2 x hx
        · obtain rfl := List.mem_singleton.mp hx
          exact g1
      · by_cases e : n = k
        · subst e
          rw [hc, hx] at hy
          cases hy
          exact ⟨(l[n], vs), by simp, ha, g2⟩
        · obtain ⟨x, hx, r⟩ := h3 n (by omega) ys hy
          exact ⟨x, by simp [hx], r⟩
section
variable {X : Cx} {cl : Nat → Addr} {W : WX}
theorem pe_bclC {e : Expr} {is : List Nat} {c : C EV} (he : PE X e (rd (gx X cl) W c)) : PE X e (rd (gx X cl) W (bclC is c)) := by
  refine ⟨fun pins s σ H Q I q => ?_⟩
  obtain ⟨Kp, l, st, R, f⟩ := q
  unfold bclC at f
  split at f
  · rename_i d s2 hc
    split at f
    · rename_i hd
      obtain ⟨ps0, o1, o2', o3'⟩ := own_all R (List.range st.env.length) List.nodup_range
      obtain ⟨qs, q1, q2, q3⟩ := cells_all R l.length (Nat.le_refl _)
      rw [List.take_length] at q1
      obtain ⟨ps, hps⟩ : ∃ ps, ps = ps0 ++ qs := ⟨_, rfl⟩
      have o1 : (ps.map (·.1)).Nodup := by
        rw [hps, List.map_append, List.nodup_append]
        refine ⟨o1, R.nd.sublist q1, fun a ha b hb e => ?_⟩
        obtain ⟨x, hx, rfl⟩ := List.mem_map.mp ha
        obtain ⟨_, j, _, xs, r1, r2, _⟩ := o2' x hx
        exact (R.own j xs x.1 r1 r2).2 (e ▸ q1.subset hb)
      have o2 : ∀ x ∈ ps, H x.1 = some (.lst x.2) := fun x hx => by
        rw [hps] at hx
        rcases List.mem_append.mp hx with hx | hx
        · exact (o2' x hx).1
        · exact q2 x hx
      have o3 : ∀ j ∈ List.range st.env.length, ∀ xs, st.env[j]? = some (some (.own xs)) → ∃ x ∈ ps, σ[j]? = some (some (.ref x.1)) ∧ Reps X.K H l xs x.2 := fun j hj xs e => by
        obtain ⟨x, hx, r⟩ := o3' j hj xs e
        exact ⟨x, by rw [hps]; exact List.mem_append_left _ hx, r⟩
      obtain ⟨H', J, a1, a2, a3⟩ := lock_all ps I o2 o1
      have isL : ∀ x ∈ ps, ∀ o, H x.1 = some o → o = .lst x.2 := fun x hx o z => by
        rw [o2 x hx] at z
        cases z; rfl
      have nin : ∀ a o, H a = some o → (∀ xs, o ≠ .lst xs) → a ∉ ps.map (·.1) := fun a o z hn m => by
        obtain ⟨x, hx, e⟩ := List.mem_map.mp m
        subst e
        exact hn _ (isL x hx o z)
      have pe : Per H H' := ⟨fun a o u z => by rw [a2 a (nin a _ z fun _ e => by cases e)]; exact z, fun a xs z => by rw [a2 a (nin a _ z fun _ e => by cases e)]; exact z⟩
      have noown : ∀ (j : Nat) (x : EV), (lendW is st.env st.mem)[j]? = some (some x) → ∃ d, x = .val d ∧ ∃ w, σ[j]? = some (some w) ∧ Rep X.K H' [] d w := fun j x hj => by
        unfold lendW at hj
        rw [List.getElem?_mapIdx] at hj
        obtain ⟨o, e1, e2⟩ := Option.map_eq_some_iff.mp hj
        have key : ((∃ d, o = some (.val d) ∧ d.pure = true ∧ x = .val d) ∨ (∃ xs, o = some (.own xs) ∧ pures xs = true ∧ x = .val (.lst xs)) ∨ ∃ n xs, o = some (.val (.cel n)) ∧ st.mem[n]? = some (.lst xs) ∧ pures xs = true ∧ x = .val (.lst xs)) := by
          split at e2
          · exact lendw_some e2
          · exact .inl (frzv_some e2)
        rcases key with ⟨d', rfl, hp, rfl⟩ | ⟨xs, rfl, hp, rfl⟩ | ⟨n, xs, rfl, hm, hp, rfl⟩
        · obtain ⟨w, g1, g2⟩ := R.slots j _ e1
          exact ⟨d', rfl, w, g1, Rep.pure d' w hp (g2.mono pe (List.prefix_refl _))⟩
        · obtain ⟨y, hy, r1, r2⟩ := o3 j (by rw [List.mem_range]; exact (List.getElem?_eq_some_iff.mp e1).1) xs e1
          obtain ⟨od, ho⟩ := a1 y hy
          exact ⟨.lst xs, rfl, .ref y.1, r1, y.1, od, y.2, rfl, ho, Reps.pure xs y.2 hp (r2.per pe)⟩
        · obtain ⟨w, g1, g2⟩ := R.slots j _ e1
          obtain ⟨a, e3, e4⟩ := g2
          have hn : n < l.length := by
            rw [R.ml]
            exact (List.getElem?_eq_some_iff.mp hm).1
          obtain ⟨y, hy, r1, r2⟩ := q3 n hn xs hm
          obtain ⟨od, ho⟩ := a1 y (by rw [hps]; exact List.mem_append_right _ hy)
          have ea : a = y.1 := by
            rw [r1] at e4
            exact (Option.some.inj e4).symm
          subst e3
          subst ea
          exact ⟨.lst xs, rfl, _, g1, y.1, od, y.2, rfl, ho, Reps.pure xs y.2 hp (r2.per pe)⟩
      have R' : Rel X.K (noTb H') σ H' [] ⟨lendW is st.env st.mem, []⟩ := {
        ln := by unfold lendW; simp [R.ln]
        nd := .nil
        ml := rfl
        tr := fun a m => by cases m
        kp := fun _ _ e => (noTb_some e).1
        kc := fun a m => by cases m
        kt := fun a ps e => (noTb_some e).2 ps rfl
        tb := fun P q h => tabS_move (R.tb P q h) fun a u z n _ => by rw [a2 a (nin a _ z n)]; exact z
        cells := fun n a c e => by simp at e
        slots := fun j x hj => by
          obtain ⟨d', rfl, w, r⟩ := noown j x hj
          exact ⟨w, r⟩
        own := fun j ys q hj => by
          obtain ⟨d', e, _⟩ := noown j _ hj
          cases e
        dist := fun j j' ys zs q hj => by
          obtain ⟨d', e, _⟩ := noown j _ hj
          cases e }
      refine thn (he.run pins s σ _ (fun v H1 => RvR X.K (noTb H') σ H1 [] s2 d v ∧ XtN H' H1 ∧ Per H' H1 ∧ ∀ P q, TQ X.K P q → LamX.TabS H1 P q) J ⟨_, [], _, R', ?_⟩) ?_
      · rw [hc]
        exact fun H' l' R2 pe2 q2 v hv => ⟨by
          cases d with
          | val d => exact Rep.noL (fun _ _ _ z => z) d v hd hv
          | own ys =>
            obtain ⟨q, ws, rfl, g1, g2, g3, g4, g5⟩ := hv
            exact ⟨q, ws, rfl, g1, Reps.noL (fun _ _ _ z => z) ys ws hd g2, g3, by simp, g5⟩, fun a o e n => R2.kp a o (noTb_of e n), pe2, R2.tb⟩
      · rintro u s1 ⟨v, H1, I1, ru, hv, ex, pe1, tb1⟩
        obtain ⟨H2, I2, ex2, k2⟩ := a3 H1 s1 pins σ I1 ex
        refine ⟨v, _, I2, ru, ?_⟩
        have ht : ∀ a o xs, H1 a = some (.frz o (.tup xs)) → H2 a = some (.frz o (.tup xs)) := fun a o xs z => by
          rw [k2 a fun m => ?_]
          · exact z
          · obtain ⟨x, hx, e⟩ := List.mem_map.mp m
            subst e
            obtain ⟨od, ho⟩ := a1 x hx
            rw [ex _ _ ho fun _ e => by cases e] at z
            cases z
        have k3 : ∀ a o, H1 a = some o → (∀ ob u, o ≠ .frz ob u) → H2 a = some o := fun a o e n2 => by
          rw [k2 a fun m => ?_]
          · exact e
          · obtain ⟨x, hx, e3⟩ := List.mem_map.mp m
            subst e3
            obtain ⟨od, ho⟩ := a1 x hx
            rw [ex _ _ ho fun _ e => by cases e] at e
            exact n2 _ _ (Option.some.inj e).symm
        have pe2 : Per H H2 := ⟨fun a o u e => ex2 _ _ e fun _ z => (by cases z), fun a xs e => ex2 _ _ e fun _ z => (by cases z)⟩
        refine f _ l (R.extN ex2 pe2 fun P q h => tabS_move (tb1 P q h) fun a o e _ n2 => k3 a o e n2) pe2 (List.prefix_refl _) v ?_
        cases d with
        | val d => exact Rep.noL ht d v hd hv
        | own ys =>
          obtain ⟨q, ws, rfl, g1, g2, g3, g4, g5⟩ := hv
          have hq : q ∉ ps.map (·.1) := fun m => by
            obtain ⟨x, hx, e⟩ := List.mem_map.mp m
            subst e
            obtain ⟨od, ho⟩ := a1 x hx
            rw [noTb_of ho fun _ z => (by cases z)] at g3
            cases g3
          have hn : noTb H q = none := by
            unfold noTb at g3 ⊢
            rw [← a2 q hq]
            exact g3
          exact ⟨q, ws, rfl, by rw [k2 q hq]; exact g1, Reps.noL ht ys ws hd g2, R.kp_noneT hn, R.nmemT hn, R.nownT hn⟩
    · exact (show False from f).elim
  · exact (show False from f).elim
end
end Dm

set_option Elab.async false
set_option linter.all false
set_option maxRecDepth 100000
set_option maxHeartbeats 4000000
set_option autoImplicit false
/-! DmR: list(range(..)), tuple(range(..)); a list turned about. -/
namespace Dm
open PySem PySem.Spec PyProof.Rows L2
theorem rangeL_C : ∀ (n : Nat) (lo : Int), rangeL lo n = rangeC lo 1 n
  | 0, _ => rfl
  | n + 1, lo => by unfold rangeL rangeC; rw [rangeL_C n (lo + 1)]
theorem rangeC_map : ∀ (n : Nat) (a c : Int), rangeC a c n = (List.range n).map fun (i : Nat) => D.int (a + i * c)
  | 0, _, _ => rfl
  | n + 1, a, c => by
    unfold rangeC
    rw [rangeC_map n (a + c) c, List.range_succ_eq_map, List.map_cons, List.map_map]
    congr 1
    · simp
    · refine List.map_congr_left fun i _ => ?_
      show D.int (a + c + i * c) = D.int (a + ((i + 1 : Nat) : Int) * c)
      congr 1
      rw [show (((i + 1 : Nat) : Int)) = (i : Int) + 1 by omega, Int.add_mul]
      omega
section
variable {X : Cx} {cl : Nat → Addr} {W : WX}
def rgCV (a c : Int) (n : Nat) : List V := (List.range n).map fun (i : Nat) => V.int (a + i * c)
theorem rgCV_len (a c : Int) (n : Nat) : (rgCV a c n).length = n := by unfold rgCV; rw [List.length_map, List.length_range]
theorem reps_map {K : PySem.W.Frag} {H : Hp} {l : List Addr} (f : Nat → Int) : ∀ is : List Nat, Reps K H l (is.map fun i => D.int (f i)) (is.map fun i => V.int (f i))
  | [] => .nil
  | i :: is => .cons (show Rep K H l (.int (f i)) (.int (f i)) from rfl) (reps_map f is)
theorem reps_rgC {K : PySem.W.Frag} {H : Hp} {l : List Addr} (a c : Int) (n : Nat) : Reps K H l (rangeC a c n) (rgCV a c n) := by
  rw [rangeC_map]
  exact reps_map (fun i => a + i * c) _
theorem vals_rgC {a c : Int} {n : Nat} {acc : Array Value} (h : ItemsOf (fun i v => ∃ t, v = .int (a + i * c) t) acc n) : Vals (rgCV a c n) acc.toList := by
  have e : acc.toList.length = n := by rw [Array.length_toList]; exact h.1
  unfold rgCV
  rw [← e]
  refine vals_of_get acc.toList _ fun j u hj => ?_
  obtain ⟨t, rfl⟩ := h.2 j u (by rw [← hj, Array.getElem?_toList])
  exact ⟨t, rfl⟩
def rgEnd (t : Bool) (xs : List D) : C EV := if xs.length ≤ lim then ret (if t then .val (.tup xs) else .own xs) else fail
theorem rng_end {tt : Bool} {r : Addr} {a b c : Int} {t u v : Tok} {n : Nat} {pins : List (Addr × Obj)} {σ : Sl} {H : Hp} {s : Shared} {Kp : Hp} {l : List Addr} {st : Sta} {Q : VK} (hc : X.calm = true) (I : Inv X pins σ H s) (hr : IsRange s.heap r a b c t u v) (h1 : Builtin.Range.small a b c = true) (h2 : Builtin.Range.rangeSize a b c = n) (R : Rel X.K Kp σ H l st)
    (f : Fin X.K cl W Kp σ H l (rgEnd tt (rangeC a c n) st) fun r st' H' l' => ∀ v, RvR X.K Kp σ H' l' st' r v → Q v H') : wpAny (model X.prog X.w) X.A (call (.type (if tt then "tuple" else "list")) [.ref r]) (EP X pins σ Q) X.xe s := by
  unfold rgEnd at f
  split at f
  · rename_i hl
    rw [rangeC_len] at hl
    have hz : n ≤ sizeLine := lim_line hl
    have h24 : n ≤ 2 ^ 24 := hl
    cases tt with
    | false =>
      refine call_list_range (n := n) (I.ok.hd hc) hr h1 h2 h24 fun h' tk acc c' hk e' hi => ?_
      refine ⟨.ref s.heap.objs.size, upd H s.heap.objs.size (.lst (rgCV a c n)), I.laid hk (Nat.le_refl _) (show ObjOk X.prog X.w _ _ _ (.lst (rgCV a c n)) from ⟨?_, acc.toList, c', vals_rgC hi, ?_⟩), rfl, ?_⟩
      · rw [rgCV_len]; exact hz
      · rw [Array.toArray_toList]; exact e'
      · have hp := I.hok.fresh (Nat.le_refl s.heap.objs.size)
        exact f _ l (R.new hp) (.new hp) (List.prefix_refl _) _ (R.ownNew hp (reps_rgC a c n))
    | true =>
      refine call_tuple_range (n := n) (I.ok.hd hc) hr h1 h2 h24 fun h' tk acc hk hi => ?_
      have I2 : Inv X pins σ H { s with heap := h', toks := tk } := I.kept hk
      refine ⟨.ref h'.objs.size, upd H h'.objs.size (.frz { cls := .type "tuple", data := .seq acc } (.tup (rgCV a c n))), I2.laid (t' := tk) (fun c o e => Heap.get?_push_of_some _ e) (Nat.le_refl _) (show ObjOk X.prog X.w _ _ _ (.frz _ (.tup (rgCV a c n))) from ⟨Heap.get?_push_size _ rfl, ?_, acc.toList, vals_rgC hi, ?_⟩), rfl, ?_⟩
      · rw [rgCV_len]; exact hz
      · rw [Array.toArray_toList]; exact IsTup.new _ _
      · have hp := I2.hok.fresh (Nat.le_refl h'.objs.size)
        exact f _ l (R.new hp) (.new hp) (List.prefix_refl _) _ (Rel.tupNew hp (reps_rgC a c n) rfl)
  · exact (show False from f).elim
variable {a b c : Expr} {ca cb cc : C EV} {p pos p2 pos2 : Pos} {tt : Bool}
theorem boot_TL (tt : Bool) : bootBuiltins (if tt then "tuple" else "list") = some (.type (if tt then "tuple" else "list")) := by cases tt <;> decide +kernel
theorem ld_TL {pins : List (Addr × Obj)} {σ : Sl} {H : Hp} {s : Shared} {Q : Value → Shared → Prop} {p : Pos} (I : Inv X pins σ H s) (hg : Gl X (if tt then "tuple" else "list")) (hm : ∀ x ∈ bltNames, X.mg x = none) (h : Q (.type (if tt then "tuple" else "list")) s) : wpAny (model X.prog X.w) X.A (eval (.Name (if tt then "tuple" else "list") p) X.env) Q X.xe s := by
  cases tt with
  | false => exact ld_blt I hg (hm _ (by decide +kernel)) boot_list h
  | true => exact ld_blt I hg (hm _ (by decide +kernel)) boot_tuple h

theorem pe_rngv1 (hc : X.calm = true) (ha : PE X a (rd (gx X cl) W ca)) (hg : Gl X "range") (hg2 : Gl X (if tt then "tuple" else "list")) (hm : ∀ x ∈ bltNames, X.mg x = none) (hn : noStar a = true) :
    PE X (.Call (.Name (if tt then "tuple" else "list") p) [.Call (.Name "range" p2) [a] [] pos2] [] pos)
      (rd (gx X cl) W (bnd (bnd ca fun x => ofO ((asI x.d).bind fun j => if ok62 j then some (rangeL 0 j.toNat) else none)) fun xs => rgEnd tt xs)) := by
  refine ⟨fun pins s σ H Q I h => ?_⟩
  obtain ⟨Kp, l, st, R, f⟩ := h
  have f := Fin.bnd (Fin.bnd f)
  refine Call_ (ld_TL I hg2 hm (PyProof.Rows.callWith_type1 (args_cons ?_ rfl) rfl))
  refine Call_ (ld_blt I hg (hm _ (by decide +kernel)) boot_range (PyProof.Rows.callWith_type1 (one_arg (pe_rz ha) I (R := fun v H1 => ∃ (l1 : List Addr) (st1 : Sta) (j : Int), v = .int j ∧ Rel X.K Kp σ H1 l1 st1 ∧ ok62 j = true ∧ Fin X.K cl W Kp σ H1 l1 (rgEnd tt (rangeL 0 j.toNat) st1) fun r st' H' l' => ∀ v, RvR X.K Kp σ H' l' st' r v → Q v H') ⟨Kp, l, st, R, f.imp fun x st1 H1 l1 R1 _ _ f1 v hv => ?_⟩ (fun v s2 x H2 I2 r q => ?_) (star_cons hn)) (star_cons hn)))
  · obtain ⟨j, ej, f1⟩ := fin_asI f1
    rw [ej] at hv
    cases hv
    split at f1
    · rename_i c
      exact ⟨l1, st1, j, rfl, R1, c, f1 H1 l1 R1 .refl (List.prefix_refl _)⟩
    · exact (show False from f1).elim
  · obtain ⟨l1, st1, j, rfl, R1, c, f1⟩ := q
    obtain ⟨t, rfl⟩ := r
    obtain ⟨h1, h2⟩ := ok62_iff c
    rw [rangeL_C] at f1
    refine call_range_1 (args_nil ?_)
    exact rng_end hc (I2.kept (t' := _) fun b u e => Heap.get?_push_of_some _ e) (IsRange.new ..) (PySem.small_one (by decide) (by decide) h1 h2) (by have := PyProof.Rows.rangeSize_nat 0 j; rw [this]; congr 2; omega) R1 f1
theorem pe_rngv2 (hc : X.calm = true) (ha : PE X a (rd (gx X cl) W ca)) (hb : PE X b (rd (gx X cl) W cb)) (hg : Gl X "range") (hg2 : Gl X (if tt then "tuple" else "list")) (hm : ∀ x ∈ bltNames, X.mg x = none) (hn : noStar a = true) (hn2 : noStar b = true) :
    PE X (.Call (.Name (if tt then "tuple" else "list") p) [.Call (.Name "range" p2) [a, b] [] pos2] [] pos)
      (rd (gx X cl) W (bnd (bnd ca fun x => bnd cb fun y => ofO ((asI x.d).bind fun i => (asI y.d).bind fun j => if ok62 i && ok62 j then some (rangeL i (j - i).toNat) else none)) fun xs => rgEnd tt xs)) := by
  refine ⟨fun pins s σ H Q I h => ?_⟩
  obtain ⟨Kp, l, st, R, f⟩ := h
  have f := Fin.bnd f
  refine Call_ (ld_TL I hg2 hm (PyProof.Rows.callWith_type1 (args_cons ?_ rfl) rfl))
  refine Call_ (ld_blt I hg (hm _ (by decide +kernel)) boot_range (PyProof.Rows.callWith_type1 (thn ((pa_cons (pe_rz ha) (pa_cons (pe_rz hb) pa_nil (star_cons hn2)) (star_cons hn)).run pos2 pins s σ H (fun vs H1 => ∃ (l1 : List Addr) (st1 : Sta) (i j : Int), vs = [.int i, .int j] ∧ Rel X.K Kp σ H1 l1 st1 ∧ (ok62 i && ok62 j) = true ∧ Fin X.K cl W Kp σ H1 l1 (rgEnd tt (rangeL i (j - i).toNat) st1) fun r st' H' l' => ∀ v, RvR X.K Kp σ H' l' st' r v → Q v H') I
    ⟨Kp, l, st, R, (Fin.bnd f).imp fun x st1 H1 l1 R1 _ _ f1 v hv => ⟨Kp, l1, st1, R1, (Fin.bnd f1).imp fun y st2 H2 l2 R2 p2 q2 f2 u hu => ?_⟩⟩) fun us s1 ⟨vs, H1, I1, r1, q1⟩ => ?_) (star_cons hn) (star_back (by simp [hn2]))))
  · obtain ⟨i, ei, f2⟩ := fin_asI f2
    obtain ⟨j, ej, f2⟩ := fin_asI f2
    rw [ei] at hv
    rw [ej] at hu
    cases hv; cases hu
    split at f2
    · rename_i c
      exact ⟨l2, st2, i, j, rfl, R2, c, f2 H2 l2 R2 .refl (List.prefix_refl _)⟩
    · exact (show False from f2).elim
  · obtain ⟨l1, st1, i, j, rfl, R1, c, f1⟩ := q1
    rw [Bool.and_eq_true] at c
    obtain ⟨h1, h2⟩ := ok62_iff c.1
    obtain ⟨h3, h4⟩ := ok62_iff c.2
    cases r1 with
    | cons r rr =>
      cases rr with
      | cons r' rr =>
        cases rr
        obtain ⟨t, rfl⟩ := r
        obtain ⟨t', rfl⟩ := r'
        rw [rangeL_C] at f1
        refine call_range_2 (args_nil ?_)
        exact rng_end hc (I1.kept (t' := _) fun b u e => Heap.get?_push_of_some _ e) (IsRange.new ..) (PySem.small_one h1 h2 h3 h4) (PyProof.Rows.rangeSize_nat i j) R1 f1
theorem pe_rngv3 (hc : X.calm = true) (ha : PE X a (rd (gx X cl) W ca)) (hb : PE X b (rd (gx X cl) W cb)) (hcc : PE X c (rd (gx X cl) W cc)) (hg : Gl X "range") (hg2 : Gl X (if tt then "tuple" else "list")) (hm : ∀ x ∈ bltNames, X.mg x = none) (hn : noStar a = true) (hn2 : noStar b = true) (hn3 : noStar c = true) :
    PE X (.Call (.Name (if tt then "tuple" else "list") p) [.Call (.Name "range" p2) [a, b, c] [] pos2] [] pos)
      (rd (gx X cl) W (bnd (bnd ca fun x => bnd cb fun y => bnd cc fun z => ofO ((asI x.d).bind fun i => (asI y.d).bind fun j => (asI z.d).bind fun c =>
        if c ≠ 0 ∧ c.natAbs < 1073741824 ∧ Builtin.Range.small i j c = true then some (rangeC i c (Builtin.Range.rangeSize i j c).toNat) else none)) fun xs => rgEnd tt xs)) := by
  refine ⟨fun pins s σ H Q I h => ?_⟩
  obtain ⟨Kp, l, st, R, f⟩ := h
  have f := Fin.bnd f
  refine Call_ (ld_TL I hg2 hm (PyProof.Rows.callWith_type1 (args_cons ?_ rfl) rfl))
  refine Call_ (ld_blt I hg (hm _ (by decide +kernel)) boot_range (PyProof.Rows.callWith_type1 (thn ((pa_cons (pe_rz ha) (pa_cons (pe_rz hb) (pa_cons (pe_rz hcc) pa_nil (star_cons hn3)) (star_cons hn2)) (star_cons hn)).run pos2 pins s σ H (fun vs H1 => ∃ (l1 : List Addr) (st1 : Sta) (i j k : Int), vs = [.int i, .int j, .int k] ∧ Rel X.K Kp σ H1 l1 st1 ∧ (k ≠ 0 ∧ k.natAbs < 1073741824 ∧ Builtin.Range.small i j k = true) ∧ Fin X.K cl W Kp σ H1 l1 (rgEnd tt (rangeC i k (Builtin.Range.rangeSize i j k).toNat) st1) fun r st' H' l' => ∀ v, RvR X.K Kp σ H' l' st' r v → Q v H') I
    ⟨Kp, l, st, R, (Fin.bnd f).imp fun x st1 H1 l1 R1 _ _ f1 v hv => ⟨Kp, l1, st1, R1, (Fin.bnd f1).imp fun y st2 H2 l2 R2 p2 q2 f2 u hu => ⟨Kp, l2, st2, R2, (Fin.bnd f2).imp fun z st3 H3 l3 R3 p3 q3 f3 w hw => ?_⟩⟩⟩) fun us s1 ⟨vs, H1, I1, r1, q1⟩ => ?_) (star_cons hn) (star_back (by simp [hn2, hn3]))))
  · obtain ⟨i, ei, f3⟩ := fin_asI f3
    obtain ⟨j, ej, f3⟩ := fin_asI f3
    obtain ⟨k, ek, f3⟩ := fin_asI f3
    rw [ei] at hv
    rw [ej] at hu
    rw [ek] at hw
    cases hv; cases hu; cases hw
    split at f3
    · rename_i cnd
      exact ⟨l3, st3, i, j, k, rfl, R3, cnd, f3 H3 l3 R3 .refl (List.prefix_refl _)⟩
    · exact (show False from f3).elim
  · obtain ⟨l1, st1, i, j, k, rfl, R1, cnd, f1⟩ := q1
    cases r1 with
    | cons r rr =>
      cases rr with
      | cons r' rr =>
        cases rr with
        | cons r'' rr =>
          cases rr
          obtain ⟨t, rfl⟩ := r
          obtain ⟨t', rfl⟩ := r'
          obtain ⟨t'', rfl⟩ := r''
          have hpos : 0 ≤ Builtin.Range.rangeSize i j k := by
            have c0 := cnd.1
            unfold Builtin.Range.rangeSize
            split
            · split
              · have := Int.ediv_nonneg (a := j - i - 1) (b := k) (by omega) (by omega)
                omega
              · omega
            · split
              · have := Int.ediv_nonneg (a := i - j - 1) (b := -k) (by omega) (by omega)
                omega
              · omega
          refine call_range_3 cnd.1 (args_nil ?_) (.inl (PyProof.noPylong_small cnd.2.1))
          exact rng_end hc (I1.kept (t' := _) fun b u e => Heap.get?_push_of_some _ e) (IsRange.new ..) cnd.2.2 (Int.toNat_of_nonneg hpos).symm R1 f1
/-- a list turned about -/
theorem pe_revsC {k : Nat} {p1 p2 p3 pos : Pos} (ha : PE X a (rd (gx X cl) W ca)) : PE X (.Subscript a (.Slice none none (some (.UnaryOp .USub (.Constant (.int 1) k p1) p2)) p3) pos) (rd (gx X cl) W (bnd ca fun x => ofO (revD x.d))) := by
  refine PE.imp (pe_revZ (pe_rz ha)) fun σ H Q q => ?_
  obtain ⟨Kp, l, st, R, f⟩ := q
  refine ⟨Kp, l, st, R, (Fin.bnd f).imp fun x st1 H1 l1 R1 _ _ f1 v hv => ?_⟩
  cases hx : x.d with
  | lst xs =>
    rw [hx] at hv f1
    obtain ⟨a, o, vs, rfl, h1, h2⟩ := hv
    exact ⟨a, vs, rfl, .inl ⟨.inl (.inr ⟨o, h1⟩), fun p hp => f1 _ l1 (R1.new hp) (.new hp) (List.prefix_refl _) _ (R1.ownNew hp h2.rev)⟩⟩
  | tup xs =>
    rw [hx] at hv f1
    obtain ⟨a, vs, rfl, h1, h2⟩ := hv
    exact ⟨a, vs, rfl, .inr ⟨h1.sq, fun p o hp ho => f1 _ l1 (R1.new hp) (.new hp) (List.prefix_refl _) _ (Rel.tupNew hp h2.rev ho)⟩⟩
  | _ => rw [hx] at f1; exact (show False from f1).elim
end
end Dm

set_option Elab.async false
set_option linter.all false
set_option maxRecDepth 100000
set_option maxHeartbeats 4000000
set_option autoImplicit false
/-! DmM: methods that change nothing: index, count, join, split. -/
namespace Dm
open PySem PySem.Spec PyProof.Rows L2
section
variable {X : Cx} {cl : Nat → Addr} {W : WX} {e o : Expr} {es : List Expr} {cs : C (List D)} {co : C EV} {apos cpos : Pos}
def mtN : Mt → Str
  | .index => "index" | .count => "count" | .join => "join" | .split => "split"
theorem strsL_eq : ∀ {xs : List D} {ns : List Str}, strsL xs = some ns → xs = ns.map D.str
  | [], ns, h => by cases h; rfl
  | x :: xs, ns, h => by
    cases x with
    | str i =>
      obtain ⟨ms, e1, e2⟩ := Option.map_eq_some_iff.mp (show (strsL xs).map (i :: ·) = some ns from h)
      subst e2
      rw [strsL_eq e1]
      rfl
    | _ => simp [strsL] at h
theorem reps_strs {K : PySem.W.Frag} {H : Hp} {l : List Addr} : ∀ {ns : List Str} {vs : List V}, Reps K H l (ns.map D.str) vs → vs = ns.map V.str
  | [], _, h => h
  | n :: ns, _, h => by
    obtain ⟨v, r, rfl, h1, h2⟩ := h
    cases (show v = V.str n from h1)
    rw [reps_strs h2]
    rfl
theorem reps_ofStrs {K : PySem.W.Frag} {H : Hp} {l : List Addr} : ∀ (ns : List Str), Reps K H l (ns.map D.str) (ns.map V.str)
  | [] => .nil
  | n :: ns => .cons (show Rep K H l (.str n) (.str n) from rfl) (reps_ofStrs ns)
/-- the type and the method that a value has -/
structure MtHas (m : Mt) (T id : String) : Prop where
  pa : PlainAttrs T
  slot : Slot T (mtN m) id
  ty : typeOf (.builtin id) = pure (.type "method_descriptor")
theorem has_index_list : MtHas .index "list" "list.index" := ⟨PySem.F.plainAttrs_list, PySem.F.slot_list_index, PySem.F.type_list_index⟩
theorem has_index_tuple : MtHas .index "tuple" "tuple.index" := ⟨PySem.F.plainAttrs_tuple, PySem.F.slot_tuple_index, PySem.F.type_tuple_index⟩
theorem has_count_list : MtHas .count "list" "list.count" := ⟨PySem.F.plainAttrs_list, PySem.F.slot_list_count, PySem.F.type_list_count⟩
theorem has_count_tuple : MtHas .count "tuple" "tuple.count" := ⟨PySem.F.plainAttrs_tuple, PySem.F.slot_tuple_count, PySem.F.type_tuple_count⟩
theorem has_join : MtHas .join "str" "str.join" := ⟨PySem.F.plainAttrs_str, PySem.F.slot_str_join, PySem.F.type_str_join⟩
theorem has_split : MtHas .split "str" "str.split" := ⟨PySem.F.plainAttrs_str, PySem.F.slot_str_split, PySem.F.type_str_split⟩
/-- a method of a value: its type, its name -/
def MtOf (m : Mt) (d : D) : String × String := match m, d with
  | .index, .lst _ => ("list", "list.index")
  | .index, _ => ("tuple", "tuple.index")
  | .count, .lst _ => ("list", "list.count")
  | .count, _ => ("tuple", "tuple.count")
  | .join, _ => ("str", "str.join")
  | .split, _ => ("str", "str.split")
theorem mt_has (m : Mt) (d : D) : MtHas m (MtOf m d).1 (MtOf m d).2 := by
  cases m with
  | index => cases d <;> first | exact has_index_list | exact has_index_tuple
  | count => cases d <;> first | exact has_count_list | exact has_count_tuple
  | join => exact has_join
  | split => exact has_split
theorem mt_ty {m : Mt} {d : D} {pins : List (Addr × Obj)} {σ : Sl} {H : Hp} {s : Shared} {l : List Addr} {x : V} {v : Value} (h : mtT m d = true) (I : Inv X pins σ H s) (hd : Rep X.K H l d x) (rx : RelV x v) : s.TypeIs v (MtOf m d).1 ∧ ∀ a, v = .ref a → ∃ ob, s.heap.get? a = some ob ∧ ob.dict = none := by
  have hl : ∀ xs, d = .lst xs → s.TypeIs v "list" ∧ ∀ a, v = .ref a → ∃ ob, s.heap.get? a = some ob ∧ ob.dict = none := fun xs e => by
    subst e
    obtain ⟨a, o, vs, rfl, h1, h2⟩ := hd
    exact tyV_is I rx (.inl ⟨rfl, vs, .inl (.inr ⟨o, h1⟩)⟩)
  have hs : ∀ z, d = .str z → s.TypeIs v "str" ∧ ∀ a, v = .ref a → ∃ ob, s.heap.get? a = some ob ∧ ob.dict = none := fun z e => by
    subst e
    cases hd
    exact tyV_is (H := H) I rx (show tyV X.K "str" (.str z) H from rfl)
  have ht : ∀ xs, d = .tup xs → s.TypeIs v "tuple" ∧ ∀ a, v = .ref a → ∃ ob, s.heap.get? a = some ob ∧ ob.dict = none := fun xs e => by
    subst e
    obtain ⟨a, vs, rfl, ⟨o, h1, h2⟩, _⟩ := hd
    cases rx
    obtain ⟨g1, g2⟩ := I.hok a _ h1
    obtain ⟨_, _, _, pl⟩ := g2
    exact ⟨pl.typeIs, fun b e => by cases e; exact ⟨o, g1, h2⟩⟩
  cases m <;> cases d <;> first | exact hl _ rfl | exact hs _ rfl | exact ht _ rfl | cases h

theorem idx_first {α : Type} [BEq α] [LawfulBEq α] {ns : List α} {k : α} (h : k ∈ ns) : ns.idxOf k < ns.length ∧ ns[ns.idxOf k]? = some k ∧ ∀ m, m < ns.idxOf k → ns[m]? ≠ some k := by
  have h1 : ns.idxOf k < ns.length := List.idxOf_lt_length_iff.mpr h
  refine ⟨h1, by rw [List.getElem?_eq_getElem h1, List.getElem_idxOf h1], fun m hm e => ?_⟩
  have hm' : m < ns.length := by omega
  rw [List.getElem?_eq_getElem hm'] at e
  have := List.not_of_lt_findIdx (p := (· == k)) (xs := ns) hm
  rw [Option.some.inj e] at this
  simp at this
theorem strs_are : ∀ {ns : List Str} {us : List Value}, Vals (ns.map V.str) us → StrsAre us ns
  | [], _, h => by cases h; exact .nil
  | n :: ns, _, h => by
    cases h with
    | cons r t =>
      obtain ⟨tk, rfl⟩ := r
      exact .cons _ _ (strs_are t)
/-- the call, once the receiver and the arguments are there -/
theorem mth_call {m : Mt} {d : D} {ds : List D} {r : EV} {pins : List (Addr × Obj)} {σ : Sl} {H : Hp} {s : Shared} {l : List Addr} {st : Sta} {Kp : Hp} {x : V} {v : Value} {vs : List V} {us : List Value} {Q : VK} (hu : X.A.units + 65 < cLine) (e0 : mtT m d = true) (e : mthD m d ds = some r)
    (hd : Rep X.K H l d x) (rx : RelV x v) (I : Inv X pins σ H s) (hds : Reps X.K H l ds vs) (rv : Vals vs us) (R : Rel X.K Kp σ H l st) (f : Fin X.K cl W Kp σ H l (.ok r st) fun r st' H' l' => ∀ v, RvR X.K Kp σ H' l' st' r v → Q v H') :
    wpAny (model X.prog X.w) X.A (call (.builtin (MtOf m d).2) (v :: us)) (EP X pins σ Q) X.xe s := by
  cases m with
  | index =>
    cases d with
    | lst xs =>
      obtain ⟨a, o, ws, rfl, h1, h2⟩ := hd
      cases rx
      obtain ⟨its, rr, hl, hz⟩ := I.list (xs := ws) (.inl (.inr ⟨o, h1⟩))
      match ds, e with
      | [.int k], e =>
        obtain ⟨ys, e1, e2⟩ := Option.bind_eq_some_iff.mp (show ((D.lst xs).items.bind fun xs => (intsL xs).bind fun ns => if k ∈ ns then some (EV.val (.int (ns.idxOf k : Nat))) else none) = some r from e)
        cases e1
        obtain ⟨ns, e3, e4⟩ := Option.bind_eq_some_iff.mp e2
        split at e4
        · rename_i hk
          cases e4
          obtain ⟨w, rfl, hw⟩ := reps1 hds
          cases hw
          obtain ⟨u, rfl, ru⟩ := rv.one
          obtain ⟨t, rfl⟩ := ru
          have hi := h2.ints e3
          subst hi
          exact PySem.SeqAt.list_index_ints hl.isList rr.ints (by rw [List.length_map] at hz; exact hz) hk ⟨.int _, H, I.kept (t' := _) fun _ _ z => z, ⟨_, rfl⟩, f.ok R _ rfl⟩
        · cases e4
      | [.str k], e =>
        obtain ⟨ys, e1, e2⟩ := Option.bind_eq_some_iff.mp (show ((D.lst xs).items.bind fun xs => (strsL xs).bind fun ns => if k ∈ ns then some (EV.val (.int (ns.idxOf k : Nat))) else none) = some r from e)
        cases e1
        obtain ⟨ns, e3, e4⟩ := Option.bind_eq_some_iff.mp e2
        split at e4
        · rename_i hk
          cases e4
          obtain ⟨w, rfl, hw⟩ := reps1 hds
          cases hw
          obtain ⟨u, rfl, ru⟩ := rv.one
          obtain ⟨t, rfl⟩ := ru
          have hx := strsL_eq e3
          subst hx
          have hi := reps_strs h2
          subst hi
          exact PySem.SeqAt.list_index_strs hl.isList (strs_are rr) (by rw [List.length_map] at hz; exact hz) hk ⟨.int _, H, I.kept (t' := _) fun _ _ z => z, ⟨_, rfl⟩, f.ok R _ rfl⟩
        · cases e4
    | tup xs =>
      obtain ⟨a, ws, rfl, h1, h2⟩ := hd
      match ds, e with
      | [.int k], e =>
        obtain ⟨ys, e1, e2⟩ := Option.bind_eq_some_iff.mp (show ((D.tup xs).items.bind fun xs => (intsL xs).bind fun ns => if k ∈ ns then some (EV.val (.int (ns.idxOf k : Nat))) else none) = some r from e)
        cases e1
        obtain ⟨ns, e3, e4⟩ := Option.bind_eq_some_iff.mp e2
        split at e4
        · rename_i hk
          cases e4
          obtain ⟨w, rfl, hw⟩ := reps1 hds
          cases hw
          have hi := h2.ints e3
          subst hi
          obtain ⟨hx1, hx2, hx3⟩ := idx_first hk
          exact mt_tup_indexZ pins s σ H _ _ _ us Q I rx rv ⟨a, _, _, ns.idxOf k, rfl, rfl, h1.sq, by rw [List.all_map]; exact List.all_eq_true.mpr fun _ _ => rfl, rfl, by rw [List.length_map]; exact hx1, fun m hm => by rw [List.getElem?_map]; intro q; obtain ⟨y, z1, z2⟩ := Option.map_eq_some_iff.mp q; cases z2; exact hx3 m hm z1, by rw [List.getElem?_map, hx2]; rfl, .inl ⟨ns, rfl, k, rfl⟩, f.ok R _ rfl⟩
        · cases e4
      | [.str k], e =>
        obtain ⟨ys, e1, e2⟩ := Option.bind_eq_some_iff.mp (show ((D.tup xs).items.bind fun xs => (strsL xs).bind fun ns => if k ∈ ns then some (EV.val (.int (ns.idxOf k : Nat))) else none) = some r from e)
        cases e1
        obtain ⟨ns, e3, e4⟩ := Option.bind_eq_some_iff.mp e2
        split at e4
        · rename_i hk
          cases e4
          obtain ⟨w, rfl, hw⟩ := reps1 hds
          cases hw
          have hx := strsL_eq e3
          subst hx
          have hi := reps_strs h2
          subst hi
          obtain ⟨hx1, hx2, hx3⟩ := idx_first hk
          exact mt_tup_indexZ pins s σ H _ _ _ us Q I rx rv ⟨a, _, _, ns.idxOf k, rfl, rfl, h1.sq, by rw [List.all_map]; exact List.all_eq_true.mpr fun _ _ => rfl, rfl, by rw [List.length_map]; exact hx1, fun m hm => by rw [List.getElem?_map]; intro q; obtain ⟨y, z1, z2⟩ := Option.map_eq_some_iff.mp q; cases z2; exact hx3 m hm z1, by rw [List.getElem?_map, hx2]; rfl, .inr ⟨ns, rfl, k, rfl⟩, f.ok R _ rfl⟩
        · cases e4
    | _ => cases e0
  | count =>
    cases d with
    | lst xs =>
      match ds, e with
      | [y], e =>
        have e' : (if PyData.plainAll (pyAll xs) && y.py.plain && PyData.canLayAll0 (pyAll xs) && y.py.canLay0 && decide (PyData.depthAll (pyAll xs) ≤ 50) then some (EV.val (.int (xs.countP (fun z => eqD z y) : Nat))) else none) = some r := e
        split at e'
        · rename_i hc
          cases e'
          simp only [Bool.and_eq_true, decide_eq_true_eq] at hc
          obtain ⟨⟨⟨⟨c1, c2⟩, c3⟩, c4⟩, c5⟩ := hc
          obtain ⟨w, rfl, hw⟩ := reps1 hds
          obtain ⟨u, rfl, ru⟩ := rv.one
          obtain ⟨as, r1⟩ := Dp.reads I _ _ _ (hw.dp c4) ru
          obtain ⟨a, its, ea, h⟩ := items_it I hd rx (show (D.lst xs).items = some xs from rfl)
          subst ea
          obtain ⟨bs, r2⟩ := each_reads I h.is c3
          have cnt : (pyAll xs).countP (fun z => PyData.eqv z y.py) = xs.countP fun z => eqD z y := by
            rw [pyAll_map, List.countP_map]
            rfl
          have hl : s.heap.IsList a its.toArray := by
            obtain ⟨a', o, ws, rfl, h1, h2⟩ := hd
            cases rx
            obtain ⟨its', rr, hl, hz⟩ := I.list (xs := ws) (.inl (.inr ⟨o, h1⟩))
            rcases h.seq with hq | hq
            · exact hq
            · obtain ⟨o1, g1, g2, _⟩ := hq
              obtain ⟨o2, g3, g4, _⟩ := hl.isList
              rw [g1] at g3
              cases g3
              rw [g2] at g4
              exact absurd g4 (by decide +kernel)
          refine PySem.SeqAt.count_list_data hl (by simpa using r2) r1 c1 c2 (by omega) ?_
          rw [cnt]
          exact ⟨.int _, H, I.kept (t' := _) fun _ _ z => z, ⟨_, rfl⟩, f.ok R _ rfl⟩
        · cases e'
    | _ => cases e0
  | join =>
    cases d with
    | str a =>
      match ds, e with
      | [dd], e =>
        obtain ⟨ys, e1, e2⟩ := Option.bind_eq_some_iff.mp (show (dd.items.bind fun xs => (strsL xs).bind fun ys => if (ys.map (·.length)).sum + ys.length * a.length ≤ lim then some (EV.val (.str (Txt.join a ys))) else none) = some r from e)
        obtain ⟨ns, e3, e4⟩ := Option.bind_eq_some_iff.mp e2
        split at e4
        · rename_i hk
          cases e4
          obtain ⟨w, rfl, hw⟩ := reps1 hds
          obtain ⟨u, rfl, ru⟩ := rv.one
          have hx := strsL_eq e3
          subst hx
          obtain ⟨b, ws, rfl, hws, hh⟩ := sq_items hw e1
          have hi := reps_strs hws
          subst hi
          cases hd
          refine mt_join pins s σ H (.str a) [.ref b] v [u] Q I rx (.cons ru .nil) ⟨a, b, ns, rfl, rfl, ?_, hk, f.ok R _ rfl⟩
          rcases hh with ⟨_, o, hh⟩ | ⟨_, hh⟩
          · exact .inl (.inl (.inr ⟨o, hh⟩))
          · exact .inr hh.sq
        · cases e4
    | _ => cases e0
  | split =>
    cases d with
    | str a =>
      match ds, e with
      | [.str b], e =>
        have e' : (if b.length ≠ 0 ∧ a.length + 2 ≤ lim then some (EV.own ((Txt.split a b).map .str)) else none) = some r := e
        split at e'
        · rename_i hc
          cases e'
          obtain ⟨w, rfl, hw⟩ := reps1 hds
          cases hw
          cases hd
          refine mt_split pins s σ H (.str a) [.str b] v us Q I rx rv ⟨a, b, rfl, rfl, by simpa using hc.1, lim_line hc.2, fun p hp => ?_⟩
          exact f _ l (R.new hp) (.new hp) (List.prefix_refl _) _ (R.ownNew hp (reps_ofStrs _))
        · cases e'
    | _ => cases e0
theorem pe_mthC {m : Mt} (hu : X.A.units + 65 < cLine) (ho : PE X o (rd (gx X cl) W co)) (ha : PA X (e :: es) (ra (gx X cl) W cs)) (hb : noCall0 o = true) (hk : omOk (e :: es) apos cpos = true) :
    PE X (.Call (.Attribute o (mtN m) apos) (e :: es) [] cpos) (rd (gx X cl) W (bnd co fun x => if mtT m x.d then bnd cs fun ds => ofO (mthD m x.d ds) else fail)) := by
  unfold omOk at hk
  simp only [Bool.and_eq_true, decide_eq_true_eq] at hk
  obtain ⟨⟨k1, k2⟩, k3⟩ := hk
  have k1' := k1
  rw [List.all_cons, Bool.and_eq_true] at k1'
  refine ⟨fun pins s σ H Q I h => ?_⟩
  obtain ⟨Kp, l, st, R, f⟩ := h
  refine wpAny_Call_method_late (no_base hb) (few_ok k1 k2) k3 rfl (thn ((pe_rz ho).run pins s σ H (fun v H1 => ∃ l1 st1 d, Rep X.K H1 l1 d v ∧ Rel X.K Kp σ H1 l1 st1 ∧ Fin X.K cl W Kp σ H1 l1 ((if mtT m d then bnd cs fun ds => ofO (mthD m d ds) else fail) st1) fun r st' H' l' => ∀ v, RvR X.K Kp σ H' l' st' r v → Q v H') I ⟨Kp, l, st, R, (Fin.bnd f).imp fun x st1 H1 l1 R1 _ _ f1 v hv => ⟨l1, st1, x.d, hv, R1, f1⟩⟩) fun v s1 ⟨x, H1, I1, r1, q1⟩ => ?_)
  obtain ⟨l1, st1, d, hd, R1, f1⟩ := q1
  split at f1
  · rename_i e0
    obtain ⟨h1, h2⟩ := mt_ty e0 I1 hd r1
    have mh := mt_has m d
    refine ⟨_, _, mh.pa, mh.slot, mh.ty, h1, h2, ?_⟩
    have hA := ha.run cpos pins s1 σ H1 (fun vs H2 => ∃ l2 st2 ds, l1 <+: l2 ∧ Per H1 H2 ∧ Reps X.K H2 l2 ds vs ∧ Rel X.K Kp σ H2 l2 st2 ∧ Fin X.K cl W Kp σ H2 l2 (ofO (mthD m d ds) st2) fun r st' H' l' => ∀ v, RvR X.K Kp σ H' l' st' r v → Q v H') I1 ⟨Kp, l1, st1, R1, (Fin.bnd f1).imp fun ds st2 H2 l2 R2 p2 q2 f2 vs hvs => ⟨l2, st2, ds, q2, p2, hvs, R2, f2⟩⟩
    rw [star_cons k1'.1] at hA ⊢
    refine Calls.callWith_builtin (by show (false || (backTo cpos (starEach es X.env)).any (·.1)) = false; rw [star_back k1'.2] <;> rfl) (Calls.evalArgs_plain ?_)
    refine thn hA fun us s2 ⟨vs, H2, I2, r2, q2⟩ => ?_
    obtain ⟨l2, st2, ds, pl, pe, hds, R2, f2⟩ := q2
    cases em : mthD m d ds with
    | none => rw [em] at f2; exact (show False from f2).elim
    | some r =>
      rw [em] at f2
      exact mth_call hu e0 em (hd.mono pe pl) r1 I2 hds r2 R2 f2
  · exact (show False from f1).elim
end
end Dm

set_option Elab.async false
set_option linter.all false
set_option maxRecDepth 100000
set_option maxHeartbeats 4000000
set_option autoImplicit false
/-! Dm9: comprehensions. -/
namespace Dm
open PySem PySem.Spec PyProof.Rows L2

theorem wipe_out {σ : Sl} {j : Nat} : ∀ {vs : List Nat}, j ∉ vs → (wipe σ vs)[j]? = σ[j]?
  | [], _ => rfl
  | v :: vs, h => by
    unfold wipe
    rw [List.getElem?_set_ne (fun e => h (by simp [e]))]
    exact wipe_out fun m => h (by simp [m])
theorem wipe_in {σ : Sl} {j : Nat} : ∀ {vs : List Nat}, j ∈ vs → ∀ v, (wipe σ vs)[j]? ≠ some (some v)
  | v :: vs, h, w, e => (wipe_some e).2 h
theorem wipe_ext {σ τ : Sl} {vs : List Nat} (h : wipe σ vs = wipe τ vs) : ∀ j, j ∉ vs → σ[j]? = τ[j]? := fun j hj => by
  rw [← wipe_out hj, h, wipe_out hj]
theorem wipe_idem {σ : Sl} {vs : List Nat} : wipe (wipe σ vs) vs = wipe σ vs := by
  have len : (wipe (wipe σ vs) vs).length = (wipe σ vs).length := wipe_length _ _
  refine List.ext_getElem? fun j => ?_
  by_cases hj : j ∈ vs
  · have g : ∀ τ : Sl, j < (wipe τ vs).length → (wipe τ vs)[j]? = some none := by
      intro τ hl
      cases e : (wipe τ vs)[j]? with
      | none => rw [List.getElem?_eq_none_iff] at e; omega
      | some o =>
        cases o with
        | none => rfl
        | some w => exact absurd e (wipe_in hj w)
    by_cases hl : j < (wipe σ vs).length
    · rw [g σ hl, g _ (by rw [len]; exact hl)]
    · rw [List.getElem?_eq_none_iff.mpr (by omega), List.getElem?_eq_none_iff.mpr (by omega)]
  · rw [wipe_out hj]
theorem wipe_set {σ : Sl} {i : Nat} {x : Option V} : ∀ {vs : List Nat}, i ∈ vs → wipe (σ.set i x) vs = wipe σ vs := by
  intro vs hi
  have len : (wipe (σ.set i x) vs).length = (wipe σ vs).length := by rw [wipe_length, wipe_length, List.length_set]
  refine List.ext_getElem? fun j => ?_
  by_cases hj : j ∈ vs
  · have g : ∀ τ : Sl, j < (wipe τ vs).length → (wipe τ vs)[j]? = some none := by
      intro τ hl
      cases e : (wipe τ vs)[j]? with
      | none => rw [List.getElem?_eq_none_iff] at e; omega
      | some o =>
        cases o with
        | none => rfl
        | some w => exact absurd e (wipe_in hj w)
    by_cases hl : j < (wipe σ vs).length
    · rw [g σ hl, g _ (by rw [len]; exact hl)]
    · rw [List.getElem?_eq_none_iff.mpr (by omega), List.getElem?_eq_none_iff.mpr (by omega)]
  · rw [wipe_out hj, wipe_out hj, List.getElem?_set_ne (fun e => hj (by rw [← e]; exact hi))]
theorem wipeL_len : ∀ (vs : List Nat) (e : List (Option EV)), (wipeL vs e).length = e.length
  | [], _ => rfl
  | v :: vs, e => by
    show ((wipeL vs e).set v none).length = _
    rw [List.length_set, wipeL_len vs e]
theorem wipeL_some : ∀ {vs : List Nat} {e : List (Option EV)} {j : Nat} {x : EV}, (wipeL vs e)[j]? = some (some x) → e[j]? = some (some x) ∧ j ∉ vs
  | [], _, _, _, h => ⟨h, by simp⟩
  | v :: vs, e, j, x, h => by
    rcases set_get (xs := wipeL vs e) (i := v) (x := none) h with ⟨_, e2⟩ | ⟨e1, e2⟩
    · cases e2
    · obtain ⟨h1, h2⟩ := wipeL_some e2
      exact ⟨h1, by simp [h2]; exact Ne.symm e1⟩
section
variable {K : PySem.W.Frag} {Kp : Hp} {σ τ : Sl} {H H' : Hp} {l l' : List Addr} {st : Sta}
/-- the slots change where nothing is told of them -/
theorem Rel.slotsE (R : Rel K Kp σ H l st) {e : List (Option EV)} (hl : e.length = τ.length) (h : ∀ (j : Nat) (x : EV), e[j]? = some (some x) → st.env[j]? = some (some x) ∧ τ[j]? = σ[j]?) : Rel K Kp τ H l { st with env := e } where
  ln := hl
  nd := R.nd
  ml := R.ml
  tr := R.tr
  kp := R.kp
  kc := R.kc
  kt := R.kt
  tb := R.tb
  cells := R.cells
  slots := fun j x hj => by
    obtain ⟨h1, h2⟩ := h j x hj
    have q := R.slots j x h1
    cases x with
    | val d => obtain ⟨v, a, b⟩ := q; exact ⟨v, by rw [h2]; exact a, b⟩
    | own xs => obtain ⟨p, vs, a, b, c⟩ := q; exact ⟨p, vs, by rw [h2]; exact a, b, c⟩
  own := fun j xs p hj hp => by
    obtain ⟨h1, h2⟩ := h j _ hj
    exact R.own j xs p h1 (by rw [← h2]; exact hp)
  dist := fun i j xs ys p hi hj hne hp => by
    obtain ⟨h1, h2⟩ := h i _ hi
    obtain ⟨h3, h4⟩ := h j _ hj
    rw [h4]
    exact R.dist i j xs ys p h1 h3 hne (by rw [← h2]; exact hp)
theorem Rel.wiped (R : Rel K Kp σ H l st) {vs : List Nat} (h : wipe σ vs = wipe τ vs) : Rel K Kp (wipe τ vs) H l (wipeE vs st) := by
  refine R.slotsE (by rw [wipeL_len, R.ln, wipe_length, ← wipe_length σ vs, h, wipe_length]) fun j x hj => ?_
  obtain ⟨h1, h2⟩ := wipeL_some hj
  exact ⟨h1, by rw [← h, wipe_out h2]⟩
/-- behind the block -/
theorem Rel.backs {Kp0 H0 : Hp} {l0 : List Addr} {st0 : Sta} (R0 : Rel K Kp0 σ H0 l0 st0) (pe : Per H0 H) (hl : l0 <+: l) : ∀ (ws : List Nat) {st : Sta}, Rel K Kp σ H l st → Rel K Kp σ H l { st with env := backL st0.env ws st.env }
  | [], st, R => R
  | v :: ws, st, R => by
    have q := Rel.backs R0 pe hl ws R
    show Rel K Kp σ H l { st with env := (match st0.env[v]? with
      | some (some (.val d)) => (backL st0.env ws st.env).set v (some (.val d))
      | _ => backL st0.env ws st.env) }
    split
    · rename_i d hd
      obtain ⟨w, h1, h2⟩ := R0.slots v _ hd
      exact q.tell h1 (h2.mono pe hl)
    · exact q
theorem Rel.back {Kp0 H0 : Hp} {l0 : List Addr} {st0 : Sta} (R0 : Rel K Kp0 σ H0 l0 st0) (pe : Per H0 H) (hl : l0 <+: l) {vs : List Nat} (R : Rel K Kp τ H l st) (h : wipe τ vs = wipe σ vs) : Rel K Kp σ H l (backE vs st0.env st) := by
  have R1 : Rel K Kp σ H l { st with env := wipeL vs st.env } := R.slotsE (by rw [wipeL_len, R.ln, ← wipe_length τ vs, h, wipe_length]) fun j x hj => by
    obtain ⟨h1, h2⟩ := wipeL_some hj
    exact ⟨h1, (wipe_ext h j h2).symm⟩
  exact Rel.backs R0 pe hl vs R1
/-- a list that nobody tells of is kept -/
theorem Rel.keepL (R : Rel K Kp σ H l st) {p : Addr} {vs : List V} (hn : H p = none) : Rel K (upd Kp p (.lst vs)) σ (upd H p (.lst vs)) l st := by
  have R1 := R.new (o := .lst vs) hn
  exact {
    ln := R1.ln, nd := R1.nd, ml := R1.ml, tr := R1.tr, cells := R1.cells, slots := R1.slots, dist := R1.dist, tb := R1.tb
    kt := fun q ps e => by
      by_cases z : q = p
      · subst z
        rw [upd_same] at e
        cases e
      · rw [upd_ne z] at e
        exact R.kt q ps e
    kp := fun q o e => by
      by_cases z : q = p
      · subst z
        rw [upd_same] at e
        cases e
        exact upd_same
      · rw [upd_ne z] at e
        exact R1.kp q o e
    kc := fun a m => by
      rw [upd_ne (fun z => R.nmem hn (by rw [← z]; exact m))]
      exact R.kc a m
    own := fun i xs q hi hq => by
      obtain ⟨a, b⟩ := R1.own i xs q hi hq
      exact ⟨by rw [upd_ne (fun z => R.nown hn i xs hi (by rw [← z]; exact hq))]; exact a, b⟩ }
/-- .. written -/
theorem Rel.keepW {p : Addr} {vs ws : List V} (R : Rel K (upd Kp p (.lst vs)) σ H l st) : Rel K (upd Kp p (.lst ws)) σ (upd H p (.lst ws)) l st := by
  have hp : H p = some (.lst vs) := R.kp p _ upd_same
  have pe : Per H (upd H p (.lst ws)) := .lst hp
  have nl : ∀ a ∈ l, a ≠ p := fun a m e => by
    have := R.kc a m
    rw [e, upd_same] at this
    cases this
  have no : ∀ (i : Nat) (xs : List D), st.env[i]? = some (some (EV.own xs)) → ∀ q, σ[i]? = some (some (.ref q)) → q ≠ p := fun i xs hi q hq e => by
    have := (R.own i xs q hi hq).1
    rw [e, upd_same] at this
    cases this
  exact {
    ln := R.ln, nd := R.nd, ml := R.ml, dist := R.dist
    kt := fun q ps e => by
      by_cases z : q = p
      · subst z
        rw [upd_same] at e
        cases e
      · rw [upd_ne z] at e
        exact R.kt q ps (by rw [upd_ne z]; exact e)
    tb := fun P q h => tabS_lst (R.tb P q h) hp
    tr := fun a m => by
      obtain ⟨o, e⟩ := R.tr a m
      exact ⟨o, by rw [upd_ne (nl a m)]; exact e⟩
    kp := fun q o e => by
      by_cases z : q = p
      · subst z
        rw [upd_same] at e
        cases e
        exact upd_same
      · rw [upd_ne z] at e ⊢
        exact R.kp q o (by rw [upd_ne z]; exact e)
    kc := fun a m => by
      have q := R.kc a m
      rw [upd_ne (nl a m)] at q ⊢
      exact q
    cells := fun n a c h1 h2 => (R.cells n a c h1 h2).mono pe (List.prefix_refl _) fun us e _ => by rw [upd_ne (nl a (List.mem_of_getElem? h1))]; exact e
    slots := fun i x hi => by
      have q := R.slots i x hi
      cases x with
      | val d => obtain ⟨v, a, b⟩ := q; exact ⟨v, a, b.mono pe (List.prefix_refl _)⟩
      | own xs =>
        obtain ⟨q, us, a, b, c⟩ := q
        exact ⟨q, us, a, by rw [upd_ne (no i xs hi q a)]; exact b, c.mono pe (List.prefix_refl _)⟩
    own := fun i xs q hi hq => by
      obtain ⟨a, b⟩ := R.own i xs q hi hq
      have z := no i xs hi q hq
      rw [upd_ne z] at a
      exact ⟨by rw [upd_ne z]; exact a, b⟩ }
/-- .. given back -/
theorem Rel.keepOff {p : Addr} {vs : List V} (R : Rel K (upd Kp p (.lst vs)) σ H l st) (hk : Kp p = none) : Rel K Kp σ H l st where
  ln := R.ln
  nd := R.nd
  ml := R.ml
  tr := R.tr
  kp := fun q o e => R.kp q o (by rw [upd_ne (fun z => by rw [z, hk] at e; cases e)]; exact e)
  kc := fun a m => by
    have q := R.kc a m
    by_cases z : a = p
    · rw [z]; exact hk
    · rw [upd_ne z] at q; exact q
  kt := fun q ps e => R.kt q ps (by rw [upd_ne (fun z => by rw [z, hk] at e; cases e)]; exact e)
  tb := R.tb
  cells := R.cells
  slots := R.slots
  own := fun i xs q hi hq => by
    obtain ⟨a, b⟩ := R.own i xs q hi hq
    refine ⟨?_, b⟩
    by_cases z : q = p
    · rw [z]; exact hk
    · rw [upd_ne z] at a; exact a
  dist := R.dist
end
/-- a target within a comprehension: names of the block alone -/
def rgc (g : Gx) (vs : List Nat) (p : D → C Unit) : TG := fun x σ H Q => ∃ Kp l st d st', Rel g.K Kp σ H l st ∧ Rep g.K H l d x ∧ p d st = .ok () st' ∧ ∀ σ', wipe σ' vs = wipe σ vs → Rel g.K Kp σ' H l st' → Q σ' H
def rgcs (g : Gx) (vs : List Nat) (p : List D → C Unit) : TGs := fun xs σ H Q => ∃ Kp l st ds st', Rel g.K Kp σ H l st ∧ Reps g.K H l ds xs ∧ p ds st = .ok () st' ∧ ∀ σ', wipe σ' vs = wipe σ vs → Rel g.K Kp σ' H l st' → Q σ' H
theorem PG.imp {X : Cx} {e : Expr} {t t' : TG} (h : PG X e t) (f : ∀ v σ H Q, t' v σ H Q → t v σ H Q) : PG X e t' := ⟨fun pins s σ H v u Q I r q => h.run pins s σ H v u Q I r (f v σ H Q q)⟩
theorem PGs.imp {X : Cx} {e : List Expr} {t t' : TGs} (h : PGs X e t) (f : ∀ v σ H Q, t' v σ H Q → t v σ H Q) : PGs X e t' := ⟨fun pins s σ H v u Q I r q => h.run pins s σ H v u Q I r (f v σ H Q q)⟩
section
variable {X : Cx} {cl : Nat → Addr} {W : WX} {vs : List Nat}
theorem bnd_ok {α β : Type} {c : C α} {f : α → C β} {s s' : Sta} {b : β} (h : bnd c f s = .ok b s') : ∃ a s1, c s = .ok a s1 ∧ f a s1 = .ok b s' := by
  rw [bnd_at] at h
  cases e : c s with
  | ok a s1 => rw [e] at h; exact ⟨a, s1, rfl, h⟩
  | exc x s1 => rw [e] at h; cases h
  | err => rw [e] at h; cases h
theorem setv_ok {i : Nat} {r : EV} {s s' : Sta} (h : setv i r s = .ok () s') : i < s.env.length ∧ s' = { s with env := s.env.set i (some r) } := by
  unfold setv at h
  split at h
  · rename_i c
    cases h
    exact ⟨c, rfl⟩
  · cases h
theorem pgc_nm {i : Nat} {x : Str} {pos : Pos} (h : PG X (.Name x pos) (gName i)) (hi : i ∈ vs) : PG X (.Name x pos) (rgc (gx X cl) vs fun d => setv i (.val d)) := by
  refine PG.imp h fun v σ H Q q => ?_
  obtain ⟨Kp, l, st, d, st', R, r, e, k⟩ := q
  obtain ⟨h1, rfl⟩ := setv_ok e
  exact k _ (wipe_set hi) (R.put h1 r)
theorem pgcs_nil {Phi : Fns} : PGs X [] (rgcs (gx X cl) vs (asgs Phi [])) := by
  refine PGs.imp pgs_nil fun xs σ H Q q => ?_
  obtain ⟨Kp, l, st, ds, st', R, r, e, k⟩ := q
  cases ds with
  | nil =>
    cases (show _ = _ from r)
    cases e
    exact ⟨rfl, k σ rfl R⟩
  | cons d ds => cases e
theorem pgcs_cons {Phi : Fns} {e : Expr} {es : List Expr} {g : G} {gs : List G} (h1 : PG X e (rgc (gx X cl) vs (asgG Phi g))) (h2 : PGs X es (rgcs (gx X cl) vs (asgs Phi gs))) (hs : (assignEach (e :: es) X.env).map (·.2) = assign e X.env :: (assignEach es X.env).map (·.2)) :
    PGs X (e :: es) (rgcs (gx X cl) vs (asgs Phi (g :: gs))) := by
  refine PGs.imp (pgs_cons h1 h2 hs) fun xs σ H Q q => ?_
  obtain ⟨Kp, l, st, ds, st', R, r, e, k⟩ := q
  cases ds with
  | nil => cases e
  | cons d ds =>
    obtain ⟨v, rr, rfl, r1, r2⟩ := r
    obtain ⟨_, s1, e1, e2⟩ := bnd_ok (show bnd (asgG Phi g d) (fun _ => asgs Phi gs ds) st = .ok () st' from e)
    exact ⟨v, rr, rfl, Kp, l, st, d, s1, R, r1, e1, fun σ' hw R' => ⟨Kp, l, s1, ds, st', R', r2, e2, fun σ'' hw' R'' => k σ'' (hw'.trans hw) R''⟩⟩
theorem pg_either {e : Expr} {t1 t2 : TG} (h1 : PG X e t1) (h2 : PG X e t2) : PG X e (fun v σ H Q => t1 v σ H Q ∨ t2 v σ H Q) :=
  ⟨fun pins s σ H v u Q I r hw => hw.elim (h1.run pins s σ H v u Q I r) (h2.run pins s σ H v u Q I r)⟩
theorem pgc_tup {Phi : Fns} {es : List Expr} {gs : List G} {n : Nat} {pos : Pos} (hc : X.calm = true) (h : PGs X es (rgcs (gx X cl) vs (asgs Phi gs))) (hl : gs.length = es.length) (hn : (assignEach es X.env).length = es.length) (hst : (assignEach es X.env).findIdx? (·.1) = none) :
    PG X (.Tuple es n pos) (rgc (gx X cl) vs (asgG Phi (.tp gs))) := by
  refine PG.imp (pg_either (pg_tup hc h hn hst) (pg_lst hc h hn hst)) fun v σ H Q q => ?_
  obtain ⟨Kp, l, st, d, st', R, r, e, k⟩ := q
  cases d with
  | tup ds =>
    obtain ⟨a, us, rfl, h1, h2⟩ := r
    have e' : (if gs.length = ds.length then asgs Phi gs ds else fail) st = .ok () st' := e
    split at e'
    · rename_i len
      exact .inl ⟨a, us, rfl, h1.sq, by rw [h2.len, ← len, hl], Kp, l, st, ds, st', R, h2, e', k⟩
    · cases e'
  | lst ds =>
    obtain ⟨a, o, us, rfl, h1, h2⟩ := r
    have e' : (if gs.length = ds.length then asgs Phi gs ds else fail) st = .ok () st' := e
    split at e'
    · rename_i len
      exact .inr ⟨a, us, rfl, .inl (.inr ⟨o, h1⟩), by rw [h2.len, ← len, hl], Kp, l, st, ds, st', R, h2, e', k⟩
    · cases e'
  | _ => cases e
/-! ### the comprehension -/
/-- the computation of a comprehension is what tLc asks -/
theorem comp_read {Wf : WX} {it : C (List D)} {p : D → C Unit} {t : C Bool} {e : C EV} {σ : Sl} {H : Hp} {Q : VK} (h : rd (gx X cl) W (bnd it fun xs => compC p vs t e xs) σ H Q) :
    tLc (ri (gx X cl) W it) (rgc (gx X cl) vs p) (rb (gx X cl) Wf t) (rz (gx X cl) Wf e) vs σ H Q := by
  obtain ⟨Kp, l, st, R, f⟩ := h
  refine ⟨Kp, l, st, R, (Fin.bnd f).imp fun xs st1 H1 l1 R1 p1 q1 f1 J hJ D hD => ?_⟩
  unfold compC at f1
  split at f1
  · rename_i hlim
    split at f1
    · rename_i ys st2 hc
      have pD : Per H1 (upd H1 D (.lst [])) := .new hD
      have kD := R1.kp_none hD
      refine lc_it hJ (fun i H2 => i ≤ xs.length ∧ ∃ σ2 l2 s2 acc ys1 ys2, wipe σ2 vs = wipe σ vs ∧ Rel X.K (upd Kp D (.lst acc)) σ2 H2 l2 s2 ∧ Reps X.K H2 l2 ys1 acc ∧ Per H1 H2 ∧ l1 <+: l2 ∧ ys1.length ≤ i ∧ cloop p vs t e (xs.drop i) s2 = .ok ys2 st2 ∧ ys = ys1 ++ ys2) ?_ ?_ ?_ ?_
      · exact ⟨Nat.zero_le _, σ, l1, st1, [], [], ys, rfl, R1.keepL hD, rfl, pD, List.prefix_refl _, Nat.le_refl _, by simpa using hc, rfl⟩
      · rintro i H2 hi ⟨_, σ2, l2, s2, acc, ys1, ys2, _, _, _, pe, _⟩
        exact pe
      · rintro i x H2 H3 hi ⟨_, σ2, l2, s2, acc, ys1, ys2, hw, R2, hr, pe, hl, hlen, hcl, hys⟩ ⟨ex, d, hd, rx⟩
        have hdrop : xs.drop i = d :: xs.drop (i + 1) := by
          obtain ⟨h1, h2⟩ := List.getElem?_eq_some_iff.mp hd
          rw [List.drop_eq_getElem_cons h1, h2]
        rw [hdrop] at hcl
        have R3 : Rel X.K (upd Kp D (.lst acc)) (wipe σ vs) H3 l2 (wipeE vs s2) := (R2.ext ex).wiped hw
        obtain ⟨_, s3, e3, hcl⟩ := bnd_ok (show bnd (p d) (fun _ => bnd t fun b => if b then bnd e fun r => bnd (cloop p vs t e (xs.drop (i + 1))) fun rs => ret (r.d :: rs) else cloop p vs t e (xs.drop (i + 1))) (wipeE vs s2) = .ok ys2 st2 from hcl)
        obtain ⟨b, s4, e4, hcl⟩ := bnd_ok hcl
        refine ⟨_, l2, _, d, s3, R3, rx.mono .refl (hl), e3, fun σ3 hw3 R4 => ⟨by rw [hw3, wipe_idem], _, l2, s3, R4, ?_⟩⟩
        rw [e4]
        intro H4 l4 R5 p5 q5
        have hr4 := hr.mono (ex.per.trans p5) q5
        have pe4 := pe.trans (ex.per.trans p5)
        have hw4 : wipe σ3 vs = wipe σ vs := by rw [hw3, wipe_idem]
        cases b with
        | false =>
          have hcl : cloop p vs t e (xs.drop (i + 1)) s4 = .ok ys2 st2 := hcl
          show if false = true then _ else _
          rw [if_neg (by simp)]
          exact ⟨hi, σ3, l4, s4, acc, ys1, ys2, hw4, R5, hr4, pe4, hl.trans q5, by omega, hcl, hys⟩
        | true =>
          show if true = true then _ else _
          rw [if_pos rfl]
          obtain ⟨r, s5, e5, hcl⟩ := bnd_ok (show bnd e (fun r => bnd (cloop p vs t e (xs.drop (i + 1))) fun rs => ret (r.d :: rs)) s4 = .ok ys2 st2 from hcl)
          obtain ⟨rs, s6, e6, hcl⟩ := bnd_ok hcl
          cases hcl
          refine ⟨_, l4, s4, R5, ?_⟩
          rw [e5]
          intro H5 l5 R6 p6 q6 y hy
          have accH : H5 D = some (.lst acc) := R6.kp D _ upd_same
          have hz : acc.length < sizeLine := by
            rw [hr.len, sizeLine_eq]
            have : xs.length ≤ 16777216 := hlim
            omega
          have p7 : Per H5 (upd H5 D (.lst (acc ++ [y]))) := .lst accH
          refine ⟨acc, accH, hz, hi, σ3, l5, s5, acc ++ [y], ys1 ++ [r.d], rs, hw4, R6.keepW, ?_, pe4.trans (p6.trans p7), hl.trans (q5.trans q6), by rw [List.length_append, List.length_singleton]; omega, e6, by rw [hys, List.append_assoc]; rfl⟩
          exact (hr4.mono (p6.trans p7) q6).app (.cons (hy.mono p7 (List.prefix_refl _)) .nil)
      · rintro H2 ⟨_, σ2, l2, s2, acc, ys1, ys2, hw, R2, hr, pe, hl, hlen, hcl, hys⟩
        rw [List.drop_length] at hcl
        cases hcl
        rw [List.append_nil] at hys
        subst hys
        have R3 : Rel X.K (upd Kp D (.lst acc)) σ H2 l2 (backE vs st1.env st2) := R1.back pe hl R2 hw
        have R4 : Rel X.K Kp σ H2 l2 (backE vs st1.env st2) := R3.keepOff kD
        refine f1 H2 l2 R4 pe hl (.ref D) ⟨D, acc, rfl, R2.kp D _ upd_same, hr, kD, fun m => ?_, fun i zs hi hs => ?_⟩
        · have z := R2.kc D m
          rw [upd_same] at z
          cases z
        · have z := (R3.own i zs D hi hs).1
          rw [upd_same] at z
          cases z
    · exact (show False from f1).elim
  · exact (show False from f1).elim
end
end Dm

set_option Elab.async false
set_option linter.all false
set_option maxRecDepth 100000
set_option maxHeartbeats 4000000
set_option autoImplicit false
/-! Dm10: statements. -/
namespace Dm
open PySem PySem.Spec PyProof.Rows L2

/-- the end of a computation that may store slots -/
def FinS {α : Type} (K : PySem.W.Frag) (cl : Nat → Addr) (W : WX) (Kp : Hp) (H : Hp) (l : List Addr) (o : Out α) (P : α → Sta → Sl → Hp → List Addr → Prop) : Prop := match o with
  | .ok a st' => ∀ σ' H' l', Rel K Kp σ' H' l' st' → Per H H' → l <+: l' → P a st' σ' H' l'
  | .exc x st' => ∀ cls d σ' H' l', Rel K Kp σ' H' l' st' → Per H H' → l <+: l' → XR cl x cls d H' → W cls d σ' H'
  | .err => False
section
variable {α β : Type} {K : PySem.W.Frag} {cl : Nat → Addr} {W : WX} {Kp : Hp} {σ : Sl} {H H1 : Hp} {l l1 : List Addr}
theorem FinS.weak {o : Out α} {P : α → Sta → Sl → Hp → List Addr → Prop} (h : FinS K cl W Kp H l o P) (pe : Per H H1) (hl : l <+: l1) : FinS K cl W Kp H1 l1 o P := by
  cases o with
  | ok a s => exact fun σ H' l' R p q => h σ H' l' R (pe.trans p) (hl.trans q)
  | exc x s => exact fun c d σ H' l' R p q => h c d σ H' l' R (pe.trans p) (hl.trans q)
  | err => exact h
theorem FinS.bnd {o : Out α} {f : α → C β} {P : β → Sta → Sl → Hp → List Addr → Prop} (h : FinS K cl W Kp H l (o.bnd f) P) :
    FinS K cl W Kp H l o fun a st' _ H' l' => FinS K cl W Kp H' l' (f a st') P := by
  cases o with
  | ok a s => exact fun σ H' l' R p q => FinS.weak h p q
  | exc x s => exact h
  | err => exact h
theorem FinS.fin {o : Out α} {P : α → Sta → Sl → Hp → List Addr → Prop} (h : FinS K cl W Kp H l o P) : Fin K cl W Kp σ H l o fun a st' H' l' => P a st' σ H' l' := by
  cases o with
  | ok a s => exact fun H' l' R p q => h σ H' l' R p q
  | exc x s => exact fun c d H' l' R p q => h c d σ H' l' R p q
  | err => exact h
/-- an expression ahead -/
theorem FinS.bndE {o : Out α} {f : α → C β} {P : β → Sta → Sl → Hp → List Addr → Prop} (h : FinS K cl W Kp H l (o.bnd f) P) :
    Fin K cl W Kp σ H l o fun a st' H' l' => FinS K cl W Kp H' l' (f a st') P := FinS.fin (FinS.bnd h)
theorem FinS.imp {o : Out α} {P P' : α → Sta → Sl → Hp → List Addr → Prop} (h : FinS K cl W Kp H l o P) (f : ∀ a st' σ' H' l', Rel K Kp σ' H' l' st' → Per H H' → l <+: l' → P a st' σ' H' l' → P' a st' σ' H' l') : FinS K cl W Kp H l o P' := by
  cases o with
  | ok a s => exact fun σ' H' l' R p q => f a s σ' H' l' R p q (h σ' H' l' R p q)
  | exc x s => exact h
  | err => exact h
end
def rg (g : Gx) (W : WX) (p : D → C Unit) : TG := fun x σ H Q => ∃ Kp l st d, Rel g.K Kp σ H l st ∧ Rep g.K H l d x ∧ FinS g.K g.cl W Kp H l (p d st) fun _ st' σ' H' l' => Q σ' H'
def rgs (g : Gx) (W : WX) (p : List D → C Unit) : TGs := fun xs σ H Q => ∃ Kp l st ds, Rel g.K Kp σ H l st ∧ Reps g.K H l ds xs ∧ FinS g.K g.cl W Kp H l (p ds st) fun _ st' σ' H' l' => Q σ' H'
def flE (g : Gx) (Kp : Hp) (D : Ends) (fl : Fl) (st' : Sta) (σ' : Sl) (H' : Hp) (l' : List Addr) : Prop := match fl with
  | .nx => D.nx σ' H'
  | .bk => D.bk σ' H'
  | .ct => D.ct σ' H'
  | .rt r => ∀ v, RvR g.K Kp σ' H' l' st' r v → (∀ a ∈ l', Kp a = none) → Mem g.K H' l' st'.mem → D.rt v H'
def rs (g : Gx) (W : WX) (c : C Fl) : TS := fun D σ H => ∃ Kp l st, Rel g.K Kp σ H l st ∧ FinS g.K g.cl W Kp H l (c st) fun fl st' σ' H' l' => flE g Kp D fl st' σ' H' l'
section
variable {X : Cx} {cl : Nat → Addr} {W : WX} {a b c e : Expr} {ce ca cb : C EV} {pos : Pos} {Phi : Fns} {Kp : Hp} {σ : Sl} {H : Hp} {l : List Addr} {st : Sta}
/-! ### targets -/
theorem pg_nmC {i : Nat} {x : Str} (h : PG X (.Name x pos) (gName i)) : PG X (.Name x pos) (rg (gx X cl) W fun d => setv i (.val d)) := by
  refine PG.imp h fun v σ H Q q => ?_
  obtain ⟨Kp, l, st, d, R, r, f⟩ := q
  have f : FinS X.K cl W Kp H l (setv i (.val d) st) fun _ st' σ' H' l' => Q σ' H' := f
  unfold setv at f
  split at f
  · rename_i hi
    exact f _ H l (R.put hi r) .refl (List.prefix_refl _)
  · exact (show False from f).elim
theorem pgs_nilC : PGs X [] (rgs (gx X cl) W (asgs Phi [])) := by
  refine PGs.imp pgs_nil fun xs σ H Q q => ?_
  obtain ⟨Kp, l, st, ds, R, r, f⟩ := q
  cases ds with
  | nil =>
    cases (show _ = _ from r)
    exact ⟨rfl, f σ H l R .refl (List.prefix_refl _)⟩
  | cons d ds => exact (show False from f).elim
theorem pgs_consC {es : List Expr} {g : G} {gs : List G} (h1 : PG X e (rg (gx X cl) W (asgG Phi g))) (h2 : PGs X es (rgs (gx X cl) W (asgs Phi gs))) (hs : (assignEach (e :: es) X.env).map (·.2) = assign e X.env :: (assignEach es X.env).map (·.2)) :
    PGs X (e :: es) (rgs (gx X cl) W (asgs Phi (g :: gs))) := by
  refine PGs.imp (pgs_cons h1 h2 hs) fun xs σ H Q q => ?_
  obtain ⟨Kp, l, st, ds, R, r, f⟩ := q
  cases ds with
  | nil => exact (show False from f).elim
  | cons d ds =>
    obtain ⟨v, rr, rfl, r1, r2⟩ := r
    exact ⟨v, rr, rfl, Kp, l, st, d, R, r1, (FinS.bnd (show FinS _ _ _ _ _ _ ((asgG Phi g d st).bnd fun _ => asgs Phi gs ds) _ from f)).imp fun _ st1 σ1 H1 l1 R1 p1 q1 f1 => ⟨Kp, l1, st1, ds, R1, r2.mono p1 q1, f1⟩⟩
theorem pg_tupC {es : List Expr} {gs : List G} {n : Nat} (hc : X.calm = true) (h : PGs X es (rgs (gx X cl) W (asgs Phi gs))) (hl : gs.length = es.length) (hn : (assignEach es X.env).length = es.length) (hst : (assignEach es X.env).findIdx? (·.1) = none) :
    PG X (.Tuple es n pos) (rg (gx X cl) W (asgG Phi (.tp gs))) := by
  refine PG.imp (pg_either (pg_tup hc h hn hst) (pg_lst hc h hn hst)) fun v σ H Q q => ?_
  obtain ⟨Kp, l, st, d, R, r, f⟩ := q
  cases d with
  | tup ds =>
    obtain ⟨a, us, rfl, h1, h2⟩ := r
    have f' : FinS X.K cl W Kp H l ((if gs.length = ds.length then asgs Phi gs ds else fail) st) fun _ st' σ' H' l' => Q σ' H' := f
    split at f'
    · rename_i len
      exact .inl ⟨a, us, rfl, h1.sq, by rw [h2.len, ← len, hl], Kp, l, st, ds, R, h2, f'⟩
    · exact (show False from f').elim
  | lst ds =>
    obtain ⟨a, o, us, rfl, h1, h2⟩ := r
    have f' : FinS X.K cl W Kp H l ((if gs.length = ds.length then asgs Phi gs ds else fail) st) fun _ st' σ' H' l' => Q σ' H' := f
    split at f'
    · rename_i len
      exact .inr ⟨a, us, rfl, .inl (.inr ⟨o, h1⟩), by rw [h2.len, ← len, hl], Kp, l, st, ds, R, h2, f'⟩
    · exact (show False from f').elim
  | _ => exact (show False from f).elim
theorem pg_osubC {i : Nat} {o k : Expr} {pk : C EV} (ho : PE X o (tVar i)) (hk : PE X k (rd (gx X cl) W pk)) (ha : ∀ v, assign (.Subscript o k pos) X.env v = (do
      let ov ← holding [v] (eval o X.env)
      let iv ← holding [v, ov] (eval k X.env)
      standAt pos
      holding [v, ov, iv] (setItem ov iv v)
      release [v, ov, iv] [])) : PG X (.Subscript o k pos) (rg (gx X cl) W fun d => bnd (isOwn i) fun _ => bnd pk fun x => osetC i x.d d) := by
  refine PG.imp (pg_sub ho (pe_rz hk) set_list ha) fun v σ H Q q => ?_
  obtain ⟨Kp, l, st, d, R, r, f⟩ := q
  have f := FinS.bnd f
  unfold isOwn at f
  split at f
  · rename_i xs he
    obtain ⟨p, vs, h1, h2, h3, h4, h5, h6⟩ := R.ownR he
    refine ⟨_, h1, Kp, l, st, R, (FinS.bndE (f σ H l R .refl (List.prefix_refl _))).imp fun x st1 H1 l1 R1 p1 q1 f1 u hu => ?_⟩
    unfold osetC at f1
    split at f1
    · rename_i ys n hey hx
      rw [hx] at hu
      cases hu
      split at f1
      · rename_i j hj
        obtain ⟨p', ws, g1, g2, g3⟩ := R1.slots i _ hey
        rw [h1] at g1
        cases g1
        exact ⟨p, ws, n, j, rfl, rfl, g2, by rw [g3.len]; exact hj, f1 σ _ l1 (R1.write hey h1 g2 (g3.set j (r.mono p1 q1))) (.lst g2) (List.prefix_refl _)⟩
      · exact (show False from f1).elim
    · exact (show False from f1).elim
  · exact (show False from f).elim
theorem pg_csubC {o k : Expr} {po pk : C EV} (ho : PE X o (rd (gx X cl) W po)) (hk : PE X k (rd (gx X cl) W pk)) (ha : ∀ v, assign (.Subscript o k pos) X.env v = (do
      let ov ← holding [v] (eval o X.env)
      let iv ← holding [v, ov] (eval k X.env)
      standAt pos
      holding [v, ov, iv] (setItem ov iv v)
      release [v, ov, iv] [])) : PG X (.Subscript o k pos) (rg (gx X cl) W fun d => bnd po fun c => bnd pk fun x => csetC c.d x.d d) := by
  refine PG.imp (pg_sub (pe_rz ho) (pe_rz hk) set_list ha) fun v σ H Q q => ?_
  obtain ⟨Kp, l, st, d, R, r, f⟩ := q
  refine ⟨Kp, l, st, R, (FinS.bndE f).imp fun c st1 H1 l1 R1 p1 q1 f1 u hu => ⟨Kp, l1, st1, R1, (FinS.bndE f1).imp fun x st2 H2 l2 R2 p2 q2 f2 w hw => ?_⟩⟩
  cases hc : c.d with
  | cel n =>
    rw [hc] at f2 hu
    obtain ⟨a, rfl, hn⟩ := hu
    cases hx : x.d with
    | int k =>
      rw [hx] at f2 hw
      cases hw
      simp only [csetC] at f2
      split at f2
      · rename_i xs em
        split at f2
        · rename_i j hj
          have hn2 := pre_get q2 hn
          obtain ⟨ws, g2, g3⟩ := R2.cells n a _ hn2 em
          exact ⟨a, ws, k, j, rfl, rfl, g2, by rw [g3.len]; exact hj, f2 σ _ l2 (R2.wcell hn2 g2 (g3.set j (r.mono (p1.trans p2) (q1.trans q2)))) (.lst g2) (List.prefix_refl _)⟩
        · exact (show False from f2).elim
      · exact (show False from f2).elim
    | _ => rw [hx] at f2; exact (show False from f2).elim
  | _ => rw [hc] at f2; exact (show False from f2).elim
/-! ### simple statements -/
theorem ps_asgC {t : Expr} {p : D → C Unit} (he : PE X e (rd (gx X cl) W ce)) (hg : PG X t (rg (gx X cl) W p)) (hs : swapsWithSole [t] e pos.line X.env = pure false) (hw : swappedStores [t] e X.env = pure none) (h1 : (assignEach [t] X.env).map (·.2) = [assign t X.env]) :
    PS X (.Assign [t] e pos) (rs (gx X cl) W (bnd ce fun x => bnd (p x.d) fun _ => ret .nx)) := by
  refine PS.imp (ps_asg (pe_rz he) hg hs hw h1) fun D σ H q => ?_
  obtain ⟨Kp, l, st, R, f⟩ := q
  exact ⟨Kp, l, st, R, (FinS.bndE f).imp fun x st1 H1 l1 R1 p1 q1 f1 v hv => ⟨Kp, l1, st1, x.d, R1, hv, (FinS.bnd f1).imp fun _ st2 σ2 H2 l2 R2 p2 q2 f2 => f2 σ2 H2 l2 R2 .refl (List.prefix_refl _)⟩⟩
/-- a name is stored: a value as it comes -/
theorem setv_read {i : Nat} {r : EV} {v : V} {Kp : Hp} {σ : Sl} {H : Hp} {l : List Addr} {st : Sta} {P : Unit → Sta → Sl → Hp → List Addr → Prop} (R : Rel X.K Kp σ H l st) (hv : RvR X.K Kp σ H l st r v) (f : FinS X.K cl W Kp H l (setv i r st) P) :
    ∃ st', Rel X.K Kp (σ.set i (some v)) H l st' ∧ P () st' (σ.set i (some v)) H l := by
  unfold setv at f
  split at f
  · rename_i hi
    have R' : Rel X.K Kp (σ.set i (some v)) H l { st with env := st.env.set i (some r) } := by
      cases r with
      | val d => exact R.put hi hv
      | own xs => exact R.putOwn hi hv
    exact ⟨_, R', f _ H l R' .refl (List.prefix_refl _)⟩
  · exact (show False from f).elim
theorem ps_asgoC {i : Nat} {x : Str} {p2 : Pos} (hN : X.N.Nodup) (hi : X.N[i]? = some x) (hx : Loc X.env.scope x) (hf : X.fn x = true ∨ X.env.scope.names.lookup x = some .local) (he : PE X e (rd (gx X cl) W ce)) (hs : swapsWith e (some (.Name x p2)) pos.line X.env = pure false) :
    PS X (.Assign [.Name x p2] e pos) (rs (gx X cl) W (bnd ce fun x => bnd (setv i x) fun _ => ret .nx)) := by
  refine PS.imp (ps_set hN hi hx he hs hf) fun D σ H q => ?_
  obtain ⟨Kp, l, st, R, f⟩ := q
  refine ⟨Kp, l, st, R, (FinS.bndE f).imp fun r st1 H1 l1 R1 p1 q1 f1 v hv => ?_⟩
  obtain ⟨st', R', f2⟩ := setv_read R1 hv (FinS.bnd f1)
  exact f2 _ H1 l1 R' .refl (List.prefix_refl _)
/-- a comprehension on its name's line -/
theorem ps_lcC {i : Nat} {y : Str} {py : Pos} {elt tg iter : Expr} {ifs : List Expr} {scope : Scope} {own : List (Str × Nat)} {pos' spos : Pos} {it : C (List D)} {p : D → C Unit} {tc : C Bool} {ec : C EV} {Wf : WX} (hc : X.calm = true) (hN : X.N.Nodup) (hy : X.N[i]? = some y) (hyl : X.env.scope.names.lookup y = some .local)
    (hsw : swapsWith (.ListComp elt [⟨tg, iter, ifs, 0⟩] scope pos') (some (.Name y py)) spos.line X.env = pure true) (hi : PI X tg iter (ri (gx X cl) W it)) (ok : BlkOk X.N X.env.scope scope own)
    (hg : ∀ (s : Shared) (H : Hp) (C : Addr) (cl' : List (Str × Addr)) (fp : List Addr), PG (X.blk s H scope (compEnvC scope cl' C X.env) fp) tg (rgc (gx X cl) (own.map (·.2)) p))
    (ht : ∀ (s : Shared) (H : Hp) (C : Addr) (cl' : List (Str × Addr)) (fp : List Addr), PTs (X.blk s H scope (compEnvC scope cl' C X.env) fp) ifs (rb (gx X cl) Wf tc))
    (he : ∀ (s : Shared) (H : Hp) (C : Addr) (cl' : List (Str × Addr)) (fp : List Addr), PE (X.blk s H scope (compEnvC scope cl' C X.env) fp) elt (rd (gx X cl) Wf ec)) (hs : ∀ x, foldedSetIterable iter X.env x = pure x) :
    PS X (.Assign [.Name y py] (.ListComp elt [⟨tg, iter, ifs, 0⟩] scope pos') spos) (rs (gx X cl) W (bnd (bnd it fun xs => compC p (own.map (·.2)) tc ec xs) fun x => bnd (setv i x) fun _ => ret .nx)) := by
  refine PS.imp (ps_setLc hc hN hy hyl hsw hi ok hg ht (fun s H C cl' fp => pe_rz (he s H C cl' fp)) hs) fun D σ H q => ?_
  obtain ⟨Kp, l, st, R, f⟩ := q
  refine comp_read (W := W) ⟨Kp, l, st, R, (FinS.bndE f).imp fun r st1 H1 l1 R1 p1 q1 f1 v hv => ?_⟩
  obtain ⟨st', R', f2⟩ := setv_read R1 hv (FinS.bnd f1)
  exact f2 _ H1 l1 R' .refl (List.prefix_refl _)
theorem pe_lcC {elt tg iter : Expr} {ifs : List Expr} {scope : Scope} {own : List (Str × Nat)} {pos' : Pos} {it : C (List D)} {p : D → C Unit} {tc : C Bool} {ec : C EV} {Wf : WX} (hc : X.calm = true) (hN : X.N.Nodup)
    (hi : PI X tg iter (ri (gx X cl) W it)) (ok : BlkOk X.N X.env.scope scope own)
    (hg : ∀ (s : Shared) (H : Hp) (C : Addr) (cl' : List (Str × Addr)) (fp : List Addr), PG (X.blk s H scope (compEnvC scope cl' C X.env) fp) tg (rgc (gx X cl) (own.map (·.2)) p))
    (ht : ∀ (s : Shared) (H : Hp) (C : Addr) (cl' : List (Str × Addr)) (fp : List Addr), PTs (X.blk s H scope (compEnvC scope cl' C X.env) fp) ifs (rb (gx X cl) Wf tc))
    (he : ∀ (s : Shared) (H : Hp) (C : Addr) (cl' : List (Str × Addr)) (fp : List Addr), PE (X.blk s H scope (compEnvC scope cl' C X.env) fp) elt (rd (gx X cl) Wf ec)) (hs : ∀ x, foldedSetIterable iter X.env x = pure x) :
    PE X (.ListComp elt [⟨tg, iter, ifs, 0⟩] scope pos') (rd (gx X cl) W (bnd it fun xs => compC p (own.map (·.2)) tc ec xs)) :=
  PE.imp (pe_lc hc hN hi ok hg ht (fun s H C cl' fp => pe_rz (he s H C cl' fp)) hs) fun σ H Q q => comp_read (W := W) q
theorem augV_some {o : Bop} {x y z : D} (h : augV o x y = some z) : ∃ i j k, x = .int i ∧ y = .int j ∧ z = .int k ∧ ((o = .add ∧ k = i + j) ∨ (o = .sub ∧ k = i - j) ∨ (o = .mul ∧ k = i * j ∧ CMul i j)) := by
  cases o <;> cases x <;> cases y <;> try cases h
  · exact ⟨_, _, _, rfl, rfl, rfl, .inl ⟨rfl, rfl⟩⟩
  · exact ⟨_, _, _, rfl, rfl, rfl, .inr (.inl ⟨rfl, rfl⟩)⟩
  · simp only [augV] at h
    split at h
    · rename_i c
      cases h
      refine ⟨_, _, _, rfl, rfl, rfl, .inr (.inr ⟨rfl, rfl, ?_⟩)⟩
      rcases Bool.or_eq_true_iff.mp c with c | c
      · exact .inl (small_ok c)
      · exact .inr (small_ok c)
    · cases h
theorem augR' {o : Bop} : OpR X (inplaceOp (bop o)) (fun x y H Q => ∃ l dx dy z, Rep X.K H l dx x ∧ Rep X.K H l dy y ∧ augV o dx dy = some z ∧ ∀ v, Rep X.K H l z v → Q v H) := by
  intro pins s σ H x y v u Q I rx ry h
  obtain ⟨l, dx, dy, z, hx, hy, e, q⟩ := h
  obtain ⟨i, j, k, rfl, rfl, rfl, h⟩ := augV_some e
  cases hx; cases hy
  rcases h with ⟨rfl, rfl⟩ | ⟨rfl, rfl⟩ | ⟨rfl, rfl, c⟩
  · exact iop_add pins s σ H _ _ v u Q I rx ry ⟨i, j, rfl, rfl, q _ rfl⟩
  · exact iop_sub pins s σ H _ _ v u Q I rx ry ⟨i, j, rfl, rfl, q _ rfl⟩
  · exact iop_mul pins s σ H _ _ v u Q I rx ry ⟨i, j, rfl, rfl, c, q _ rfl⟩
theorem augR {o : Bop} : OpR X (inplaceOp (bop o)) (rOp (gx X cl) W (augD o)) := by
  intro pins s σ H x y v u Q I rx ry h
  obtain ⟨Kp, σ', l, st, dx, dy, R, hx, hy, hF⟩ := h
  obtain ⟨z, hz, hF⟩ := map_some (P := fun o => Fin X.K cl W Kp σ' H l (ofO o st) fun r st' H' l' => ∀ v, RvR X.K Kp σ' H' l' st' r v → Q v H') hF (fun z => z)
  exact augR' pins s σ H x y v u Q I rx ry ⟨l, dx, dy, z, hx, hy, hz, fun w hw => fin_val hF R hw⟩
theorem ps_augC {i : Nat} {x : Str} {o : Bop} {p2 : Pos} (hN : X.N.Nodup) (hi : X.N[i]? = some x) (hx : Loc X.env.scope x) (hf : X.fn x = true ∨ X.env.scope.names.lookup x = some .local) (he : PE X e (rd (gx X cl) W ce)) :
    PS X (.AugAssign (.Name x p2) (bop o) e pos) (rs (gx X cl) W (bnd (geti i) fun x => bnd ce fun y => bnd (ofO (augD o x.d y.d)) fun z => bnd (setv i z) fun _ => ret .nx)) := by
  refine PS.imp (ps_aug hN hi hx (pe_rz he) (augR (cl := cl) (W := W) (o := o)) hf) fun D σ H q => ?_
  obtain ⟨Kp, l, st, R, f⟩ := q
  have f := FinS.bnd f
  cases hev : st.env[i]? with
  | none => simp only [geti, hev] at f; exact (show False from f).elim
  | some oo =>
    cases oo with
    | none => simp only [geti, hev] at f; exact (show False from f).elim
    | some ev =>
      cases ev with
      | own xs =>
        simp only [geti, hev] at f
        exact (show False from f).elim
      | val d =>
        simp only [geti, hev] at f
        obtain ⟨v, h1, h2⟩ := R.slots i _ hev
        refine ⟨v, h1, Kp, l, st, R, (FinS.bndE (f σ H l R .refl (List.prefix_refl _))).imp fun y st1 H1 l1 R1 p1 q1 f1 w hw => ⟨Kp, σ, l1, st1, d, y.d, R1, h2.mono p1 q1, hw, (FinS.bndE f1).imp fun z st2 H2 l2 R2 p2 q2 f2 z' hz => ?_⟩⟩
        obtain ⟨st', R', f3⟩ := setv_read R2 hz (FinS.bnd f2)
        exact f3 _ H2 l2 R' .refl (List.prefix_refl _)
theorem ps_expC (he : PE X e (rd (gx X cl) W ce)) (hs : swapsWith e none pos.line X.env = pure false) : PS X (.Expr e pos) (rs (gx X cl) W (bnd ce fun _ => ret .nx)) := by
  refine PS.imp (ps_expr he hs) fun D σ H q => ?_
  obtain ⟨Kp, l, st, R, f⟩ := q
  exact ⟨Kp, l, st, R, (FinS.bndE f).imp fun r st1 H1 l1 R1 p1 q1 f1 v hv => f1 σ H1 l1 R1 .refl (List.prefix_refl _)⟩
theorem ps_retC (he : PE X e (rd (gx X cl) W ce)) : PS X (.Return (some e) pos) (rs (gx X cl) W (bnd ce fun r => ret (.rt r))) := by
  refine PS.imp (ps_ret he) fun D σ H q => ?_
  obtain ⟨Kp, l, st, R, f⟩ := q
  exact ⟨Kp, l, st, R, (FinS.bndE f).imp fun r st1 H1 l1 R1 p1 q1 f1 v hv => f1 σ H1 l1 R1 .refl (List.prefix_refl _) v hv R1.kc R1.mem⟩
theorem ps_retNC : PS X (.Return none pos) (rs (gx X cl) W (ret (.rt (.val .non)))) := by
  refine PS.imp ps_retN fun D σ H q => ?_
  obtain ⟨Kp, l, st, R, f⟩ := q
  exact f σ H l R .refl (List.prefix_refl _) .non rfl R.kc R.mem
theorem ps_passC : PS X (.Pass pos) (rs (gx X cl) W (ret .nx)) := by
  refine PS.imp ps_pass fun D σ H q => ?_
  obtain ⟨Kp, l, st, R, f⟩ := q
  exact f σ H l R .refl (List.prefix_refl _)
theorem ps_brkC : PS X (.Break pos) (rs (gx X cl) W (ret .bk)) := by
  refine PS.imp ps_break fun D σ H q => ?_
  obtain ⟨Kp, l, st, R, f⟩ := q
  exact f σ H l R .refl (List.prefix_refl _)
theorem ps_cntC : PS X (.Continue pos) (rs (gx X cl) W (ret .ct)) := by
  refine PS.imp ps_continue fun D σ H q => ?_
  obtain ⟨Kp, l, st, R, f⟩ := q
  exact f σ H l R .refl (List.prefix_refl _)
theorem ps_docC {x : Str} {j : Option Str} {p2 : Pos} : True := trivial
/-! ### blocks -/
theorem pss_nilC : PSs X [] (rs (gx X cl) W (ret .nx)) := by
  refine PSs.imp pss_nil fun D σ H q => ?_
  obtain ⟨Kp, l, st, R, f⟩ := q
  exact f σ H l R .refl (List.prefix_refl _)
theorem pss_consC {s : Stmt} {ss : List Stmt} {c1 c2 : C Fl} (h1 : PS X s (rs (gx X cl) W c1)) (h2 : PSs X ss (rs (gx X cl) W c2)) : PSs X (s :: ss) (rs (gx X cl) W (bnd c1 fun f => match f with
    | .nx => c2
    | f => ret f)) := by
  refine PSs.imp (pss_cons h1 h2) fun D σ H q => ?_
  obtain ⟨Kp, l, st, R, f⟩ := q
  refine ⟨Kp, l, st, R, (FinS.bnd f).imp fun fl st1 σ1 H1 l1 R1 p1 q1 f1 => ?_⟩
  cases fl with
  | nx => exact ⟨Kp, l1, st1, R1, f1⟩
  | bk => exact f1 σ1 H1 l1 R1 .refl (List.prefix_refl _)
  | ct => exact f1 σ1 H1 l1 R1 .refl (List.prefix_refl _)
  | rt r => exact f1 σ1 H1 l1 R1 .refl (List.prefix_refl _)
theorem ps_ifC {t : C Bool} {sa sb : List Stmt} {xa xb : C Fl} (hc : PT X c (rb (gx X cl) W t)) (ha : PSs X sa (rs (gx X cl) W xa)) (hb : PSs X sb (rs (gx X cl) W xb)) : PS X (.If c sa sb pos) (rs (gx X cl) W (bnd t fun k => if k then xa else xb)) := by
  refine PS.imp (ps_if hc ha hb) fun D σ H q => ?_
  obtain ⟨Kp, l, st, R, f⟩ := q
  refine ⟨Kp, l, st, R, (FinS.bndE f).imp fun k st1 H1 l1 R1 _ _ f1 => ?_⟩
  cases k with
  | true => rw [if_pos rfl] at f1 ⊢; exact ⟨Kp, l1, st1, R1, f1⟩
  | false => rw [if_neg (by simp)] at f1 ⊢; exact ⟨Kp, l1, st1, R1, f1⟩
/-! ### loops -/
theorem FinS.bndL {α β : Type} {K : PySem.W.Frag} {cl : Nat → Addr} {W : WX} {Kp : Hp} {H : Hp} {l : List Addr} {o : Out α} {f : α → C β} {P : β → Sta → Sl → Hp → List Addr → Prop} (h : FinS K cl W Kp H l (o.bnd f) P) :
    FinS K cl W Kp H l o fun a st' _ H' _ => FinS K cl W Kp H' l (f a st') P := by
  cases o with
  | ok a s => exact fun σ H' l' R p q => FinS.weak h p (List.prefix_refl _)
  | exc x s => exact h
  | err => exact h
theorem FinS.bndEL {α β : Type} {K : PySem.W.Frag} {cl : Nat → Addr} {W : WX} {Kp : Hp} {σ : Sl} {H : Hp} {l : List Addr} {o : Out α} {f : α → C β} {P : β → Sta → Sl → Hp → List Addr → Prop} (h : FinS K cl W Kp H l (o.bnd f) P) :
    Fin K cl W Kp σ H l o fun a st' H' _ => FinS K cl W Kp H' l (f a st') P := FinS.fin (FinS.bndL h)
theorem pures_all {ps : List (Option EV)} (h : ps.all pureE = true) {j : Nat} {x : EV} (e : ps[j]? = some (some x)) : pureE (some x) = true := List.all_eq_true.mp h _ (List.mem_of_getElem? e)
theorem Rel.wipeL (R : Rel X.K Kp σ H l st) (ks : List Nat) : Rel X.K Kp σ H l { st with env := Dm.wipeL ks st.env } :=
  R.slotsE (by rw [wipeL_len, R.ln]) fun j x hj => ⟨(wipeL_some hj).1, rfl⟩
/-- what was made is forgotten -/
theorem Rel.takeM (R : Rel X.K Kp σ H l st) (n : Nat) (he : st.env.all pureE = true) (hm : (st.mem.take n).all Cell.pure = true) : Rel X.K Kp σ H (l.take n) { st with mem := st.mem.take n } where
  ln := R.ln
  nd := R.nd.sublist (List.take_sublist _ _)
  ml := by rw [List.length_take, List.length_take, R.ml]
  tr := fun a m => R.tr a (List.mem_of_mem_take m)
  kp := R.kp
  kc := fun a m => R.kc a (List.mem_of_mem_take m)
  kt := R.kt
  tb := R.tb
  cells := fun j a c h1 h2 => by
    have g1 := pre_get (List.take_prefix n l) h1
    have g2 := pre_get (List.take_prefix n st.mem) h2
    have hp : c.pure = true := List.all_eq_true.mp hm _ (List.mem_of_getElem? h2)
    cases c with
    | lst xs =>
      obtain ⟨vs, q1, q2⟩ := R.cells j a _ g1 g2
      exact ⟨vs, q1, Reps.pure xs vs hp q2⟩
    | ins _ _ => cases hp
    | dct _ => cases hp
  slots := fun i x hi => by
    have q := R.slots i x hi
    have hp := pures_all he hi
    cases x with
    | val d =>
      obtain ⟨v, q1, q2⟩ := q
      exact ⟨v, q1, Rep.pure d v hp q2⟩
    | own xs =>
      obtain ⟨p, vs, q1, q2, q3⟩ := q
      exact ⟨p, vs, q1, q2, Reps.pure xs vs hp q3⟩
  own := fun i xs p h1 h2 => ⟨(R.own i xs p h1 h2).1, fun m => (R.own i xs p h1 h2).2 (List.mem_of_mem_take m)⟩
  dist := R.dist
theorem pre_take {l l' : List Addr} (h : l <+: l') : l <+: l'.take l.length := by
  obtain ⟨t, rfl⟩ := h
  rw [List.take_left]
  exact List.prefix_refl _
theorem Rel.clean {g : Option Nat} {l0 : List Addr} (R : Rel X.K Kp σ H l st) (ks : List Nat) (hl : l0 <+: l) (hg : ∀ n, g = some n → n = l0.length) : ∃ l', l0 <+: l' ∧ Rel X.K Kp σ H l' (cleanS ks g st) := by
  unfold cleanS
  cases g with
  | none => exact ⟨l, hl, R.wipeL ks⟩
  | some n =>
    have := hg n rfl
    subst this
    show ∃ l', l0 <+: l' ∧ Rel X.K Kp σ H l' (if (Dm.wipeL ks st.env).all pureE = true then _ else _)
    split
    · rename_i he
      unfold trimM
      split
      · rename_i hm
        exact ⟨_, pre_take hl, (R.wipeL ks).takeM _ he hm⟩
      · exact ⟨l, hl, R.wipeL ks⟩
    · exact ⟨l, hl, R.wipeL ks⟩
theorem ps_forC {tg iter : Expr} {sb : List Stmt} {it : C (List D)} {p : D → C Unit} {xb : C Fl} {ks : List Nat} {gc : Bool} (hp : PassesOwn (model X.prog X.w) X.A X.env X.xe) (hc : X.calm = true) (hi : PI X tg iter (ri (gx X cl) W it)) (hg : PG X tg (rg (gx X cl) W p)) (hb : PSs X sb (rs (gx X cl) W xb))
    (hs : ∀ x, foldedSetIterable iter X.env x = pure x) : PS X (.For tg iter sb [] pos) (rs (gx X cl) W (bnd it fun xs => fun s => floop p xb ks (if gc then some s.mem.length else none) xs s)) := by
  refine PS.imp (ps_for hp hc hi hg hb hs) fun D σ H q => ?_
  obtain ⟨Kp, l, st, R, f⟩ := q
  refine ⟨Kp, l, st, R, (FinS.bndE f).imp fun xs st1 H1 l1 R1 p1 q1 f1 J hJ => ?_⟩
  have hgc : ∀ n, (if gc then some st1.mem.length else none) = some n → n = l1.length := fun n e => by
    cases gc with
    | false => cases e
    | true => cases e; exact R1.ml.symm
  generalize (if gc then some st1.mem.length else none) = g at f1 hgc
  refine for_it hJ (fun i σ2 H2 => i ≤ xs.length ∧ ∃ l2 s2, Rel X.K Kp σ2 H2 l2 s2 ∧ Per H1 H2 ∧ l1 <+: l2 ∧ FinS X.K cl W Kp H2 l1 (floop p xb ks g (xs.drop i) s2) fun fl st' σ' H' l' => flE (gx X cl) Kp D fl st' σ' H' l') ?_ ?_ ?_ ?_
  · exact ⟨Nat.zero_le _, l1, st1, R1, .refl, List.prefix_refl _, by simpa using f1⟩
  · rintro i σ2 H2 hi ⟨_, l2, s2, _, pe, _⟩
    exact pe
  · rintro i x σ2 H2 H3 hi ⟨_, l2, s2, R2, pe, hl, f2⟩ ⟨ex, d, hd, rx⟩
    have hdrop : xs.drop i = d :: xs.drop (i + 1) := by
      obtain ⟨h1, h2⟩ := List.getElem?_eq_some_iff.mp hd
      rw [List.drop_eq_getElem_cons h1, h2]
    rw [hdrop] at f2
    obtain ⟨l3, hl3, R3⟩ := (R2.ext ex).clean ks hl hgc
    have f3 := FinS.bndL (show FinS X.K cl W Kp H2 l1 ((p d (cleanS ks g s2)).bnd fun _ => bnd xb fun f => match f with
      | .nx => floop p xb ks g (xs.drop (i + 1))
      | .ct => floop p xb ks g (xs.drop (i + 1))
      | .bk => clean ks g
      | .rt r => ret (.rt r)) _ from f2)
    refine ⟨Kp, l3, _, d, R3, rx.mono .refl hl3, (f3.weak ex.per hl3).imp fun _ st4 σ4 H4 l4 R4 p4 q4 f4 => ⟨Kp, l4, st4, R4, ((FinS.bndL f4).weak .refl (hl3.trans q4)).imp fun fl st5 σ5 H5 l5 R5 p5 q5 f5 => ?_⟩⟩
    have per5 := pe.trans (ex.per.trans (p4.trans p5))
    have pl5 := hl3.trans (q4.trans q5)
    cases fl with
    | nx => exact ⟨hi, l5, st5, R5, per5, pl5, f5⟩
    | ct => exact ⟨hi, l5, st5, R5, per5, pl5, f5⟩
    | bk =>
      obtain ⟨l6, hl6, R6⟩ := R5.clean ks pl5 hgc
      exact f5 σ5 H5 l6 R6 .refl hl6
    | rt r => exact f5 σ5 H5 l5 R5 .refl pl5
  · rintro σ2 H2 ⟨_, l2, s2, R2, pe, hl, f2⟩
    rw [List.drop_length] at f2
    obtain ⟨l3, hl3, R3⟩ := R2.clean ks hl hgc
    exact f2 σ2 H2 l3 R3 .refl hl3
theorem ps_whlC {sb : List Stmt} {t : C Bool} {xb : C Fl} {n : Nat} {ks : List Nat} (hp : PassesOwn (model X.prog X.w) X.A X.env X.xe) (hc : PT X c (rb (gx X cl) W t)) (hb : PSs X sb (rs (gx X cl) W xb)) : PS X (.While c sb [] pos) (rs (gx X cl) W (wloop t xb ks n)) := by
  refine PS.imp (ps_while hp hc hb) fun D σ H q => ?_
  obtain ⟨Kp, l, st, R, f⟩ := q
  refine ⟨fun m σ2 H2 => ∃ l2 s2, Rel X.K Kp σ2 H2 l2 s2 ∧ FinS X.K cl W Kp H2 l2 (wloop t xb ks m s2) fun fl st' σ' H' l' => flE (gx X cl) Kp D fl st' σ' H' l', ⟨n, l, st, R, f⟩, ?_⟩
  rintro m σ2 H2 ⟨l2, s2, R2, f2⟩
  cases m with
  | zero => exact (show False from f2).elim
  | succ m =>
    have R2 : Rel X.K Kp σ2 H2 l2 (cleanS ks none s2) := R2.wipeL ks
    refine ⟨Kp, l2, _, R2, (FinS.bndE (show FinS X.K cl W Kp H2 l2 ((t (cleanS ks none s2)).bnd fun k => if k then bnd xb fun f => match f with
      | .nx => wloop t xb ks m
      | .ct => wloop t xb ks m
      | .bk => clean ks none
      | .rt r => ret (.rt r)
    else ret .nx) _ from f2)).imp fun k st3 H3 l3 R3 p3 q3 f3 => ?_⟩
    cases k with
    | false =>
      rw [if_neg (by simp)] at f3 ⊢
      exact f3 σ2 H3 l3 R3 .refl (List.prefix_refl _)
    | true =>
      rw [if_pos rfl] at f3 ⊢
      refine ⟨fun σ4 H4 => ∃ l2 s2, Rel X.K Kp σ4 H4 l2 s2 ∧ FinS X.K cl W Kp H4 l2 (wloop t xb ks m s2) fun fl st' σ' H' l' => flE (gx X cl) Kp D fl st' σ' H' l', fun σ4 H4 h4 => ⟨m, Nat.lt_succ_self _, h4⟩, Kp, l3, st3, R3, (FinS.bnd f3).imp fun fl st5 σ5 H5 l5 R5 p5 q5 f5 => ?_⟩
      cases fl with
      | nx => exact ⟨l5, st5, R5, f5⟩
      | ct => exact ⟨l5, st5, R5, f5⟩
      | bk => exact f5 σ5 H5 l5 (R5.wipeL ks) .refl (List.prefix_refl _)
      | rt r => exact f5 σ5 H5 l5 R5 .refl (List.prefix_refl _)

/-! ### several at once, each as it comes -/
/-- values as they come, each list in it nobody else's -/
def RvRs (K : PySem.W.Frag) (Kp : Hp) (σ : Sl) (H : Hp) (l : List Addr) (st : Sta) : List EV → List V → Prop
  | [], vs => vs = []
  | .val d :: rs, vs => ∃ v r, vs = v :: r ∧ Rep K H l d v ∧ RvRs K Kp σ H l st rs r
  | .own xs :: rs, vs => ∃ p ws r, vs = .ref p :: r ∧ H p = some (.lst ws) ∧ Reps K H l xs ws ∧ Kp p = none ∧ p ∉ l ∧ (∀ (i : Nat) (ys : List D), st.env[i]? = some (some (EV.own ys)) → σ[i]? ≠ some (some (V.ref p))) ∧ RvRs K (upd Kp p (.lst ws)) σ H l st rs r
def rao (g : Gx) (W : WX) (c : C (List EV)) : TA := fun σ H Q => ∃ Kp l st, Rel g.K Kp σ H l st ∧ Fin g.K g.cl W Kp σ H l (c st) fun r st' H' l' => ∀ vs, RvRs g.K Kp σ H' l' st' r vs → Q vs H'
theorem Rel.keepR (R : Rel X.K Kp σ H l st) {p : Addr} {ws : List V} (h : H p = some (.lst ws)) (h1 : Kp p = none) (h2 : p ∉ l) (h3 : ∀ (i : Nat) (ys : List D), st.env[i]? = some (some (EV.own ys)) → σ[i]? ≠ some (some (V.ref p))) : Rel X.K (upd Kp p (.lst ws)) σ H l st where
  ln := R.ln
  nd := R.nd
  ml := R.ml
  tr := R.tr
  kp := fun q o e => by
    by_cases z : q = p
    · subst z
      rw [upd_same] at e
      cases e
      exact h
    · rw [upd_ne z] at e
      exact R.kp q o e
  kc := fun a m => by
    rw [upd_ne (show a ≠ p from fun z => h2 (by rw [← z]; exact m))]
    exact R.kc a m
  kt := fun q ps e => by
    by_cases z : q = p
    · subst z
      rw [upd_same] at e
      cases e
    · rw [upd_ne z] at e
      exact R.kt q ps e
  tb := R.tb
  cells := R.cells
  slots := R.slots
  own := fun i xs q hi hq => by
    obtain ⟨a, b⟩ := R.own i xs q hi hq
    exact ⟨by rw [upd_ne (show q ≠ p from fun z => h3 i xs hi (by rw [← z]; exact hq))]; exact a, b⟩
  dist := R.dist
theorem Fin.keepR {α : Type} {o : Out α} {P : α → Sta → Hp → List Addr → Prop} {p : Addr} {ws : List V} (h1 : Kp p = none) (h : Fin X.K cl W Kp σ H l o P) : Fin X.K cl W (upd Kp p (.lst ws)) σ H l o fun a st' H' l' => Rel X.K (upd Kp p (.lst ws)) σ H' l' st' ∧ Per H H' ∧ l <+: l' ∧ P a st' H' l' := by
  cases o with
  | ok a s => exact fun H' l' R pe q => ⟨R, pe, q, h H' l' (R.keepOff h1) pe q⟩
  | exc x s => exact fun c d H' l' R pe q xr => h c d H' l' (R.keepOff h1) pe q xr
  | err => exact h
theorem pao_nilC : PA X [] (rao (gx X cl) W (evo Phi [])) := by
  refine PA.imp pa_nil fun σ H Q q => ?_
  obtain ⟨Kp, l, st, R, f⟩ := q
  exact f H l R .refl (List.prefix_refl _) [] rfl
theorem pao_consC {es : List Expr} {a : E} {as : List E} (he : PE X e (rd (gx X cl) W (ev Phi a))) (ha : PA X es (rao (gx X cl) W (evo Phi as))) (hn : noStar e = true) : PA X (e :: es) (rao (gx X cl) W (evo Phi (a :: as))) := by
  refine PA.imp (pa_cons he ha (star_cons hn)) fun σ H Q q => ?_
  obtain ⟨Kp, l, st, R, f⟩ := q
  refine ⟨Kp, l, st, R, (Fin.bnd (show Fin X.K cl W Kp σ H l ((ev Phi a st).bnd fun x => bnd (evo Phi as) fun xs => ret (x :: xs)) _ from f)).imp fun r st1 H1 l1 R1 p1 q1 f1 v hv => ?_⟩
  have f1 := Fin.bnd (show Fin X.K cl W Kp σ H1 l1 ((evo Phi as st1).bnd fun xs => ret (r :: xs)) _ from f1)
  cases r with
  | val d => exact ⟨Kp, l1, st1, R1, f1.imp fun rs st2 H2 l2 R2 p2 q2 f2 vs hvs => f2 H2 l2 R2 .refl (List.prefix_refl _) (v :: vs) ⟨v, vs, rfl, Rep.mono p2 q2 d v hv, hvs⟩⟩
  | own xs =>
    obtain ⟨p, ws, rfl, h1, h2, h3, h4, h5⟩ := hv
    refine ⟨upd Kp p (.lst ws), l1, st1, R1.keepR h1 h3 h4 h5, (Fin.keepR h3 f1).imp fun rs st2 H2 l2 R2 p2 q2 f2 vs hvs => ?_⟩
    obtain ⟨_, _, _, f2⟩ := f2
    refine f2 H2 l2 (R2.keepOff h3) .refl (List.prefix_refl _) (.ref p :: vs) ⟨p, ws, vs, rfl, R2.kp p _ upd_same, h2.mono p2 q2, h3, fun m => ?_, fun i ys hi hs => ?_, hvs⟩
    · have := R2.kc p m
      rw [upd_same] at this
      cases this
    · have := (R2.own i ys p hi hs).1
      rw [upd_same] at this
      cases this
/-- others' lists: what is told of values stays where a slot is stored -/
theorem RvRs.put : ∀ {rs : List EV} {vs : List V} {Kp : Hp} {i : Nat} {v : V} {ev : EV}, (∀ xs, ev = .own xs → ∃ q o, v = .ref q ∧ Kp q = some o) → RvRs X.K Kp σ H l st rs vs → RvRs X.K Kp (σ.set i (some v)) H l { st with env := st.env.set i (some ev) } rs vs
  | [], _, _, _, _, _, _, h => h
  | .val d :: rs, vs, Kp, i, v, ev, hk, h => by
    obtain ⟨w, r, e, h1, h2⟩ := h
    exact ⟨w, r, e, h1, RvRs.put hk h2⟩
  | .own xs :: rs, vs, Kp, i, v, ev, hk, h => by
    obtain ⟨p, ws, r, e, h1, h2, h3, h4, h5, h6⟩ := h
    refine ⟨p, ws, r, e, h1, h2, h3, h4, fun j ys hj hs => ?_, RvRs.put (fun xs e => ?_) h6⟩
    · rcases set_get hj with ⟨e1, e2⟩ | ⟨e1, e2⟩
      · subst e1
        cases e2
        obtain ⟨q, o, rfl, hq⟩ := hk _ rfl
        rcases set_get hs with ⟨_, e4⟩ | ⟨e4, _⟩
        · cases e4
          rw [h3] at hq
          cases hq
        · exact e4 rfl
      · rw [List.getElem?_set_ne e1] at hs
        exact h5 j ys e2 hs
    · obtain ⟨q, o, e1, e2⟩ := hk xs e
      refine ⟨q, o, e1, ?_⟩
      rw [upd_ne (fun z => by rw [z, h3] at e2; cases e2)]
      exact e2
theorem RvRs.less : ∀ {rs : List EV} {vs : List V} {K1 K2 : Hp}, (∀ q, K1 q = none → K2 q = none) → RvRs X.K K1 σ H l st rs vs → RvRs X.K K2 σ H l st rs vs
  | [], _, _, _, _, h => h
  | .val d :: rs, vs, K1, K2, hk, h => by
    obtain ⟨w, r, e, h1, h2⟩ := h
    exact ⟨w, r, e, h1, RvRs.less hk h2⟩
  | .own xs :: rs, vs, K1, K2, hk, h => by
    obtain ⟨p, ws, r, e, h1, h2, h3, h4, h5, h6⟩ := h
    refine ⟨p, ws, r, e, h1, h2, hk p h3, h4, h5, RvRs.less (fun q e => ?_) h6⟩
    by_cases z : q = p
    · rw [z, upd_same] at e; cases e
    · rw [upd_ne z] at e ⊢
      exact hk q e
/-- names are stored, all at once -/
theorem setm_read : ∀ {is : List Nat} {rs : List EV} {vs : List V} {Kp : Hp} {σ : Sl} {st : Sta} {P : Unit → Sta → Sl → Hp → List Addr → Prop}, Rel X.K Kp σ H l st → RvRs X.K Kp σ H l st rs vs → FinS X.K cl W Kp H l (setm is rs st) P → is.length = vs.length ∧ ∃ st' σ', σ' = (is.zip vs).foldl (fun σ x => σ.set x.1 (some x.2)) σ ∧ Rel X.K Kp σ' H l st' ∧ P () st' σ' H l := by
  intro is
  induction is with
  | nil =>
    intro rs vs Kp σ st P R hr f
    cases rs with
    | nil =>
      cases (show _ = _ from hr)
      exact ⟨rfl, st, σ, rfl, R, f σ H l R .refl (List.prefix_refl _)⟩
    | cons _ _ => exact (show False from f).elim
  | cons i is ih =>
    intro rs vs Kp σ st P R hr f
    cases rs with
    | nil => exact (show False from f).elim
    | cons r rs =>
      have f := FinS.bnd (show FinS X.K cl W Kp H l ((setv i r st).bnd fun _ => setm is rs) P from f)
      cases r with
      | val d =>
        obtain ⟨v, r, rfl, h1, h2⟩ := hr
        unfold setv at f
        split at f
        · rename_i hi
          have f2 := f _ H l (R.put hi h1) .refl (List.prefix_refl _)
          obtain ⟨z1, z2, z3, z4, z5, z6⟩ := ih (R.put hi h1) (RvRs.put (ev := .val d) (fun xs e => by cases e) h2) f2
          exact ⟨by rw [List.length_cons, List.length_cons, z1], z2, z3, z4, z5, z6⟩
        · exact (show False from f).elim
      | own xs =>
        obtain ⟨p, ws, r, rfl, h1, h2, h3, h4, h5, h6⟩ := hr
        unfold setv at f
        split at f
        · rename_i hi
          have R' := R.putOwn hi (v := .ref p) (xs := xs) ⟨p, ws, rfl, h1, h2, h3, h4, h5⟩
          have f2 := f _ H l R' .refl (List.prefix_refl _)
          have h6' := RvRs.put (i := i) (v := .ref p) (ev := .own xs) (fun xs e => ⟨p, _, rfl, upd_same⟩) h6
          have h7 : RvRs X.K Kp (σ.set i (some (.ref p))) H l { st with env := st.env.set i (some (.own xs)) } rs r := by
            refine RvRs.less (fun q e => ?_) h6'
            by_cases z : q = p
            · rw [z]; exact h3
            · rw [upd_ne z] at e; exact e
          obtain ⟨z1, z2, z3, z4, z5, z6⟩ := ih R' h7 f2
          exact ⟨by rw [List.length_cons, List.length_cons, z1], z2, z3, z4, z5, z6⟩
        · exact (show False from f).elim

theorem ps_par2C {i j : Nat} {x y : Str} {c : C (List EV)} {px py pt : Pos} {kt k2 pt2} (hc : X.calm = true) (hN : X.N.Nodup) (hi : X.N[i]? = some x) (hj : X.N[j]? = some y) (hij : i ≠ j)
    (hx : X.env.scope.names.lookup x = some .local) (hy : X.env.scope.names.lookup y = some .local) (ha : PA X [a, b] (rao (gx X cl) W c))
    (hw : swappedStores [.Tuple [.Name x px, .Name y py] kt pt] (.Tuple [a, b] k2 pt2) X.env = pure (some [x, y])) (hs : swapsWithSole [.Tuple [.Name x px, .Name y py] kt pt] (.Tuple [a, b] k2 pt2) pos.line X.env = pure false) :
    PS X (.Assign [.Tuple [.Name x px, .Name y py] kt pt] (.Tuple [a, b] k2 pt2) pos) (rs (gx X cl) W (bnd c fun ds => bnd (setm [i, j] ds) fun _ => ret .nx)) := by
  refine PS.imp (ps_par hc hN hi hj hij hx hy ha hw hs) fun D σ H q => ?_
  obtain ⟨Kp, l, st, R, f⟩ := q
  refine ⟨Kp, l, st, R, (FinS.bndE f).imp fun rs st1 H1 l1 R1 p1 q1 f1 vs hvs => ?_⟩
  obtain ⟨e1, st', σ', e2, R', f2⟩ := setm_read R1 hvs (FinS.bnd f1)
  match vs, e1 with
  | [v, w], _ =>
    subst e2
    exact ⟨v, w, rfl, f2 _ H1 l1 R' .refl (List.prefix_refl _)⟩
theorem ps_par3C {i j k : Nat} {x y z : Str} {cc : Expr} {c : C (List EV)} {px py pz pt : Pos} {kt k2 pt2} (hc : X.calm = true) (hN : X.N.Nodup) (hi : X.N[i]? = some x) (hj : X.N[j]? = some y) (hk : X.N[k]? = some z) (hij : i ≠ j) (hik : i ≠ k) (hjk : j ≠ k)
    (hx : X.env.scope.names.lookup x = some .local) (hy : X.env.scope.names.lookup y = some .local) (hz : X.env.scope.names.lookup z = some .local) (ha : PA X [a, b, cc] (rao (gx X cl) W c))
    (hw : swappedStores [.Tuple [.Name x px, .Name y py, .Name z pz] kt pt] (.Tuple [a, b, cc] k2 pt2) X.env = pure (some [x, y, z])) (hs : swapsWithSole [.Tuple [.Name x px, .Name y py, .Name z pz] kt pt] (.Tuple [a, b, cc] k2 pt2) pos.line X.env = pure false) :
    PS X (.Assign [.Tuple [.Name x px, .Name y py, .Name z pz] kt pt] (.Tuple [a, b, cc] k2 pt2) pos) (rs (gx X cl) W (bnd c fun ds => bnd (setm [i, j, k] ds) fun _ => ret .nx)) := by
  refine PS.imp (ps_par3 hc hN hi hj hk hij hik hjk hx hy hz ha hw hs) fun D σ H q => ?_
  obtain ⟨Kp, l, st, R, f⟩ := q
  refine ⟨Kp, l, st, R, (FinS.bndE f).imp fun rs st1 H1 l1 R1 p1 q1 f1 vs hvs => ?_⟩
  obtain ⟨e1, st', σ', e2, R', f2⟩ := setm_read R1 hvs (FinS.bnd f1)
  match vs, e1 with
  | [u, v, w], _ =>
    subst e2
    exact ⟨u, v, w, rfl, f2 _ H1 l1 R' .refl (List.prefix_refl _)⟩
/-! ### own[k] op= e -/
theorem get_listP : PGet X (rIxL X.K) := by
  intro pins s σ H o i ov iv Q I ro ri h
  obtain ⟨p, xs, i, z, rfl, rfl, hq, he, q⟩ := h
  cases ro
  obtain ⟨t, rfl⟩ := ri
  obtain ⟨its, r, pl, hz⟩ := I.list hq
  obtain ⟨j, h1, h2, h3, h4, h5⟩ := atI_get he
  obtain ⟨w, ew, rw'⟩ := r.get h2
  have hl := r.length
  have hn := line63
  have fin : EP X pins σ Q w s := ⟨z, H, I, rw', q⟩
  by_cases h0 : 0 ≤ i
  · have hj : i.toNat = j := by
      rw [seqIndex_of h0 h5] at h1
      exact Option.some.inj h1
    exact wpAny_getItem_list pl.isList h0 (by omega) (by rw [hj]; simpa using ew) fin
  · have hj : (i + (its.toArray.size : Int)).toNat = j := by
      rw [seqIndex_neg (by omega) h4] at h1
      rw [List.size_toArray, ← hl]
      exact Option.some.inj h1
    exact wpAny_getItem_list_neg pl.isList (by omega) (by rw [List.size_toArray, ← hl]; omega) (by omega) (by rw [hj]; simpa using ew) fin
theorem atI_reps {K : PySem.W.Frag} {H : Hp} {l : List Addr} {xs : List D} {vs : List V} {k : Int} {x : D} (h : Reps K H l xs vs) (e : atI xs k = some x) : ∃ v, atI vs k = some v ∧ Rep K H l x v := by
  unfold atI at e ⊢
  rw [h.len]
  cases hk : ixN xs.length k with
  | none => rw [hk] at e; cases e
  | some j =>
    rw [hk] at e
    exact h.get e
theorem ps_oaugC {i : Nat} {o : Bop} {oe k : Expr} {ck : C EV} {tpos : Pos} (ho : PE X oe (tVar i)) (hk : PE X k (rd (gx X cl) W ck)) (he : PE X e (rd (gx X cl) W ce))
    (ha : ∀ ov iv new, augStore k ov iv new = (do holding [new, ov, iv] (setItem ov iv new); release [new, ov, iv] []; pure .next)) :
    PS X (.AugAssign (.Subscript oe k tpos) (bop o) e pos) (rs (gx X cl) W (bnd (isOwn i) fun _ => bnd ck fun x => bnd (oaugC i x.d o ce) fun _ => ret .nx)) := by
  refine PS.imp (ps_augS ho (pe_rz hk) get_listP (pe_rz he) (augR' (o := o)) set_list ha) fun D σ H q => ?_
  obtain ⟨Kp, l, st, R, f⟩ := q
  have f := FinS.bnd f
  unfold isOwn at f
  split at f
  · rename_i xs hey0
    have f := f σ H l R .refl (List.prefix_refl _)
    obtain ⟨p, vs, h1, h2, h3, h4, h5, h6⟩ := R.ownR hey0
    refine ⟨.ref p, h1, Kp, l, st, R, (FinS.bndE f).imp fun x st1 H1 l1 R1 p1 q1 f1 u hu => ?_⟩
    have f1 := FinS.bnd f1
    unfold oaugC at f1
    split at f1
    · rename_i ys kk hey hkk
      rw [hkk] at hu
      cases hu
      split at f1
      · rename_i xo hxo
        obtain ⟨p', ws, g1, g2, g3⟩ := R1.slots i _ hey
        rw [h1] at g1
        cases g1
        obtain ⟨v0, e0, r0⟩ := atI_reps g3 hxo
        refine ⟨p, ws, kk, v0, rfl, rfl, .inl (.inl g2), e0, Kp, l1, st1, R1, (FinS.bndE f1).imp fun y st2 H2 l2 R2 p2 q2 f2 w hw => ?_⟩
        cases hz : augV o xo y.d with
        | none => rw [hz] at f2; exact (show False from f2).elim
        | some z =>
        rw [hz] at f2
        refine ⟨l2, xo, y.d, z, r0.mono p2 q2, hw, hz, fun z' hz' => ?_⟩
        have f3 : FinS X.K cl W Kp H2 l2 (osetC i (.int kk) z st2) _ := f2
        unfold osetC at f3
        split at f3
        · rename_i ys3 n3 hey3 e3
          cases e3
          split at f3
          · rename_i j hj
            obtain ⟨p'', ws3, g1, g2, g3⟩ := R2.slots i _ hey3
            rw [h1] at g1
            cases g1
            refine ⟨p, ws3, kk, j, rfl, rfl, g2, by rw [g3.len]; exact hj, ?_⟩
            have R4 := R2.write hey3 h1 g2 (g3.set j hz')
            exact f3 σ _ l2 R4 (.lst g2) (List.prefix_refl _) σ _ l2 R4 .refl (List.prefix_refl _)
          · exact (show False from f3).elim
        · exact (show False from f3).elim
      · exact (show False from f1).elim
    · exact (show False from f1).elim
  · exact (show False from f).elim
end
end Dm

set_option Elab.async false
set_option linter.all false
set_option maxRecDepth 100000
set_option maxHeartbeats 4000000
set_option autoImplicit false
/-! DmE: exceptions: raise, try .. except X as e: y = e, isinstance of what was caught. -/
namespace Dm
open PySem PySem.Spec PyProof.Rows L2

/-- the wish of 'except c as n: y = n' (n in slot i, y in slot j) -/
def wKp (K : PySem.W.Frag) (c : Value) (i j : Nat) (Wout : WX) (D : Ends) : WX := fun cls d σ H =>
  ∃ b, PySem.W.exmOne K cls c = some b ∧ (b = true → ∀ (a : Addr) (oe : Obj), H a = none → Zc cls d oe → (∃ vs, oe.data = .fields vs) → D.nx ((σ.set j (some (.ref a))).set i none) (upd H a (.frz oe exO))) ∧
    (b = false → Wout cls d σ H)
/-- an object that stood in no one's way is held -/
theorem Inv.hold {X : Cx} {pins : List (Addr × Obj)} {σ : Sl} {H : Hp} {s : Shared} {a : Addr} {oe : Obj} (I : Inv X pins σ H s) (he : s.heap.get? a = some oe) (na : H a = none) (nL : a ≠ X.env.locals) (nc : ∀ v, oe.data ≠ .cell v)
    (n0 : X.s_0.heap.get? a = none) (np : ∀ p ∈ X.pn ++ pins, p.1 ≠ a) : Inv X pins σ (upd H a (.frz oe exO)) s := by
  have ne0 : ∀ b o, X.s_0.heap.get? b = some o → b ≠ a := fun b o e z => by
    rw [z, n0] at e
    cases e
  have up : ∀ b u, H b = some u → upd H a (.frz oe exO) b = some u := fun b u e => by rw [upd_ne (ne_of_none e na)]; exact e
  refine ⟨I.ok, I.os, I.bare, ⟨I.base.keep, I.base.slot, fun b o e n hx => by rw [upd_ne (ne0 b o e)]; exact I.base.free b o e n hx, I.base.there, fun b xs e => up _ _ (I.base.tups b xs e), fun b o u e => up _ _ (I.base.frzs b o u e), fun b ps e => ?_⟩, I.loc, I.cell, ?_, fun x c e => ?_, fun p hp => ?_, fun b u e => ?_, I.len⟩
  · obtain ⟨m, e1⟩ := I.base.tbls b ps e
    exact ⟨m, up _ _ e1⟩
  · rw [upd_ne (Ne.symm nL)]
    exact I.free
  · rw [upd_ne]
    · exact I.freeC x c e
    · rintro rfl
      obtain ⟨v, o, h1, h2⟩ := I.cell x c e
      rw [he] at h1
      cases h1
      exact nc v h2
  · obtain ⟨p1, p2, p3, p4, p5⟩ := I.pin p hp
    exact ⟨p1, by rw [upd_ne (np p hp)]; exact p2, p3, p4, p5⟩
  · by_cases hb : b = a
    · subst hb
      rw [upd_same] at e
      cases e
      exact ⟨he, trivial, ⟨_, he⟩, fun _ _ _ _ => trivial⟩
    · rw [upd_ne hb] at e
      exact (I.hok b u e).stay (fun _ _ _ q => q) (fun c q => up _ _ q) fun c xs q => up _ _ q
section
variable {X : Cx} {x n y : Str} {c : Value} {i j : Nat} {body : List Stmt} {np np2 yp apos pos pos' : Pos} {tb : WX → TS} {Wout : WX}
theorem ps_try_keep (hs : X.stack = X.env :: X.outer) (hf : X.env.frame = some X.env.locals) (hex : X.ex = []) (hN : X.N.Nodup) (hi : X.N[i]? = some n) (hj : X.N[j]? = some y) (hln : X.env.kindOf n = some .local) (hly : X.env.kindOf y = some .local)
    (hn1 : (n == ("__debug__" : Str)) = false) (hn2 : (n == ("__classdict__" : Str)) = false) (hc : Names X x c) (tk : Takes X Wout)
    (hb : ∀ (W : WX) (pn : List (Addr × Obj)) (xe : Value → Shared → Prop), Takes (X.tr pn xe) W → PassesOwn (model X.prog X.w) X.A X.env xe → PSs (X.tr pn xe) body (tb W)) :
    PS X (.Try body [.ExceptHandler (some (.Name x np)) (some n) [.Assign [.Name y yp] (.Name n np2) apos] pos'] [] [] pos) (fun D σ H => tb (wKp X.K c i j Wout D) D σ H) := by
  refine ⟨fun pins s σ H D I h => ?_⟩
  have ok := I.ok
  have hfr : X.A.frames = some (X.env :: X.outer) := by rw [ok.frames, hs]
  have hloc : Loc X.env.scope n := .inl hln
  refine wpAny_Try_except ?_
  refine wpAny_mono ((hb (wKp X.K c i j Wout D) (X.pn ++ pins) (fun e s₁ => wpAny (model X.prog X.w) X.A (noteFrame e X.env) (fun _ s₂ => wpAny (model X.prog X.w) X.A (setFlight e none) (fun _ s₃ =>
    wpAny (model X.prog X.w) X.A (handleBy e X.env [.ExceptHandler (some (.Name x np)) (some n) [.Assign [.Name y yp] (.Name n np2) apos] pos']) (SP X pins D) X.xe s₃) X.xe s₂) X.xe s₁) (fun u s' xx => ?_) PassesOwn.looking).run [] s σ H D (I.toTry _) h) (fun f s1 hsp => ?_) (fun e s1 he => he)
  · -- the catch
    obtain ⟨a, B, sI, pins', σ', H', cls, d, rfl, J', nb, up, sky, na, os, ag, b, hb1, hyes, hno⟩ := xx
    have J : Inv X pins σ' H' sI := J'.ofTry ok
    have sky' : Sky B (X.env :: X.outer) a (Zc cls d) X.env.locals s'.heap := by rw [← hs]; exact sky
    show wpAny (model X.prog X.w) X.A (noteFrame (.ref a) X.env) _ _ _
    refine Sky.land Zc.steady hfr hf sky' fun h3 fl3 up3 => ?_
    have J3 : Inv X pins σ' H' { s' with heap := h3 } := J.landed nb fl3.1 (up.trans up3) os ag
    obtain ⟨oe3, vs3, he3, hz3, hd3⟩ := fl3.there
    have notFr : ∀ {h : Heap} {o : Obj} {vs : Array Value}, h.FunFrames B (X.env :: X.outer) → h.get? a = some o → o.data = .fields vs → a ∉ frs (X.env :: X.outer) := fun {h o vs} ff e dd hm => by
      obtain ⟨_, o', e', hnf⟩ := ff.mem hm
      rw [e] at e'; cases e'
      exact hnf _ dd
    have nfr := notFr fl3.2.2.1 he3 hd3
    have nL : a ≠ X.env.locals := fun z => nfr (List.mem_filterMap.mpr ⟨X.env, List.mem_cons_self, by rw [hf, z]⟩)
    have nF : a ∉ X.fs := fun hm => by
      obtain ⟨e, he, q⟩ := List.mem_filterMap.mp hm
      exact nfr (List.mem_filterMap.mpr ⟨e, List.mem_cons_of_mem _ he, q⟩)
    have nI : sI.heap.get? a = none := by
      cases e : sI.heap.get? a with
      | none => rfl
      | some o =>
        have z := nb a o e (by rw [hs]; exact nfr)
        rw [fl3.2.1] at z
        cases z
    have n0 : X.s_0.heap.get? a = none := by
      cases e : X.s_0.heap.get? a with
      | none => rfl
      | some o =>
        obtain ⟨o', z⟩ := J.base.there a o e (by rw [hex]; exact fun z => nomatch z)
        rw [nI] at z
        cases z
    have npn : ∀ p ∈ X.pn ++ pins, p.1 ≠ a := fun p hp z => by
      have q := (J.pin p hp).1
      rw [z, nI] at q
      cases q
    have S3 := J3.suite he3 hd3 na nL nF
    refine wpAny_handleBy_cons (codeAny_handlers_test ?_) (by intro q; cases q)
    have LT : PySem.W.Looks (model X.prog X.w) h3 (typeOf (.ref a)) cls := fun A Q E s k q => wpAny_typeOf_ref (k _ _ he3) (by rw [hz3.1]; exact q)
    have LM := PySem.W.exm_one (M := model X.prog X.w) (J3.kIn) LT hb1
    have test : ∀ {Q : Value → Shared → Prop} {E : Value → Shared → Prop}, Q c { s' with heap := h3 } → wpAny (model X.prog X.w) (X.A.mark (some (.ref a))) (eval (.Name x np) X.env) Q E { s' with heap := h3 } := fun {Q E} q => by
      obtain ⟨hg, hdbg, hm | ⟨hm, hv, hnn⟩⟩ := hc
      · exact ld_glob (X := X.suite a ((a, oe3) :: (X.pn ++ pins))) S3 hg hm q hdbg
      · exact ld_blt (X := X.suite a ((a, oe3) :: (X.pn ++ pins))) S3 hg hm hv q hnn hdbg
    refine test (LM.here ?_)
    cases b with
    | true =>
      refine codeAny_handlers_suite_as ?_
      refine HandSPX.lands_againZ fl3 fun h4 fl4 up4 => ?_
      have J4 : Inv X pins σ' H' { s' with heap := h4 } := J.landed nb fl4.1 ((up.trans up3).trans up4) os ag
      obtain ⟨oe4, vs4, he4, hz4, hd4⟩ := fl4.there
      have S4 := J4.suite he4 hd4 na nL nF
      have hlt : i < σ'.length := by rw [J4.len]; exact (List.getElem?_eq_some_iff.mp hi).1
      refine store_ok (X := X.suite a ((a, oe4) :: (X.pn ++ pins))) (v := .ref a) S4 hN hi hloc rfl (fun s5 S5 => ?_) (.inr hln)
      have suite := pss_cons (X := X.suite a ((a, oe4) :: (X.pn ++ pins))) (ps_set (pos := apos) (pos' := yp) hN hj (.inl hly) (pe_var (pos := np2) hi (.inl hln) hn1 hn2) (by rfl) (.inr hly)) pss_nil
      refine wpAny_mono (suite.run [] s5 _ H' { nx := fun σ6 H6 => σ6 = (σ'.set i (some (.ref a))).set j (some (.ref a)) ∧ H6 = H', rt := fun _ _ => False, bk := fun _ _ => False, ct := fun _ _ => False } S5 ⟨.ref a, List.getElem?_set_self hlt, rfl, rfl⟩) (fun f s6 hsp => ?_) (fun _ _ z => False.elim z)
      cases f with
      | next =>
        obtain ⟨σ6, H6, S6, e1, e2⟩ := hsp
        subst e1 e2
        have P := (S6.pin (a, oe4) (by simp)).1
        have J6 := Inv.hold (S6.unsuite ok) P na nL (fun v z => by rw [hd4] at z; cases z) n0 npn
        refine gone_ok J6 hN hi hln fun s7 J7 => ⟨_, _, J7, ?_⟩
        have e3 : ((σ'.set i (some (V.ref a))).set j (some (.ref a))).set i none = (σ'.set j (some (.ref a))).set i none := by
          by_cases hij : i = j
          · subst hij
            simp
          · rw [List.set_comm _ _ hij, List.set_set]
        rw [e3]
        exact hyes rfl a oe4 na hz4 ⟨_, hd4⟩
      | brk => obtain ⟨_, _, _, z⟩ := hsp; exact z.elim
      | cont => obtain ⟨_, _, _, z⟩ := hsp; exact z.elim
      | ret u => obtain ⟨_, _, _, _, _, z⟩ := hsp; exact z.elim
    | false =>
      show wpAny _ X.A (handleBy (.ref a) X.env []) _ _ _
      refine wpAny_handleBy_nil ?_
      obtain ⟨k1, k2, k3, oe, vs, T, oT, ts', he, hz, hd, h1, hr⟩ := id fl3
      unfold PySem.passOn
      refine wpAny_bind (wpAny_field he hd h1 ?_)
      rw [if_neg (show ¬ ((Value.ref T == Value.none) = true) from by simp)]
      have fin : wpAny (model X.prog X.w) X.A (setFlight (.ref a) X.env.frame) (fun _ s4 => wpAny (model X.prog X.w) X.A (throw (.ref a) : Sem Flow) (SP X pins D) X.xe s4) X.xe { s' with heap := h3 } := by
        rw [hf]
        refine HandSPX.setFlight_upZ fl3 fun h4 hh4 up4 => wpAny_throw (tk _ _ ?_)
        exact ⟨a, B, sI, pins, σ', H', cls, d, rfl, J, nb, (up.trans up3).trans up4, .inr (.inr (by rw [hs]; exact hh4)), na, os, ag, hno rfl⟩
      first
        | exact wpAny_bind (wpAny_pure (wpAny_bind fin))
        | exact wpAny_bind fin
  · cases f with
    | next =>
      obtain ⟨σ', H', J', q⟩ := hsp
      exact wpAny_execs_nil ⟨σ', H', J'.ofTry ok, q⟩
    | brk =>
      obtain ⟨σ', H', J', q⟩ := hsp
      exact ⟨σ', H', J'.ofTry ok, q⟩
    | cont =>
      obtain ⟨σ', H', J', q⟩ := hsp
      exact ⟨σ', H', J'.ofTry ok, q⟩
    | ret u =>
      obtain ⟨v, σ', H', J', r, q⟩ := hsp
      exact ⟨v, σ', H', J'.ofTry ok, r, q⟩
end
/-! ### isinstance -/
theorem ecB_ok {K : PySem.W.Frag} {D : Addr} (h : ecB K D = true) : ExcC K D := by
  unfold ecB at h
  simp only [Bool.and_eq_true, decide_eq_true_eq] at h
  obtain ⟨⟨⟨⟨⟨⟨⟨h1, h2⟩, h3⟩, h4⟩, h5⟩, h6⟩, h7⟩, h8⟩ := h
  exact ⟨He.eqO_ok h1, He.eqO_ok h2, h3, h4, He.eqO_ok h5, He.eqO_ok h6, h7, h8⟩
/-- a value's class, a caught exception's, too -/
def TyE (K : PySem.W.Frag) (H : Hp) (x : V) (t : Value) : Prop := TyX K H x t ∨ ∃ (a : Addr) (oe : Obj) (D : Addr), x = .ref a ∧ H a = some (.frz oe exO) ∧ oe.cls = .ref D ∧ oe.dict = none ∧ (∃ vs, oe.data = .fields vs) ∧ ExcC K D ∧ t = .ref D
theorem kit_ofE {X : Cx} {pins : List (Addr × Obj)} {σ : Sl} {H : Hp} {s : Shared} {x : V} {u t : Value} (I : Inv X pins σ H s) (rx : RelV x u) (ty : TyE X.K H x t) : ∃ P : Heap → Prop, PySem.W.KitX X.K u t P ∧ P s.heap ∧ u ≠ .builtin "__main__.__loader__#opaque" := by
  rcases ty with ty | ⟨a, oe, D, rfl, h1, h2, h3, ⟨vs, h4⟩, C, rfl⟩
  · exact kit_of I rx ty
  · cases rx
    obtain ⟨g1, _⟩ := I.hok a _ h1
    have J : PySem.W.InstAt s.heap a oe D none := by
      obtain ⟨oc, od, oda, osl⟩ := oe
      dsimp only at h2 h3 h4
      subst h2 h3 h4
      exact ⟨g1, rfl, rfl, trivial⟩
    exact ⟨_, PySem.W.handS_kitx_exc C.hg C.hk C.hs C.hd C.ha C.hn C.ht C.hm, J, fun z => nomatch z⟩
def rIsE1 (K : PySem.W.Frag) : List V → Hp → VK → Prop := fun xs H Q => ∃ (x c : V) (t u : Value) (b : Bool), xs = [x, c] ∧ ClsV c u ∧ TyE K H x t ∧ PySem.W.kitOne K t u = some b ∧ Q (.bl b) H
def rIsET (K : PySem.W.Frag) : List V → Hp → VK → Prop := fun xs H Q => ∃ (x : V) (tp : Addr) (cs : List V) (t : Value) (us : List Value) (b : Bool), xs = [x, .ref tp] ∧ H tp = some (.tup cs) ∧ Paired ClsV cs us ∧ TyE K H x t ∧ PySem.W.kitAny K t us = some b ∧ Q (.bl b) H
theorem call_isE1 {X : Cx} : CallR X (.builtin "isinstance") (rIsE1 X.K) := by
  intro pins s σ H xs us Q I r h
  obtain ⟨x, c, t, u, b, rfl, k, ty, e, q⟩ := h
  obtain ⟨u1, u2, rfl, r1, r2⟩ := vals2 r
  have e2 := k.eq r2
  subst e2
  obtain ⟨P, Z, p, hx⟩ := kit_ofE I r1 ty
  exact PySem.W.kia_one Z I.kIn p e hx fun tk => ⟨.bl b, H, I.tok tk, rfl, q⟩
theorem call_isET {X : Cx} : CallR X (.builtin "isinstance") (rIsET X.K) := by
  intro pins s σ H xs us Q I r h
  obtain ⟨x, tp, cs, t, ws, b, rfl, hT, k, ty, e, q⟩ := h
  obtain ⟨u1, u2, rfl, r1, r2⟩ := vals2 r
  cases (show u2 = Value.ref tp from r2)
  obtain ⟨P, Z, p, hx⟩ := kit_ofE I r1 ty
  obtain ⟨_, its, rv, o, h1, h2, n, h3⟩ := (show ObjOk X.prog X.w H s.heap tp (.tup cs) from I.hok tp _ hT)
  have e3 := ClsV.all k rv
  subst e3
  obtain ⟨oc, od, dt, sl⟩ := o
  simp only at h2 h3
  subst h2 h3
  exact PySem.W.kia_tup Z I.kIn p h1 e hx fun tk => ⟨.bl b, H, I.tok tk, rfl, q⟩
section
variable {X : Cx} {m : Mx} {cl : Nat → Addr} {W : WX} {k : Nat} {Phi : Fns} {e : Expr} {ce : C EV} {p p2 pos : Pos} {ks cs : List Nat}
def clVV (K : PySem.W.Frag) (c : Nat) : V := if c = 5 then .ty "ValueError" else .ref (clA K c)
theorem clVV_cls (K : PySem.W.Frag) (c : Nat) : ClsV (clVV K c) (clV K c) := by
  unfold clVV clV
  split
  · exact .ty _
  · exact .own _
theorem exN_dbg (c : Nat) : (exN c == ("__debug__" : Str)) = false := by
  match c with
  | 0 => decide +kernel
  | 1 => decide +kernel
  | 2 => decide +kernel
  | 3 => decide +kernel
  | 4 => decide +kernel
  | 5 => decide +kernel
  | _ + 6 => exact (by decide +kernel : (("" : Str) == ("__debug__" : Str)) = false)
theorem pe_clN {c : Nat} (F : ExF X.K X.mg cs) (hc : c ∈ cs) (hg : Gl X (exN c)) : PE X (.Name (exN c) p) (tC (clVV X.K c)) := by
  unfold clVV
  split
  · rename_i h
    subst h
    exact pe_bltn (x := "ValueError") (u := .type "ValueError") hg (F.bl hc) (by decide +kernel) rfl
  · rename_i h
    exact pe_glob hg (F.gl c hc h) rfl (exN_dbg c)
theorem exB_at {K : PySem.W.Frag} {cs : List Nat} (h : exB K cs = true) {c : Nat} (hc : c ∈ cs) (h3 : [1, 2, 3].contains c = true) : (He.Fa.exc (exN c)).ok K = true ∧ ExcC K (clA K c) ∧ ∀ t ∈ cs, PySem.W.kitOne K (.ref (clA K c)) (clV K t) = some (subX c t) ∧ (t ≠ 5 → PySem.W.exmOne K (.ref (clA K c)) (.ref (clA K t)) = some (subX c t)) := by
  unfold exB at h
  rw [Bool.and_eq_true] at h
  have h1 := List.all_eq_true.mp h.1 c hc
  rw [h3] at h1
  simp only [Bool.not_true, Bool.false_or, Bool.and_eq_true] at h1
  obtain ⟨⟨a, b⟩, d⟩ := h1
  refine ⟨a, ecB_ok b, fun t ht => ?_⟩
  have h2 := List.all_eq_true.mp d t ht
  simp only [Bool.and_eq_true, Bool.or_eq_true, decide_eq_true_eq, beq_iff_eq] at h2
  exact ⟨h2.1, fun n => h2.2.resolve_left n⟩
theorem exB_non {K : PySem.W.Frag} {cs : List Nat} (h : exB K cs = true) {t : Nat} (ht : t ∈ cs) : PySem.W.kitOne K (.type "NoneType") (clV K t) = some false := by
  unfold exB at h
  rw [Bool.and_eq_true] at h
  exact of_decide_eq_true (List.all_eq_true.mp h.2 t ht)
theorem kitAny_map {K : PySem.W.Frag} {t : Value} {f : Nat → Bool} : ∀ {ts : List Nat}, (∀ c ∈ ts, PySem.W.kitOne K t (clV K c) = some (f c)) → PySem.W.kitAny K t (ts.map (clV K)) = some (ts.any f)
  | [], _ => rfl
  | c :: ts, h => by
    refine kitAny_cons (h c (by simp)) (fun z => ?_) (fun z => by rw [List.any_cons, z]; rfl)
    rw [List.any_cons, z, Bool.false_or]
    exact kitAny_map fun d hd => h d (by simp [hd])
/-- what is asked has a class that the text tells of -/
theorem ise_ty {F : ExF X.K X.mg cs} {l : List Addr} {H : Hp} {d : D} {v : V} {ts : List Nat} {b : Bool} (hv : Rep X.K H l d v) (hk : ks.all (fun c => cs.contains c && [1, 2, 3].contains c) = true) (hts : ∀ t ∈ ts, t ∈ cs) (e : iseD ks ts d = some b) :
    ∃ (t : Value) (f : Nat → Bool), TyE X.K H v t ∧ b = ts.any f ∧ ∀ c ∈ ts, PySem.W.kitOne X.K t (clV X.K c) = some (f c) := by
  cases d with
  | non =>
    cases e
    cases hv
    exact ⟨.type "NoneType", fun _ => false, .inl (.base .non), by induction ts <;> simp_all, fun c hc => exB_non F.ok (hts c hc)⟩
  | exn c =>
    simp only [iseD] at e
    split at e
    · rename_i hkc
      cases e
      have h2 := List.all_eq_true.mp hk c (by simpa using hkc)
      rw [Bool.and_eq_true] at h2
      obtain ⟨_, C, q⟩ := exB_at F.ok (by simpa using h2.1) h2.2
      obtain ⟨a, oe, rfl, g1, g2, g3, g4⟩ := hv
      exact ⟨_, subX c, .inr ⟨a, oe, _, rfl, g1, g2, g3, g4, C, rfl⟩, rfl, fun t ht => (q t (hts t ht)).1⟩
    · cases e
  | _ => cases e
theorem pa_cls : ∀ (ts : List Nat) (es : List Expr), (∃ ps : List Pos, ps.length = ts.length ∧ es = (ts.zip ps).map fun x => Expr.Name (exN x.1) x.2) → ExF X.K X.mg cs → (∀ t ∈ ts, t ∈ cs) → (∀ t ∈ ts, Gl X (exN t)) →
    PA X es (fun σ H Q => Q (ts.map (clVV X.K)) H)
  | [], es, he, F, hc, hg => by
    obtain ⟨ps, h1, h2⟩ := he
    subst h2
    exact PA.imp pa_nil fun σ H Q q => q
  | t :: ts, es, he, F, hc, hg => by
    obtain ⟨ps, h1, h2⟩ := he
    cases ps with
    | nil => cases h1
    | cons p ps =>
      subst h2
      exact PA.imp (pa_cons (pe_clN F (hc t (by simp)) (hg t (by simp))) (pa_cls ts _ ⟨ps, by simpa using h1, rfl⟩ F (fun t h => hc t (by simp [h])) (fun t h => hg t (by simp [h]))) (star_cons rfl)) fun σ H Q q => q
theorem cls_cls (K : PySem.W.Frag) : ∀ ts : List Nat, Paired ClsV (ts.map (clVV K)) (ts.map (clV K))
  | [] => .nil
  | t :: ts => .cons (clVV_cls K t) (cls_cls K ts)
theorem pe_ise1 {t : Nat} (F : ExF X.K X.mg cs) (he : PE X e (rd (gx X cl) W ce)) (hk : ks.all (fun c => cs.contains c && [1, 2, 3].contains c) = true) (ht : t ∈ cs) (hg : Gl X "isinstance") (hgt : Gl X (exN t)) (hm : ∀ x ∈ bltNames, X.mg x = none) (hn : noStar e = true) :
    PE X (.Call (.Name "isinstance" p) [e, .Name (exN t) p2] [] pos) (rd (gx X cl) W (bnd ce fun x => ofO ((iseD ks [t] x.d).map fun b => .val (.bl b)))) := by
  have key : PE X (.Call (.Name "isinstance" p) [e, .Name (exN t) p2] [] pos) (tCB (rIsE1 X.K) (tCons (rz (gx X cl) W ce) fun σ H Q => Q ([t].map (clVV X.K)) H)) :=
    pe_callB call_isE1 hg (hm _ (by decide +kernel)) (by decide +kernel) (pa_cons (pe_rz he) (pa_cls [t] _ ⟨[p2], rfl, rfl⟩ F (fun u hu => by simp at hu; rw [hu]; exact ht) (fun u hu => by simp at hu; rw [hu]; exact hgt)) (star_cons hn)) (by decide +kernel) (by decide +kernel) (star_cons hn) rfl
  refine PE.imp key fun σ H Q q => ?_
  obtain ⟨Kp, l, st, R, f⟩ := q
  refine ⟨Kp, l, st, R, (Fin.bnd f).imp fun x st1 H1 l1 R1 _ _ f1 v hv => ?_⟩
  obtain ⟨b, e2, f2⟩ := map_some (P := fun o => Fin X.K cl W Kp σ H1 l1 (ofO o st1) fun r st' H' l' => ∀ v, RvR X.K Kp σ H' l' st' r v → Q v H') f1 (fun z => z)
  obtain ⟨tt, f, ty, eb, hf⟩ := ise_ty (F := F) hv hk (fun u hu => by simp at hu; rw [hu]; exact ht) e2
  have eb : b = f t := by simpa using eb
  exact ⟨v, clVV X.K t, tt, clV X.K t, b, rfl, clVV_cls _ _, ty, by rw [eb]; exact hf t (by simp), fin_val f2 R1 rfl⟩
theorem pe_iseT {ts : List Nat} {es : List Expr} {kk : Nat} (F : ExF X.K X.mg cs) (he : PE X e (rd (gx X cl) W ce)) (hk : ks.all (fun c => cs.contains c && [1, 2, 3].contains c) = true) (hts : ∀ t ∈ ts, t ∈ cs) (hg : Gl X "isinstance") (hes : ∃ ps : List Pos, ps.length = ts.length ∧ es = (ts.zip ps).map fun x => Expr.Name (exN x.1) x.2)
    (hgt : ∀ t ∈ ts, Gl X (exN t)) (hl : ts.length ≤ 9) (hm : ∀ x ∈ bltNames, X.mg x = none) (hn : noStar e = true) :
    PE X (.Call (.Name "isinstance" p) [e, .Tuple es kk p2] [] pos) (rd (gx X cl) W (bnd ce fun x => ofO ((iseD ks ts x.d).map fun b => .val (.bl b)))) := by
  have key : PE X (.Call (.Name "isinstance" p) [e, .Tuple es kk p2] [] pos) (tCB (rIsET X.K) (tCons (rz (gx X cl) W ce) (tCons (tTup fun σ H Q => Q (ts.map (clVV X.K)) H) tNil))) :=
    pe_callB call_isET hg (hm _ (by decide +kernel)) (by decide +kernel) (pa_cons (pe_rz he) (pa_cons (pe_tup (pa_cls ts es hes F hts hgt)) pa_nil (star_cons rfl)) (star_cons hn)) (by decide +kernel) (by decide +kernel) (star_cons hn) rfl
  refine PE.imp key fun σ H Q q => ?_
  obtain ⟨Kp, l, st, R, f⟩ := q
  refine ⟨Kp, l, st, R, (Fin.bnd f).imp fun x st1 H1 l1 R1 _ _ f1 v hv => ?_⟩
  obtain ⟨b, e2, f2⟩ := map_some (P := fun o => Fin X.K cl W Kp σ H1 l1 (ofO o st1) fun r st' H' l' => ∀ v, RvR X.K Kp σ H' l' st' r v → Q v H') f1 (fun z => z)
  refine ⟨by rw [List.length_map, sizeLine_eq]; omega, fun q hq => ?_⟩
  have R2 : Rel X.K Kp σ (upd H1 q (.tup (ts.map (clVV X.K)))) l1 st1 := R1.new hq
  obtain ⟨tt, f, ty, eb, hf⟩ := ise_ty (F := F) (hv.mono (.new hq) (List.prefix_refl _)) hk hts e2
  exact ⟨v, q, _, tt, _, b, rfl, upd_same, cls_cls _ ts, ty, by rw [eb]; exact kitAny_map hf, fin_val (f2.weak (.new hq) (List.prefix_refl _)) R2 rfl⟩
/-! ### raise -/
theorem ps_rseC {c : Nat} {msg : Str} {jj : Nat} {p3 : Pos} (cx : Cxt X m W cl k Phi) (hc : c ∈ m.ex) (h3 : [1, 2, 3].contains c = true) (hg : Gl X (exN c)) : PS X (.Raise (some (.Call (.Name (exN c) p) [.Constant (.str msg) jj p2] [] p3)) none pos) (rs (gx X cl) W fun s => .exc ⟨c, []⟩ s) := by
  obtain ⟨F, hcl⟩ := cx.ex
  obtain ⟨a, C, q⟩ := exB_at F.ok hc h3
  obtain ⟨a1, a2, a3, a4⟩ := He.exc_ok a
  have h5 : c ≠ 5 := fun z => by rw [z] at h3; revert h3; decide +kernel
  refine PS.imp (ps_raise cx.calm cx.tk (pmk_own PySem.F.excBase_ValueError a1 (F.gl c hc h5) a2 (raises_own a3 a4) hg (exN_dbg c))) fun D σ H q => ?_
  obtain ⟨Kp, l, st, R, f⟩ := q
  exact f _ none σ H l R .refl (List.prefix_refl _) ⟨by rw [hcl]; rfl, rfl, rfl⟩
/-! ### try -/
/-- a def's context: where exceptions go -/
structure OwnX (X : Cx) : Prop where
  own : PassesOwn (model X.prog X.w) X.A X.env X.xe
  stk : X.stack = X.env :: X.outer
  fr : X.env.frame = some X.env.locals
  nox : X.ex = []
theorem Cxt.tr (c : Cxt X m W cl k Phi) {pn : List (Addr × Obj)} {xe : Value → Shared → Prop} {W' : WX} (tk : Takes (X.tr pn xe) W') : Cxt (X.tr pn xe) m W' cl k Phi where
  N := c.N
  sc := c.sc
  fn := c.fn
  calm := c.calm
  nd := c.nd
  gd := c.gd
  room := c.room
  tk := tk
  blt := c.blt
  gl := c.gl
  ex := c.ex
  fns := c.fns
  mts := c.mts
  fld := c.fld
  lam := c.lam
theorem ps_triC {c i j : Nat} {n y : Str} {body : List Stmt} {cb : C Fl} {np np2 yp apos pos' : Pos} (cx : Cxt X m W cl k Phi) (o : OwnX X) (hi : X.N[i]? = some n) (hj : X.N[j]? = some y) (hln : X.env.kindOf n = some .local) (hly : X.env.kindOf y = some .local)
    (hn1 : (n == ("__debug__" : Str)) = false) (hn2 : (n == ("__classdict__" : Str)) = false) (hc : c ∈ m.ex) (h5 : c ≠ 5) (hg : Gl X (exN c)) (hk : ks.all (fun c => m.ex.contains c && [1, 2, 3].contains c) = true)
    (hb : ∀ (W' : WX) (pn : List (Addr × Obj)) (xe : Value → Shared → Prop), Takes (X.tr pn xe) W' → PassesOwn (model X.prog X.w) X.A X.env xe → PSs (X.tr pn xe) body (rs (gx X cl) W' cb)) :
    PS X (.Try body [.ExceptHandler (some (.Name (exN c) np)) (some n) [.Assign [.Name y yp] (.Name n np2) apos] pos'] [] [] pos) (rs (gx X cl) W (triC cb ks c i j)) := by
  obtain ⟨F, hcl⟩ := cx.ex
  refine PS.imp (ps_try_keep (c := .ref (clA X.K c)) o.stk o.fr o.nox cx.nd hi hj hln hly hn1 hn2 ⟨hg, exN_dbg c, .inl (F.gl c hc h5)⟩ cx.tk hb) fun D σ H q => ?_
  obtain ⟨Kp, l, st, R, f⟩ := q
  refine ⟨Kp, l, st, R, ?_⟩
  unfold triC at f
  cases hst : cb st with
  | ok fl st' => rw [hst] at f; exact f
  | err => rw [hst] at f; exact f
  | exc x st' =>
    rw [hst] at f
    dsimp only at f
    split at f
    · rename_i hkx
      have h2 := List.all_eq_true.mp hk x.cls (by simpa using hkx)
      rw [Bool.and_eq_true] at h2
      obtain ⟨_, C, q⟩ := exB_at F.ok (by simpa using h2.1) h2.2
      have qe := (q c hc).2 h5
      intro cls d σ' H' l' R' pe pl xr
      obtain ⟨e1, e2, e3⟩ := xr
      subst e1 e2
      rw [hcl]
      refine ⟨_, qe, fun hb => ?_, fun hb => ?_⟩
      · rw [if_pos hb] at f
        intro a oe na hz hd
        split at f
        · rename_i hjl
          have R1 : Rel X.K Kp σ' (upd H' a (.frz oe exO)) l' st' := R'.new na
          have r1 : Rep X.K (upd H' a (.frz oe exO)) l' (.exn x.cls) (.ref a) := ⟨a, oe, rfl, upd_same, hz.1, hz.2, hd⟩
          have R2 := R1.put (i := j) hjl r1
          have R3 := R2.slotsE (τ := (σ'.set j (some (V.ref a))).set i none) (e := (st'.env.set j (some (.val (.exn x.cls)))).set i none) (by have := R2.ln; simpa using this) fun k y hy => by
            by_cases hki : k = i
            · subst hki
              by_cases hlt : k < (st'.env.set j (some (EV.val (.exn x.cls)))).length
              · rw [List.getElem?_set_self hlt] at hy
                cases hy
              · rw [List.getElem?_eq_none (by rw [List.length_set]; omega)] at hy
                cases hy
            · rw [List.getElem?_set_ne (Ne.symm hki)] at hy ⊢
              exact ⟨hy, rfl⟩
          exact f _ _ _ R3 (pe.trans (.new na)) pl
        · exact f.elim
      · rw [if_neg (by rw [hb]; simp)] at f
        exact f _ _ σ' H' l' R' pe pl ⟨by rw [hcl], rfl, e3⟩
    · exact (show False from f).elim
end
end Dm

set_option Elab.async false
set_option linter.all false
set_option maxRecDepth 100000
set_option maxHeartbeats 4000000
set_option autoImplicit false
/-! DmL: sorted(list(range(n)), key=lambda b: (b % w, b)). -/
namespace Dm
open PySem PySem.Spec PyProof.Rows L2

/-! ### the plain law -/
def keyP (w : Int) (z : Int) : PyData := .tuple [.int (z % w), .int z]
def leP (w : Int) (x y : Int) : Bool := decide (x % w < y % w ∨ (x % w = y % w ∧ x ≤ y))
theorem keyP_le (w : Int) : PySem.W.dataLe false (keyP w) = leP w := by
  exact PySem.W.dataLe_ii (fun z => z % w) (fun z => z)
theorem intsL_rangeL : ∀ (n : Nat) (lo : Int), intsL (rangeL lo n) = some ((List.range n).map fun (j : Nat) => lo + (j : Int))
  | 0, _ => rfl
  | n + 1, lo => by
    show (intsL (rangeL (lo + 1) n)).map (lo :: ·) = _
    rw [intsL_rangeL n (lo + 1), List.range_succ_eq_map, List.map_cons, List.map_map]
    show some (lo :: _) = some (_ :: _)
    congr 2
    · simp
    · refine List.map_congr_left fun j _ => ?_
      show lo + 1 + (j : Int) = lo + ((j + 1 : Nat) : Int)
      omega
/-- the numbers in order -/
theorem leP_trans (w : Int) (x y z : Int) (h : leP w x y = true) (h2 : leP w y z = true) : leP w x z = true := by
  unfold leP at *
  rw [decide_eq_true_eq] at *
  omega
theorem leP_total (w : Int) (x y : Int) : (leP w x y || leP w y x) = true := by
  unfold leP
  rw [Bool.or_eq_true, decide_eq_true_eq, decide_eq_true_eq]
  omega
theorem srtL_sorted (w n : Nat) (hw : 0 < w) : ((List.range n).map Int.ofNat).mergeSort (leP w) = srtL w n := by
  unfold srtL
  refine List.Perm.eq_of_pairwise (le := fun a b => leP w a b = true) (fun a b _ _ h1 h2 => ?_) (List.pairwise_mergeSort (leP_trans w) (leP_total w) _) ?_ ((List.mergeSort_perm _ _).trans ((srtN_perm w n hw).map _).symm)
  · unfold leP at h1 h2
    rw [decide_eq_true_eq] at h1 h2
    omega
  · rw [List.pairwise_map]
    refine List.Pairwise.imp (fun {a b} h => ?_) (srtN_pairwise w n)
    unfold leP
    rw [decide_eq_true_eq]
    show (a : Int) % (w : Int) < (b : Int) % (w : Int) ∨ ((a : Int) % (w : Int) = (b : Int) % (w : Int) ∧ (a : Int) ≤ (b : Int))
    omega
/-- a lambda of one name, with one name of the def's -/
structure Lam1 (sc scope : Scope) (b w : Str) : Prop where
  kind : scope.kind = .function
  co : scope.isCoroutine = false
  gen : scope.isGenerator = false
  lb : scope.names.lookup b = some .local
  lw : scope.names.lookup w = some .free
  cells : ∀ y ∈ scope.names, y.2 ≠ .cell
  free : ∀ y ∈ scope.names, y.2 = .free → y.1 = w
  vw : sc.names.lookup w = some .cell ∨ sc.names.lookup w = some .free
  nd : (b == ("__debug__" : Str)) = false ∧ (w == ("__debug__" : Str)) = false ∧ (w == ("__classdict__" : Str)) = false
section
variable {X : Cx} {pins : List (Addr × Obj)} {σ : Sl} {H : Hp} {s : Shared} {b w : Str} {scope : Scope} {params : Arguments} {p1 p2 p3 p4 p5 lpos : Pos} {k5 : Nat}
abbrev lamBody (b w : Str) (p1 p2 p3 p4 p5 : Pos) (k5 : Nat) : Expr := .Tuple [.BinOp (.Name b p1) .Mod (.Name w p2) p3, .Name b p4] k5 p5
/-- the key of an item -/
theorem lam_key {q : Str} {f c' : Addr} {pm ctv : Value} {iw : Nat} {ww z : Int} {v : Value} (I : Inv X pins σ H s) (L : Lam1 X.env.scope scope b w)
    (hf : s.heap.get? f = some (PySem.W.kla_obj "<lambda>" q params (lamBody b w p1 p2 p3 p4 p5 k5) scope (cloFrom X.env.cells scope.names []) pm c' ctv)) (hco : H c' = some (LamX.CodeO c' q))
    (hN : X.N[iw]? = some w) (hs : σ[iw]? = some (some (.int ww))) (hw : 0 < ww) (hr : X.A.depth < recursionLimit)
    (hb : ∀ (q : Str) (cl : List (Str × Addr)) (pm cv ctv : Value) (u : Value), bindArgs (PySem.W.kla_fn "<lambda>" q params (lamBody b w p1 p2 p3 p4 p5 k5) scope cl pm cv ctv) ⟨[u], []⟩ = pure [(b, u)]) (hv : RelV (.int z) v) :
    wpAny (model X.prog X.w) X.A.in1.in1 (call (.ref f) [v]) (PySem.W.KeyPure (keyP ww z) s) (fun _ _ => False) s := by
  obtain ⟨t, rfl⟩ := hv
  obtain ⟨⟨oc, vs, tq, hoc, hdc, hvc⟩, _, _⟩ := I.hok c' _ hco
  obtain ⟨m, hn, hl⟩ := I.loc
  obtain ⟨u, ru, lu⟩ := hl iw w _ hN hs (L.vw.elim (fun h => .inr (.inl h)) fun h => .inr (.inr h))
  obtain ⟨tw, rfl⟩ := ru
  have nl : ∀ c, X.env.scope.names.lookup w = some c → c ≠ .local := fun c h e => by
    rcases L.vw with h2 | h2 <;> rw [h2] at h <;> cases h <;> cases e
  have hcell : ∃ c, X.env.cells.lookup w = some c ∧ s.heap.IsCell c (some (.int ww tw)) := by
    rcases lu with ⟨k, _⟩ | ⟨_, c, e, z⟩
    · exact absurd rfl (nl _ k)
    · exact ⟨c, e, z⟩
  obtain ⟨c, hc, hcl⟩ := hcell
  have hclo : (cloFrom X.env.cells scope.names []).lookup w = some c := by
    obtain ⟨c1, h1⟩ := mem_lookup (cloFrom_has (cells := X.env.cells) (acc := []) (PySem.mem_of_lookup L.lw))
    rcases cloFrom_mem (PySem.mem_of_lookup h1) with hm | ⟨_, h2⟩
    · cases hm
    · rw [hc] at h2
      rw [h1, h2]
      rfl
  refine wpAny_call ?_
  refine PySem.W.kla_callFunE hr hf rfl L.co L.gen rfl ⟨c', oc, vs, tq, rfl, hoc, hdc, hvc⟩ ?_
  rw [hb]
  refine wpAny_pure (wpAny_newFunctionEnv L.cells (fun y hy => ?_) (fun h₁ hns hsb => ⟨I.nolimit.fresh _ hsb, ?_⟩) L.kind)
  · have : y = (b, Value.int z t) := by simpa using hy
    rw [this]
    exact L.lb
  · have kp : ∀ b o, s.heap.get? b = some o → h₁.get? b = some o := fun b o e => hsb.extBut b o (Nat.ne_of_lt (Heap.lt_size e)) (Heap.get?_push_of_some _ e)
    obtain ⟨oc2, hoc2, hdc2⟩ := hcl
    refine PySem.W.kla_codeExpr (wpAny_Tuple_spliced ?_)
    have kB : (PySem.W.envX q scope s.heap.objs.size f (.ref c') (cloFrom X.env.cells scope.names [])).kindOf b = some .local := L.lb
    have kW : (PySem.W.envX q scope s.heap.objs.size f (.ref c') (cloFrom X.env.cells scope.names [])).kindOf w = some .free := L.lw
    have hm : ([(b, Value.int z t)] : List (Str × Value)).reverse.lookup b = some (.int z t) := by simp
    refine Calls.spliced_cons (wpAny_BinOp ?_)
    refine wpAny_Name (wpAny_loadName_local L.kind kB hns hm ?_) L.nd.1
    refine wpAny_Name (wpAny_loadName_free L.kind kW hclo ⟨oc2, kp _ _ hoc2, hdc2⟩ ?_ L.nd.2.2) L.nd.2.1
    refine mod_int' (by omega) ?_
    refine Calls.spliced_cons ?_
    refine wpAny_Name (wpAny_loadName_local L.kind kB hns hm ?_) L.nd.1
    refine Calls.spliced_nil ⟨by show 2 ≤ sizeLine; rw [sizeLine_eq]; omega, ?_⟩
    refine ⟨_, _, rfl, fun b o e => Heap.get?_push_of_some _ (kp b o e), ?_⟩
    have ek : keyP ww z = .tuple ([z.fmod ww, z].map .int) := by
      unfold keyP
      rw [Int.fmod_eq_emod_of_nonneg _ (by omega)]
      rfl
    rw [ek]
    exact reads_tuple_ints (IsTup.new _ _) (.cons _ _ (.cons _ _ .nil))
theorem vals_each : ∀ {zs : List Int} {its : List Value}, Vals (zs.map V.int) its → PySem.W.EachIs (fun v (z : Int) => RelV (.int z) v) its zs
  | [], _, .nil => .nil
  | _ :: _, _, .cons r t => .cons r (vals_each t)
theorem each_vals : ∀ {zs : List Int} {its : List Value}, PySem.W.EachIs (fun v (z : Int) => RelV (.int z) v) its zs → Vals (zs.map V.int) its
  | [], _, .nil => .nil
  | _ :: _, _, .cons r t => .cons r (each_vals t)
theorem reps_ints {K : PySem.W.Frag} {H : Hp} {l : List Addr} : ∀ zs : List Int, Reps K H l (zs.map .int) (zs.map V.int)
  | [] => .nil
  | z :: zs => .cons rfl (reps_ints zs)
theorem srtL_le {ww : Int} {n : Nat} (h : 0 < ww) : ((List.range n).map Int.ofNat).mergeSort (leP ww) = srtL ww.toNat n := by
  have := srtL_sorted ww.toNat n (by omega)
  rw [show ((ww.toNat : Nat) : Int) = ww by omega] at this
  exact this
theorem d_val' {d : D} : (EV.val d).d = d := rfl
/-- the tables that are told of stay so -/
theorem tq_tabs {H1 : Hp} {P : Addr} {q : Str} (u : ∀ P' q', TQ X.K P' q' → P' = P ∧ q' = q) (t : LamX.Tabs [(P, q)] H1) : ∀ P' q', TQ X.K P' q' → LamX.TabS H1 P' q' := fun P' q' h => by
  obtain ⟨rfl, rfl⟩ := u P' q' h
  exact t _ (List.mem_singleton.mpr rfl)
theorem per_ext {H1 : Hp} (e : LamX.ExtN H H1) : Per H H1 := ⟨fun a o u h => e _ _ h fun _ z => (by cases z), fun a xs h => e _ _ h fun _ z => (by cases z)⟩
theorem pe_srtk {cl : Nat → Addr} {W : WX} {Phi : Fns} {i iw : Nat} {e0 : Expr} {p pos kp : Pos} (hun : X.A.units + 65 < cLine) (hd : X.A.depth < recursionLimit)
    (he : PE X e0 (rd (gx X cl) W (ev Phi (.rngv false (.rng1 (.var i)))))) (hn : noStar e0 = true) (hg : Gl X "sorted") (hm : ∀ x ∈ bltNames, X.mg x = none)
    (lam : ∃ c P, X.env.code = .ref c ∧ LamX.TabB X.base X.mg c P ∧ TQ X.K P (X.env.qual ++ "<lambda>") ∧ ∀ P' q', TQ X.K P' q' → P' = P ∧ q' = X.env.qual ++ "<lambda>")
    (Ls : Lam1 X.env.scope scope b w) (hN : X.N[iw]? = some w)
    (hb : ∀ (q : Str) (cl : List (Str × Addr)) (pm cv ctv : Value) (u : Value), bindArgs (PySem.W.kla_fn "<lambda>" q params (lamBody b w p1 p2 p3 p4 p5 k5) scope cl pm cv ctv) ⟨[u], []⟩ = pure [(b, u)]) (hdef : defaultsOf params X.env = ([], [])) :
    PE X (.Call (.Name "sorted" p) [e0] [⟨some "key", .Lambda params (lamBody b w p1 p2 p3 p4 p5 k5) scope lpos, kp⟩] pos) (rd (gx X cl) W (ev Phi (.srtk (.var i) (.var iw)))) := by
  obtain ⟨c, P, l1, l2, l3, l4⟩ := lam
  refine ⟨fun pins s σ H Q I q => ?_⟩
  obtain ⟨Kp, l, st, R, f⟩ := q
  -- the slots
  have key : ∃ nn ww : Int, st.env[i]? = some (some (.val (.int nn))) ∧ st.env[iw]? = some (some (.val (.int ww))) ∧ 0 ≤ nn ∧ nn ≤ 1000 ∧ 0 < ww ∧ ww ≤ 1000 ∧ Fin X.K cl W Kp σ H l (.ok (EV.own ((srtL ww.toNat nn.toNat).map .int)) st) fun r st' H' l' => ∀ v, RvR X.K Kp σ H' l' st' r v → Q v H' := by
    have f : Fin X.K cl W Kp σ H l ((getv i st).bnd fun x => bnd (getv iw) fun y => ofO ((asI x.d).bind fun i => (asI y.d).bind fun j => srtK i j)) _ := f
    unfold getv at f
    split at f
    · rename_i d e1
      simp only [Out.bnd_ok, bnd_at] at f
      split at f
      · rename_i d2 e2
        simp only [Out.bnd_ok] at f
        cases d <;> try exact (show False from f).elim
        cases d2 <;> try exact (show False from f).elim
        rename_i nn ww
        unfold srtK at f
        simp only [d_val', asI, Option.bind_some] at f
        split at f
        · rename_i c
          exact ⟨nn, ww, e1, e2, c.1, c.2.1, c.2.2.1, c.2.2.2, f⟩
        · exact (show False from f).elim
      · simp only [Out.bnd_ok] at f
        cases d <;> exact (show False from f).elim
      · exact (show False from f).elim
    · rename_i xs e1
      simp only [Out.bnd_ok, bnd_at] at f
      split at f <;> exact (show False from f).elim
    · exact (show False from f).elim
  obtain ⟨nn, ww, s1, s2, n0, n1, w0, w1, f⟩ := key
  have hw : σ[iw]? = some (some (.int ww)) := by
    obtain ⟨v, h1, h2⟩ := R.slots iw _ s2
    rw [h1, show v = V.int ww from h2]
  refine wpAny_Call_Name_kw (ld_blt I hg (hm _ (by decide +kernel)) boot_sorted ?_)
  have ha : PA X [e0] (tCons (rd (gx X cl) W (ev Phi (.rngv false (.rng1 (.var i))))) tNil) := pa_cons he pa_nil (star_cons hn)
  refine callWith_kw (thn (ha.run pos pins s σ H (fun vs H1 => ∃ (l1 : List Addr) (p : Addr), vs = [.ref p] ∧ H1 p = some (.lst ((List.range nn.toNat).map fun (j : Nat) => V.int j)) ∧ Rel X.K Kp σ H1 l1 st ∧ Per H H1 ∧ l <+: l1) I ⟨Kp, l, st, R, ?_⟩) fun us s1 ⟨vs, H1, I1, r1, la, pp, ev, hp, R1, pe1, pl1⟩ => ?_) ((congrArg (backTo pos) (star_cons hn)).trans rfl) (star_back (by simpa using hn)) rfl rfl
  · have ee : ev Phi (.rngv false (.rng1 (.var i))) st = .ok (.own (rangeL 0 nn.toNat)) st := by
      show ((getv i st).bnd fun x => ofO ((asI x.d).bind fun j => if ok62 j then some (rangeL 0 j.toNat) else none)).bnd (fun xs => if xs.length ≤ lim then ret (if false then EV.val (.tup xs) else EV.own xs) else fail) = _
      unfold getv
      rw [s1]
      have h62 : ok62 nn = true := by
        unfold ok62
        rw [Bool.and_eq_true, decide_eq_true_eq, decide_eq_true_eq]
        omega
      simp only [Out.bnd_ok, d_val', asI, Option.bind_some, h62, if_true, ofO]
      show (if (rangeL 0 nn.toNat).length ≤ lim then ret (EV.own (rangeL 0 nn.toNat)) else fail) st = _
      rw [if_pos (by rw [rangeL_len]; show nn.toNat ≤ 16777216; omega)]
      rfl
    rw [ee]
    intro H1 l1 R1 pe1 pl1 v hv
    obtain ⟨pp, vs, rfl, h1, h2, _⟩ := hv
    refine ⟨l1, pp, rfl, ?_, R1, pe1, pl1⟩
    rw [h1, h2.ints (intsL_rangeL _ _), List.map_map]
    congr 3
    funext j
    show V.int (0 + (j : Int)) = V.int (j : Int)
    rw [Int.zero_add]
  · subst ev
    obtain rfl := Vals.ref1 r1
    show wpAny _ _ (evalAll ((do let v ← eval (.Lambda params (lamBody b w p1 p2 p3 p4 p5 k5) scope lpos) X.env; standAt pos; pure v) :: [])) _ _ s1
    have hT : LamX.Tabs [(P, X.env.qual ++ "<lambda>")] H1 := fun p hp => by
      have : p = (P, X.env.qual ++ "<lambda>") := by simpa using hp
      rw [this]
      exact R1.tb _ _ l3
    refine wpAny_evalAll_cons (wpAny_bind (LamX.lam_make2 (T := [(P, X.env.qual ++ "<lambda>")]) I1 l2 l1 (by simp) (fun p hp _ => by
      have : p = (P, X.env.qual ++ "<lambda>") := by simpa using hp
      rw [this]) hT hdef (fun y hy e => I.ok.has _ (by rw [Ls.free y hy e]; exact Ls.vw)) fun fa c' pm ctv H2 s2 I2 eN T2 hf hfn hfr hco => wpAny_bind (wpAny_standAt (wpAny_pure (wpAny_evalAll_nil ?_)))))
    show wpAny _ _ (call (.builtin "sorted") [.ref pp] [(Str.ofString "key", .ref fa)]) _ _ _
    obtain ⟨hz, its, c0, rv, hl⟩ := I2.hok pp _ (eN _ _ hp fun _ z => (by cases z))
    have hev : PySem.W.EachIs (fun v (z : Int) => RelV (.int z) v) its ((List.range nn.toNat).map Int.ofNat) := vals_each (by rw [List.map_map]; exact rv)
    have hlen : ((List.range nn.toNat).map Int.ofNat).length = nn.toNat := by simp
    refine PySem.W.sorted_key_data (b := false) (keyP ww) (vs := its) ⟨_, hl, rfl, _, rfl⟩ hev (PySem.W.AllAlike.of fun _ _ => rfl) (PySem.W.Sortable.tuples fun z => ⟨_, _, rfl⟩) (by rw [hlen, sizeLine_eq]; omega)
      (fun z _ => by have : (keyP ww z).depth = 1 := rfl; rw [this]; omega) (ksk_s1 _ _) (fun _ => ksk_l1 _ _) (fun x => ksk_t1 fa x) (fun v z hv _ h tk kp => ?_) fun out c h' tk kp fr ho hol hout => ?_
    · have I3 : Inv X pins σ H2 { s2 with heap := h, toks := tk } := I2.kept kp
      exact lam_key I3 Ls (kp _ _ hf) hco hN hw w0 hd hb hv
    · rw [keyP_le, srtL_le w0] at hout
      have hv := each_vals hout
      have hlv : ((srtL ww.toNat nn.toNat).map V.int).length ≤ sizeLine := by
        rw [List.length_map, ← hout.length, hol, hlen, sizeLine_eq]
        omega
      have hn2 : H2 (s2.heap.objs.size + 1) = none := I2.hok.fresh (Nat.le_succ _)
      have R2 : Rel X.K Kp σ H2 la st := R1.extN (fun a o e n => eN a o e n) (per_ext eN) (tq_tabs l4 T2)
      have hR := R2.ownNew (xs := (srtL ww.toNat nn.toNat).map .int) (vs := (srtL ww.toNat nn.toNat).map V.int) hn2 (reps_ints _)
      exact ⟨.ref _, _, I2.laid (t' := tk) kp (Nat.le_succ _) (show ObjOk X.prog X.w _ _ _ (.lst ((srtL ww.toNat nn.toNat).map V.int)) from ⟨hlv, out, c, hv, ho⟩), rfl, f _ la (R2.new hn2) (pe1.trans ((per_ext eN).trans (.new hn2))) pl1 _ hR⟩
end
end Dm

set_option Elab.async false
set_option linter.all false
set_option maxRecDepth 100000
set_option maxHeartbeats 4000000
set_option autoImplicit false
/-! DmC: instances of the text's classes; dicts. -/
namespace Dm
open PySem PySem.Spec PyProof.Rows L2

/-- an instance or a dict -/
def InsD (o : HO) : Prop := (∃ C dx fs, o = .ins C dx fs) ∨ ∃ kvs, o = .dK kvs
theorem Per.wr {H : Hp} {p : Addr} {o o' : HO} (h : H p = some o) (n : InsD o) : Per H (upd H p o') := by
  refine ⟨fun a ob u e => ?_, fun a xs e => ?_⟩
  all_goals
    rw [upd_ne]
    · exact e
    · intro z
      rw [z, h] at e
      rcases n with ⟨C, dx, fs, rfl⟩ | ⟨kvs, rfl⟩ <;> cases e
theorem tabS_wr {H : Hp} {p : Addr} {o o' : HO} {P : Addr} {q : Str} (t : LamX.TabS H P q) (h : H p = some o) (n : InsD o) : LamX.TabS (upd H p o') P q := by
  have st : ∀ a u, H a = some u → (¬ InsD u) → upd H p o' a = some u := fun a u e nu => by
    rw [upd_ne]
    · exact e
    · intro z
      rw [z, h] at e
      cases e
      exact nu n
  obtain ⟨ps, h1, h2, h3⟩ := t
  refine ⟨ps, st _ _ h1 ?_, h2, fun pos cv hc => ?_⟩
  · rintro (⟨_, _, _, e⟩ | ⟨_, e⟩) <;> cases e
  · obtain ⟨c, e1, e2⟩ := h3 pos cv hc
    refine ⟨c, e1, st _ _ e2 ?_⟩
    rintro (⟨_, _, _, e⟩ | ⟨_, e⟩) <;> cases e
section
variable {K : PySem.W.Frag} {Kp : Hp} {σ : Sl} {H : Hp} {l : List Addr} {st : Sta} {p : Addr} {o o' : HO}
/-- a new cell -/
theorem Rel.addc (R : Rel K Kp σ H l st) (hp : H p = none) {c : Cell} (hc : CellRep K (upd H p o) (l ++ [p]) p c) : Rel K Kp σ (upd H p o) (l ++ [p]) { st with mem := st.mem ++ [c] } := by
  have pre : l <+: l ++ [p] := List.prefix_append _ _
  have R1 := R.new (o := o) hp
  exact {
    ln := R.ln
    nd := by
      rw [List.nodup_append]
      refine ⟨R.nd, by simp, fun a m b hb e => ?_⟩
      obtain rfl : b = p := by simpa using hb
      exact R.nmem hp (e ▸ m)
    ml := by simp [R.ml]
    tr := fun a m => by
      rcases List.mem_append.mp m with m | m
      · exact R1.tr a m
      · obtain rfl : a = p := by simpa using m
        exact ⟨_, upd_same⟩
    kp := R1.kp
    kc := fun a m => by
      rcases List.mem_append.mp m with m | m
      · exact R.kc a m
      · obtain rfl : a = p := by simpa using m
        exact R.kp_none hp
    kt := R.kt
    tb := R1.tb
    cells := fun n a d e1 e2 => by
      by_cases hn : n < l.length
      · rw [List.getElem?_append_left hn] at e1
        rw [List.getElem?_append_left (by rw [← R.ml]; exact hn)] at e2
        exact (R1.cells n a d e1 e2).mono .refl pre fun _ e _ => e
      · have hn' : n < (l ++ [p]).length := (List.getElem?_eq_some_iff.mp e1).1
        obtain rfl : n = l.length := by
          rw [List.length_append, List.length_singleton] at hn'
          omega
        rw [R.ml] at e2
        simp at e1 e2
        subst e1 e2
        exact hc
    slots := fun j e hj => by
      have q := R1.slots j e hj
      cases e with
      | val d =>
        obtain ⟨w, g1, g2⟩ := q
        exact ⟨w, g1, g2.mono .refl pre⟩
      | own zs =>
        obtain ⟨q, us, g1, g2, g3⟩ := q
        exact ⟨q, us, g1, g2, g3.mono .refl pre⟩
    own := fun j zs q hj hq => by
      obtain ⟨g1, g2⟩ := R.own j zs q hj hq
      refine ⟨g1, fun m => ?_⟩
      rcases List.mem_append.mp m with m | m
      · exact g2 m
      · obtain rfl : q = p := by simpa using m
        exact R.nown hp j zs hj hq
    dist := R.dist }
/-- an instance or a dict is written -/
theorem Rel.wcl (R : Rel K Kp σ H l st) {n : Nat} {c : Cell} (h : l[n]? = some p) (h2 : H p = some o) (i : InsD o) (hc : CellRep K (upd H p o') l p c) :
    Rel K Kp σ (upd H p o') l { st with mem := st.mem.set n c } := by
  have pe : Per H (upd H p o') := .wr h2 i
  have hm := List.mem_of_getElem? h
  have nol : ∀ vs, o ≠ .lst vs := fun vs e => by
    rw [e] at i
    rcases i with ⟨_, _, _, z⟩ | ⟨_, z⟩ <;> cases z
  exact {
    ln := R.ln
    nd := R.nd
    ml := by rw [List.length_set]; exact R.ml
    tr := fun a m => by
      by_cases e : a = p
      · exact ⟨_, by rw [e]; exact upd_same⟩
      · obtain ⟨u, e2⟩ := R.tr a m
        exact ⟨u, by rw [upd_ne e]; exact e2⟩
    kp := fun q u e => by
      rw [upd_ne (fun z => by rw [z, R.kc p hm] at e; cases e)]
      exact R.kp q u e
    kc := R.kc
    kt := R.kt
    tb := fun P q t => tabS_wr (R.tb P q t) h2 i
    cells := fun j a d e1 e2 => by
      rcases set_get e2 with ⟨e3, e4⟩ | ⟨e3, e4⟩
      · subst e3 e4
        rw [h] at e1
        cases e1
        exact hc
      · have ne : a ≠ p := fun z => by
          subst z
          obtain ⟨n1, n2⟩ := List.getElem?_eq_some_iff.mp h
          obtain ⟨j1, j2⟩ := List.getElem?_eq_some_iff.mp e1
          exact e3 ((List.getElem_inj R.nd).mp (n2.trans j2.symm))
        exact (R.cells j a d e1 e4).mono pe (List.prefix_refl _) fun u e _ => by rw [upd_ne ne]; exact e
    slots := fun j e hj => by
      have q := R.slots j e hj
      cases e with
      | val d =>
        obtain ⟨w, g1, g2⟩ := q
        exact ⟨w, g1, g2.mono pe (List.prefix_refl _)⟩
      | own zs =>
        obtain ⟨q, us, g1, g2, g3⟩ := q
        refine ⟨q, us, g1, ?_, g3.mono pe (List.prefix_refl _)⟩
        rw [upd_ne fun z => ?_]
        · exact g2
        · rw [z, h2] at g2
          exact nol _ (Option.some.inj g2)
    own := R.own
    dist := R.dist }
end
/-! ### fields -/
section
variable {K : PySem.W.Frag} {H : Hp} {l : List Addr}
theorem get_none {α β : Type} : ∀ {fs : List (Str × α)} {gs : List (Str × β)} {f : Str}, gs.map (·.1) = fs.map (·.1) → (fs.lookup f).isNone = true → gs.lookup f = none
  | [], [], _, _, _ => rfl
  | [], _ :: _, _, e, _ => by simp at e
  | _ :: _, [], _, e, _ => by simp at e
  | (a, x) :: fs, (b, y) :: gs, f, e, h => by
    rw [List.map_cons, List.map_cons] at e
    injection e with e1 e2
    dsimp only at e1
    subst e1
    rw [List.lookup_cons] at h ⊢
    cases hb : f == b with
    | true => rw [hb] at h; cases h
    | false =>
      rw [hb] at h
      exact get_none e2 h
theorem fld_get : ∀ {fs : List (Str × D)} {gs : List (Str × V)} {f : Str} {d : D}, gs.map (·.1) = fs.map (·.1) → Reps K H l (fs.map (·.2)) (gs.map (·.2)) → fs.lookup f = some d → ∃ v, gs.lookup f = some v ∧ Rep K H l d v
  | [], _, _, _, _, _, h => by cases h
  | _ :: _, [], _, _, e, _, _ => by simp at e
  | (a, x) :: fs, (b, y) :: gs, f, d, e, r, h => by
    rw [List.map_cons, List.map_cons] at e
    injection e with e1 e2
    dsimp only at e1
    subst e1
    obtain ⟨v, w, e3, r1, r2⟩ := r
    injection e3 with e4 e5
    dsimp only at e4
    subst e4 e5
    rw [List.lookup_cons] at h ⊢
    cases hb : f == b with
    | true =>
      rw [hb] at h
      cases h
      exact ⟨y, rfl, r1⟩
    | false =>
      rw [hb] at h
      exact fld_get e2 r2 h
theorem fld_put : ∀ {fs : List (Str × D)} {gs : List (Str × V)} {f : Str} {d : D} {v : V}, gs.map (·.1) = fs.map (·.1) → Reps K H l (fs.map (·.2)) (gs.map (·.2)) → Rep K H l d v →
    (putF f v gs).map (·.1) = (putD f d fs).map (·.1) ∧ Reps K H l ((putD f d fs).map (·.2)) ((putF f v gs).map (·.2))
  | [], [], f, d, v, _, _, r => ⟨rfl, .cons r .nil⟩
  | [], _ :: _, _, _, _, e, _, _ => by simp at e
  | _ :: _, [], _, _, _, e, _, _ => by simp at e
  | (a, x) :: fs, (b, y) :: gs, f, d, v, e, r, q => by
    rw [List.map_cons, List.map_cons] at e
    injection e with e1 e2
    dsimp only at e1
    subst e1
    obtain ⟨w, ws, e3, r1, r2⟩ := r
    injection e3 with e4 e5
    dsimp only at e4
    subst e4 e5
    unfold putF putD
    by_cases hb : b = f
    · rw [if_pos hb, if_pos hb]
      exact ⟨by rw [List.map_cons, List.map_cons, e2], .cons q r2⟩
    · rw [if_neg hb, if_neg hb]
      obtain ⟨z1, z2⟩ := fld_put (f := f) e2 r2 q
      exact ⟨by rw [List.map_cons, List.map_cons, z1], .cons r1 z2⟩
theorem len_keys {α β γ : Type} {fs : List (γ × α)} {gs : List (γ × β)} (h : gs.map (·.1) = fs.map (·.1)) : gs.length = fs.length := by
  have := congrArg List.length h
  simpa using this
end
theorem lookup_in {α : Type} : ∀ {xs : List (Nat × α)} {f : Nat} {d : α}, xs.lookup f = some d → (f, d) ∈ xs
  | [], _, _, h => by cases h
  | (g, e) :: xs, f, d, h => by
    rw [List.lookup_cons] at h
    split at h
    · rename_i c
      cases h
      rw [beq_iff_eq] at c
      subst c
      simp
    · exact List.mem_cons_of_mem _ (lookup_in h)
section
variable {X : Cx} {cl : Nat → Addr} {W : WX} {m : Mx} {k : Nat} {Phi : Fns} {e o : Expr} {es : List Expr} {f : Str} {pos apos cpos : Pos} {ca co : C EV} {cs : C (List D)}
/-- e.f -/
theorem pe_fldC {ks : List Nat} (ha : PE X e (rd (gx X cl) W ca)) (hb : noCall0 e = true) (hk : ∀ c ∈ ks, Cls X.K (csA X.K c) ∧ NoAttr X.K (csA X.K c) f) :
    PE X (.Attribute e f pos) (rd (gx X cl) W (bnd ca fun x => lift fun m => (fldD ks m x.d f).map .val)) := by
  refine PE.imp (pe_fld (pe_rz ha) (no_base hb)) fun σ H Q q => ?_
  obtain ⟨Kp, l, st, R, g⟩ := q
  refine ⟨Kp, l, st, R, (Fin.bnd g).imp fun x st1 H1 l1 R1 _ _ g1 v hv => ?_⟩
  obtain ⟨r, er, hF⟩ := fin_lift g1
  obtain ⟨d, ed, rfl⟩ := Option.map_eq_some_iff.mp er
  unfold fldD at ed
  split at ed
  · rename_i n hx
    rw [hx] at hv
    obtain ⟨a, rfl, hn⟩ := hv
    split at ed
    · rename_i c fs hm
      split at ed
      · rename_i hc
        obtain ⟨dx, gs, h1, h2, h3⟩ := R1.cells n a _ hn hm
        obtain ⟨w, e1, e2⟩ := fld_get h2 h3 ed
        obtain ⟨z1, z2⟩ := hk c (by simpa using hc)
        exact ⟨a, _, dx, gs, w, rfl, h1, z1, z2, e1, hF H1 l1 R1 .refl (List.prefix_refl _) w e2⟩
      · cases ed
    · cases ed
  · cases ed
theorem met_tree (hb : noCall0 o = true) (hk : omOk es apos cpos = true) : eval (.Call (.Attribute o f apos) es [] cpos) X.env = (do
    let ov ← eval o X.env
    standAt apos.atName
    let (g, first) ← holding [ov] (getMethod ov f (plainOf o X.env))
    callWith cpos g first (backTo cpos (starEach es X.env)) (backToKw cpos (keywordEach [] X.env))) := by
  unfold omOk at hk
  simp only [Bool.and_eq_true, decide_eq_true_eq] at hk
  obtain ⟨⟨k1, k2⟩, k3⟩ := hk
  rw [arm_eval_Call, no_base hb]
  congr 1
  funext ov
  congr 1
  funext _
  exact mcall_line (few_ok k1 k2) k3
/-- the call of an instance's method -/
theorem pe_metC (c : Cxt X m W cl k Phi) {tab : List (Nat × Nat)} {n : Nat} (hm : ∀ p ∈ tab, m.mt p.2 = some (p.1, f, n)) (ho : PE X o (rd (gx X cl) W co)) (ha : PA X es (ra (gx X cl) W cs)) (hb : noCall0 o = true) (hk : omOk es apos cpos = true)
    (h0 : es = [] → cs = ret []) (hlen : ∀ st ds st', cs st = .ok ds st' → ds.length + 1 = n) :
    PE X (.Call (.Attribute o f apos) es [] cpos) (rd (gx X cl) W (bnd co fun x => bnd (insC f tab x.d) fun g => bnd cs fun ds => callC Phi g (x.d :: ds))) := by
  refine ⟨fun pins s σ H Q I q => ?_⟩
  obtain ⟨Kp, l, st, R, g⟩ := q
  refine PySem.W.methodCall_KW (pl := plainOf o X.env) (thn ((pe_rz ho).run pins s σ H (fun x H1 => ∃ a C dx gs fa fd ps fn, x = .ref a ∧ H1 a = some (.ins C dx gs) ∧ Cls X.K C ∧ Meth X.K C f fa ∧ gs.lookup f = none ∧ Binds X.K fd ps [] ∧
      FnG X.prog X.w X.K X.mg X.base (2 * k) fa fd ps (spOf X.K cl ps.length (Phi fn)) ∧ ra (gx X cl) W cs σ H1 fun vs H2 => spOf X.K cl ps.length (Phi fn) (x :: vs) H2 Q (WE W σ)) I
      ⟨Kp, l, st, R, (Fin.bnd g).imp fun x st1 H1 l1 R1 _ _ g1 v hv => ?_⟩) fun u s1 ⟨v, H1, I1, rv, a, C, dx, gs, fa, fd, ps, fn, ev, ea, hC, hM, hl, hB, F, q⟩ => ?_) (met_tree hb hk)
  · have g1 := Fin.bnd g1
    unfold insC at g1
    split at g1
    · rename_i n' hx
      rw [hx] at hv
      obtain ⟨a, rfl, hn⟩ := hv
      split at g1
      · rename_i c0 fs hmem
        split at g1
        · rename_i hnone
          split at g1
          · rename_i fn hfn
            have g2 := g1.ok R1
            obtain ⟨fa, fd, ps, hps, hC, hM, _, hB, F⟩ := c.mts fn c0 f n (hm _ (lookup_in hfn))
            obtain ⟨dx, gs, h1, h2, h3⟩ := R1.cells n' a _ hn hmem
            refine ⟨a, _, dx, gs, fa, fd, ps, fn, rfl, h1, hC, hM, get_none h2 hnone, hB, F, Kp, l1, st1, R1, ?_⟩
            cases ec : cs st1 with
            | err => simp only [bnd_at, ec, Out.bnd_err] at g2; exact (show False from g2).elim
            | exc x s1 => simp only [bnd_at, ec, Out.bnd_exc] at g2; exact g2
            | ok ds st2 =>
              simp only [bnd_at, ec, Out.bnd_ok] at g2
              intro H2 l2 R2 p2 q2 vs hvs
              refine ⟨by rw [List.length_cons, hvs.len, hlen st1 ds st2 ec, hps], x.d :: ds, st2.mem, l2, .cons (by rw [hx]; exact ⟨a, rfl, pre_get q2 hn⟩) hvs, R2.mem, ?_⟩
              unfold callC at g2
              split at g2
              · rename_i r m' er
                try rw [er]
                intro v H' l' pe hl M Ke rv
                have R3 := R2.callee pe hl M Ke
                refine g2 H' l' R3 (p2.trans pe) (q2.trans hl) v ?_
                cases r with
                | val d => exact rv
                | own xs =>
                  obtain ⟨q, vs', e1, e2, e3, e4, e5⟩ := rv
                  exact ⟨q, vs', e1, e2, e3, R2.kp_noneT e4, e5, R2.nownT e4⟩
              · rename_i x m' er
                try rw [er]
                intro cls d H' l' pe hl M Ke xr
                exact g2 cls d H' l' (R2.callee pe hl M Ke) (p2.trans pe) (q2.trans hl) xr
              · exact (show False from g2).elim
          · exact (show False from g1).elim
        · exact (show False from g1).elim
      · exact (show False from g1).elim
    · exact (show False from g1).elim
  · subst ev
    obtain rfl : u = Value.ref a := rv
    refine getmeth_ok I1 ea hC hM hl ?_
    have hr : Room (2 * k) X.A := c.room.mono (by omega)
    have hk' := hk
    unfold omOk at hk'
    simp only [Bool.and_eq_true, decide_eq_true_eq] at hk'
    cases es with
    | nil =>
      refine PySem.W.callWith_K0 (first := [.ref a]) I1.kIn hM.kp ?_
      rw [h0 rfl] at q
      obtain ⟨Kp2, l2, st2, R2, g2⟩ := q
      exact run_fnG (E := WE W σ) (us := [.ref a]) (vs := [.ref a]) F c.gd hr hB (passAt c.tk σ) I1 (.cons rfl .nil) (g2 H1 l2 R2 .refl (List.prefix_refl _) [] rfl)
    | cons e1 es =>
      have k1 := hk'.1.1
      rw [List.all_cons, Bool.and_eq_true] at k1
      refine PySem.W.callWith_K (first := [.ref a]) (h₀ := X.base) I.ok.mod.kin hM.kp (thn (ha.run cpos pins s1 σ H1 _ I1 q) fun us s2 ⟨vs, H2, I2, r, q2⟩ => ⟨I2.kIn, ?_⟩) (star_cons k1.1) (star_back k1.2)
      exact run_fnG (E := WE W σ) (us := .ref a :: us) (vs := .ref a :: vs) F c.gd hr hB (passAt c.tk σ) I2 (.cons rfl r) q2
/-- C(..) runs -/
theorem run_mkS {pins : List (Addr × Obj)} {σ : Sl} {H : Hp} {s : Shared} {Q : VK} {C fa : Addr} {fd : FuncData} {ps : List Str} {sp : Sp} {E : XK} {us : List Value} {vs : List V} {j : Nat} (M : Mk X.K C fa)
    (F : FnG X.prog X.w X.K X.mg X.base j fa fd ps sp) (gd : X.A.guards = some []) (hr : Room (j + 1) X.A) (hb : Binds X.K fd ps []) (hx : PassesAt (L2.CX X.prog X.w) X σ E) (I : Inv X pins σ H s) (r : Vals vs us)
    (h : ∀ q dx, H q = none → H dx = none → dx ≠ q → sp (.ref q :: vs) (upd (upd H dx (.own q)) q (.ins C dx [])) (fun v H2 => v = .non ∧ Q (.ref q) H2) E) :
    wpAny (model X.prog X.w) X.A (call (.ref C) us) (EP X pins σ Q) X.xe s := by
  have lt := Nat.lt_succ_self s.heap.objs.size
  have wish := h (s.heap.objs.size + 1) s.heap.objs.size (I.hok.fresh (Nat.le_of_lt lt)) (I.hok.fresh (Nat.le_refl _)) (Nat.ne_of_lt lt)
  have J := Inv.made (C := C) I
  have rr : Vals (V.ref (s.heap.objs.size + 1) :: vs) (Value.ref (s.heap.objs.size + 1) :: us) := .cons rfl r
  have hl : (Value.ref (s.heap.objs.size + 1) :: us).length = ps.length := rr.length.symm.trans (F.len _ _ _ _ wish)
  have b := hb _ (Value.ref (s.heap.objs.size + 1) :: us) J.kIn (by rw [List.append_nil]; exact hl)
  rw [List.append_nil] at b
  refine wpAny_call (make_map (f := fa) I.kIn M.makes M.init (beq_iff_eq.mp M.fn) (codeAny_mono (F.go _ X.stack _ _ ⟨Value.ref (s.heap.objs.size + 1) :: us, []⟩ _ _ _ E (make_guards gd) (hr.make C us []) (J.env0.make C us []) b rr wish) fun res s' hq => ?_))
  cases res with
  | error e => exact hx pins _ _ e s' J hq
  | ok fl =>
    cases fl with
    | ret u =>
      obtain ⟨v, H', J', rv, rfl, q⟩ := J.after hq
      exact ⟨rv, .ref (s.heap.objs.size + 1), H', J', rfl, q⟩
    | next => exact hq.elim
    | brk => exact hq.elim
    | cont => exact hq.elim
theorem clsN_dbg {c : Nat} (h : c < 4) : (csN c == ("__debug__" : Str)) = false := by
  have : c = 0 ∨ c = 1 ∨ c = 2 ∨ c = 3 := by omega
  rcases this with rfl | rfl | rfl | rfl <;> decide +kernel
/-- C(e, ..) -/
theorem pe_mkC (c : Cxt X m W cl k Phi) {ci fn n : Nat} {p : Pos} (hm : m.mt fn = some (ci, ("__init__" : Str), n)) (hc : ci < 4) (hg : Gl X (csN ci)) (ha : PA X (e :: es) (ra (gx X cl) W cs)) (hn : (e :: es).all noStar = true)
    (hlen : ∀ st ds st', cs st = .ok ds st' → ds.length + 1 = n) : PE X (.Call (.Name (csN ci) p) (e :: es) [] cpos) (rd (gx X cl) W (bnd cs fun ds => mkC Phi ci fn ds)) := by
  obtain ⟨fa, fd, ps, hps, hC, hM, hI, hB, F⟩ := c.mts fn ci _ n hm
  obtain ⟨M, hmg⟩ := hI rfl
  rw [List.all_cons, Bool.and_eq_true] at hn
  refine ⟨fun pins s σ H Q I q => ?_⟩
  obtain ⟨Kp, l, st, R, g⟩ := q
  refine wpAny_Call_Name_kw (ld_glob I hg hmg ?_ (clsN_dbg hc))
  refine PySem.W.callWith_K (h₀ := X.base) I.ok.mod.kin M.kp (thn (ha.run cpos pins s σ H (fun vs H1 => ∀ q dx, H1 q = none → H1 dx = none → dx ≠ q →
      spOf X.K cl ps.length (Phi fn) (.ref q :: vs) (upd (upd H1 dx (.own q)) q (.ins (csA X.K ci) dx [])) (fun v H2 => v = .non ∧ Q (.ref q) H2) (WE W σ)) I ⟨Kp, l, st, R, ?_⟩) fun us s1 ⟨vs, H1, I1, r, q⟩ => ⟨I1.kIn, ?_⟩) (star_cons hn.1) (star_back hn.2)
  · cases ec : cs st with
    | err => simp only [bnd_at, ec, Out.bnd_err] at g; exact (show False from g).elim
    | exc x s1 => simp only [bnd_at, ec, Out.bnd_exc] at g; exact g
    | ok ds st1 =>
      simp only [bnd_at, ec, Out.bnd_ok] at g
      intro H1 l1 R1 p1 q1 vs hvs q dx hq hdx hne
      have R2 := R1.new (o := .own q) hdx
      have hq2 : upd H1 dx (.own q) q = none := by rw [upd_ne (Ne.symm hne)]; exact hq
      have R3 := R2.addc (o := .ins (csA X.K ci) dx []) (c := .ins ci []) hq2 ⟨dx, [], upd_same, rfl, .nil⟩
      have pe3 : Per H1 (upd (upd H1 dx (.own q)) q (.ins (csA X.K ci) dx [])) := (Per.new hdx).trans (.new hq2)
      have pre : l1 <+: l1 ++ [q] := List.prefix_append _ _
      refine ⟨by rw [List.length_cons, hvs.len, hlen st ds st1 ec, hps], .cel st1.mem.length :: ds, st1.mem ++ [.ins ci []], l1 ++ [q], .cons ⟨q, rfl, by rw [← R1.ml]; simp⟩ (hvs.mono pe3 pre), R3.mem, ?_⟩
      unfold mkC at g
      split at g
      · rename_i m' er
        try rw [er]
        intro v H' l' pe hl Mm Ke rv
        refine ⟨rv, ?_⟩
        have hm0 : (l1 ++ [q])[st1.mem.length]? = some q := by rw [← R1.ml]; simp
        exact g H' l' (R3.callee pe hl Mm Ke) (p1.trans (pe3.trans pe)) (q1.trans (pre.trans hl)) _ ⟨q, rfl, pre_get hl hm0⟩
      · rename_i x m' er
        try rw [er]
        intro cls d H' l' pe hl Mm Ke xr
        exact g cls d H' l' (R3.callee pe hl Mm Ke) (p1.trans (pe3.trans pe)) (q1.trans (pre.trans hl)) xr
      · exact (show False from g).elim
  · exact run_mkS M F c.gd (c.room.mono (by omega)) hB (passAt c.tk σ) I1 r q
/-- o.f = e -/
theorem ps_fstC {ks : List Nat} {pos' : Pos} {ce : C EV} (he : PE X e (rd (gx X cl) W ce)) (ho : PE X o (rd (gx X cl) W co)) (hs : swapsWith e (some (.Attribute o f pos')) pos.line X.env = pure false) (hk : ∀ c ∈ ks, Cls X.K (csA X.K c) ∧ NoAttr X.K (csA X.K c) f) :
    PS X (.Assign [.Attribute o f pos'] e pos) (rs (gx X cl) W (bnd ce fun x => bnd co fun y => bnd (fsetC ks y.d f x.d) fun _ => ret .nx)) := by
  refine PS.imp (ps_fld (pe_rz ho) (pe_rz he) hs) fun D σ H q => ?_
  obtain ⟨Kp, l, st, R, g⟩ := q
  refine ⟨Kp, l, st, R, (FinS.bndE g).imp fun x st1 H1 l1 R1 p1 q1 g1 v hv => ⟨Kp, l1, st1, R1, (FinS.bndE g1).imp fun y st2 H2 l2 R2 p2 q2 g2 w hw => ?_⟩⟩
  have g3 := FinS.bnd g2
  unfold fsetC at g3
  split at g3
  · rename_i n hy
    rw [hy] at hw
    obtain ⟨a, rfl, hn⟩ := hw
    split at g3
    · rename_i c fs hm
      split at g3
      · rename_i hc
        obtain ⟨dx, gs, h1, h2, h3⟩ := R2.cells n a _ hn hm
        obtain ⟨z1, z2⟩ := hk c (by simpa using hc.1)
        refine ⟨a, _, dx, gs, rfl, h1, z1, z2, by rw [len_keys h2]; exact hc.2, ?_⟩
        have i : InsD (.ins (csA X.K c) dx gs) := .inl ⟨_, _, _, rfl⟩
        have pe : Per H2 (upd H2 a (.ins (csA X.K c) dx (putF f v gs))) := .wr h1 i
        obtain ⟨y1, y2⟩ := fld_put (f := f) h2 h3 (hv.mono p2 q2)
        have R3 := R2.wcl (o' := .ins (csA X.K c) dx (putF f v gs)) (c := .ins c (putD f x.d fs)) hn h1 i ⟨dx, _, upd_same, y1, y2.mono pe (List.prefix_refl _)⟩
        exact g3 σ _ l2 R3 pe (List.prefix_refl _) σ _ l2 R3 .refl (List.prefix_refl _)
      · exact (show False from g3).elim
    · exact (show False from g3).elim
  · exact (show False from g3).elim
end
/-! ### dicts -/
section
variable {K : PySem.W.Frag} {H : Hp} {l : List Addr}
theorem key_rep {d : D} {v : V} {k : Key} (r : Rep K H l d v) (h : keyD d = some k) : v = kV k := by
  cases d <;> first | cases h; done | skip
  · cases h
    exact r
  · cases h
    exact r
theorem getK_none : ∀ {kvs : List (Key × D)} {ws : List (Key × V)} {k : Key}, ws.map (·.1) = kvs.map (·.1) → getK kvs k = none → valV ws k = none
  | [], [], _, _, _ => rfl
  | [], _ :: _, _, e, _ => by simp at e
  | _ :: _, [], _, e, _ => by simp at e
  | (a, x) :: kvs, (b, y) :: ws, k, e, h => by
    rw [List.map_cons, List.map_cons] at e
    injection e with e1 e2
    dsimp only at e1
    subst e1
    by_cases hb : b = k
    · simp [getK, List.find?_cons, hb] at h
    · rw [valV_neg (p := (b, y)) hb]
      refine getK_none e2 ?_
      simpa [getK, List.find?_cons, hb] using h
theorem getK_some : ∀ {kvs : List (Key × D)} {ws : List (Key × V)} {k : Key} {d : D}, ws.map (·.1) = kvs.map (·.1) → Reps K H l (kvs.map (·.2)) (ws.map (·.2)) → getK kvs k = some d → ∃ v, valV ws k = some v ∧ Rep K H l d v
  | [], _, _, _, _, _, h => by simp [getK] at h
  | _ :: _, [], _, _, e, _, _ => by simp at e
  | (a, x) :: kvs, (b, y) :: ws, k, d, e, r, h => by
    rw [List.map_cons, List.map_cons] at e
    injection e with e1 e2
    dsimp only at e1
    subst e1
    obtain ⟨v, w, e3, r1, r2⟩ := r
    injection e3 with e4 e5
    dsimp only at e4
    subst e4 e5
    by_cases hb : b = k
    · refine ⟨y, valV_pos (p := (b, y)) hb, ?_⟩
      have : x = d := by simpa [getK, List.find?_cons, hb] using h
      exact this ▸ r1
    · rw [valV_neg (p := (b, y)) hb]
      refine getK_some e2 r2 ?_
      simpa [getK, List.find?_cons, hb] using h
theorem any_keys {α β : Type} : ∀ {kvs : List (Key × α)} {ws : List (Key × β)} {k : Key}, ws.map (·.1) = kvs.map (·.1) → (ws.any fun kv => decide (kv.1 = k)) = kvs.any fun kv => decide (kv.1 = k)
  | [], [], _, _ => rfl
  | [], _ :: _, _, e => by simp at e
  | _ :: _, [], _, e => by simp at e
  | (a, x) :: kvs, (b, y) :: ws, k, e => by
    rw [List.map_cons, List.map_cons] at e
    injection e with e1 e2
    dsimp only at e1
    subst e1
    rw [List.any_cons, List.any_cons, any_keys e2]
theorem putK_map {k : Key} {d : D} {v : V} : ∀ {kvs : List (Key × D)} {ws : List (Key × V)}, ws.map (·.1) = kvs.map (·.1) → Reps K H l (kvs.map (·.2)) (ws.map (·.2)) → Rep K H l d v →
    (ws.map fun kv => if kv.1 = k then (kv.1, v) else kv).map (·.1) = (kvs.map fun kv => if kv.1 = k then (kv.1, d) else kv).map (·.1) ∧ Reps K H l ((kvs.map fun kv => if kv.1 = k then (kv.1, d) else kv).map (·.2)) ((ws.map fun kv => if kv.1 = k then (kv.1, v) else kv).map (·.2))
  | [], [], _, _, _ => ⟨rfl, .nil⟩
  | [], _ :: _, e, _, _ => by simp at e
  | _ :: _, [], e, _, _ => by simp at e
  | (a, x) :: kvs, (b, y) :: ws, e, r, q => by
    rw [List.map_cons, List.map_cons] at e
    injection e with e1 e2
    dsimp only at e1
    subst e1
    obtain ⟨w, us, e3, r1, r2⟩ := r
    injection e3 with e4 e5
    dsimp only at e4
    subst e4 e5
    obtain ⟨z1, z2⟩ := putK_map (k := k) e2 r2 q
    by_cases hb : b = k
    · simp only [List.map_cons, if_pos hb]
      exact ⟨by rw [z1], .cons q z2⟩
    · simp only [List.map_cons, if_neg hb]
      exact ⟨by rw [z1], .cons r1 z2⟩
theorem putK_rep {k : Key} {d : D} {v : V} {kvs : List (Key × D)} {ws : List (Key × V)} (e : ws.map (·.1) = kvs.map (·.1)) (r : Reps K H l (kvs.map (·.2)) (ws.map (·.2))) (q : Rep K H l d v) :
    (putK ws k v).map (·.1) = (putKD kvs k d).map (·.1) ∧ Reps K H l ((putKD kvs k d).map (·.2)) ((putK ws k v).map (·.2)) := by
  unfold putK putKD
  rw [any_keys e]
  split
  · exact putK_map e r q
  · simp only [List.map_append, List.map_cons, List.map_nil]
    exact ⟨by rw [e], r.app (.cons q .nil)⟩
end
section
variable {X : Cx} {cl : Nat → Addr} {W : WX} {a b e : Expr} {pos apos cpos : Pos} {ca cb : C EV}
/-- {} -/
theorem pe_dnewC : PE X (.Dict [] [] pos) (rd (gx X cl) W dnewC) := by
  refine PE.imp pe_dnewK fun σ H Q q => ?_
  obtain ⟨Kp, l, st, R, g⟩ := q
  intro p hp
  have R1 := R.addc (o := .dK []) (c := .dct []) hp ⟨[], upd_same, rfl, .nil⟩
  exact g _ _ R1 (.new hp) (List.prefix_append _ _) _ ⟨p, rfl, by rw [← R.ml]; simp⟩
theorem dct_at {m : List Cell} {d : D} {kvs : List (Key × D)} (h : dctD m d = some kvs) : ∃ n : Nat, d = .cel n ∧ m[n]? = some (.dct kvs) := by
  unfold dctD at h
  split at h
  · rename_i n
    split at h
    · rename_i z e
      cases h
      exact ⟨n, rfl, e⟩
    · cases h
  · cases h
theorem pe_dixC (hu : X.A.units + 65 < cLine) (ha : PE X a (rd (gx X cl) W ca)) (hb : PE X b (rd (gx X cl) W cb)) (hs : noSlice b = true) :
    PE X (.Subscript a b pos) (rd (gx X cl) W (bnd ca fun x => bnd cb fun y => lift fun m => (dixD m x.d y.d).map .val)) := by
  refine PE.imp (pe_dget (by omega) (pe_rz ha) (pe_rz hb) (no_slice hs)) fun σ H Q q => ?_
  obtain ⟨Kp, l, st, R, f⟩ := q
  refine ⟨Kp, l, st, R, (Fin.bnd f).imp fun x st1 H1 l1 R1 _ _ f1 v hv => ⟨Kp, l1, st1, R1, (Fin.bnd f1).imp fun y st2 H2 l2 R2 p2 q2 f2 u hu => ?_⟩⟩
  obtain ⟨r, er, hF⟩ := fin_lift f2
  obtain ⟨d, ed, rfl⟩ := Option.map_eq_some_iff.mp er
  obtain ⟨kvs, e1, e2⟩ := Option.bind_eq_some_iff.mp ed
  obtain ⟨k, e3, e4⟩ := Option.bind_eq_some_iff.mp e2
  obtain ⟨n, hx, hm⟩ := dct_at e1
  have hv2 := hv.mono p2 q2
  rw [hx] at hv2
  obtain ⟨p, rfl, hn⟩ := hv2
  obtain ⟨ws, h1, h2, h3⟩ := R2.cells n p _ hn hm
  obtain ⟨w, g1, g2⟩ := getK_some h2 h3 e4
  refine ⟨p, w, rfl, ?_, hF H2 l2 R2 .refl (List.prefix_refl _) w g2⟩
  rw [key_rep hu e3, ← g1]
  exact .k h1
/-- k in d, k not in d, by values -/
theorem op_dinR (hu : X.A.units + 65 < cLine) (neg : Bool) : OpR X (compareOp (if neg then .NotIn else .In)) (fun x y H Q => ∃ p kvs k, y = .ref p ∧ x = kV k ∧ H p = some (.dK kvs) ∧ Q (.bl (xor neg (valV kvs k).isSome)) H) := by
  intro pins s σ H x y v u Q I rx ry h
  obtain ⟨p, kvs, k, rfl, rfl, h1, q⟩ := h
  obtain rfl : u = Value.ref p := ry
  cases neg with
  | false =>
    refine d_in (by omega) I (.k (k := k) h1) rx fun s' I' => ⟨.bl _, H, I', rfl, ?_⟩
    simpa using q
  | true =>
    refine d_notIn (by omega) I (.k (k := k) h1) rx fun s' I' => ⟨.bl _, H, I', rfl, ?_⟩
    simpa using q
theorem din_read {σ : Sl} {Kp : Hp} {H1 H2 : Hp} {l1 l2 : List Addr} {st2 : Sta} {x y : D} {v u : V} {b neg : Bool} {Q : VK} (R2 : Rel X.K Kp σ H2 l2 st2) (hv : Rep X.K H2 l2 x v) (hu : Rep X.K H2 l2 y u) (e : dinD neg st2.mem x y = some b) (q : Q (.bl b) H2) :
    ∃ p kvs k, u = .ref p ∧ v = kV k ∧ H2 p = some (.dK kvs) ∧ Q (.bl (xor neg (valV kvs k).isSome)) H2 := by
  obtain ⟨kvs, e1, e2⟩ := Option.bind_eq_some_iff.mp e
  obtain ⟨k, e3, e4⟩ := Option.map_eq_some_iff.mp e2
  obtain ⟨n, rfl, hm⟩ := dct_at e1
  obtain ⟨p, rfl, hn⟩ := hu
  obtain ⟨ws, h1, h2, h3⟩ := R2.cells n p _ hn hm
  refine ⟨p, ws, k, rfl, key_rep hv e3, h1, ?_⟩
  have : (valV ws k).isSome = (getK kvs k).isSome := by
    cases g : getK kvs k with
    | none => rw [getK_none h2 g]; rfl
    | some d =>
      obtain ⟨w, g1, _⟩ := getK_some h2 h3 g
      rw [g1]; rfl
  rw [this, e4]
  exact q
theorem pe_dinC (hu : X.A.units + 65 < cLine) (neg : Bool) (ha : PE X a (rd (gx X cl) W ca)) (hb : PE X b (rd (gx X cl) W cb)) (hm : behindInMarks (if neg then .NotIn else .In) b = false) :
    PE X (.Compare a [if neg then .NotIn else .In] [b] pos) (rd (gx X cl) W (bnd ca fun x => bnd cb fun y => lift fun m => (dinD neg m x.d y.d).map fun b => .val (.bl b))) := by
  refine PE.imp (pe_cmpR (op_dinR hu neg) (pe_rz ha) (pe_rz hb) hm) fun σ H Q q => ?_
  obtain ⟨Kp, l, st, R, f⟩ := q
  refine ⟨Kp, l, st, R, (Fin.bnd f).imp fun x st1 H1 l1 R1 _ _ f1 v hv => ⟨Kp, l1, st1, R1, (Fin.bnd f1).imp fun y st2 H2 l2 R2 p2 q2 f2 u hu => ?_⟩⟩
  obtain ⟨r, er, hF⟩ := fin_lift f2
  obtain ⟨d, ed, rfl⟩ := Option.map_eq_some_iff.mp er
  exact din_read (H1 := H1) (l1 := l1) R2 (hv.mono p2 q2) hu ed (hF H2 l2 R2 .refl (List.prefix_refl _) _ rfl)
theorem pt_dinC (hu : X.A.units + 65 < cLine) (neg : Bool) (ha : PE X a (rd (gx X cl) W ca)) (hb : PE X b (rd (gx X cl) W cb)) (hm : behindInMarks (if neg then .NotIn else .In) b = false) :
    PT X (.Compare a [if neg then .NotIn else .In] [b] pos) (rb (gx X cl) W (bnd ca fun x => bnd cb fun y => liftB fun m => dinD neg m x.d y.d)) := by
  refine PT.imp (pt_cmpR (op_dinR hu neg) (pe_rz ha) (pe_rz hb) hm) fun σ H Q q => ?_
  obtain ⟨Kp, l, st, R, f⟩ := q
  refine ⟨Kp, l, st, R, (Fin.bnd f).imp fun x st1 H1 l1 R1 _ _ f1 v hv => ⟨Kp, l1, st1, R1, (Fin.bnd f1).imp fun y st2 H2 l2 R2 p2 q2 f2 u hu => ?_⟩⟩
  unfold liftB at f2
  dsimp only at f2
  cases ed : dinD neg st2.mem x.d y.d with
  | none => rw [ed] at f2; exact (show False from f2).elim
  | some d =>
    rw [ed] at f2
    exact din_read (H1 := H1) (l1 := l1) (Q := fun v H' => ∃ b, v = .bl b ∧ Q b H') R2 (hv.mono p2 q2) hu ed ⟨d, rfl, f2 H2 l2 R2 .refl (List.prefix_refl _)⟩
theorem pg_dsubC {o k : Expr} {po pk : C EV} (hu : X.A.units + 65 < cLine) (ho : PE X o (rd (gx X cl) W po)) (hk : PE X k (rd (gx X cl) W pk)) (ha : ∀ v, assign (.Subscript o k pos) X.env v = (do
      let ov ← holding [v] (eval o X.env)
      let iv ← holding [v, ov] (eval k X.env)
      standAt pos
      holding [v, ov, iv] (setItem ov iv v)
      release [v, ov, iv] [])) : PG X (.Subscript o k pos) (rg (gx X cl) W fun d => bnd po fun c => bnd pk fun x => dsetC c.d x.d d) := by
  refine PG.imp (pg_sub (pe_rz ho) (pe_rz hk) (set_dict (by omega)) ha) fun v σ H Q q => ?_
  obtain ⟨Kp, l, st, d, R, r, f⟩ := q
  refine ⟨Kp, l, st, R, (FinS.bndE f).imp fun c st1 H1 l1 R1 p1 q1 f1 u hu => ⟨Kp, l1, st1, R1, (FinS.bndE f1).imp fun x st2 H2 l2 R2 p2 q2 f2 w hw => ?_⟩⟩
  cases hc : c.d with
  | cel n =>
    rw [hc] at f2 hu
    cases hx : keyD x.d with
    | none => simp only [dsetC, hx] at f2; exact (show False from f2).elim
    | some k =>
      simp only [dsetC, hx] at f2
      split at f2
      · rename_i kvs em
        split at f2
        · rename_i hl
          obtain ⟨p, rfl, hn⟩ := hu
          have hn2 := pre_get q2 hn
          obtain ⟨ws, h1, h2, h3⟩ := R2.cells n p _ hn2 em
          have i : InsD (.dK ws) := .inr ⟨_, rfl⟩
          have pe : Per H2 (upd H2 p (.dK (putK ws k v))) := .wr h1 i
          obtain ⟨y1, y2⟩ := putK_rep (k := k) h2 h3 (r.mono (p1.trans p2) (q1.trans q2))
          have R3 := R2.wcl (o' := .dK (putK ws k v)) (c := .dct (putKD kvs k d)) hn2 h1 i ⟨_, upd_same, y1, y2.mono pe (List.prefix_refl _)⟩
          refine ⟨p, _, rfl, .inl ⟨ws, k, h1, key_rep hw hx, ?_, rfl⟩, f2 σ _ l2 R3 pe (List.prefix_refl _)⟩
          rw [len_keys h2, sizeLine_eq]
          exact hl
        · exact (show False from f2).elim
      · exact (show False from f2).elim
  | _ => rw [hc] at f2; simp only [dsetC] at f2; exact (show False from f2).elim
end
end Dm

set_option Elab.async false
set_option linter.all false
set_option maxRecDepth 100000
set_option maxHeartbeats 4000000
set_option autoImplicit false
/-! Dm11: the text is matched. -/
namespace Dm
open PySem PySem.Spec PyProof.Rows L2

def bopM : Bop → Operator → Bool
  | .add, .Add => true | .sub, .Sub => true | .mul, .Mult => true | .fdiv, .FloorDiv => true | .mod, .Mod => true | .pow, .Pow => true | .shl, .LShift => true
  | _, _ => false
theorem bopM_ok {b : Bop} {o : Operator} (h : bopM b o = true) : o = bop b := by
  cases b <;> cases o <;> first | rfl | cases h
def copM : Cop → CmpOp → Bool
  | .eq, .Eq => true | .ne, .NotEq => true | .lt, .Lt => true | .le, .LtE => true | .gt, .Gt => true | .ge, .GtE => true | .is, .Is => true | .isn, .IsNot => true | .inn, .In => true | .nin, .NotIn => true
  | _, _ => false
theorem copM_ok {b : Cop} {o : CmpOp} (h : copM b o = true) : o = cop b := by
  cases b <;> cases o <;> first | rfl | cases h
def cnM : Cn → Const → Bool
  | .non, .none => true
  | .bl a, .bool b => a == b
  | .int a, .int b => a == b
  | .str a, .str b => a == b
  | _, _ => false
/-- a place that may be left out (a lookup by place is wanted, ends nowhere) -/
def nmB (e : Expr) (f : Str → Bool) : Bool := match vName e with
  | some x => f x
  | none => false
def isTup : Expr → Bool
  | .Tuple _ _ _ => true
  | _ => false
def isNm : Expr → Bool
  | .Name _ _ => true
  | _ => false
def ownOf (N : List Str) (vs : List Nat) : List (Str × Nat) := vs.map fun v => (N.getD v "", v)
def fnK (m : Mx) : Bool := match m.sc.kind with
  | .function => true
  | _ => false
/-- a comprehension on its target's line -/
def swB (m : Mx) (e : Expr) (t : Str) (tp : Pos) : Bool := match e with
  | .ListComp _ _ s p => (m.sc.names.lookup t == some .local) && (tp.line == p.line) && !(s.names.any fun (n, k) => n == t && (k == .local || k == .cell))
  | .SetComp _ _ _ _ => true
  | .DictComp _ _ _ _ _ => true
  | _ => false
/-- a target that we store to -/
def okT : Expr → Bool
  | .Name _ _ => true
  | .Tuple _ _ _ => true
  | .Subscript _ _ _ => true
  | _ => false
def isCmp : E → Bool
  | .comp _ _ _ _ _ => true
  | _ => false
def vCallD : Expr → Option (Expr × Expr × Expr)
  | .Call f [a] [⟨some x, e, _⟩] _ => if x == "default" then some (f, a, e) else none
  | _ => none
theorem vCallD_ok {e f a d : Expr} (h : vCallD e = some (f, a, d)) : ∃ kp p, e = .Call f [a] [⟨some "default", d, kp⟩] p := by
  unfold vCallD at h
  split at h
  · rename_i f' a' x d' kp p
    split at h
    · rename_i hx
      rw [beq_iff_eq] at hx
      subst hx
      cases h
      exact ⟨kp, p, rfl⟩
    · cases h
  · cases h
def vRevS : Expr → Option Expr
  | .Subscript a (.Slice none none (some (.UnaryOp .USub (.Constant (.int 1) _ _) _)) _) _ => some a
  | _ => none
theorem vRevS_ok {e a : Expr} (h : vRevS e = some a) : ∃ k p1 p2 p3 p, e = .Subscript a (.Slice none none (some (.UnaryOp .USub (.Constant (.int 1) k p1) p2)) p3) p := by
  unfold vRevS at h
  split at h
  · cases h
    exact ⟨_, _, _, _, _, rfl⟩
  · cases h
def isRng : I → Bool
  | .rng1 _ => true
  | .rng2 _ _ => true
  | .rng3 _ _ _ => true
  | _ => false
/-- sorted(.., key=lambda ..) -/
def vSrt : Expr → Option (Expr × Expr × Arguments × Expr × Scope)
  | .Call f [a] [⟨some x, .Lambda ps body sc _, _⟩] _ => if x == "key" then some (f, a, ps, body, sc) else none
  | _ => none
theorem vSrt_ok {e f a body : Expr} {ps : Arguments} {sc : Scope} (h : vSrt e = some (f, a, ps, body, sc)) : ∃ lp kp p, e = .Call f [a] [⟨some "key", .Lambda ps body sc lp, kp⟩] p := by
  unfold vSrt at h
  split at h
  · rename_i f' a' x ps' body' sc' lp kp p
    split at h
    · rename_i hx
      rw [beq_iff_eq] at hx
      subst hx
      cases h
      exact ⟨lp, kp, p, rfl⟩
    · cases h
  · cases h
def vLam : Expr → Option (Str × Str)
  | .Tuple [.BinOp (.Name b _) .Mod (.Name w _) _, .Name b2 _] _ _ => if b2 == b then some (b, w) else none
  | _ => none
theorem vLam_ok {e : Expr} {b w : Str} (h : vLam e = some (b, w)) : ∃ p1 p2 p3 p4 p5 k5, e = lamBody b w p1 p2 p3 p4 p5 k5 := by
  unfold vLam at h
  split at h
  · rename_i b' p1 w' p2 p3 b2 p4 k5 p5
    split at h
    · rename_i hx
      rw [beq_iff_eq] at hx
      subst hx
      cases h
      exact ⟨p1, p2, p3, p4, p5, k5, rfl⟩
    · cases h
  · cases h
def vPar : Arguments → Option Str
  | ⟨[], [a], none, [], [], none, []⟩ => some a.arg
  | _ => none
theorem vPar_ok {ps : Arguments} {b : Str} (h : vPar ps = some b) : ∃ a : Arg, a.arg = b ∧ ps = ⟨[], [a], none, [], [], none, []⟩ := by
  unfold vPar at h
  split at h
  · rename_i a
    cases h
    exact ⟨a, rfl, rfl⟩
  · cases h
def lam1B (sc scope : Scope) (b w : Str) : Bool := decide (scope.kind = .function) && !scope.isCoroutine && !scope.isGenerator && decide (scope.names.lookup b = some .local) && decide (scope.names.lookup w = some .free) && (scope.names.all fun y => !decide (y.2 = .cell) && (!decide (y.2 = .free) || y.1 == w)) &&
  (decide (sc.names.lookup w = some .cell) || decide (sc.names.lookup w = some .free)) && !(b == ("__debug__" : Str)) && !(w == ("__debug__" : Str)) && !(w == ("__classdict__" : Str))
theorem lam1_by {sc scope : Scope} {b w : Str} (h : lam1B sc scope b w = true) : Lam1 sc scope b w := by
  unfold lam1B at h
  simp only [Bool.and_eq_true, Bool.or_eq_true, Bool.not_eq_true', decide_eq_true_eq, decide_eq_false_iff_not, List.all_eq_true, beq_iff_eq] at h
  obtain ⟨⟨⟨⟨⟨⟨⟨⟨⟨h1, h2⟩, h3⟩, h4⟩, h5⟩, h6⟩, h7⟩, h8⟩, h9⟩, h10⟩ := h
  refine ⟨h1, h2, h3, h4, h5, fun y hy => (h6 y hy).1, fun y hy e => ?_, h7, h8, h9, h10⟩
  rcases (h6 y hy).2 with z | z
  · exact absurd e z
  · exact z
/-- list(range(x)), x a slot's name -/
def lrB (m : Mx) (i : Nat) (e : Expr) : Bool := match vCall e with
  | some (fx, [er], _) => nmB fx (fun x => x == "list" && glB m x) && (match vCall er with
    | some (fr, [ea], _) => nmB fr (fun x => x == "range" && glB m x) && nmB ea (rdB m i)
    | _ => false)
  | _ => false
/-- a, b = x, y (a, b, c = x, y, z): names, stored at once -/
def parN (m : Mx) (i : Nat) (t : Expr) (line : Nat) : Bool := match t with
  | .Name x p => decide (m.N[i]? = some x) && (m.sc.names.lookup x == some .local) && (p.line == line)
  | _ => false
def nodupB : List Nat → Bool
  | [] => true
  | i :: is => !is.contains i && nodupB is
/-- a local name on a line -/
def selN (m : Mx) (line : Nat) : Expr → Option Str
  | .Name id pos => if m.sc.names.lookup id == some .local && pos.line == line then some id else none
  | _ => none
/-- no stores at once -/
def noPar (m : Mx) (t x : Expr) : Bool := match t, x with
  | .Tuple ts _ _, .Tuple vs _ _ => !(ts.length == 2 || ts.length == 3) || vs.length != ts.length || (vs.all noStar && (ts.filterMap (selN m ((ts.head?.map (·.pos.line)).getD 0))).length != ts.length) || (vs.all noStar && vs.all (foldedForSure 8))
  | _, _ => true
def vDic0 : Expr → Bool
  | .Dict [] [] _ => true
  | _ => false
theorem vDic0_ok {e : Expr} (h : vDic0 e = true) : ∃ p, e = .Dict [] [] p := by
  unfold vDic0 at h
  split at h
  · exact ⟨_, rfl⟩
  · cases h
/-- an instance's field that can be asked for -/
def fldB (m : Mx) (cs : List Nat) (f : Str) : Bool := (cs.all fun c => m.cls.contains c) && m.fls.contains f
def inM (neg : Bool) (o : CmpOp) : Bool := if neg then copM .nin o else copM .inn o
theorem inM_ok {neg : Bool} {o : CmpOp} (h : inM neg o = true) : o = if neg then .NotIn else .In := by
  cases neg <;> cases o <;> first | rfl | cases h
/-- classes that can be raised -/
def ksB (m : Mx) (ks : List Nat) : Bool := ks.all fun c => m.ex.contains c && [1, 2, 3].contains c
mutual
def mE (m : Mx) : E → Expr → Bool
  | .var i, e => nmB e (rdB m i)
  | .mv i, e => nmB e (rdB m i)
  | .con c, e => match vConst e with
    | some k => cnM c k
    | none => false
  | .glo x c, e => nmB e fun y => y == x && glB m x && decide (m.gl x = some c)
  | .bin o a b, e => match vBin e with
    | some (ea, oe, eb) => bopM o oe && mE m a ea && mE m b eb
    | none => false
  | .neg a, e => match vUn e with
    | some (.USub, ea) => mE m a ea
    | _ => false
  | .cmp o a b, e => match vCmp e with
    | some (ea, [oe], [eb]) => copM o oe && mE m a ea && mE m b eb && noSet eb
    | _ => false
  | .chn o p a b c, e => match vCmp e with
    | some (ea, [oe, pe], [eb, ec]) => copM o oe && copM p pe && mE m a ea && mE m b eb && mE m c ec && noSet ec
    | _ => false
  | .and a b, e => match vBool e with
    | some (.And, [ea, eb], _) => mE m a ea && mE m b eb
    | some (.And, ea :: eb :: ec :: r, p) => mE m a ea && mE m b (.BoolOp .And (eb :: ec :: r) p)
    | _ => false
  | .or a b, e => match vBool e with
    | some (.Or, [ea, eb], _) => mE m a ea && mE m b eb
    | some (.Or, ea :: eb :: ec :: r, p) => mE m a ea && mE m b (.BoolOp .Or (eb :: ec :: r) p)
    | _ => false
  | .not a, e => match vUn e with
    | some (.Not, ea) => mE m a ea
    | _ => false
  | .ifx c a b, e => match vIf e with
    | some (ec, ea, eb) => mB m c ec && mE m a ea && mE m b eb
    | none => false
  | .tup es, e => match vTup e with
    | some xs => mEs m es xs
    | none => false
  | .lst es, e => match vLst e with
    | some xs => mEs m es xs
    | none => false
  | .idx a b, e => match vSub e with
    | some (ea, eb) => mE m a ea && mE m b eb && noSlice eb
    | none => false
  | .slc a lo hi, e => match vSub e with
    | some (ea, es) => match vSlc es with
      | some (el, eh) => mE m a ea && mO m lo el && mO m hi eh
      | none => false
    | none => false
  | .comp g it t vs a, e => match vComp e with
    | some (elt, tg, iter, ifs, sc) => mI m it tg iter && blkC m.N m.sc sc (ownOf m.N vs) && mGc (m.blk sc) vs g tg && mBs (m.blk sc) t ifs && mE (m.blk sc) a elt && noSet iter
    | none => false
  | .call f es, e => match vCall e with
    | some (fx, args, _) => nmB fx fun x => decide (m.nm f = some (x, args.length)) && glB m x && mEs m es args && !args.isEmpty
    | none => false
  | .bi (.isi [t] true) [a], e => match vCall e with
    | some (fx, [ea, ty], _) => nmB fx (fun x => x == "isinstance" && glB m x) && nmB ty (fun x => x == tyN t && glB m x) && mE m a ea && noStar ea
    | _ => false
  | .bi (.isi ts false) [a], e => match vCall e with
    | some (fx, [ea, tt], _) => match vTup tt with
      | some tys => nmB fx (fun x => x == "isinstance" && glB m x) && decide (tys.map vName = ts.map fun t => some (tyN t)) && (ts.all fun t => glB m (tyN t)) && !ts.isEmpty && decide (ts.length ≤ 5) && mE m a ea && noStar ea
      | none => false
    | _ => false
  | .bi (.maxd c) [a], e => match vCallD e with
    | some (fx, ea, ec) => nmB fx (fun x => x == "max" && glB m x) && mE m a ea && noStar ea && (match vConst ec with
      | some k => cnM c k
      | none => false)
    | none => false
  | .bi (.mind c) [a], e => match vCallD e with
    | some (fx, ea, ec) => nmB fx (fun x => x == "min" && glB m x) && mE m a ea && noStar ea && (match vConst ec with
      | some k => cnM c k
      | none => false)
    | none => false
  | .bi .lenset [a], e => match vCall e with
    | some (fx, [e2], _) => match vCall e2 with
      | some (fs, [ea], _) => nmB fx (fun x => x == "len" && glB m x) && nmB fs (fun x => x == "set" && glB m x) && mE m a ea && noStar ea
      | _ => false
    | _ => false
  | .bi .srtset [a], e => match vCall e with
    | some (fx, [e2], _) => match vCall e2 with
      | some (fs, [ea], _) => nmB fx (fun x => x == "sorted" && glB m x) && nmB fs (fun x => x == "set" && glB m x) && mE m a ea && noStar ea
      | _ => false
    | _ => false
  | .bi .srtsett [a], e => match vCall e with
    | some (fx, [e2], _) => match vCall e2 with
      | some (fs, [ea], _) => nmB fx (fun x => x == "sorted" && glB m x) && nmB fs (fun x => x == "set" && glB m x) && mE m a ea && noStar ea
      | _ => false
    | _ => false
  | .bi b es, e => match vCall e with
    | some (fx, args, _) => match biF b with
      | some (y, _) => nmB fx (fun x => x == y && glB m x) && mEs m es args && !args.isEmpty
      | none => false
    | none => false
  | .mth o a es, e => match vCall e with
    | some (fx, args, cp) => match vAttr fx with
      | some (ea, n, ap) => mE m a ea && noCall0 ea && n == mtN o && omOk args ap cp && mEs m es args && !args.isEmpty
      | none => false
    | none => false
  | .omt o i es, e => match vCall e with
    | some (fx, args, cp) => match vAttr fx with
      | some (a, n, ap) => nmB a (rdB m i) && n == omN o && omOk args ap cp && mEs m es args
      | none => false
    | none => false
  | .cmt o a es, e => match vCall e with
    | some (fx, args, cp) => match vAttr fx with
      | some (ea, n, ap) => mE m a ea && noCall0 ea && n == omN o && omOk args ap cp && mEs m es args
      | none => false
    | none => false
  | .cel a, e => mE m a e
  | .bor _ a, e => mE m a e
  | .bcl _ a, e => mE m a e
  | .rngv t r, e => match vCall e with
    | some (fx, [er], _) => nmB fx (fun x => x == (if t then ("tuple" : Str) else ("list" : Str)) && glB m x) && isRng r && mI m r er er
    | _ => false
  | .revs a, e => match vRevS e with
    | some ea => mE m a ea
    | none => false
  | .ise ks [t] true a, e => match vCall e with
    | some (fx, [ea, ty], _) => nmB fx (fun x => x == "isinstance" && glB m x) && nmB ty (fun x => x == exN t && glB m x) && m.ex.contains t && ksB m ks && mE m a ea && noStar ea
    | _ => false
  | .ise ks ts false a, e => match vCall e with
    | some (fx, [ea, tt], _) => match vTup tt with
      | some tys => nmB fx (fun x => x == "isinstance" && glB m x) && decide (tys.map vName = ts.map fun t => some (exN t)) && (ts.all fun t => glB m (exN t) && m.ex.contains t) && decide (ts.length ≤ 9) && ksB m ks && mE m a ea && noStar ea
      | none => false
    | _ => false
  | .ise _ _ _ _, _ => false
  | .fld cs a f, e => match vAttr e with
    | some (ea, n, _) => n == f && mE m a ea && noCall0 ea && fldB m cs f
    | none => false
  | .met x tab a es, e => match vCall e with
    | some (fx, args, cp) => match vAttr fx with
      | some (ea, n, ap) => n == x && mE m a ea && noCall0 ea && omOk args ap cp && mEs m es args && (tab.all fun p => decide (m.mt p.2 = some (p.1, x, args.length + 1)))
      | none => false
    | none => false
  | .mk c f es, e => match vCall e with
    | some (fx, args, _) => nmB fx (fun x => x == csN c && glB m x) && decide (c < 4) && decide (m.mt f = some (c, ("__init__" : Str), args.length + 1)) && mEs m es args && !args.isEmpty
    | none => false
  | .dnew, e => vDic0 e
  | .dix a k, e => match vSub e with
    | some (ea, eb) => mE m a ea && mE m k eb && noSlice eb
    | none => false
  | .din neg a d, e => match vCmp e with
    | some (ea, [oe], [eb]) => inM neg oe && mE m a ea && mE m d eb && noSet eb
    | _ => false
  | .srtk n w, e => match n, w, vSrt e with
    | .var i, .var j, some (f, a, ps, body, sc) => match vLam body, vPar ps with
      | some (b, wn), some b2 => b2 == b && b == "_law_bit" && m.lam && nmB f (fun x => x == "sorted" && glB m x) && lrB m i a && noStar a && decide (m.N[j]? = some wn) && lam1B m.sc sc b wn
      | _, _ => false
    | _, _, _ => false
def mEs (m : Mx) : List E → List Expr → Bool
  | [], [] => true
  | a :: as, e :: es => mE m a e && noStar e && mEs m as es
  | _, _ => false
def mO (m : Mx) : Option E → Option Expr → Bool
  | none, none => true
  | some a, some e => mE m a e
  | _, _ => false
def mB (m : Mx) : B → Expr → Bool
  | .cmp o a b, e => match vCmp e with
    | some (ea, [oe], [eb]) => copM o oe && mE m a ea && mE m b eb && noSet eb
    | _ => false
  | .chn o p a b c, e => match vCmp e with
    | some (ea, [oe, pe], [eb, ec]) => copM o oe && copM p pe && mE m a ea && mE m b eb && mE m c ec && noSet ec
    | _ => false
  | .and a b, e => match vBool e with
    | some (.And, [ea, eb], _) => mB m a ea && mB m b eb
    | some (.And, ea :: eb :: ec :: r, p) => mB m a ea && mB m b (.BoolOp .And (eb :: ec :: r) p)
    | _ => false
  | .or a b, e => match vBool e with
    | some (.Or, [ea, eb], _) => mB m a ea && mB m b eb
    | some (.Or, ea :: eb :: ec :: r, p) => mB m a ea && mB m b (.BoolOp .Or (eb :: ec :: r) p)
    | _ => false
  | .not a, e => match vUn e with
    | some (.Not, ea) => mB m a ea
    | _ => false
  | .tru a, e => mE m a e && plainT e
  | .din neg a d, e => match vCmp e with
    | some (ea, [oe], [eb]) => inM neg oe && mE m a ea && mE m d eb && noSet eb
    | _ => false
  | .bcm _ o a b, e => match vCmp e with
    | some (ea, [oe], [eb]) => copM o oe && mE m a ea && mE m b eb && noSet eb
    | _ => false
def mBs (m : Mx) : List B → List Expr → Bool
  | [], [] => true
  | [a], [e] => mB m a e
  | _, _ => false
def mI (m : Mx) : I → Expr → Expr → Bool
  | .seq a, _, e => mE m a e
  | .rng1 a, _, e => match vCall e with
    | some (fx, [ea], _) => nmB fx (fun x => x == "range" && glB m x) && mE m a ea && noStar ea
    | _ => false
  | .rng2 a b, _, e => match vCall e with
    | some (fx, [ea, eb], _) => nmB fx (fun x => x == "range" && glB m x) && mE m a ea && noStar ea && mE m b eb && noStar eb
    | _ => false
  | .rng3 a b c, _, e => match vCall e with
    | some (fx, [ea, eb, ec], _) => nmB fx (fun x => x == "range" && glB m x) && mE m a ea && noStar ea && mE m b eb && noStar eb && mE m c ec && noStar ec
    | _ => false
  | .enm a, tg, e => match vCall e with
    | some (fx, [ea], _) => isTup tg && nmB fx (fun x => x == "enumerate" && glB m x) && mE m a ea && noStar ea
    | _ => false
  | .zip a b, tg, e => match vCall e with
    | some (fx, [ea, eb], _) => isTup tg && nmB fx (fun x => x == "zip" && glB m x) && mE m a ea && noStar ea && mE m b eb && noStar eb
    | _ => false
  | .zip3 a b c, tg, e => match vCall e with
    | some (fx, [ea, eb, ec], _) => isTup tg && nmB fx (fun x => x == "zip" && glB m x) && mE m a ea && noStar ea && mE m b eb && noStar eb && mE m c ec && noStar ec
    | _ => false
  | .rev a, _, e => match vCall e with
    | some (fx, [ea], _) => nmB fx (fun x => x == "reversed" && glB m x) && mE m a ea && noStar ea
    | _ => false
def mGc (m : Mx) (vs : List Nat) : G → Expr → Bool
  | .nm i, t => nmB t (stB m i) && vs.contains i
  | .tp gs, t => match vTup t with
    | some ts => mGcs m vs gs ts
    | none => false
  | _, _ => false
def mGcs (m : Mx) (vs : List Nat) : List G → List Expr → Bool
  | [], [] => true
  | g :: gs, t :: ts => mGc m vs g t && noStar t && mGcs m vs gs ts
  | _, _ => false
def mG (m : Mx) : G → Expr → Bool
  | .nm i, t => nmB t (stB m i)
  | .tp gs, t => match vTup t with
    | some ts => mGs m gs ts
    | none => false
  | .osub i k, t => match vSub t with
    | some (eo, ek) => nmB eo (rdB m i) && mE m k ek && noSlice ek
    | none => false
  | .csub a k, t => match vSub t with
    | some (eo, ek) => mE m a eo && mE m k ek && noSlice ek
    | none => false
  | .dsub a k, t => match vSub t with
    | some (eo, ek) => mE m a eo && mE m k ek && noSlice ek
    | none => false
def mGs (m : Mx) : List G → List Expr → Bool
  | [], [] => true
  | g :: gs, t :: ts => mG m g t && noStar t && mGs m gs ts
  | _, _ => false
end
/-! ### views of statements -/
def sAsg : Stmt → Option (Expr × Expr × Pos)
  | .Assign [t] e p => some (t, e, p)
  | _ => none
def sAug : Stmt → Option (Expr × Operator × Expr)
  | .AugAssign t o e _ => some (t, o, e)
  | _ => none
def sExp : Stmt → Option (Expr × Pos)
  | .Expr e p => some (e, p)
  | _ => none
def sRet : Stmt → Option (Option Expr)
  | .Return e _ => some e
  | _ => none
def sIf : Stmt → Option (Expr × List Stmt × List Stmt)
  | .If c a b _ => some (c, a, b)
  | _ => none
def sFor : Stmt → Option (Expr × Expr × List Stmt)
  | .For t i b [] _ => some (t, i, b)
  | _ => none
def sWhl : Stmt → Option (Expr × List Stmt)
  | .While c b [] _ => some (c, b)
  | _ => none
def sPass : Stmt → Bool
  | .Pass _ => true
  | _ => false
def sBrk : Stmt → Bool
  | .Break _ => true
  | _ => false
def sCnt : Stmt → Bool
  | .Continue _ => true
  | _ => false
theorem sAsg_ok {s : Stmt} {t e : Expr} {p : Pos} (h : sAsg s = some (t, e, p)) : s = .Assign [t] e p := by
  cases s with
  | Assign ts e q =>
    cases ts with
    | nil => cases h
    | cons t r => cases r with
      | nil => cases h; rfl
      | cons _ _ => cases h
  | _ => cases h
theorem sAug_ok {s : Stmt} {t e : Expr} {o : Operator} (h : sAug s = some (t, o, e)) : ∃ p, s = .AugAssign t o e p := by
  cases s <;> first | cases h; exact ⟨_, rfl⟩ | cases h
theorem sExp_ok {s : Stmt} {e : Expr} {p : Pos} (h : sExp s = some (e, p)) : s = .Expr e p := by
  cases s <;> first | cases h; rfl | cases h
theorem sRet_ok {s : Stmt} {e : Option Expr} (h : sRet s = some e) : ∃ p, s = .Return e p := by
  cases s <;> first | cases h; exact ⟨_, rfl⟩ | cases h
theorem sIf_ok {s : Stmt} {c : Expr} {a b : List Stmt} (h : sIf s = some (c, a, b)) : ∃ p, s = .If c a b p := by
  cases s <;> first | cases h; exact ⟨_, rfl⟩ | cases h
theorem sFor_ok {s : Stmt} {t i : Expr} {b : List Stmt} (h : sFor s = some (t, i, b)) : ∃ p, s = .For t i b [] p := by
  cases s with
  | For t i b o p => cases o with
    | nil => cases h; exact ⟨_, rfl⟩
    | cons _ _ => cases h
  | _ => cases h
theorem sWhl_ok {s : Stmt} {c : Expr} {b : List Stmt} (h : sWhl s = some (c, b)) : ∃ p, s = .While c b [] p := by
  cases s with
  | While c b o p => cases o with
    | nil => cases h; exact ⟨_, rfl⟩
    | cons _ _ => cases h
  | _ => cases h
theorem sPass_ok {s : Stmt} (h : sPass s = true) : ∃ p, s = .Pass p := by
  cases s <;> first | exact ⟨_, rfl⟩ | cases h
theorem sBrk_ok {s : Stmt} (h : sBrk s = true) : ∃ p, s = .Break p := by
  cases s <;> first | exact ⟨_, rfl⟩ | cases h
theorem sCnt_ok {s : Stmt} (h : sCnt s = true) : ∃ p, s = .Continue p := by
  cases s <;> first | exact ⟨_, rfl⟩ | cases h
/-- raise X("..") -/
def sRse : Stmt → Option Str
  | .Raise (some (.Call (.Name x _) [.Constant (.str _) _ _] [] _)) none _ => some x
  | _ => none
theorem sRse_ok {s : Stmt} {x : Str} (h : sRse s = some x) : ∃ p msg j p2 p3 pos, s = .Raise (some (.Call (.Name x p) [.Constant (.str msg) j p2] [] p3)) none pos := by
  unfold sRse at h
  split at h
  · cases h
    exact ⟨_, _, _, _, _, _, rfl⟩
  · cases h
/-- try: body except x as n: y = n -/
def sTri : Stmt → Option (List Stmt × Str × Str × Str)
  | .Try body [.ExceptHandler (some (.Name x _)) (some n) [.Assign [.Name y _] (.Name n2 _) _] _] [] [] _ => if n2 == n then some (body, x, n, y) else none
  | _ => none
theorem sTri_ok {s : Stmt} {body : List Stmt} {x n y : Str} (h : sTri s = some (body, x, n, y)) : ∃ np yp np2 ap pos' pos, s = .Try body [.ExceptHandler (some (.Name x np)) (some n) [.Assign [.Name y yp] (.Name n np2) ap] pos'] [] [] pos := by
  unfold sTri at h
  split at h
  · split at h
    · rename_i hx
      rw [beq_iff_eq] at hx
      subst hx
      cases h
      exact ⟨_, _, _, _, _, _, rfl⟩
    · cases h
  · cases h
mutual
def mS (m : Mx) : S → Stmt → Bool
  | .asg g e, s => match sAsg s with
    | some (t, x, p) => mG m g t && mE m e x && (noComp x || !isNm t) && noPar m t x && okT t
    | none => false
  | .asgo i e, s => match sAsg s with
    | some (t, x, p) => match vName t with
      | some y => stB m i y && mE m e x && fnK m && (!(swB m x y t.pos) || isCmp e)
      | none => false
    | none => false
  | .par is es, s => match sAsg s with
    | some (t, x, p) => match vTup t, vTup x with
      | some ts, some vs => match is, ts with
        | [i, j], [tx, ty] => parN m i tx tx.pos.line && parN m j ty tx.pos.line && nodupB [i, j] && vs.length == 2 && !vs.all (foldedForSure 8) && !vs.all (constantsAlone 8) && mEs m es vs && fnK m
        | [i, j, k], [tx, ty, tz] => parN m i tx tx.pos.line && parN m j ty tx.pos.line && parN m k tz tx.pos.line && nodupB [i, j, k] && vs.length == 3 && !vs.all (foldedForSure 8) && !vs.all (constantsAlone 8) && mEs m es vs && fnK m
        | _, _ => false
      | _, _ => false
    | none => false
  | .aug i o e, s => match sAug s with
    | some (t, oe, x) => nmB t (stB m i) && bopM o oe && mE m e x
    | none => false
  | .oaug i k o e, s => match sAug s with
    | some (t, oe, x) => match vSub t with
      | some (eo, ek) => nmB eo (rdB m i) && mE m k ek && noSlice ek && bopM o oe && mE m e x
      | none => false
    | none => false
  | .caug _ _ _ _, _ => false
  | .exp e, s => match sExp s with
    | some (x, p) => mE m e x && noComp x
    | none => false
  | .ret e, s => match sRet s with
    | some (some x) => mE m e x
    | _ => false
  | .retN, s => match sRet s with
    | some none => true
    | _ => false
  | .ife c a b, s => match sIf s with
    | some (x, sa, sb) => mB m c x && mSs m a sa && mSs m b sb
    | none => false
  | .for g it _ _ b, s => match sFor s with
    | some (t, x, sb) => mI m it t x && mG m g t && mSs m b sb && noSet x
    | none => false
  | .whl _ c _ b, s => match sWhl s with
    | some (x, sb) => mB m c x && mSs m b sb
    | none => false
  | .pass, s => sPass s
  | .brk, s => sBrk s
  | .cnt, s => sCnt s
  | .rse c, s => match sRse s with
    | some x => x == exN c && glB m x && m.ex.contains c && [1, 2, 3].contains c
    | none => false
  | .dead, _ => true
  | .fst cs a f e, s => match sAsg s with
    | some (t, x, _) => match vAttr t with
      | some (eo, n, _) => n == f && mE m a eo && mE m e x && fldB m cs f
      | none => false
    | none => false
  | .tri b ks c i j, s => match sTri s with
    | some (body, x, n, y) => x == exN c && glB m x && m.ex.contains c && !(c == 5) && ksB m ks && decide (m.N[i]? = some n) && decide (m.N[j]? = some y) && (m.sc.names.lookup n == some .local) && (m.sc.names.lookup y == some .local) && okNm n && mSs m b body
    | none => false
def mSs (m : Mx) : List S → List Stmt → Bool
  | [], [] => true
  | a :: as, s :: ss => mS m a s && mSs m as ss
  | _, _ => false
end
end Dm

set_option Elab.async false
set_option linter.all false
set_option maxRecDepth 100000
set_option maxHeartbeats 4000000
set_option autoImplicit false
/-! Dm12: what is matched does what the interpreter says: expressions. -/
namespace Dm
open PySem PySem.Spec PyProof.Rows L2

theorem nmB_ok {e : Expr} {f : Str → Bool} (h : nmB e f = true) : ∃ x p, e = .Name x p ∧ f x = true := by
  unfold nmB at h
  split at h
  · rename_i x hx
    obtain ⟨p, rfl⟩ := vName_ok hx
    exact ⟨x, p, rfl, h⟩
  · cases h
theorem own_snd (N : List Str) (vs : List Nat) : (ownOf N vs).map (·.2) = vs := by
  unfold ownOf
  rw [List.map_map]
  exact List.map_id _
section
variable {X : Cx} {m : Mx} {W : WX} {cl : Nat → Addr} {k : Nat} {Phi : Fns}
theorem Cxt.hu (c : Cxt X m W cl k Phi) : X.A.units + 65 < cLine := by
  have := c.room.un
  omega
theorem Cxt.glN (c : Cxt X m W cl k Phi) {x : Str} (h : glB m x = true) : Gl X x := (c.glb h).1
theorem cn_ok {c : Cn} {kk : Const} {j : Nat} {p : Pos} (h : cnM c kk = true) : PE X (.Constant kk j p) (tC (cnV c)) := by
  cases c <;> cases kk <;> first | cases h; done | skip
  · exact pe_non
  · rename_i a b
    have e : a = b := by simpa [cnM] using h
    subst e
    exact pe_bl
  · rename_i a b
    have e : a = b := by simpa [cnM] using h
    subst e
    exact pe_int
  · rename_i a b
    have e : a = b := by simpa [cnM] using h
    subst e
    exact pe_str
theorem ev_bi1 {Phi : Fns} {b : Bi} {a : E} : ev Phi (.bi b [a]) = bnd (ev Phi a) fun x => lift fun m => biD m b [x.d] := by
  funext s
  show ((ev Phi a s).bnd fun x => bnd (ret []) fun xs => ret (x.d :: xs)).bnd _ = (ev Phi a s).bnd _
  cases ev Phi a s <;> rfl
theorem evs_len {Phi : Fns} : ∀ (es : List E) (st : Sta) (ds : List D) (st' : Sta), evs Phi es st = .ok ds st' → ds.length = es.length
  | [], st, ds, st', h => by cases h; rfl
  | e :: es, st, ds, st', h => by
    simp only [evs] at h
    obtain ⟨x, s1, _, h⟩ := bnd_ok h
    obtain ⟨xs, s2, h2, h3⟩ := bnd_ok h
    have e3 : Out.ok (x.d :: xs) s2 = Out.ok ds st' := h3
    injection e3 with e4 e5
    rw [← e4, List.length_cons, List.length_cons, evs_len es s1 xs s2 h2]
theorem mEs_len {m : Mx} : ∀ (as : List E) (es : List Expr), mEs m as es = true → as.length = es.length
  | [], [], _ => rfl
  | [], _ :: _, h => by simp [mEs] at h
  | _ :: _, [], h => by simp [mEs] at h
  | a :: as, e :: es, h => by
    simp only [mEs, Bool.and_eq_true] at h
    rw [List.length_cons, List.length_cons, mEs_len as es h.2]
theorem mEs_star {m : Mx} : ∀ (as : List E) (es : List Expr), mEs m as es = true → es.all noStar = true
  | [], [], _ => rfl
  | [], _ :: _, h => by simp [mEs] at h
  | _ :: _, [], h => by simp [mEs] at h
  | a :: as, e :: es, h => by
    simp only [mEs, Bool.and_eq_true] at h
    rw [List.all_cons, h.1.2, mEs_star as es h.2]
    rfl
theorem asg_cons {e : Expr} {es : List Expr} {env : Env} (h : noStar e = true) : assignEach (e :: es) env = (false, assign e env) :: assignEach es env := by
  cases e <;> first | rfl | cases h
theorem mGcs_asg {m : Mx} {vs : List Nat} {env : Env} : ∀ (gs : List G) (ts : List Expr), mGcs m vs gs ts = true → gs.length = ts.length ∧ (assignEach ts env).length = ts.length ∧ (assignEach ts env).findIdx? (·.1) = none
  | [], [], _ => ⟨rfl, rfl, rfl⟩
  | [], _ :: _, h => by simp [mGcs] at h
  | _ :: _, [], h => by simp [mGcs] at h
  | g :: gs, t :: ts, h => by
    simp only [mGcs, Bool.and_eq_true] at h
    obtain ⟨a, b, c⟩ := mGcs_asg (env := env) gs ts h.2
    rw [asg_cons h.1.2]
    refine ⟨by rw [List.length_cons, List.length_cons, a], by rw [List.length_cons, List.length_cons, b], ?_⟩
    rw [List.findIdx?_cons]
    simp [c]
theorem mGs_asg {m : Mx} {env : Env} : ∀ (gs : List G) (ts : List Expr), mGs m gs ts = true → gs.length = ts.length ∧ (assignEach ts env).length = ts.length ∧ (assignEach ts env).findIdx? (·.1) = none
  | [], [], _ => ⟨rfl, rfl, rfl⟩
  | [], _ :: _, h => by simp [mGs] at h
  | _ :: _, [], h => by simp [mGs] at h
  | g :: gs, t :: ts, h => by
    simp only [mGs, Bool.and_eq_true] at h
    obtain ⟨a, b, c⟩ := mGs_asg (env := env) gs ts h.2
    rw [asg_cons h.1.2]
    refine ⟨by rw [List.length_cons, List.length_cons, a], by rw [List.length_cons, List.length_cons, b], ?_⟩
    rw [List.findIdx?_cons]
    simp [c]
theorem tys_names : ∀ (ts : List Ty) (es : List Expr), es.map vName = ts.map (fun t => some (tyN t)) → ∃ ps : List Pos, ps.length = ts.length ∧ es = (ts.zip ps).map fun x => Expr.Name (tyN x.1) x.2
  | [], es, h => by
    have : es = [] := by simpa using h
    exact ⟨[], rfl, by rw [this]; rfl⟩
  | t :: ts, [], h => by simp at h
  | t :: ts, e :: es, h => by
    rw [List.map_cons, List.map_cons] at h
    injection h with h1 h2
    obtain ⟨p, rfl⟩ := vName_ok h1
    obtain ⟨ps, e1, e2⟩ := tys_names ts es h2
    exact ⟨p :: ps, by rw [List.length_cons, e1]; rfl, by rw [e2]; rfl⟩
theorem ex_names : ∀ (ts : List Nat) (es : List Expr), es.map vName = ts.map (fun t => some (exN t)) → ∃ ps : List Pos, ps.length = ts.length ∧ es = (ts.zip ps).map fun x => Expr.Name (exN x.1) x.2
  | [], es, h => by
    have : es = [] := by simpa using h
    exact ⟨[], rfl, by rw [this]; rfl⟩
  | t :: ts, [], h => by simp at h
  | t :: ts, e :: es, h => by
    rw [List.map_cons, List.map_cons] at h
    injection h with h1 h2
    obtain ⟨p, rfl⟩ := vName_ok h1
    obtain ⟨ps, e1, e2⟩ := ex_names ts es h2
    exact ⟨p :: ps, by rw [List.length_cons, e1]; rfl, by rw [e2]; rfl⟩
theorem asg_sub {o kk : Expr} {p : Pos} {env : Env} (h : noSlice kk = true) : ∀ v, assign (.Subscript o kk p) env v = (do
      let ov ← holding [v] (eval o env)
      let iv ← holding [v, ov] (eval kk env)
      standAt p
      holding [v, ov, iv] (setItem ov iv v)
      release [v, ov, iv] []) := by
  intro v
  cases kk with
  | Slice a b s q => cases s with
    | none => cases h
    | some s => rfl
  | _ => rfl
theorem pe_b1 {op : BoolOp} {e : Expr} {p : Pos} {t : TE} (h : PE X e t) : PE X (.BoolOp op [e] p) t := ⟨fun pins s σ H Q I q => h.run pins s σ H Q I q⟩
end
theorem fld_by {X : Cx} {m : Mx} {W : WX} {cl : Nat → Addr} {k : Nat} {Phi : Fns} (c : Cxt X m W cl k Phi) {cs : List Nat} {f : Str} (h : fldB m cs f = true) : ∀ d ∈ cs, Cls X.K (csA X.K d) ∧ NoAttr X.K (csA X.K d) f := by
  unfold fldB at h
  rw [Bool.and_eq_true] at h
  intro d hd
  have h1 : d ∈ m.cls := by simpa using List.all_eq_true.mp h.1 d hd
  have h2 : f ∈ m.fls := by simpa using h.2
  exact ⟨(c.fld d h1).1, (c.fld d h1).2 f h2⟩
theorem lr_ok {X : Cx} {m : Mx} {W : WX} {cl : Nat → Addr} {k : Nat} {Phi : Fns} (c : Cxt X m W cl k Phi) {i : Nat} {e : Expr} (h : lrB m i e = true) : PE X e (rd (gx X cl) W (ev Phi (.rngv false (.rng1 (.var i))))) := by
  unfold lrB at h
  split at h
  · rename_i fx er p hv
    rw [vCall_ok hv]
    rw [Bool.and_eq_true] at h
    obtain ⟨x, p2, rfl, zh⟩ := nmB_ok h.1
    have h2 := h.2
    split at h2
    · rename_i fr ea p3 hv2
      rw [vCall_ok hv2]
      rw [Bool.and_eq_true] at h2
      obtain ⟨y, p4, rfl, zk⟩ := nmB_ok h2.1
      obtain ⟨z, p5, rfl, zr⟩ := nmB_ok h2.2
      simp only [Bool.and_eq_true, beq_iff_eq] at zh zk
      obtain ⟨rfl, g1⟩ := zh
      obtain ⟨rfl, g2⟩ := zk
      exact pe_rngv1 (tt := false) c.calm (pe_getv (c.rd zr) rfl) (c.glN g2) (c.glN g1) c.blt rfl
    · cases h2
  · cases h
mutual
theorem mE_ok {cl : Nat → Addr} {k : Nat} {Phi : Fns} : ∀ {X : Cx} {m : Mx} {W : WX} (c : Cxt X m W cl k Phi) (a : E) (e : Expr), mE m a e = true → PE X e (rd (gx X cl) W (ev Phi a))
  | X, m, W, c, .var i, e, h => by
    simp only [mE] at h
    obtain ⟨x, p, rfl, zh⟩ := nmB_ok h
    have h := zh
    exact pe_getv (c.rd h) rfl
  | X, m, W, c, .mv i, e, h => by
    simp only [mE] at h
    obtain ⟨x, p, rfl, zh⟩ := nmB_ok h
    have h := zh
    exact pe_move (c.rd h)
  | X, m, W, c, .con d, e, h => by
    simp only [mE] at h
    split at h
    · rename_i kk hk
      obtain ⟨j, p, rfl⟩ := vConst_ok hk
      exact pe_con (cn_ok h)
    · cases h
  | X, m, W, c, .glo x d, e, h => by
    simp only [mE] at h
    obtain ⟨y, p, rfl, zh⟩ := nmB_ok h
    have h := zh
    simp only [Bool.and_eq_true, beq_iff_eq, decide_eq_true_eq] at h
    obtain ⟨⟨rfl, h1⟩, h2⟩ := h
    obtain ⟨u, hu, r⟩ := c.gl _ _ h2
    obtain ⟨g1, g2, g3⟩ := c.glb h1
    exact pe_con (pe_glob g1 hu r g2)
  | X, m, W, c, .bin o a b, e, h => by
    simp only [mE] at h
    split at h
    · rename_i ea oe eb hv
      simp only [Bool.and_eq_true] at h
      obtain ⟨p, rfl⟩ := vBin_ok hv
      rw [bopM_ok h.1.1]
      exact pe_binC o (mE_ok c a ea h.1.2) (mE_ok c b eb h.2)
    · cases h
  | X, m, W, c, .neg a, e, h => by
    simp only [mE] at h
    split at h
    · rename_i ea hv
      obtain ⟨p, rfl⟩ := vUn_ok hv
      exact pe_negC (mE_ok c a ea h)
    · cases h
  | X, m, W, c, .cmp o a b, e, h => by
    simp only [mE] at h
    split at h
    · rename_i ea oe eb hv
      simp only [Bool.and_eq_true] at h
      obtain ⟨⟨⟨h1, h2⟩, h3⟩, h4⟩ := h
      obtain ⟨p, rfl⟩ := vCmp_ok hv
      rw [copM_ok h1]
      exact pe_cmpC c.hu o (mE_ok c a ea h2) (mE_ok c b eb h3) (no_mark h4)
    · cases h
  | X, m, W, c, .chn o q a b d, e, h => by
    simp only [mE] at h
    split at h
    · rename_i ea oe pe eb ec hv
      simp only [Bool.and_eq_true] at h
      obtain ⟨⟨⟨⟨⟨h1, h2⟩, h3⟩, h4⟩, h5⟩, h6⟩ := h
      obtain ⟨p, rfl⟩ := vCmp_ok hv
      rw [copM_ok h1, copM_ok h2]
      exact pe_chnC c.hu o q (mE_ok c a ea h3) (mE_ok c b eb h4) (mE_ok c d ec h5) (no_mark h6)
    · cases h
  | X, m, W, c, .and a b, e, h => by
    simp only [mE] at h
    split at h
    · rename_i ea eb p hv
      rw [Bool.and_eq_true] at h
      rw [vBool_ok hv]
      exact PE.imp (pe_andT (pe_rz (mE_ok c a ea h.1)) (pe_b1 (mE_ok c b eb h.2))) fun σ H Q q => andC_read q
    · rename_i ea eb ec r p hv
      rw [Bool.and_eq_true] at h
      rw [vBool_ok hv]
      exact PE.imp (pe_andT (pe_rz (mE_ok c a ea h.1)) (mE_ok c b _ h.2)) fun σ H Q q => andC_read q
    · cases h
  | X, m, W, c, .or a b, e, h => by
    simp only [mE] at h
    split at h
    · rename_i ea eb p hv
      rw [Bool.and_eq_true] at h
      rw [vBool_ok hv]
      exact PE.imp (pe_orT (pe_rz (mE_ok c a ea h.1)) (pe_b1 (mE_ok c b eb h.2))) fun σ H Q q => orC_read q
    · rename_i ea eb ec r p hv
      rw [Bool.and_eq_true] at h
      rw [vBool_ok hv]
      exact PE.imp (pe_orT (pe_rz (mE_ok c a ea h.1)) (mE_ok c b _ h.2)) fun σ H Q q => orC_read q
    · cases h
  | X, m, W, c, .not a, e, h => by
    simp only [mE] at h
    split at h
    · rename_i ea hv
      obtain ⟨p, rfl⟩ := vUn_ok hv
      exact pe_notC (mE_ok c a ea h)
    · cases h
  | X, m, W, c, .ifx t a b, e, h => by
    simp only [mE] at h
    split at h
    · rename_i ec ea eb hv
      simp only [Bool.and_eq_true] at h
      obtain ⟨p, rfl⟩ := vIf_ok hv
      exact pe_ifC (mB_ok c t ec h.1.1) (mE_ok c a ea h.1.2) (mE_ok c b eb h.2)
    · cases h
  | X, m, W, c, .tup es, e, h => by
    simp only [mE] at h
    split at h
    · rename_i xs hv
      obtain ⟨kk, p, rfl⟩ := vTup_ok hv
      exact pe_tupC (mEs_ok c es xs h)
    · cases h
  | X, m, W, c, .lst es, e, h => by
    simp only [mE] at h
    split at h
    · rename_i xs hv
      obtain ⟨p, rfl⟩ := vLst_ok hv
      exact pe_lstC (mEs_ok c es xs h)
    · cases h
  | X, m, W, c, .idx a b, e, h => by
    simp only [mE] at h
    split at h
    · rename_i ea eb hv
      simp only [Bool.and_eq_true] at h
      obtain ⟨p, rfl⟩ := vSub_ok hv
      exact pe_idxC (mE_ok c a ea h.1.1) (mE_ok c b eb h.1.2) h.2
    · cases h
  | X, m, W, c, .slc a lo hi, e, h => by
    simp only [mE] at h
    split at h
    · rename_i ea es hv
      split at h
      · rename_i el eh hs
        simp only [Bool.and_eq_true] at h
        obtain ⟨p, rfl⟩ := vSub_ok hv
        obtain ⟨p2, rfl⟩ := vSlc_ok hs
        exact pe_slcC (mE_ok c a ea h.1.1) (mO_ok c lo el h.1.2) (mO_ok c hi eh h.2)
      · cases h
    · cases h
  | X, m, W, c, .comp g it t vs a, e, h => by
    simp only [mE] at h
    split at h
    · rename_i elt tg iter ifs sc hv
      simp only [Bool.and_eq_true] at h
      obtain ⟨⟨⟨⟨⟨h1, h2⟩, h3⟩, h4⟩, h5⟩, h6⟩ := h
      obtain ⟨p, rfl⟩ := vComp_ok hv
      have ok : BlkOk X.N X.env.scope sc (ownOf m.N vs) := by
        rw [c.N, c.sc]
        exact blkOk_by h2
      have key := pe_lcC (X := X) (cl := cl) (W := W) (Wf := fun _ _ _ _ => False) (pos' := p) c.calm c.nd (mI_ok c it tg iter h1) ok
        (p := asgG Phi g) (tc := tsts Phi t) (ec := ev Phi a)
        (fun s H C cl' fp => by rw [own_snd]; exact mGc_ok (c.blk s H sc C cl' fp) vs g tg h3)
        (fun s H C cl' fp => mBs_ok (c.blk s H sc C cl' fp) t ifs h4)
        (fun s H C cl' fp => mE_ok (c.blk s H sc C cl' fp) a elt h5) (no_fold h6)
      rw [own_snd] at key
      exact key
    · cases h
  | X, m, W, c, .call f es, e, h => by
    simp only [mE] at h
    split at h
    · rename_i fx args p hv
      rw [vCall_ok hv]
      obtain ⟨x, p2, rfl, zh⟩ := nmB_ok h
      have h := zh
      simp only [Bool.and_eq_true, decide_eq_true_eq] at h
      obtain ⟨⟨⟨h1, h2⟩, h3⟩, h4⟩ := h
      cases args with
      | nil => cases h4
      | cons a as => exact pe_fnC c h1 h2 (mEs_ok c es _ h3) (mEs_star _ _ h3) fun st ds st' hh => (evs_len es st ds st' hh).trans (mEs_len _ _ h3)
    · cases h
  | X, m, W, c, .bi b es, e, h => by
    have gen : ∀ {y : Str} {v : String × Bool}, biF b = some (y, v) → ∀ fx args p, vCall e = some (fx, args, p) → (nmB fx (fun x => x == y && glB m x) && mEs m es args && !args.isEmpty) = true → PE X e (rd (gx X cl) W (ev Phi (.bi b es))) := by
      intro y v hb fx args p hv h
      rw [vCall_ok hv]
      simp only [Bool.and_eq_true] at h
      obtain ⟨⟨h1, h2⟩, h3⟩ := h
      obtain ⟨x, p2, ex, zh1⟩ := nmB_ok h1
      simp only [Bool.and_eq_true, beq_iff_eq] at zh1
      obtain ⟨e1, g1⟩ := zh1
      subst e1
      rw [ex]
      cases args with
      | nil => cases h3
      | cons a as => exact pe_biC hb c.gd c.calm c.hu (c.glN g1) c.blt (mEs_ok c es _ h2) (mEs_star _ _ h2)
    cases b with
    | isi ts one =>
      cases one with
      | true =>
        match ts, es, h with
        | [t], [a], h =>
          simp only [mE] at h
          split at h
          · rename_i fx ea ty p hv
            rw [vCall_ok hv]
            simp only [Bool.and_eq_true] at h
            obtain ⟨⟨⟨h1, h2⟩, h3⟩, h4⟩ := h
            obtain ⟨x, p2, rfl, zh1⟩ := nmB_ok h1
            have h1 := zh1
            obtain ⟨y, p3, rfl, zh2⟩ := nmB_ok h2
            have h2 := zh2
            simp only [Bool.and_eq_true, beq_iff_eq] at h1 h2
            obtain ⟨rfl, h1⟩ := h1
            obtain ⟨rfl, h2⟩ := h2
            exact pe_isi1 (mE_ok c a ea h3) (c.glN h1) (c.glN h2) c.blt h4
          · cases h
        | [], [], h => simp only [mE, biF] at h; split at h <;> cases h
        | [], [_], h => simp only [mE, biF] at h; split at h <;> cases h
        | [], _ :: _ :: _, h => simp only [mE, biF] at h; split at h <;> cases h
        | [_], [], h => simp only [mE, biF] at h; split at h <;> cases h
        | [_], _ :: _ :: _, h => simp only [mE, biF] at h; split at h <;> cases h
        | _ :: _ :: _, [], h => simp only [mE, biF] at h; split at h <;> cases h
        | _ :: _ :: _, [_], h => simp only [mE, biF] at h; split at h <;> cases h
        | _ :: _ :: _, _ :: _ :: _, h => simp only [mE, biF] at h; split at h <;> cases h
      | false =>
        match es, h with
        | [a], h =>
          simp only [mE] at h
          split at h
          · rename_i fx ea tt p hv
            split at h
            · rename_i tys ht
              rw [vCall_ok hv]
              obtain ⟨kk, p2, rfl⟩ := vTup_ok ht
              simp only [Bool.and_eq_true, decide_eq_true_eq, List.all_eq_true] at h
              obtain ⟨⟨⟨⟨⟨⟨h1, h2⟩, h3⟩, h4⟩, h5⟩, h6⟩, h7⟩ := h
              obtain ⟨x, p3, rfl, zh1⟩ := nmB_ok h1
              have h1 := zh1
              simp only [Bool.and_eq_true, beq_iff_eq] at h1
              obtain ⟨rfl, h1⟩ := h1
              exact pe_isiT (mE_ok c a ea h6) (c.glN h1) (tys_names ts tys h2) (fun t ht => c.glN (h3 t ht)) ⟨fun z => (by rw [z] at h4; cases h4), h5⟩ c.blt h7
            · cases h
          · cases h
        | [], h => simp only [mE, biF] at h; split at h <;> cases h
        | _ :: _ :: _, h => simp only [mE, biF] at h; split at h <;> cases h
    | lenset =>
      match es, h with
      | [], h => simp only [mE, biF] at h; split at h <;> cases h
      | _ :: _ :: _, h => simp only [mE, biF] at h; split at h <;> cases h
      | [a], hh =>
        simp only [mE] at hh
        split at hh
        · rename_i fx e2 p hv
          split at hh
          · rename_i fs ea p2 hv2
            rw [vCall_ok hv, vCall_ok hv2]
            simp only [Bool.and_eq_true] at hh
            obtain ⟨⟨⟨h1, h2⟩, h3⟩, h4⟩ := hh
            obtain ⟨x, p3, rfl, zh1⟩ := nmB_ok h1
            have h1 := zh1
            obtain ⟨y, p4, rfl, zh2⟩ := nmB_ok h2
            have h2 := zh2
            simp only [Bool.and_eq_true, beq_iff_eq] at h1 h2
            obtain ⟨rfl, h1⟩ := h1
            obtain ⟨rfl, h2⟩ := h2
            rw [ev_bi1]
            exact pe_lensetC c.calm (c.glN h1) (c.glN h2) c.blt (mE_ok c a ea h3) h4
          · cases hh
        · cases hh
    | srtset =>
      match es, h with
      | [], h => simp only [mE, biF] at h; split at h <;> cases h
      | _ :: _ :: _, h => simp only [mE, biF] at h; split at h <;> cases h
      | [a], hh =>
        simp only [mE] at hh
        split at hh
        · rename_i fx e2 p hv
          split at hh
          · rename_i fs ea p2 hv2
            rw [vCall_ok hv, vCall_ok hv2]
            simp only [Bool.and_eq_true] at hh
            obtain ⟨⟨⟨h1, h2⟩, h3⟩, h4⟩ := hh
            obtain ⟨x, p3, rfl, zh1⟩ := nmB_ok h1
            have h1 := zh1
            obtain ⟨y, p4, rfl, zh2⟩ := nmB_ok h2
            have h2 := zh2
            simp only [Bool.and_eq_true, beq_iff_eq] at h1 h2
            obtain ⟨rfl, h1⟩ := h1
            obtain ⟨rfl, h2⟩ := h2
            rw [ev_bi1]
            exact pe_srtsetC c.calm (c.glN h1) (c.glN h2) c.blt (mE_ok c a ea h3) h4
          · cases hh
        · cases hh
    | srtsett =>
      match es, h with
      | [], h => simp only [mE, biF] at h; split at h <;> cases h
      | _ :: _ :: _, h => simp only [mE, biF] at h; split at h <;> cases h
      | [a], hh =>
        simp only [mE] at hh
        split at hh
        · rename_i fx e2 p hv
          split at hh
          · rename_i fs ea p2 hv2
            rw [vCall_ok hv, vCall_ok hv2]
            simp only [Bool.and_eq_true] at hh
            obtain ⟨⟨⟨h1, h2⟩, h3⟩, h4⟩ := hh
            obtain ⟨x, p3, rfl, zh1⟩ := nmB_ok h1
            have h1 := zh1
            obtain ⟨y, p4, rfl, zh2⟩ := nmB_ok h2
            have h2 := zh2
            simp only [Bool.and_eq_true, beq_iff_eq] at h1 h2
            obtain ⟨rfl, h1⟩ := h1
            obtain ⟨rfl, h2⟩ := h2
            rw [ev_bi1]
            exact pe_srtsettC c.calm (by have := c.hu; omega) (c.glN h1) (c.glN h2) c.blt (mE_ok c a ea h3) h4
          · cases hh
        · cases hh
    | maxd cn =>
      match es, h with
      | [], h => simp only [mE, biF] at h; split at h <;> cases h
      | _ :: _ :: _, h => simp only [mE, biF] at h; split at h <;> cases h
      | [a], hh =>
        simp only [mE] at hh
        split at hh
        · rename_i fx ea ec hv
          obtain ⟨kp, p, rfl⟩ := vCallD_ok hv
          simp only [Bool.and_eq_true] at hh
          obtain ⟨⟨⟨h1, h2⟩, h3⟩, h4⟩ := hh
          obtain ⟨x, p2, rfl, zh1⟩ := nmB_ok h1
          simp only [Bool.and_eq_true, beq_iff_eq] at zh1
          obtain ⟨rfl, g1⟩ := zh1
          split at h4
          · rename_i kk hk
            obtain ⟨j, p3, rfl⟩ := vConst_ok hk
            rw [ev_bi1]
            exact pe_mmdC (mx := true) c.calm c.hu (c.glN g1) c.blt (mE_ok c a ea h2) (cn_ok h4) h3
          · cases h4
        · cases hh
    | mind cn =>
      match es, h with
      | [], h => simp only [mE, biF] at h; split at h <;> cases h
      | _ :: _ :: _, h => simp only [mE, biF] at h; split at h <;> cases h
      | [a], hh =>
        simp only [mE] at hh
        split at hh
        · rename_i fx ea ec hv
          obtain ⟨kp, p, rfl⟩ := vCallD_ok hv
          simp only [Bool.and_eq_true] at hh
          obtain ⟨⟨⟨h1, h2⟩, h3⟩, h4⟩ := hh
          obtain ⟨x, p2, rfl, zh1⟩ := nmB_ok h1
          simp only [Bool.and_eq_true, beq_iff_eq] at zh1
          obtain ⟨rfl, g1⟩ := zh1
          split at h4
          · rename_i kk hk
            obtain ⟨j, p3, rfl⟩ := vConst_ok hk
            rw [ev_bi1]
            exact pe_mmdC (mx := false) c.calm c.hu (c.glN g1) c.blt (mE_ok c a ea h2) (cn_ok h4) h3
          · cases h4
        · cases hh
    | _ =>
      simp only [mE, biF] at h
      split at h
      · rename_i fx args p hv
        exact gen rfl fx args p hv h
      · cases h
  | X, m, W, c, .mth o a es, e, h => by
    simp only [mE] at h
    split at h
    · rename_i fx args p hv
      split at h
      · rename_i ea n ap ha
        rw [vCall_ok hv, vAttr_ok ha]
        simp only [Bool.and_eq_true, beq_iff_eq] at h
        obtain ⟨⟨⟨⟨⟨h1, h0⟩, h2⟩, h3⟩, h4⟩, h5⟩ := h
        subst h2
        cases args with
        | nil => cases h5
        | cons b bs => exact pe_mthC c.hu (mE_ok c a ea h1) (mEs_ok c es _ h4) h0 h3
      · cases h
    · cases h
  | X, m, W, c, .omt o i es, e, h => by
    simp only [mE] at h
    split at h
    · rename_i fx args p hv
      split at h
      · rename_i a n ap ha
        rw [vCall_ok hv, vAttr_ok ha]
        simp only [Bool.and_eq_true, beq_iff_eq] at h
        obtain ⟨⟨⟨h1, h2⟩, h3⟩, h4⟩ := h
        obtain ⟨x, p2, rfl, zh1⟩ := nmB_ok h1
        have h1 := zh1
        subst h2
        refine pe_omC (c.rd h1) (mEs_ok c es _ h4) rfl h3 fun z => ?_
        subst z
        have := mEs_len _ _ h4
        cases es with
        | nil => rfl
        | cons _ _ => cases this
      · cases h
    · cases h
  | X, m, W, c, .cmt o a es, e, h => by
    simp only [mE] at h
    split at h
    · rename_i fx args p hv
      split at h
      · rename_i ea n ap ha
        rw [vCall_ok hv, vAttr_ok ha]
        simp only [Bool.and_eq_true, beq_iff_eq] at h
        obtain ⟨⟨⟨⟨h1, h0⟩, h2⟩, h3⟩, h4⟩ := h
        subst h2
        refine pe_cmC (mE_ok c a ea h1) (mEs_ok c es _ h4) h0 h3 fun z => ?_
        subst z
        have := mEs_len _ _ h4
        cases es with
        | nil => rfl
        | cons _ _ => cases this
      · cases h
    · cases h
  | X, m, W, c, .cel a, e, h => by
    simp only [mE] at h
    exact pe_celC (mE_ok c a e h)
  | X, m, W, c, .bor i a, e, h => by
    simp only [mE] at h
    exact pe_borC (mE_ok c a e h)
  | X, m, W, c, .bcl i a, e, h => by
    simp only [mE] at h
    exact pe_bclC (mE_ok c a e h)
  | X, m, W, c, .rngv t r, e, h => by
    simp only [mE] at h
    split at h
    · rename_i fx er p hv
      rw [vCall_ok hv]
      simp only [Bool.and_eq_true] at h
      obtain ⟨⟨h1, h2⟩, h3⟩ := h
      obtain ⟨x, p2, rfl, zh1⟩ := nmB_ok h1
      simp only [Bool.and_eq_true, beq_iff_eq] at zh1
      obtain ⟨rfl, g1⟩ := zh1
      match r, h2, h3 with
      | .rng1 a, _, h3 =>
        simp only [mI] at h3
        split at h3
        · rename_i fx2 ea p3 hv2
          rw [vCall_ok hv2]
          simp only [Bool.and_eq_true] at h3
          obtain ⟨⟨k1, k2⟩, k3⟩ := h3
          obtain ⟨y, p4, rfl, zk1⟩ := nmB_ok k1
          simp only [Bool.and_eq_true, beq_iff_eq] at zk1
          obtain ⟨rfl, g2⟩ := zk1
          exact pe_rngv1 c.calm (mE_ok c a ea k2) (c.glN g2) (c.glN g1) c.blt k3
        · cases h3
      | .rng2 a b, _, h3 =>
        simp only [mI] at h3
        split at h3
        · rename_i fx2 ea eb p3 hv2
          rw [vCall_ok hv2]
          simp only [Bool.and_eq_true] at h3
          obtain ⟨⟨⟨⟨k1, k2⟩, k3⟩, k4⟩, k5⟩ := h3
          obtain ⟨y, p4, rfl, zk1⟩ := nmB_ok k1
          simp only [Bool.and_eq_true, beq_iff_eq] at zk1
          obtain ⟨rfl, g2⟩ := zk1
          exact pe_rngv2 c.calm (mE_ok c a ea k2) (mE_ok c b eb k4) (c.glN g2) (c.glN g1) c.blt k3 k5
        · cases h3
      | .rng3 a b d, _, h3 =>
        simp only [mI] at h3
        split at h3
        · rename_i fx2 ea eb ed p3 hv2
          rw [vCall_ok hv2]
          simp only [Bool.and_eq_true] at h3
          obtain ⟨⟨⟨⟨⟨⟨k1, k2⟩, k3⟩, k4⟩, k5⟩, k6⟩, k7⟩ := h3
          obtain ⟨y, p4, rfl, zk1⟩ := nmB_ok k1
          simp only [Bool.and_eq_true, beq_iff_eq] at zk1
          obtain ⟨rfl, g2⟩ := zk1
          exact pe_rngv3 c.calm (mE_ok c a ea k2) (mE_ok c b eb k4) (mE_ok c d ed k6) (c.glN g2) (c.glN g1) c.blt k3 k5 k7
        · cases h3
    · cases h
  | X, m, W, c, .revs a, e, h => by
    simp only [mE] at h
    split at h
    · rename_i ea hv
      obtain ⟨k1, p1, p2, p3, p, rfl⟩ := vRevS_ok hv
      exact pe_revsC (mE_ok c a ea h)
    · cases h
  | X, m, W, c, .ise ks ts one a, e, h => by
    cases one with
    | true =>
      match ts, h with
      | [t], h =>
        simp only [mE] at h
        split at h
        · rename_i fx ea ty p hv
          rw [vCall_ok hv]
          simp only [Bool.and_eq_true] at h
          obtain ⟨⟨⟨⟨⟨h1, h2⟩, h3⟩, h4⟩, h5⟩, h6⟩ := h
          obtain ⟨x, p2, rfl, zh1⟩ := nmB_ok h1
          obtain ⟨y, p3, rfl, zh2⟩ := nmB_ok h2
          simp only [Bool.and_eq_true, beq_iff_eq] at zh1 zh2
          obtain ⟨rfl, g1⟩ := zh1
          obtain ⟨rfl, g2⟩ := zh2
          exact pe_ise1 c.ex.1 (mE_ok c a ea h5) h4 (by simpa using h3) (c.glN g1) (c.glN g2) c.blt h6
        · cases h
      | [], h => simp only [mE] at h; cases h
      | _ :: _ :: _, h => simp only [mE] at h; cases h
    | false =>
      simp only [mE] at h
      split at h
      · rename_i fx ea tt p hv
        split at h
        · rename_i tys ht
          rw [vCall_ok hv]
          obtain ⟨kk, p2, rfl⟩ := vTup_ok ht
          simp only [Bool.and_eq_true, decide_eq_true_eq, List.all_eq_true] at h
          obtain ⟨⟨⟨⟨⟨⟨h1, h2⟩, h3⟩, h4⟩, h5⟩, h6⟩, h7⟩ := h
          obtain ⟨x, p3, rfl, zh1⟩ := nmB_ok h1
          simp only [Bool.and_eq_true, beq_iff_eq] at zh1
          obtain ⟨rfl, g1⟩ := zh1
          exact pe_iseT c.ex.1 (mE_ok c a ea h6) h5 (fun t ht => by simpa using (h3 t ht).2) (c.glN g1) (ex_names ts tys h2) (fun t ht => c.glN (h3 t ht).1) h4 c.blt h7
        · cases h
      · cases h
  | X, m, W, c, .fld cs a f, e, h => by
    simp only [mE] at h
    split at h
    · rename_i ea n ap hv
      rw [vAttr_ok hv]
      simp only [Bool.and_eq_true, beq_iff_eq] at h
      obtain ⟨⟨⟨rfl, h1⟩, h2⟩, h3⟩ := h
      exact pe_fldC (mE_ok c a ea h1) h2 (fld_by c h3)
    · cases h
  | X, m, W, c, .met x tab a es, e, h => by
    simp only [mE] at h
    split at h
    · rename_i fx args p hv
      split at h
      · rename_i ea n ap ha
        rw [vCall_ok hv, vAttr_ok ha]
        simp only [Bool.and_eq_true, beq_iff_eq] at h
        obtain ⟨⟨⟨⟨⟨rfl, h1⟩, h2⟩, h3⟩, h4⟩, h5⟩ := h
        refine pe_metC c (n := args.length + 1) (fun p hp => by simpa using List.all_eq_true.mp h5 p hp) (mE_ok c a ea h1) (mEs_ok c es _ h4) h2 h3 (fun z => ?_) fun st ds st' hh => by rw [evs_len es st ds st' hh, mEs_len _ _ h4]
        subst z
        have := mEs_len _ _ h4
        cases es with
        | nil => rfl
        | cons _ _ => cases this
      · cases h
    · cases h
  | X, m, W, c, .mk ci f es, e, h => by
    simp only [mE] at h
    split at h
    · rename_i fx args p hv
      rw [vCall_ok hv]
      simp only [Bool.and_eq_true, decide_eq_true_eq] at h
      obtain ⟨⟨⟨⟨h1, h2⟩, h3⟩, h4⟩, h5⟩ := h
      obtain ⟨x, p2, rfl, zh⟩ := nmB_ok h1
      simp only [Bool.and_eq_true, beq_iff_eq] at zh
      obtain ⟨rfl, g1⟩ := zh
      cases args with
      | nil => cases h5
      | cons b bs => exact pe_mkC c h3 h2 (c.glN g1) (mEs_ok c es _ h4) (mEs_star _ _ h4) fun st ds st' hh => by rw [evs_len es st ds st' hh, mEs_len _ _ h4]
    · cases h
  | X, m, W, c, .dnew, e, h => by
    simp only [mE] at h
    obtain ⟨p, rfl⟩ := vDic0_ok h
    exact pe_dnewC
  | X, m, W, c, .dix a b, e, h => by
    simp only [mE] at h
    split at h
    · rename_i ea eb hv
      simp only [Bool.and_eq_true] at h
      obtain ⟨p, rfl⟩ := vSub_ok hv
      exact pe_dixC c.hu (mE_ok c a ea h.1.1) (mE_ok c b eb h.1.2) h.2
    · cases h
  | X, m, W, c, .din neg a b, e, h => by
    simp only [mE] at h
    split at h
    · rename_i ea oe eb hv
      simp only [Bool.and_eq_true] at h
      obtain ⟨⟨⟨h1, h2⟩, h3⟩, h4⟩ := h
      obtain ⟨p, rfl⟩ := vCmp_ok hv
      rw [inM_ok h1]
      exact pe_dinC c.hu neg (mE_ok c a ea h2) (mE_ok c b eb h3) (no_mark h4)
    · cases h
  | X, m, W, c, .srtk n w, e, h => by
    simp only [mE] at h
    split at h
    · rename_i i j f a ps body sc hv
      split at h
      · rename_i b wn b2 hl hp
        obtain ⟨lp, kp, p, rfl⟩ := vSrt_ok hv
        obtain ⟨p1, p2, p3, p4, p5, k5, rfl⟩ := vLam_ok hl
        simp only [Bool.and_eq_true, beq_iff_eq, decide_eq_true_eq] at h
        obtain ⟨⟨⟨⟨⟨⟨⟨h1, h1'⟩, h2⟩, h3⟩, h4⟩, h5⟩, h6⟩, h7⟩ := h
        subst h1
        obtain ⟨aa, ea, rfl⟩ := vPar_ok hp
        subst h1'
        obtain ⟨an, aann, apos⟩ := aa
        cases ea
        obtain ⟨x, q2, rfl, zh⟩ := nmB_ok h3
        simp only [Bool.and_eq_true, beq_iff_eq] at zh
        obtain ⟨rfl, g0⟩ := zh
        have hl1 := lam1_by h7
        refine pe_srtk c.hu (by have := c.room.dp; omega) (lr_ok c h4) h5 (c.glN g0) c.blt (c.lam h2) (by rw [c.sc]; exact hl1) (by rw [c.N]; exact h6) (fun q cl pm cv ctv u => by rfl) (by rfl)
      · cases h
    · cases h
theorem mEo_ok {cl : Nat → Addr} {k : Nat} {Phi : Fns} : ∀ {X : Cx} {m : Mx} {W : WX} (c : Cxt X m W cl k Phi) (as : List E) (es : List Expr), mEs m as es = true → PA X es (rao (gx X cl) W (evo Phi as))
  | X, m, W, c, [], [], h => pao_nilC
  | X, m, W, c, [], _ :: _, h => by simp [mEs] at h
  | X, m, W, c, _ :: _, [], h => by simp [mEs] at h
  | X, m, W, c, a :: as, e :: es, h => by
    simp only [mEs, Bool.and_eq_true] at h
    exact pao_consC (mE_ok c a e h.1.1) (mEo_ok c as es h.2) h.1.2
theorem mEs_ok {cl : Nat → Addr} {k : Nat} {Phi : Fns} : ∀ {X : Cx} {m : Mx} {W : WX} (c : Cxt X m W cl k Phi) (as : List E) (es : List Expr), mEs m as es = true → PA X es (ra (gx X cl) W (evs Phi as))
  | X, m, W, c, [], [], h => pa_nilC
  | X, m, W, c, [], _ :: _, h => by simp [mEs] at h
  | X, m, W, c, _ :: _, [], h => by simp [mEs] at h
  | X, m, W, c, a :: as, e :: es, h => by
    simp only [mEs, Bool.and_eq_true] at h
    exact pa_consC (mE_ok c a e h.1.1) (mEs_ok c as es h.2) h.1.2
theorem mO_ok {cl : Nat → Addr} {k : Nat} {Phi : Fns} : ∀ {X : Cx} {m : Mx} {W : WX} (c : Cxt X m W cl k Phi) (a : Option E) (e : Option Expr), mO m a e = true → PO X e (ro (gx X cl) W (evp Phi a))
  | X, m, W, c, none, none, h => po_noneC
  | X, m, W, c, none, some _, h => by simp [mO] at h
  | X, m, W, c, some _, none, h => by simp [mO] at h
  | X, m, W, c, some a, some e, h => by
    simp only [mO] at h
    exact po_someC (mE_ok c a e h)
theorem mB_ok {cl : Nat → Addr} {k : Nat} {Phi : Fns} : ∀ {X : Cx} {m : Mx} {W : WX} (c : Cxt X m W cl k Phi) (a : B) (e : Expr), mB m a e = true → PT X e (rb (gx X cl) W (tst Phi a))
  | X, m, W, c, .cmp o a b, e, h => by
    simp only [mB] at h
    split at h
    · rename_i ea oe eb hv
      simp only [Bool.and_eq_true] at h
      obtain ⟨⟨⟨h1, h2⟩, h3⟩, h4⟩ := h
      obtain ⟨p, rfl⟩ := vCmp_ok hv
      rw [copM_ok h1]
      exact pt_cmpC c.hu o (mE_ok c a ea h2) (mE_ok c b eb h3) (no_mark h4)
    · cases h
  | X, m, W, c, .chn o q a b d, e, h => by
    simp only [mB] at h
    split at h
    · rename_i ea oe pe eb ec hv
      simp only [Bool.and_eq_true] at h
      obtain ⟨⟨⟨⟨⟨h1, h2⟩, h3⟩, h4⟩, h5⟩, h6⟩ := h
      obtain ⟨p, rfl⟩ := vCmp_ok hv
      rw [copM_ok h1, copM_ok h2]
      exact pt_chnC c.hu o q (mE_ok c a ea h3) (mE_ok c b eb h4) (mE_ok c d ec h5) (no_mark h6)
    · cases h
  | X, m, W, c, .and a b, e, h => by
    simp only [mB] at h
    split at h
    · rename_i ea eb p hv
      rw [Bool.and_eq_true] at h
      rw [vBool_ok hv]
      exact PT.imp (pw_and (mB_ok c a ea h.1) (pw_and1 (mB_ok c b eb h.2))).pt fun σ H Q q => rb_and q
    · rename_i ea eb ec r p hv
      rw [Bool.and_eq_true] at h
      rw [vBool_ok hv]
      exact PT.imp (pw_and (mB_ok c a ea h.1) (mBw_ok c b .And _ p h.2)).pt fun σ H Q q => rb_and q
    · cases h
  | X, m, W, c, .or a b, e, h => by
    simp only [mB] at h
    split at h
    · rename_i ea eb p hv
      rw [Bool.and_eq_true] at h
      rw [vBool_ok hv]
      exact PT.imp (pw_or (mB_ok c a ea h.1) (pw_or1 (mB_ok c b eb h.2))).pt fun σ H Q q => rb_or q
    · rename_i ea eb ec r p hv
      rw [Bool.and_eq_true] at h
      rw [vBool_ok hv]
      exact PT.imp (pw_or (mB_ok c a ea h.1) (mBw_ok c b .Or _ p h.2)).pt fun σ H Q q => rb_or q
    · cases h
  | X, m, W, c, .not a, e, h => by
    simp only [mB] at h
    split at h
    · rename_i ea hv
      obtain ⟨p, rfl⟩ := vUn_ok hv
      exact pt_notC (mB_ok c a ea h)
    · cases h
  | X, m, W, c, .tru a, e, h => by
    simp only [mB, Bool.and_eq_true] at h
    exact pt_truC (mE_ok c a e h.1) h.2
  | X, m, W, c, .din neg a b, e, h => by
    simp only [mB] at h
    split at h
    · rename_i ea oe eb hv
      simp only [Bool.and_eq_true] at h
      obtain ⟨⟨⟨h1, h2⟩, h3⟩, h4⟩ := h
      obtain ⟨p, rfl⟩ := vCmp_ok hv
      rw [inM_ok h1]
      exact pt_dinC c.hu neg (mE_ok c a ea h2) (mE_ok c b eb h3) (no_mark h4)
    · cases h
  | X, m, W, c, .bcm is o a b, e, h => by
    simp only [mB] at h
    split at h
    · rename_i ea oe eb hv
      simp only [Bool.and_eq_true] at h
      obtain ⟨⟨⟨h1, h2⟩, h3⟩, h4⟩ := h
      obtain ⟨p, rfl⟩ := vCmp_ok hv
      rw [copM_ok h1]
      exact pt_borB (pt_cmpC c.hu o (mE_ok c a ea h2) (mE_ok c b eb h3) (no_mark h4))
    · cases h
theorem mBw_ok {cl : Nat → Addr} {k : Nat} {Phi : Fns} : ∀ {X : Cx} {m : Mx} {W : WX} (c : Cxt X m W cl k Phi) (a : B) (op : BoolOp) (es : List Expr) (p : Pos), mB m a (.BoolOp op es p) = true → PW X (.BoolOp op es p) (rb (gx X cl) W (tst Phi a))
  | X, m, W, c, .cmp o a b, op, es, p, h => by simp [mB, vCmp] at h
  | X, m, W, c, .chn o q a b d, op, es, p, h => by simp [mB, vCmp] at h
  | X, m, W, c, .and a b, op, es, p, h => by
    simp only [mB, vBool] at h
    split at h
    · rename_i ea eb p' hv
      cases hv
      rw [Bool.and_eq_true] at h
      exact PW.imp (pw_and (mB_ok c a ea h.1) (pw_and1 (mB_ok c b eb h.2))) fun σ H Q q => rb_and q
    · rename_i ea eb ec r p' hv
      cases hv
      rw [Bool.and_eq_true] at h
      exact PW.imp (pw_and (mB_ok c a ea h.1) (mBw_ok c b .And _ p h.2)) fun σ H Q q => rb_and q
    · cases h
  | X, m, W, c, .or a b, op, es, p, h => by
    simp only [mB, vBool] at h
    split at h
    · rename_i ea eb p' hv
      cases hv
      rw [Bool.and_eq_true] at h
      exact PW.imp (pw_or (mB_ok c a ea h.1) (pw_or1 (mB_ok c b eb h.2))) fun σ H Q q => rb_or q
    · rename_i ea eb ec r p' hv
      cases hv
      rw [Bool.and_eq_true] at h
      exact PW.imp (pw_or (mB_ok c a ea h.1) (mBw_ok c b .Or _ p h.2)) fun σ H Q q => rb_or q
    · cases h
  | X, m, W, c, .not a, op, es, p, h => by simp [mB, vUn] at h
  | X, m, W, c, .tru a, op, es, p, h => by simp [mB, plainT] at h
  | X, m, W, c, .bcm is o a b, op, es, p, h => by simp [mB, vCmp] at h
  | X, m, W, c, .din _ _ _, op, es, p, h => by simp [mB, vCmp] at h
theorem mBs_ok {cl : Nat → Addr} {k : Nat} {Phi : Fns} : ∀ {X : Cx} {m : Mx} {W : WX} (c : Cxt X m W cl k Phi) (as : List B) (es : List Expr), mBs m as es = true → PTs X es (rb (gx X cl) W (tsts Phi as))
  | X, m, W, c, [], [], h => ⟨fun pins s σ H Q I q => pts_nil.run pins s σ H Q I (by
    obtain ⟨Kp, l, st, R, f⟩ := q
    exact f H l R .refl (List.prefix_refl _))⟩
  | X, m, W, c, [], _ :: _, h => by simp [mBs] at h
  | X, m, W, c, [a], [], h => by simp [mBs] at h
  | X, m, W, c, [a], [e], h => by
    simp only [mBs] at h
    exact pts_one (mB_ok c a e h)
  | X, m, W, c, [a], _ :: _ :: _, h => by simp [mBs] at h
  | X, m, W, c, _ :: _ :: _, _, h => by simp [mBs] at h
theorem mI_ok {cl : Nat → Addr} {k : Nat} {Phi : Fns} : ∀ {X : Cx} {m : Mx} {W : WX} (c : Cxt X m W cl k Phi) (a : I) (tg e : Expr), mI m a tg e = true → PI X tg e (ri (gx X cl) W (itm Phi a))
  | X, m, W, c, .seq a, tg, e, h => by
    simp only [mI] at h
    exact pi_seqC (mE_ok c a e h)
  | X, m, W, c, .rng1 a, tg, e, h => by
    simp only [mI] at h
    split at h
    · rename_i fx ea p hv
      rw [vCall_ok hv]
      simp only [Bool.and_eq_true] at h
      obtain ⟨⟨h1, h2⟩, h3⟩ := h
      obtain ⟨x, p2, rfl, zh1⟩ := nmB_ok h1
      have h1 := zh1
      simp only [Bool.and_eq_true, beq_iff_eq] at h1
      obtain ⟨rfl, h1⟩ := h1
      exact pi_rng1C (mE_ok c a ea h2) (c.glN h1) c.blt h3
    · cases h
  | X, m, W, c, .rng2 a b, tg, e, h => by
    simp only [mI] at h
    split at h
    · rename_i fx ea eb p hv
      rw [vCall_ok hv]
      simp only [Bool.and_eq_true] at h
      obtain ⟨⟨⟨⟨h1, h2⟩, h3⟩, h4⟩, h5⟩ := h
      obtain ⟨x, p2, rfl, zh1⟩ := nmB_ok h1
      have h1 := zh1
      simp only [Bool.and_eq_true, beq_iff_eq] at h1
      obtain ⟨rfl, h1⟩ := h1
      exact pi_rng2C (mE_ok c a ea h2) (mE_ok c b eb h4) (c.glN h1) c.blt h3 h5
    · cases h
  | X, m, W, c, .rng3 a b d, tg, e, h => by
    simp only [mI] at h
    split at h
    · rename_i fx ea eb ec p hv
      rw [vCall_ok hv]
      simp only [Bool.and_eq_true] at h
      obtain ⟨⟨⟨⟨⟨⟨h1, h2⟩, h3⟩, h4⟩, h5⟩, h6⟩, h7⟩ := h
      obtain ⟨x, p2, rfl, zh1⟩ := nmB_ok h1
      have h1 := zh1
      simp only [Bool.and_eq_true, beq_iff_eq] at h1
      obtain ⟨rfl, h1⟩ := h1
      exact pi_rng3C (mE_ok c a ea h2) (mE_ok c b eb h4) (mE_ok c d ec h6) (c.glN h1) c.blt h3 h5 h7
    · cases h
  | X, m, W, c, .enm a, tg, e, h => by
    simp only [mI] at h
    split at h
    · rename_i fx ea p hv
      rw [vCall_ok hv]
      simp only [Bool.and_eq_true] at h
      obtain ⟨⟨⟨h0, h1⟩, h2⟩, h3⟩ := h
      obtain ⟨x, p2, rfl, zh1⟩ := nmB_ok h1
      have h1 := zh1
      simp only [Bool.and_eq_true, beq_iff_eq] at h1
      obtain ⟨rfl, h1⟩ := h1
      cases tg with
      | Tuple ts kk tp => exact pi_enmC (mE_ok c a ea h2) (c.glN h1) c.blt h3
      | _ => cases h0
    · cases h
  | X, m, W, c, .zip a b, tg, e, h => by
    simp only [mI] at h
    split at h
    · rename_i fx ea eb p hv
      rw [vCall_ok hv]
      simp only [Bool.and_eq_true] at h
      obtain ⟨⟨⟨⟨⟨h0, h1⟩, h2⟩, h3⟩, h4⟩, h5⟩ := h
      obtain ⟨x, p2, rfl, zh1⟩ := nmB_ok h1
      have h1 := zh1
      simp only [Bool.and_eq_true, beq_iff_eq] at h1
      obtain ⟨rfl, h1⟩ := h1
      cases tg with
      | Tuple ts kk tp => exact pi_zipC (mE_ok c a ea h2) (mE_ok c b eb h4) (c.glN h1) c.blt h3 h5
      | _ => cases h0
    · cases h
  | X, m, W, c, .zip3 a b c3, tg, e, h => by
    simp only [mI] at h
    split at h
    · rename_i fx ea eb ec p hv
      rw [vCall_ok hv]
      simp only [Bool.and_eq_true] at h
      obtain ⟨⟨⟨⟨⟨⟨⟨h0, h1⟩, h2⟩, h3⟩, h4⟩, h5⟩, h6⟩, h7⟩ := h
      obtain ⟨x, p2, rfl, zh1⟩ := nmB_ok h1
      have h1 := zh1
      simp only [Bool.and_eq_true, beq_iff_eq] at h1
      obtain ⟨rfl, h1⟩ := h1
      cases tg with
      | Tuple ts kk tp => exact pi_zip3C (mE_ok c a ea h2) (mE_ok c b eb h4) (mE_ok c c3 ec h6) (c.glN h1) c.blt h3 h5 h7
      | _ => cases h0
    · cases h
  | X, m, W, c, .rev a, tg, e, h => by
    simp only [mI] at h
    split at h
    · rename_i fx ea p hv
      rw [vCall_ok hv]
      simp only [Bool.and_eq_true] at h
      obtain ⟨⟨h1, h2⟩, h3⟩ := h
      obtain ⟨x, p2, rfl, zh1⟩ := nmB_ok h1
      have h1 := zh1
      simp only [Bool.and_eq_true, beq_iff_eq] at h1
      obtain ⟨rfl, h1⟩ := h1
      exact pi_revC (mE_ok c a ea h2) (c.glN h1) c.blt h3
    · cases h
theorem mGc_ok {cl : Nat → Addr} {k : Nat} {Phi : Fns} : ∀ {X : Cx} {m : Mx} {W : WX} (c : Cxt X m W cl k Phi) (vs : List Nat) (g : G) (t : Expr), mGc m vs g t = true → PG X t (rgc (gx X cl) vs (asgG Phi g))
  | X, m, W, c, vs, .nm i, t, h => by
    simp only [mGc, Bool.and_eq_true] at h
    obtain ⟨x, p, rfl, h1⟩ := nmB_ok h.1
    obtain ⟨a, b, d⟩ := c.st h1
    have hi : i ∈ vs := by simpa using h.2
    exact pgc_nm (pg_name c.nd a b d) hi
  | X, m, W, c, vs, .tp gs, t, h => by
    simp only [mGc] at h
    split at h
    · rename_i ts hv
      obtain ⟨kk, p, rfl⟩ := vTup_ok hv
      obtain ⟨a, b, d⟩ := mGcs_asg (env := X.env) gs ts h
      exact pgc_tup c.calm (mGcs_ok c vs gs ts h) a b d
    · cases h
  | X, m, W, c, vs, .osub _ _, t, h => by simp [mGc] at h
  | X, m, W, c, vs, .csub _ _, t, h => by simp [mGc] at h
  | X, m, W, c, vs, .dsub _ _, t, h => by simp [mGc] at h
theorem mGcs_ok {cl : Nat → Addr} {k : Nat} {Phi : Fns} : ∀ {X : Cx} {m : Mx} {W : WX} (c : Cxt X m W cl k Phi) (vs : List Nat) (gs : List G) (ts : List Expr), mGcs m vs gs ts = true → PGs X ts (rgcs (gx X cl) vs (asgs Phi gs))
  | X, m, W, c, vs, [], [], h => pgcs_nil
  | X, m, W, c, vs, [], _ :: _, h => by simp [mGcs] at h
  | X, m, W, c, vs, _ :: _, [], h => by simp [mGcs] at h
  | X, m, W, c, vs, g :: gs, t :: ts, h => by
    simp only [mGcs, Bool.and_eq_true] at h
    exact pgcs_cons (mGc_ok c vs g t h.1.1) (mGcs_ok c vs gs ts h.2) (by rw [asg_cons h.1.2]; rfl)
end
mutual
theorem mG_ok {cl : Nat → Addr} {k : Nat} {Phi : Fns} : ∀ {X : Cx} {m : Mx} {W : WX} (c : Cxt X m W cl k Phi) (g : G) (t : Expr), mG m g t = true → PG X t (rg (gx X cl) W (asgG Phi g))
  | X, m, W, c, .nm i, t, h => by
    simp only [mG] at h
    obtain ⟨x, p, rfl, zh1⟩ := nmB_ok h
    have h1 := zh1
    obtain ⟨a, b, d⟩ := c.st h1
    exact pg_nmC (pg_name c.nd a b d)
  | X, m, W, c, .tp gs, t, h => by
    simp only [mG] at h
    split at h
    · rename_i ts hv
      obtain ⟨kk, p, rfl⟩ := vTup_ok hv
      obtain ⟨a, b, d⟩ := mGs_asg (env := X.env) gs ts h
      exact pg_tupC c.calm (mGs_ok c gs ts h) a b d
    · cases h
  | X, m, W, c, .osub i kx, t, h => by
    simp only [mG] at h
    split at h
    · rename_i eo ek hv
      obtain ⟨p, rfl⟩ := vSub_ok hv
      simp only [Bool.and_eq_true] at h
      obtain ⟨⟨h1, h2⟩, h3⟩ := h
      obtain ⟨x, p2, rfl, zh1⟩ := nmB_ok h1
      have h1 := zh1
      exact pg_osubC (c.rd h1) (mE_ok c kx ek h2) (asg_sub h3)
    · cases h
  | X, m, W, c, .csub a kx, t, h => by
    simp only [mG] at h
    split at h
    · rename_i eo ek hv
      obtain ⟨p, rfl⟩ := vSub_ok hv
      simp only [Bool.and_eq_true] at h
      obtain ⟨⟨h1, h2⟩, h3⟩ := h
      exact pg_csubC (mE_ok c a eo h1) (mE_ok c kx ek h2) (asg_sub h3)
    · cases h
  | X, m, W, c, .dsub a kx, t, h => by
    simp only [mG] at h
    split at h
    · rename_i eo ek hv
      obtain ⟨p, rfl⟩ := vSub_ok hv
      simp only [Bool.and_eq_true] at h
      obtain ⟨⟨h1, h2⟩, h3⟩ := h
      exact pg_dsubC c.hu (mE_ok c a eo h1) (mE_ok c kx ek h2) (asg_sub h3)
    · cases h
theorem mGs_ok {cl : Nat → Addr} {k : Nat} {Phi : Fns} : ∀ {X : Cx} {m : Mx} {W : WX} (c : Cxt X m W cl k Phi) (gs : List G) (ts : List Expr), mGs m gs ts = true → PGs X ts (rgs (gx X cl) W (asgs Phi gs))
  | X, m, W, c, [], [], h => pgs_nilC
  | X, m, W, c, [], _ :: _, h => by simp [mGs] at h
  | X, m, W, c, _ :: _, [], h => by simp [mGs] at h
  | X, m, W, c, g :: gs, t :: ts, h => by
    simp only [mGs, Bool.and_eq_true] at h
    exact pgs_consC (mG_ok c g t h.1.1) (mGs_ok c gs ts h.2) (by rw [asg_cons h.1.2]; rfl)
end
end Dm

set_option Elab.async false
set_option linter.all false
set_option maxRecDepth 100000
set_option maxHeartbeats 4000000
set_option autoImplicit false
/-! DmH: a law's end, its def's promise being one without guards. -/
namespace Dm
open PySem PySem.Spec PyProof.Rows L2

/-- what is tracked when the law is entered: the script, and the tables of code objects -/
def trk (cs : List (Addr × Addr)) (a : Addr) (f : Option HO) : Hp := fun b => if b = a then f else if b ∈ cs.map (·.2) then some (.tbl #[]) else none
theorem trk_at {cs : List (Addr × Addr)} {a : Addr} {f : Option HO} : trk cs a f a = f := if_pos rfl
theorem trk_tab {cs : List (Addr × Addr)} {a b : Addr} {f : Option HO} (na : a ∉ cs.map (·.2)) (h : b ∈ cs.map (·.2)) : trk cs a f b = some (.tbl #[]) := by
  unfold trk
  rw [if_neg (fun z => na (by rw [← z]; exact h)), if_pos h]
theorem trk_seen {cs : List (Addr × Addr)} {a b : Addr} {f : Option HO} {u : HO} (h : trk cs a f b = some u) : (b = a ∧ f = some u) ∨ (b ∈ cs.map (·.2) ∧ u = .tbl #[]) := by
  unfold trk at h
  split at h
  · exact .inl ⟨by assumption, h⟩
  · split at h
    · cases h
      exact .inr ⟨by assumption, rfl⟩
    · cases h
theorem law_callG {P : Program} {w : World} {K : PySem.W.Frag} {mg mb : Str → Option Value} {k : Nat} {fa a : Addr} {cs : List (Addr × Addr)} {fd : FuncData} {x : Str} {sp : Sp} {s : Shared} {vs : List Value} {ns : List Int}
    (kin : K.In s.heap) (hns : s.heap.Ns mainGlobals mg) (hb : s.heap.Ns builtinsNs mb) (hbb : ∀ x : Str, x ≠ "__name__" → mb x = bootBuiltins x) (hlim : s.heap.NoLimit) (hg : s.gens = #[])
    (hT : ∀ p ∈ cs, s.heap.get? p.2 = some { cls := .none, data := .fields #[] }) (nT : ∀ p ∈ cs, K.lookup p.2 = none) (C : ∀ p ∈ cs, PySem.W.CodeHd s.heap p.1 p.2)
    (hbm : ∃ (bm : Addr) (ob : Obj), mg "__builtins__" = some (.ref bm) ∧ bm ≠ builtinsNs ∧ s.heap.get? bm = some ob ∧ ob.cls = .type "module" ∧ ob.dict = some builtinsNs ∧ ob.data = .plain)
    (ha : s.heap.get? a = some { cls := .type "list", data := .seq vs.toArray }) (hi : IntsAre vs ns) (hl : ns.length ≤ sizeLine) (hr : Room k callerA)
    (F : ∀ base : Heap, K.In base → base.Ns mainGlobals mg → (∀ p ∈ cs, LamX.TabB base mg p.1 p.2) → FnG P w K mg base k fa fd [x] sp) (hbind : ∀ (s : Shared) (u : Value), BindsTo s fd ⟨[u], []⟩ [(x, u)])
    (hsp : ∀ H : Hp, (∀ p ∈ cs, H p.2 = some (.tbl #[])) → SqL K H a (ns.map V.int) → sp [.ref a] H (fun v _ => v = .bl true) fun _ _ _ => False)
    (hCX : ∀ H e s', L2.CX P w [] H s (fun _ _ _ => False) e s' → False) :
    codeAny (model P w) callerA (.call (.ref fa) ⟨[.ref a], []⟩) (fun r s' => r = .ok (.ret (.bool true)) ∧ OldK s.heap s'.heap ∧ s'.os = s.os ∧ AllBare s'.gens) s := by
  have rv := vals_ints hi
  have tb : ∀ b ∈ cs.map (·.2), s.heap.get? b = some { cls := .none, data := .fields #[] } := fun b hb => by
    obtain ⟨p, hp, e⟩ := List.mem_map.mp hb
    exact e ▸ hT p hp
  have na : a ∉ cs.map (·.2) := fun z => by
    have q := (tb a z).symm.trans ha
    injection q with q
    injection q with q1 q2 q3
    cases q3
  -- the script: known to the module, or frozen
  obtain ⟨f, fo, fK, fS⟩ : ∃ f : Option HO, (∀ u, f = some u → u = .frz { cls := .type "list", data := .seq vs.toArray } (.lst (ns.map V.int))) ∧ (f ≠ none → K.lookup a = none) ∧ ∀ H : Hp, H a = f → SqL K H a (ns.map V.int) := by
    cases hk : K.lookup a with
    | none => exact ⟨some _, fun u z => (by cases z; rfl), fun _ => rfl, fun H z => .inl (.inr ⟨_, z⟩)⟩
    | some o =>
      have q := (kin a o hk).symm.trans ha
      injection q with q
      subst q
      exact ⟨none, fun u z => (by cases z), fun z => absurd rfl z, fun H _ => .inr ⟨_, vs.toArray, _, hk, rfl, rfl, rfl, by rw [List.size_toArray, hi.length]; exact hl, by simpa using rv⟩⟩
  generalize hH : trk cs a f = H
  have Hs : ∀ {b : Addr} {u : HO}, H b = some u → (b = a ∧ f = some u) ∨ (b ∈ cs.map (·.2) ∧ u = .tbl #[]) := fun {b u} z => trk_seen (by rw [hH]; exact z)
  have Ht : ∀ p ∈ cs, H p.2 = some (.tbl #[]) := fun p hp => hH ▸ trk_tab na (List.mem_map.mpr ⟨p, hp, rfl⟩)
  have Ha : H a = f := hH ▸ trk_at
  have Hok : HOk P w H s.heap := fun b u z => by
    rcases Hs z with ⟨rfl, e⟩ | ⟨e, rfl⟩
    · rw [fo u e]
      exact ⟨ha, by rw [List.length_map]; exact hl, vs, _, rv, ha⟩
    · exact tb b e
  -- what is neither a list nor an empty table is no tracked one
  have free : ∀ {b : Addr} {o : Obj}, s.heap.get? b = some o → (∀ us n, o.data ≠ .seq us n) → o.data ≠ .fields #[] → H b = none := fun {b o} e n1 n2 => by
    cases z : H b with
    | none => rfl
    | some u =>
      rcases Hs z with ⟨rfl, _⟩ | ⟨m, _⟩
      · rw [ha] at e
        cases e
        exact absurd rfl (n1 _ _)
      · rw [tb b m] at e
        cases e
        exact absurd rfl n2
  have inB : ∀ {b : Addr} {o : Obj}, s.heap.get? b = some o → (∀ us n, o.data ≠ .seq us n) → o.data ≠ .fields #[] → (hidT s.heap H).get? b = some o := fun e n1 n2 => hidT_get e (free e n1 n2)
  have nsB : ∀ {b : Addr} {m : Str → Option Value}, s.heap.Ns b m → (hidT s.heap H).Ns b m := fun ⟨o, es, ep, e, d, r⟩ => ⟨o, es, ep, inB e (by rw [d]; intro _ _ z; cases z) (by rw [d]; intro z; cases z), d, r⟩
  have kinB : K.In (hidT s.heap H) := fun b o e => hidT_get (kin b o e) (by
    cases z : H b with
    | none => rfl
    | some u =>
      rcases Hs z with ⟨rfl, q⟩ | ⟨m, _⟩
      · rw [fK (by rw [q]; simp)] at e
        cases e
      · obtain ⟨p, hp, q⟩ := List.mem_map.mp m
        rw [← q, nT p hp] at e
        cases e)
  have modB : L2.Mod K mg (hidT s.heap H) := by
    obtain ⟨mc, l1, l2⟩ := hlim
    exact ⟨kinB, nsB hns, ⟨mb, nsB hb, hbb⟩, mc, nsB l1, l2⟩
  obtain ⟨og, eg, ng, hog, hdg, _⟩ := id hns
  have TB : ∀ p ∈ cs, LamX.TabB (hidT s.heap H) mg p.1 p.2 := by
    intro p hp
    have et := hT p hp
    obtain ⟨bm, ob, b1, b2, b3, b4, b5, b6⟩ := hbm
    refine ⟨?_, ⟨bm, ob, b1, b2, fun q => ?_, fun q => ?_, inB b3 (by rw [b6]; intro _ _ z; cases z) (by rw [b6]; intro z; cases z), b4, b5, b6⟩, fun z => ?_⟩
    · obtain ⟨o, us, f1, f2, f3, f4, f5, f6, f7, e1, r1, r2, r3, rest⟩ := C p hp
      refine ⟨o, us, f1, f2, f3, f4, f5, f6, f7, inB e1 (by rw [r2]; intro _ _ z; cases z) (fun z => ?_), r1, r2, r3, rest⟩
      rw [r2] at z
      cases z
      simp at r3
    · rw [q, hog] at b3
      cases b3
      rw [hdg] at b6
      cases b6
    · rw [q, et] at b3
      cases b3
      cases b6
    · rw [z, et] at hog
      cases hog
      cases hdg
  have e0 : Env0 P w K mg (hidT s.heap H) callerA [] s H := { frames := rfl, mod := modB, bs := fun b o e => of_hidT e, bsz := Nat.le_of_eq (hidT_size _ _), funs := trivial, frf := fun b hb => (by cases hb), hok := Hok, bare := .of_eq hg }
  refine codeAny_mono ((F _ kinB (nsB hns) TB).go callerA [] s H ⟨[.ref a], []⟩ [.ref a] [.ref a] _ _ rfl hr e0 (hbind s (.ref a)) (.cons rfl .nil) (hsp H Ht (fS H Ha))) fun r s' q => ?_
  match r, q with
  | .error e, q => exact (hCX H e s' q).elim
  | .ok .next, q => exact q.elim
  | .ok .brk, q => exact q.elim
  | .ok .cont, q => exact q.elim
  | .ok (.ret u), ⟨v, H', os, bare, un, hok', r', (q : v = .bl true)⟩ =>
    subst q
    obtain rfl : u = Value.bool true := r'
    have stay : ∀ b o, b ∉ cs.map (·.2) → s.heap.get? b = some o → s'.heap.get? b = some o := fun b o nb e => by
      cases z : H b with
      | none => exact un.keep b o e z (fun y => by cases y) (fun y => by cases y)
      | some u =>
        rcases Hs z with ⟨rfl, y⟩ | ⟨y, _⟩
        · have eu := fo u y
          subst eu
          obtain ⟨g1, _⟩ := Hok b _ z
          obtain ⟨g2, _⟩ := hok' b _ (un.frzs b _ _ z)
          exact (e.symm.trans g1) ▸ g2
        · exact absurd y nb
    have more : ∀ b ∈ cs.map (·.2), ∃ us : Array Value, s'.heap.get? b = some { cls := .none, data := .fields us } := fun b hb => by
      obtain ⟨p, hp, rfl⟩ := List.mem_map.mp hb
      obtain ⟨us, z⟩ := un.tbls p.2 #[] (Ht p hp)
      exact ⟨_, hok' p.2 _ z⟩
    refine ⟨rfl, ⟨fun b o e => ?_, fun b o e => ?_⟩, os, bare⟩
    · by_cases m : b ∈ cs.map (·.2)
      · obtain ⟨us, z⟩ := more b m
        obtain ⟨p, hp, rfl⟩ := List.mem_map.mp m
        have eo := (tb _ m).symm.trans e
        injection eo with eo
        subst eo
        exact .inr (.inl ⟨((C p hp).tab (hT p hp)).isCodeTable, rfl, #[], us, rfl, by rw [Array.empty_append]; exact z⟩)
      · exact .inl (stay b o m e)
    · by_cases m : b ∈ cs.map (·.2)
      · obtain ⟨us, z⟩ := more b m
        exact ⟨_, z⟩
      · exact ⟨o, stay b o m e⟩
/-- a law, from what is known of its def at the head's heap -/
theorem walk_ofG {l : PySem.W.OpenLaw} {n k : Nat} {q : Program} {loose : List Str} {XP : (Str → Option Value) → Heap → Prop} {YP : World → Heap → Prop} {d : DefRec} {x : Str}
    (hn : l.most = some n) (hn2 : n ≤ sizeLine) (hdf : d.params.defaults = []) (hr : Room k callerA)
    (F : ∀ (w : World) (mg : Str → Option Value) (fa : Addr) (h : Heap), YP w h → h.Ns mainGlobals mg → mg d.name = some (.ref fa) →
      ∃ (K : PySem.W.Frag) (_ : K.In h) (fd : FuncData) (cs : List (Addr × Addr)) (sp : Sp), (∀ p ∈ cs, h.get? p.2 = some { cls := .none, data := .fields #[] }) ∧ (∀ p ∈ cs, K.lookup p.2 = none) ∧ (∀ p ∈ cs, PySem.W.CodeHd h p.1 p.2) ∧ (∀ (s : Shared) (u : Value), BindsTo s fd ⟨[u], []⟩ [(x, u)]) ∧
        (∀ (H : Hp) (a : Addr) (ns : List Int), ns.length ≤ n → (∀ p ∈ cs, H p.2 = some (.tbl #[])) → SqL K H a (ns.map V.int) → sp [.ref a] H (fun v _ => v = .bl true) fun _ _ _ => False) ∧
        ∀ base : Heap, K.In base → base.Ns mainGlobals mg → (∀ p ∈ cs, LamX.TabB base mg p.1 p.2) → FnG l.prog w K mg base k fa fd [x] sp)
    (hCX : ∀ (w : World) (H : Hp) (s : Shared) (e : Value) (s' : Shared), L2.CX l.prog w [] H s (fun _ _ _ => False) e s' → False) :
    PySem.W.WalkO q loose XP YP l.row.toRowW d [] (fun f vs => PySem.call f vs) := by
  refine Att.attach_callB hn hdf fun w s₀ s₁ mg mb fa o pm cd doc a vs ns G Y ho hd hcd hmg hobj hints hlen hbits hg => ?_
  obtain ⟨K, kin, fd, cs, sp, h1, h2, h3, h4, h5, h6⟩ := F w mg fa _ Y G.T.g hmg
  exact law_callG kin G.T.g G.T.b G.T.builtins G.T.nolimit hg h1 h2 h3 G.T.bmain hobj hints (Nat.le_trans hlen hn2) hr h6 h4 (fun H hH hS => h5 H a ns hlen hH hS) fun H e s' => hCX w H s₁ e s'
end Dm

set_option Elab.async false
set_option linter.all false
set_option maxRecDepth 100000
set_option maxHeartbeats 4000000
set_option autoImplicit false
/-! Dm13: statements, defs, a law's end. -/
namespace Dm
open PySem PySem.Spec PyProof.Rows L2

theorem fnK_kind {m : Mx} (h : fnK m = true) : m.sc.kind = .function := by
  unfold fnK at h
  split at h
  · assumption
  · cases h
theorem sw_F {X : Cx} {m : Mx} {x : Expr} {t : Str} {tp : Pos} {n : Nat} (hs : X.env.scope = m.sc) (hf : fnK m = true) (h : swB m x t tp = false) : swapsWith x (some (.Name t tp)) n X.env = pure false := by
  have hk : X.env.scope.kind = .function := by rw [hs]; exact fnK_kind hf
  have hb : X.env.blockKind = .function := by unfold Env.blockKind; rw [hk]; rfl
  cases x with
  | ListComp a g s p =>
    have e : (X.env.blockKind == .function && X.env.kindOf t == some .local && tp.line == p.line && !(s.names.any fun (n, k) => n == t && (k == .local || k == .cell))) = false := by
      rw [hb]
      have : X.env.kindOf t = m.sc.names.lookup t := by rw [← hs]; rfl
      rw [this]
      simpa [swB] using h
    show (pure (X.env.blockKind == .function && X.env.kindOf t == some .local && tp.line == p.line && !(s.names.any fun (n, k) => n == t && (k == .local || k == .cell))) : Sem Bool) = pure false
    rw [e]
  | SetComp _ _ _ _ => cases h
  | DictComp _ _ _ _ _ => cases h
  | _ => rfl
theorem sw_T {X : Cx} {m : Mx} {elt tg iter : Expr} {ifs : List Expr} {sc : Scope} {t : Str} {p tp : Pos} {n : Nat} (hs : X.env.scope = m.sc) (hf : fnK m = true) (h : swB m (.ListComp elt [⟨tg, iter, ifs, 0⟩] sc p) t tp = true) :
    swapsWith (.ListComp elt [⟨tg, iter, ifs, 0⟩] sc p) (some (.Name t tp)) n X.env = pure true ∧ X.env.scope.names.lookup t = some .local := by
  simp only [swB, Bool.and_eq_true, beq_iff_eq, Bool.not_eq_true'] at h
  obtain ⟨⟨h1, h2⟩, h3⟩ := h
  rw [← hs] at h1
  exact ⟨sw_true (by rw [hs]; exact fnK_kind hf) h1 (by simpa using h2) h3, h1⟩
theorem sole_ok {t x : Expr} {n : Nat} {env : Env} (h : (noComp x || !isNm t) = true) : swapsWithSole [t] x n env = pure false := by
  show swapsWith x (some t) n env = pure false
  rcases Bool.or_eq_true_iff.mp h with h | h
  · exact no_swap h
  · cases t <;> first | (cases h; done) | (cases x <;> rfl)
theorem any_star {f : Expr → Bool} (hf : ∀ e, noStar e = true → f e = false) : ∀ {vs : List Expr}, vs.all noStar = true → vs.any f = false
  | [], _ => rfl
  | e :: es, h => by
    rw [List.all_cons, Bool.and_eq_true] at h
    rw [List.any_cons, hf e h.1, any_star hf h.2]
    rfl
theorem fm_eq {f g : Expr → Option Str} {ts : List Expr} (h : ∀ e, f e = g e) : ts.filterMap f = ts.filterMap g := by
  rw [show f = g from funext h]
theorem fm_len {f g : Expr → Option Str} (h : ∀ e, f e = g e) {ts : List Expr} : (ts.filterMap f).length = (ts.filterMap g).length := by
  rw [show f = g from funext h]
theorem stores_ok {m : Mx} {t x : Expr} {env : Env} (hs : env.scope = m.sc) (h : noPar m t x = true) (ht : okT t = true) : swappedStores [t] x env = pure none := by
  cases t <;> first | (cases ht; done) | skip
  · cases x <;> rfl
  · cases x <;> rfl
  · cases x <;> first | rfl | skip
    rename_i ts k1 p1 vs k2 p2
    have kind : ∀ id, env.kindOf id = m.sc.names.lookup id := fun id => by rw [← hs]; rfl
    simp only [noPar, Bool.or_eq_true, Bool.and_eq_true, Bool.not_eq_true', bne_iff_ne, ne_eq] at h
    unfold swappedStores
    simp only [pure_bind]
    rcases h with ((h | h) | h) | h
    · have : (!(ts.length == 2 || ts.length == 3)) = true := by simpa using h
      simp only [this, Bool.true_or, if_true]
    · have : (vs.length != ts.length) = true := by simpa using h
      simp only [this, Bool.true_or, Bool.or_true, if_true]
    · obtain ⟨h1, h2⟩ := h
      split
      · rfl
      · rw [if_neg (by rw [any_star (fun e he => by cases e <;> first | rfl | cases he) h1]; simp)]
        refine if_pos ?_
        rw [Bool.or_eq_true]
        left
        rw [fm_len (g := selN m ((ts.head?.map (·.pos.line)).getD 0))]
        · simpa using h2
        · intro e
          cases e <;> first | rfl | (simp only [selN, kind])
    · obtain ⟨h1, h2⟩ := h
      split
      · rfl
      · rw [if_neg (by rw [any_star (fun e he => by cases e <;> first | rfl | cases he) h1]; simp)]
        simp only [h2, if_true, ite_self]
theorem okT_star {t : Expr} (h : okT t = true) : noStar t = true := by
  cases t <;> first | rfl | cases h
theorem parN_ok {m : Mx} {i n : Nat} {t : Expr} (h : parN m i t n = true) : ∃ x p, t = .Name x p ∧ m.N[i]? = some x ∧ m.sc.names.lookup x = some .local ∧ p.line = n := by
  unfold parN at h
  split at h
  · rename_i x p
    simp only [Bool.and_eq_true, beq_iff_eq, decide_eq_true_eq] at h
    exact ⟨x, p, rfl, h.1.1, h.1.2, h.2⟩
  · cases h
theorem nd_ne {N : List Str} (hN : N.Nodup) {i j : Nat} {x : Str} (h1 : N[i]? = some x) (h2 : N[j]? = some x) : i = j := by
  obtain ⟨a, b⟩ := List.getElem?_eq_some_iff.mp h1
  obtain ⟨c, d⟩ := List.getElem?_eq_some_iff.mp h2
  exact (List.getElem_inj (h₀ := a) (h₁ := c) hN).mp (by rw [b, d])
theorem blk_fn {sc : Scope} {env : Env} (hs : env.scope = sc) (hf : sc.kind = .function) : (env.blockKind != .function) = false := by
  unfold Env.blockKind
  rw [hs, hf]
  rfl
theorem sw_par2 {m : Mx} {env : Env} {x y : Str} {px py pt : Pos} {kt k2 : Nat} {pt2 : Pos} {a b : Expr} (hs : env.scope = m.sc) (hf : m.sc.kind = .function) (hx : m.sc.names.lookup x = some .local) (hy : m.sc.names.lookup y = some .local) (hl : py.line = px.line) (hne : x ≠ y)
    (h1 : [a, b].all (foldedForSure 8) = false) (h2 : [a, b].all (constantsAlone 8) = false) (hst : [a, b].all noStar = true) : swappedStores [.Tuple [.Name x px, .Name y py] kt pt] (.Tuple [a, b] k2 pt2) env = pure (some [x, y]) := by
  have kx : env.kindOf x = some .local := by rw [← hx, ← hs]; rfl
  have ky : env.kindOf y = some .local := by rw [← hy, ← hs]; rfl
  have e1 := blk_fn hs hf
  have e3 : [x, y].eraseDups.length = 2 := by
    have : (y == x) = false := by simpa using Ne.symm hne
    simp [List.eraseDups_cons, this]
  unfold swappedStores
  dsimp only
  rw [if_neg (by simp [e1]), if_neg (by rw [any_star (fun e he => by cases e <;> first | rfl | cases he) hst]; simp)]
  rw [fm_eq (g := selN m px.line)]
  · have e4 : [Expr.Name x px, Expr.Name y py].filterMap (selN m px.line) = [x, y] := by simp [selN, hx, hy, hl]
    rw [e4, if_neg (by rw [e3]; simp), if_neg (by rw [h1]; simp), if_neg (by rw [h2]; simp)]
  · intro e
    have kind : ∀ id, env.kindOf id = m.sc.names.lookup id := fun id => by rw [← hs]; rfl
    cases e <;> first | rfl | (simp only [selN, kind]; rfl)
theorem sw_par3 {m : Mx} {env : Env} {x y z : Str} {px py pz pt : Pos} {kt k2 : Nat} {pt2 : Pos} {a b c : Expr} (hs : env.scope = m.sc) (hf : m.sc.kind = .function) (hx : m.sc.names.lookup x = some .local) (hy : m.sc.names.lookup y = some .local) (hz : m.sc.names.lookup z = some .local) (hl : py.line = px.line) (hl2 : pz.line = px.line) (hxy : x ≠ y) (hxz : x ≠ z) (hyz : y ≠ z)
    (h1 : [a, b, c].all (foldedForSure 8) = false) (h2 : [a, b, c].all (constantsAlone 8) = false) (hst : [a, b, c].all noStar = true) : swappedStores [.Tuple [.Name x px, .Name y py, .Name z pz] kt pt] (.Tuple [a, b, c] k2 pt2) env = pure (some [x, y, z]) := by
  have kx : env.kindOf x = some .local := by rw [← hx, ← hs]; rfl
  have ky : env.kindOf y = some .local := by rw [← hy, ← hs]; rfl
  have kz : env.kindOf z = some .local := by rw [← hz, ← hs]; rfl
  have e1 := blk_fn hs hf
  have e3 : [x, y, z].eraseDups.length = 3 := by
    have a1 : (y == x) = false := by simpa using Ne.symm hxy
    have a2 : (z == x) = false := by simpa using Ne.symm hxz
    have a3 : (z == y) = false := by simpa using Ne.symm hyz
    simp [List.eraseDups_cons, a1, a2, a3]
  unfold swappedStores
  dsimp only
  rw [if_neg (by simp [e1]), if_neg (by rw [any_star (fun e he => by cases e <;> first | rfl | cases he) hst]; simp)]
  rw [fm_eq (g := selN m px.line)]
  · have e4 : [Expr.Name x px, Expr.Name y py, Expr.Name z pz].filterMap (selN m px.line) = [x, y, z] := by simp [selN, hx, hy, hz, hl, hl2]
    rw [e4, if_neg (by rw [e3]; simp), if_neg (by rw [h1]; simp), if_neg (by rw [h2]; simp)]
  · intro e
    have kind : ∀ id, env.kindOf id = m.sc.names.lookup id := fun id => by rw [← hs]; rfl
    cases e <;> first | rfl | (simp only [selN, kind]; rfl)
theorem aug_store {k : Expr} (h : noSlice k = true) : ∀ ov iv new, augStore k ov iv new = (do holding [new, ov, iv] (setItem ov iv new); release [new, ov, iv] []; pure .next) := by
  intro ov iv new
  cases k with
  | Slice a b c p =>
    cases c with
    | none => cases h
    | some c => rfl
  | _ => rfl
mutual
theorem mS_ok {cl : Nat → Addr} {k : Nat} {Phi : Fns} : ∀ {X : Cx} {m : Mx} {W : WX} (c : Cxt X m W cl k Phi) (own : OwnX X) (a : S) (s : Stmt), mS m a s = true → PS X s (rs (gx X cl) W (sx Phi a))
  | X, m, W, c, own, .asg g e, s, h => by
    simp only [mS] at h
    split at h
    · rename_i t x p hv
      rw [sAsg_ok hv]
      simp only [Bool.and_eq_true] at h
      obtain ⟨⟨⟨⟨h1, h2⟩, h3⟩, h4⟩, h5⟩ := h
      exact ps_asgC (mE_ok c e x h2) (mG_ok c g t h1) (sole_ok h3) (stores_ok c.sc h4 h5) (by rw [asg_cons (okT_star h5)]; rfl)
    · cases h
  | X, m, W, c, own, .asgo i e, s, h => by
    simp only [mS] at h
    split at h
    · rename_i t x p hv
      split at h
      · rename_i y hy
        rw [sAsg_ok hv]
        obtain ⟨p2, rfl⟩ := vName_ok hy
        simp only [Bool.and_eq_true, Bool.or_eq_true, Bool.not_eq_true'] at h
        obtain ⟨⟨⟨h1, h2⟩, h3⟩, h4⟩ := h
        obtain ⟨a1, a2, a3⟩ := c.st h1
        cases hsw : swB m x y p2 with
        | false => exact ps_asgoC c.nd a1 a2 a3 (mE_ok c e x h2) (sw_F c.sc h3 hsw)
        | true =>
          have h4 : isCmp e = true := by
            rcases h4 with h4 | h4
            · have : swB m x y p2 = false := h4
              rw [hsw] at this
              cases this
            · exact h4
          match e, h2, h4 with
          | .comp g it tt vs b, h2, _ =>
            simp only [mE] at h2
            split at h2
            · rename_i elt tg iter ifs sc hc
              simp only [Bool.and_eq_true] at h2
              obtain ⟨⟨⟨⟨⟨b1, b2⟩, b3⟩, b4⟩, b5⟩, b6⟩ := h2
              obtain ⟨p3, rfl⟩ := vComp_ok hc
              have ok : BlkOk X.N X.env.scope sc (ownOf m.N vs) := by
                rw [c.N, c.sc]
                exact blkOk_by b2
              obtain ⟨sw1, sw2⟩ := sw_T (X := X) (n := p.line) c.sc h3 hsw
              have key := ps_lcC (X := X) (cl := cl) (W := W) (Wf := fun _ _ _ _ => False) (pos' := p3) (spos := p) c.calm c.nd a1 sw2 sw1 (mI_ok c it tg iter b1) ok
                (p := asgG Phi g) (tc := tsts Phi tt) (ec := ev Phi b)
                (fun s H C cl' fp => by rw [own_snd]; exact mGc_ok (c.blk s H sc C cl' fp) vs g tg b3)
                (fun s H C cl' fp => mBs_ok (c.blk s H sc C cl' fp) tt ifs b4)
                (fun s H C cl' fp => mE_ok (c.blk s H sc C cl' fp) b elt b5) (no_fold b6)
              rw [own_snd] at key
              exact key
            · cases h2
      · cases h
    · cases h
  | X, m, W, c, own, .par is es, s, h => by
    simp only [mS] at h
    split at h
    · rename_i t x p hv
      rw [sAsg_ok hv]
      split at h
      · rename_i ts vs ht hx
        obtain ⟨k1, p1, rfl⟩ := vTup_ok ht
        obtain ⟨k2, p2, rfl⟩ := vTup_ok hx
        split at h
        · rename_i i j tx ty
          simp only [Bool.and_eq_true, beq_iff_eq, Bool.not_eq_true'] at h
          obtain ⟨⟨⟨⟨⟨⟨⟨h1, h2⟩, h3⟩, h4⟩, h5⟩, h6⟩, h7⟩, h8⟩ := h
          obtain ⟨x1, q1, rfl, a1, b1, c1⟩ := parN_ok h1
          obtain ⟨x2, q2, rfl, a2, b2, c2⟩ := parN_ok h2
          have hij : i ≠ j := by
            intro e
            subst e
            simp [nodupB] at h3
          match vs, h4 with
          | [ea, eb], _ =>
            exact ps_par2C c.calm c.nd (by rw [c.N]; exact a1) (by rw [c.N]; exact a2) hij (by rw [c.sc]; exact b1) (by rw [c.sc]; exact b2) (mEo_ok c es _ h7)
              (sw_par2 c.sc (fnK_kind h8) b1 b2 c2 (fun e => hij (nd_ne c.nd (by rw [c.N]; exact a1) (by rw [c.N, e]; exact a2))) h5 h6 (mEs_star _ _ h7)) rfl
        · rename_i i j k tx ty tz
          simp only [Bool.and_eq_true, beq_iff_eq, Bool.not_eq_true'] at h
          obtain ⟨⟨⟨⟨⟨⟨⟨⟨h1, h2⟩, h2'⟩, h3⟩, h4⟩, h5⟩, h6⟩, h7⟩, h8⟩ := h
          obtain ⟨x1, q1, rfl, a1, b1, c1⟩ := parN_ok h1
          obtain ⟨x2, q2, rfl, a2, b2, c2⟩ := parN_ok h2
          obtain ⟨x3, q3, rfl, a3, b3, c3⟩ := parN_ok h2'
          simp only [nodupB, Bool.and_eq_true, Bool.not_eq_true', List.contains_eq_mem, decide_eq_false_iff_not, List.mem_cons, List.not_mem_nil, or_false, not_or] at h3
          obtain ⟨⟨n1, n2⟩, n3, _⟩ := h3
          match vs, h4 with
          | [ea, eb, ec], _ =>
            exact ps_par3C c.calm c.nd (by rw [c.N]; exact a1) (by rw [c.N]; exact a2) (by rw [c.N]; exact a3) n1 n2 n3 (by rw [c.sc]; exact b1) (by rw [c.sc]; exact b2) (by rw [c.sc]; exact b3) (mEo_ok c es _ h7)
              (sw_par3 c.sc (fnK_kind h8) b1 b2 b3 c2 c3 (fun e => n1 (nd_ne c.nd (by rw [c.N]; exact a1) (by rw [c.N, e]; exact a2))) (fun e => n2 (nd_ne c.nd (by rw [c.N]; exact a1) (by rw [c.N, e]; exact a3))) (fun e => n3 (nd_ne c.nd (by rw [c.N]; exact a2) (by rw [c.N, e]; exact a3))) h5 h6 (mEs_star _ _ h7)) rfl
        · cases h
      · cases h
    · cases h
  | X, m, W, c, own, .aug i o e, s, h => by
    simp only [mS] at h
    split at h
    · rename_i t oe x hv
      obtain ⟨p, rfl⟩ := sAug_ok hv
      simp only [Bool.and_eq_true] at h
      obtain ⟨⟨h1, h2⟩, h3⟩ := h
      obtain ⟨y, p2, rfl, zh1⟩ := nmB_ok h1
      obtain ⟨a1, a2, a3⟩ := c.st zh1
      rw [bopM_ok h2]
      exact ps_augC c.nd a1 a2 a3 (mE_ok c e x h3)
    · cases h
  | X, m, W, c, own, .oaug i kk o e, s, h => by
    simp only [mS] at h
    split at h
    · rename_i t oe x hv
      obtain ⟨p, rfl⟩ := sAug_ok hv
      split at h
      · rename_i eo ek ht
        obtain ⟨p2, rfl⟩ := vSub_ok ht
        simp only [Bool.and_eq_true] at h
        obtain ⟨⟨⟨⟨h1, h2⟩, h3⟩, h4⟩, h5⟩ := h
        obtain ⟨y, p3, rfl, zh1⟩ := nmB_ok h1
        rw [bopM_ok h4]
        exact ps_oaugC (c.rd zh1) (mE_ok c kk ek h2) (mE_ok c e x h5) (aug_store h3)
      · cases h
    · cases h
  | X, m, W, c, own, .caug _ _ _ _, s, h => by simp [mS] at h
  | X, m, W, c, own, .exp e, s, h => by
    simp only [mS] at h
    split at h
    · rename_i x p hv
      rw [sExp_ok hv]
      rw [Bool.and_eq_true] at h
      exact ps_expC (mE_ok c e x h.1) (no_swap h.2)
    · cases h
  | X, m, W, c, own, .ret e, s, h => by
    simp only [mS] at h
    split at h
    · rename_i x hv
      obtain ⟨p, rfl⟩ := sRet_ok hv
      exact ps_retC (mE_ok c e x h)
    · cases h
  | X, m, W, c, own, .retN, s, h => by
    simp only [mS] at h
    split at h
    · rename_i hv
      obtain ⟨p, rfl⟩ := sRet_ok hv
      exact ps_retNC
    · cases h
  | X, m, W, c, own, .ife t a b, s, h => by
    simp only [mS] at h
    split at h
    · rename_i x sa sb hv
      obtain ⟨p, rfl⟩ := sIf_ok hv
      simp only [Bool.and_eq_true] at h
      exact ps_ifC (mB_ok c t x h.1.1) (mSs_ok c own a sa h.1.2) (mSs_ok c own b sb h.2)
    · cases h
  | X, m, W, c, own, .for g it ks gc b, s, h => by
    simp only [mS] at h
    split at h
    · rename_i t x sb hv
      obtain ⟨p, rfl⟩ := sFor_ok hv
      simp only [Bool.and_eq_true] at h
      obtain ⟨⟨⟨h1, h2⟩, h3⟩, h4⟩ := h
      exact ps_forC own.own c.calm (mI_ok c it t x h1) (mG_ok c g t h2) (mSs_ok c own b sb h3) (no_fold h4)
    · cases h
  | X, m, W, c, own, .whl n t ks b, s, h => by
    simp only [mS] at h
    split at h
    · rename_i x sb hv
      obtain ⟨p, rfl⟩ := sWhl_ok hv
      rw [Bool.and_eq_true] at h
      exact ps_whlC own.own (mB_ok c t x h.1) (mSs_ok c own b sb h.2)
    · cases h
  | X, m, W, c, own, .pass, s, h => by
    obtain ⟨p, rfl⟩ := sPass_ok (by simpa only [mS] using h)
    exact ps_passC
  | X, m, W, c, own, .brk, s, h => by
    obtain ⟨p, rfl⟩ := sBrk_ok (by simpa only [mS] using h)
    exact ps_brkC
  | X, m, W, c, own, .cnt, s, h => by
    obtain ⟨p, rfl⟩ := sCnt_ok (by simpa only [mS] using h)
    exact ps_cntC
  | X, m, W, c, own, .rse k, s, h => by
    simp only [mS] at h
    split at h
    · rename_i x hv
      obtain ⟨p, msg, j, p2, p3, pos, rfl⟩ := sRse_ok hv
      simp only [Bool.and_eq_true, beq_iff_eq] at h
      obtain ⟨⟨⟨rfl, h1⟩, h2⟩, h3⟩ := h
      exact ps_rseC c (by simpa using h2) h3 (c.glN h1)
    · cases h
  | X, m, W, c, own, .dead, s, h => ⟨fun pins s σ H D I q => by
      obtain ⟨Kp, l, st, R, f⟩ := q
      exact (show False from f).elim⟩
  | X, m, W, c, own, .fst cs a f e, s, h => by
    simp only [mS] at h
    split at h
    · rename_i t x p hv
      split at h
      · rename_i eo n ap ht
        rw [sAsg_ok hv, vAttr_ok ht]
        simp only [Bool.and_eq_true, beq_iff_eq] at h
        obtain ⟨⟨⟨rfl, h1⟩, h2⟩, h3⟩ := h
        exact ps_fstC (mE_ok c e x h2) (mE_ok c a eo h1) (by cases x <;> rfl) (fld_by c h3)
      · cases h
    · cases h
  | X, m, W, c, own, .tri b ks k i j, s, h => by
    simp only [mS] at h
    split at h
    · rename_i body x n y hv
      obtain ⟨np, yp, np2, ap, pos', pos, rfl⟩ := sTri_ok hv
      simp only [Bool.and_eq_true, beq_iff_eq, decide_eq_true_eq, Bool.not_eq_true', beq_eq_false_iff_ne] at h
      obtain ⟨⟨⟨⟨⟨⟨⟨⟨⟨⟨rfl, h1⟩, h2⟩, h3⟩, h4⟩, h5⟩, h6⟩, h7⟩, h8⟩, h9⟩, h10⟩ := h
      unfold okNm at h9
      rw [Bool.and_eq_true, Bool.not_eq_true', Bool.not_eq_true'] at h9
      exact ps_triC c own (by rw [c.N]; exact h5) (by rw [c.N]; exact h6) (by show X.env.scope.names.lookup n = _; rw [c.sc]; exact h7) (by show X.env.scope.names.lookup y = _; rw [c.sc]; exact h8) h9.1 h9.2 (by simpa using h2) h3 (c.glN h1) h4
        fun W' pn xe tk po => mSs_ok (c.tr tk) ⟨po, own.stk, own.fr, own.nox⟩ b body h10
    · cases h
theorem mSs_ok {cl : Nat → Addr} {k : Nat} {Phi : Fns} : ∀ {X : Cx} {m : Mx} {W : WX} (c : Cxt X m W cl k Phi) (own : OwnX X) (as : List S) (ss : List Stmt), mSs m as ss = true → PSs X ss (rs (gx X cl) W (sxs Phi as))
  | X, m, W, c, own, [], [], h => pss_nilC
  | X, m, W, c, own, [], _ :: _, h => by simp [mSs] at h
  | X, m, W, c, own, _ :: _, [], h => by simp [mSs] at h
  | X, m, W, c, own, a :: as, s :: ss, h => by
    simp only [mSs, Bool.and_eq_true] at h
    exact pss_consC (mS_ok c own a s h.1) (mSs_ok c own as ss h.2)
end

/-! ### defs -/
/-- a def of the text: its name, parameters, slots, its statement, our form of it -/
structure DefI where
  x : Str
  ps : List Str
  N : List Str
  st : Stmt
  fn : Fn
  cl : Option Nat := none
/-- its name as a def within its class -/
def DefI.qual (d : DefI) : Str := match d.cl with
  | none => d.x
  | some c => csN c ++ "." ++ d.x
def fnScB (N ps : List Str) (sc : Scope) : Bool := (match sc.kind with | .function => true | _ => false) && !sc.isCoroutine && !sc.isGenerator && decide N.Nodup && decide (N.take ps.length = ps) &&
  (ps.all fun x => sc.names.lookup x == some .local || sc.names.lookup x == some .cell) && (sc.names.all fun y => !(y.2 == .free))
theorem fnSc_ok {N ps : List Str} {sc : Scope} (h : fnScB N ps sc = true) : FnScope N ps sc := by
  unfold fnScB at h
  simp only [Bool.and_eq_true, Bool.not_eq_true', decide_eq_true_eq, List.all_eq_true, Bool.or_eq_true, beq_iff_eq] at h
  obtain ⟨⟨⟨⟨⟨⟨h1, h2⟩, h3⟩, h4⟩, h5⟩, h6⟩, h7⟩ := h
  refine ⟨?_, h2, h3, h4, h5, h6, fun y hy e => ?_⟩
  · split at h1
    · assumption
    · cases h1
  · have := h7 y hy
    rw [e] at this
    cases this
/-- a method's statement within its class's -/
def methS (s : Stmt) (j : Nat) : Stmt := match s with
  | .ClassDef _ _ _ body _ _ _ _ _ _ _ => body.getD j (.Pass ⟨0, 0, 0, 0⟩)
  | s => s
/-- a program: its defs, its constants -/
structure Pg where
  ds : List (Nat × DefI)
  gl : Str → Option Cn
  tab : Tab
  ex : List Nat
  cls : List Nat := []
  fls : List Str := []
def Pg.mx (p : Pg) (d : DefI) : Mx where
  N := d.N
  sc := defScope d.st
  fnc := fun _ => true
  nm := fun f => (p.ds.lookup f).bind fun d => if d.cl.isNone then some (d.x, d.ps.length) else none
  gl := p.gl
  lam := d.cl.isNone && lamNames.contains d.x
  ex := p.ex
  mt := fun f => (p.ds.lookup f).bind fun d => d.cl.map fun c => (c, d.x, d.ps.length)
  cls := p.cls
  fls := p.fls
def Pg.okD (p : Pg) (d : DefI) : Bool := decide (d.fn.ps = d.ps.length) && decide (d.fn.ns = d.N.length) && fnScB d.N d.ps (defScope d.st) && mSs (p.mx d) d.fn.body (defBody d.st)
/-- where a def stands -/
structure DefAt (K : PySem.W.Frag) (mg : Str → Option Value) (d : DefI) (a : Addr) : Prop where
  g : d.cl = none → mg d.x = some (.ref a)
  m : ∀ c, d.cl = some c → Cls K (csA K c) ∧ Meth K (csA K c) d.x a ∧ (d.x = "__init__" → Mk K (csA K c) a ∧ mg (csN c) = some (.ref (csA K c)))
/-- what the run of the top leaves: the defs at their names, the built-in names free, the constants -/
structure Env1 (p : Pg) (K : PySem.W.Frag) (mg : Str → Option Value) : Prop where
  defs : ∀ (f : Nat) (d : DefI), (f, d) ∈ p.ds → ∃ (a : Addr) (fd : FuncData), DefAt K mg d a ∧ FunD K d.x d.qual (defArgs d.st) (defBody d.st) (defScope d.st) [] [] a fd ∧ ∀ (s : Shared) (us : List Value), us.length = d.ps.length → BindsTo s fd ⟨us, []⟩ (d.ps.zip us)
  blt : ∀ x ∈ bltNames, mg x = none
  gl : ∀ x c, p.gl x = some c → ∃ u, mg x = some u ∧ RelV (cnV c) u
  ex : ExF K mg p.ex
  fld : ∀ c ∈ p.cls, Cls K (csA K c) ∧ ∀ f ∈ p.fls, NoAttr K (csA K c) f
section
variable {p : Pg} {P : Program} {w : World} {K : PySem.W.Frag} {mg : Str → Option Value} {base : Heap} {cl : Nat → Addr}
theorem rel_start {H : Hp} {l : List Addr} {m : List Cell} {ds : List D} {vs : List V} {N : List Str} {ns np : Nat} (hr : Reps K H l ds vs) (M : Mem K H l m) (hn : ns = N.length) (hp : ds.length = np) (hle : np ≤ ns) :
    Rel K (Kpc l H) (start N vs) H l ⟨ds.map (fun d => some (.val d)) ++ List.replicate (ns - np) none, m⟩ := by
  have noown : ∀ (i : Nat) (xs : List D), (ds.map (fun d => some (EV.val d)) ++ List.replicate (ns - np) none)[i]? ≠ some (some (EV.own xs)) := fun i xs e => by
    rw [List.getElem?_append] at e
    split at e
    · rw [List.getElem?_map] at e
      obtain ⟨d, _, e2⟩ := Option.map_eq_some_iff.mp e
      cases e2
    · rw [List.getElem?_replicate] at e
      split at e <;> cases e
  exact {
    ln := by
      unfold L2.start
      simp only [List.length_append, List.length_map, List.length_replicate, hr.len]
      omega
    nd := M.nd
    ml := M.ml
    tr := M.tr
    kp := fun q o e => by
      unfold Kpc at e
      split at e
      · cases e
      · exact (noTb_some e).1
    kt := fun q ps e => by
      unfold Kpc at e
      split at e
      · cases e
      · exact (noTb_some e).2 ps rfl
    tb := M.tb
    kc := fun a ha => by
      unfold Kpc
      rw [if_pos ha]
    cells := M.cells
    slots := fun i e hi => by
      cases e with
      | own xs => exact absurd hi (noown i xs)
      | val d =>
        have hi' : ds[i]? = some d := by
          rw [List.getElem?_append] at hi
          split at hi
          · rw [List.getElem?_map] at hi
            obtain ⟨d', e1, e2⟩ := Option.map_eq_some_iff.mp hi
            cases e2
            exact e1
          · rw [List.getElem?_replicate] at hi
            split at hi <;> cases hi
        obtain ⟨v, e1, e2⟩ := hr.get hi'
        refine ⟨v, ?_, e2⟩
        unfold L2.start
        rw [List.getElem?_append_left (by rw [List.length_map]; exact (List.getElem?_eq_some_iff.mp e1).1), List.getElem?_map, e1]
        rfl
    own := fun i xs q hi => absurd hi (noown i xs)
    dist := fun i j xs ys q hi => absurd hi (noown i xs) }
/-- what was made is forgotten: the cells that stay -/
theorem trim_mem (gc : Bool) {r : EV} {H' : Hp} {l l' : List Addr} {m m' : List Cell} (hl : l.length = m.length) (hp : l <+: l') (M : Mem K H' l' m') :
    ∃ l2, l <+: l2 ∧ Mem K H' l2 (trimR gc m.length r m') ∧ (∀ a ∈ l2, a ∈ l') ∧ ∀ (H : Hp), (∀ d v, r.d = d → Rep K H l' d v → Rep K H l2 d v) ∧ ∀ xs vs, r.d = .lst xs → Reps K H l' xs vs → Reps K H l2 xs vs := by
  unfold trimR
  split
  · rename_i hg
    rw [Bool.and_eq_true] at hg
    unfold trimM
    split
    · rename_i hm
      refine ⟨l'.take l.length, pre_take hp, ⟨M.nd.sublist (List.take_sublist _ _), by rw [List.length_take, List.length_take, M.ml, hl], fun a h => M.tr a (List.mem_of_mem_take h), fun n a c h1 h2 => ?_, M.tb⟩, fun a h => List.mem_of_mem_take h, fun H => ⟨fun d v e h => ?_, fun xs vs e h => ?_⟩⟩
      · have g1 := pre_get (List.take_prefix _ _) h1
        have g2 := pre_get (List.take_prefix _ _) h2
        have hp : c.pure = true := List.all_eq_true.mp hm _ (List.mem_of_getElem? h2)
        cases c with
        | lst xs =>
          obtain ⟨vs, q1, q2⟩ := M.cells n a _ g1 g2
          exact ⟨vs, q1, Reps.pure xs vs hp q2⟩
        | ins _ _ => cases hp
        | dct _ => cases hp
      · subst e
        exact Rep.pure _ v hg.2 h
      · have hp := hg.2
        rw [e] at hp
        exact Reps.pure _ vs (by simpa [D.pure] using hp) h
    · exact ⟨l', hp, M, fun _ h => h, fun _ => ⟨fun _ _ _ h => h, fun _ _ _ h => h⟩⟩
  · exact ⟨l', hp, M, fun _ h => h, fun _ => ⟨fun _ _ _ h => h, fun _ _ _ h => h⟩⟩
theorem lookup_mem {α : Type} : ∀ {xs : List (Nat × α)} {f : Nat} {d : α}, xs.lookup f = some d → (f, d) ∈ xs
  | [], _, _, h => by cases h
  | (g, e) :: xs, f, d, h => by
    rw [List.lookup_cons] at h
    split at h
    · rename_i c
      cases h
      rw [beq_iff_eq] at c
      subst c
      simp
    · exact List.mem_cons_of_mem _ (lookup_mem h)
/-- the defs that make lambdas: their code objects, their tables -/
def LamG (p : Pg) (K : PySem.W.Frag) (mg : Str → Option Value) (base : Heap) : Prop := ∀ (d : DefI) (a : Addr) (fd : FuncData), d.cl = none → lamNames.contains d.x = true → mg d.x = some (.ref a) → FunD K d.x d.x (defArgs d.st) (defBody d.st) (defScope d.st) [] [] a fd →
  ∃ c P, fd.code = .ref c ∧ LamX.TabB base mg c P ∧ TQ K P (lamQ d.x) ∧ ∀ P' q', TQ K P' q' → P' = P ∧ q' = lamQ d.x
theorem fn_level (hcl : cl = clA K) (LG : LamG p K mg base) (G : Env1 p K mg) (hok : p.ds.all (fun d => p.okD d.2) = true) (hT : ∀ x ∈ p.ds, p.tab x.1 = some x.2.fn) : ∀ (k f : Nat) (d : DefI), p.ds.lookup f = some d → ∀ (a : Addr) (fd : FuncData), DefAt K mg d a → FunD K d.x d.qual (defArgs d.st) (defBody d.st) (defScope d.st) [] [] a fd →
    FnG P w K mg base (2 * k) a fd d.ps (spOf K cl d.ps.length (Phi p.tab k f))
  | 0, f, d, hf, a, fd, hm, F => by
    refine ⟨fun vs H Q E h => h.1, fun A outer s H args us vs Q E gd hr he hb hv h => ?_⟩
    obtain ⟨_, ds, m, l, _, _, h⟩ := h
    exact (show False from h).elim
  | k + 1, f, d, hf, a, fd, hm, F => by
    have hd : p.okD d = true := List.all_eq_true.mp hok (f, d) (lookup_mem hf)
    unfold Pg.okD at hd
    simp only [Bool.and_eq_true, decide_eq_true_eq] at hd
    obtain ⟨⟨⟨o1, o2⟩, o3⟩, o4⟩ := hd
    have S := fnSc_ok o3
    have hL := fun (hc : d.cl = none) (hl : lamNames.contains d.x = true) => LG d a fd hc hl (hm.g hc) (by have := F; unfold DefI.qual at this; rw [hc] at this; exact this)
    obtain ⟨oc, od, dV, kV, doc, pm, an, cdv, ct, osl, rfl, lk, hcd, zz1, zz2⟩ := F.ex
    refine fnG_of (k := 2 * k + 1) lk hcd S (fun vs H Q E h => h.1) fun A outer s H vs Q E gd hr h => ?_
    have c : Cxt (cxOf (L2.CX P w) P w K mg base d.N d.qual (defScope d.st) a cdv A outer s H E) (p.mx d) (fun cls dd _ H => E cls dd H) cl k (Phi p.tab k) := {
      N := rfl
      sc := rfl
      fn := rfl
      calm := rfl
      nd := S.nd
      gd := gd
      room := hr
      tk := takes_of rfl rfl rfl rfl
      blt := G.blt
      gl := G.gl
      ex := ⟨G.ex, hcl⟩
      fns := fun f' x n hn => by
        obtain ⟨d', e1, e2⟩ := Option.bind_eq_some_iff.mp (show ((p.ds.lookup f').bind fun d => if d.cl.isNone then some (d.x, d.ps.length) else none) = some (x, n) from hn)
        split at e2
        · rename_i hcl'
          cases e2
          obtain ⟨a', fd', m', F', B'⟩ := G.defs f' d' (lookup_mem e1)
          exact ⟨2 * k, a', fd', d'.ps, Nat.le_refl _, rfl, m'.g (Option.isNone_iff_eq_none.mp hcl'), F'.kp, (fun s us _ hl => by rw [List.append_nil] at hl ⊢; exact B' s us hl), fn_level hcl LG G hok hT k f' d' e1 a' fd' m' F'⟩
        · cases e2
      mts := fun f' ci x n hn => by
        obtain ⟨d', e1, e2⟩ := Option.bind_eq_some_iff.mp (show ((p.ds.lookup f').bind fun d => d.cl.map fun c => (c, d.x, d.ps.length)) = some (ci, x, n) from hn)
        obtain ⟨c', e3, e4⟩ := Option.map_eq_some_iff.mp e2
        cases e4
        obtain ⟨a', fd', m', F', B'⟩ := G.defs f' d' (lookup_mem e1)
        obtain ⟨z1, z2, z3⟩ := m'.m _ e3
        exact ⟨a', fd', d'.ps, rfl, z1, z2, z3, (fun s us _ hl => by rw [List.append_nil] at hl ⊢; exact B' s us hl), fn_level hcl LG G hok hT k f' d' e1 a' fd' m' F'⟩
      fld := G.fld
      lam := fun hl => by
        have hl : (d.cl.isNone && lamNames.contains d.x) = true := hl
        rw [Bool.and_eq_true] at hl
        have hc := Option.isNone_iff_eq_none.mp hl.1
        obtain ⟨c, P, h1, h2, h3, h4⟩ := hL hc hl.2
        have eq : d.qual = d.x := by unfold DefI.qual; rw [hc]
        refine ⟨c, P, h1, h2, ?_, ?_⟩
        · show TQ K P ((d.qual ++ ".<locals>.") ++ "<lambda>")
          rw [eq]
          exact h3
        · show ∀ P' q', TQ K P' q' → P' = P ∧ q' = (d.qual ++ ".<locals>.") ++ "<lambda>"
          rw [eq]
          exact h4 }
    refine ⟨_, mSs_ok c ⟨passes_of rfl, rfl, rfl, rfl⟩ d.fn.body (defBody d.st) o4, ?_⟩
    obtain ⟨hl, ds, m, l, hr', M, h⟩ := h
    have hlen : ds.length = d.ps.length := by rw [← hr'.len, hl]
    have hle : d.ps.length ≤ d.N.length := by
      have := congrArg List.length S.pre
      rw [List.length_take] at this
      omega
    have R0 := rel_start (N := d.N) (ns := d.fn.ns) (np := d.fn.ps) hr' M o2 (by rw [hlen, o1]) (by omega)
    refine ⟨_, l, _, R0, ?_⟩
    have et : p.tab f = some d.fn := hT (f, d) (lookup_mem hf)
    have ePhi : Phi p.tab (k + 1) f ds m = runFn (Phi p.tab k) d.fn ds m := by
      show (match p.tab f with
        | some fd => runFn (Phi p.tab k) fd ds m
        | none => .err) = _
      rw [et]
    rw [ePhi] at h
    unfold runFn at h
    rw [if_pos (by rw [hlen, o1])] at h
    cases ho : sxs (Phi p.tab k) d.fn.body ⟨ds.map (fun d => some (.val d)) ++ List.replicate (d.fn.ns - d.fn.ps) none, m⟩ with
    | err => rw [ho] at h; exact (show False from h).elim
    | exc x st' =>
      rw [ho] at h
      intro cls dd σ' H' l' R pe hl' xr
      obtain ⟨l2, q1, q2, q3, q4⟩ := trim_mem d.fn.gc (r := .val .non) (M.ml) hl' R.mem
      exact h cls dd H' l2 pe q1 q2 ⟨R.kp, fun a ha => R.kc a (q3 a ha)⟩ xr
    | ok fl st' =>
      rw [ho] at h
      intro σ' H' l' R pe hl'
      cases fl with
      | nx =>
        obtain ⟨l2, q1, q2, q3, q4⟩ := trim_mem d.fn.gc (r := .val .non) (M.ml) hl' R.mem
        exact h .non H' l2 pe q1 q2 ⟨R.kp, fun a ha => R.kc a (q3 a ha)⟩ rfl
      | bk => exact (show False from h).elim
      | ct => exact (show False from h).elim
      | rt r =>
        intro v hv _ _
        obtain ⟨l2, q1, q2, q3, q4⟩ := trim_mem d.fn.gc (r := r) (M.ml) hl' R.mem
        refine h v H' l2 pe q1 q2 ⟨R.kp, fun a ha => R.kc a (q3 a ha)⟩ ?_
        cases r with
        | val dd => exact (q4 H').1 dd v rfl hv
        | own xs =>
          obtain ⟨q, vs', e1, e2, e3, e4, e5, e6⟩ := hv
          refine ⟨q, vs', e1, e2, (q4 H').2 xs vs' rfl e3, ?_, fun z => e5 (q3 q z)⟩
          · unfold Kpc at e4
            split at e4
            · rename_i hm'
              obtain ⟨t, rfl⟩ := hl'
              exact absurd (List.mem_append_left t hm') e5
            · exact e4
/-- the law's promise -/
theorem sp_law {f k : Nat} (h : ∀ ns : List Int, ns.length ≤ 63 → ∃ m, Phi p.tab k f [.scr ns] [] = .ok (.val (.bl true)) m) {H : Hp} {a : Addr} {ns : List Int} (hn : ns.length ≤ 63) (hS : ScrL K H a (ns.map V.int)) (tb : ∀ P q, TQ K P q → LamX.TabS H P q) :
    spOf K cl 1 (Phi p.tab k f) [.ref a] H (fun v _ => v = .bl true) fun _ _ _ => False := by
  obtain ⟨m, e⟩ := h ns hn
  refine ⟨rfl, [.scr ns], [], [], ⟨.ref a, [], rfl, ⟨a, rfl, hS⟩, rfl⟩, ⟨.nil, rfl, fun a m => (by cases m), fun n a c e => (by simp at e), tb⟩, ?_⟩
  rw [e]
  intro v H' l' _ _ _ _ rv
  exact rv
/-- .. the script may be no frozen one -/
def spL (sp : Sp) : Sp := fun vs H Q E => sp vs H Q E ∨ ∃ a xs, vs = [.ref a] ∧ H a = some (.lst xs) ∧ (∀ H', Q (.bl true) H') ∧ ∀ od, sp vs (upd H a (.frz od (.lst xs))) (fun v _ => v = .bl true) fun _ _ _ => False
theorem spL_ok {k : Nat} {fa : Addr} {fd : FuncData} {x : Str} {sp : Sp} (F : FnG P w K mg base k fa fd [x] sp) : FnG P w K mg base k fa fd [x] (spL sp) := by
  refine ⟨fun vs H Q E h => ?_, fun A outer s H args us vs Q E gd hr e0 hb r h => ?_⟩
  · rcases h with h | ⟨a, xs, rfl, _⟩
    · exact F.len _ _ _ _ h
    · rfl
  · rcases h with h | ⟨a, xs, rfl, ha, hQ, h⟩
    · exact F.go A outer s H args us vs Q E gd hr e0 hb r h
    · obtain ⟨o, ho⟩ := objOk_get (e0.hok a _ ha)
      have h := h o
      have na : ∀ b, H b = none → b ≠ a := fun b e z => by
        rw [z, ha] at e
        cases e
      have hu : ∀ b, b ≠ a → upd H a (.frz o (.lst xs)) b = H b := fun b n => upd_ne n
      have e1 : Env0 P w K mg base A outer s (upd H a (.frz o (.lst xs))) := by
        refine ⟨e0.frames, e0.mod, fun b u e => ?_, e0.bsz, e0.funs, fun b hb => ?_, fun b u e => ?_, e0.bare⟩
        · obtain ⟨q1, q2⟩ := e0.bs b u e
          exact ⟨q1, by rw [hu b (na b q2)]; exact q2⟩
        · have q := e0.frf b hb
          rw [hu b (na b q)]
          exact q
        · by_cases hba : b = a
          · subst hba
            rw [upd_same] at e
            cases e
            exact ⟨ho, (e0.hok b _ ha).stay (fun d v _ q => q) (fun d q => by rw [hu d (fun z => by rw [z, ha] at q; cases q)]; exact q) fun d ys q => by rw [hu d (fun z => by rw [z, ha] at q; cases q)]; exact q⟩
          · rw [hu b hba] at e
            exact (e0.hok b u e).stay (fun d v _ q => q) (fun d q => by rw [hu d (fun z => by rw [z, ha] at q; cases q)]; exact q) fun d ys q => by rw [hu d (fun z => by rw [z, ha] at q; cases q)]; exact q
      refine codeAny_mono (F.go A outer s _ args us [.ref a] _ _ gd hr e1 hb r h) fun res s' hq => ?_
      cases res with
      | error e =>
        obtain ⟨_, _, _, _, _, _, _, _, _, _, _, _, z⟩ := hq
        exact z.elim
      | ok fl =>
        cases fl with
        | next => exact False.elim hq
        | brk => exact False.elim hq
        | cont => exact False.elim hq
        | ret u =>
          obtain ⟨v, H', os, bare, un, hok, rv, q⟩ := hq
          subst q
          have fa' : H' a = some (.frz o (.lst xs)) := un.frzs a o _ upd_same
          have hu' : ∀ b, b ≠ a → upd H' a (.lst xs) b = H' b := fun b n => upd_ne n
          refine ⟨.bl true, upd H' a (.lst xs), os, bare, ?_, fun b u e => ?_, rv, hQ _⟩
          · exact {
              keep := fun b u e n => un.keep b u e (by rw [hu b (na b n)]; exact n)
              slot := fun b u e n => un.slot b u e (by rw [hu b (na b n)]; exact n)
              free := fun b u e n m => by rw [hu' b (na b n)]; exact un.free b u e (by rw [hu b (na b n)]; exact n) m
              there := un.there
              tups := fun b ys e => by
                have nb : b ≠ a := fun z => by rw [z, ha] at e; cases e
                rw [hu' b nb]
                exact un.tups b ys (by rw [hu b nb]; exact e)
              frzs := fun b ob ys e => by
                have nb : b ≠ a := fun z => by rw [z, ha] at e; cases e
                rw [hu' b nb]
                exact un.frzs b ob ys (by rw [hu b nb]; exact e)
              tbls := fun b ps e => by
                have nb : b ≠ a := fun z => by rw [z, ha] at e; cases e
                rw [hu' b nb]
                exact un.tbls b ps (by rw [hu b nb]; exact e) }
          · have st : ∀ {b : Addr} {u : HO}, ObjOk P w H' s'.heap b u → ObjOk P w (upd H' a (.lst xs)) s'.heap b u := fun {b u} z => z.stay (fun d v _ q => q) (fun d q => by rw [hu' d (fun z => by rw [z, fa'] at q; cases q)]; exact q) fun d ys q => by rw [hu' d (fun z => by rw [z, fa'] at q; cases q)]; exact q
            by_cases hba : b = a
            · subst hba
              rw [upd_same] at e
              cases e
              exact st (hok b _ fa').2
            · rw [hu' b hba] at e
              exact st (hok b u e)
theorem tabS_nil {H : Hp} {P : Addr} {q : Str} (h : H P = some (.tbl #[])) : LamX.TabS H P q := LamX.TabS.nil h
theorem law_F {x : Str} {cs : List (Addr × Addr)} (E : Env1 p K mg) (hok : p.ds.all (fun d => p.okD d.2) = true) (hT : ∀ x ∈ p.ds, p.tab x.1 = some x.2.fn) {f k : Nat} {d : DefI} (hf : p.ds.lookup f = some d) (hps : d.ps = [x]) (hcd : d.cl = none) (hval : ∀ ns : List Int, ns.length ≤ 63 → ∃ m, Phi p.tab k f [.scr ns] [] = .ok (.val (.bl true)) m) {fa : Addr} (hm : mg d.x = some (.ref fa))
    (tq : ∀ P q, TQ K P q → P ∈ cs.map (·.2)) (LG : ∀ base : Heap, (∀ p ∈ cs, LamX.TabB base mg p.1 p.2) → LamG p K mg base) :
    ∃ (fd : FuncData) (sp : Sp), (∀ (s : Shared) (u : Value), BindsTo s fd ⟨[u], []⟩ [(x, u)]) ∧ (∀ (H : Hp) (a : Addr) (ns : List Int), ns.length ≤ 63 → (∀ p ∈ cs, H p.2 = some (.tbl #[])) → SqL K H a (ns.map V.int) → sp [.ref a] H (fun v _ => v = .bl true) fun _ _ _ => False) ∧
      ∀ base : Heap, K.In base → base.Ns mainGlobals mg → (∀ p ∈ cs, LamX.TabB base mg p.1 p.2) → FnG P w K mg base (2 * k) fa fd [x] sp := by
  obtain ⟨a, fd, dA, F, B⟩ := E.defs f d (lookup_mem hf)
  have ma := dA.g hcd
  have e : a = fa := by
    rw [hm] at ma
    injection ma with ma
    injection ma with ma
    exact ma.symm
  subst e
  refine ⟨fd, spL (spOf K (clA K) 1 (Phi p.tab k f)), fun s u => ?_, fun H a ns hn hH hS => ?_, fun base _ _ TB => ?_⟩
  · have := B s [u] (by rw [hps]; rfl)
    rw [hps] at this
    exact this
  · have tb : ∀ P q, TQ K P q → H P = some (.tbl #[]) := fun P q h => by
      obtain ⟨c, hc, e⟩ := List.mem_map.mp (tq P q h)
      rw [← e]
      exact hH c hc
    rcases hS with (hS | ⟨o, hS⟩) | hS
    · refine .inr ⟨a, _, rfl, hS, fun _ => rfl, fun od => sp_law hval hn (.inl ⟨od, upd_same⟩) fun P q h => LamX.TabS.nil ?_⟩
      rw [upd_ne (fun z => by have := tb P q h; rw [z, hS] at this; cases this)]
      exact tb P q h
    · exact .inl (sp_law hval hn (.inl ⟨o, hS⟩) fun P q h => LamX.TabS.nil (tb P q h))
    · exact .inl (sp_law hval hn (.inr hS) fun P q h => LamX.TabS.nil (tb P q h))
  · have := fn_level (P := P) (w := w) (base := base) (cl := clA K) rfl (LG base TB) E hok hT k f d hf a fd dA F
    rw [hps] at this
    exact spL_ok this
/-- the defs that make lambdas, from what the head tells -/
def lamT (xs : List Str) : List He.Defn := xs.map fun x => (x, none)
def lamX (xs : List Str) (K : PySem.W.Frag) : Bool := decide (xs.length ≤ 1) && lamNames.all fun x => xs.contains x || !PySem.W.codeHdIn K (He.cT K (x, none)).1 (He.cT K (x, none)).2
theorem lam_tq {xs : List Str} (h : lamX xs K = true) : ∀ P q, TQ K P q → P ∈ ((lamT xs).map (He.cT K)).map (·.2) := by
  rintro P q ⟨x, hx, h1, rfl, rfl⟩
  unfold lamX at h
  rw [Bool.and_eq_true] at h
  have := List.all_eq_true.mp h.2 x hx
  rw [h1, Bool.or_eq_true] at this
  rcases this with z | z
  · exact List.mem_map.mpr ⟨_, List.mem_map.mpr ⟨(x, none), List.mem_map.mpr ⟨x, by simpa using z, rfl⟩, rfl⟩, rfl⟩
  · cases z
theorem lam_LG {xs : List Str} (h : lamX xs K = true) (hd : ∀ p ∈ lamT xs, PySem.W.codeHdIn K (He.cT K p).1 (He.cT K p).2 = true) (hin : ∀ d : DefI, d.cl = none → lamNames.contains d.x = true → (∃ a, mg d.x = some (.ref a)) → d.x ∈ xs) (ha : ∀ x a, x ∈ xs → mg x = some (.ref a) → a = He.fAd K (x, none)) (base : Heap)
    (TB : ∀ p ∈ (lamT xs).map (He.cT K), LamX.TabB base mg p.1 p.2) : LamG p K mg base := by
  intro d a fd hcd0 hl hm F
  have hx := hin d hcd0 hl ⟨a, hm⟩
  have e := ha _ _ hx hm
  subst e
  have hF := F
  obtain ⟨oc, od, dV, kV, doc, pm, an, cdv, ct, osl, efd, lk, hcd, _, _⟩ := F.ex
  obtain ⟨c, ec⟩ := He.codeIn_ref hcd
  have hc : He.codeOf K (d.x, none) = c := He.codeOf_eq lk (by rw [efd]; exact ec)
  have hm1 : (d.x, none) ∈ lamT xs := List.mem_map.mpr ⟨_, hx, rfl⟩
  have e1 : (He.cT K (d.x, none)).1 = c := hc
  refine ⟨c, (He.cT K (d.x, none)).2, by rw [efd]; exact ec, ?_, ⟨d.x, by simpa using hl, hd _ hm1, rfl, rfl⟩, ?_⟩
  · have := TB _ (List.mem_map.mpr ⟨_, hm1, rfl⟩)
    rw [e1] at this
    exact this
  · rintro P' q' ⟨y, hy, h1, rfl, rfl⟩
    unfold lamX at h
    rw [Bool.and_eq_true, decide_eq_true_eq] at h
    have := List.all_eq_true.mp h.2 y hy
    rw [h1, Bool.or_eq_true] at this
    have hyx : y ∈ xs := by
      rcases this with z | z
      · simpa using z
      · cases z
    have : y = d.x := by
      match xs, h.1, hx, hyx with
      | [z], _, hx, hyx =>
        rw [List.mem_singleton] at hx hyx
        rw [hx, hyx]
      | _ :: _ :: _, h1, _, _ => simp at h1
    subst this
    exact ⟨rfl, rfl⟩
end
end Dm
namespace L2
open PySem PySem.Spec PyProof.Rows
theorem cx_no {P : Program} (w : World) (H : Hp) (s : Shared) (e : Value) (s' : Shared) (h : CX P w [] H s (fun _ _ _ => False) e s') : False := by
  obtain ⟨_, _, _, _, _, _, _, _, _, _, _, _, h⟩ := h
  exact h
end L2

set_option Elab.async false
set_option linter.all false
set_option maxRecDepth 100000
set_option maxHeartbeats 4000000
set_option autoImplicit false
/-! DmS: reasoning about the interpreter. -/
namespace Dm
open PySem

/-- o ends well, at P (inductive: it is not unfolded by itself) -/
inductive Out.sat {α : Type} : Out α → (α → Sta → Prop) → Prop where
  | mk {a : α} {s : Sta} {P : α → Sta → Prop} (h : P a s) : Out.sat (.ok a s) P
inductive FO.sat : FO → (EV → List Cell → Prop) → Prop where
  | mk {a : EV} {s : List Cell} {P : EV → List Cell → Prop} (h : P a s) : FO.sat (.ok a s) P
section
variable {α β : Type}
@[simp] theorem sat_ok {a : α} {s : Sta} {P : α → Sta → Prop} : (Out.ok a s).sat P ↔ P a s := ⟨fun h => by cases h; assumption, .mk⟩
@[simp] theorem sat_err {P : α → Sta → Prop} : (Out.err : Out α).sat P ↔ False := ⟨fun h => (by cases h), False.elim⟩
@[simp] theorem sat_exc {x : Exn} {s : Sta} {P : α → Sta → Prop} : (Out.exc x s : Out α).sat P ↔ False := ⟨fun h => (by cases h), False.elim⟩
@[simp] theorem fsat_ok {a : EV} {s : List Cell} {P : EV → List Cell → Prop} : (FO.ok a s).sat P ↔ P a s := ⟨fun h => by cases h; assumption, .mk⟩
@[simp] theorem fsat_err {P : EV → List Cell → Prop} : FO.err.sat P ↔ False := ⟨fun h => (by cases h), False.elim⟩
@[simp] theorem fsat_exc {x : Exn} {s : List Cell} {P : EV → List Cell → Prop} : (FO.exc x s).sat P ↔ False := ⟨fun h => (by cases h), False.elim⟩
theorem sat_bnd {o : Out α} {f : α → C β} {P : β → Sta → Prop} (h : o.sat fun a s => (f a s).sat P) : (o.bnd f).sat P := by
  cases h with
  | mk h => exact h
theorem sat_mono {o : Out α} {P Q : α → Sta → Prop} (h : o.sat P) (f : ∀ a s, P a s → Q a s) : o.sat Q := by
  cases h with
  | mk h => exact .mk (f _ _ h)
theorem fsat_mono {o : FO} {P Q : EV → List Cell → Prop} (h : o.sat P) (f : ∀ a s, P a s → Q a s) : o.sat Q := by
  cases h with
  | mk h => exact .mk (f _ _ h)
end
/-! the computations at a state -/
section
variable {Phi : Fns} {s : Sta}
@[simp] theorem ev_var {i : Nat} : ev Phi (.var i) s = getv i s := nr rfl
@[simp] theorem ev_mv {i : Nat} : ev Phi (.mv i) s = move i s := nr rfl
@[simp] theorem ev_con {c : Cn} : ev Phi (.con c) s = .ok (.val c.d) s := nr rfl
@[simp] theorem ev_glo {x : Str} {c : Cn} : ev Phi (.glo x c) s = .ok (.val c.d) s := nr rfl
@[simp] theorem ev_bin {o : Bop} {a b : E} : ev Phi (.bin o a b) s = (ev Phi a s).bnd fun x => bnd (ev Phi b) fun y => ofO (binD o x.d y.d) := nr rfl
@[simp] theorem ev_neg {a : E} : ev Phi (.neg a) s = (ev Phi a s).bnd fun x => ofO ((asI x.d).map fun i => .val (.int (-i))) := nr rfl
@[simp] theorem ev_cmp {o : Cop} {a b : E} : ev Phi (.cmp o a b) s = (ev Phi a s).bnd fun x => bnd (ev Phi b) fun y => ofO ((cmpD o x.d y.d).map fun c => .val (.bl c)) := nr rfl
@[simp] theorem ev_chn {o p : Cop} {a b c : E} : ev Phi (.chn o p a b c) s = (ev Phi a s).bnd fun x => bnd (ev Phi b) fun y => bnd (ofO (cmpD o x.d y.d)) fun k => if k then bnd (ev Phi c) fun z => ofO ((cmpD p y.d z.d).map fun c => .val (.bl c)) else ret (.val (.bl false)) := nr rfl
@[simp] theorem ev_and {a b : E} : ev Phi (.and a b) s = (ev Phi a s).bnd fun x => andC x.d (ev Phi b) := nr rfl
@[simp] theorem ev_or {a b : E} : ev Phi (.or a b) s = (ev Phi a s).bnd fun x => orC x.d (ev Phi b) := nr rfl
@[simp] theorem ev_not {a : E} : ev Phi (.not a) s = (ev Phi a s).bnd fun x => ofO ((truD x.d).map fun c => .val (.bl (!c))) := nr rfl
@[simp] theorem ev_ifx {c : B} {a b : E} : ev Phi (.ifx c a b) s = (tst Phi c s).bnd fun k => if k then ev Phi a else ev Phi b := nr rfl
/-- a display's end -/
def dispT (ds : List D) : C EV := if ds.length ≤ lim then ret (.val (.tup ds)) else fail
def dispL (ds : List D) : C EV := if ds.length ≤ lim then ret (.own ds) else fail
theorem dispT_ok {ds : List D} (h : ds.length ≤ lim) : dispT ds s = .ok (.val (.tup ds)) s := by
  unfold dispT
  rw [if_pos h]
  rfl
theorem dispL_ok {ds : List D} (h : ds.length ≤ lim) : dispL ds s = .ok (.own ds) s := by
  unfold dispL
  rw [if_pos h]
  rfl
@[simp] theorem dispT_0 : dispT [] s = .ok (.val (.tup [])) s := dispT_ok (by show 0 ≤ 16777216; decide)
@[simp] theorem dispT_1 {x0 : D} : dispT [x0] s = .ok (.val (.tup [x0])) s := dispT_ok (by show 1 ≤ 16777216; decide)
@[simp] theorem dispT_2 {x0 x1 : D} : dispT [x0, x1] s = .ok (.val (.tup [x0, x1])) s := dispT_ok (by show 2 ≤ 16777216; decide)
@[simp] theorem dispT_3 {x0 x1 x2 : D} : dispT [x0, x1, x2] s = .ok (.val (.tup [x0, x1, x2])) s := dispT_ok (by show 3 ≤ 16777216; decide)
@[simp] theorem dispT_4 {x0 x1 x2 x3 : D} : dispT [x0, x1, x2, x3] s = .ok (.val (.tup [x0, x1, x2, x3])) s := dispT_ok (by show 4 ≤ 16777216; decide)
@[simp] theorem dispT_5 {x0 x1 x2 x3 x4 : D} : dispT [x0, x1, x2, x3, x4] s = .ok (.val (.tup [x0, x1, x2, x3, x4])) s := dispT_ok (by show 5 ≤ 16777216; decide)
@[simp] theorem dispT_6 {x0 x1 x2 x3 x4 x5 : D} : dispT [x0, x1, x2, x3, x4, x5] s = .ok (.val (.tup [x0, x1, x2, x3, x4, x5])) s := dispT_ok (by show 6 ≤ 16777216; decide)
@[simp] theorem dispT_7 {x0 x1 x2 x3 x4 x5 x6 : D} : dispT [x0, x1, x2, x3, x4, x5, x6] s = .ok (.val (.tup [x0, x1, x2, x3, x4, x5, x6])) s := dispT_ok (by show 7 ≤ 16777216; decide)
@[simp] theorem dispT_8 {x0 x1 x2 x3 x4 x5 x6 x7 : D} : dispT [x0, x1, x2, x3, x4, x5, x6, x7] s = .ok (.val (.tup [x0, x1, x2, x3, x4, x5, x6, x7])) s := dispT_ok (by show 8 ≤ 16777216; decide)
@[simp] theorem dispT_9 {x0 x1 x2 x3 x4 x5 x6 x7 x8 : D} : dispT [x0, x1, x2, x3, x4, x5, x6, x7, x8] s = .ok (.val (.tup [x0, x1, x2, x3, x4, x5, x6, x7, x8])) s := dispT_ok (by show 9 ≤ 16777216; decide)
@[simp] theorem dispT_10 {x0 x1 x2 x3 x4 x5 x6 x7 x8 x9 : D} : dispT [x0, x1, x2, x3, x4, x5, x6, x7, x8, x9] s = .ok (.val (.tup [x0, x1, x2, x3, x4, x5, x6, x7, x8, x9])) s := dispT_ok (by show 10 ≤ 16777216; decide)
@[simp] theorem dispT_11 {x0 x1 x2 x3 x4 x5 x6 x7 x8 x9 x10 : D} : dispT [x0, x1, x2, x3, x4, x5, x6, x7, x8, x9, x10] s = .ok (.val (.tup [x0, x1, x2, x3, x4, x5, x6, x7, x8, x9, x10])) s := dispT_ok (by show 11 ≤ 16777216; decide)
@[simp] theorem dispT_12 {x0 x1 x2 x3 x4 x5 x6 x7 x8 x9 x10 x11 : D} : dispT [x0, x1, x2, x3, x4, x5, x6, x7, x8, x9, x10, x11] s = .ok (.val (.tup [x0, x1, x2, x3, x4, x5, x6, x7, x8, x9, x10, x11])) s := dispT_ok (by show 12 ≤ 16777216; decide)
@[simp] theorem dispL_0 : dispL [] s = .ok (.own []) s := dispL_ok (by show 0 ≤ 16777216; decide)
@[simp] theorem dispL_1 {x0 : D} : dispL [x0] s = .ok (.own [x0]) s := dispL_ok (by show 1 ≤ 16777216; decide)
@[simp] theorem dispL_2 {x0 x1 : D} : dispL [x0, x1] s = .ok (.own [x0, x1]) s := dispL_ok (by show 2 ≤ 16777216; decide)
@[simp] theorem dispL_3 {x0 x1 x2 : D} : dispL [x0, x1, x2] s = .ok (.own [x0, x1, x2]) s := dispL_ok (by show 3 ≤ 16777216; decide)
@[simp] theorem dispL_4 {x0 x1 x2 x3 : D} : dispL [x0, x1, x2, x3] s = .ok (.own [x0, x1, x2, x3]) s := dispL_ok (by show 4 ≤ 16777216; decide)
@[simp] theorem dispL_5 {x0 x1 x2 x3 x4 : D} : dispL [x0, x1, x2, x3, x4] s = .ok (.own [x0, x1, x2, x3, x4]) s := dispL_ok (by show 5 ≤ 16777216; decide)
@[simp] theorem dispL_6 {x0 x1 x2 x3 x4 x5 : D} : dispL [x0, x1, x2, x3, x4, x5] s = .ok (.own [x0, x1, x2, x3, x4, x5]) s := dispL_ok (by show 6 ≤ 16777216; decide)
@[simp] theorem dispL_7 {x0 x1 x2 x3 x4 x5 x6 : D} : dispL [x0, x1, x2, x3, x4, x5, x6] s = .ok (.own [x0, x1, x2, x3, x4, x5, x6]) s := dispL_ok (by show 7 ≤ 16777216; decide)
@[simp] theorem dispL_8 {x0 x1 x2 x3 x4 x5 x6 x7 : D} : dispL [x0, x1, x2, x3, x4, x5, x6, x7] s = .ok (.own [x0, x1, x2, x3, x4, x5, x6, x7]) s := dispL_ok (by show 8 ≤ 16777216; decide)
@[simp] theorem dispL_9 {x0 x1 x2 x3 x4 x5 x6 x7 x8 : D} : dispL [x0, x1, x2, x3, x4, x5, x6, x7, x8] s = .ok (.own [x0, x1, x2, x3, x4, x5, x6, x7, x8]) s := dispL_ok (by show 9 ≤ 16777216; decide)
@[simp] theorem dispL_10 {x0 x1 x2 x3 x4 x5 x6 x7 x8 x9 : D} : dispL [x0, x1, x2, x3, x4, x5, x6, x7, x8, x9] s = .ok (.own [x0, x1, x2, x3, x4, x5, x6, x7, x8, x9]) s := dispL_ok (by show 10 ≤ 16777216; decide)
@[simp] theorem dispL_11 {x0 x1 x2 x3 x4 x5 x6 x7 x8 x9 x10 : D} : dispL [x0, x1, x2, x3, x4, x5, x6, x7, x8, x9, x10] s = .ok (.own [x0, x1, x2, x3, x4, x5, x6, x7, x8, x9, x10]) s := dispL_ok (by show 11 ≤ 16777216; decide)
@[simp] theorem dispL_12 {x0 x1 x2 x3 x4 x5 x6 x7 x8 x9 x10 x11 : D} : dispL [x0, x1, x2, x3, x4, x5, x6, x7, x8, x9, x10, x11] s = .ok (.own [x0, x1, x2, x3, x4, x5, x6, x7, x8, x9, x10, x11]) s := dispL_ok (by show 12 ≤ 16777216; decide)
@[simp] theorem ev_tup {es : List E} : ev Phi (.tup es) s = (evs Phi es s).bnd dispT := nr rfl
@[simp] theorem ev_lst {es : List E} : ev Phi (.lst es) s = (evs Phi es s).bnd dispL := nr rfl
@[simp] theorem ev_idx {a b : E} : ev Phi (.idx a b) s = (ev Phi a s).bnd fun x => bnd (ev Phi b) fun y => lift fun m => (idxD m x.d y.d).map .val := nr rfl
@[simp] theorem ev_slc {a : E} {lo hi : Option E} : ev Phi (.slc a lo hi) s = (ev Phi a s).bnd fun x => bnd (evp Phi lo) fun l => bnd (evp Phi hi) fun h => ofO (slcD x.d l h) := nr rfl
@[simp] theorem ev_comp {g : G} {it : I} {t : List B} {vs : List Nat} {e : E} : ev Phi (.comp g it t vs e) s = (itm Phi it s).bnd fun xs => compC (asgG Phi g) vs (tsts Phi t) (ev Phi e) xs := nr rfl
@[simp] theorem ev_call {f : Nat} {es : List E} : ev Phi (.call f es) s = (evs Phi es s).bnd fun ds => callC Phi f ds := nr rfl
@[simp] theorem ev_bi {b : Bi} {es : List E} : ev Phi (.bi b es) s = (evs Phi es s).bnd fun ds => lift fun m => biD m b ds := nr rfl
@[simp] theorem ev_omt {m : Om} {i : Nat} {es : List E} : ev Phi (.omt m i es) s = (isOwn i s).bnd fun _ => bnd (evs Phi es) fun ds => omC m i ds := nr rfl
@[simp] theorem ev_cmt {m : Om} {a : E} {es : List E} : ev Phi (.cmt m a es) s = (ev Phi a s).bnd fun x => bnd (isCel x.d) fun _ => bnd (evs Phi es) fun ds => cmC m x.d ds := nr rfl
@[simp] theorem ev_cel {e : E} : ev Phi (.cel e) s = (ev Phi e s).bnd celC := nr rfl
@[simp] theorem ev_bcl {is : List Nat} {e : E} : ev Phi (.bcl is e) s = bclC is (ev Phi e) s := nr rfl
@[simp] theorem ev_bor {is : List Nat} {e : E} : ev Phi (.bor is e) s = borC is (ev Phi e) s := nr rfl
@[simp] theorem evs_nil : evs Phi [] s = .ok [] s := nr rfl
@[simp] theorem evs_cons {e : E} {es : List E} : evs Phi (e :: es) s = (ev Phi e s).bnd fun x => bnd (evs Phi es) fun xs => ret (x.d :: xs) := nr rfl
@[simp] theorem evp_none : evp Phi none s = .ok none s := nr rfl
@[simp] theorem evp_some {e : E} : evp Phi (some e) s = (ev Phi e s).bnd fun x => ofO ((asI x.d).map some) := nr rfl
@[simp] theorem tst_cmp {o : Cop} {a b : E} : tst Phi (.cmp o a b) s = (ev Phi a s).bnd fun x => bnd (ev Phi b) fun y => ofO (cmpD o x.d y.d) := nr rfl
@[simp] theorem tst_chn {o p : Cop} {a b c : E} : tst Phi (.chn o p a b c) s = (ev Phi a s).bnd fun x => bnd (ev Phi b) fun y => bnd (ofO (cmpD o x.d y.d)) fun k => if k then bnd (ev Phi c) fun z => ofO (cmpD p y.d z.d) else ret false := nr rfl
@[simp] theorem tst_and {a b : B} : tst Phi (.and a b) s = (tst Phi a s).bnd fun k => if k then tst Phi b else ret false := nr rfl
@[simp] theorem tst_or {a b : B} : tst Phi (.or a b) s = (tst Phi a s).bnd fun k => if k then ret true else tst Phi b := nr rfl
@[simp] theorem tst_not {a : B} : tst Phi (.not a) s = (tst Phi a s).bnd fun k => ret (!k) := nr rfl
@[simp] theorem tst_bcm {is : List Nat} {o : Cop} {a b : E} : tst Phi (.bcm is o a b) s = borB is (bnd (ev Phi a) fun x => bnd (ev Phi b) fun y => ofO (cmpD o x.d y.d)) s := nr rfl
@[simp] theorem tst_tru {e : E} : tst Phi (.tru e) s = (ev Phi e s).bnd fun x => ofO (truD x.d) := nr rfl
@[simp] theorem tsts_nil : tsts Phi [] s = .ok true s := nr rfl
@[simp] theorem tsts_one {b : B} : tsts Phi [b] s = tst Phi b s := nr rfl
@[simp] theorem itm_seq {e : E} : itm Phi (.seq e) s = (ev Phi e s).bnd fun x => ofO (seqD x.d) := nr rfl
/-- the ranges' ends -/
def rngC1 (x : EV) : C (List D) := ofO ((asI x.d).bind fun j => if ok62 j then some (rangeL 0 j.toNat) else none)
def rngC2 (x y : EV) : C (List D) := ofO ((asI x.d).bind fun i => (asI y.d).bind fun j => if ok62 i && ok62 j then some (rangeL i (j - i).toNat) else none)
theorem ok62_ok {i : Int} (h : -4611686018427387904 ≤ i) (h2 : i < 4611686018427387904) : ok62 i = true := by
  unfold ok62
  rw [Bool.and_eq_true, decide_eq_true_eq, decide_eq_true_eq]
  omega
theorem rngC1_ok {j : Int} (h : -4611686018427387904 ≤ j) (h2 : j < 4611686018427387904) : rngC1 (.val (.int j)) s = .ok (rangeL 0 j.toNat) s := by
  have e : (asI (EV.val (.int j)).d).bind (fun j => if ok62 j then some (rangeL 0 j.toNat) else none) = some (rangeL 0 j.toNat) := by
    show (if ok62 j = true then _ else _) = _
    rw [if_pos (ok62_ok h h2)]
  unfold rngC1
  rw [e]
  rfl
theorem rngC2_ok {i j : Int} (h : -4611686018427387904 ≤ i) (h2 : i < 4611686018427387904) (h3 : -4611686018427387904 ≤ j) (h4 : j < 4611686018427387904) : rngC2 (.val (.int i)) (.val (.int j)) s = .ok (rangeL i (j - i).toNat) s := by
  have e : (asI (EV.val (.int i)).d).bind (fun i => (asI (EV.val (.int j)).d).bind fun j => if ok62 i && ok62 j then some (rangeL i (j - i).toNat) else none) = some (rangeL i (j - i).toNat) := by
    show (if (ok62 i && ok62 j) = true then _ else _) = _
    rw [if_pos (by rw [ok62_ok h h2, ok62_ok h3 h4]; rfl)]
  unfold rngC2
  rw [e]
  rfl
@[simp] theorem itm_rng1 {a : E} : itm Phi (.rng1 a) s = (ev Phi a s).bnd rngC1 := nr rfl
@[simp] theorem itm_rng2 {a b : E} : itm Phi (.rng2 a b) s = (ev Phi a s).bnd fun x => bnd (ev Phi b) fun y => rngC2 x y := nr rfl
@[simp] theorem itm_enm {e : E} : itm Phi (.enm e) s = (ev Phi e s).bnd fun x => ofO (x.d.items.map (enumD 0)) := nr rfl
@[simp] theorem itm_zip {a b : E} : itm Phi (.zip a b) s = (ev Phi a s).bnd fun x => bnd (ev Phi b) fun y => ofO (x.d.items.bind fun xs => y.d.items.map fun ys => zipD xs ys) := nr rfl
@[simp] theorem itm_zip3 {a b c : E} : itm Phi (.zip3 a b c) s = (ev Phi a s).bnd fun x => bnd (ev Phi b) fun y => bnd (ev Phi c) fun z => ofO (x.d.items.bind fun xs => y.d.items.bind fun ys => z.d.items.map fun zs => zipD3 xs ys zs) := nr rfl
@[simp] theorem itm_rev {e : E} : itm Phi (.rev e) s = (ev Phi e s).bnd fun x => ofO (x.d.items.map List.reverse) := nr rfl
@[simp] theorem asgG_nm {i : Nat} {d : D} : asgG Phi (.nm i) d s = setv i (.val d) s := nr rfl
@[simp] theorem asgG_tp {gs : List G} {xs : List D} : asgG Phi (.tp gs) (.tup xs) s = (if gs.length = xs.length then asgs Phi gs xs else fail) s := nr rfl
@[simp] theorem asgG_tpL {gs : List G} {xs : List D} : asgG Phi (.tp gs) (.lst xs) s = (if gs.length = xs.length then asgs Phi gs xs else fail) s := nr rfl
@[simp] theorem asgG_osub {i : Nat} {k : E} {d : D} : asgG Phi (.osub i k) d s = (isOwn i s).bnd fun _ => bnd (ev Phi k) fun x => osetC i x.d d := nr rfl
@[simp] theorem asgG_csub {a k : E} {d : D} : asgG Phi (.csub a k) d s = (ev Phi a s).bnd fun c => bnd (ev Phi k) fun x => csetC c.d x.d d := nr rfl
@[simp] theorem asgs_nil : asgs Phi [] [] s = .ok () s := nr rfl
@[simp] theorem asgs_cons {g : G} {gs : List G} {d : D} {ds : List D} : asgs Phi (g :: gs) (d :: ds) s = (asgG Phi g d s).bnd fun _ => asgs Phi gs ds := nr rfl
@[simp] theorem sx_asg {g : G} {e : E} : sx Phi (.asg g e) s = (ev Phi e s).bnd fun x => bnd (asgG Phi g x.d) fun _ => ret .nx := nr rfl
@[simp] theorem sx_asgo {i : Nat} {e : E} : sx Phi (.asgo i e) s = (ev Phi e s).bnd fun x => bnd (setv i x) fun _ => ret .nx := nr rfl
@[simp] theorem sx_par {is : List Nat} {es : List E} : sx Phi (.par is es) s = (evo Phi es s).bnd fun ds => bnd (setm is ds) fun _ => ret .nx := nr rfl
@[simp] theorem sx_aug {i : Nat} {o : Bop} {e : E} : sx Phi (.aug i o e) s = (geti i s).bnd fun x => bnd (ev Phi e) fun y => bnd (ofO (augD o x.d y.d)) fun z => bnd (setv i z) fun _ => ret .nx := nr rfl
@[simp] theorem sx_exp {e : E} : sx Phi (.exp e) s = (ev Phi e s).bnd fun _ => ret .nx := nr rfl
@[simp] theorem sx_ret {e : E} : sx Phi (.ret e) s = (ev Phi e s).bnd fun r => ret (.rt r) := nr rfl
@[simp] theorem sx_retN : sx Phi .retN s = .ok (.rt (.val .non)) s := nr rfl
@[simp] theorem sx_ife {c : B} {a b : List S} : sx Phi (.ife c a b) s = (tst Phi c s).bnd fun k => if k then sxs Phi a else sxs Phi b := nr rfl
@[simp] theorem sx_for {g : G} {it : I} {ks : List Nat} {b : List S} : sx Phi (.for g it ks false b) s = (itm Phi it s).bnd fun xs => floop (asgG Phi g) (sxs Phi b) ks none xs := nr rfl
/-- a loop that forgets -/
def floopG (p : D → C Unit) (body : C Fl) (ks : List Nat) (xs : List D) : C Fl := fun s => floop p body ks (some s.mem.length) xs s
@[simp] theorem sx_forG {g : G} {it : I} {ks : List Nat} {b : List S} : sx Phi (.for g it ks true b) s = (itm Phi it s).bnd fun xs => floopG (asgG Phi g) (sxs Phi b) ks xs := nr rfl
@[simp] theorem sx_whl {n : Nat} {c : B} {ks : List Nat} {b : List S} : sx Phi (.whl n c ks b) s = wloop (tst Phi c) (sxs Phi b) ks n s := nr rfl
@[simp] theorem sx_oaug {i : Nat} {k : E} {o : Bop} {e : E} : sx Phi (.oaug i k o e) s = (isOwn i s).bnd fun _ => bnd (ev Phi k) fun x => bnd (oaugC i x.d o (ev Phi e)) fun _ => ret .nx := nr rfl
@[simp] theorem oaugC_at {i : Nat} {k : Int} {o : Bop} {e : C EV} : oaugC i (.int k) o e s = (match s.env[i]? with
  | some (some (.own xs)) => match L2.atI xs k with
    | some x => (e s).bnd fun y => bnd (ofO (augV o x y.d)) fun z => osetC i (.int k) z
    | none => .err
  | _ => .err) := by
  unfold oaugC
  cases e : s.env[i]? with
  | none => rfl
  | some o => cases o with
    | none => rfl
    | some v => cases v <;> rfl
@[simp] theorem augV_add {i j : Int} : augV .add (.int i) (.int j) = some (.int (i + j)) := nr rfl
@[simp] theorem augV_sub {i j : Int} : augV .sub (.int i) (.int j) = some (.int (i - j)) := nr rfl
theorem augV_mulA {i j : Int} (h : -18446744073709551616 < i) (h2 : i < 18446744073709551616) : augV .mul (.int i) (.int j) = some (.int (i * j)) := by
  show (if small i || small j then some (D.int (i * j)) else none) = _
  rw [if_pos]
  rw [Bool.or_eq_true]
  exact .inl (by simp only [small, Bool.and_eq_true, decide_eq_true_eq]; omega)
theorem augV_mulB {i j : Int} (h : -18446744073709551616 < j) (h2 : j < 18446744073709551616) : augV .mul (.int i) (.int j) = some (.int (i * j)) := by
  show (if small i || small j then some (D.int (i * j)) else none) = _
  rw [if_pos]
  rw [Bool.or_eq_true]
  exact .inr (by simp only [small, Bool.and_eq_true, decide_eq_true_eq]; omega)
@[simp] theorem augD_eq {o : Bop} {x y : D} : augD o x y = (augV o x y).map .val := nr rfl
@[simp] theorem evo_nil : evo Phi [] s = .ok [] s := nr rfl
@[simp] theorem evo_cons {e : E} {es : List E} : evo Phi (e :: es) s = (ev Phi e s).bnd fun x => bnd (evo Phi es) fun xs => ret (x :: xs) := nr rfl
@[simp] theorem ev_mth {m : Mt} {a : E} {es : List E} : ev Phi (.mth m a es) s = (ev Phi a s).bnd fun x => if mtT m x.d then bnd (evs Phi es) fun ds => ofO (mthD m x.d ds) else fail := nr rfl
/-- list(range(..)), tuple(range(..)) -/
def rngE (t : Bool) (xs : List D) : C EV := if xs.length ≤ lim then ret (if t then .val (.tup xs) else .own xs) else fail
theorem rngE_ok {t : Bool} {xs : List D} (h : xs.length ≤ 16777216) : rngE t xs s = .ok (if t then .val (.tup xs) else .own xs) s := by
  unfold rngE
  rw [if_pos h]
  rfl
@[simp] theorem ev_rngv {t : Bool} {it : I} : ev Phi (.rngv t it) s = (itm Phi it s).bnd fun xs => rngE t xs := nr rfl
@[simp] theorem ev_revs {a : E} : ev Phi (.revs a) s = (ev Phi a s).bnd fun x => ofO (revD x.d) := nr rfl
@[simp] theorem revD_lst {xs : List D} : revD (.lst xs) = some (.own xs.reverse) := nr rfl
def rngC3 (x y z : EV) : C (List D) := ofO ((asI x.d).bind fun i => (asI y.d).bind fun j => (asI z.d).bind fun c =>
      if c ≠ 0 ∧ c.natAbs < 1073741824 ∧ Builtin.Range.small i j c = true then some (rangeC i c (Builtin.Range.rangeSize i j c).toNat) else none)
@[simp] theorem itm_rng3 {a b c : E} : itm Phi (.rng3 a b c) s = (ev Phi a s).bnd fun x => bnd (ev Phi b) fun y => bnd (ev Phi c) fun z => rngC3 x y z := nr rfl
@[simp] theorem sx_pass : sx Phi .pass s = .ok .nx s := nr rfl
@[simp] theorem sx_brk : sx Phi .brk s = .ok .bk s := nr rfl
@[simp] theorem sx_cnt : sx Phi .cnt s = .ok .ct s := nr rfl
@[simp] theorem sxs_nil : sxs Phi [] s = .ok .nx s := nr rfl
/-- behind a statement -/
def thenS (Phi : Fns) (ss : List S) : Fl → C Fl
  | .nx => sxs Phi ss
  | f => ret f
@[simp] theorem thenS_nx {ss : List S} : thenS Phi ss .nx s = sxs Phi ss s := nr rfl
@[simp] theorem thenS_bk {ss : List S} : thenS Phi ss .bk s = .ok .bk s := nr rfl
@[simp] theorem thenS_ct {ss : List S} : thenS Phi ss .ct s = .ok .ct s := nr rfl
@[simp] theorem thenS_rt {ss : List S} {r : EV} : thenS Phi ss (.rt r) s = .ok (.rt r) s := nr rfl
@[simp] theorem sxs_cons {x : S} {ss : List S} : sxs Phi (x :: ss) s = (sx Phi x s).bnd (thenS Phi ss) := by
  show (sx Phi x s).bnd _ = _
  congr 1
@[simp] theorem setm_nil : setm [] [] s = .ok () s := nr rfl
@[simp] theorem setm_cons {i : Nat} {is : List Nat} {d : EV} {ds : List EV} : setm (i :: is) (d :: ds) s = (setv i d s).bnd fun _ => setm is ds := nr rfl
@[simp] theorem getv_at {i : Nat} : getv i s = (match s.env[i]? with
  | some (some (.val d)) => .ok (.val d) s
  | some (some (.own xs)) => .ok (.val (.lst xs)) { s with env := s.env.set i (some (.val (.lst xs))) }
  | _ => .err) := nr rfl
@[simp] theorem geti_at {i : Nat} : geti i s = (match s.env[i]? with
  | some (some (.val d)) => .ok (.val d) s
  | _ => .err) := nr rfl
@[simp] theorem move_at {i : Nat} : move i s = (match s.env[i]? with
  | some (some (.own xs)) => .ok (.own xs) { s with env := s.env.set i none }
  | _ => .err) := nr rfl
@[simp] theorem setv_at {i : Nat} {r : EV} : setv i r s = if i < s.env.length then .ok () { s with env := s.env.set i (some r) } else .err := nr rfl
@[simp] theorem lift_at {f : List Cell → Option EV} : lift f s = (match f s.mem with
  | some r => .ok r s
  | none => .err) := nr rfl
@[simp] theorem isOwn_at {i : Nat} : isOwn i s = (match s.env[i]? with
  | some (some (.own _)) => .ok () s
  | _ => .err) := nr rfl
@[simp] theorem omC_at {m : Om} {i : Nat} {ds : List D} : omC m i ds s = (match s.env[i]? with
  | some (some (.own xs)) => match omD m xs ds with
    | some (y, ys) => .ok (.val y) { s with env := s.env.set i (some (.own ys)) }
    | none => .err
  | _ => .err) := nr rfl
@[simp] theorem osetC_at {i : Nat} {k : Int} {v : D} : osetC i (.int k) v s = (match s.env[i]? with
  | some (some (.own xs)) => match L2.ixN xs.length k with
    | some j => .ok () { s with env := s.env.set i (some (.own (xs.set j v))) }
    | none => .err
  | _ => .err) := by
  unfold osetC
  cases e : s.env[i]? with
  | none => rfl
  | some o => cases o with
    | none => rfl
    | some v => cases v <;> rfl
@[simp] theorem csetC_at {n : Nat} {k : Int} {v : D} : csetC (.cel n) (.int k) v s = (match s.mem[n]? with
    | some (.lst xs) => match L2.ixN xs.length k with
      | some j => .ok () { s with mem := s.mem.set n (.lst (xs.set j v)) }
      | none => .err
    | _ => .err) := nr rfl
@[simp] theorem isCel_at {n : Nat} : isCel (.cel n) s = (match s.mem[n]? with
    | some (.lst _) => .ok () s
    | _ => .err) := nr rfl
@[simp] theorem cmC_at {m : Om} {n : Nat} {ds : List D} : cmC m (.cel n) ds s = (match s.mem[n]? with
    | some (.lst xs) => match omD m xs ds with
      | some (y, ys) => .ok (.val y) { s with mem := s.mem.set n (.lst ys) }
      | none => .err
    | _ => .err) := nr rfl
@[simp] theorem celC_own {xs : List D} : celC (.own xs) s = .ok (.val (.cel s.mem.length)) { s with mem := s.mem ++ [.lst xs] } := nr rfl
@[simp] theorem celC_val {d : D} : celC (.val d) s = .ok (.val d) s := nr rfl
@[simp] theorem ofO_some_at {α : Type} {a : α} : ofO (some a) s = .ok a s := nr rfl
@[simp] theorem ofO_none_at {α : Type} : (ofO none : C α) s = .err := nr rfl
@[simp] theorem ret_at {α : Type} {a : α} : (Dm.ret a : C α) s = .ok a s := nr rfl
@[simp] theorem fail_at {α : Type} : (fail : C α) s = .err := nr rfl
theorem ite_at {α : Type} {c : Prop} [Decidable c] {a b : C α} : (if c then a else b) s = if c then a s else b s := by split <;> rfl
@[simp] theorem ite_tt {α : Type} {a b : C α} : (if true = true then a else b) s = a s := nr rfl
@[simp] theorem ite_ff {α : Type} {a b : C α} : (if false = true then a else b) s = b s := nr rfl
@[simp] theorem andC_tt {a : D} {c : C EV} : andC a c s = (match truD a with
  | some true => c s
  | some false => .ok (.val a) s
  | none => .err) := by
  unfold andC
  cases truD a with
  | none => rfl
  | some b => cases b <;> rfl
@[simp] theorem orC_tt {a : D} {c : C EV} : orC a c s = (match truD a with
  | some true => .ok (.val a) s
  | some false => c s
  | none => .err) := by
  unfold orC
  cases truD a with
  | none => rfl
  | some b => cases b <;> rfl
@[simp] theorem asI_int {i : Int} : asI (.int i) = some i := nr rfl
@[simp] theorem bin_add {i j : Int} : binD .add (.int i) (.int j) = some (.val (.int (i + j))) := nr rfl
@[simp] theorem bin_sub {i j : Int} : binD .sub (.int i) (.int j) = some (.val (.int (i - j))) := nr rfl
theorem bin_mul {i j : Int} : binD .mul (.int i) (.int j) = if small i || small j then some (.val (.int (i * j))) else none := rfl
theorem bin_mod {i j : Int} : binD .mod (.int i) (.int j) = if j ≠ 0 then some (.val (.int (i.fmod j))) else none := rfl
theorem bin_fdiv {i j : Int} : binD .fdiv (.int i) (.int j) = if j ≠ 0 ∧ j.natAbs < 1073741824 then some (.val (.int (i.fdiv j))) else none := rfl
theorem bin_modP {i j : Int} (h : 0 < j) : binD .mod (.int i) (.int j) = some (.val (.int (i % j))) := by
  rw [bin_mod, if_pos (by omega), Int.fmod_eq_emod_of_nonneg _ (by omega)]
theorem bin_fdivP {i j : Int} (h : 0 < j) (h2 : j < 1073741824) : binD .fdiv (.int i) (.int j) = some (.val (.int (i / j))) := by
  rw [bin_fdiv, if_pos ⟨by omega, by omega⟩, Int.fdiv_eq_ediv_of_nonneg _ (by omega)]
theorem bin_mulA {i j : Int} (h : -18446744073709551616 < i) (h2 : i < 18446744073709551616) : binD .mul (.int i) (.int j) = some (.val (.int (i * j))) := by
  rw [bin_mul, if_pos]
  rw [Bool.or_eq_true]
  exact .inl (by simp only [small, Bool.and_eq_true, decide_eq_true_eq]; omega)
theorem bin_mulB {i j : Int} (h : -18446744073709551616 < j) (h2 : j < 18446744073709551616) : binD .mul (.int i) (.int j) = some (.val (.int (i * j))) := by
  rw [bin_mul, if_pos]
  rw [Bool.or_eq_true]
  exact .inr (by simp only [small, Bool.and_eq_true, decide_eq_true_eq]; omega)
@[simp] theorem d_val {d : D} : (EV.val d).d = d := nr rfl
@[simp] theorem d_own {xs : List D} : (EV.own xs).d = .lst xs := nr rfl
theorem bin_pow {i j : Int} : binD .pow (.int i) (.int j) = if 0 ≤ j ∧ j ≤ 1000000 ∧ i.natAbs < 2 ^ 64 then some (.val (.int (i ^ j.toNat))) else none := nr rfl
theorem bin_addL {xs ys : List D} : binD .add (.lst xs) (.lst ys) = if xs.length + ys.length ≤ lim then some (.own (xs ++ ys)) else none := nr rfl
theorem bin_addT {xs ys : List D} : binD .add (.tup xs) (.tup ys) = if xs.length + ys.length ≤ lim then some (.val (.tup (xs ++ ys))) else none := nr rfl
theorem bin_mulL {xs : List D} {k : Int} : binD .mul (.lst xs) (.int k) = if -(2 ^ 63) ≤ k ∧ k < 2 ^ 63 ∧ xs.length * k.toNat ≤ lim then some (.own (List.replicate k.toNat xs).flatten) else none := nr rfl
@[simp] theorem cmp_lt {i j : Int} : cmpD .lt (.int i) (.int j) = some (decide (i < j)) := nr rfl
@[simp] theorem cmp_le {i j : Int} : cmpD .le (.int i) (.int j) = some (decide (i ≤ j)) := nr rfl
@[simp] theorem cmp_gt {i j : Int} : cmpD .gt (.int i) (.int j) = some (decide (j < i)) := nr rfl
@[simp] theorem cmp_ge {i j : Int} : cmpD .ge (.int i) (.int j) = some (decide (j ≤ i)) := nr rfl
theorem eqD_int {i j : Int} : eqD (.int i) (.int j) = decide (i = j) := by
  unfold eqD
  simp only [D.py, PyData.eqv]
  exact Bool.eq_iff_iff.mpr (by simp)
@[simp] theorem cmp_eq {i j : Int} : cmpD .eq (.int i) (.int j) = some (decide (i = j)) := by
  show (if (D.int i).shaped && (D.int j).shaped then some (eqD (.int i) (.int j)) else none) = _
  rw [eqD_int]
  rfl
@[simp] theorem cmp_ne {i j : Int} : cmpD .ne (.int i) (.int j) = some (!decide (i = j)) := by
  show (if (D.int i).shaped && (D.int j).shaped then some (!eqD (.int i) (.int j)) else none) = _
  rw [eqD_int]
  rfl
@[simp] theorem tru_bl {b : Bool} : truD (.bl b) = some b := nr rfl
@[simp] theorem tru_int {i : Int} : truD (.int i) = some (i != 0) := nr rfl
@[simp] theorem idx_lst {m : List Cell} {xs : List D} {i : Int} : idxD m (.lst xs) (.int i) = L2.atI xs i := nr rfl
@[simp] theorem idx_tup {m : List Cell} {xs : List D} {i : Int} : idxD m (.tup xs) (.int i) = L2.atI xs i := nr rfl
@[simp] theorem idx_scr {m : List Cell} {ns : List Int} {i : Int} : idxD m (.scr ns) (.int i) = (L2.atI ns i).map .int := nr rfl
@[simp] theorem idx_cel {m : List Cell} {n : Nat} {i : Int} : idxD m (.cel n) (.int i) = (match m[n]? with
    | some (.lst xs) => L2.atI xs i
    | _ => none) := nr rfl
@[simp] theorem len_lst {m : List Cell} {xs : List D} : lenD m (.lst xs) = some xs.length := nr rfl
@[simp] theorem len_tup {m : List Cell} {xs : List D} : lenD m (.tup xs) = some xs.length := nr rfl
@[simp] theorem len_scr {m : List Cell} {ns : List Int} : lenD m (.scr ns) = some ns.length := nr rfl
@[simp] theorem bi_len {m : List Cell} {d : D} : biD m .len [d] = (lenD m d).map fun (n : Nat) => .val (.int (n : Int)) := by simp only [biD]
@[simp] theorem bi_abs {m : List Cell} {i : Int} : biD m .abs [.int i] = some (.val (.int (if i < 0 then -i else i))) := nr rfl
@[simp] theorem bi_int {m : List Cell} {i : Int} : biD m .int [.int i] = some (.val (.int i)) := nr rfl
@[simp] theorem bi_intb {m : List Cell} {b : Bool} : biD m .int [.bl b] = some (.val (.int (if b then 1 else 0))) := nr rfl
@[simp] theorem bi_list {m : List Cell} {d : D} : biD m .list [d] = d.items.map .own := by simp only [biD]
@[simp] theorem bi_tuple {m : List Cell} {d : D} : biD m .tuple [d] = d.items.map fun xs => .val (.tup xs) := by simp only [biD]
@[simp] theorem bi_min2 {m : List Cell} {i j : Int} : biD m .min [.int i, .int j] = some (.val (.int (if j < i then j else i))) := nr rfl
@[simp] theorem bi_max2 {m : List Cell} {i j : Int} : biD m .max [.int i, .int j] = some (.val (.int (if j > i then j else i))) := nr rfl
@[simp] theorem bi_lenset {m : List Cell} {xs : List D} : biD m .lenset [.lst xs] = (intsL xs).bind fun ns => if ns.length ≤ 4000 then some (.val (.int ((firstL ns).length : Nat))) else none := nr rfl
@[simp] theorem bi_lensetT {m : List Cell} {xs : List D} : biD m .lenset [.tup xs] = (intsL xs).bind fun ns => if ns.length ≤ 4000 then some (.val (.int ((firstL ns).length : Nat))) else none := nr rfl
@[simp] theorem bi_srtset {m : List Cell} {xs : List D} : biD m .srtset [.lst xs] = (intsL xs).bind fun ns => if ns.length < 64 then some (.own ((setI ns).map .int)) else none := nr rfl
@[simp] theorem bi_srtsett {m : List Cell} {xs : List D} : biD m .srtsett [.lst xs] = (rowsT xs).bind fun rs => if rs.length < 64 then some (.own ((setT rs).map rowT)) else none := nr rfl
@[simp] theorem bi_sum {m : List Cell} {xs : List D} : biD m .sum [.lst xs] = (intsL xs).map fun ns => .val (.int ns.sum) := nr rfl
@[simp] theorem bi_all {m : List Cell} {xs : List D} : biD m .all [.lst xs] = (bls xs).map fun bs => .val (.bl (bs.all id)) := nr rfl
@[simp] theorem bi_any {m : List Cell} {xs : List D} : biD m .any [.lst xs] = (bls xs).map fun bs => .val (.bl (bs.any id)) := nr rfl
@[simp] theorem items_lst {xs : List D} : (D.lst xs).items = some xs := nr rfl
@[simp] theorem items_tup {xs : List D} : (D.tup xs).items = some xs := nr rfl
@[simp] theorem seqD_lst {xs : List D} : seqD (.lst xs) = some xs := nr rfl
@[simp] theorem seqD_tup {xs : List D} : seqD (.tup xs) = some xs := nr rfl
@[simp] theorem cn_non : Cn.non.d = .non := nr rfl
@[simp] theorem cn_bl {b : Bool} : (Cn.bl b).d = .bl b := nr rfl
@[simp] theorem cn_int {i : Int} : (Cn.int i).d = .int i := nr rfl
@[simp] theorem cn_str {x : Str} : (Cn.str x).d = .str x := nr rfl
theorem intsL_map : ∀ ns : List Int, intsL (ns.map .int) = some ns
  | [] => rfl
  | n :: ns => by
    show (intsL (ns.map .int)).map (n :: ·) = _
    rw [intsL_map ns]
    rfl
theorem rep1 {x : D} {n : Nat} : (List.replicate n [x]).flatten = List.replicate n x := by
  induction n with
  | zero => rfl
  | succ n ih => rw [List.replicate_succ, List.flatten_cons, ih]; rfl
@[simp] theorem bin_mulI {i : Int} {p : Prop} [Decidable p] : binD .mul (.int i) (.int (if p then 1 else 0)) = some (.val (.int (i * (if p then 1 else 0)))) := by
  split <;> exact bin_mulB (by decide) (by decide)
@[simp] theorem bin_mulJ {i : Int} {p : Prop} [Decidable p] : binD .mul (.int (if p then 1 else 0)) (.int i) = some (.val (.int ((if p then 1 else 0) * i))) := by
  split <;> exact bin_mulA (by decide) (by decide)
theorem atI_ex {α : Type} {xs : List α} {i : Int} (h : 0 ≤ i) (h2 : i < xs.length) : ∃ v, L2.atI xs i = some v := by
  unfold L2.atI L2.ixN
  rw [if_pos h, if_pos h2]
  exact ⟨xs[i.toNat]'(by omega), by simp⟩
theorem rangeL_lenS : ∀ (n : Nat) (lo : Int), (rangeL lo n).length = n
  | 0, _ => rfl
  | n + 1, lo => by unfold rangeL; rw [List.length_cons, rangeL_lenS n]
theorem lim_le {n : Nat} (h : n ≤ 16777216) : n ≤ lim := h
theorem borB_at {is : List Nat} {c : C Bool} : borB is c s = (match c ⟨lendE is s.env, []⟩ with
  | .ok r _ => .ok r s
  | _ => .err) := nr rfl
theorem bor_at {is : List Nat} {c : C EV} : borC is c s = (match c ⟨lendE is s.env, []⟩ with
  | .ok r _ => if noR r then .ok r s else .err
  | _ => .err) := nr rfl
theorem bcl_at {is : List Nat} {c : C EV} : bclC is c s = (match c ⟨lendW is s.env s.mem, []⟩ with
  | .ok r _ => if noR r then .ok r s else .err
  | _ => .err) := nr rfl
theorem lendW_eq {is : List Nat} {e : List (Option EV)} {m : List Cell} : lendW is e m = e.mapIdx fun j o => if is.contains j then lendw m o else frzv o := rfl
@[simp] theorem lendw_own {m : List Cell} {xs : List D} : lendw m (some (.own xs)) = if pures xs then some (.val (.lst xs)) else none := nr rfl
theorem lendw_cel {m : List Cell} {n : Nat} {xs : List D} (h : m[n]? = some (.lst xs)) (hp : pures xs = true) : lendw m (some (.val (.cel n))) = some (.val (.lst xs)) := by
  show (match m[n]? with
    | some (.lst xs) => if pures xs then some (EV.val (.lst xs)) else none
    | _ => none) = _
  rw [h]
  simp only [hp, if_true]
theorem lendE_eq {is : List Nat} {e : List (Option EV)} : lendE is e = e.mapIdx fun j o => if is.contains j then lendv o else frzv o := rfl
@[simp] theorem lendv_own {xs : List D} : lendv (some (.own xs)) = if pures xs then some (.val (.lst xs)) else none := nr rfl
@[simp] theorem lendv_val {d : D} : lendv (some (.val d)) = frzv (some (.val d)) := nr rfl
@[simp] theorem lendv_none : lendv none = none := nr rfl
@[simp] theorem noR_val {d : D} : noR (.val d) = d.noL := nr rfl
@[simp] theorem noR_own {xs : List D} : noR (.own xs) = noLs xs := nr rfl
@[simp] theorem noL_int {i : Int} : (D.int i).noL = true := nr (by simp [D.noL])
@[simp] theorem noL_bl {b : Bool} : (D.bl b).noL = true := nr (by simp [D.noL])
@[simp] theorem noL_non : D.non.noL = true := nr (by simp [D.noL])
@[simp] theorem noL_str {x : Str} : (D.str x).noL = true := nr (by simp [D.noL])
@[simp] theorem noL_tup {xs : List D} : (D.tup xs).noL = noLs xs := nr (by simp [D.noL])
@[simp] theorem noLs_nil : noLs [] = true := nr (by simp [noLs])
@[simp] theorem noLs_cons {x : D} {xs : List D} : noLs (x :: xs) = (x.noL && noLs xs) := nr (by simp [noLs])
theorem noLs_map {α : Type} {f : α → D} (h : ∀ x, (f x).noL = true) : ∀ L : List α, noLs (L.map f) = true
  | [] => by simp
  | x :: L => by simp [h, noLs_map h L]
theorem pures_map {α : Type} {f : α → D} (h : ∀ x, (f x).pure = true) : ∀ L : List α, pures (L.map f) = true
  | [] => by simp [pures]
  | x :: L => by simp [pures, h, pures_map h L]
@[simp] theorem frzv_none : frzv none = none := nr rfl
@[simp] theorem frzv_own {xs : List D} : frzv (some (.own xs)) = none := nr rfl
@[simp] theorem frzv_val {d : D} : frzv (some (.val d)) = if d.pure then some (.val d) else none := nr rfl
@[simp] theorem pure_int {i : Int} : (D.int i).pure = true := nr (by simp [D.pure])
@[simp] theorem pure_lst {xs : List D} : (D.lst xs).pure = pures xs := nr (by simp [D.pure])
@[simp] theorem pure_tup {xs : List D} : (D.tup xs).pure = pures xs := nr (by simp [D.pure])
@[simp] theorem pures_nil : pures [] = true := nr (by simp [pures])
@[simp] theorem pures_cons {x : D} {xs : List D} : pures (x :: xs) = (x.pure && pures xs) := nr (by simp [pures])
@[simp] theorem pures_app {ys : List D} : ∀ {xs : List D}, pures (xs ++ ys) = (pures xs && pures ys)
  | [] => by simp
  | x :: xs => by simp [pures_app (xs := xs), Bool.and_assoc]
@[simp] theorem pures_ints : ∀ {ns : List Int}, pures (ns.map .int) = true
  | [] => by simp
  | n :: ns => by simp [pures_ints (ns := ns)]
@[simp] theorem flat_int {i : Int} : (D.int i).flat = true := nr rfl
@[simp] theorem flat_bl {b : Bool} : (D.bl b).flat = true := nr rfl
theorem atI_last {α : Type} {xs : List α} {x : α} : L2.atI (xs ++ [x]) (-1) = some x := by
  unfold L2.atI L2.ixN
  rw [if_neg (by omega), if_pos (by simp; omega)]
  have e : (-1 + ((xs ++ [x]).length : Int)).toNat = xs.length := by simp; omega
  show (xs ++ [x])[(-1 + ((xs ++ [x]).length : Int)).toNat]? = some x
  rw [e]
  simp
theorem om_app {xs : List D} {y : D} (h : xs.length < 16777216) : omD .append xs [y] = some (.non, xs ++ [y]) := by
  show (if xs.length < lim then some (D.non, xs ++ [y]) else none) = _
  rw [if_pos h]
theorem om_ext {xs ys : List D} (h : xs.length + ys.length ≤ 16777216) : omD .extend xs [.lst ys] = some (.non, xs ++ ys) := by
  show (if xs.length + ys.length ≤ lim then some (D.non, xs ++ ys) else none) = _
  rw [if_pos h]
theorem om_extT {xs ys : List D} (h : xs.length + ys.length ≤ 16777216) : omD .extend xs [.tup ys] = some (.non, xs ++ ys) := by
  show (if xs.length + ys.length ≤ lim then some (D.non, xs ++ ys) else none) = _
  rw [if_pos h]
@[simp] theorem bi_isi {m : List Cell} {ts : List Ty} {one : Bool} {d : D} : biD m (.isi ts one) [d] = (tysD m d ts).map fun b => .val (.bl b) := nr (by simp only [biD])
@[simp] theorem tys_nil {m : List Cell} {d : D} : tysD m d [] = some false := nr rfl
@[simp] theorem tys_cons {m : List Cell} {d : D} {t : Ty} {ts : List Ty} : tysD m d (t :: ts) = (match tyD m d t, tysD m d ts with
    | some a, some b => some (a || b)
    | _, _ => none) := nr rfl
@[simp] theorem ty_int {m : List Cell} {i : Int} {t : Ty} : tyD m (.int i) t = some (decide (t = .int)) := nr rfl
theorem sat_eq {o : FO} {r : EV} (h : o.sat fun v _ => v = r) : ∃ m, o = .ok r m := by
  cases h with
  | @mk a s _ h => exact ⟨s, by rw [h]⟩
theorem bin_addLP {xs ys : List D} (h : xs.length + ys.length ≤ 16777216) : binD .add (.lst xs) (.lst ys) = some (.own (xs ++ ys)) := by
  rw [bin_addL, if_pos h]
theorem bin_addTP {xs ys : List D} (h : xs.length + ys.length ≤ 16777216) : binD .add (.tup xs) (.tup ys) = some (.val (.tup (xs ++ ys))) := by
  rw [bin_addT, if_pos h]
theorem bin_powP {i j : Int} (h : 0 ≤ j) (h2 : j ≤ 1000000) (h3 : -18446744073709551616 < i) (h4 : i < 18446744073709551616) : binD .pow (.int i) (.int j) = some (.val (.int (i ^ j.toNat))) := by
  rw [bin_pow, if_pos ⟨h, h2, by omega⟩]
theorem bin_mul1 {x : D} {k : Int} (h : 0 ≤ k) (h2 : k ≤ 16777216) : binD .mul (.lst [x]) (.int k) = some (.own (List.replicate k.toNat x)) := by
  rw [bin_mulL, if_pos, rep1]
  refine ⟨by omega, by omega, ?_⟩
  rw [List.length_singleton, Nat.one_mul]
  show k.toNat ≤ lim
  rw [lim]
  omega
theorem lim_ok {n : Nat} (h : n ≤ 16777216) : (n ≤ lim) = True := eq_true h
/-! ### calls and loops -/
theorem call_sat {f : Nat} {ds : List D} {P : EV → Sta → Prop} (h : (Phi f ds s.mem).sat fun r m => P r { s with mem := m }) : (callC Phi f ds s).sat P := by
  unfold callC
  generalize Phi f ds s.mem = o at h ⊢
  cases h with
  | mk h => exact .mk h
theorem floop_sat {p : D → C Unit} {body : C Fl} {ks : List Nat} {g : Option Nat} {P : Fl → Sta → Prop} (J : List D → Sta → Prop)
    (step : ∀ x r s, J (x :: r) s → (p x s).sat fun _ s1 => (body s1).sat fun f s2 => match f with
      | .nx => J r (cleanS ks g s2)
      | .ct => J r (cleanS ks g s2)
      | .bk => P .nx (cleanS ks g s2)
      | .rt v => P (.rt v) s2) (done : ∀ s, J [] s → P .nx s) : ∀ (xs : List D) (s : Sta), J xs (cleanS ks g s) → (floop p body ks g xs s).sat P
  | [], s, h => .mk (done _ h)
  | x :: xs, s, h => by
    refine sat_bnd (sat_mono (step x xs _ h) fun _ s1 h1 => ?_)
    refine sat_bnd (sat_mono h1 fun f s2 h2 => ?_)
    cases f with
    | nx => exact floop_sat J step done xs s2 h2
    | ct => exact floop_sat J step done xs s2 h2
    | bk => exact .mk h2
    | rt v => exact .mk h2
/-- a loop that carries data: at the head of each turn the state is what enc tells -/
theorem for_eq {α β : Type} {p : D → C Unit} {body : C Fl} {ks : List Nat} {g : Option Nat} {e : β → D} (enc : α → Sta) (st : α → β → α) (I : List β → α → Prop) :
    ∀ (L : List β) (a : α) (s : Sta), I L a → cleanS ks g s = enc a →
      (∀ (x : β) (r : List β) (a : α), I (x :: r) a → ∃ s2, (((p (e x) (enc a)).bnd fun _ => body) = .ok .nx s2 ∨ ((p (e x) (enc a)).bnd fun _ => body) = .ok .ct s2) ∧ cleanS ks g s2 = enc (st a x) ∧ I r (st a x)) →
      floop p body ks g (L.map e) s = .ok .nx (enc (L.foldl st a)) ∧ I [] (L.foldl st a)
  | [], a, s, h, hs, _ => ⟨by show Out.ok Fl.nx (cleanS ks g s) = _; rw [hs]; rfl, h⟩
  | x :: r, a, s, h, hs, step => by
    obtain ⟨s2, h1, h2, h3⟩ := step x r a h
    have ih := for_eq enc st I r (st a x) s2 h3 h2 step
    rw [List.foldl_cons]
    refine ⟨?_, ih.2⟩
    rw [← ih.1]
    show ((p (e x) (cleanS ks g s)).bnd fun _ => bnd body fun f => match f with
      | .nx => floop p body ks g (r.map e)
      | .ct => floop p body ks g (r.map e)
      | .bk => clean ks g
      | .rt v => Dm.ret (.rt v)) = _
    rw [hs]
    cases hp : p (e x) (enc a) with
    | err => rw [hp] at h1; rcases h1 with h1 | h1 <;> cases h1
    | exc z s1 => rw [hp] at h1; rcases h1 with h1 | h1 <;> cases h1
    | ok u s1 =>
      rw [hp] at h1
      show (body s1).bnd _ = _
      rcases h1 with h1 | h1
      · have h1 : body s1 = .ok .nx s2 := h1
        rw [h1]
        rfl
      · have h1 : body s1 = .ok .ct s2 := h1
        rw [h1]
        rfl
/-- a loop whose turns leave all as it is -/
theorem for_all {p : D → C Unit} {body : C Fl} {ks : List Nat} {g : Option Nat} {s0 : Sta} : ∀ (xs : List D) (s : Sta), cleanS ks g s = s0 →
      (∀ x ∈ xs, ((p x s0).sat fun _ s1 => (body s1).sat fun f s2 => (f = .nx ∨ f = .ct) ∧ cleanS ks g s2 = s0)) → floop p body ks g xs s = .ok .nx s0
  | [], s, hs, _ => by show Out.ok Fl.nx (cleanS ks g s) = _; rw [hs]
  | x :: r, s, hs, step => by
    have h1 := step x (by simp)
    show ((p x (cleanS ks g s)).bnd fun _ => bnd body fun f => match f with
      | .nx => floop p body ks g r
      | .ct => floop p body ks g r
      | .bk => clean ks g
      | .rt v => Dm.ret (.rt v)) = _
    rw [hs]
    generalize p x s0 = o at h1
    cases h1 with
    | @mk u s1 _ h1 =>
      show (body s1).bnd _ = _
      generalize body s1 = o at h1
      cases h1 with
      | @mk f s2 _ h1 =>
        have ih := for_all r s2 h1.2 fun y hy => step y (by simp [hy])
        rcases h1.1 with rfl | rfl <;> exact ih
theorem cloop_sat {p : D → C Unit} {vs : List Nat} {t : C Bool} {e : C EV} (J : List D → List D → Sta → Prop)
    (step : ∀ x r acc s, J (x :: r) acc s → (p x (wipeE vs s)).sat fun _ s1 => (t s1).sat fun b s2 => if b then (e s2).sat fun v s3 => J r (acc ++ [v.d]) s3 else J r acc s2) :
    ∀ (xs acc : List D) (s : Sta), J xs acc s → (cloop p vs t e xs s).sat fun ys s' => J [] (acc ++ ys) s'
  | [], acc, s, h => by
    refine .mk ?_
    rw [List.append_nil]
    exact h
  | x :: xs, acc, s, h => by
    refine sat_bnd (sat_mono (step x xs acc s h) fun _ s1 h1 => ?_)
    refine sat_bnd (sat_mono h1 fun b s2 h2 => ?_)
    cases b with
    | false => exact cloop_sat J step xs acc s2 h2
    | true =>
      refine sat_bnd (sat_mono h2 fun v s3 h3 => ?_)
      refine sat_bnd (sat_mono (cloop_sat J step xs (acc ++ [v.d]) s3 h3) fun ys s4 h4 => ?_)
      refine .mk ?_
      rw [List.append_assoc] at h4
      exact h4
theorem comp_sat {p : D → C Unit} {vs : List Nat} {t : C Bool} {e : C EV} {xs : List D} {P : EV → Sta → Prop} (J : List D → List D → Sta → Prop) (hl : xs.length ≤ lim) (h0 : J xs [] s)
    (step : ∀ x r acc s, J (x :: r) acc s → (p x (wipeE vs s)).sat fun _ s1 => (t s1).sat fun b s2 => if b then (e s2).sat fun v s3 => J r (acc ++ [v.d]) s3 else J r acc s2)
    (done : ∀ ys s', J [] ys s' → P (.own ys) (backE vs s.env s')) : (compC p vs t e xs s).sat P := by
  unfold compC
  rw [if_pos hl]
  have h := cloop_sat J step xs [] s h0
  generalize cloop p vs t e xs s = o at h ⊢
  cases h with
  | mk h => exact .mk (done _ _ h)
/-- a comprehension without draws -/
theorem cloop_map {β : Type} {p : D → C Unit} {vs : List Nat} {t : C Bool} {e : C EV} {en : β → D} (f : β → Option D) {s0 : Sta} : ∀ (L : List β) (s : Sta), wipeE vs s = s0 →
    (∀ x ∈ L, ∃ b s2, ((p (en x) s0).bnd fun _ => t) = .ok b s2 ∧ match f x with
      | none => b = false ∧ wipeE vs s2 = s0
      | some d => b = true ∧ ∃ r s3, e s2 = .ok r s3 ∧ r.d = d ∧ wipeE vs s3 = s0) → ∃ s', wipeE vs s' = s0 ∧ cloop p vs t e (L.map en) s = .ok (L.filterMap f) s'
  | [], s, hs, _ => ⟨s, hs, rfl⟩
  | x :: r, s, hs, step => by
    obtain ⟨b, s2, h1, h2⟩ := step x (by simp)
    have e0 : cloop p vs t e ((x :: r).map en) s = (bnd (p (en x)) fun _ => bnd t fun b => if b then bnd e fun v => bnd (cloop p vs t e (r.map en)) fun rs => Dm.ret (v.d :: rs) else cloop p vs t e (r.map en)) (wipeE vs s) := rfl
    have hb : (bnd (p (en x)) fun _ => bnd t fun b => if b then bnd e fun v => bnd (cloop p vs t e (r.map en)) fun rs => Dm.ret (v.d :: rs) else cloop p vs t e (r.map en)) s0 = (if b then bnd e fun v => bnd (cloop p vs t e (r.map en)) fun rs => Dm.ret (v.d :: rs) else cloop p vs t e (r.map en)) s2 := by
      show (p (en x) s0).bnd _ = _
      cases hp : p (en x) s0 with
      | err => rw [hp] at h1; cases h1
      | exc z s1 => rw [hp] at h1; cases h1
      | ok u s1 =>
        rw [hp] at h1
        show (t s1).bnd _ = _
        have h1 : t s1 = .ok b s2 := h1
        rw [h1]
        rfl
    rw [e0, hs, hb]
    cases hf : f x with
    | none =>
      rw [hf] at h2
      obtain ⟨rfl, h3⟩ := h2
      obtain ⟨s', q1, q2⟩ := cloop_map f r s2 h3 fun y hy => step y (by simp [hy])
      exact ⟨s', q1, by rw [List.filterMap_cons, hf]; exact q2⟩
    | some d =>
      rw [hf] at h2
      obtain ⟨rfl, v, s3, h3, h4, h5⟩ := h2
      obtain ⟨s', q1, q2⟩ := cloop_map f r s3 h5 fun y hy => step y (by simp [hy])
      refine ⟨s', q1, ?_⟩
      rw [List.filterMap_cons, hf]
      show (e s2).bnd _ = _
      rw [h3]
      show (cloop p vs t e (r.map en) s3).bnd _ = _
      rw [q2, ← h4]
      rfl
theorem backE_of {vs : List Nat} {s s' : Sta} (h : wipeE vs s' = wipeE vs s) : backE vs s.env s' = backE vs s.env s := by
  unfold backE
  unfold wipeE at h
  have h1 := congrArg Sta.env h
  have h2 := congrArg Sta.mem h
  simp only at h1 h2
  rw [h1, h2]
theorem comp_fm {β : Type} {p : D → C Unit} {vs : List Nat} {t : C Bool} {e : C EV} {en : β → D} (f : β → Option D) (L : List β) (hl : L.length ≤ 16777216) (hb : backE vs s.env s = s)
    (h : ∀ x ∈ L, ∃ b s2, ((p (en x) (wipeE vs s)).bnd fun _ => t) = .ok b s2 ∧ match f x with
      | none => b = false ∧ wipeE vs s2 = wipeE vs s
      | some d => b = true ∧ ∃ r s3, e s2 = .ok r s3 ∧ r.d = d ∧ wipeE vs s3 = wipeE vs s) : compC p vs t e (L.map en) s = .ok (.own (L.filterMap f)) s := by
  obtain ⟨s', h1, h2⟩ := cloop_map f L s rfl h
  unfold compC
  rw [if_pos (show (L.map en).length ≤ lim by rw [List.length_map]; exact hl), h2]
  show Out.ok (EV.own (L.filterMap f)) (backE vs s.env s') = _
  rw [backE_of h1, hb]
/-- .. without a test -/
theorem comp_map {β : Type} {p : D → C Unit} {vs : List Nat} {e : C EV} {en : β → D} (f : β → D) (L : List β) (hl : L.length ≤ 16777216) (hb : backE vs s.env s = s)
    (h : ∀ x ∈ L, (p (en x) (wipeE vs s)).sat fun _ s1 => (e s1).sat fun r s3 => r.d = f x ∧ wipeE vs s3 = wipeE vs s) : compC p vs (tsts Phi []) e (L.map en) s = .ok (.own (L.map f)) s := by
  rw [show L.map f = L.filterMap (fun x => some (f x)) by simp]
  refine comp_fm (fun x => some (f x)) L hl hb fun x hx => ?_
  have hx := h x hx
  generalize p (en x) (wipeE vs s) = o at hx ⊢
  cases hx with
  | @mk u s1 _ hx =>
    refine ⟨true, s1, rfl, rfl, ?_⟩
    generalize e s1 = o at hx
    cases hx with
    | @mk r s3 _ hx => exact ⟨r, s3, rfl, hx.1, hx.2⟩
/-- .. with a test, the items themselves by a function -/
theorem comp_if {β : Type} {p : D → C Unit} {vs : List Nat} {t : C Bool} {e : C EV} {en : β → D} (q : β → Bool) (f : β → D) (L : List β) (hl : L.length ≤ 16777216) (hb : backE vs s.env s = s)
    (h : ∀ x ∈ L, (p (en x) (wipeE vs s)).sat fun _ s1 => (t s1).sat fun b s2 => b = q x ∧ wipeE vs s2 = wipeE vs s ∧ (q x = true → (e s2).sat fun r s3 => r.d = f x ∧ wipeE vs s3 = wipeE vs s)) : compC p vs t e (L.map en) s = .ok (.own ((L.filter q).map f)) s := by
  have hfm : ∀ L : List β, (L.filter q).map f = L.filterMap (fun x => if q x then some (f x) else none) := fun L => by
    induction L with
    | nil => rfl
    | cons a r ih =>
      rw [List.filter_cons, List.filterMap_cons]
      cases hq : q a <;> simp [ih]
  rw [hfm L]
  refine comp_fm _ L hl hb fun x hx => ?_
  have hx := h x hx
  generalize p (en x) (wipeE vs s) = o at hx ⊢
  cases hx with
  | @mk u s1 _ hx =>
    generalize ht : t s1 = o at hx
    cases hx with
    | @mk b s2 _ hx =>
      obtain ⟨rfl, h2, h3⟩ := hx
      refine ⟨q x, s2, ht, ?_⟩
      cases hq : q x with
      | false => exact ⟨rfl, h2⟩
      | true =>
        refine ⟨rfl, ?_⟩
        have h3 := h3 hq
        generalize e s2 = o at h3
        cases h3 with
        | @mk r s3 _ h3 => exact ⟨r, s3, rfl, h3.1, h3.2⟩
/-- a def's end -/
def endF (g : Bool) (n : Nat) : Out Fl → FO
  | .ok .nx s => .ok (.val .non) (trimR g n (.val .non) s.mem)
  | .ok (.rt r) s => .ok r (trimR g n r s.mem)
  | .exc x s => .exc x (trimR g n (.val .non) s.mem)
  | _ => .err
@[simp] theorem endF_nx {g : Bool} {n : Nat} {s : Sta} : endF g n (.ok .nx s) = .ok (.val .non) (trimR g n (.val .non) s.mem) := nr rfl
@[simp] theorem endF_rt {g : Bool} {n : Nat} {s : Sta} {r : EV} : endF g n (.ok (.rt r) s) = .ok r (trimR g n r s.mem) := nr rfl
@[simp] theorem endF_exc {g : Bool} {n : Nat} {s : Sta} {x : Exn} : endF g n (.exc x s) = .exc x (trimR g n (.val .non) s.mem) := nr rfl
@[simp] theorem trimR_ff {n : Nat} {r : EV} {m : List Cell} : trimR false n r m = m := nr rfl
theorem trimR_app {r : EV} {m m2 : List Cell} (h : r.d.pure = true) (hm : m.all Cell.pure = true) : trimR true m.length r (m ++ m2) = m := by
  unfold trimR
  rw [if_pos (by rw [h]; rfl)]
  unfold trimM
  rw [List.take_left, if_pos hm]
theorem runFn_eq {fd : Fn} {ds : List D} {m : List Cell} (hl : ds.length = fd.ps) : runFn Phi fd ds m = endF fd.gc m.length (sxs Phi fd.body ⟨ds.map (fun d => some (.val d)) ++ List.replicate (fd.ns - fd.ps) none, m⟩) := by
  unfold runFn
  rw [if_pos hl]
  generalize sxs Phi fd.body ⟨ds.map (fun d => some (.val d)) ++ List.replicate (fd.ns - fd.ps) none, m⟩ = o
  cases o with
  | ok f s => cases f <;> rfl
  | exc x s => rfl
  | err => rfl
/-- a def's run -/
theorem run_sat {fd : Fn} {ds : List D} {m : List Cell} {P : EV → List Cell → Prop} (hl : ds.length = fd.ps)
    (h : (sxs Phi fd.body ⟨ds.map (fun d => some (.val d)) ++ List.replicate (fd.ns - fd.ps) none, m⟩).sat fun f s => match f with
      | .nx => P (.val .non) (trimR fd.gc m.length (.val .non) s.mem)
      | .rt r => P r (trimR fd.gc m.length r s.mem)
      | _ => False) : (runFn Phi fd ds m).sat P := by
  rw [runFn_eq hl]
  generalize sxs Phi fd.body ⟨ds.map (fun d => some (.val d)) ++ List.replicate (fd.ns - fd.ps) none, m⟩ = o at h ⊢
  cases h with
  | @mk f s _ h =>
    cases f with
    | nx => exact .mk h
    | rt r => exact .mk h
    | bk => exact h.elim
    | ct => exact h.elim
theorem callC_ok {f : Nat} {ds : List D} {r : EV} {m : List Cell} (h : Phi f ds s.mem = .ok r m) : callC Phi f ds s = .ok r { s with mem := m } := by
  unfold callC
  rw [h]
theorem callC_pure {f : Nat} {ds : List D} {r : EV} (h : ∀ m, Phi f ds m = .ok r m) : callC Phi f ds s = .ok r s := callC_ok (h s.mem)
end
theorem phi_eq {T : Tab} {k f : Nat} {fd : Fn} {ds : List D} {m : List Cell} (hf : T f = some fd) (hl : ds.length = fd.ps) : Phi T (k + 1) f ds m = endF fd.gc m.length (sxs (Phi T k) fd.body ⟨ds.map (fun d => some (.val d)) ++ List.replicate (fd.ns - fd.ps) none, m⟩) := by
  rw [← runFn_eq hl]
  show (match T f with
    | some fd => runFn (Phi T k) fd ds m
    | none => FO.err) = _
  rw [hf]
theorem phi_sat {T : Tab} {k f : Nat} {fd : Fn} {ds : List D} {m : List Cell} {P : EV → List Cell → Prop} (hf : T f = some fd) (h : (runFn (Phi T k) fd ds m).sat P) : (Phi T (k + 1) f ds m).sat P := by
  show (match T f with
    | some fd => runFn (Phi T k) fd ds m
    | none => FO.err).sat P
  rw [hf]
  exact h

@[simp] theorem wipeL_nil {e : List (Option EV)} : wipeL [] e = e := nr rfl
@[simp] theorem wipeL_cons {v : Nat} {vs : List Nat} {e : List (Option EV)} : wipeL (v :: vs) e = (wipeL vs e).set v none := nr rfl
@[simp] theorem wipeE_at {vs : List Nat} {s : Sta} : wipeE vs s = ⟨wipeL vs s.env, s.mem⟩ := nr rfl
@[simp] theorem cleanS_none {ks : List Nat} {s : Sta} : cleanS ks none s = ⟨wipeL ks s.env, s.mem⟩ := nr rfl
@[simp] theorem backL_nil {o e : List (Option EV)} : backL o [] e = e := nr rfl
@[simp] theorem backL_cons {o e : List (Option EV)} {v : Nat} {vs : List Nat} : backL o (v :: vs) e = (match o[v]? with
    | some (some (.val d)) => (backL o vs e).set v (some (.val d))
    | _ => backL o vs e) := nr rfl
@[simp] theorem backE_at {vs : List Nat} {o : List (Option EV)} {s : Sta} : backE vs o s = ⟨backL o vs (wipeL vs s.env), s.mem⟩ := nr rfl
/-! ### walks by the turn's number -/
section
variable {Phi : Fns} {s : Sta}
theorem rangeL_drop : ∀ (n i : Nat) (lo : Int), i < n → (rangeL lo n).drop i = .int (lo + i) :: (rangeL lo n).drop (i + 1)
  | 0, i, lo, h => by omega
  | n + 1, 0, lo, h => by simp [rangeL]
  | n + 1, i + 1, lo, h => by
    show (rangeL (lo + 1) n).drop i = _ :: (rangeL (lo + 1) n).drop (i + 1)
    rw [rangeL_drop n i (lo + 1) (by omega)]
    congr 2
    omega
/-- a loop over things: J tells of the turn's number and the state at its head -/
theorem for_ix {p : D → C Unit} {body : C Fl} {ks : List Nat} {g : Option Nat} {P : Fl → Sta → Prop} (xs : List D) (J : Nat → Sta → Prop) (h0 : J 0 (cleanS ks g s))
    (step : ∀ (i : Nat) (x : D) (s : Sta), xs[i]? = some x → J i s → (p x s).sat fun _ s1 => (body s1).sat fun f s2 => match f with
      | .nx => J (i + 1) (cleanS ks g s2)
      | .ct => J (i + 1) (cleanS ks g s2)
      | .bk => P .nx (cleanS ks g s2)
      | .rt v => P (.rt v) s2) (done : ∀ s, J xs.length s → P .nx s) : (floop p body ks g xs s).sat P := by
  refine floop_sat (fun rest s => ∃ i, i ≤ xs.length ∧ rest = xs.drop i ∧ J i s) ?_ ?_ xs s ⟨0, Nat.zero_le _, rfl, h0⟩
  · rintro x r s ⟨i, hi, e, hJ⟩
    have hx : xs[i]? = some x := by
      have := congrArg (fun l => l[0]?) e
      simp at this
      exact this.symm
    have hlt : i < xs.length := (List.getElem?_eq_some_iff.mp hx).1
    have hr : r = xs.drop (i + 1) := by
      have := congrArg List.tail e
      simpa using this
    refine sat_mono (step i x s hx hJ) fun _ s1 h1 => sat_mono h1 fun f s2 h2 => ?_
    cases f with
    | nx => exact ⟨i + 1, hlt, hr, h2⟩
    | ct => exact ⟨i + 1, hlt, hr, h2⟩
    | bk => exact h2
    | rt v => exact h2
  · rintro s ⟨i, hi, e, hJ⟩
    have : i = xs.length := by
      have := congrArg List.length e
      simp at this
      omega
    rw [this] at hJ
    exact done s hJ
theorem rangeL_at {n i : Nat} {lo : Int} {x : D} (h : (rangeL lo n)[i]? = some x) : i < n ∧ x = .int (lo + i) := by
  have hi : i < n := by
    have := (List.getElem?_eq_some_iff.mp h).1
    rwa [rangeL_lenS] at this
  have := rangeL_drop n i lo hi
  have h2 := congrArg (fun l => l[0]?) this
  simp at h2
  rw [h] at h2
  exact ⟨hi, by cases h2; rfl⟩
theorem for_rng {p : D → C Unit} {body : C Fl} {ks : List Nat} {g : Option Nat} {P : Fl → Sta → Prop} {lo : Int} (n : Nat) (J : Nat → Sta → Prop) (h0 : J 0 (cleanS ks g s))
    (step : ∀ (i : Nat) (s : Sta), i < n → J i s → (p (.int (lo + i)) s).sat fun _ s1 => (body s1).sat fun f s2 => match f with
      | .nx => J (i + 1) (cleanS ks g s2)
      | .ct => J (i + 1) (cleanS ks g s2)
      | .bk => P .nx (cleanS ks g s2)
      | .rt v => P (.rt v) s2) (done : ∀ s, J n s → P .nx s) : (floop p body ks g (rangeL lo n) s).sat P :=
  for_ix (rangeL lo n) J h0 (fun i x s hx hJ => by
    obtain ⟨hi, rfl⟩ := rangeL_at hx
    exact step i s hi hJ) fun s h => done s (by rwa [rangeL_lenS] at h)
/-- a comprehension with draws -/
theorem comp_ix {p : D → C Unit} {vs : List Nat} {t : C Bool} {e : C EV} {P : EV → Sta → Prop} (xs : List D) (J : Nat → List D → Sta → Prop) (hl : xs.length ≤ 16777216) (h0 : J 0 [] s)
    (step : ∀ (i : Nat) (x : D) (acc : List D) (s : Sta), xs[i]? = some x → J i acc s → (p x (wipeE vs s)).sat fun _ s1 => (t s1).sat fun b s2 => if b then (e s2).sat fun v s3 => J (i + 1) (acc ++ [v.d]) s3 else J (i + 1) acc s2)
    (done : ∀ ys s', J xs.length ys s' → P (.own ys) (backE vs s.env s')) : (compC p vs t e xs s).sat P := by
  refine comp_sat (fun rest acc s => ∃ i, i ≤ xs.length ∧ rest = xs.drop i ∧ J i acc s) hl ⟨0, Nat.zero_le _, rfl, h0⟩ ?_ ?_
  · rintro x r acc s ⟨i, hi, e, hJ⟩
    have hx : xs[i]? = some x := by
      have := congrArg (fun l => l[0]?) e
      simp at this
      exact this.symm
    have hlt : i < xs.length := (List.getElem?_eq_some_iff.mp hx).1
    have hr : r = xs.drop (i + 1) := by
      have := congrArg List.tail e
      simpa using this
    refine sat_mono (step i x acc s hx hJ) fun _ s1 h1 => sat_mono h1 fun b s2 h2 => ?_
    cases b with
    | true => exact sat_mono h2 fun v s3 h3 => ⟨i + 1, hlt, hr, h3⟩
    | false => exact ⟨i + 1, hlt, hr, h2⟩
  · rintro ys s' ⟨i, hi, e, hJ⟩
    have : i = xs.length := by
      have := congrArg List.length e
      simp at this
      omega
    rw [this] at hJ
    exact done ys s' hJ
theorem comp_rng {p : D → C Unit} {vs : List Nat} {t : C Bool} {e : C EV} {P : EV → Sta → Prop} {lo : Int} (n : Nat) (J : Nat → List D → Sta → Prop) (hl : n ≤ 16777216) (h0 : J 0 [] s)
    (step : ∀ (i : Nat) (acc : List D) (s : Sta), i < n → J i acc s → (p (.int (lo + i)) (wipeE vs s)).sat fun _ s1 => (t s1).sat fun b s2 => if b then (e s2).sat fun v s3 => J (i + 1) (acc ++ [v.d]) s3 else J (i + 1) acc s2)
    (done : ∀ ys s', J n ys s' → P (.own ys) (backE vs s.env s')) : (compC p vs t e (rangeL lo n) s).sat P :=
  comp_ix (rangeL lo n) J (by rw [rangeL_lenS]; exact hl) h0 (fun i x acc s hx hJ => by
    obtain ⟨hi, rfl⟩ := rangeL_at hx
    exact step i acc s hi hJ) fun ys s' h => done ys s' (by rwa [rangeL_lenS] at h)
/-- a while loop: J tells of the turn's number and the state at its head; N bounds the turns -/
theorem whl_sat {c : C Bool} {body : C Fl} {ks : List Nat} {P : Fl → Sta → Prop} (N : Nat) (J : Nat → Sta → Prop)
    (step : ∀ (i : Nat) (s : Sta), i ≤ N → J i s → (c s).sat fun b s1 => if b then i < N ∧ (body s1).sat fun f s2 => match f with
      | .nx => J (i + 1) (cleanS ks none s2)
      | .ct => J (i + 1) (cleanS ks none s2)
      | .bk => P .nx (cleanS ks none s2)
      | .rt v => P (.rt v) s2 else P .nx s1) : ∀ (n i : Nat) (s : Sta), i ≤ N → N - i < n → J i (cleanS ks none s) → (wloop c body ks n s).sat P := by
  intro n
  induction n with
  | zero => intro i s h1 h2; omega
  | succ n ih =>
    intro i s h1 h2 hJ
    show (bnd c _ (cleanS ks none s)).sat P
    refine sat_bnd (sat_mono (step i _ h1 hJ) fun b s1 hb => ?_)
    cases b with
    | false => exact .mk hb
    | true =>
      obtain ⟨hi, hb⟩ := hb
      refine sat_bnd (sat_mono hb fun f s2 h3 => ?_)
      cases f with
      | nx => exact ih (i + 1) s2 hi (by omega) h3
      | ct => exact ih (i + 1) s2 hi (by omega) h3
      | bk => exact .mk h3
      | rt v => exact .mk h3
theorem for_allS {p : D → C Unit} {body : C Fl} {ks : List Nat} {g : Option Nat} {P : Fl → Sta → Prop} (xs : List D) (s0 : Sta) (h0 : cleanS ks g s = s0)
    (h : ∀ x ∈ xs, ((p x s0).sat fun _ s1 => (body s1).sat fun f s2 => (f = .nx ∨ f = .ct) ∧ cleanS ks g s2 = s0)) (hP : P .nx s0) : (floop p body ks g xs s).sat P := by
  rw [for_all xs _ h0 h]
  exact .mk hP
theorem sat_cut {α β : Type} {o : Out α} {f : α → C β} {P : β → Sta → Prop} (Q : α → Sta → Prop) (h : o.sat Q) (h2 : ∀ a s, Q a s → (f a s).sat P) : (o.bnd f).sat P := sat_bnd (sat_mono h h2)
end
/-! ### shorter words -/
section
variable {Phi : Fns} {s : Sta}
theorem call_eqS {f : Nat} {ds : List D} {r : EV} {m' : List Cell} {P : EV → Sta → Prop} (e : Phi f ds s.mem = .ok r m') (h : P r { s with mem := m' }) : (callC Phi f ds s).sat P := by
  rw [callC_ok e]
  exact .mk h
/-- a list's method, by what it tells -/
theorem omC_sat {m : Om} {i : Nat} {ds xs ys : List D} {y : D} {P : EV → Sta → Prop} (he : s.env[i]? = some (some (.own xs))) (e : omD m xs ds = some (y, ys)) (h : P (.val y) { s with env := s.env.set i (some (.own ys)) }) : (omC m i ds s).sat P := by
  unfold omC
  rw [he]
  show (match omD m xs ds with
    | some (y, ys) => Out.ok (EV.val y) { s with env := s.env.set i (some (.own ys)) }
    | none => .err).sat P
  rw [e]
  exact .mk h
theorem comp_mapS {β : Type} {p : D → C Unit} {vs : List Nat} {e : C EV} {en : β → D} {P : EV → Sta → Prop} (f : β → D) (L : List β) (hl : L.length ≤ 16777216)
    (h : ∀ x ∈ L, (p (en x) (wipeE vs s)).sat fun _ s1 => (e s1).sat fun r s3 => r.d = f x ∧ wipeE vs s3 = wipeE vs s) (hP : P (.own (L.map f)) s) (hb : backE vs s.env s = s := by rfl) : (compC p vs (tsts Phi []) e (L.map en) s).sat P := by
  rw [comp_map f L hl hb h]
  exact .mk hP
theorem comp_ifS {β : Type} {p : D → C Unit} {vs : List Nat} {t : C Bool} {e : C EV} {en : β → D} {P : EV → Sta → Prop} (q : β → Bool) (f : β → D) (L : List β) (hl : L.length ≤ 16777216)
    (h : ∀ x ∈ L, (p (en x) (wipeE vs s)).sat fun _ s1 => (t s1).sat fun b s2 => b = q x ∧ wipeE vs s2 = wipeE vs s ∧ (q x = true → (e s2).sat fun r s3 => r.d = f x ∧ wipeE vs s3 = wipeE vs s)) (hP : P (.own ((L.filter q).map f)) s) (hb : backE vs s.env s = s := by rfl) :
    (compC p vs t e (L.map en) s).sat P := by
  rw [comp_if q f L hl hb h]
  exact .mk hP
theorem rangeL_mapN : ∀ (n : Nat) (lo : Int), rangeL lo n = (List.range n).map fun (j : Nat) => D.int (lo + (j : Int))
  | 0, lo => rfl
  | n + 1, lo => by
    rw [List.range_succ_eq_map, List.map_cons, List.map_map]
    show D.int lo :: rangeL (lo + 1) n = _
    rw [rangeL_mapN n (lo + 1)]
    congr 1
    · simp
    · refine List.map_congr_left fun j _ => ?_
      show D.int (lo + 1 + (j : Int)) = D.int (lo + ((j + 1 : Nat) : Int))
      congr 1
      omega
theorem comp_rngS {p : D → C Unit} {vs : List Nat} {e : C EV} {lo : Int} {P : EV → Sta → Prop} (n : Nat) (f : Nat → D) (hl : n ≤ 16777216)
    (h : ∀ i, i < n → (p (.int (lo + i)) (wipeE vs s)).sat fun _ s1 => (e s1).sat fun r s3 => r.d = f i ∧ wipeE vs s3 = wipeE vs s) (hP : P (.own ((List.range n).map f)) s) (hb : backE vs s.env s = s := by rfl) : (compC p vs (tsts Phi []) e (rangeL lo n) s).sat P := by
  rw [rangeL_mapN]
  exact comp_mapS f (List.range n) (by simpa using hl) (fun i hi => h i (List.mem_range.mp hi)) hP hb
theorem comp_rngifS {p : D → C Unit} {vs : List Nat} {t : C Bool} {e : C EV} {lo : Int} {P : EV → Sta → Prop} (n : Nat) (q : Nat → Bool) (f : Nat → D) (hl : n ≤ 16777216)
    (h : ∀ i, i < n → (p (.int (lo + i)) (wipeE vs s)).sat fun _ s1 => (t s1).sat fun b s2 => b = q i ∧ wipeE vs s2 = wipeE vs s ∧ (q i = true → (e s2).sat fun r s3 => r.d = f i ∧ wipeE vs s3 = wipeE vs s)) (hP : P (.own (((List.range n).filter q).map f)) s) (hb : backE vs s.env s = s := by rfl) :
    (compC p vs t e (rangeL lo n) s).sat P := by
  rw [rangeL_mapN]
  exact comp_ifS q f (List.range n) (by simpa using hl) (fun i hi => h i (List.mem_range.mp hi)) hP hb
theorem map_at {α : Type} {f : α → D} {L : List α} {i : Nat} {x : D} (h : (L.map f)[i]? = some x) : ∃ hi : i < L.length, x = f L[i] := by
  rw [List.getElem?_map] at h
  obtain ⟨y, e1, e2⟩ := Option.map_eq_some_iff.mp h
  obtain ⟨hi, e5⟩ := List.getElem?_eq_some_iff.mp e1
  exact ⟨hi, by rw [← e2, e5]⟩
theorem enumD_atS : ∀ {xs : List D} {n i : Nat}, (enumD n xs)[i]? = (xs[i]?).map fun x => .tup [.int ((n + i : Nat) : Int), x]
  | [], n, i => by simp [enumD]
  | x :: xs, n, 0 => by simp [enumD]
  | x :: xs, n, i + 1 => by
    show (enumD (n + 1) xs)[i]? = _
    rw [enumD_atS, List.getElem?_cons_succ, show n + 1 + i = n + (i + 1) by omega]
theorem enumD_lenS : ∀ {xs : List D} {n : Nat}, (enumD n xs).length = xs.length
  | [], n => rfl
  | x :: xs, n => by
    show (enumD (n + 1) xs).length + 1 = _
    rw [enumD_lenS]; rfl
theorem enum_at {α : Type} {f : α → D} {L : List α} {i : Nat} {x : D} (h : (enumD 0 (L.map f))[i]? = some x) : ∃ hi : i < L.length, x = .tup [.int (i : Int), f L[i]] := by
  rw [enumD_atS] at h
  obtain ⟨y, e1, e2⟩ := Option.map_eq_some_iff.mp h
  obtain ⟨hi, rfl⟩ := map_at e1
  exact ⟨hi, by rw [← e2, Nat.zero_add]⟩
theorem zipD_atS : ∀ {xs ys : List D} {i : Nat} {x : D}, (zipD xs ys)[i]? = some x → ∃ a b, xs[i]? = some a ∧ ys[i]? = some b ∧ x = .tup [a, b]
  | [], ys, i, x, h => by simp [zipD] at h
  | a :: xs, [], i, x, h => by simp [zipD] at h
  | a :: xs, b :: ys, 0, x, h => by
    simp [zipD] at h
    exact ⟨a, b, rfl, rfl, h.symm⟩
  | a :: xs, b :: ys, i + 1, x, h => by
    obtain ⟨c, d, e1, e2, e3⟩ := zipD_atS (xs := xs) (ys := ys) (i := i) (x := x) (by simpa [zipD] using h)
    exact ⟨c, d, by simpa using e1, by simpa using e2, e3⟩
theorem zipD_mapS {α β : Type} {f : α → D} {g : β → D} : ∀ {xs : List α} {ys : List β}, zipD (xs.map f) (ys.map g) = (xs.zip ys).map fun x => .tup [f x.1, g x.2]
  | [], _ => by simp [zipD]
  | _ :: _, [] => by simp [zipD]
  | x :: xs, y :: ys => by
    show D.tup [f x, g y] :: zipD (xs.map f) (ys.map g) = _
    rw [zipD_mapS]; rfl
end
/-! ### exceptions -/
section
variable {Phi : Fns} {s : Sta}
def Out.tri (o : Out Fl) (ks : List Nat) (c i j : Nat) : Out Fl := match o with
  | .exc x s' => if ks.contains x.cls then (if subX x.cls c then (if j < s'.env.length then .ok .nx { s' with env := (s'.env.set j (some (.val (.exn x.cls)))).set i none } else .err) else .exc x s') else .err
  | o => o
@[simp] theorem sx_rse {c : Nat} : sx Phi (.rse c) s = .exc ⟨c, []⟩ s := nr rfl
@[simp] theorem sx_tri {b : List S} {ks : List Nat} {c i j : Nat} : sx Phi (.tri b ks c i j) s = (sxs Phi b s).tri ks c i j := nr rfl
@[simp] theorem tri_okS {f : Fl} {ks : List Nat} {c i j : Nat} : (Out.ok f s).tri ks c i j = .ok f s := nr rfl
@[simp] theorem tri_excS {x : Nat} {fl : List (Str × D)} {ks : List Nat} {c i j : Nat} : (Out.exc ⟨x, fl⟩ s).tri ks c i j = if ks.contains x then (if subX x c then (if j < s.env.length then .ok .nx { s with env := (s.env.set j (some (.val (.exn x)))).set i none } else .err) else .exc ⟨x, fl⟩ s) else .err := nr rfl
theorem tri_sat {o : Out Fl} {ks : List Nat} {c i j : Nat} {P : Fl → Sta → Prop} (h : o.sat P) : (o.tri ks c i j).sat P := by
  cases h with
  | mk h => exact .mk h
@[simp] theorem ev_ise {ks cs : List Nat} {one : Bool} {a : E} : ev Phi (.ise ks cs one a) s = (ev Phi a s).bnd fun x => ofO ((iseD ks cs x.d).map fun b => .val (.bl b)) := nr rfl
@[simp] theorem iseD_non {ks cs : List Nat} : iseD ks cs .non = some false := nr rfl
@[simp] theorem iseD_exn {ks cs : List Nat} {c : Nat} : iseD ks cs (.exn c) = if ks.contains c then some (cs.any (subX c)) else none := nr rfl
@[simp] theorem subX_at {c t : Nat} : subX c t = (c == t || t == 0 || t == 5) := nr rfl
@[simp] theorem pure_exn {c : Nat} : (D.exn c).pure = true := nr (by simp [D.pure])
@[simp] theorem is_exn {c : Nat} : cmpD .is (.exn c) .non = some false := nr rfl
@[simp] theorem isn_exn {c : Nat} : cmpD .isn (.exn c) .non = some true := nr rfl
theorem callC_exc {f : Nat} {ds : List D} {x : Exn} {m : List Cell} (h : Phi f ds s.mem = .exc x m) : callC Phi f ds s = .exc x { s with mem := m } := by
  unfold callC
  rw [h]
theorem callC_excP {f : Nat} {ds : List D} {x : Exn} (h : ∀ m, Phi f ds m = .exc x m) : callC Phi f ds s = .exc x s := callC_exc (h s.mem)
@[simp] theorem revD_tup {xs : List D} : revD (.tup xs) = some (.val (.tup xs.reverse)) := nr rfl
@[simp] theorem mtT_indexT {xs : List D} : mtT .index (.tup xs) = true := nr rfl
theorem index_tup {xs : List D} {ns : List Int} {k : Int} (h : intsL xs = some ns) (hk : k ∈ ns) : mthD .index (.tup xs) [.int k] = some (.val (.int (ns.idxOf k : Nat))) := by
  show ((some xs).bind fun xs => (intsL xs).bind fun ns => if k ∈ ns then some (EV.val (.int (ns.idxOf k : Nat))) else none) = _
  simp [h, hk]
end
/-! ### instances, dicts -/
section
variable {Phi : Fns} {s : Sta} {m : List Cell}
@[simp] theorem ev_fld {cs : List Nat} {a : E} {f : Str} : ev Phi (.fld cs a f) s = (ev Phi a s).bnd fun x => lift fun m => (fldD cs m x.d f).map .val := nr rfl
@[simp] theorem ev_met {x : Str} {tab : List (Nat × Nat)} {a : E} {es : List E} : ev Phi (.met x tab a es) s = (ev Phi a s).bnd fun o => bnd (insC x tab o.d) fun f => bnd (evs Phi es) fun ds => callC Phi f (o.d :: ds) := nr rfl
@[simp] theorem ev_mk {c f : Nat} {es : List E} : ev Phi (.mk c f es) s = (evs Phi es s).bnd fun ds => mkC Phi c f ds := nr rfl
@[simp] theorem ev_dnew : ev Phi .dnew s = .ok (.val (.cel s.mem.length)) { s with mem := s.mem ++ [.dct []] } := nr rfl
@[simp] theorem ev_dix {a k : E} : ev Phi (.dix a k) s = (ev Phi a s).bnd fun x => bnd (ev Phi k) fun y => lift fun m => (dixD m x.d y.d).map .val := nr rfl
@[simp] theorem ev_din {neg : Bool} {a d : E} : ev Phi (.din neg a d) s = (ev Phi a s).bnd fun x => bnd (ev Phi d) fun y => lift fun m => (dinD neg m x.d y.d).map fun b => .val (.bl b) := nr rfl
@[simp] theorem tst_din {neg : Bool} {a d : E} : tst Phi (.din neg a d) s = (ev Phi a s).bnd fun x => bnd (ev Phi d) fun y => liftB fun m => dinD neg m x.d y.d := nr rfl
@[simp] theorem asgG_dsub {a k : E} {d : D} : asgG Phi (.dsub a k) d s = (ev Phi a s).bnd fun c => bnd (ev Phi k) fun x => dsetC c.d x.d d := nr rfl
@[simp] theorem sx_fst {cs : List Nat} {a e : E} {f : Str} : sx Phi (.fst cs a f e) s = (ev Phi e s).bnd fun x => bnd (ev Phi a) fun o => bnd (fsetC cs o.d f x.d) fun _ => ret .nx := nr rfl
@[simp] theorem liftB_at {f : List Cell → Option Bool} : liftB f s = (match f s.mem with
  | some r => .ok r s
  | none => .err) := nr rfl
theorem fld_at {n c : Nat} {cs : List Nat} {fs : List (Str × D)} {f : Str} {v : D} (h : m[n]? = some (.ins c fs)) (hc : cs.contains c = true) (hv : fs.lookup f = some v) : fldD cs m (.cel n) f = some v := by
  unfold fldD
  simp only [h, hc, if_true, hv]
theorem fset_at {n c : Nat} {cs : List Nat} {fs : List (Str × D)} {f : Str} {v : D} (h : s.mem[n]? = some (.ins c fs)) (hc : cs.contains c = true) (hl : fs.length < 1000) : fsetC cs (.cel n) f v s = .ok () { s with mem := s.mem.set n (.ins c (putD f v fs)) } := by
  unfold fsetC
  simp only [h, hc, hl, and_self, if_true]
theorem ins_at {n c f : Nat} {x : Str} {tab : List (Nat × Nat)} {fs : List (Str × D)} (h : s.mem[n]? = some (.ins c fs)) (hx : (fs.lookup x).isNone = true) (hf : tab.lookup c = some f) : insC x tab (.cel n) s = .ok f s := by
  unfold insC
  simp only [h, hx, if_true, hf]
/-- a new instance, by what its def does -/
theorem mk_sat {c f : Nat} {ds : List D} {P : EV → Sta → Prop} (h : (Phi f (.cel s.mem.length :: ds) (s.mem ++ [.ins c []])).sat fun r m => r = .val .non ∧ P (.val (.cel s.mem.length)) { s with mem := m }) : (mkC Phi c f ds s).sat P := by
  unfold mkC
  generalize Phi f (.cel s.mem.length :: ds) (s.mem ++ [.ins c []]) = o at h ⊢
  cases h with
  | mk h =>
    obtain ⟨rfl, h⟩ := h
    exact .mk h
theorem mk_eq {c f : Nat} {ds : List D} {m' : List Cell} (h : Phi f (.cel s.mem.length :: ds) (s.mem ++ [.ins c []]) = .ok (.val .non) m') : mkC Phi c f ds s = .ok (.val (.cel s.mem.length)) { s with mem := m' } := by
  unfold mkC
  rw [h]
theorem dix_at {n : Nat} {kvs : List (L2.Key × D)} {k v : D} {q : L2.Key} (h : m[n]? = some (.dct kvs)) (hk : keyD k = some q) (hv : getK kvs q = some v) : dixD m (.cel n) k = some v := by
  unfold dixD dctD
  simp only [h, hk, Option.bind_some, hv]
theorem din_at {n : Nat} {kvs : List (L2.Key × D)} {k : D} {q : L2.Key} {neg : Bool} (h : m[n]? = some (.dct kvs)) (hk : keyD k = some q) : dinD neg m k (.cel n) = some (xor neg (getK kvs q).isSome) := by
  unfold dinD dctD
  simp only [h, hk, Option.bind_some, Option.map_some]
theorem dset_at {n : Nat} {kvs : List (L2.Key × D)} {k v : D} {q : L2.Key} (h : s.mem[n]? = some (.dct kvs)) (hk : keyD k = some q) (hl : kvs.length < 16777216) : dsetC (.cel n) k v s = .ok () { s with mem := s.mem.set n (.dct (putKD kvs q v)) } := by
  unfold dsetC
  have hl : kvs.length < lim := hl
  simp only [hk, h, hl, if_true]
@[simp] theorem keyD_int {i : Int} : keyD (.int i) = some (.inl i) := nr rfl
@[simp] theorem pure_cel {n : Nat} : (D.cel n).pure = false := nr (by simp [D.pure])
theorem getK_cons {a k : L2.Key} {b : D} {r : List (L2.Key × D)} : getK ((a, b) :: r) k = if a = k then some b else getK r k := by
  unfold getK
  rw [List.find?_cons]
  by_cases h : a = k
  · rw [if_pos h, decide_eq_true h]
    rfl
  · rw [if_neg h, decide_eq_false h]
theorem getK_any {k : L2.Key} : ∀ {kvs : List (L2.Key × D)}, (kvs.any fun kv => decide (kv.1 = k)) = (getK kvs k).isSome
  | [] => rfl
  | (a, b) :: r => by
    rw [List.any_cons, getK_cons]
    by_cases h : a = k
    · rw [if_pos h, decide_eq_true h]
      rfl
    · rw [if_neg h, decide_eq_false h, Bool.false_or]
      exact getK_any
theorem getK_map {k j : L2.Key} {v : D} : ∀ {kvs : List (L2.Key × D)}, getK (kvs.map fun kv => if kv.1 = k then (kv.1, v) else kv) j = (getK kvs j).map fun x => if j = k then v else x
  | [] => rfl
  | (a, b) :: r => by
    rw [List.map_cons, getK_cons]
    by_cases h : a = k
    · rw [if_pos h, getK_cons]
      by_cases hj : a = j
      · rw [if_pos hj, if_pos hj, Option.map_some, if_pos (hj ▸ h)]
      · rw [if_neg hj, if_neg hj]
        exact getK_map
    · rw [if_neg h, getK_cons]
      by_cases hj : a = j
      · rw [if_pos hj, if_pos hj, Option.map_some, if_neg (hj ▸ h)]
      · rw [if_neg hj, if_neg hj]
        exact getK_map
theorem getK_app {k j : L2.Key} {v : D} : ∀ {kvs : List (L2.Key × D)}, getK kvs k = none → getK (kvs ++ [(k, v)]) j = if j = k then some v else getK kvs j
  | [], _ => by
    rw [List.nil_append, getK_cons]
    by_cases h : k = j
    · rw [if_pos h, if_pos h.symm]
    · rw [if_neg h, if_neg fun z => h z.symm]
  | (a, b) :: r, h0 => by
    rw [getK_cons] at h0
    by_cases h : a = k
    · rw [if_pos h] at h0
      cases h0
    · rw [if_neg h] at h0
      rw [List.cons_append, getK_cons, getK_cons, getK_app h0]
      by_cases hj : a = j
      · rw [if_pos hj, if_pos hj, if_neg (hj ▸ h)]
      · rw [if_neg hj, if_neg hj]
theorem getK_put {kvs : List (L2.Key × D)} {k j : L2.Key} {v : D} : getK (putKD kvs k v) j = if j = k then some v else getK kvs j := by
  unfold putKD
  rw [getK_any]
  cases h : getK kvs k with
  | none =>
    rw [if_neg (by simp)]
    exact getK_app h
  | some d =>
    rw [if_pos (show (some d).isSome = true from rfl), getK_map]
    by_cases hj : j = k
    · rw [hj, h, if_pos rfl]
      simp
    · rw [if_neg hj]
      simp [hj]
theorem putK_len {kvs : List (L2.Key × D)} {k : L2.Key} {v : D} : (putKD kvs k v).length = if getK kvs k = none then kvs.length + 1 else kvs.length := by
  unfold putKD
  rw [getK_any]
  cases h : getK kvs k with
  | none => simp
  | some d => simp
end
end Dm

set_option autoImplicit false
set_option maxHeartbeats 0
namespace Dm
/-- the function f stands at i in the table -/
class Has (T : Tab) (i : Nat) (f : outParam Fn) : Prop where
  eq : T i = some f
end Dm
namespace Dm
open PySem
/-- is_bit(thing); slots 0 thing -/
def P_is_bit : Fn := ⟨1, 1, false, [
 .ret (.and (.bi (.isi [.int] true) [(.var 0)]) (.and (.not (.bi (.isi [.bool] true) [(.var 0)])) (.cmp .inn (.var 0) (.tup [(.con (.int 0)), (.con (.int 1))]))))]⟩
/-- is_row(thing); slots 0 thing, 1 one -/
def P_is_row : Fn := ⟨1, 2, false, [
 .ret (.and (.bi (.isi [.list, .tuple] false) [(.var 0)]) (.bi .all [(.comp (.nm 1) (.seq (.var 0)) [] [1] (.or (.cmp .is (.var 1) (.con .non)) (.call 0 [(.var 1)])))]))]⟩
/-- _law_drawn(_law_script, _law_k); slots 0 _law_script, 1 _law_k, 2 _law_cell -/
def L_box : Fn := ⟨2, 3, false, [
 .asg (.nm 2) (.con (.int 0)),
 .ife (.cmp .lt (.var 1) (.bi .len [(.var 0)])) [.asg (.nm 2) (.idx (.var 0) (.var 1))] [],
 .ret (.lst [(.bin .mul (.bi .abs [(.var 2)]) (.bi .int [(.cmp .ge (.bi .abs [(.var 2)]) (.bin .pow (.con (.int 10)) (.con (.int 18))))])), (.bin .add (.bin .add (.bin .mod (.var 2) (.con (.int 2305843009213693951))) (.bin .mul (.con (.int 39373)) (.var 1))) (.con (.int 17))), (.con (.int 0))])]⟩
/-- _law_take(_law_drawn_here, _law_many); slots 0 _law_drawn_here, 1 _law_many, 2 _law_once, 3 _law_twice, 4 _law_found -/
def L_take : Fn := ⟨2, 5, false, [
 .ife (.cmp .gt (.idx (.var 0) (.con (.int 0))) (.con (.int 0))) [.asg (.nm 4) (.bin .mod (.idx (.var 0) (.con (.int 0))) (.var 1)), .asg (.csub (.var 0) (.con (.int 0))) (.bin .fdiv (.idx (.var 0) (.con (.int 0))) (.var 1)), .ret (.var 4)] [],
 .asg (.csub (.var 0) (.con (.int 2))) (.bin .add (.idx (.var 0) (.con (.int 2))) (.con (.int 1))),
 .asg (.nm 2) (.bin .mod (.bin .mul (.bin .add (.idx (.var 0) (.con (.int 1))) (.bin .mul (.con (.int 48271)) (.idx (.var 0) (.con (.int 2))))) (.bin .add (.con (.int 39373)) (.idx (.var 0) (.con (.int 2))))) (.con (.int 2147483647))),
 .asg (.nm 3) (.bin .mod (.bin .mul (.bin .add (.var 2) (.idx (.var 0) (.con (.int 2)))) (.bin .add (.bin .mod (.var 2) (.con (.int 40009))) (.con (.int 7)))) (.con (.int 2147483629))),
 .ret (.bin .mod (.bin .fdiv (.bin .mod (.bin .add (.bin .mul (.var 3) (.con (.int 48271))) (.var 2)) (.con (.int 2147483587))) (.con (.int 64))) (.var 1))]⟩
/-- _law_boxes(_law_script, _law_many); slots 0 _law_script, 1 _law_many, 2 _law_k -/
def L_boxes : Fn := ⟨2, 3, false, [
 .ret (.comp (.nm 2) (.rng1 (.bi .max [(.con (.int 2)), (.bi .min [(.bi .len [(.var 0)]), (.var 1)])])) [] [2] (.cel (.call 2 [(.var 0), (.var 2)])))]⟩
/-- _law_many(_law_box_here); slots 0 _law_box_here -/
def L_many : Fn := ⟨1, 1, false, [
 .ife (.cmp .eq (.call 3 [(.var 0), (.con (.int 8))]) (.con (.int 0))) [.ret (.bin .add (.con (.int 10)) (.call 3 [(.var 0), (.con (.int 51))]))] [],
 .ret (.call 3 [(.var 0), (.con (.int 10))])]⟩
/-- _law_row(_law_box_here, _law_many_here); slots 0 _law_box_here, 1 _law_many_here, 2 _law_lost, 3 _law_found, 4 _law_turn, 5 _law_bit -/
def L_row : Fn := ⟨2, 6, false, [
 .asg (.nm 2) (.cmp .eq (.call 3 [(.var 0), (.con (.int 3))]) (.con (.int 0))),
 .asgo 3 (.lst []),
 .for (.nm 4) (.rng1 (.var 1)) [4, 5] false [.asg (.nm 5) (.call 3 [(.var 0), (.con (.int 2))]), .exp (.omt .append 3 [(.ifx (.and (.tru (.var 2)) (.cmp .eq (.call 3 [(.var 0), (.con (.int 4))]) (.con (.int 0)))) (.con .non) (.var 5))])],
 .ret (.mv 3)]⟩
/-- _law_thing(_law_box_here, _law_deep); slots 0 _law_box_here, 1 _law_deep, 2 _law_some, 3 _law_parts, 4 _law_turn -/
def L_thing : Fn := ⟨2, 5, false, [
 .asg (.nm 2) (.lst [(.con .non), (.con (.bl true)), (.con (.bl false)), (.con (.int 0)), (.con (.int 1)), (.con (.int 2)), (.neg (.con (.int 1))), (.con (.str "")), (.con (.str "01")), (.con (.str "?")), (.bin .pow (.con (.int 10)) (.con (.int 20)))]),
 .ife (.or (.cmp .eq (.var 1) (.con (.int 0))) (.cmp .eq (.call 3 [(.var 0), (.con (.int 3))]) (.con (.int 0)))) [.ret (.idx (.var 2) (.call 3 [(.var 0), (.con (.int 11))]))] [],
 .asgo 3 (.comp (.nm 4) (.rng1 (.call 3 [(.var 0), (.con (.int 4))])) [] [4] (.call 7 [(.var 0), (.bin .sub (.var 1) (.con (.int 1)))])),
 .ret (.idx (.lst [(.var 3), (.bi .tuple [(.var 3)])]) (.call 3 [(.var 0), (.con (.int 2))]))]⟩
/-- _law_is_row(_law_thing); slots 0 _law_thing, 1 _law_one -/
def L_is_row : Fn := ⟨1, 2, false, [
 .ife (.not (.tru (.bi (.isi [.list, .tuple] false) [(.var 0)]))) [.ret (.con (.bl false))] [],
 .for (.nm 1) (.seq (.var 0)) [1] false [.ife (.and (.cmp .isn (.var 1) (.con .non)) (.or (.not (.tru (.bi (.isi [.int] true) [(.var 1)]))) (.or (.tru (.bi (.isi [.bool] true) [(.var 1)])) (.cmp .nin (.var 1) (.tup [(.con (.int 0)), (.con (.int 1))]))))) [.ret (.con (.bl false))] []],
 .ret (.con (.bl true))]⟩
/-- turned(row, places); slots 0 row, 1 places, 2 found, 3 place -/
def P_turned : Fn := ⟨2, 4, false, [
 .asgo 2 (.bi .list [(.var 0)]),
 .for (.nm 3) (.seq (.var 1)) [3] false [.ife (.cmp .isn (.bor [2] (.idx (.var 2) (.var 3))) (.con .non)) [.asg (.osub 2 (.var 3)) (.bin .sub (.con (.int 1)) (.bor [2] (.idx (.var 2) (.var 3))))] []],
 .ret (.mv 2)]⟩
/-- wiped(row, places); slots 0 row, 1 places, 2 found, 3 place -/
def P_wiped : Fn := ⟨2, 4, false, [
 .asgo 2 (.bi .list [(.var 0)]),
 .for (.nm 3) (.seq (.var 1)) [3] false [.asg (.osub 2 (.var 3)) (.con .non)],
 .ret (.mv 2)]⟩
/-- _law_places(_law_box_here, _law_many_here); slots 0 _law_box_here, 1 _law_many_here, 2 _law_way, 3 _law_begin_here, 4 _law_place -/
def L_places : Fn := ⟨2, 5, false, [
 .asg (.nm 2) (.call 3 [(.var 0), (.con (.int 4))]),
 .ife (.cmp .eq (.var 2) (.con (.int 0))) [.asg (.nm 3) (.call 3 [(.var 0), (.bin .add (.var 1) (.con (.int 1)))]), .ret (.rngv false (.rng2 (.var 3) (.bi .min [(.var 1), (.bin .add (.var 3) (.call 3 [(.var 0), (.bin .add (.var 1) (.con (.int 1)))]))])))] [],
 .ret (.comp (.nm 4) (.rng1 (.var 1)) [(.cmp .eq (.call 3 [(.var 0), (.bin .add (.con (.int 1)) (.var 2))]) (.con (.int 0)))] [4] (.var 4))]⟩
/-- _law_same(_law_found, _law_due); slots 0 _law_found, 1 _law_due, 2 _law_one, 3 _law_other -/
def L_same : Fn := ⟨2, 4, false, [
 .ife (.cmp .is (.var 1) (.con .non)) [.ret (.cmp .is (.var 0) (.con .non))] [],
 .ife (.tru (.bi (.isi [.list, .tuple] false) [(.var 1)])) [.ife (.or (.cmp .ne (.bi (.isi [.list] true) [(.var 0)]) (.bi (.isi [.list] true) [(.var 1)])) (.cmp .ne (.bi (.isi [.tuple] true) [(.var 0)]) (.bi (.isi [.tuple] true) [(.var 1)]))) [.ret (.con (.bl false))] [], .ret (.and (.cmp .eq (.bi .len [(.var 0)]) (.bi .len [(.var 1)])) (.bi .all [(.comp (.tp [(.nm 2), (.nm 3)]) (.zip (.var 0) (.var 1)) [] [2, 3] (.call 12 [(.var 2), (.var 3)]))]))] [],
 .ife (.tru (.bi (.isi [.str] true) [(.var 1)])) [.ret (.and (.bi (.isi [.str] true) [(.var 0)]) (.cmp .eq (.var 0) (.var 1)))] [],
 .ret (.and (.bi (.isi [.int] true) [(.var 0)]) (.and (.cmp .eq (.bi (.isi [.bool] true) [(.var 0)]) (.bi (.isi [.bool] true) [(.var 1)])) (.cmp .eq (.var 0) (.var 1))))]⟩
/-- _law_order(_law_drawn_here, _law_many); slots 0 _law_drawn_here, 1 _law_many, 2 _law_left, 3 _law_found, 4 _law_turn -/
def L_order : Fn := ⟨2, 5, false, [
 .asgo 2 (.rngv false (.rng1 (.var 1))),
 .asgo 3 (.lst []),
 .for (.nm 4) (.rng1 (.var 1)) [4] false [.exp (.omt .append 3 [(.omt .pop 2 [(.call 3 [(.var 0), (.bor [2] (.bi .len [(.var 2)]))])])])],
 .ret (.bi .tuple [(.var 3)])]⟩
/-- _law_any_order(_law_box_here, _law_many_here); slots 0 _law_box_here, 1 _law_many_here, 2 _law_way, 3 _law_wide, 4 _law_off, 5 _law_found, 6 _law_turn, 7 _law_one, 8 _law_other, 9 _law_bit -/
def L_any_order : Fn := ⟨2, 10, false, [
 .asg (.nm 2) (.call 3 [(.var 0), (.con (.int 5))]),
 .ife (.and (.cmp .eq (.var 2) (.con (.int 0))) (.cmp .gt (.var 1) (.con (.int 0)))) [.asg (.nm 3) (.bin .add (.con (.int 1)) (.call 3 [(.var 0), (.var 1)])), .ret (.bi .tuple [(.srtk (.var 1) (.var 3))])] [],
 .ife (.and (.cmp .eq (.var 2) (.con (.int 1))) (.cmp .gt (.var 1) (.con (.int 0)))) [.asg (.nm 4) (.call 3 [(.var 0), (.var 1)]), .ret (.bi .tuple [(.comp (.nm 9) (.rng1 (.var 1)) [] [9] (.bin .mod (.bin .add (.var 4) (.var 9)) (.var 1)))])] [],
 .ife (.and (.cmp .eq (.var 2) (.con (.int 2))) (.cmp .gt (.var 1) (.con (.int 1)))) [.asgo 5 (.rngv false (.rng1 (.var 1))), .for (.nm 6) (.rng1 (.bin .add (.con (.int 1)) (.call 3 [(.var 0), (.con (.int 3))]))) [6, 7, 8] false [.par [7, 8] [(.call 3 [(.var 0), (.var 1)]), (.call 3 [(.var 0), (.var 1)])], .asg (.tp [(.osub 5 (.var 7)), (.osub 5 (.var 8))]) (.tup [(.bor [5] (.idx (.var 5) (.var 8))), (.bor [5] (.idx (.var 5) (.var 7)))])], .ret (.bi .tuple [(.var 5)])] [],
 .ret (.call 28 [(.var 0), (.var 1)])]⟩
/-- square_for(many, wide); slots 0 many, 1 wide, 2 found, 3 column -/
def P_square_for : Fn := ⟨2, 4, false, [
 .asgo 2 (.lst []),
 .for (.nm 3) (.rng1 (.bi .min [(.var 0), (.var 1)])) [3] false [.exp (.omt .extend 2 [(.rngv false (.rng3 (.var 3) (.var 0) (.var 1)))])],
 .ret (.bi .tuple [(.var 2)])]⟩
/-- square_order(high, wide); slots 0 high, 1 wide -/
def P_square_order : Fn := ⟨2, 2, false, [
 .ret (.call 50 [(.bin .mul (.var 0) (.var 1)), (.var 1)])]⟩
/-- blocks_of(many, wide); slots 0 many, 1 wide -/
def P_blocks_of : Fn := ⟨2, 2, false, [
 .ret (.bin .fdiv (.bin .sub (.bin .add (.var 0) (.var 1)) (.con (.int 1))) (.var 1))]⟩
/-- slots_by_block(order, wide); slots 0 order, 1 wide, 2 found, 3 slot, 4 bit, 5 block -/
def P_slots_by_block : Fn := ⟨2, 6, false, [
 .asgo 2 (.comp (.nm 5) (.rng1 (.call 58 [(.bi .len [(.var 0)]), (.var 1)])) [] [5] (.cel (.lst []))),
 .for (.tp [(.nm 3), (.nm 4)]) (.enm (.var 0)) [3, 4] false [.exp (.cmt .append (.idx (.var 2) (.bin .fdiv (.var 4) (.var 1))) [(.var 3)])],
 .ret (.var 2)]⟩
/-- spans_of(order, wide, most); slots 0 order, 1 wide, 2 most, 3 found, 4 slots, 5 place -/
def P_spans_of : Fn := ⟨3, 6, true, [
 .asgo 3 (.lst []),
 .for (.nm 4) (.seq (.call 59 [(.var 0), (.var 1)])) [4, 5] false [.for (.nm 5) (.rng1 (.bin .sub (.bi .len [(.var 4)]) (.var 2))) [5] false [.exp (.omt .append 3 [(.tup [(.bin .sub (.idx (.var 4) (.bin .add (.var 5) (.var 2))) (.idx (.var 4) (.var 5))), (.idx (.var 4) (.var 5))])])]],
 .ret (.mv 3)]⟩
/-- longest_run(order, wide, most); slots 0 order, 1 wide, 2 most, 3 far, 4 slot -/
def P_longest_run : Fn := ⟨3, 5, false, [
 .ret (.bi .min [(.bin .add (.lst [(.bi .len [(.var 0)])]) (.comp (.tp [(.nm 3), (.nm 4)]) (.seq (.call 60 [(.var 0), (.var 1), (.var 2)])) [] [3, 4] (.var 3)))])]⟩
/-- early(order); slots 0 order, 1 slot, 2 bit -/
def P_early : Fn := ⟨1, 3, false, [
 .ret (.bi (.maxd (.int 0)) [(.comp (.tp [(.nm 1), (.nm 2)]) (.enm (.var 0)) [] [1, 2] (.bin .sub (.var 2) (.var 1)))])]⟩
/-- late(order); slots 0 order, 1 slot, 2 bit -/
def P_late : Fn := ⟨1, 3, false, [
 .ret (.bi (.maxd (.int 0)) [(.comp (.tp [(.nm 1), (.nm 2)]) (.enm (.var 0)) [] [1, 2] (.bin .sub (.var 1) (.var 2)))])]⟩
/-- delay_of(order); slots 0 order -/
def P_delay_of : Fn := ⟨1, 1, false, [
 .ret (.bin .add (.call 84 [(.var 0)]) (.call 85 [(.var 0)]))]⟩
/-- _law_case(_law_box_here); slots 0 _law_box_here, 1 _law_way, 2 _law_row_here -/
def L_case_2 : Fn := ⟨1, 3, false, [
 .asg (.nm 1) (.call 3 [(.var 0), (.con (.int 4))]),
 .ife (.cmp .eq (.var 1) (.con (.int 3))) [.ret (.call 7 [(.var 0), (.con (.int 5))])] [],
 .asgo 2 (.call 6 [(.var 0), (.call 5 [(.var 0)])]),
 .ife (.and (.cmp .eq (.var 1) (.con (.int 2))) (.bcm [2] .ne (.var 2) (.lst []))) [.asg (.osub 2 (.call 3 [(.var 0), (.bor [2] (.bi .len [(.var 2)]))])) (.call 7 [(.var 0), (.con (.int 2))])] [],
 .ret (.idx (.lst [(.var 2), (.bi .tuple [(.var 2)])]) (.call 3 [(.var 0), (.con (.int 2))]))]⟩
/-- law(_law_script); slots 0 _law_script, 1 _law_box_here, 2 _law_great, 3 _law_turn, 4 _law_thing_here, 5 _law_seen, 6 _law_found -/
def law_k01 : Fn := ⟨1, 7, false, [
 .for (.nm 1) (.seq (.call 4 [(.var 0), (.con (.int 4))])) [1, 3, 4, 5, 6] false [.for (.nm 3) (.rng1 (.con (.int 8))) [3, 4, 5, 6] false [.asg (.nm 4) (.call 401 [(.var 1)]), .asg (.nm 5) (.bi .repr [(.var 4)]), .asg (.nm 6) (.call 1 [(.var 4)]), .ife (.or (.not (.tru (.bi (.isi [.bool] true) [(.var 6)]))) (.or (.cmp .ne (.var 6) (.call 8 [(.var 4)])) (.cmp .ne (.bi .repr [(.var 4)]) (.var 5)))) [.ret (.con (.bl false))] []]],
 .asg (.nm 1) (.cel (.call 2 [(.var 0), (.con (.int 4))])),
 .asgo 2 (.call 6 [(.var 1), (.bin .add (.con (.int 301)) (.call 3 [(.var 1), (.con (.int 200))]))]),
 .ife (.or (.bcm [2] .isn (.call 1 [(.var 2)]) (.con (.bl true))) (.bcm [2] .isn (.call 1 [(.bi .tuple [(.var 2)])]) (.con (.bl true)))) [.ret (.con (.bl false))] [],
 .asg (.osub 2 (.call 3 [(.var 1), (.bor [2] (.bi .len [(.var 2)]))])) (.con (.int 2)),
 .ret (.and (.cmp .is (.call 1 [(.var 2)]) (.con (.bl false))) (.and (.cmp .is (.call 1 [(.lst [])]) (.con (.bl true))) (.cmp .is (.call 1 [(.tup [])]) (.con (.bl true)))))]⟩
end Dm

set_option Elab.async false
set_option linter.all false
set_option maxRecDepth 100000
set_option maxHeartbeats 0
set_option autoImplicit false
/-! LL1: draws. -/
namespace Dm
open PySem
/-- a box of draws at the cell n, at most C drawn -/
def Bx (m : List Cell) (n : Nat) (C : Int) : Prop := ∃ a b c, m[n]? = some (.lst [.int a, .int b, .int c]) ∧ 0 ≤ c ∧ c ≤ C
theorem Bx.mono {m : List Cell} {n : Nat} {C C' : Int} (h : Bx m n C) (hc : C ≤ C') : Bx m n C' := by
  obtain ⟨a, b, c, h1, h2, h3⟩ := h
  exact ⟨a, b, c, h1, h2, by omega⟩
/-- at most N draws of the box at n -/
structure Dr (n : Nat) (N : Int) (m m' : List Cell) : Prop where
  len : m'.length = m.length
  oth : ∀ i, i ≠ n → m'[i]? = m[i]?
  box : ∀ C, Bx m n C → Bx m' n (C + N)
theorem Dr.refl {n : Nat} {m : List Cell} : Dr n 0 m m := ⟨rfl, fun _ _ => rfl, fun C h => h.mono (by omega)⟩
theorem Dr.trans {n : Nat} {N M : Int} {m m1 m2 : List Cell} (a : Dr n N m m1) (b : Dr n M m1 m2) : Dr n (N + M) m m2 :=
  ⟨b.len.trans a.len, fun i h => (b.oth i h).trans (a.oth i h), fun C h => (b.box _ (a.box C h)).mono (by omega)⟩
theorem Dr.mono {n : Nat} {N M : Int} {m m' : List Cell} (a : Dr n N m m') (h : N ≤ M) : Dr n M m m' := ⟨a.len, a.oth, fun C hb => (a.box C hb).mono (by omega)⟩
theorem Dr.bx {n : Nat} {N C C' : Int} {m m' : List Cell} (a : Dr n N m m') (hb : Bx m n C) (h : C + N ≤ C') : Bx m' n C' := (a.box C hb).mono h
/-- memories of plain cells stay so -/
theorem Dr.pure {n : Nat} {N C : Int} {m m' : List Cell} (a : Dr n N m m') (hb : Bx m n C) (hp : m.all Cell.pure = true) : m'.all Cell.pure = true := by
  rw [List.all_eq_true] at hp ⊢
  intro c hc
  obtain ⟨i, hi, rfl⟩ := List.getElem_of_mem hc
  by_cases e : i = n
  · obtain ⟨x, y, z, h1, _⟩ := a.box _ hb
    subst e
    have h2 := List.getElem?_eq_getElem hi
    rw [h1] at h2
    rw [← Option.some.inj h2]
    simp [Cell.pure, pures, D.pure]
  · have h1 := a.oth i e
    have h2 := List.getElem?_eq_getElem hi
    rw [h2] at h1
    exact hp _ (List.mem_of_getElem? h1.symm)
theorem Bx.pure1 {a b c : Int} : [Cell.lst [.int a, .int b, .int c]].all Cell.pure = true := by simp [Cell.pure, pures, D.pure]
section
variable {T : Tab} [Has T 3 L_take]
theorem take_ok {k n : Nat} {many C : Int} {m : List Cell} (hm : Bx m n C) (h1 : 0 < many) (h2 : many < 1073741824) (h4 : C < 1152921504606846976) {P : EV → List Cell → Prop}
    (h : ∀ r m', 0 ≤ r → r < many → Dr n 1 m m' → P (.val (.int r)) m') : (Phi T (k + 1) 3 [.cel n, .int many] m).sat P := by
  have hm0 := hm
  obtain ⟨a, b, c, hm, h3, h5⟩ := hm
  refine phi_sat (Has.eq (f := L_take)) (run_sat rfl ?_)
  have hn : n < m.length := (List.getElem?_eq_some_iff.mp hm).1
  by_cases ha : 0 < a
  · simp (disch := omega) [-getElem?_pos, List.getElem?_cons_zero, List.getElem?_cons_succ, ite_at, bin_powP, bin_modP, bin_fdivP, bin_mulB, bin_mulA, bin_mul1, rngC1_ok, rngC2_ok, rngE_ok, L_take, hm, ha, L2.atI, L2.ixN, List.getElem?_set_self hn]
    refine h _ _ (Int.emod_nonneg _ (by omega)) (Int.emod_lt_of_pos _ h1) ⟨by simp, fun i hi => by rw [List.getElem?_set_ne (Ne.symm hi)], fun C' hb => ?_⟩
    obtain ⟨a', b', c', e, h6, h7⟩ := hb
    rw [hm] at e
    cases e
    exact ⟨_, _, _, List.getElem?_set_self hn, h6, by omega⟩
  · simp (disch := omega) [-getElem?_pos, List.getElem?_cons_zero, List.getElem?_cons_succ, ite_at, bin_powP, bin_modP, bin_fdivP, bin_mulB, bin_mulA, bin_mul1, rngC1_ok, rngC2_ok, rngE_ok, L_take, hm, ha, L2.atI, L2.ixN, List.getElem?_set_self hn]
    refine h _ _ (Int.emod_nonneg _ (by omega)) (Int.emod_lt_of_pos _ h1) ⟨by simp, fun i hi => by rw [List.getElem?_set_ne (Ne.symm hi)], fun C' hb => ?_⟩
    obtain ⟨a', b', c', e, h6, h7⟩ := hb
    rw [hm] at e
    cases e
    exact ⟨_, _, _, List.getElem?_set_self hn, by omega, by omega⟩
end
section
variable {T : Tab} [Has T 2 L_box]
theorem box_ok {k : Nat} {ns : List Int} {kk : Int} {m : List Cell} (h0 : 0 ≤ kk) (h1 : kk ≤ 100) {P : EV → List Cell → Prop} (h : ∀ a b, P (.own [.int a, .int b, .int 0]) m) : (Phi T (k + 1) 2 [.scr ns, .int kk] m).sat P := by
  refine phi_sat (Has.eq (f := L_box)) (run_sat rfl ?_)
  by_cases hk : kk < ns.length
  · obtain ⟨v, hv⟩ := atI_ex h0 hk
    simp (disch := omega) [-getElem?_pos, List.getElem?_cons_zero, List.getElem?_cons_succ, ite_at, bin_powP, bin_modP, bin_fdivP, bin_mulB, bin_mulA, bin_mul1, rngC1_ok, rngC2_ok, rngE_ok, L_box, hk, hv]
    exact h _ _
  · simp (disch := omega) [-getElem?_pos, List.getElem?_cons_zero, List.getElem?_cons_succ, ite_at, bin_powP, bin_modP, bin_fdivP, bin_mulB, bin_mulA, bin_mul1, rngC1_ok, rngC2_ok, rngE_ok, L_box, hk]
    exact h _ _
end
section
variable {T : Tab} [Has T 3 L_take] [Has T 5 L_many]
theorem many_ok {k n : Nat} {C : Int} {m : List Cell} (hm : Bx m n C) (h4 : C < 1152921504606846000) {P : EV → List Cell → Prop}
    (h : ∀ (r : Nat) m', r ≤ 60 → Dr n 2 m m' → P (.val (.int r)) m') : (Phi T (k + 2) 5 [.cel n] m).sat P := by
  refine phi_sat (Has.eq (f := L_many)) (run_sat rfl ?_)
  simp (disch := omega) [-getElem?_pos, List.getElem?_cons_zero, List.getElem?_cons_succ, ite_at, bin_powP, bin_modP, bin_fdivP, bin_mulB, bin_mulA, bin_mul1, rngC1_ok, rngC2_ok, rngE_ok, L_many]
  repeat with_reducible refine sat_bnd ?_
  refine call_sat (take_ok (k := k) hm (by omega) (by omega) (by omega) fun r m1 r0 r1 d1 => ?_)
  have hm1 := d1.bx hm (C' := C + 1) (by omega)
  by_cases hr : r = 0
  · simp (disch := omega) [-getElem?_pos, List.getElem?_cons_zero, List.getElem?_cons_succ, ite_at, bin_powP, bin_modP, bin_fdivP, bin_mulB, bin_mulA, bin_mul1, rngC1_ok, rngC2_ok, rngE_ok, hr]
    repeat with_reducible refine sat_bnd ?_
    refine call_sat (take_ok (k := k) hm1 (by omega) (by omega) (by omega) fun q m2 q0 q1 d2 => ?_)
    simp (disch := omega) [-getElem?_pos, List.getElem?_cons_zero, List.getElem?_cons_succ, ite_at, bin_powP, bin_modP, bin_fdivP, bin_mulB, bin_mulA, bin_mul1, rngC1_ok, rngC2_ok, rngE_ok]
    have := h (10 + q.toNat) m2 (by omega) (d1.trans d2)
    rw [show (((10 + q.toNat : Nat) : Int)) = 10 + q by omega] at this
    exact this
  · simp (disch := omega) [-getElem?_pos, List.getElem?_cons_zero, List.getElem?_cons_succ, ite_at, bin_powP, bin_modP, bin_fdivP, bin_mulB, bin_mulA, bin_mul1, rngC1_ok, rngC2_ok, rngE_ok, hr]
    repeat with_reducible refine sat_bnd ?_
    refine call_sat (take_ok (k := k) hm1 (by omega) (by omega) (by omega) fun q m2 q0 q1 d2 => ?_)
    simp (disch := omega) [-getElem?_pos, List.getElem?_cons_zero, List.getElem?_cons_succ, ite_at, bin_powP, bin_modP, bin_fdivP, bin_mulB, bin_mulA, bin_mul1, rngC1_ok, rngC2_ok, rngE_ok]
    have := h q.toNat m2 (by omega) (d1.trans d2)
    rw [show ((q.toNat : Nat) : Int) = q by omega] at this
    exact this
end
theorem clean_gc0 {ks : List Nat} {s : Sta} (h : (wipeL ks s.env).all pureE = true) : cleanS ks (some 0) s = ⟨wipeL ks s.env, []⟩ := by
  show (if (wipeL ks s.env).all pureE then (⟨wipeL ks s.env, trimM 0 s.mem⟩ : Sta) else _) = _
  rw [if_pos h]
  rfl
theorem gc0 {ks : List Nat} {e e0 : List (Option EV)} {m : List Cell} (h : wipeL ks e = e0) (hp : e0.all pureE = true) : cleanS ks (some 0) ⟨e, m⟩ = ⟨e0, []⟩ := by
  rw [clean_gc0 (by show (wipeL ks e).all pureE = true; rw [h]; exact hp), h]
/-- a law's turns: what was made in one is forgotten -/
theorem turns_ok {p : D → C Unit} {body : C Fl} {ks : List Nat} {P : Fl → Sta → Prop} {s s0 : Sta} {R : Nat} (h0 : cleanS ks (some s.mem.length) s = s0)
    (h : ∀ i : Nat, i < R → (p (.int (i : Int)) s0).sat fun _ s1 => (body s1).sat fun f s2 => f = .nx ∧ cleanS ks (some s.mem.length) s2 = s0) (hP : P .nx s0) : (floopG p body ks (rangeL 0 R) s).sat P := by
  refine for_allS _ s0 h0 (fun x hx => ?_) hP
  rw [rangeL_mapN] at hx
  obtain ⟨i, hi, rfl⟩ := List.mem_map.mp hx
  have := h i (List.mem_range.mp hi)
  rw [Int.zero_add]
  exact sat_mono this fun _ s1 h1 => sat_mono h1 fun f s2 h2 => ⟨.inl h2.1, h2.2⟩
theorem turns_R {M : Int} {n : Nat} (h : 0 ≤ M) (h2 : M ≤ 100) : ∃ R : Nat, (1 + (if (n : Int) < M then (n : Int) else M)) = (R : Int) ∧ (R : Int) ≤ 1 + M :=
  ⟨(1 + (if (n : Int) < M then (n : Int) else M)).toNat, by split <;> omega, by split <;> omega⟩
/-- one box alone -/
theorem bx1 {a b : Int} : Bx [.lst [.int a, .int b, .int 0]] 0 0 := ⟨a, b, 0, rfl, by omega, by omega⟩
end Dm

set_option Elab.async false
set_option linter.all false
set_option maxRecDepth 100000
set_option maxHeartbeats 0
set_option autoImplicit false
/-! LL2: rows of bits, some of them lost. -/
namespace Dm
open PySem
/-- a bit, or a lost one -/
def bt : Option Bool → D
  | none => .non
  | some b => .int (if b then 1 else 0)
section
variable {T : Tab} [Has T 3 L_take] [Has T 6 L_row]
theorem row_ok {k n N : Nat} {C : Int} {m : List Cell} (hm : Bx m n C) (hN : N ≤ 1000000) (h4 : C < 1152921504600000000) {P : EV → List Cell → Prop}
    (h : ∀ (r : List (Option Bool)) m', r.length = N → Dr n (1 + 2 * N) m m' → P (.own (r.map bt)) m') : (Phi T (k + 2) 6 [.cel n, .int N] m).sat P := by
  refine phi_sat (Has.eq (f := L_row)) (run_sat rfl ?_)
  simp (disch := omega) [-getElem?_pos, List.getElem?_cons_zero, List.getElem?_cons_succ, ite_at, bin_powP, bin_modP, bin_fdivP, bin_mulB, bin_mulA, bin_mul1, rngC1_ok, rngC2_ok, rngE_ok, L_row]
  repeat with_reducible refine sat_bnd ?_
  refine call_sat (take_ok (k := k) hm (by omega) (by omega) (by omega) fun lost m1 r0 r1 d1 => ?_)
  simp (disch := omega) [-getElem?_pos, List.getElem?_cons_zero, List.getElem?_cons_succ, ite_at, bin_powP, bin_modP, bin_fdivP, bin_mulB, bin_mulA, bin_mul1, rngC1_ok, rngC2_ok, rngE_ok]
  obtain ⟨J, hJ⟩ : ∃ J : Nat → Sta → Prop, ∀ i s, J i s ↔ ∃ (r : List (Option Bool)) (m2 : List Cell), r.length = i ∧ Dr n (1 + 2 * i) m m2 ∧ s = ⟨[some (.val (.cel n)), some (.val (.int N)), some (.val (.bl (decide (lost = 0)))), some (.own (r.map bt)), none, none], m2⟩ := ⟨_, fun _ _ => Iff.rfl⟩
  refine sat_bnd (for_rng N J ?_ ?_ ?_)
  · exact (hJ _ _).mpr ⟨[], m1, rfl, d1.mono (by omega), rfl⟩
  · intro i s hi hs
    obtain ⟨r, m2, hr, d2, rfl⟩ := (hJ _ _).mp hs
    simp (disch := omega) [-getElem?_pos, List.getElem?_cons_zero, List.getElem?_cons_succ, ite_at, bin_powP, bin_modP, bin_fdivP, bin_mulB, bin_mulA, bin_mul1, rngC1_ok, rngC2_ok, rngE_ok]
    repeat with_reducible refine sat_bnd ?_
    refine call_sat (take_ok (k := k) (d2.bx hm (C' := C + 1 + 2 * i) (by omega)) (by omega) (by omega) (by omega) fun b m3 b0 b1 d3 => ?_)
    have ha : ∀ (x : Option Bool), omD .append (r.map bt) [bt x] = some (.non, (r ++ [x]).map bt) := fun x => by
      rw [om_app (by simp; omega)]
      simp
    have hb : D.int b = bt (some (decide (b = 1))) := by
      by_cases e : b = 1
      · subst e; rfl
      · have : b = 0 := by omega
        subst this; rfl
    by_cases hl : lost = 0
    · simp (disch := omega) [-getElem?_pos, List.getElem?_cons_zero, List.getElem?_cons_succ, ite_at, bin_powP, bin_modP, bin_fdivP, bin_mulB, bin_mulA, bin_mul1, rngC1_ok, rngC2_ok, rngE_ok, hl]
      repeat with_reducible refine sat_bnd ?_
      refine call_sat (take_ok (k := k) ((d2.trans d3).bx hm (C' := C + 2 + 2 * i) (by omega)) (by omega) (by omega) (by omega) fun q m4 q0 q1 d4 => ?_)
      by_cases hq : q = 0
      · have := ha none
        rw [show bt none = D.non from rfl] at this
        simp (disch := omega) [-getElem?_pos, List.getElem?_cons_zero, List.getElem?_cons_succ, ite_at, bin_powP, bin_modP, bin_fdivP, bin_mulB, bin_mulA, bin_mul1, rngC1_ok, rngC2_ok, rngE_ok, hq, this]
        exact (hJ _ _).mpr ⟨r ++ [none], m4, by simp [hr], ((d2.trans d3).trans d4).mono (by omega), by simp [bt, hl]⟩
      · have := ha (some (decide (b = 1)))
        simp (disch := omega) [-getElem?_pos, List.getElem?_cons_zero, List.getElem?_cons_succ, ite_at, bin_powP, bin_modP, bin_fdivP, bin_mulB, bin_mulA, bin_mul1, rngC1_ok, rngC2_ok, rngE_ok, hq, hb, this]
        exact (hJ _ _).mpr ⟨r ++ [some (decide (b = 1))], m4, by simp [hr], ((d2.trans d3).trans d4).mono (by omega), by simp [hl]⟩
    · have := ha (some (decide (b = 1)))
      simp (disch := omega) [-getElem?_pos, List.getElem?_cons_zero, List.getElem?_cons_succ, ite_at, bin_powP, bin_modP, bin_fdivP, bin_mulB, bin_mulA, bin_mul1, rngC1_ok, rngC2_ok, rngE_ok, hl, hb, this]
      exact (hJ _ _).mpr ⟨r ++ [some (decide (b = 1))], m3, by simp [hr], (d2.trans d3).mono (by omega), by simp [hl]⟩
  · intro s hs
    obtain ⟨r, m2, hr, d2, rfl⟩ := (hJ _ _).mp hs
    simp (disch := omega) [-getElem?_pos, List.getElem?_cons_zero, List.getElem?_cons_succ, ite_at, bin_powP, bin_modP, bin_fdivP, bin_mulB, bin_mulA, bin_mul1, rngC1_ok, rngC2_ok, rngE_ok, L_row]
    exact h r m2 hr d2
end
end Dm

set_option Elab.async false
set_option linter.all false
set_option maxRecDepth 100000
set_option maxHeartbeats 0
set_option autoImplicit false
/-! LL3: boxes of draws; the same, kind by kind. -/
namespace Dm
open PySem
section
variable {T : Tab} [Has T 2 L_box] [Has T 4 L_boxes]
theorem boxes_ok {k : Nat} {ns : List Int} {M : Int} (h0 : 0 ≤ M) (h1 : M ≤ 64) {P : EV → List Cell → Prop}
    (h : ∀ (B : Nat) m', 2 ≤ B → (B ≤ 2 ∨ B ≤ M) → m'.length = B → (∀ i, i < B → Bx m' i 0) → P (.own ((List.range B).map .cel)) m') : (Phi T (k + 2) 4 [.scr ns, .int M] []).sat P := by
  refine phi_sat (Has.eq (f := L_boxes)) (run_sat rfl ?_)
  obtain ⟨B, hB, hB2, hB3⟩ : ∃ B : Nat, (if (if M < (ns.length : Int) then M else (ns.length : Int)) > 2 then (if M < (ns.length : Int) then M else (ns.length : Int)) else 2) = (B : Int) ∧ 2 ≤ B ∧ (B ≤ 2 ∨ (B : Int) ≤ M) := by
    refine ⟨(if (if M < (ns.length : Int) then M else (ns.length : Int)) > 2 then (if M < (ns.length : Int) then M else (ns.length : Int)) else 2).toNat, ?_, ?_, ?_⟩ <;> split <;> split at * <;> omega
  obtain ⟨J, hJ⟩ : ∃ J : Nat → List D → Sta → Prop, ∀ i acc s, J i acc s ↔ ∃ m2 : List Cell, m2.length = i ∧ acc = (List.range i).map .cel ∧ (∀ j, j < i → Bx m2 j 0) ∧ s.mem = m2 ∧ ∃ o, s.env = [some (.val (.scr ns)), some (.val (.int M)), o] := ⟨_, fun _ _ _ => Iff.rfl⟩
  simp (disch := omega) [-getElem?_pos, List.getElem?_cons_zero, List.getElem?_cons_succ, ite_at, bin_powP, bin_modP, bin_fdivP, bin_mulB, bin_mulA, bin_mul1, rngC1_ok, rngC2_ok, rngE_ok, L_boxes]
  rw [hB]
  simp (disch := omega) [-getElem?_pos, List.getElem?_cons_zero, List.getElem?_cons_succ, ite_at, bin_powP, bin_modP, bin_fdivP, bin_mulB, bin_mulA, bin_mul1, rngC1_ok, rngC2_ok, rngE_ok]
  repeat with_reducible refine sat_bnd ?_
  refine comp_rng B J (by omega) ?_ ?_ ?_
  · exact (hJ _ _ _).mpr ⟨[], rfl, rfl, fun j h => by omega, rfl, none, rfl⟩
  · intro i acc s hi hs
    obtain ⟨m2, hm, ha, hb, hmem, o, henv⟩ := (hJ _ _ _).mp hs
    obtain ⟨env, mem⟩ := s
    simp only at hmem henv
    subst hmem henv
    simp (disch := omega) [-getElem?_pos, List.getElem?_cons_zero, List.getElem?_cons_succ, ite_at, bin_powP, bin_modP, bin_fdivP, bin_mulB, bin_mulA, bin_mul1, rngC1_ok, rngC2_ok, rngE_ok]
    repeat with_reducible refine sat_bnd ?_
    refine call_sat (box_ok (k := k) (by omega) (by omega) fun a b => ?_)
    simp (disch := omega) [-getElem?_pos, List.getElem?_cons_zero, List.getElem?_cons_succ, ite_at, bin_powP, bin_modP, bin_fdivP, bin_mulB, bin_mulA, bin_mul1, rngC1_ok, rngC2_ok, rngE_ok]
    refine (hJ _ _ _).mpr ⟨_, by simp [hm], ?_, fun j hj => ?_, rfl, _, rfl⟩
    · rw [List.range_succ, List.map_append, ha, hm]; rfl
    · by_cases e : j = i
      · subst e
        exact ⟨a, b, 0, by rw [← hm]; simp, by omega, by omega⟩
      · obtain ⟨a', b', c', e1, e2, e3⟩ := hb j (by omega)
        exact ⟨a', b', c', by rw [List.getElem?_append_left (by omega)]; exact e1, e2, e3⟩
  · intro ys s hs
    obtain ⟨m2, hm, ha, hb, hmem, o, henv⟩ := (hJ _ _ _).mp hs
    subst ha hmem
    simp (disch := omega) [-getElem?_pos, List.getElem?_cons_zero, List.getElem?_cons_succ, ite_at, bin_powP, bin_modP, bin_fdivP, bin_mulB, bin_mulA, bin_mul1, rngC1_ok, rngC2_ok, rngE_ok, L_boxes]
    exact h B _ hB2 hB3 hm hb
end
mutual
/-- data that the law's own look can take -/
def okV : D → Bool
  | .non => true
  | .bl _ => true
  | .int _ => true
  | .str x => (D.str x).shaped
  | .lst xs => okVs xs && decide (xs.length ≤ 16777216)
  | .tup xs => okVs xs && decide (xs.length ≤ 16777216)
  | _ => false
def okVs : List D → Bool
  | [] => true
  | x :: xs => okV x && okVs xs
end
mutual
def dep : D → Nat
  | .lst xs => 1 + deps xs
  | .tup xs => 1 + deps xs
  | _ => 0
def deps : List D → Nat
  | [] => 0
  | x :: xs => max (dep x) (deps xs)
end
theorem okTs_mem : ∀ {xs : List D} {x : D}, okVs xs = true → x ∈ xs → okV x = true
  | [], _, _, h => by cases h
  | y :: ys, x, h, hx => by
    simp only [okVs, Bool.and_eq_true] at h
    rcases List.mem_cons.mp hx with rfl | hx
    · exact h.1
    · exact okTs_mem h.2 hx
theorem deps_mem : ∀ {xs : List D} {x : D}, x ∈ xs → dep x ≤ deps xs
  | [], _, h => by cases h
  | y :: ys, x, hx => by
    simp only [deps]
    rcases List.mem_cons.mp hx with rfl | hx
    · omega
    · have := deps_mem hx
      omega
theorem zip_self : ∀ xs : List D, zipD xs xs = xs.map fun x => .tup [x, x]
  | [] => rfl
  | x :: xs => by unfold zipD; rw [zip_self xs]; rfl
theorem bls_const : ∀ {α : Type} (xs : List α), bls (xs.map fun _ => D.bl true) = some (xs.map fun _ => true)
  | _, [] => rfl
  | _, x :: xs => by
    show (bls (xs.map fun _ => D.bl true)).map (true :: ·) = _
    rw [bls_const xs]
    rfl
theorem all_const {α : Type} (xs : List α) : (xs.map fun _ => true).all id = true := by simp
theorem eqD_refl {d : D} (h : d.shaped = true) : eqD d d = true := SeqAt.eqv_refl _ (SeqAt.canLay_of_shaped h)
theorem cmp_refl {d : D} (h : d.shaped = true) : cmpD .eq d d = some true := by
  show (if d.shaped && d.shaped then some (eqD d d) else none) = _
  rw [h, eqD_refl h]
  rfl
@[simp] theorem ty_non {m : List Cell} {t : Ty} : tyD m .non t = some false := nr rfl
@[simp] theorem ty_bl {m : List Cell} {b : Bool} {t : Ty} : tyD m (.bl b) t = some (decide (t = .bool) || decide (t = .int)) := nr rfl
@[simp] theorem ty_str {m : List Cell} {x : Str} {t : Ty} : tyD m (.str x) t = some (decide (t = .str)) := nr rfl
@[simp] theorem ty_lst {m : List Cell} {xs : List D} {t : Ty} : tyD m (.lst xs) t = some (decide (t = .list)) := nr rfl
@[simp] theorem ty_tup {m : List Cell} {xs : List D} {t : Ty} : tyD m (.tup xs) t = some (decide (t = .tuple)) := nr rfl
@[simp] theorem is_nn : cmpD .is .non .non = some true := nr rfl
@[simp] theorem is_bn {b : Bool} : cmpD .is (.bl b) .non = some false := nr rfl
@[simp] theorem is_in {i : Int} : cmpD .is (.int i) .non = some false := nr rfl
@[simp] theorem is_sn {x : Str} : cmpD .is (.str x) .non = some false := nr rfl
@[simp] theorem is_ln {xs : List D} : cmpD .is (.lst xs) .non = some false := nr rfl
@[simp] theorem is_tn {xs : List D} : cmpD .is (.tup xs) .non = some false := nr rfl
@[simp] theorem isn_nn : cmpD .isn .non .non = some false := nr rfl
@[simp] theorem isn_bn {b : Bool} : cmpD .isn (.bl b) .non = some true := nr rfl
@[simp] theorem isn_in {i : Int} : cmpD .isn (.int i) .non = some true := nr rfl
@[simp] theorem isn_sn {x : Str} : cmpD .isn (.str x) .non = some true := nr rfl
@[simp] theorem isn_ln {xs : List D} : cmpD .isn (.lst xs) .non = some true := nr rfl
@[simp] theorem isn_tn {xs : List D} : cmpD .isn (.tup xs) .non = some true := nr rfl
theorem eqD_bl {a b : Bool} : eqD (.bl a) (.bl b) = decide (a = b) := by cases a <;> cases b <;> rfl
@[simp] theorem cmp_eqb {a b : Bool} : cmpD .eq (.bl a) (.bl b) = some (decide (a = b)) := by
  show (if (D.bl a).shaped && (D.bl b).shaped then some (eqD (.bl a) (.bl b)) else none) = _
  rw [eqD_bl]
  rfl
@[simp] theorem cmp_neb {a b : Bool} : cmpD .ne (.bl a) (.bl b) = some (!decide (a = b)) := by
  show (if (D.bl a).shaped && (D.bl b).shaped then some (!eqD (.bl a) (.bl b)) else none) = _
  rw [eqD_bl]
  rfl
section
variable {T : Tab} [Has T 12 L_same]
theorem same_refl : ∀ (n : Nat) (d : D), dep d ≤ n → okV d = true → ∀ m : List Cell, Phi T (n + 1) 12 [d, d] m = .ok (.val (.bl true)) m := by
  intro n
  induction n with
  | zero =>
    intro d hd ok m
    rw [phi_eq (Has.eq (f := L_same)) rfl]
    cases d with
    | str x =>
      have := cmp_refl (d := .str x) (by simpa [okV] using ok)
      simp (disch := omega) [-getElem?_pos, List.getElem?_cons_zero, List.getElem?_cons_succ, ite_at, bin_powP, bin_modP, bin_fdivP, bin_mulB, bin_mulA, bin_mul1, rngC1_ok, rngC2_ok, rngE_ok, L_same, this]
    | lst xs => simp [dep] at hd
    | tup xs => simp [dep] at hd
    | cel n => simp [okV] at ok
    | scr n => simp [okV] at ok
    | exn n => simp [okV] at ok
    | _ => simp (disch := omega) [-getElem?_pos, List.getElem?_cons_zero, List.getElem?_cons_succ, ite_at, bin_powP, bin_modP, bin_fdivP, bin_mulB, bin_mulA, bin_mul1, rngC1_ok, rngC2_ok, rngE_ok, L_same]
  | succ n ih =>
    intro d hd ok m
    rw [phi_eq (Has.eq (f := L_same)) rfl]
    have seq : ∀ (xs : List D) (dd : D), (okVs xs && decide (xs.length ≤ 16777216)) = true → deps xs ≤ n → compC (asgG (Phi T (n + 1)) (.tp [.nm 2, .nm 3])) [2, 3] (tsts (Phi T (n + 1)) []) (ev (Phi T (n + 1)) (.call 12 [.var 2, .var 3])) (xs.map fun x => .tup [x, x]) ⟨[some (.val dd), some (.val dd), none, none], m⟩ = .ok (.own (xs.map fun _ => .bl true)) ⟨[some (.val dd), some (.val dd), none, none], m⟩ := by
      intro xs dd h1 h2
      rw [Bool.and_eq_true, decide_eq_true_eq] at h1
      obtain ⟨h1, hlen⟩ := h1
      refine comp_map (fun _ => .bl true) xs hlen (by simp) fun x hx => ?_
      have := ih x (Nat.le_trans (deps_mem hx) h2) (okTs_mem h1 hx)
      simp (disch := omega) [-getElem?_pos, List.getElem?_cons_zero, List.getElem?_cons_succ, ite_at, bin_powP, bin_modP, bin_fdivP, bin_mulB, bin_mulA, bin_mul1, rngC1_ok, rngC2_ok, rngE_ok, callC_pure this]
    cases d with
    | str x =>
      have := cmp_refl (d := .str x) (by simpa [okV] using ok)
      simp (disch := omega) [-getElem?_pos, List.getElem?_cons_zero, List.getElem?_cons_succ, ite_at, bin_powP, bin_modP, bin_fdivP, bin_mulB, bin_mulA, bin_mul1, rngC1_ok, rngC2_ok, rngE_ok, L_same, this]
    | lst xs =>
      have h1 : deps xs ≤ n := by simp only [dep] at hd; omega
      simp (disch := omega) [-getElem?_pos, List.getElem?_cons_zero, List.getElem?_cons_succ, ite_at, bin_powP, bin_modP, bin_fdivP, bin_mulB, bin_mulA, bin_mul1, rngC1_ok, rngC2_ok, rngE_ok, L_same, zip_self]
      rw [seq xs _ (by simpa [okV] using ok) h1]
      simp (disch := omega) [-getElem?_pos, List.getElem?_cons_zero, List.getElem?_cons_succ, ite_at, bin_powP, bin_modP, bin_fdivP, bin_mulB, bin_mulA, bin_mul1, rngC1_ok, rngC2_ok, rngE_ok, bls_const]
    | tup xs =>
      have h1 : deps xs ≤ n := by simp only [dep] at hd; omega
      simp (disch := omega) [-getElem?_pos, List.getElem?_cons_zero, List.getElem?_cons_succ, ite_at, bin_powP, bin_modP, bin_fdivP, bin_mulB, bin_mulA, bin_mul1, rngC1_ok, rngC2_ok, rngE_ok, L_same, zip_self]
      rw [seq xs _ (by simpa [okV] using ok) h1]
      simp (disch := omega) [-getElem?_pos, List.getElem?_cons_zero, List.getElem?_cons_succ, ite_at, bin_powP, bin_modP, bin_fdivP, bin_mulB, bin_mulA, bin_mul1, rngC1_ok, rngC2_ok, rngE_ok, bls_const]
    | cel n => simp [okV] at ok
    | scr n => simp [okV] at ok
    | exn n => simp [okV] at ok
    | _ => simp (disch := omega) [-getElem?_pos, List.getElem?_cons_zero, List.getElem?_cons_succ, ite_at, bin_powP, bin_modP, bin_fdivP, bin_mulB, bin_mulA, bin_mul1, rngC1_ok, rngC2_ok, rngE_ok, L_same]
end
end Dm

set_option Elab.async false
set_option linter.all false
set_option maxRecDepth 100000
set_option maxHeartbeats 0
set_option autoImplicit false
/-! LY1: data that can be told as a text; what is a row. -/
namespace Dm
open PySem
/-- data of a depth whose text has so many signs at most -/
structure Sh (n L : Nat) (d : D) : Prop where
  lay : d.py.canLay0 = true
  shw : d.py.showable = true
  dep : d.py.depth ≤ n
  len : d.py.shown.length ≤ L
theorem Sh.mono {n L n' L' : Nat} {d : D} (h : Sh n L d) (hn : n ≤ n') (hL : L ≤ L') : Sh n' L' d := ⟨h.lay, h.shw, Nat.le_trans h.dep hn, Nat.le_trans h.len hL⟩
theorem Sh.shB {n L : Nat} {d : D} (h : Sh n L d) (hn : n ≤ 50) (hL : L ≤ 16777216) : showB d = true := by
  unfold showB
  rw [h.lay, h.shw, decide_eq_true (Nat.le_trans h.dep hn), decide_eq_true (show d.py.shown.length ≤ lim from Nat.le_trans h.len hL)]
  rfl
theorem sh_non {n : Nat} : Sh n 30 .non := ⟨rfl, rfl, Nat.zero_le _, by rw [D.py, PyData.shown_none]; decide +kernel⟩
theorem sh_bl {n : Nat} {b : Bool} : Sh n 30 (.bl b) := ⟨by cases b <;> rfl, by cases b <;> rfl, Nat.zero_le _, by rw [D.py, PyData.shown_bool]; cases b <;> decide +kernel⟩
theorem log_lt {n k : Nat} (hk : k ≠ 0) (h : n < 2 ^ k) : n.log2 < k := by
  by_cases h0 : n = 0
  · subst h0
    simp
    omega
  · exact (Nat.log2_lt h0).mpr h
theorem sh_int {n : Nat} {i : Int} (h : i.natAbs < 10 ^ 25) : Sh n 30 (.int i) := by
  refine ⟨rfl, ?_, Nat.zero_le _, ?_⟩
  · have h2 : i.natAbs < 2 ^ 1920 := Nat.lt_of_lt_of_le h (by decide +kernel)
    have := log_lt (by decide) h2
    simpa [D.py, PyData.showable] using this
  · rw [D.py, PyData.shown_int]
    have := int_text_length_le10 (by decide) h
    show (Str.ofString (toString i)).length ≤ 30
    rw [ofString_length]
    omega
theorem sh_all {n L : Nat} : ∀ {xs : List D}, (∀ x ∈ xs, Sh n L x) → PyData.canLayAll0 (pyAll xs) = true ∧ PyData.showableAll (pyAll xs) = true ∧ PyData.depthAll (pyAll xs) ≤ n ∧ piled (PyData.shownAll (pyAll xs)) ≤ xs.length * (L + 2)
  | [], _ => ⟨rfl, rfl, by simp [pyAll, PyData.depthAll], by simp [pyAll, PyData.shownAll_nil, piled]⟩
  | x :: xs, h => by
    obtain ⟨h1, h2, h3, h4⟩ := sh_all (xs := xs) fun y hy => h y (by simp [hy])
    obtain ⟨g1, g2, g3, g4⟩ := h x (by simp)
    refine ⟨by simp [pyAll, PyData.canLayAll0, h1, g1], by simp [pyAll, PyData.showableAll, h2, g2], by simp [pyAll, PyData.depthAll]; omega, ?_⟩
    simp only [pyAll, PyData.shownAll_cons, List.length_cons, Nat.add_mul]
    simp only [piled, List.map_cons, List.sum_cons] at h4 ⊢
    omega
theorem join_le (ts : List Str) : (Str.join ", " ts).length ≤ piled ts := by
  by_cases h : ts = []
  · subst h
    exact Nat.le_of_eq rfl
  · have := join_length_add ts h
    omega
theorem sh_lst {n L m : Nat} {xs : List D} (h : ∀ x ∈ xs, Sh n L x) (hm : xs.length ≤ m) : Sh (n + 1) (m * (L + 2) + 3) (.lst xs) := by
  obtain ⟨h1, h2, h3, h4⟩ := sh_all h
  refine ⟨by simpa [D.py, PyData.canLay0] using h1, by simpa [D.py, PyData.showable] using h2, by simp [D.py, PyData.depth]; omega, ?_⟩
  rw [D.py, PyData.shown_list, Str.length_append, Str.length_append]
  have e1 : (("[" : String) : Str).length = 1 := by decide +kernel
  have e2 : (("]" : String) : Str).length = 1 := by decide +kernel
  have := join_le (PyData.shownAll (pyAll xs))
  have := Nat.mul_le_mul_right (L + 2) hm
  omega
theorem sh_tup {n L m : Nat} {xs : List D} (h : ∀ x ∈ xs, Sh n L x) (hm : xs.length ≤ m) : Sh (n + 1) (m * (L + 2) + 3) (.tup xs) := by
  obtain ⟨h1, h2, h3, h4⟩ := sh_all h
  refine ⟨by simpa [D.py, PyData.canLay0] using h1, by simpa [D.py, PyData.showable] using h2, by simp [D.py, PyData.depth]; omega, ?_⟩
  rw [D.py, PyData.shown_tuple, Str.length_append, Str.length_append]
  have e1 : (("(" : String) : Str).length = 1 := by decide +kernel
  have e2 : ((if (pyAll xs).length == 1 then ",)" else ")" : String) : Str).length ≤ 2 := by split <;> decide +kernel
  have := join_le (PyData.shownAll (pyAll xs))
  have := Nat.mul_le_mul_right (L + 2) hm
  omega
theorem sh_bt {n : Nat} {b : Option Bool} : Sh n 30 (bt b) := by
  cases b with
  | none => exact sh_non
  | some b => cases b <;> exact sh_int (by decide)
/-! ### what is told as a text can be laid -/
theorem ok_app {a b : Str} (ha : PyData.strOk a = true) (hb : PyData.strOk b = true) : PyData.strOk (a ++ b) = true := by
  unfold PyData.strOk at *
  show (a.cps ++ b.cps).all _ = true
  rw [Array.all_append, ha, hb]
  rfl
theorem chr_lt (c : Char) : c.toNat < 1114112 := by
  have := c.valid
  rcases this with h | h <;> (unfold Char.toNat; omega)
theorem ok_of (s : String) : PyData.strOk (Str.ofString s) = true := by
  unfold PyData.strOk
  rw [Str.ofString_eq_toList]
  simp only [List.all_toArray, List.all_map, List.all_eq_true, Function.comp, decide_eq_true_eq]
  exact fun c _ => chr_lt c
theorem ok_char {q c : Nat} (hq : c < 1114112) : ∀ d ∈ Builtin.Str.reprChar q c, d < 1114112 := by
  have hx : ∀ w, ∀ d ∈ List.replicate (w - ((Nat.toDigits 16 c).map Char.toNat).length) 48 ++ (Nat.toDigits 16 c).map Char.toNat, d < 1114112 := fun w d hd => by
    rcases List.mem_append.mp hd with h | h
    · rw [List.eq_of_mem_replicate h]
      omega
    · obtain ⟨k, _, rfl⟩ := List.mem_map.mp h
      exact chr_lt k
  intro d hd
  unfold Builtin.Str.reprChar at hd
  dsimp only at hd
  repeat' split at hd
  all_goals first
    | (simp only [List.mem_cons, List.not_mem_nil, or_false] at hd; omega)
    | (rcases List.mem_append.mp hd with h | h
       · simp only [List.mem_cons, List.not_mem_nil, or_false] at h; omega
       · exact hx _ d h)
theorem ok_repr {x : Str} (h : PyData.strOk x = true) : PyData.strOk (reprText x) = true := by
  have hx : ∀ c ∈ x.cps.toList, c < 1114112 := by
    unfold PyData.strOk at h
    rw [← Array.all_toList, List.all_eq_true] at h
    exact fun c hc => of_decide_eq_true (h c hc)
  have hq : reprQuote x < 1114112 := by unfold reprQuote; split <;> omega
  have go : ∀ (l : List Nat) (acc : Array Nat), (∀ c ∈ l, c < 1114112) → (∀ c ∈ acc.toList, c < 1114112) → ∀ c ∈ (l.foldl (fun out c => out ++ (Builtin.Str.reprChar (reprQuote x) c).toArray) acc).toList, c < 1114112 := by
    intro l
    induction l with
    | nil => exact fun acc _ h => h
    | cons a l ih =>
      intro acc h1 h2
      rw [List.foldl_cons]
      refine ih _ (fun c hc => h1 c (by simp [hc])) fun c hc => ?_
      simp only [Array.toList_append, List.mem_append] at hc
      rcases hc with hc | hc
      · exact h2 c hc
      · exact ok_char (h1 a (by simp)) c hc
  unfold PyData.strOk reprText
  rw [← Array.all_toList, Array.toList_push, List.all_append, List.all_cons, List.all_nil, decide_eq_true hq]
  rw [← Array.foldl_toList]
  simp only [Bool.and_true, List.all_eq_true, decide_eq_true_eq]
  exact go _ _ hx (by simpa using hq)
theorem ok_join : ∀ (ts : List Str), (∀ t ∈ ts, PyData.strOk t = true) → PyData.strOk (Str.join ", " ts) = true
  | [], _ => by decide +kernel
  | [x], h => h x (by simp)
  | x :: y :: r, h => by
    show PyData.strOk (x ++ ", " ++ Str.join ", " (y :: r)) = true
    exact ok_app (ok_app (h x (by simp)) (ok_of _)) (ok_join (y :: r) fun t ht => h t (List.mem_cons_of_mem _ ht))
mutual
theorem ok_shown : ∀ (d : PyData), d.canLay0 = true → PyData.strOk d.shown = true
  | .none, _ => by rw [PyData.shown_none]; exact ok_of _
  | .bool b, _ => by rw [PyData.shown_bool]; cases b <;> exact ok_of _
  | .int i, _ => by rw [PyData.shown_int]; exact ok_of _
  | .str x, h => by rw [PyData.shown_str]; exact ok_repr (by simpa [PyData.canLay0] using h)
  | .list xs, h => by
    rw [PyData.shown_list]
    exact ok_app (ok_app (ok_of _) (ok_join _ (ok_shownAll xs (by simpa [PyData.canLay0] using h)))) (ok_of _)
  | .tuple xs, h => by
    rw [PyData.shown_tuple]
    refine ok_app (ok_app (ok_of _) (ok_join _ (ok_shownAll xs (by simpa [PyData.canLay0] using h)))) ?_
    split <;> exact ok_of _
  | .dict _, h => by simp [PyData.canLay0] at h
theorem ok_shownAll : ∀ (xs : List PyData), PyData.canLayAll0 xs = true → ∀ t ∈ PyData.shownAll xs, PyData.strOk t = true
  | [], _, t, ht => by simp [PyData.shownAll_nil] at ht
  | x :: xs, h, t, ht => by
    rw [PyData.shownAll_cons, List.mem_cons] at ht
    simp only [PyData.canLayAll0, Bool.and_eq_true] at h
    rcases ht with rfl | ht
    · exact ok_shown x h.1
    · exact ok_shownAll xs h.2 t ht
end
theorem ok_shB {d : D} (h : showB d = true) : PyData.strOk d.py.shown = true := by
  unfold showB at h
  simp only [Bool.and_eq_true] at h
  exact ok_shown _ h.1.1.1
theorem repr_at {m : List Cell} {d : D} (h : showB d = true) : biD m .repr [d] = some (.val (.str d.py.shown)) := by
  show shD d = _
  unfold shD
  rw [if_pos h]
theorem str_at {d : D} (h : showB d = true) (hi : ∀ i, d = .int i → i.natAbs < 10 ^ 25) : ∃ x, PyData.strOk x = true ∧ ∀ m : List Cell, biD m .str [d] = some (.val (.str x)) := by
  have hok := ok_shB h
  have e : ∀ m : List Cell, shD d = some (.val (.str d.py.shown)) := fun _ => by
    unfold shD
    rw [if_pos h]
  cases d with
  | str x =>
    refine ⟨x, ?_, fun _ => rfl⟩
    unfold showB at h
    simp only [Bool.and_eq_true] at h
    simpa [D.py, PyData.canLay0] using h.1.1.1
  | int i =>
    have : i.natAbs.log2 < 1920 := log_lt (by decide) (Nat.lt_of_lt_of_le (hi i rfl) (by decide +kernel))
    refine ⟨toString i, by rw [D.py, PyData.shown_int] at hok; exact hok, fun m' => ?_⟩
    simp only [biD]
    rw [if_pos this]
  | _ => exact ⟨_, hok, fun m' => e m'⟩
theorem eqv_str (x : Str) : eqD (.str x) (.str x) = true := by
  show PyData.eqv (.str x) (.str x) = true
  simp [PyData.eqv]
theorem ne_str {x : Str} (h : PyData.strOk x = true) : cmpD .ne (.str x) (.str x) = some false := by
  have e : (D.str x).shaped = true := by
    show (PyData.canLay0 (.str x) && decide (PyData.depth (.str x) ≤ 64)) = true
    simp [PyData.canLay0, PyData.depth, h]
  show (if (D.str x).shaped && (D.str x).shaped then some (!eqD (.str x) (.str x)) else none) = _
  rw [e, eqv_str]
  rfl
end Dm

set_option Elab.async false
set_option linter.all false
set_option maxRecDepth 100000
set_option maxHeartbeats 0
set_option autoImplicit false
/-! LR1: rows: turned, wiped. -/
namespace Dm
open PySem
theorem fsat_eq {o : FO} {r : EV} {m : List Cell} (h : o.sat fun v m' => v = r ∧ m' = m) : o = .ok r m := by
  cases h with
  | @mk a s _ h => rw [h.1, h.2]
theorem osat_eq {α : Type} {o : Out α} {r : α} {s : Sta} (h : o.sat fun v s' => v = r ∧ s' = s) : o = .ok r s := by
  cases h with
  | @mk a s _ h => rw [h.1, h.2]
theorem nodup_len : ∀ (N : Nat) {ps : List Nat}, ps.Nodup → (∀ p ∈ ps, p < N) → ps.length ≤ N
  | 0, ps, _, h => by
    cases ps with
    | nil => exact Nat.le_refl _
    | cons p _ => exact absurd (h p (by simp)) (Nat.not_lt_zero _)
  | N + 1, ps, nd, h => by
    by_cases hm : N ∈ ps
    · have := nodup_len N (nd.erase N) fun p hp => by
        have h1 := h p (List.mem_of_mem_erase hp)
        have h2 := (List.Nodup.mem_erase_iff nd).mp hp
        omega
      rw [List.length_erase_of_mem hm] at this
      omega
    · have := nodup_len N nd fun p hp => by
        have h1 := h p hp
        have : p ≠ N := fun e => hm (e ▸ hp)
        omega
      omega
/-- whole numbers from 0 on -/
def nats (ps : List Nat) : List D := ps.map fun (p : Nat) => D.int (p : Int)
theorem nats_len {ps : List Nat} : (nats ps).length = ps.length := by simp [nats]
theorem atI_nat {α : Type} {xs : List α} {p : Nat} : L2.atI xs (p : Int) = xs[p]? := by
  unfold L2.atI L2.ixN
  rw [if_pos (by omega)]
  by_cases h : p < xs.length
  · rw [if_pos (by omega)]
    simp
  · rw [if_neg (by omega)]
    simp; omega
theorem ixN_nat {n p : Nat} (h : p < n) : L2.ixN n (p : Int) = some p := by
  unfold L2.ixN
  rw [if_pos (by omega), if_pos (by omega)]
  simp
theorem shaped_ints (ns : List Int) : (D.lst (ns.map .int)).shaped = true := by
  unfold D.shaped SeqAt.shaped
  have h1 : (D.lst (ns.map .int)).py.canLay0 = true := by
    show PyData.canLay0 (.list (pyAll (ns.map .int))) = true
    have : PyData.canLayAll0 (pyAll (ns.map .int)) = true := by
      induction ns with
      | nil => rfl
      | cons n ns ih => rw [List.map_cons, pyAll, PyData.canLayAll0, ih]; rfl
    simpa [PyData.canLay0] using this
  have h2 : (D.lst (ns.map .int)).py.depth ≤ 64 := by
    show PyData.depth (.list (pyAll (ns.map .int))) ≤ 64
    have : PyData.depthAll (pyAll (ns.map .int)) = 0 := by
      clear h1
      induction ns with
      | nil => rfl
      | cons n ns ih => rw [List.map_cons, pyAll, PyData.depthAll, ih]; rfl
    simp [PyData.depth, this]
  rw [h1, decide_eq_true h2]
  rfl
theorem any_eqD {i : Int} {ns : List Int} : ((ns.map D.int).any fun y => eqD y (.int i)) = decide (i ∈ ns) := by
  induction ns with
  | nil => rfl
  | cons n ns ih =>
    rw [List.map_cons, List.any_cons, ih, eqD_int]
    by_cases h : n = i
    · subst h; simp
    · have : ¬ i = n := fun e => h e.symm
      simp [h, this]
theorem in_ints {i : Int} {ns : List Int} : cmpD .inn (.int i) (.lst (ns.map .int)) = some (decide (i ∈ ns)) := by
  show (if (D.int i).shaped && (D.lst (ns.map .int)).shaped then some ((ns.map D.int).any fun y => eqD y (.int i)) else none) = _
  rw [shaped_ints, any_eqD]
  rfl
theorem in_intsT {i : Int} {ns : List Int} : cmpD .inn (.int i) (.tup (ns.map .int)) = some (decide (i ∈ ns)) := by
  show (if (D.int i).shaped && (D.lst (ns.map .int)).shaped then some ((ns.map D.int).any fun y => eqD y (.int i)) else none) = _
  rw [shaped_ints, any_eqD]
  rfl
theorem nin_of {x y : D} {b : Bool} (h : cmpD .inn x y = some b) : cmpD .nin x y = some (!b) := by
  show (inD x y).map (!·) = _
  rw [show inD x y = some b from h]
  rfl
theorem nats_ints {ps : List Nat} : nats ps = (ps.map Int.ofNat).map .int := by
  unfold nats
  rw [List.map_map]
  rfl
theorem in_nats {i : Nat} {ps : List Nat} {d : D} (h : d = .lst (nats ps) ∨ d = .tup (nats ps)) : cmpD .inn (.int (i : Int)) d = some (decide (i ∈ ps)) := by
  have e : decide ((i : Int) ∈ ps.map Int.ofNat) = decide (i ∈ ps) := by
    congr 1
    simp only [List.mem_map, eq_iff_iff]
    refine ⟨fun ⟨a, h1, h2⟩ => ?_, fun h => ⟨i, h, rfl⟩⟩
    have : a = i := by injection h2
    rw [← this]; exact h1
  rcases h with rfl | rfl
  · rw [nats_ints, in_ints, e]
  · rw [nats_ints, in_intsT, e]
theorem enumD_map {α : Type} (f : α → D) : ∀ (xs : List α) (n : Nat), enumD n (xs.map f) = (xs.zipIdx n).map fun x => .tup [.int x.2, f x.1]
  | [], _ => rfl
  | x :: xs, n => by
    rw [List.map_cons, enumD, enumD_map f xs (n + 1)]
    rfl
/-- a row with the bits at some places the other ones; lost -/
def turnR (row : List (Option Bool)) (ps : List Nat) : List (Option Bool) := row.zipIdx.map fun x => if x.2 ∈ ps then x.1.map (!·) else x.1
def wipeR (row : List (Option Bool)) (ps : List Nat) : List (Option Bool) := row.zipIdx.map fun x => if x.2 ∈ ps then none else x.1
theorem turnR_at (row : List (Option Bool)) (ps : List Nat) (i : Nat) : (turnR row ps)[i]? = row[i]?.map fun b => if i ∈ ps then b.map (!·) else b := by
  simp [turnR, List.getElem?_zipIdx]
  cases row[i]? <;> rfl
theorem wipeR_at (row : List (Option Bool)) (ps : List Nat) (i : Nat) : (wipeR row ps)[i]? = row[i]?.map fun b => if i ∈ ps then none else b := by
  simp [wipeR, List.getElem?_zipIdx]
  cases row[i]? <;> rfl
theorem turnR_len {row : List (Option Bool)} {ps : List Nat} : (turnR row ps).length = row.length := by simp [turnR]
theorem wipeR_len {row : List (Option Bool)} {ps : List Nat} : (wipeR row ps).length = row.length := by simp [wipeR]
theorem turnR_nil {row : List (Option Bool)} : turnR row [] = row := by
  refine List.ext_getElem? fun i => ?_
  rw [turnR_at]
  cases row[i]? <;> simp
theorem wipeR_nil {row : List (Option Bool)} : wipeR row [] = row := by
  refine List.ext_getElem? fun i => ?_
  rw [wipeR_at]
  cases row[i]? <;> simp
theorem turn_turn {row : List (Option Bool)} {ps : List Nat} : turnR (turnR row ps) ps = row := by
  refine List.ext_getElem? fun i => ?_
  rw [turnR_at, turnR_at]
  cases row[i]? with
  | none => rfl
  | some b => cases b <;> by_cases h : i ∈ ps <;> simp [h]
theorem turn_wipe {row : List (Option Bool)} {ps qs : List Nat} : turnR (wipeR row qs) ps = wipeR (turnR row ps) qs := by
  refine List.ext_getElem? fun i => ?_
  rw [turnR_at, wipeR_at, wipeR_at, turnR_at]
  cases row[i]? with
  | none => rfl
  | some b => by_cases h : i ∈ ps <;> by_cases h2 : i ∈ qs <;> simp [h, h2]
section
variable {T : Tab} [Has T 9 P_turned]
theorem turned_ok {k : Nat} {d dp : D} {row : List (Option Bool)} {ps : List Nat} {m : List Cell} (hd : d.items = some (row.map bt)) (hp : seqD dp = some (nats ps)) (nd : ps.Nodup) (hb : ∀ p ∈ ps, p < row.length) (hpu : dp.pure = true) (hdu : d.pure = true) :
    Phi T (k + 1) 9 [d, dp] m = .ok (.own ((turnR row ps).map bt)) m := by
  refine fsat_eq (phi_sat (Has.eq (f := P_turned)) (run_sat rfl ?_))
  obtain ⟨J, hJ⟩ : ∃ J : Nat → Sta → Prop, ∀ i s, J i s ↔ s = ⟨[some (.val d), some (.val dp), some (.own ((turnR row (ps.take i)).map bt)), none], m⟩ := ⟨_, fun _ _ => Iff.rfl⟩
  simp (disch := omega) [-getElem?_pos, List.getElem?_cons_zero, List.getElem?_cons_succ, ite_at, bin_powP, bin_modP, bin_fdivP, bin_mulB, bin_mulA, bin_mul1, rngC1_ok, rngC2_ok, rngE_ok, P_turned, hd, hp]
  refine sat_bnd (for_ix (nats ps) J ?_ ?_ ?_)
  · exact (hJ _ _).mpr (by simp [turnR_nil])
  · intro i x s hx hs
    obtain rfl := (hJ _ _).mp hs
    obtain ⟨p, hpi, rfl⟩ : ∃ p : Nat, ps[i]? = some p ∧ x = .int (p : Int) := by
      simp only [nats, List.getElem?_map] at hx
      obtain ⟨p, e1, e2⟩ := Option.map_eq_some_iff.mp hx
      exact ⟨p, e1, e2.symm⟩
    have hpm : p ∈ ps := List.mem_of_getElem? hpi
    have hpl := hb p hpm
    have hnot : p ∉ ps.take i := by
      intro hm
      obtain ⟨j, hj, e⟩ := List.mem_take_iff_getElem.mp hm
      have h1 := (List.getElem?_eq_some_iff.mp hpi)
      have := (List.getElem_inj nd).mp (e.trans h1.2.symm)
      omega
    have hg : (turnR row (ps.take i))[p]? = some row[p] := by
      rw [turnR_at]
      simp [hnot, hpl]
    have hat : L2.atI ((turnR row (ps.take i)).map bt) (p : Int) = some (bt row[p]) := by
      rw [atI_nat, List.getElem?_map, hg]; rfl
    have hix : L2.ixN ((turnR row (ps.take i)).map bt).length (p : Int) = some p := ixN_nat (by simp [turnR_len]; omega)
    have hix' : L2.ixN (turnR row (ps.take i)).length (p : Int) = some p := ixN_nat (by simp [turnR_len]; omega)
    have htake : ps.take (i + 1) = ps.take i ++ [p] := by
      rw [List.take_add_one, hpi]; rfl
    have hpb : pures ((turnR row (ps.take i)).map bt) = true := pures_map (fun b => by cases b <;> simp [bt, D.pure]) _
    have next : (turnR row (ps.take (i + 1))) = (turnR row (ps.take i)).set p (row[p].map (!·)) := by
      refine List.ext_getElem? fun q => ?_
      rw [turnR_at, List.getElem?_set, turnR_len]
      by_cases e : p = q
      · subst e
        rw [if_pos rfl, if_pos hpl, htake]
        simp [hpl]
      · rw [if_neg e, turnR_at, htake]
        have : ∀ b : Prop, (q ∈ ps.take i ++ [p]) ↔ q ∈ ps.take i := fun _ => by simp [Ne.symm e]
        cases row[q]? with
        | none => rfl
        | some b => simp [Ne.symm e]
    cases hr : row[p] with
    | none =>
      rw [hr] at hat next
      rw [show bt none = D.non from rfl] at hat
      simp (disch := omega) [-getElem?_pos, List.getElem?_cons_zero, List.getElem?_cons_succ, ite_at, bin_powP, bin_modP, bin_fdivP, bin_mulB, bin_mulA, bin_mul1, rngC1_ok, rngC2_ok, rngE_ok, bor_at, lendE_eq, hpb, hpu, hdu, hat]
      refine (hJ _ _).mpr ?_
      rw [next]
      have : (turnR row (ps.take i)).set p (Option.map (!·) none) = turnR row (ps.take i) := by
        refine List.ext_getElem? fun q => ?_
        rw [List.getElem?_set]
        split
        · rename_i e
          subst e
          rw [if_pos (by rw [turnR_len]; exact hpl), hg, hr]; rfl
        · rfl
      rw [this]
    | some b =>
      rw [hr] at hat next
      rw [show bt (some b) = D.int (if b then 1 else 0) from rfl] at hat
      simp (disch := omega) [-getElem?_pos, List.getElem?_cons_zero, List.getElem?_cons_succ, ite_at, bin_powP, bin_modP, bin_fdivP, bin_mulB, bin_mulA, bin_mul1, rngC1_ok, rngC2_ok, rngE_ok, bor_at, lendE_eq, hpb, hpu, hdu, hat, hix, hix']
      refine (hJ _ _).mpr ?_
      rw [next, List.map_set]
      cases b <;> rfl
  · intro s hs
    obtain rfl := (hJ _ _).mp hs
    rw [nats_len, List.take_length]
    simp (disch := omega) [-getElem?_pos, List.getElem?_cons_zero, List.getElem?_cons_succ, ite_at, bin_powP, bin_modP, bin_fdivP, bin_mulB, bin_mulA, bin_mul1, rngC1_ok, rngC2_ok, rngE_ok, P_turned]
end
section
variable {T : Tab} [Has T 10 P_wiped]
theorem wiped_ok {k : Nat} {d dp : D} {row : List (Option Bool)} {ps : List Nat} {m : List Cell} (hd : d.items = some (row.map bt)) (hp : seqD dp = some (nats ps)) (hb : ∀ p ∈ ps, p < row.length) :
    Phi T (k + 1) 10 [d, dp] m = .ok (.own ((wipeR row ps).map bt)) m := by
  refine fsat_eq (phi_sat (Has.eq (f := P_wiped)) (run_sat rfl ?_))
  obtain ⟨J, hJ⟩ : ∃ J : Nat → Sta → Prop, ∀ i s, J i s ↔ s = ⟨[some (.val d), some (.val dp), some (.own ((wipeR row (ps.take i)).map bt)), none], m⟩ := ⟨_, fun _ _ => Iff.rfl⟩
  simp (disch := omega) [-getElem?_pos, List.getElem?_cons_zero, List.getElem?_cons_succ, ite_at, bin_powP, bin_modP, bin_fdivP, bin_mulB, bin_mulA, bin_mul1, rngC1_ok, rngC2_ok, rngE_ok, P_wiped, hd, hp]
  refine sat_bnd (for_ix (nats ps) J ?_ ?_ ?_)
  · exact (hJ _ _).mpr (by simp [wipeR_nil])
  · intro i x s hx hs
    obtain rfl := (hJ _ _).mp hs
    obtain ⟨p, hpi, rfl⟩ : ∃ p : Nat, ps[i]? = some p ∧ x = .int (p : Int) := by
      simp only [nats, List.getElem?_map] at hx
      obtain ⟨p, e1, e2⟩ := Option.map_eq_some_iff.mp hx
      exact ⟨p, e1, e2.symm⟩
    have hpm : p ∈ ps := List.mem_of_getElem? hpi
    have hpl := hb p hpm
    have hix' : L2.ixN (wipeR row (ps.take i)).length (p : Int) = some p := ixN_nat (by simp [wipeR_len]; omega)
    have htake : ps.take (i + 1) = ps.take i ++ [p] := by
      rw [List.take_add_one, hpi]; rfl
    have next : (wipeR row (ps.take (i + 1))) = (wipeR row (ps.take i)).set p none := by
      refine List.ext_getElem? fun q => ?_
      rw [wipeR_at, List.getElem?_set, wipeR_len]
      by_cases e : p = q
      · subst e
        rw [if_pos rfl, if_pos hpl, htake]
        simp [hpl]
      · rw [if_neg e, wipeR_at, htake]
        cases row[q]? with
        | none => rfl
        | some b => simp [Ne.symm e]
    simp (disch := omega) [-getElem?_pos, List.getElem?_cons_zero, List.getElem?_cons_succ, ite_at, bin_powP, bin_modP, bin_fdivP, bin_mulB, bin_mulA, bin_mul1, rngC1_ok, rngC2_ok, rngE_ok, hix']
    refine (hJ _ _).mpr ?_
    rw [next, List.map_set]
    rfl
  · intro s hs
    obtain rfl := (hJ _ _).mp hs
    rw [nats_len, List.take_length]
    simp (disch := omega) [-getElem?_pos, List.getElem?_cons_zero, List.getElem?_cons_succ, ite_at, bin_powP, bin_modP, bin_fdivP, bin_mulB, bin_mulA, bin_mul1, rngC1_ok, rngC2_ok, rngE_ok, P_wiped]
end
end Dm

set_option Elab.async false
set_option linter.all false
set_option maxRecDepth 100000
set_option maxHeartbeats 0
set_option autoImplicit false
/-! LP1: places, runs of places. -/
namespace Dm
open PySem
theorem rangeL_natsU : ∀ (n b : Nat), rangeL (b : Int) n = nats (List.range' b n)
  | 0, _ => rfl
  | n + 1, b => by
    have := rangeL_natsU n (b + 1)
    show D.int b :: rangeL ((b : Int) + 1) n = _
    rw [show ((b : Int) + 1) = ((b + 1 : Nat) : Int) by omega, this]
    rfl
section
variable {T : Tab} [Has T 3 L_take] [Has T 11 L_places]
theorem place_asc {k n N : Nat} {C : Int} {m : List Cell} (hm : Bx m n C) (hN : N ≤ 1000000) (h4 : C < 1152921504600000000) {P : EV → List Cell → Prop}
    (h : ∀ (ps : List Nat) m', ps.Pairwise (· < ·) → (∀ p ∈ ps, p < N) → Dr n (3 + N) m m' → P (.own (nats ps)) m') : (Phi T (k + 2) 11 [.cel n, .int N] m).sat P := by
  refine phi_sat (Has.eq (f := L_places)) (run_sat rfl ?_)
  simp (disch := omega) [-getElem?_pos, List.getElem?_cons_zero, List.getElem?_cons_succ, ite_at, bin_powP, bin_modP, bin_fdivP, bin_mulB, bin_mulA, bin_mul1, rngC1_ok, rngC2_ok, rngE_ok, L_places]
  repeat with_reducible refine sat_bnd ?_
  refine call_sat (take_ok (k := k) hm (by omega) (by omega) (by omega) fun way m1 r0 r1 d1 => ?_)
  by_cases hw : way = 0
  · simp (disch := omega) [-getElem?_pos, List.getElem?_cons_zero, List.getElem?_cons_succ, ite_at, bin_powP, bin_modP, bin_fdivP, bin_mulB, bin_mulA, bin_mul1, rngC1_ok, rngC2_ok, rngE_ok, hw]
    repeat with_reducible refine sat_bnd ?_
    refine call_sat (take_ok (k := k) (d1.bx hm (C' := C + 1) (by omega)) (by omega) (by omega) (by omega) fun b m2 b0 b1 d2 => ?_)
    simp (disch := omega) [-getElem?_pos, List.getElem?_cons_zero, List.getElem?_cons_succ, ite_at, bin_powP, bin_modP, bin_fdivP, bin_mulB, bin_mulA, bin_mul1, rngC1_ok, rngC2_ok, rngE_ok]
    repeat with_reducible refine sat_bnd ?_
    refine call_sat (take_ok (k := k) ((d1.trans d2).bx hm (C' := C + 2) (by omega)) (by omega) (by omega) (by omega) fun q m3 q0 q1 d3 => ?_)
    obtain ⟨b', rfl⟩ : ∃ b' : Nat, b = b' := ⟨b.toNat, by omega⟩
    have hl : (rangeL (b' : Int) ((if (b' : Int) + q < N then (b' : Int) + q else N) - b').toNat).length ≤ 16777216 := by
      rw [rangeL_lenS]; split <;> omega
    have hmm : -4611686018427387904 ≤ (if (b' : Int) + q < N then (b' : Int) + q else (N : Int)) ∧ (if (b' : Int) + q < N then (b' : Int) + q else (N : Int)) < 4611686018427387904 := by split <;> omega
    simp (disch := omega) [-getElem?_pos, List.getElem?_cons_zero, List.getElem?_cons_succ, ite_at, bin_powP, bin_modP, bin_fdivP, bin_mulB, bin_mulA, bin_mul1, rngC1_ok, rngC2_ok, rngE_ok, hmm.1, hmm.2]
    rw [rangeL_natsU, rngE_ok (by rw [nats_len, List.length_range']; split <;> omega)]
    simp (disch := omega) [-getElem?_pos, List.getElem?_cons_zero, List.getElem?_cons_succ, ite_at, bin_powP, bin_modP, bin_fdivP, bin_mulB, bin_mulA, bin_mul1, rngC1_ok, rngC2_ok, rngE_ok]
    refine h _ m3 List.pairwise_lt_range' (fun p hp => ?_) (((d1.trans d2).trans d3).mono (by omega))
    rw [List.mem_range'_1] at hp
    split at hp <;> omega
  · obtain ⟨J, hJ⟩ : ∃ J : Nat → List D → Sta → Prop, ∀ i acc s, J i acc s ↔ ∃ (ps : List Nat) (m2 : List Cell) (o : Option EV), ps.Pairwise (· < ·) ∧ (∀ p ∈ ps, p < i) ∧ acc = nats ps ∧ Dr n (1 + i) m m2 ∧ s = ⟨[some (.val (.cel n)), some (.val (.int N)), some (.val (.int way)), none, o], m2⟩ := ⟨_, fun _ _ _ => Iff.rfl⟩
    simp (disch := omega) [-getElem?_pos, List.getElem?_cons_zero, List.getElem?_cons_succ, ite_at, bin_powP, bin_modP, bin_fdivP, bin_mulB, bin_mulA, bin_mul1, rngC1_ok, rngC2_ok, rngE_ok, hw]
    repeat with_reducible refine sat_bnd ?_
    refine comp_rng N J (by omega) ?_ ?_ ?_
    · exact (hJ _ _ _).mpr ⟨[], m1, none, .nil, fun p h => (by cases h), rfl, d1.mono (by omega), rfl⟩
    · intro i acc s hi hs
      obtain ⟨ps, m2, o, h1, h2, rfl, d2, rfl⟩ := (hJ _ _ _).mp hs
      simp (disch := omega) [-getElem?_pos, List.getElem?_cons_zero, List.getElem?_cons_succ, ite_at, bin_powP, bin_modP, bin_fdivP, bin_mulB, bin_mulA, bin_mul1, rngC1_ok, rngC2_ok, rngE_ok]
      repeat with_reducible refine sat_bnd ?_
      refine call_sat (take_ok (k := k) (d2.bx hm (C' := C + 1 + i) (by omega)) (by omega) (by omega) (by omega) fun q m3 q0 q1 d3 => ?_)
      by_cases hq : q = 0
      · simp (disch := omega) [-getElem?_pos, List.getElem?_cons_zero, List.getElem?_cons_succ, ite_at, bin_powP, bin_modP, bin_fdivP, bin_mulB, bin_mulA, bin_mul1, rngC1_ok, rngC2_ok, rngE_ok, hq]
        refine (hJ _ _ _).mpr ⟨ps ++ [i], m3, _, ?_, ?_, ?_, (d2.trans d3).mono (by omega), rfl⟩
        · rw [List.pairwise_append]
          exact ⟨h1, by simp, fun a ha b hb => by have := h2 a ha; simp at hb; omega⟩
        · intro p hp
          rcases List.mem_append.mp hp with hp | hp
          · have := h2 p hp; omega
          · simp at hp; omega
        · simp [nats]
      · simp (disch := omega) [-getElem?_pos, List.getElem?_cons_zero, List.getElem?_cons_succ, ite_at, bin_powP, bin_modP, bin_fdivP, bin_mulB, bin_mulA, bin_mul1, rngC1_ok, rngC2_ok, rngE_ok, hq]
        exact (hJ _ _ _).mpr ⟨ps, m3, _, h1, fun p hp => by have := h2 p hp; omega, rfl, (d2.trans d3).mono (by omega), rfl⟩
    · intro ys s hs
      obtain ⟨ps, m2, o, h1, h2, rfl, d2, rfl⟩ := (hJ _ _ _).mp hs
      simp (disch := omega) [-getElem?_pos, List.getElem?_cons_zero, List.getElem?_cons_succ, ite_at, bin_powP, bin_modP, bin_fdivP, bin_mulB, bin_mulA, bin_mul1, rngC1_ok, rngC2_ok, rngE_ok, L_places]
      exact h ps m2 h1 h2 (d2.mono (by omega))
end
/-! runs -/
/-- one more whole number, behind the runs so far -/
def runStep (acc : List (Int × Nat)) (x : Int) : List (Int × Nat) := match acc.getLast? with
  | some p => if p.1 + p.2 = x then acc.dropLast ++ [(p.1, p.2 + 1)] else acc ++ [(x, 1)]
  | none => [(x, 1)]
def runsF (xs : List Int) : List (Int × Nat) := xs.foldl runStep []
def runD (p : Int × Nat) : D := .tup [.int p.1, .int p.2]
def runOf (p : Int × Nat) : List Int := (List.range p.2).map fun (j : Nat) => p.1 + (j : Int)
def flatR (R : List (Int × Nat)) : List Int := R.flatMap runOf
structure GoodR (R : List (Int × Nat)) : Prop where
  asc : R.Pairwise fun p q => p.1 + (p.2 : Int) < q.1
  pos : ∀ p ∈ R, 1 ≤ p.2
theorem mem_flat {R : List (Int × Nat)} {y : Int} : y ∈ flatR R ↔ ∃ p ∈ R, p.1 ≤ y ∧ y < p.1 + p.2 := by
  unfold flatR runOf
  simp only [List.mem_flatMap, List.mem_map, List.mem_range]
  refine ⟨fun ⟨p, hp, j, hj, e⟩ => ⟨p, hp, by omega, by omega⟩, fun ⟨p, hp, h1, h2⟩ => ⟨p, hp, (y - p.1).toNat, by omega, by omega⟩⟩
theorem runStep_nil {x : Int} : runStep [] x = [(x, 1)] := rfl
theorem runStep_app {S : List (Int × Nat)} {p : Int × Nat} {x : Int} : runStep (S ++ [p]) x = if p.1 + p.2 = x then S ++ [(p.1, p.2 + 1)] else S ++ [p] ++ [(x, 1)] := by
  unfold runStep
  rw [List.getLast?_append]
  simp
theorem step_good {R : List (Int × Nat)} {ys : List Int} {x : Int} (g : GoodR R) (h : flatR R = ys) (hx : ∀ y ∈ ys, y < x) : GoodR (runStep R x) ∧ flatR (runStep R x) = ys ++ [x] := by
  rcases List.eq_nil_or_concat R with rfl | ⟨S, p, rfl⟩
  · have : ys = [] := by rw [← h]; rfl
    subst this
    exact ⟨⟨by rw [runStep_nil]; simp, by rw [runStep_nil]; simp⟩, by rw [runStep_nil]; simp [flatR, runOf]⟩
  · rw [List.concat_eq_append] at *
    have hasc := List.pairwise_append.mp g.asc
    have hpp := g.pos p (by simp)
    rw [runStep_app]
    by_cases e : p.1 + p.2 = x
    · rw [if_pos e]
      refine ⟨⟨?_, ?_⟩, ?_⟩
      · rw [List.pairwise_append]
        refine ⟨hasc.1, by simp, fun a ha b hb => ?_⟩
        have := hasc.2.2 a ha p (by simp)
        simp at hb
        subst hb
        exact this
      · intro q hq
        rcases List.mem_append.mp hq with hq | hq
        · exact g.pos q (by simp [hq])
        · simp at hq; subst hq; simp
      · rw [← h]
        unfold flatR runOf
        simp [List.range_succ, e]
    · rw [if_neg e]
      have hlt : p.1 + p.2 < x := by
        have := hx (p.1 + p.2 - 1) (by rw [← h]; exact mem_flat.mpr ⟨p, by simp, by omega, by omega⟩)
        omega
      refine ⟨⟨?_, ?_⟩, ?_⟩
      · rw [List.pairwise_append]
        refine ⟨g.asc, by simp, fun a ha b hb => ?_⟩
        simp at hb
        subst hb
        rcases List.mem_append.mp ha with ha | ha
        · have := hasc.2.2 a ha p (by simp)
          show a.1 + a.2 < x
          omega
        · simp at ha; subst ha; exact hlt
      · intro q hq
        rcases List.mem_append.mp hq with hq | hq
        · exact g.pos q hq
        · simp at hq; subst hq; simp
      · rw [← h]
        unfold flatR runOf
        simp
theorem runsF_app {xs : List Int} {x : Int} : runsF (xs ++ [x]) = runStep (runsF xs) x := by
  unfold runsF
  rw [List.foldl_append]
  rfl
theorem runs_good : ∀ (xs : List Int), xs.Pairwise (· < ·) → GoodR (runsF xs) ∧ flatR (runsF xs) = xs := by
  intro xs
  induction h : xs.length generalizing xs with
  | zero =>
    intro _
    have : xs = [] := List.length_eq_zero_iff.mp h
    subst this
    exact ⟨⟨.nil, fun p hp => by cases hp⟩, rfl⟩
  | succ n ih =>
    intro hp
    rcases List.eq_nil_or_concat xs with rfl | ⟨ys, x, rfl⟩
    · simp at h
    · rw [List.concat_eq_append] at *
      have hp := List.pairwise_append.mp hp
      have := ih ys (by simpa using h) hp.1
      rw [runsF_app]
      exact step_good this.1 this.2 fun y hy => hp.2.2 y hy x (by simp)
theorem good_cmp {R : List (Int × Nat)} (g : GoodR R) {p q : Int × Nat} (hp : p ∈ R) (hq : q ∈ R) : p = q ∨ p.1 + p.2 < q.1 ∨ q.1 + q.2 < p.1 := by
  obtain ⟨i, hi, e1⟩ := List.getElem_of_mem hp
  obtain ⟨j, hj, e2⟩ := List.getElem_of_mem hq
  have h := List.pairwise_iff_getElem.mp g.asc
  rcases Nat.lt_trichotomy i j with hl | hl | hl
  · have := h i j hi hj hl
    rw [e1, e2] at this
    exact .inr (.inl this)
  · subst hl
    exact .inl (e1.symm.trans e2)
  · have := h j i hj hi hl
    rw [e1, e2] at this
    exact .inr (.inr this)
theorem not_before {R : List (Int × Nat)} (g : GoodR R) {p : Int × Nat} (hp : p ∈ R) : p.1 - 1 ∉ flatR R := by
  intro h
  obtain ⟨q, hq, h1, h2⟩ := mem_flat.mp h
  have := g.pos p hp
  rcases good_cmp g hp hq with rfl | h3 | h3 <;> omega
theorem not_behind {R : List (Int × Nat)} (g : GoodR R) {p : Int × Nat} (hp : p ∈ R) : p.1 + p.2 ∉ flatR R := by
  intro h
  obtain ⟨q, hq, h1, h2⟩ := mem_flat.mp h
  have := g.pos p hp
  rcases good_cmp g hp hq with rfl | h3 | h3 <;> omega
theorem heads {R : List (Int × Nat)} (g : GoodR R) : (flatR R).filter (fun x => decide (x - 1 ∉ flatR R)) = R.map (·.1) := by
  have key : ∀ S : List (Int × Nat), (∀ p ∈ S, p ∈ R) → (flatR S).filter (fun x => decide (x - 1 ∉ flatR R)) = S.map (·.1) := by
    intro S
    induction S with
    | nil => intro _; rfl
    | cons p S ih =>
      intro h
      have hp := h p (by simp)
      have ih := ih fun q hq => h q (by simp [hq])
      show ((runOf p) ++ flatR S).filter _ = _
      rw [List.filter_append, ih]
      have : (runOf p).filter (fun x => decide (x - 1 ∉ flatR R)) = [p.1] := by
        obtain ⟨b, l⟩ := p
        have hl := g.pos _ hp
        obtain ⟨l', rfl⟩ : ∃ l', l = l' + 1 := ⟨l - 1, by simp at hl; omega⟩
        unfold runOf
        rw [List.range_succ_eq_map]
        have h1 := not_before g hp
        simp only [List.map_cons, List.filter_cons, List.map_map]
        have h1' : decide (b + ((0 : Nat) : Int) - 1 ∉ flatR R) = true := by
          rw [decide_eq_true_eq, show b + ((0 : Nat) : Int) - 1 = b - 1 by omega]
          exact h1
        rw [if_pos h1', List.filter_eq_nil_iff.mpr]
        · simp
        · intro x hx
          obtain ⟨j, hj, rfl⟩ := List.mem_map.mp hx
          have := List.mem_range.mp hj
          simp only [Function.comp, decide_eq_true_eq, Classical.not_not]
          exact mem_flat.mpr ⟨_, hp, by simp only; omega, by simp only; omega⟩
      rw [this]
      rfl
  exact key R fun _ h => h
theorem runs_eq {R L : List (Int × Nat)} (g : GoodR R) (h1 : L.map (·.1) = R.map (·.1)) (h2 : ∀ p ∈ L, p ∈ R) : L = R := by
  have hl : L.length = R.length := by simpa using congrArg List.length h1
  refine List.ext_getElem hl fun i hi hj => ?_
  have h3 : (L[i]).1 = (R[i]).1 := by
    have := congrArg (fun l => l[i]?) h1
    simpa [hi, hj] using this
  have h4 := g.pos _ (List.getElem_mem hj)
  rcases good_cmp g (h2 _ (List.getElem_mem hi)) (List.getElem_mem hj) with e | e | e
  · exact e
  · omega
  · omega
theorem flat_len {R : List (Int × Nat)} {p : Int × Nat} (hp : p ∈ R) : p.2 ≤ (flatR R).length := by
  have h1 : List.Sublist (runOf p) (flatR R) := by
    induction R with
    | nil => cases hp
    | cons q R ih =>
      show List.Sublist _ (runOf q ++ flatR R)
      rcases List.mem_cons.mp hp with rfl | hp
      · exact List.sublist_append_left _ _
      · exact (ih hp).trans (List.sublist_append_right _ _)
  have := h1.length_le
  simpa [runOf] using this
end Dm

set_option Elab.async false
set_option linter.all false
set_option maxRecDepth 100000
set_option maxHeartbeats 0
set_option autoImplicit false
/-! LI1: lists of whole numbers: least, in order, cut. -/
namespace Dm
open PySem
theorem zminL_le : ∀ (r : List Int) (a : Int), minL a r ≤ a ∧ ∀ x ∈ r, minL a r ≤ x
  | [], a => ⟨Int.le_refl _, fun x h => by cases h⟩
  | b :: r, a => by
    have ih := zminL_le r (if b < a then b else a)
    show minL (if b < a then b else a) r ≤ a ∧ _
    refine ⟨?_, fun x hx => ?_⟩
    · have := ih.1; split at this <;> split <;> omega
    · show minL (if b < a then b else a) r ≤ x
      rcases List.mem_cons.mp hx with rfl | hx
      · have := ih.1; split at this <;> split <;> omega
      · exact ih.2 x hx
theorem zminL_mem : ∀ (r : List Int) (a : Int), minL a r = a ∨ minL a r ∈ r
  | [], a => .inl rfl
  | b :: r, a => by
    have ih := zminL_mem r (if b < a then b else a)
    show minL (if b < a then b else a) r = a ∨ minL (if b < a then b else a) r ∈ b :: r
    rcases ih with h | h
    · rw [h]
      split
      · exact .inr (by simp)
      · exact .inl rfl
    · exact .inr (by simp [h])
theorem zmaxL_ge : ∀ (r : List Int) (a : Int), a ≤ maxL a r ∧ ∀ x ∈ r, x ≤ maxL a r
  | [], a => ⟨Int.le_refl _, fun x h => by cases h⟩
  | b :: r, a => by
    have ih := zmaxL_ge r (if b > a then b else a)
    show a ≤ maxL (if b > a then b else a) r ∧ _
    refine ⟨?_, fun x hx => ?_⟩
    · have := ih.1; split at this <;> split <;> omega
    · show x ≤ maxL (if b > a then b else a) r
      rcases List.mem_cons.mp hx with rfl | hx
      · have := ih.1; split at this <;> split <;> omega
      · exact ih.2 x hx
theorem zmaxL_mem : ∀ (r : List Int) (a : Int), maxL a r = a ∨ maxL a r ∈ r
  | [], a => .inl rfl
  | b :: r, a => by
    have ih := zmaxL_mem r (if b > a then b else a)
    show maxL (if b > a then b else a) r = a ∨ maxL (if b > a then b else a) r ∈ b :: r
    rcases ih with h | h
    · rw [h]
      split
      · exact .inr (by simp)
      · exact .inl rfl
    · exact .inr (by simp [h])
/-- the least; the greatest -/
def minI : List Int → Int
  | [] => 0
  | a :: r => minL a r
def maxI : List Int → Int
  | [] => 0
  | a :: r => maxL a r
theorem minI_le {ns : List Int} {x : Int} (h : x ∈ ns) : minI ns ≤ x := by
  cases ns with
  | nil => cases h
  | cons a r =>
    rcases List.mem_cons.mp h with rfl | h
    · exact (zminL_le r _).1
    · exact (zminL_le r a).2 x h
theorem minI_mem {ns : List Int} (h : ns ≠ []) : minI ns ∈ ns := by
  cases ns with
  | nil => exact absurd rfl h
  | cons a r =>
    show minL a r ∈ _
    rcases zminL_mem r a with h | h
    · rw [h]; simp
    · simp [h]
theorem maxI_ge {ns : List Int} {x : Int} (h : x ∈ ns) : x ≤ maxI ns := by
  cases ns with
  | nil => cases h
  | cons a r =>
    rcases List.mem_cons.mp h with rfl | h
    · exact (zmaxL_ge r _).1
    · exact (zmaxL_ge r a).2 x h
theorem maxI_mem {ns : List Int} (h : ns ≠ []) : maxI ns ∈ ns := by
  cases ns with
  | nil => exact absurd rfl h
  | cons a r =>
    show maxL a r ∈ _
    rcases zmaxL_mem r a with h | h
    · rw [h]; simp
    · simp [h]
theorem min_ints {m : List Cell} {ns : List Int} {d : D} (h : ns ≠ []) (hd : d.items = some (ns.map .int)) : biD m .min [d] = some (.val (.int (minI ns))) := by
  have e : biD m .min [d] = d.items.bind fun xs => (mmD false none xs).map EV.val := by simp only [biD]
  rw [e, hd]
  show (mmD false none (ns.map .int)).map EV.val = _
  unfold mmD
  rw [intsL_map]
  cases ns with
  | nil => exact absurd rfl h
  | cons a r => rfl
theorem max_ints {m : List Cell} {ns : List Int} {d : D} (h : ns ≠ []) (hd : d.items = some (ns.map .int)) : biD m .max [d] = some (.val (.int (maxI ns))) := by
  have e : biD m .max [d] = d.items.bind fun xs => (mmD true none xs).map EV.val := by simp only [biD]
  rw [e, hd]
  show (mmD true none (ns.map .int)).map EV.val = _
  unfold mmD
  rw [intsL_map]
  cases ns with
  | nil => exact absurd rfl h
  | cons a r => rfl
theorem sort_ints {m : List Cell} {ns : List Int} {d : D} (hd : d.items = some (ns.map .int)) : biD m .sorted [d] = some (.own ((isort ns).map .int)) := by
  show (d.items.bind fun xs => (srtD xs).map EV.own) = _
  rw [hd]
  show (srtD (ns.map .int)).map EV.own = _
  unfold srtD
  rw [intsL_map]
  rfl
theorem ins_len : ∀ (r : List Int) (a : Int), (ins a r).length = r.length + 1
  | [], a => rfl
  | b :: r, a => by
    unfold ins
    split
    · rfl
    · simp [ins_len r a]
theorem isort_len : ∀ (r : List Int), (isort r).length = r.length
  | [] => rfl
  | a :: r => by
    show (ins a (isort r)).length = _
    rw [ins_len, isort_len r]
    rfl
theorem zins_perm : ∀ (r : List Int) (a : Int), (ins a r).Perm (a :: r)
  | [], a => .refl _
  | b :: r, a => by
    unfold ins
    split
    · exact .refl _
    · exact ((zins_perm r a).cons b).trans (List.Perm.swap a b r)
theorem zisort_perm : ∀ (r : List Int), (isort r).Perm r
  | [] => .refl _
  | a :: r => (zins_perm _ a).trans ((zisort_perm r).cons a)
theorem zins_sorted : ∀ (r : List Int) (a : Int), r.Pairwise (· ≤ ·) → (ins a r).Pairwise (· ≤ ·)
  | [], a, _ => by simp [ins]
  | b :: r, a, h => by
    unfold ins
    have hb := List.pairwise_cons.mp h
    split
    · rename_i hab
      refine List.pairwise_cons.mpr ⟨fun x hx => ?_, h⟩
      rcases List.mem_cons.mp hx with rfl | hx
      · exact hab
      · have := hb.1 x hx; omega
    · rename_i hab
      refine List.pairwise_cons.mpr ⟨fun x hx => ?_, zins_sorted r a hb.2⟩
      rcases List.mem_cons.mp ((zins_perm r a).mem_iff.mp hx) with rfl | hx
      · omega
      · exact hb.1 x hx
theorem zisort_sorted : ∀ (r : List Int), (isort r).Pairwise (· ≤ ·)
  | [] => .nil
  | a :: r => zins_sorted _ a (zisort_sorted r)
theorem ins_head {a : Int} {r : List Int} (h : ∀ x ∈ r, a ≤ x) : ins a r = a :: r := by
  cases r with
  | nil => rfl
  | cons b r =>
    unfold ins
    rw [if_pos (h b (by simp))]
theorem isort_id : ∀ {r : List Int}, r.Pairwise (· ≤ ·) → isort r = r
  | [], _ => rfl
  | a :: r, h => by
    have hh := List.pairwise_cons.mp h
    show ins a (isort r) = _
    rw [isort_id hh.2, ins_head hh.1]
theorem ins_shift (c : Int) : ∀ (r : List Int) (a : Int), ins (a + c) (r.map (· + c)) = (ins a r).map (· + c)
  | [], a => rfl
  | b :: r, a => by
    show ins (a + c) ((b + c) :: r.map (· + c)) = _
    unfold ins
    by_cases h : a ≤ b
    · rw [if_pos h, if_pos (by omega)]; rfl
    · rw [if_neg h, if_neg (by omega), ins_shift c r a]; rfl
theorem isort_shift (c : Int) : ∀ (r : List Int), isort (r.map (· + c)) = (isort r).map (· + c)
  | [] => rfl
  | a :: r => by
    show ins (a + c) (isort (r.map (· + c))) = _
    rw [isort_shift c r, ins_shift]
    rfl
theorem sorted_get {r : List Int} (h : r.Pairwise (· ≤ ·)) {i j : Nat} (hij : i ≤ j) (hj : j < r.length) : r[i] ≤ r[j] := by
  rcases Nat.lt_or_eq_of_le hij with h1 | h1
  · exact List.pairwise_iff_getElem.mp h i j (by omega) hj h1
  · subst h1; exact Int.le_refl _
theorem slc_drop {xs : List D} {n : Nat} (h : n ≤ xs.length) : slcD (.lst xs) (some (n : Int)) none = some (.own (xs.drop n)) := by
  show some (EV.own (cutD xs _ _)) = _
  unfold cutD
  rw [HT.sIx_nat, HT.sIx_none, Nat.min_eq_left h, List.take_of_length_le (by simp)]
theorem rangeL_map : ∀ (n : Nat) (lo : Int), rangeL lo n = (List.range n).map fun (j : Nat) => D.int (lo + (j : Int))
  | 0, _ => rfl
  | n + 1, lo => by
    rw [List.range_succ_eq_map, List.map_cons, List.map_map]
    show D.int lo :: rangeL (lo + 1) n = _
    rw [rangeL_map n (lo + 1)]
    congr 1
    · congr 1; omega
    · refine List.map_congr_left fun j _ => ?_
      show D.int _ = D.int _
      congr 1
      simp only [Nat.succ_eq_add_one]
      omega
theorem range_ne {α : Type} {f : Nat → α} {n : Nat} (h : 0 < n) : (List.range n).map f ≠ [] := by
  intro e
  have := congrArg List.length e
  rw [List.length_map, List.length_range] at this
  simp at this
  omega
theorem filter_range {N lo hi : Nat} {q : Nat → Bool} (hN : hi ≤ N) (h : ∀ p < N, q p = decide (lo ≤ p ∧ p < hi)) : (List.range N).filter q = List.range' lo (hi - lo) := by
  by_cases hl : lo ≤ hi
  · have e : List.range N = List.range' 0 lo ++ (List.range' lo (hi - lo) ++ List.range' hi (N - hi)) := by
      have e1 := List.range'_append_1 (s := lo) (m := hi - lo) (n := N - hi)
      have e2 := List.range'_append_1 (s := 0) (m := lo) (n := (hi - lo) + (N - hi))
      rw [show lo + (hi - lo) = hi by omega] at e1
      rw [e1, List.range_eq_range']
      rw [Nat.zero_add] at e2
      rw [e2]
      congr 1
      omega
    rw [e, List.filter_append, List.filter_append, List.filter_eq_nil_iff.mpr, List.filter_eq_self.mpr, List.filter_eq_nil_iff.mpr]
    · simp
    · intro p hp
      have hp := List.mem_range'_1.mp hp
      rw [h p (by omega)]
      simp; omega
    · intro p hp
      have hp := List.mem_range'_1.mp hp
      rw [h p (by omega)]
      simp; omega
    · intro p hp
      have hp := List.mem_range'_1.mp hp
      rw [h p (by omega)]
      simp; omega
  · rw [show hi - lo = 0 by omega, List.filter_eq_nil_iff.mpr]
    · rfl
    · intro p hp
      rw [h p (List.mem_range.mp hp)]
      simp; omega
end Dm

set_option Elab.async false
set_option linter.all false
set_option maxRecDepth 100000
set_option maxHeartbeats 0
set_option autoImplicit false
/-! LSP1: slots by block, spans, longest runs. -/
namespace Dm
open PySem
/-- the slots before i whose bits are of block b -/
def slotsTo (order : List Nat) (wide i b : Nat) : List Nat := (List.range i).filter fun s => decide ((order[s]?.getD 0) / wide = b)
def blocksN (many wide : Nat) : Nat := (many + wide - 1) / wide
theorem block_lt {many wide x : Nat} (hw : 0 < wide) (h : x < many) : x / wide < blocksN many wide := by
  unfold blocksN
  have h1 : x / wide + 1 ≤ (x + wide) / wide := by rw [Nat.add_div_right _ hw]; omega
  have h2 : (x + wide) / wide ≤ (many + wide - 1) / wide := Nat.div_le_div_right (by omega)
  omega
theorem slotsTo_succ {order : List Nat} {wide i b : Nat} : slotsTo order wide (i + 1) b = if (order[i]?.getD 0) / wide = b then slotsTo order wide i b ++ [i] else slotsTo order wide i b := by
  unfold slotsTo
  rw [List.range_succ, List.filter_append, List.filter_cons]
  by_cases h : (order[i]?.getD 0) / wide = b
  · simp [h]
  · simp [h]
theorem slotsTo_len {order : List Nat} {wide i b : Nat} : (slotsTo order wide i b).length ≤ i := by
  unfold slotsTo
  refine Nat.le_trans (List.length_filter_le _ _) ?_
  simp
section
variable {T : Tab} [Has T 58 P_blocks_of]
theorem blocks_of_ok {k many wide : Nat} {m : List Cell} (hw : 0 < wide) (hw2 : wide < 1000000) : Phi T (k + 1) 58 [.int many, .int wide] m = .ok (.val (.int (blocksN many wide))) m := by
  rw [phi_eq (Has.eq (f := P_blocks_of)) rfl]
  have : ((many : Int) + (wide : Int) - 1) / (wide : Int) = ((blocksN many wide : Nat) : Int) := by
    unfold blocksN
    rw [Int.natCast_ediv]
    congr 1
    omega
  simp (disch := omega) [-getElem?_pos, List.getElem?_cons_zero, List.getElem?_cons_succ, ite_at, bin_powP, bin_modP, bin_fdivP, bin_mulB, bin_mulA, bin_mul1, rngC1_ok, rngC2_ok, rngE_ok, P_blocks_of, this]
end
def blockCells (order : List Nat) (wide i B : Nat) : List Cell := (List.range B).map fun b => .lst (nats (slotsTo order wide i b))
theorem blockCells_len {order : List Nat} {wide i B : Nat} : (blockCells order wide i B).length = B := by simp [blockCells]
theorem blockCells_at {order : List Nat} {wide i B j : Nat} (h : j < B) : (blockCells order wide i B)[j]? = some (.lst (nats (slotsTo order wide i j))) := by
  simp [blockCells, h]
theorem blockCells_set {order : List Nat} {wide i B q : Nat} {m : List Cell} (hq : q = (order[i]?.getD 0) / wide) (h : q < B) :
    (m ++ blockCells order wide i B).set (m.length + q) (.lst (nats (slotsTo order wide i q) ++ [.int i])) = m ++ blockCells order wide (i + 1) B := by
  rw [List.set_append_right _ _ (Nat.le_add_right _ _), Nat.add_sub_cancel_left]
  congr 1
  refine List.ext_getElem? fun j => ?_
  by_cases hj : j < B
  · rw [List.getElem?_set, blockCells_at (i := i) hj, blockCells_at (i := i + 1) hj, slotsTo_succ, ← hq, blockCells_len]
    by_cases e : q = j
    · subst e
      rw [if_pos rfl, if_pos h, if_pos rfl]
      simp [nats]
    · rw [if_neg e, if_neg e]
  · rw [List.getElem?_eq_none (by rw [List.length_set, blockCells_len]; omega), List.getElem?_eq_none (by rw [blockCells_len]; omega)]
section
variable {T : Tab} [Has T 58 P_blocks_of] [Has T 59 P_slots_by_block]
theorem slots_by_block_ok {k wide : Nat} {d : D} {order : List Nat} {m : List Cell} (hd : d = .lst (nats order) ∨ d = .tup (nats order)) (hw : 0 < wide) (hw2 : wide < 1000000) (hl : order.length ≤ 100000) (hb : ∀ x ∈ order, x < order.length) :
    Phi T (k + 2) 59 [d, .int wide] m = .ok (.val (.lst ((List.range (blocksN order.length wide)).map fun b => .cel (m.length + b)))) (m ++ blockCells order wide order.length (blocksN order.length wide)) := by
  obtain ⟨B, hB⟩ : ∃ B, B = blocksN order.length wide := ⟨_, rfl⟩
  have hB2 : B ≤ 200000 := by
    rw [hB]
    unfold blocksN
    have h1 : (order.length + wide - 1) / wide ≤ (order.length * wide + wide - 1) / wide := by
      refine Nat.div_le_div_right ?_
      have : order.length ≤ order.length * wide := Nat.le_mul_of_pos_right _ hw
      omega
    have h2 : (order.length * wide + wide - 1) / wide ≤ order.length + 1 := by
      refine Nat.div_le_of_le_mul ?_
      rw [Nat.mul_comm wide, Nat.add_mul]
      omega
    omega
  have e1 : ∀ m, lenD m d = some order.length := fun m => by rcases hd with rfl | rfl <;> simp [nats_len]
  have e2 : ∀ s, callC (Phi T (k + 1)) 58 [.int order.length, .int wide] s = .ok (.val (.int B)) s := fun s => callC_pure fun m => by rw [hB]; exact blocks_of_ok hw hw2
  have e3 : d.items = some (nats order) := by rcases hd with rfl | rfl <;> rfl
  refine fsat_eq (phi_sat (Has.eq (f := P_slots_by_block)) (run_sat rfl ?_))
  rw [← hB]
  simp (disch := omega) [-getElem?_pos, List.getElem?_cons_zero, List.getElem?_cons_succ, ite_at, bin_powP, bin_modP, bin_fdivP, bin_mulB, bin_mulA, bin_mul1, rngC1_ok, rngC2_ok, rngE_ok, P_slots_by_block, e1, e2]
  obtain ⟨J0, hJ0⟩ : ∃ J : Nat → List D → Sta → Prop, ∀ i acc s, J i acc s ↔ ∃ o : Option EV, acc = (List.range i).map (fun b => .cel (m.length + b)) ∧ s = ⟨[some (.val d), some (.val (.int wide)), none, none, none, o], m ++ List.replicate i (.lst [])⟩ := ⟨_, fun _ _ _ => Iff.rfl⟩
  repeat with_reducible refine sat_bnd ?_
  refine comp_rng B J0 (by omega) ?_ ?_ ?_
  · exact (hJ0 _ _ _).mpr ⟨none, rfl, by simp⟩
  · intro i acc s hi hs
    obtain ⟨o, rfl, rfl⟩ := (hJ0 _ _ _).mp hs
    simp (disch := omega) [-getElem?_pos, List.getElem?_cons_zero, List.getElem?_cons_succ, ite_at, bin_powP, bin_modP, bin_fdivP, bin_mulB, bin_mulA, bin_mul1, rngC1_ok, rngC2_ok, rngE_ok]
    refine (hJ0 _ _ _).mpr ⟨some (.val (.int i)), ?_, ?_⟩
    · rw [List.range_succ]; simp
    · rw [List.replicate_succ']
  · intro ys s hs
    obtain ⟨o, rfl, rfl⟩ := (hJ0 _ _ _).mp hs
    have hstart : List.replicate B (Cell.lst []) = blockCells order wide 0 B := by
      refine List.ext_getElem? fun j => ?_
      by_cases hj : j < B
      · rw [blockCells_at hj]
        simp [hj, slotsTo, nats]
      · rw [List.getElem?_eq_none (by simp; omega), List.getElem?_eq_none (by rw [blockCells_len]; omega)]
    rw [hstart]
    obtain ⟨J, hJ⟩ : ∃ J : Nat → Sta → Prop, ∀ i s, J i s ↔ ∃ o : EV, (o = .val (.lst ((List.range B).map fun b => .cel (m.length + b))) ∨ o = .own ((List.range B).map fun b => .cel (m.length + b))) ∧ s = ⟨[some (.val d), some (.val (.int wide)), some o, none, none, none], m ++ blockCells order wide i B⟩ := ⟨_, fun _ _ => Iff.rfl⟩
    simp (disch := omega) [-getElem?_pos, List.getElem?_cons_zero, List.getElem?_cons_succ, ite_at, bin_powP, bin_modP, bin_fdivP, bin_mulB, bin_mulA, bin_mul1, rngC1_ok, rngC2_ok, rngE_ok, e3]
    refine sat_bnd (for_ix _ J ?_ ?_ ?_)
    · exact (hJ _ _).mpr ⟨_, .inr rfl, rfl⟩
    · intro i x s hx hs
      obtain ⟨o, ho, rfl⟩ := (hJ _ _).mp hs
      obtain ⟨hi, rfl⟩ : ∃ hi : i < order.length, x = .tup [.int i, .int (order[i] : Nat)] := by
        unfold nats at hx
        rw [enumD_map, List.getElem?_map] at hx
        obtain ⟨y, e1, e2⟩ := Option.map_eq_some_iff.mp hx
        rw [List.getElem?_zipIdx] at e1
        obtain ⟨z, e3, e4⟩ := Option.map_eq_some_iff.mp e1
        obtain ⟨hi, e5⟩ := List.getElem?_eq_some_iff.mp e3
        refine ⟨hi, ?_⟩
        rw [← e2, ← e4, e5]
        simp
      obtain ⟨q, hq⟩ : ∃ q, q = order[i] / wide := ⟨_, rfl⟩
      have hqB : q < B := by
        rw [hq, hB]
        exact block_lt hw (hb _ (List.getElem_mem hi))
      have hq2 : ((order[i] : Nat) : Int) / (wide : Int) = (q : Int) := by rw [hq]; rfl
      have hat : L2.atI ((List.range B).map fun b => D.cel (m.length + b)) (q : Int) = some (.cel (m.length + q)) := by
        rw [atI_nat]; simp [hqB]
      have hmem : (m ++ blockCells order wide i B)[m.length + q]? = some (.lst (nats (slotsTo order wide i q))) := by
        rw [List.getElem?_append_right (by omega), Nat.add_sub_cancel_left, blockCells_at hqB]
      have hap : omD .append (nats (slotsTo order wide i q)) [.int i] = some (.non, nats (slotsTo order wide i q) ++ [.int i]) := om_app (by rw [nats_len]; have := slotsTo_len (order := order) (wide := wide) (i := i) (b := q); omega)
      have hset := blockCells_set (order := order) (wide := wide) (i := i) (B := B) (q := q) (m := m) (by rw [hq]; simp [hi]) hqB
      rcases ho with rfl | rfl
      · simp (disch := omega) [-getElem?_pos, List.getElem?_cons_zero, List.getElem?_cons_succ, ite_at, bin_powP, bin_modP, bin_fdivP, bin_mulB, bin_mulA, bin_mul1, rngC1_ok, rngC2_ok, rngE_ok, hq2, hat, hmem, hap, hset]
        exact (hJ _ _).mpr ⟨_, .inl rfl, rfl⟩
      · simp (disch := omega) [-getElem?_pos, List.getElem?_cons_zero, List.getElem?_cons_succ, ite_at, bin_powP, bin_modP, bin_fdivP, bin_mulB, bin_mulA, bin_mul1, rngC1_ok, rngC2_ok, rngE_ok, hq2, hat, hmem, hap, hset]
        exact (hJ _ _).mpr ⟨_, .inl rfl, rfl⟩
    · intro s hs
      obtain ⟨o, ho, rfl⟩ := (hJ _ _).mp hs
      have hlen : (enumD 0 (nats order)).length = order.length := by unfold nats; rw [enumD_map]; simp
      rw [hlen]
      rcases ho with rfl | rfl
      · simp (disch := omega) [-getElem?_pos, List.getElem?_cons_zero, List.getElem?_cons_succ, ite_at, bin_powP, bin_modP, bin_fdivP, bin_mulB, bin_mulA, bin_mul1, rngC1_ok, rngC2_ok, rngE_ok, P_slots_by_block]
      · simp (disch := omega) [-getElem?_pos, List.getElem?_cons_zero, List.getElem?_cons_succ, ite_at, bin_powP, bin_modP, bin_fdivP, bin_mulB, bin_mulA, bin_mul1, rngC1_ok, rngC2_ok, rngE_ok, P_slots_by_block]
end
def gn (xs : List Nat) (p : Nat) : Nat := xs[p]?.getD 0
/-- the spans of most + 1 slots of a block, and where they begin -/
def spansB (order : List Nat) (wide most b : Nat) : List (Int × Int) := (List.range ((slotsTo order wide order.length b).length - most)).map fun p => ((gn (slotsTo order wide order.length b) (p + most) : Int) - (gn (slotsTo order wide order.length b) p : Int), (gn (slotsTo order wide order.length b) p : Int))
def spans (order : List Nat) (wide most B : Nat) : List (Int × Int) := (List.range B).flatMap (spansB order wide most)
def spD (p : Int × Int) : D := .tup [.int p.1, .int p.2]
theorem spansB_len {order : List Nat} {wide most b : Nat} : (spansB order wide most b).length ≤ order.length := by
  unfold spansB
  rw [List.length_map, List.length_range]
  have := slotsTo_len (order := order) (wide := wide) (i := order.length) (b := b)
  omega
theorem spans_len {order : List Nat} {wide most : Nat} : ∀ B, (spans order wide most B).length ≤ B * order.length
  | 0 => by simp [spans]
  | B + 1 => by
    have ih := spans_len (order := order) (wide := wide) (most := most) B
    have := spansB_len (order := order) (wide := wide) (most := most) (b := B)
    unfold spans at *
    have e : [B].flatMap (spansB order wide most) = spansB order wide most B := by simp
    rw [List.range_succ, List.flatMap_append, List.length_append, Nat.add_mul, e]
    omega
theorem blocks_le {many wide : Nat} (hw : 0 < wide) : blocksN many wide ≤ many + 1 := by
  unfold blocksN
  have h1 : (many + wide - 1) / wide ≤ (many * wide + wide - 1) / wide := by
    refine Nat.div_le_div_right ?_
    have : many ≤ many * wide := Nat.le_mul_of_pos_right _ hw
    omega
  have h2 : (many * wide + wide - 1) / wide ≤ many + 1 := by
    refine Nat.div_le_of_le_mul ?_
    rw [Nat.mul_comm wide, Nat.add_mul]
    omega
  omega
section
variable {T : Tab} [Has T 58 P_blocks_of] [Has T 59 P_slots_by_block] [Has T 60 P_spans_of]
theorem spans_of_ok {k wide most : Nat} {d : D} {order : List Nat} {m : List Cell} (hp : m.all Cell.pure = true) (hd : d = .lst (nats order) ∨ d = .tup (nats order)) (hw : 0 < wide) (hw2 : wide < 1000000) (hl : order.length ≤ 1000) (hb : ∀ x ∈ order, x < order.length) (hm : most ≤ 1000000) :
    Phi T (k + 3) 60 [d, .int wide, .int most] m = .ok (.own ((spans order wide most (blocksN order.length wide)).map spD)) m := by
  have hB2 := blocks_le (many := order.length) hw
  obtain ⟨B, hB⟩ : ∃ B, B = blocksN order.length wide := ⟨_, rfl⟩
  have e2 : ∀ s : Sta, s.mem = m → callC (Phi T (k + 2)) 59 [d, .int wide] s = .ok (.val (.lst ((List.range B).map fun b => .cel (m.length + b)))) { s with mem := m ++ blockCells order wide order.length B } := fun s hs => by
    refine callC_ok ?_
    rw [hs, hB]
    exact slots_by_block_ok hd hw hw2 (by omega) hb
  refine fsat_eq (phi_sat (Has.eq (f := P_spans_of)) (run_sat rfl ?_))
  rw [← hB] at hB2 ⊢
  obtain ⟨J, hJ⟩ : ∃ J : Nat → Sta → Prop, ∀ i s, J i s ↔ ∃ L : List (Int × Int), L = spans order wide most i ∧ s = ⟨[some (.val d), some (.val (.int wide)), some (.val (.int most)), some (.own (L.map spD)), none, none], m ++ blockCells order wide order.length B⟩ := ⟨_, fun _ _ => Iff.rfl⟩
  simp (disch := omega) [-getElem?_pos, List.getElem?_cons_zero, List.getElem?_cons_succ, ite_at, bin_powP, bin_modP, bin_fdivP, bin_mulB, bin_mulA, bin_mul1, rngC1_ok, rngC2_ok, rngE_ok, P_spans_of]
  rw [e2 _ rfl]
  simp (disch := omega) [-getElem?_pos, List.getElem?_cons_zero, List.getElem?_cons_succ, ite_at, bin_powP, bin_modP, bin_fdivP, bin_mulB, bin_mulA, bin_mul1, rngC1_ok, rngC2_ok, rngE_ok]
  refine sat_bnd (for_ix _ J ?_ ?_ ?_)
  · exact (hJ _ _).mpr ⟨[], rfl, rfl⟩
  · intro i x s hx hs
    obtain ⟨L, hL, rfl⟩ := (hJ _ _).mp hs
    obtain ⟨hi, rfl⟩ : i < B ∧ x = .cel (m.length + i) := by
      rw [List.getElem?_map] at hx
      obtain ⟨y, e1, e2⟩ := Option.map_eq_some_iff.mp hx
      have hi := (List.getElem?_eq_some_iff.mp e1).1
      rw [List.length_range] at hi
      rw [List.getElem?_range hi] at e1
      cases e1
      exact ⟨hi, e2.symm⟩
    obtain ⟨ss, hss⟩ : ∃ ss, ss = slotsTo order wide order.length i := ⟨_, rfl⟩
    have hsl : ss.length ≤ order.length := by rw [hss]; exact slotsTo_len
    have hLl : L.length ≤ 1001 * 1000 := by
      rw [hL]
      refine Nat.le_trans (spans_len i) (Nat.mul_le_mul (by omega) hl)
    have hmem : (m ++ blockCells order wide order.length B)[m.length + i]? = some (.lst (nats ss)) := by
      rw [List.getElem?_append_right (by omega), Nat.add_sub_cancel_left, blockCells_at hi, hss]
    have hN : ((ss.length : Int) - (most : Int)).toNat = ss.length - most := by omega
    have hlenc : lenD (m ++ blockCells order wide order.length B) (.cel (m.length + i)) = some ss.length := by
      show (match (m ++ blockCells order wide order.length B)[m.length + i]? with
        | some (.lst xs) => some xs.length
        | _ => none) = _
      rw [hmem]
      show some (nats ss).length = _
      rw [nats_len]
    simp (disch := omega) [-getElem?_pos, List.getElem?_cons_zero, List.getElem?_cons_succ, ite_at, bin_powP, bin_modP, bin_fdivP, bin_mulB, bin_mulA, bin_mul1, rngC1_ok, rngC2_ok, rngE_ok, hlenc, hN]
    obtain ⟨J2, hJ2⟩ : ∃ J : Nat → Sta → Prop, ∀ p s, J p s ↔ ∃ R : List (Int × Int), R = (List.range p).map (fun p => ((gn ss (p + most) : Int) - (gn ss p : Int), (gn ss p : Int))) ∧ s = ⟨[some (.val d), some (.val (.int wide)), some (.val (.int most)), some (.own ((L ++ R).map spD)), some (.val (.cel (m.length + i))), none], m ++ blockCells order wide order.length B⟩ := ⟨_, fun _ _ => Iff.rfl⟩
    repeat with_reducible refine sat_bnd ?_
    refine for_rng (ss.length - most) J2 ?_ ?_ ?_
    · exact (hJ2 _ _).mpr ⟨[], rfl, by simp⟩
    · intro p s hp hs
      obtain ⟨R, hR, rfl⟩ := (hJ2 _ _).mp hs
      have hRl : R.length = p := by rw [hR]; simp
      have a1 : L2.atI (nats ss) (p : Int) = some (.int (gn ss p : Nat)) := by
        rw [atI_nat]
        have : p < ss.length := by omega
        simp [nats, gn, this]
      have a2 : L2.atI (nats ss) ((p : Int) + (most : Int)) = some (.int (gn ss (p + most) : Nat)) := by
        rw [show (p : Int) + (most : Int) = ((p + most : Nat) : Int) by omega, atI_nat]
        have : p + most < ss.length := by omega
        simp [nats, gn, this]
      have hap : omD .append ((L ++ R).map spD) [spD ((gn ss (p + most) : Int) - (gn ss p : Int), (gn ss p : Int))] = some (.non, ((L ++ R).map spD) ++ [spD ((gn ss (p + most) : Int) - (gn ss p : Int), (gn ss p : Int))]) := om_app (by simp; omega)
      obtain ⟨LR, hLR⟩ : ∃ LR, LR = (L ++ R).map spD := ⟨_, rfl⟩
      unfold spD at hap
      rw [show (L ++ R).map spD = LR from hLR.symm]
      have hap : omD .append LR [.tup [.int ((gn ss (p + most) : Int) - (gn ss p : Int)), .int (gn ss p : Int)]] = some (.non, LR ++ [.tup [.int ((gn ss (p + most) : Int) - (gn ss p : Int)), .int (gn ss p : Int)]]) := om_app (by rw [hLR]; simp; omega)
      simp (disch := omega) [-getElem?_pos, List.getElem?_cons_zero, List.getElem?_cons_succ, ite_at, bin_powP, bin_modP, bin_fdivP, bin_mulB, bin_mulA, bin_mul1, rngC1_ok, rngC2_ok, rngE_ok, hmem, a1, a2, hap]
      refine (hJ2 _ _).mpr ⟨R ++ [((gn ss (p + most) : Int) - (gn ss p : Int), (gn ss p : Int))], ?_, ?_⟩
      · rw [List.range_succ, hR]; simp
      · rw [hLR]; simp [spD]
    · intro s hs
      obtain ⟨R, hR, rfl⟩ := (hJ2 _ _).mp hs
      simp (disch := omega) [-getElem?_pos, List.getElem?_cons_zero, List.getElem?_cons_succ, ite_at, bin_powP, bin_modP, bin_fdivP, bin_mulB, bin_mulA, bin_mul1, rngC1_ok, rngC2_ok, rngE_ok]
      refine (hJ _ _).mpr ⟨L ++ R, ?_, by simp⟩
      unfold spans at *
      rw [List.range_succ, List.flatMap_append, ← hL, hR]
      simp [spansB, hss]
  · intro s hs
    obtain ⟨L, hL, rfl⟩ := (hJ _ _).mp hs
    have hlen : ((List.range B).map fun b => D.cel (m.length + b)).length = B := by simp
    rw [hlen] at hL
    have ht : trimR true m.length (.own (L.map spD)) (m ++ blockCells order wide order.length B) = m := trimR_app (by rw [d_own, pure_lst]; exact pures_map (fun x => by simp [spD]) _) hp
    subst hL
    simp (disch := omega) [-getElem?_pos, List.getElem?_cons_zero, List.getElem?_cons_succ, ite_at, bin_powP, bin_modP, bin_fdivP, bin_mulB, bin_mulA, bin_mul1, rngC1_ok, rngC2_ok, rngE_ok, P_spans_of, ht]
end
def lrunZ (order : List Nat) (wide most : Nat) : Int := minI ((order.length : Int) :: (spans order wide most (blocksN order.length wide)).map (·.1))
section
variable {T : Tab} [Has T 58 P_blocks_of] [Has T 59 P_slots_by_block] [Has T 60 P_spans_of] [Has T 75 P_longest_run]
theorem longest_run_ok {k wide most : Nat} {d : D} {order : List Nat} {m : List Cell} (hp : m.all Cell.pure = true) (hd : d = .lst (nats order) ∨ d = .tup (nats order)) (hw : 0 < wide) (hw2 : wide < 1000000) (hl : order.length ≤ 1000) (hb : ∀ x ∈ order, x < order.length) (hm : most ≤ 1000000) :
    Phi T (k + 4) 75 [d, .int wide, .int most] m = .ok (.val (.int (lrunZ order wide most))) m := by
  have hB2 := blocks_le (many := order.length) hw
  obtain ⟨B, hB⟩ : ∃ B, B = blocksN order.length wide := ⟨_, rfl⟩
  have e1 : ∀ m, lenD m d = some order.length := fun m => by rcases hd with rfl | rfl <;> simp [nats_len]
  obtain ⟨L, hL⟩ : ∃ L, L = spans order wide most B := ⟨_, rfl⟩
  have hLl : L.length ≤ 1001 * 1000 := by
    rw [hL]
    exact Nat.le_trans (spans_len B) (Nat.mul_le_mul (by omega) hl)
  have e2 : ∀ s : Sta, s.mem = m → callC (Phi T (k + 3)) 60 [d, .int wide, .int most] s = .ok (.own (L.map spD)) s := fun s hs => by
    obtain ⟨e, m'⟩ := s
    cases hs
    refine callC_ok ?_
    rw [hL, hB]
    exact spans_of_ok hp hd hw hw2 hl hb hm
  have hr : lrunZ order wide most = minI ((order.length : Int) :: L.map (·.1)) := by unfold lrunZ; rw [hL, hB]
  rw [hr]
  refine fsat_eq (phi_sat (Has.eq (f := P_longest_run)) (run_sat rfl ?_))
  simp (disch := omega) [-getElem?_pos, List.getElem?_cons_zero, List.getElem?_cons_succ, ite_at, bin_powP, bin_modP, bin_fdivP, bin_mulB, bin_mulA, bin_mul1, rngC1_ok, rngC2_ok, rngE_ok, P_longest_run, e1]
  rw [e2 _ rfl]
  simp (disch := omega) [-getElem?_pos, List.getElem?_cons_zero, List.getElem?_cons_succ, ite_at, bin_powP, bin_modP, bin_fdivP, bin_mulB, bin_mulA, bin_mul1, rngC1_ok, rngC2_ok, rngE_ok]
  have ec : ∀ (e : List (Option EV)) (m : List Cell), e = [some (.val d), some (.val (.int wide)), some (.val (.int most)), none, none] → compC (asgG (Phi T (k + 3)) (.tp [.nm 3, .nm 4])) [3, 4] (tsts (Phi T (k + 3)) []) (ev (Phi T (k + 3)) (.var 3)) (L.map spD) ⟨e, m⟩ = .ok (.own ((L.map (·.1)).map .int)) ⟨e, m⟩ := by
    rintro e m rfl
    rw [List.map_map]
    refine comp_map (fun (p : Int × Int) => D.int p.1) L (by omega) rfl fun p hp => ?_
    unfold spD
    simp (disch := omega) [-getElem?_pos, List.getElem?_cons_zero, List.getElem?_cons_succ, ite_at, bin_powP, bin_modP, bin_fdivP, bin_mulB, bin_mulA, bin_mul1, rngC1_ok, rngC2_ok, rngE_ok]
  rw [ec _ _ rfl]
  obtain ⟨F, hF⟩ : ∃ F, F = L.map (·.1) := ⟨_, rfl⟩
  have hFl : F.length ≤ 1001 * 1000 := by rw [hF, List.length_map]; exact hLl
  rw [← hF]
  have e3 : binD .add (.lst [.int (order.length : Int)]) (.lst (F.map .int)) = some (.own (((order.length : Int) :: F).map .int)) := by
    rw [bin_addL, if_pos]
    · rfl
    · rw [List.length_map]
      exact lim_le (by simp; omega)
  have e4 : ∀ m, biD m .min [.lst (((order.length : Int) :: F).map .int)] = some (.val (.int (minI ((order.length : Int) :: F)))) := fun m => min_ints (by simp) rfl
  obtain ⟨G, hG⟩ : ∃ G, G = ((order.length : Int) :: F) := ⟨_, rfl⟩
  rw [← hG] at e3 e4 ⊢
  simp (disch := omega) [-getElem?_pos, List.getElem?_cons_zero, List.getElem?_cons_succ, ite_at, bin_powP, bin_modP, bin_fdivP, bin_mulB, bin_mulA, bin_mul1, rngC1_ok, rngC2_ok, rngE_ok, e3, e4]
end
theorem lrun_le {order : List Nat} {wide most : Nat} : lrunZ order wide most ≤ order.length := minI_le (by simp)
theorem lrun_span {order : List Nat} {wide most b p : Nat} (hb : b < blocksN order.length wide) (hp : p + most < (slotsTo order wide order.length b).length) :
    lrunZ order wide most ≤ (gn (slotsTo order wide order.length b) (p + most) : Int) - (gn (slotsTo order wide order.length b) p : Int) := by
  refine minI_le (List.mem_cons_of_mem _ (List.mem_map.mpr ⟨((gn (slotsTo order wide order.length b) (p + most) : Int) - (gn (slotsTo order wide order.length b) p : Int), (gn (slotsTo order wide order.length b) p : Int)), ?_, rfl⟩))
  · unfold spans
    exact List.mem_flatMap.mpr ⟨b, List.mem_range.mpr hb, List.mem_map.mpr ⟨p, List.mem_range.mpr (by omega), rfl⟩⟩
theorem lrun_at {order : List Nat} {wide most : Nat} : lrunZ order wide most = order.length ∨ ∃ b p, b < blocksN order.length wide ∧ p + most < (slotsTo order wide order.length b).length ∧
    lrunZ order wide most = (gn (slotsTo order wide order.length b) (p + most) : Int) - (gn (slotsTo order wide order.length b) p : Int) := by
  have := minI_mem (ns := (order.length : Int) :: (spans order wide most (blocksN order.length wide)).map (·.1)) (by simp)
  rcases List.mem_cons.mp this with h | h
  · exact .inl h
  · obtain ⟨q, hq, e⟩ := List.mem_map.mp h
    unfold spans at hq
    obtain ⟨b, hb, hq⟩ := List.mem_flatMap.mp hq
    obtain ⟨p, hp, rfl⟩ := List.mem_map.mp hq
    exact .inr ⟨b, p, List.mem_range.mp hb, by have := List.mem_range.mp hp; omega, e.symm⟩
/-- every slot before L is in one block -/
theorem count_sum (f : Nat → Nat) (B : Nat) : ∀ L, (∀ s, s < L → f s < B) → ((List.range B).map fun b => ((List.range L).filter fun s => decide (f s = b)).length).sum = L
  | 0, _ => by
    have : ∀ B : Nat, ((List.range B).map fun b => ((List.range 0).filter fun s => decide (f s = b)).length).sum = 0 := by
      intro B
      induction B with
      | zero => rfl
      | succ B ih => rw [List.range_succ, List.map_append, List.sum_append, ih]; simp
    exact this B
  | L + 1, h => by
    have ih := count_sum f B L fun s hs => h s (by omega)
    have hL := h L (by omega)
    have key : ∀ B', ((List.range B').map fun b => ((List.range (L + 1)).filter fun s => decide (f s = b)).length).sum = ((List.range B').map fun b => ((List.range L).filter fun s => decide (f s = b)).length).sum + if f L < B' then 1 else 0 := by
      intro B'
      induction B' with
      | zero => simp
      | succ B' ih2 =>
        rw [List.range_succ (n := B'), List.map_append, List.sum_append, ih2, List.map_append, List.sum_append]
        have : ((List.range (L + 1)).filter fun s => decide (f s = B')).length = ((List.range L).filter fun s => decide (f s = B')).length + if f L = B' then 1 else 0 := by
          rw [List.range_succ, List.filter_append, List.length_append, List.filter_cons]
          by_cases e : f L = B' <;> simp [e]
        simp only [List.map_cons, List.map_nil, List.sum_cons, List.sum_nil, this]
        split <;> split <;> split <;> omega
    rw [key, ih, if_pos hL]
theorem sum_le (g : Nat → Nat) (M : Nat) : ∀ B, (∀ b, b < B → g b ≤ M) → ((List.range B).map g).sum ≤ M * B
  | 0, _ => by simp
  | B + 1, h => by
    have ih := sum_le g M B fun b hb => h b (by omega)
    have := h B (by omega)
    rw [List.range_succ, List.map_append, List.sum_append, Nat.mul_succ]
    simp
    omega
theorem slotsTo_app {order : List Nat} {wide L n b : Nat} (h : L ≤ n) : ∃ r, slotsTo order wide n b = slotsTo order wide L b ++ r := by
  unfold slotsTo
  obtain ⟨c, rfl⟩ : ∃ c, n = L + c := ⟨n - L, by omega⟩
  rw [List.range_add, List.filter_append]
  exact ⟨_, rfl⟩
theorem slotsTo_mem {order : List Nat} {wide L b s : Nat} (h : s ∈ slotsTo order wide L b) : s < L := by
  unfold slotsTo at h
  exact List.mem_range.mp (List.mem_filter.mp h).1
/-- in a run there are no more than most bits of any block -/
theorem lrun_few {order : List Nat} {wide most b L : Nat} (hb : b < blocksN order.length wide) (hL : (L : Int) ≤ lrunZ order wide most) : (slotsTo order wide L b).length ≤ most := by
  apply Classical.byContradiction
  intro h
  have hLn : L ≤ order.length := by have := lrun_le (order := order) (wide := wide) (most := most); omega
  obtain ⟨r, hr⟩ := slotsTo_app (order := order) (wide := wide) (b := b) hLn
  have h1 : most < (slotsTo order wide L b).length := by omega
  have h2 : gn (slotsTo order wide order.length b) most = (slotsTo order wide L b)[most] := by
    unfold gn
    rw [hr, List.getElem?_append_left h1]
    simp [h1]
  have h3 := slotsTo_mem (List.getElem_mem h1)
  have h4 := lrun_span (order := order) (wide := wide) (most := most) (b := b) (p := 0) hb (by rw [hr, List.length_append]; omega)
  rw [Nat.zero_add, h2] at h4
  omega
theorem lrun_pig {order : List Nat} {wide most : Nat} (hw : 0 < wide) (hb : ∀ x ∈ order, x < order.length) : lrunZ order wide most ≤ ((most * blocksN order.length wide : Nat) : Int) := by
  by_cases hn : lrunZ order wide most ≤ 0
  · omega
  · obtain ⟨L, hL⟩ : ∃ L : Nat, lrunZ order wide most = L := ⟨(lrunZ order wide most).toNat, by omega⟩
    have hLn : L ≤ order.length := by have := lrun_le (order := order) (wide := wide) (most := most); omega
    have h1 := count_sum (fun s => (order[s]?.getD 0) / wide) (blocksN order.length wide) L fun s hs => by
      refine block_lt hw ?_
      have : s < order.length := by omega
      have := hb _ (List.getElem_mem this)
      simpa [show s < order.length by omega] using this
    have h2 := sum_le (fun b => (slotsTo order wide L b).length) most (blocksN order.length wide) fun b hb => lrun_few hb (by omega)
    have h3 : ((List.range (blocksN order.length wide)).map fun b => (slotsTo order wide L b).length).sum = L := h1
    rw [h3] at h2
    omega
end Dm

set_option Elab.async false
set_option linter.all false
set_option maxRecDepth 100000
set_option maxHeartbeats 0
set_option autoImplicit false
/-! LSQ1: squares. -/
namespace Dm
open PySem
/-- how many numbers below many are c, c + wide, .. -/
def colN (many wide c : Nat) : Nat := (many - c + wide - 1) / wide
def colL (many wide c : Nat) : List Nat := (List.range (colN many wide c)).map fun r => c + r * wide
def sqL (many wide : Nat) : List Nat := (List.range (min many wide)).flatMap (colL many wide)
theorem colN_eq {q r wide c : Nat} (hr : r < wide) (hc : c < wide) : colN (q * wide + r) wide c = q + if c < r then 1 else 0 := by
  unfold colN
  by_cases h : c < r
  · rw [if_pos h, show q * wide + r - c + wide - 1 = (r - c - 1) + (q + 1) * wide by rw [Nat.add_mul]; omega, Nat.add_mul_div_right _ _ (by omega), Nat.div_eq_of_lt (by omega)]
    omega
  · rw [if_neg h]
    cases q with
    | zero =>
      rw [show 0 * wide + r - c + wide - 1 = wide - 1 by omega]
      rw [Nat.div_eq_of_lt (by omega)]
    | succ q =>
      rw [show (q + 1) * wide + r - c + wide - 1 = (r + wide - c - 1) + (q + 1) * wide by rw [Nat.add_mul]; omega, Nat.add_mul_div_right _ _ (by omega), Nat.div_eq_of_lt (by omega)]
      omega
theorem colL_lt {many wide c x : Nat} (hw : 0 < wide) (hc : c < wide) (h : x ∈ colL many wide c) : x < many := by
  unfold colL at h
  obtain ⟨r, hr, rfl⟩ := List.mem_map.mp h
  have hr := List.mem_range.mp hr
  have hm := Nat.div_add_mod many wide
  rw [Nat.mul_comm] at hm
  rw [← hm, colN_eq (Nat.mod_lt _ hw) hc] at hr
  have h2 : r * wide ≤ (many / wide) * wide := Nat.mul_le_mul_right _ (by split at hr <;> omega)
  by_cases hlt : r < many / wide
  · have : (r + 1) * wide ≤ (many / wide) * wide := Nat.mul_le_mul_right _ hlt
    rw [Nat.add_mul] at this
    omega
  · have : r = many / wide := by split at hr <;> omega
    subst this
    split at hr <;> omega
theorem sqL_lt {many wide x : Nat} (hw : 0 < wide) (h : x ∈ sqL many wide) : x < many := by
  unfold sqL at h
  obtain ⟨c, hc, hx⟩ := List.mem_flatMap.mp h
  have hc := List.mem_range.mp hc
  exact colL_lt hw (by omega) hx
theorem sqL_len {many wide : Nat} (hw : 0 < wide) : (sqL many wide).length = many := by
  have hm := Nat.div_add_mod many wide
  rw [Nat.mul_comm] at hm
  have hr := Nat.mod_lt many hw
  obtain ⟨q, hq⟩ : ∃ q, q = many / wide := ⟨_, rfl⟩
  obtain ⟨r, hr2⟩ : ∃ r, r = many % wide := ⟨_, rfl⟩
  rw [← hq, ← hr2] at hm
  rw [← hr2] at hr
  have key : ∀ B, B ≤ wide → ((List.range B).flatMap (colL many wide)).length = q * B + min B r := by
    intro B
    induction B with
    | zero => intro _; simp
    | succ B ih =>
      intro hB
      have e : [B].flatMap (colL many wide) = colL many wide B := by simp
      rw [List.range_succ, List.flatMap_append, List.length_append, ih (by omega), e]
      have : (colL many wide B).length = q + if B < r then 1 else 0 := by
        unfold colL
        rw [List.length_map, List.length_range, ← hm, colN_eq hr (by omega)]
      rw [this, Nat.mul_succ]
      split <;> omega
  unfold sqL
  by_cases h : many < wide
  · rw [Nat.min_eq_left (by omega), key many (by omega)]
    have hq0 : q = 0 := by rw [hq]; exact Nat.div_eq_of_lt h
    subst hq0
    omega
  · rw [Nat.min_eq_right (by omega), key wide (by omega)]
    omega
theorem rangeC_mapQ : ∀ (n : Nat) (lo c : Int), rangeC lo c n = (List.range n).map fun (j : Nat) => D.int (lo + (j : Int) * c)
  | 0, _, _ => rfl
  | n + 1, lo, c => by
    rw [List.range_succ_eq_map, List.map_cons, List.map_map]
    show D.int lo :: rangeC (lo + c) c n = _
    rw [rangeC_mapQ n (lo + c) c]
    congr 1
    · congr 1; simp
    · refine List.map_congr_left fun j _ => ?_
      show D.int _ = D.int _
      congr 1
      simp only [Nat.succ_eq_add_one]
      rw [Int.natCast_add, Int.add_mul]
      omega
theorem size_col {many wide c : Nat} (hw : 0 < wide) (hc : c < many) : Builtin.Range.rangeSize (c : Int) (many : Int) (wide : Int) = ((colN many wide c : Nat) : Int) := by
  unfold Builtin.Range.rangeSize colN
  rw [if_pos (by omega), if_pos (by omega)]
  have h1 : (many - c + wide - 1) / wide = (many - c - 1) / wide + 1 := by
    rw [show many - c + wide - 1 = (many - c - 1) + wide by omega, Nat.add_div_right _ hw]
  rw [h1]
  have h2 : ((many : Int) - (c : Int) - 1) = ((many - c - 1 : Nat) : Int) := by omega
  rw [h2, Int.natCast_add, Int.natCast_ediv]
  rfl
theorem fits_long {i : Int} (h : 0 ≤ i) (h2 : i ≤ 1000000) : Builtin.Range.rangeFitsLong i = true := by
  unfold Builtin.Range.rangeFitsLong
  simp
  omega
theorem colN_le {many wide c : Nat} (hw : 0 < wide) (hc : c < many) : colN many wide c ≤ many := by
  unfold colN
  refine Nat.div_le_of_le_mul ?_
  obtain ⟨w, rfl⟩ : ∃ w, wide = w + 1 := ⟨wide - 1, by omega⟩
  obtain ⟨n, rfl⟩ : ∃ n, many = n + 1 := ⟨many - 1, by omega⟩
  rw [Nat.add_mul, Nat.mul_succ]
  omega
theorem flatMap_len {f : Nat → List Nat} {M : Nat} : ∀ c, (∀ x, x < c → (f x).length ≤ M) → ((List.range c).flatMap f).length ≤ c * M
  | 0, _ => by simp
  | c + 1, h => by
    have ih := flatMap_len (f := f) (M := M) c fun x hx => h x (by omega)
    have := h c (by omega)
    have e : [c].flatMap f = f c := by simp
    rw [List.range_succ, List.flatMap_append, List.length_append, e, Nat.add_mul]
    omega
section
variable {T : Tab} [Has T 50 P_square_for]
theorem square_for_ok {k many wide : Nat} {m : List Cell} (hw : 0 < wide) (hm : many ≤ 1000) (hw2 : wide ≤ 1000) : Phi T (k + 1) 50 [.int many, .int wide] m = .ok (.val (.tup (nats (sqL many wide)))) m := by
  refine fsat_eq (phi_sat (Has.eq (f := P_square_for)) (run_sat rfl ?_))
  have hmin : (if (wide : Int) < (many : Int) then (wide : Int) else (many : Int)).toNat = min many wide := by split <;> omega
  obtain ⟨J, hJ⟩ : ∃ J : Nat → Sta → Prop, ∀ i s, J i s ↔ s = ⟨[some (.val (.int many)), some (.val (.int wide)), some (.own (nats ((List.range i).flatMap (colL many wide)))), none], m⟩ := ⟨_, fun _ _ => Iff.rfl⟩
  simp (disch := omega) [-getElem?_pos, List.getElem?_cons_zero, List.getElem?_cons_succ, ite_at, bin_powP, bin_modP, bin_fdivP, bin_mulB, bin_mulA, bin_mul1, rngC1_ok, rngC2_ok, rngE_ok, P_square_for]
  rw [show (if wide < many then (wide : Int) else (many : Int)).toNat = min many wide by split <;> omega]
  refine sat_bnd (for_rng (min many wide) J ?_ ?_ ?_)
  · exact (hJ _ _).mpr rfl
  · intro c s hc hs
    obtain rfl := (hJ _ _).mp hs
    have hr : ∀ s, rngC3 (.val (.int (c : Int))) (.val (.int (many : Int))) (.val (.int (wide : Int))) s = .ok (nats (colL many wide c)) s := by
      intro s
      unfold rngC3
      have hcond : (wide : Int) ≠ 0 ∧ (wide : Int).natAbs < 1073741824 ∧ Builtin.Range.small (c : Int) (many : Int) (wide : Int) = true := ⟨by omega, by omega, by
        unfold Builtin.Range.small
        have hsz := size_col (many := many) (wide := wide) (c := c) hw (by omega)
        have hcl := colN_le (many := many) (wide := wide) (c := c) hw (by omega)
        simp only [hsz, fits_long (i := (c : Int)) (by omega) (by omega), fits_long (i := (many : Int)) (by omega) (by omega), fits_long (i := (wide : Int)) (by omega) (by omega), fits_long (i := ((colN many wide c : Nat) : Int)) (by omega) (by omega)]
        simp
        right
        rw [if_pos hw]
        exact fits_long (by omega) (by omega)⟩
      show ofO (if (wide : Int) ≠ 0 ∧ (wide : Int).natAbs < 1073741824 ∧ Builtin.Range.small (c : Int) (many : Int) (wide : Int) = true then some _ else none) s = _
      rw [if_pos hcond, size_col hw (by omega), Int.toNat_natCast, rangeC_mapQ]
      unfold nats colL
      rw [List.map_map]
      simp
    have hlen : (colL many wide c).length ≤ 1000 := by
      have h1 := colN_le (many := many) (wide := wide) (c := c) hw (by omega)
      unfold colL
      rw [List.length_map, List.length_range]
      omega
    obtain ⟨A, hA⟩ : ∃ A, A = (List.range c).flatMap (colL many wide) := ⟨_, rfl⟩
    obtain ⟨Bc, hBc⟩ : ∃ Bc, Bc = colL many wide c := ⟨_, rfl⟩
    have hAl : A.length ≤ 1000 * 1000 := by
      rw [hA]
      refine Nat.le_trans (flatMap_len (M := 1000) c fun x hx => ?_) (Nat.mul_le_mul (by omega) (Nat.le_refl _))
      have h1 := colN_le (many := many) (wide := wide) (c := x) hw (by omega)
      unfold colL
      rw [List.length_map, List.length_range]
      omega
    rw [← hA]
    rw [← hBc] at hr hlen
    have e1 : omD .extend (nats A) [.lst (nats Bc)] = some (.non, nats A ++ nats Bc) := om_ext (by rw [nats_len, nats_len]; omega)
    have e2 : ∀ s, rngE false (nats Bc) s = .ok (.own (nats Bc)) s := fun s => by rw [rngE_ok (by rw [nats_len]; omega)]; rfl
    simp (disch := omega) [-getElem?_pos, List.getElem?_cons_zero, List.getElem?_cons_succ, ite_at, bin_powP, bin_modP, bin_fdivP, bin_mulB, bin_mulA, bin_mul1, rngC1_ok, rngC2_ok, rngE_ok, hr, e2, e1]
    refine (hJ _ _).mpr ?_
    rw [List.range_succ, List.flatMap_append, ← hA]
    have e3 : [c].flatMap (colL many wide) = Bc := by rw [hBc]; simp
    rw [e3]
    simp [nats]
  · intro s hs
    obtain rfl := (hJ _ _).mp hs
    simp (disch := omega) [-getElem?_pos, List.getElem?_cons_zero, List.getElem?_cons_succ, ite_at, bin_powP, bin_modP, bin_fdivP, bin_mulB, bin_mulA, bin_mul1, rngC1_ok, rngC2_ok, rngE_ok, P_square_for]
    rfl
end
end Dm

set_option Elab.async false
set_option linter.all false
set_option maxRecDepth 100000
set_option maxHeartbeats 0
set_option autoImplicit false
/-! LSQ2: whole squares. -/
namespace Dm
open PySem
theorem colN_sq {h w c : Nat} (hw : 0 < w) (hc : c < w) : colN (h * w) w c = h := by
  have := colN_eq (q := h) (r := 0) (wide := w) (c := c) hw hc
  rw [Nat.add_zero] at this
  rw [this, if_neg (by omega)]
  rfl
theorem sq_eq {h w : Nat} (hh : 0 < h) (hw : 0 < w) : sqL (h * w) w = (List.range w).flatMap fun c => (List.range h).map fun r => c + r * w := by
  unfold sqL
  rw [Nat.min_eq_right (Nat.le_mul_of_pos_left _ hh)]
  unfold colL
  have : ∀ n, n ≤ w → (List.range n).flatMap (fun c => (List.range (colN (h * w) w c)).map fun r => c + r * w) = (List.range n).flatMap fun c => (List.range h).map fun r => c + r * w := by
    intro n
    induction n with
    | zero => intro _; rfl
    | succ n ih =>
      intro hn
      rw [List.range_succ, List.flatMap_append, List.flatMap_append, ih (by omega)]
      congr 1
      simp [colN_sq hw (show n < w by omega)]
  exact this w (Nat.le_refl _)
theorem flat_at {f : Nat → Nat → Nat} {h : Nat} : ∀ (n c r : Nat), c < n → r < h → ((List.range n).flatMap fun c => (List.range h).map (f c))[c * h + r]? = some (f c r)
  | 0, c, r, hc, _ => by omega
  | n + 1, c, r, hc, hr => by
    have hlen : ∀ n, ((List.range n).flatMap fun c => (List.range h).map (f c)).length = n * h := by
      intro n
      induction n with
      | zero => simp
      | succ n ih =>
        have e : [n].flatMap (fun c => (List.range h).map (f c)) = (List.range h).map (f n) := by simp
        rw [List.range_succ, List.flatMap_append, List.length_append, ih, e, Nat.add_mul]
        simp
    have e : [n].flatMap (fun c => (List.range h).map (f c)) = (List.range h).map (f n) := by simp
    rw [List.range_succ, List.flatMap_append, e]
    by_cases hcn : c < n
    · have h1 : (c + 1) * h ≤ n * h := Nat.mul_le_mul_right _ hcn
      rw [Nat.add_mul] at h1
      rw [List.getElem?_append_left (by rw [hlen]; omega)]
      exact flat_at n c r hcn hr
    · have : c = n := by omega
      subst this
      rw [List.getElem?_append_right (by rw [hlen]; omega), hlen, show c * h + r - c * h = r by omega]
      simp [hr]
theorem sq_at {h w c r : Nat} (hc : c < w) (hr : r < h) : (sqL (h * w) w)[c * h + r]?.getD 0 = c + r * w := by
  rw [sq_eq (by omega) (by omega), flat_at w c r hc hr]
  rfl
theorem filter_mod {h b : Nat} (hb : b < h) : ∀ w, (List.range (w * h)).filter (fun s => decide (s % h = b)) = (List.range w).map fun c => c * h + b
  | 0 => by simp
  | w + 1 => by
    rw [Nat.add_mul, Nat.one_mul, List.range_add, List.filter_append, filter_mod hb w, List.range_succ, List.map_append, List.filter_map]
    congr 1
    have : (List.range h).filter ((fun s => decide (s % h = b)) ∘ fun x => w * h + x) = [b] := by
      rw [filter_range (lo := b) (hi := b + 1) (by omega)]
      · simp
      · intro p hp
        show decide ((w * h + p) % h = b) = _
        congr 1
        rw [Nat.mul_comm, Nat.mul_add_mod, Nat.mod_eq_of_lt hp]
        simp only [eq_iff_iff]
        omega
    rw [this]
    rfl
theorem sq_slots {h w b : Nat} (hw : 0 < w) (hb : b < h) : slotsTo (sqL (h * w) w) w (sqL (h * w) w).length b = (List.range w).map fun c => c * h + b := by
  rw [sqL_len hw, Nat.mul_comm h w, ← filter_mod hb w]
  unfold slotsTo
  refine List.filter_congr fun s hs => ?_
  have hs := List.mem_range.mp hs
  have h1 := Nat.div_add_mod s h
  have hr := Nat.mod_lt s (show 0 < h by omega)
  have hc : s / h < w := Nat.div_lt_of_lt_mul (by rw [Nat.mul_comm]; exact hs)
  have h2 := sq_at (w := w) hc hr
  rw [Nat.mul_comm (s / h) h, h1, Nat.mul_comm h w] at h2
  rw [h2]
  congr 1
  have : (s / h + s % h * w) / w = s % h := by
    rw [Nat.add_mul_div_right _ _ hw, Nat.div_eq_of_lt hc, Nat.zero_add]
  rw [this]
theorem blocks_sq {h w : Nat} (hw : 0 < w) : blocksN (h * w) w = h := by
  unfold blocksN
  rw [show h * w + w - 1 = (w - 1) + h * w by omega, Nat.add_mul_div_right _ _ hw, Nat.div_eq_of_lt (by omega), Nat.zero_add]
theorem lrun_sq {h w most : Nat} (hh : 0 < h) (hw : 0 < w) : lrunZ (sqL (h * w) w) w most = ((min (h * w) (most * h) : Nat) : Int) := by
  have hlen := sqL_len (many := h * w) hw
  have h1 := lrun_le (order := sqL (h * w) w) (wide := w) (most := most)
  have h2 := lrun_pig (order := sqL (h * w) w) (wide := w) (most := most) hw fun x hx => by rw [hlen]; exact sqL_lt hw hx
  rw [hlen, blocks_sq hw] at h2
  rw [hlen] at h1
  rcases lrun_at (order := sqL (h * w) w) (wide := w) (most := most) with e | ⟨b, p, hb, hp, e⟩
  · rw [hlen] at e
    omega
  · rw [hlen, blocks_sq hw] at hb
    rw [sq_slots hw hb] at e hp
    rw [List.length_map, List.length_range] at hp
    have g1 : ∀ q, q < w → gn ((List.range w).map fun c => c * h + b) q = q * h + b := fun q hq => by simp [gn, hq]
    rw [g1 _ hp, g1 _ (by omega), Nat.add_mul] at e
    omega
theorem lrun_ord {order : List Nat} {w most : Nat} (hw : 0 < w) (hb : ∀ x ∈ order, x < order.length) : lrunZ order w most ≤ ((min order.length (most * blocksN order.length w) : Nat) : Int) := by
  have h1 := lrun_le (order := order) (wide := w) (most := most)
  have h2 := lrun_pig (order := order) (wide := w) (most := most) hw hb
  omega
section
variable {T : Tab} [Has T 50 P_square_for] [Has T 51 P_square_order]
theorem square_order_ok {k h w : Nat} {m : List Cell} (hw : 0 < w) (hm : h * w ≤ 1000) (hw2 : w ≤ 1000) (hh : h ≤ 1000) : Phi T (k + 2) 51 [.int h, .int w] m = .ok (.val (.tup (nats (sqL (h * w) w)))) m := by
  rw [phi_eq (Has.eq (f := P_square_order)) rfl]
  have c1 : (h : Int) * (w : Int) = ((h * w : Nat) : Int) := by push_cast; rfl
  have e1 : ∀ s, callC (Phi T (k + 1)) 50 [.int ((h : Int) * (w : Int)), .int w] s = .ok (.val (.tup (nats (sqL (h * w) w)))) s := fun s => callC_pure fun m => by
    rw [c1]
    exact square_for_ok hw hm hw2
  simp (disch := omega) [-getElem?_pos, List.getElem?_cons_zero, List.getElem?_cons_succ, ite_at, bin_powP, bin_modP, bin_fdivP, bin_mulB, bin_mulA, bin_mul1, rngC1_ok, rngC2_ok, rngE_ok, P_square_order, e1]
end
/-- how far ahead, how far behind -/
def earlyZ (order : List Nat) : Int := maxI (order.zipIdx.map fun x => (x.1 : Int) - (x.2 : Int))
def lateZ (order : List Nat) : Int := maxI (order.zipIdx.map fun x => (x.2 : Int) - (x.1 : Int))
theorem maxd_ints {m : List Cell} {ns : List Int} : biD m (.maxd (.int 0)) [.lst (ns.map .int)] = some (.val (.int (maxI ns))) := by
  have e : biD m (.maxd (.int 0)) [.lst (ns.map .int)] = (D.lst (ns.map .int)).items.bind fun xs => (mmD true (some (Cn.int 0).d) xs).map EV.val := by simp only [biD]
  rw [e]
  show (mmD true (some (Cn.int 0).d) (ns.map .int)).map EV.val = _
  unfold mmD
  rw [intsL_map]
  cases ns with
  | nil => rfl
  | cons a r => rfl
section
variable {T : Tab} [Has T 84 P_early] [Has T 85 P_late] [Has T 86 P_delay_of]
theorem early_ok {k : Nat} {d : D} {order : List Nat} {m : List Cell} (hd : d = .lst (nats order) ∨ d = .tup (nats order)) (hl : order.length ≤ 100000) : Phi T (k + 1) 84 [d] m = .ok (.val (.int (earlyZ order))) m := by
  rw [phi_eq (Has.eq (f := P_early)) rfl]
  have e3 : d.items = some (nats order) := by rcases hd with rfl | rfl <;> rfl
  have e4 : enumD 0 (nats order) = order.zipIdx.map fun x => .tup [.int x.2, .int (x.1 : Nat)] := by unfold nats; rw [enumD_map]
  simp (disch := omega) [-getElem?_pos, List.getElem?_cons_zero, List.getElem?_cons_succ, ite_at, bin_powP, bin_modP, bin_fdivP, bin_mulB, bin_mulA, bin_mul1, rngC1_ok, rngC2_ok, rngE_ok, P_early, e3, e4]
  have ec : ∀ (e : List (Option EV)) (m : List Cell), e = [some (.val d), none, none] → compC (asgG (Phi T k) (.tp [.nm 1, .nm 2])) [1, 2] (tsts (Phi T k) []) (ev (Phi T k) (.bin .sub (.var 2) (.var 1))) (order.zipIdx.map fun x => .tup [.int x.2, .int (x.1 : Nat)]) ⟨e, m⟩ = .ok (.own ((order.zipIdx.map fun x => (x.1 : Int) - (x.2 : Int)).map .int)) ⟨e, m⟩ := by
    rintro e m rfl
    rw [List.map_map]
    refine comp_map (fun (x : Nat × Nat) => D.int ((x.1 : Int) - (x.2 : Int))) order.zipIdx (by simp; omega) rfl fun x hx => ?_
    simp (disch := omega) [-getElem?_pos, List.getElem?_cons_zero, List.getElem?_cons_succ, ite_at, bin_powP, bin_modP, bin_fdivP, bin_mulB, bin_mulA, bin_mul1, rngC1_ok, rngC2_ok, rngE_ok]
  rw [ec _ _ rfl]
  obtain ⟨F, hF⟩ : ∃ F, F = order.zipIdx.map fun x => (x.1 : Int) - (x.2 : Int) := ⟨_, rfl⟩
  unfold earlyZ
  rw [← hF]
  have e5 : ∀ m, biD m (.maxd (.int 0)) [.lst (F.map .int)] = some (.val (.int (maxI F))) := fun m => maxd_ints
  simp (disch := omega) [-getElem?_pos, List.getElem?_cons_zero, List.getElem?_cons_succ, ite_at, bin_powP, bin_modP, bin_fdivP, bin_mulB, bin_mulA, bin_mul1, rngC1_ok, rngC2_ok, rngE_ok, e5]
theorem late_ok {k : Nat} {d : D} {order : List Nat} {m : List Cell} (hd : d = .lst (nats order) ∨ d = .tup (nats order)) (hl : order.length ≤ 100000) : Phi T (k + 1) 85 [d] m = .ok (.val (.int (lateZ order))) m := by
  rw [phi_eq (Has.eq (f := P_late)) rfl]
  have e3 : d.items = some (nats order) := by rcases hd with rfl | rfl <;> rfl
  have e4 : enumD 0 (nats order) = order.zipIdx.map fun x => .tup [.int x.2, .int (x.1 : Nat)] := by unfold nats; rw [enumD_map]
  simp (disch := omega) [-getElem?_pos, List.getElem?_cons_zero, List.getElem?_cons_succ, ite_at, bin_powP, bin_modP, bin_fdivP, bin_mulB, bin_mulA, bin_mul1, rngC1_ok, rngC2_ok, rngE_ok, P_late, e3, e4]
  have ec : ∀ (e : List (Option EV)) (m : List Cell), e = [some (.val d), none, none] → compC (asgG (Phi T k) (.tp [.nm 1, .nm 2])) [1, 2] (tsts (Phi T k) []) (ev (Phi T k) (.bin .sub (.var 1) (.var 2))) (order.zipIdx.map fun x => .tup [.int x.2, .int (x.1 : Nat)]) ⟨e, m⟩ = .ok (.own ((order.zipIdx.map fun x => (x.2 : Int) - (x.1 : Int)).map .int)) ⟨e, m⟩ := by
    rintro e m rfl
    rw [List.map_map]
    refine comp_map (fun (x : Nat × Nat) => D.int ((x.2 : Int) - (x.1 : Int))) order.zipIdx (by simp; omega) rfl fun x hx => ?_
    simp (disch := omega) [-getElem?_pos, List.getElem?_cons_zero, List.getElem?_cons_succ, ite_at, bin_powP, bin_modP, bin_fdivP, bin_mulB, bin_mulA, bin_mul1, rngC1_ok, rngC2_ok, rngE_ok]
  rw [ec _ _ rfl]
  obtain ⟨F, hF⟩ : ∃ F, F = order.zipIdx.map fun x => (x.2 : Int) - (x.1 : Int) := ⟨_, rfl⟩
  unfold lateZ
  rw [← hF]
  have e5 : ∀ m, biD m (.maxd (.int 0)) [.lst (F.map .int)] = some (.val (.int (maxI F))) := fun m => maxd_ints
  simp (disch := omega) [-getElem?_pos, List.getElem?_cons_zero, List.getElem?_cons_succ, ite_at, bin_powP, bin_modP, bin_fdivP, bin_mulB, bin_mulA, bin_mul1, rngC1_ok, rngC2_ok, rngE_ok, e5]
theorem delay_of_ok {k : Nat} {d : D} {order : List Nat} {m : List Cell} (hd : d = .lst (nats order) ∨ d = .tup (nats order)) (hl : order.length ≤ 100000) : Phi T (k + 2) 86 [d] m = .ok (.val (.int (earlyZ order + lateZ order))) m := by
  rw [phi_eq (Has.eq (f := P_delay_of)) rfl]
  have e1 : ∀ s, callC (Phi T (k + 1)) 84 [d] s = .ok (.val (.int (earlyZ order))) s := fun s => callC_pure fun m => early_ok hd hl
  have e2 : ∀ s, callC (Phi T (k + 1)) 85 [d] s = .ok (.val (.int (lateZ order))) s := fun s => callC_pure fun m => late_ok hd hl
  simp (disch := omega) [-getElem?_pos, List.getElem?_cons_zero, List.getElem?_cons_succ, ite_at, bin_powP, bin_modP, bin_fdivP, bin_mulB, bin_mulA, bin_mul1, rngC1_ok, rngC2_ok, rngE_ok, P_delay_of, e1, e2]
end
theorem maxI_is {ns : List Int} {v : Int} (h : v ∈ ns) (h2 : ∀ x ∈ ns, x ≤ v) : maxI ns = v := by
  have h3 := maxI_ge h
  have h4 := h2 _ (maxI_mem (by intro e; rw [e] at h; cases h))
  omega
theorem sq_pairs {h w : Nat} (hh : 0 < h) (hw : 0 < w) (x : Nat × Nat) : x ∈ (sqL (h * w) w).zipIdx ↔ ∃ c r, c < w ∧ r < h ∧ x = (c + r * w, c * h + r) := by
  have hlen := sqL_len (many := h * w) hw
  constructor
  · intro hx
    obtain ⟨b, s⟩ := x
    have h1 := List.mem_zipIdx_iff_getElem?.mp hx
    have hs : s < h * w := by rw [← hlen]; exact (List.getElem?_eq_some_iff.mp h1).1
    have hc : s / h < w := Nat.div_lt_of_lt_mul hs
    have hr := Nat.mod_lt s hh
    refine ⟨s / h, s % h, hc, hr, ?_⟩
    have h2 := sq_at hc hr
    have h3 := Nat.div_add_mod s h
    rw [Nat.mul_comm (s / h) h, h3] at h2
    have h1' : (sqL (h * w) w)[s]? = some b := h1
    rw [h1'] at h2
    rw [Nat.mul_comm (s / h) h, h3, ← h2]
    rfl
  · rintro ⟨c, r, hc, hr, rfl⟩
    refine List.mem_zipIdx_iff_getElem?.mpr ?_
    show (sqL (h * w) w)[c * h + r]? = some (c + r * w)
    rw [sq_eq hh hw, flat_at w c r hc hr]
theorem early_sq {h w : Nat} (hh : 0 < h) (hw : 0 < w) : earlyZ (sqL (h * w) w) = (((h - 1) * (w - 1) : Nat) : Int) := by
  obtain ⟨h', rfl⟩ : ∃ a, h = a + 1 := ⟨h - 1, by omega⟩
  obtain ⟨w', rfl⟩ : ∃ a, w = a + 1 := ⟨w - 1, by omega⟩
  refine maxI_is ?_ ?_
  · refine List.mem_map.mpr ⟨_, (sq_pairs hh hw _).mpr ⟨0, h', by omega, by omega, rfl⟩, ?_⟩
    simp only [Nat.add_sub_cancel, Nat.mul_succ]
    omega
  · intro x hx
    obtain ⟨y, hy, rfl⟩ := List.mem_map.mp hx
    obtain ⟨c, r, hc, hr, rfl⟩ := (sq_pairs hh hw _).mp hy
    have h1 : r * w' ≤ h' * w' := Nat.mul_le_mul_right _ (by omega)
    simp only [Nat.add_sub_cancel, Nat.mul_succ]
    omega
theorem late_sq {h w : Nat} (hh : 0 < h) (hw : 0 < w) : lateZ (sqL (h * w) w) = (((h - 1) * (w - 1) : Nat) : Int) := by
  obtain ⟨h', rfl⟩ : ∃ a, h = a + 1 := ⟨h - 1, by omega⟩
  obtain ⟨w', rfl⟩ : ∃ a, w = a + 1 := ⟨w - 1, by omega⟩
  refine maxI_is ?_ ?_
  · refine List.mem_map.mpr ⟨_, (sq_pairs hh hw _).mpr ⟨w', 0, by omega, by omega, rfl⟩, ?_⟩
    simp only [Nat.add_sub_cancel, Nat.mul_succ]
    rw [Nat.mul_comm h' w']
    omega
  · intro x hx
    obtain ⟨y, hy, rfl⟩ := List.mem_map.mp hx
    obtain ⟨c, r, hc, hr, rfl⟩ := (sq_pairs hh hw _).mp hy
    have h1 : c * h' ≤ w' * h' := Nat.mul_le_mul_right _ (by omega)
    simp only [Nat.add_sub_cancel, Nat.mul_succ]
    rw [Nat.mul_comm h' w']
    omega
end Dm

set_option Elab.async false
set_option linter.all false
set_option maxRecDepth 100000
set_option maxHeartbeats 0
set_option autoImplicit false
/-! LO1: orders drawn. -/
namespace Dm
open PySem
theorem pures_natsV {ps : List Nat} : pures (nats ps) = true := by rw [nats_ints]; exact pures_ints
theorem om_popI {xs : List D} {i : Int} {k : Nat} {y : D} (h : -(2 ^ 63) ≤ i ∧ i < 2 ^ 63) (h2 : L2.ixN xs.length i = some k) (h3 : xs[k]? = some y) : omD .pop xs [.int i] = some (y, xs.eraseIdx k) := by
  rw [omD, if_pos h, h2]
  show (match xs[k]? with
    | some y => some (y, xs.eraseIdx k)
    | none => none) = _
  rw [h3]
theorem b63 {q : Nat} (h : q ≤ 1000000) : -(2 ^ 63) ≤ (q : Int) ∧ (q : Int) < 2 ^ 63 := by
  have e : (2 : Int) ^ 63 = 9223372036854775808 := by decide
  constructor
  · rw [e]; omega
  · rw [e]; omega
theorem erase_nats : ∀ {xs : List Nat} {q : Nat}, (nats xs).eraseIdx q = nats (xs.eraseIdx q)
  | [], _ => rfl
  | _ :: _, 0 => rfl
  | x :: xs, q + 1 => by
    show D.int x :: (nats xs).eraseIdx q = D.int x :: nats (xs.eraseIdx q)
    rw [erase_nats]
theorem pop_at {xs : List Nat} {q : Nat} (h : q < xs.length) (hl : xs.length ≤ 1000000) : omD .pop (nats xs) [.int (q : Int)] = some (.int (xs[q] : Nat), nats (xs.eraseIdx q)) := by
  have h1 : L2.ixN (nats xs).length (q : Int) = some q := ixN_nat (by rw [nats_len]; exact h)
  have h2 : (nats xs)[q]? = some (.int (xs[q] : Nat)) := by simp [nats, h]
  rw [← erase_nats]
  exact om_popI (b63 (by omega)) h1 h2
theorem erase_perm : ∀ {xs : List Nat} {q : Nat} (h : q < xs.length), (xs[q] :: xs.eraseIdx q).Perm xs
  | x :: xs, 0, _ => .refl _
  | x :: xs, q + 1, h => by
    have h' : q < xs.length := by simpa using h
    exact (List.Perm.swap x xs[q] _).trans ((erase_perm h').cons x)
section
variable {T : Tab} [Has T 3 L_take]
/-- a draw, as a number from 0 -/
theorem take_nat {k n : Nat} {many C : Int} {m : List Cell} (hm : Bx m n C) (h1 : 0 < many) (h2 : many < 1073741824) (h4 : C < 1152921504606846976) {P : EV → List Cell → Prop}
    (h : ∀ (r : Nat) m', (r : Int) < many → Dr n 1 m m' → P (.val (.int (r : Int))) m') : (Phi T (k + 1) 3 [.cel n, .int many] m).sat P :=
  take_ok hm h1 h2 h4 fun r m' r0 r1 d => by
    have := h r.toNat m' (by omega) d
    rwa [show ((r.toNat : Nat) : Int) = r by omega] at this
variable [Has T 28 L_order]
theorem order_ok {k n N : Nat} {C : Int} {m : List Cell} (hm : Bx m n C) (hN : N ≤ 1000) (h4 : C < 1152921504600000000) {P : EV → List Cell → Prop}
    (h : ∀ (os : List Nat) m', os.length = N → (∀ x ∈ os, x < N) → os.Nodup → Dr n N m m' → P (.val (.tup (nats os))) m') : (Phi T (k + 2) 28 [.cel n, .int N] m).sat P := by
  refine phi_sat (Has.eq (f := L_order)) (run_sat rfl ?_)
  obtain ⟨J, hJ⟩ : ∃ J : Nat → Sta → Prop, ∀ i s, J i s ↔ ∃ (left found : List Nat) (m2 : List Cell), left.length = N - i ∧ found.length = i ∧ (found ++ left).Nodup ∧ (∀ x ∈ found ++ left, x < N) ∧ Dr n i m m2 ∧ s = ⟨[some (.val (.cel n)), some (.val (.int N)), some (.own (nats left)), some (.own (nats found)), none], m2⟩ := ⟨_, fun _ _ => Iff.rfl⟩
  have e0 : rangeL 0 N = nats (List.range N) := by
    rw [show (0 : Int) = ((0 : Nat) : Int) from rfl, rangeL_natsU, ← List.range_eq_range']
  have e1 : ∀ s, rngE false (rangeL 0 N) s = .ok (.own (nats (List.range N))) s := fun s => by
    rw [e0, rngE_ok (by rw [nats_len]; simp; omega)]
    rfl
  simp (disch := omega) [-getElem?_pos, List.getElem?_cons_zero, List.getElem?_cons_succ, ite_at, bin_powP, bin_modP, bin_fdivP, bin_mulB, bin_mulA, bin_mul1, rngC1_ok, rngC2_ok, rngE_ok, L_order, e1]
  refine sat_bnd (for_rng N J ?_ ?_ ?_)
  · exact (hJ _ _).mpr ⟨List.range N, [], m, by simp, rfl, by simpa using List.nodup_range, fun x hx => by simpa using hx, Dr.refl, rfl⟩
  · intro i s hi hs
    obtain ⟨left, found, m2, g1, g2, g3, g4, d2, rfl⟩ := (hJ _ _).mp hs
    simp (disch := omega) [-getElem?_pos, List.getElem?_cons_zero, List.getElem?_cons_succ, ite_at, bin_powP, bin_modP, bin_fdivP, bin_mulB, bin_mulA, bin_mul1, rngC1_ok, rngC2_ok, rngE_ok, bor_at, lendE_eq, pures_natsV, nats_len]
    repeat with_reducible refine sat_bnd ?_
    refine call_sat (take_nat (d2.box _ hm) (by omega) (by omega) (by omega) fun q m3 q1 d3 => ?_)
    have hq : q < left.length := by omega
    have e1 := pop_at hq (by omega)
    have e2 : omD .append (nats found) [.int (left[q] : Nat)] = some (.non, nats (found ++ [left[q]])) := by
      rw [om_app (by rw [nats_len]; omega)]
      simp [nats]
    simp (disch := omega) [-getElem?_pos, List.getElem?_cons_zero, List.getElem?_cons_succ, ite_at, bin_powP, bin_modP, bin_fdivP, bin_mulB, bin_mulA, bin_mul1, rngC1_ok, rngC2_ok, rngE_ok, -omC_at]
    refine omC_sat rfl e1 ?_
    simp (disch := omega) [-getElem?_pos, List.getElem?_cons_zero, List.getElem?_cons_succ, ite_at, bin_powP, bin_modP, bin_fdivP, bin_mulB, bin_mulA, bin_mul1, rngC1_ok, rngC2_ok, rngE_ok, e2]
    have hp : (left[q] :: left.eraseIdx q).Perm left := erase_perm hq
    have hp2 : ((found ++ [left[q]]) ++ left.eraseIdx q).Perm (found ++ left) := by
      rw [List.append_assoc]
      exact List.Perm.append_left _ hp
    exact (hJ _ _).mpr ⟨left.eraseIdx q, found ++ [left[q]], m3, by rw [List.length_eraseIdx_of_lt hq]; omega, by simp [g2], hp2.nodup_iff.mpr g3, fun x hx => g4 x (hp2.mem_iff.mp hx), d2.trans d3, rfl⟩
  · intro s hs
    obtain ⟨left, found, m2, g1, g2, g3, g4, d2, rfl⟩ := (hJ _ _).mp hs
    simp (disch := omega) [-getElem?_pos, List.getElem?_cons_zero, List.getElem?_cons_succ, ite_at, bin_powP, bin_modP, bin_fdivP, bin_mulB, bin_mulA, bin_mul1, rngC1_ok, rngC2_ok, rngE_ok, L_order]
    exact h found m2 g2 (fun x hx => g4 x (by simp [hx])) (List.nodup_append.mp g3).1 d2
end
theorem swap_perm {xs : List Nat} {i j : Nat} (hi : i < xs.length) (hj : j < xs.length) : ((xs.set i xs[j]).set j xs[i]).Perm xs := by
  rw [List.perm_iff_count]
  intro a
  have e : (xs.set i xs[j])[j]'(by simpa using hj) = xs[j] := by
    rw [List.getElem_set]
    split
    · rfl
    · rfl
  rw [List.count_set (by simpa using hj), List.count_set hi, e]
  have h1 : xs[i] = a → 0 < xs.count a := fun h => List.count_pos_iff.mpr (h ▸ List.getElem_mem hi)
  by_cases c1 : xs[i] = a
  · have := h1 c1
    by_cases c2 : xs[j] = a <;> simp [c1, c2] <;> omega
  · by_cases c2 : xs[j] = a <;> simp [c1, c2]
/-- an order -/
structure IsOrd (os : List Nat) (N : Nat) : Prop where
  len : os.length = N
  lt : ∀ x ∈ os, x < N
  nd : os.Nodup
theorem IsOrd.of_perm {os : List Nat} {N : Nat} (h : os.Perm (List.range N)) : IsOrd os N :=
  ⟨by simpa using h.length_eq, fun x hx => by simpa using h.mem_iff.mp hx, h.nodup_iff.mpr List.nodup_range⟩
theorem range_nats {N : Nat} : rangeL 0 N = nats (List.range N) := by
  rw [show (0 : Int) = ((0 : Nat) : Int) from rfl, rangeL_natsU, ← List.range_eq_range']
theorem shift_perm {N c : Nat} (hN : 0 < N) : ((List.range N).map fun b => (c + b) % N).Perm (List.range N) := by
  refine (List.perm_ext_iff_of_nodup ?_ List.nodup_range).mpr fun a => ?_
  · refine List.Pairwise.map _ (fun a b (h : a < b ∧ b < N) e => ?_) (List.Pairwise.imp_of_mem (fun {a b} ha hb h => ⟨h, List.mem_range.mp hb⟩) List.pairwise_lt_range)
    have h1 := Nat.div_add_mod (c + a) N
    have h2 := Nat.div_add_mod (c + b) N
    rw [e] at h1
    have h3 : N * ((c + b) / N) - N * ((c + a) / N) = b - a := by omega
    rw [← Nat.mul_sub] at h3
    rcases Nat.eq_zero_or_pos ((c + b) / N - (c + a) / N) with z | z
    · rw [z] at h3; omega
    · have := Nat.le_mul_of_pos_right N z
      omega
  · simp only [List.mem_map, List.mem_range]
    constructor
    · rintro ⟨b, _, rfl⟩
      exact Nat.mod_lt _ hN
    · intro h
      refine ⟨(a + (N - c % N)) % N, Nat.mod_lt _ hN, ?_⟩
      have hc := Nat.mod_lt c hN
      rw [Nat.add_mod, Nat.mod_mod, ← Nat.add_mod, Nat.add_mod, ]
      rw [← Nat.add_mod]
      have h2 := Nat.div_add_mod c N
      rw [show c + (a + (N - c % N)) = a + N * (c / N + 1) by rw [Nat.mul_add]; omega, Nat.add_mul_mod_self_left, Nat.mod_eq_of_lt h]
section
variable {T : Tab} [Has T 3 L_take] [Has T 28 L_order] [Has T 29 L_any_order]
theorem any_order_ok {k n N : Nat} {C : Int} {m : List Cell} (hm : Bx m n C) (hN : N ≤ 1000) (h4 : C < 1152921504500000000) {P : EV → List Cell → Prop}
    (h : ∀ (os : List Nat) m', IsOrd os N → Dr n (10 + N) m m' → P (.val (.tup (nats os))) m') : (Phi T (k + 3) 29 [.cel n, .int N] m).sat P := by
  refine phi_sat (Has.eq (f := L_any_order)) (run_sat rfl ?_)
  simp (disch := omega) [-getElem?_pos, List.getElem?_cons_zero, List.getElem?_cons_succ, ite_at, bin_powP, bin_modP, bin_fdivP, bin_mulB, bin_mulA, bin_mul1, rngC1_ok, rngC2_ok, rngE_ok, L_any_order]
  repeat with_reducible refine sat_bnd ?_
  refine call_sat (take_nat hm (by omega) (by omega) (by omega) fun way m1 hw d1 => ?_)
  have rest : ∀ m2, Dr n 10 m m2 → (Phi T (k + 2) 28 [.cel n, .int N] m2).sat fun r m' => P r m' := fun m2 d2 => order_ok (d2.box _ hm) hN (by omega) fun os m3 g1 g2 g3 d3 => h os m3 ⟨g1, g2, g3⟩ ((d2.trans d3).mono (by omega))
  have rest1 := rest m1 (d1.mono (by omega))
  by_cases a0 : way = 0
  · subst a0
    by_cases hN0 : 0 < N
    · simp (disch := omega) [-getElem?_pos, List.getElem?_cons_zero, List.getElem?_cons_succ, ite_at, bin_powP, bin_modP, bin_fdivP, bin_mulB, bin_mulA, bin_mul1, rngC1_ok, rngC2_ok, rngE_ok, hN0]
      repeat with_reducible refine sat_bnd ?_
      refine call_sat (take_nat (d1.box _ hm) (by omega) (by omega) (by omega) fun q m2 hq d2 => ?_)
      have e1 : srtK (N : Int) (1 + (q : Int)) = some (.own (nats ((List.range (1 + q)).flatMap fun c => (List.range N).filter fun i => i % (1 + q) == c))) := by
        unfold srtK
        rw [if_pos ⟨by omega, by omega, by omega, by omega⟩]
        unfold srtL nats
        rw [List.map_map, show (1 + (q : Int)).toNat = 1 + q by omega, show (N : Int).toNat = N by omega]
        rfl
      have e2 : ∀ s, ev (Phi T (k + 2)) (.srtk (.var 1) (.var 3)) s = (getv 1 s).bnd fun x => bnd (getv 3) fun y => ofO ((asI x.d).bind fun i => (asI y.d).bind fun j => srtK i j) := fun s => nr rfl
      simp (disch := omega) [-getElem?_pos, List.getElem?_cons_zero, List.getElem?_cons_succ, ite_at, bin_powP, bin_modP, bin_fdivP, bin_mulB, bin_mulA, bin_mul1, rngC1_ok, rngC2_ok, rngE_ok, e2, e1]
      exact h _ m2 (.of_perm (srtN_perm (1 + q) N (by omega))) ((d1.trans d2).mono (by omega))
    · have : N = 0 := by omega
      subst this
      simp (disch := omega) [-getElem?_pos, List.getElem?_cons_zero, List.getElem?_cons_succ, ite_at, bin_powP, bin_modP, bin_fdivP, bin_mulB, bin_mulA, bin_mul1, rngC1_ok, rngC2_ok, rngE_ok]
      repeat with_reducible refine sat_bnd ?_
      refine call_sat (fsat_mono rest1 fun r m' hp => ?_)
      simp (disch := omega) [-getElem?_pos, List.getElem?_cons_zero, List.getElem?_cons_succ, ite_at, bin_powP, bin_modP, bin_fdivP, bin_mulB, bin_mulA, bin_mul1, rngC1_ok, rngC2_ok, rngE_ok]
      exact hp
  · by_cases a1 : way = 1
    · subst a1
      by_cases hN0 : 0 < N
      · simp (disch := omega) [-getElem?_pos, List.getElem?_cons_zero, List.getElem?_cons_succ, ite_at, bin_powP, bin_modP, bin_fdivP, bin_mulB, bin_mulA, bin_mul1, rngC1_ok, rngC2_ok, rngE_ok, hN0]
        repeat with_reducible refine sat_bnd ?_
        refine call_sat (take_nat (d1.box _ hm) (by omega) (by omega) (by omega) fun q m2 hq d2 => ?_)
        simp (disch := omega) [-getElem?_pos, List.getElem?_cons_zero, List.getElem?_cons_succ, ite_at, bin_powP, bin_modP, bin_fdivP, bin_mulB, bin_mulA, bin_mul1, rngC1_ok, rngC2_ok, rngE_ok]
        repeat with_reducible refine sat_bnd ?_
        refine (comp_rngS N (fun b => .int (((q + b) % N : Nat) : Int)) (by omega) (fun b hb => ?_) ?_)
        · simp (disch := omega) [-getElem?_pos, List.getElem?_cons_zero, List.getElem?_cons_succ, ite_at, bin_powP, bin_modP, bin_fdivP, bin_mulB, bin_mulA, bin_mul1, rngC1_ok, rngC2_ok, rngE_ok]
        · simp (disch := omega) [-getElem?_pos, List.getElem?_cons_zero, List.getElem?_cons_succ, ite_at, bin_powP, bin_modP, bin_fdivP, bin_mulB, bin_mulA, bin_mul1, rngC1_ok, rngC2_ok, rngE_ok]
          have := h _ m2 (.of_perm (shift_perm (c := q) hN0)) ((d1.trans d2).mono (by omega))
          unfold nats at this
          rw [List.map_map] at this
          exact this
      · have : N = 0 := by omega
        subst this
        simp (disch := omega) [-getElem?_pos, List.getElem?_cons_zero, List.getElem?_cons_succ, ite_at, bin_powP, bin_modP, bin_fdivP, bin_mulB, bin_mulA, bin_mul1, rngC1_ok, rngC2_ok, rngE_ok]
        repeat with_reducible refine sat_bnd ?_
        refine call_sat (fsat_mono rest1 fun r m' hp => ?_)
        simp (disch := omega) [-getElem?_pos, List.getElem?_cons_zero, List.getElem?_cons_succ, ite_at, bin_powP, bin_modP, bin_fdivP, bin_mulB, bin_mulA, bin_mul1, rngC1_ok, rngC2_ok, rngE_ok]
        exact hp
    · by_cases a2 : way = 2 ∧ 1 < N
      · obtain ⟨rfl, hN1⟩ := a2
        have hN2 : (1 : Int) < (N : Int) := by omega
        have e1 : ∀ s, rngE false (rangeL 0 N) s = .ok (.own (nats (List.range N))) s := fun s => by
          rw [range_nats, rngE_ok (by rw [nats_len]; simp; omega)]
          rfl
        simp (disch := omega) [-getElem?_pos, List.getElem?_cons_zero, List.getElem?_cons_succ, ite_at, bin_powP, bin_modP, bin_fdivP, bin_mulB, bin_mulA, bin_mul1, rngC1_ok, rngC2_ok, rngE_ok, hN2, e1]
        repeat with_reducible refine sat_bnd ?_
        refine call_sat (take_nat (d1.box _ hm) (by omega) (by omega) (by omega) fun q m2 hq d2 => ?_)
        obtain ⟨J, hJ⟩ : ∃ J : Nat → Sta → Prop, ∀ i s, J i s ↔ ∃ (os : List Nat) (m3 : List Cell), os.Perm (List.range N) ∧ Dr n (2 + 2 * i) m m3 ∧ s = ⟨[some (.val (.cel n)), some (.val (.int N)), some (.val (.int 2)), none, none, some (.own (nats os)), none, none, none, none], m3⟩ := ⟨_, fun _ _ => Iff.rfl⟩
        simp (disch := omega) [-getElem?_pos, List.getElem?_cons_zero, List.getElem?_cons_succ, ite_at, bin_powP, bin_modP, bin_fdivP, bin_mulB, bin_mulA, bin_mul1, rngC1_ok, rngC2_ok, rngE_ok]
        rw [show (1 + (q : Int)).toNat = 1 + q by omega]
        refine for_rng (1 + q) J ?_ ?_ ?_
        · exact (hJ 0 _).mpr ⟨_, m2, .refl _, (d1.trans d2).mono (by omega), rfl⟩
        · intro i s hi hs
          obtain ⟨os, m3, g1, d3, rfl⟩ := (hJ _ _).mp hs
          have hol : os.length = N := by simpa using g1.length_eq
          simp (disch := omega) [-getElem?_pos, List.getElem?_cons_zero, List.getElem?_cons_succ, ite_at, bin_powP, bin_modP, bin_fdivP, bin_mulB, bin_mulA, bin_mul1, rngC1_ok, rngC2_ok, rngE_ok]
          repeat with_reducible refine sat_bnd ?_
          refine call_sat (take_nat (d3.box _ hm) (by omega) (by omega) (by omega) fun a m4 ha d4 => ?_)
          simp (disch := omega) [-getElem?_pos, List.getElem?_cons_zero, List.getElem?_cons_succ, ite_at, bin_powP, bin_modP, bin_fdivP, bin_mulB, bin_mulA, bin_mul1, rngC1_ok, rngC2_ok, rngE_ok]
          repeat with_reducible refine sat_bnd ?_
          refine call_sat (take_nat (d4.box _ (d3.box _ hm)) (by omega) (by omega) (by omega) fun b m5 hb d5 => ?_)
          have la : a < os.length := by omega
          have lb : b < os.length := by omega
          have t1 : ∀ j, ∀ hj : j < os.length, L2.atI (nats os) (j : Int) = some (.int (os[j] : Nat)) := fun j hj => by
            rw [atI_nat]
            simp [nats, hj]
          have x1 : L2.ixN (nats os).length (a : Int) = some a := ixN_nat (by rw [nats_len]; exact la)
          have x2 : L2.ixN (nats (os.set a os[b])).length (b : Int) = some b := ixN_nat (by rw [nats_len, List.length_set]; exact lb)
          have y1 : (nats os).set a (.int (os[b] : Nat)) = nats (os.set a os[b]) := by unfold nats; rw [List.map_set]
          have y2 : (nats (os.set a os[b])).set b (.int (os[a] : Nat)) = nats ((os.set a os[b]).set b os[a]) := by simp [nats, List.map_set]
          simp (disch := omega) [-getElem?_pos, List.getElem?_cons_zero, List.getElem?_cons_succ, ite_at, bin_powP, bin_modP, bin_fdivP, bin_mulB, bin_mulA, bin_mul1, rngC1_ok, rngC2_ok, rngE_ok, bor_at, lendE_eq, pures_natsV, t1 a la, t1 b lb, x1, y1, x2, y2]
          exact (hJ _ _).mpr ⟨_, m5, (swap_perm la lb).trans g1, ((d3.trans d4).trans d5).mono (by omega), rfl⟩
        · intro s hs
          obtain ⟨os, m3, g1, d3, rfl⟩ := (hJ _ _).mp hs
          simp (disch := omega) [-getElem?_pos, List.getElem?_cons_zero, List.getElem?_cons_succ, ite_at, bin_powP, bin_modP, bin_fdivP, bin_mulB, bin_mulA, bin_mul1, rngC1_ok, rngC2_ok, rngE_ok]
          exact h os m3 (.of_perm g1) (d3.mono (by omega))
      · have a2' : ¬ ((way : Int) = 2 ∧ (1 : Int) < (N : Int)) := by omega
        by_cases a3 : way = 2
        · have : ¬ (1 : Int) < (N : Int) := by omega
          simp (disch := omega) [-getElem?_pos, List.getElem?_cons_zero, List.getElem?_cons_succ, ite_at, bin_powP, bin_modP, bin_fdivP, bin_mulB, bin_mulA, bin_mul1, rngC1_ok, rngC2_ok, rngE_ok, a3, this]
          repeat with_reducible refine sat_bnd ?_
          refine call_sat (fsat_mono rest1 fun r m' hp => ?_)
          simp (disch := omega) [-getElem?_pos, List.getElem?_cons_zero, List.getElem?_cons_succ, ite_at, bin_powP, bin_modP, bin_fdivP, bin_mulB, bin_mulA, bin_mul1, rngC1_ok, rngC2_ok, rngE_ok]
          exact hp
        · have w0 : ¬ (way : Int) = 0 := by omega
          have w1 : ¬ (way : Int) = 1 := by omega
          have w2 : ¬ (way : Int) = 2 := by omega
          simp (disch := omega) [-getElem?_pos, List.getElem?_cons_zero, List.getElem?_cons_succ, ite_at, bin_powP, bin_modP, bin_fdivP, bin_mulB, bin_mulA, bin_mul1, rngC1_ok, rngC2_ok, rngE_ok, a0, w1, w2]
          repeat with_reducible refine sat_bnd ?_
          refine call_sat (fsat_mono rest1 fun r m' hp => ?_)
          simp (disch := omega) [-getElem?_pos, List.getElem?_cons_zero, List.getElem?_cons_succ, ite_at, bin_powP, bin_modP, bin_fdivP, bin_mulB, bin_mulA, bin_mul1, rngC1_ok, rngC2_ok, rngE_ok]
          exact hp
end
end Dm

set_option Elab.async false
set_option linter.all false
set_option maxRecDepth 100000
set_option maxHeartbeats 0
set_option autoImplicit false
/-! k01 -/
namespace Dm
open PySem
/-- a bit; a row's item; a row -/
def isB : D → Bool
  | .int i => decide (i = 0) || decide (i = 1)
  | _ => false
def isB1 : D → Bool
  | .non => true
  | d => isB d
def isRow (d : D) : Bool := match d.items with
  | some xs => xs.all isB1
  | none => false
theorem in01 {i : Int} : cmpD .inn (.int i) (.tup [.int 0, .int 1]) = some (decide (i = 0) || decide (i = 1)) := by
  have := in_intsT (i := i) (ns := [0, 1])
  rw [show ([0, 1] : List Int).map D.int = [.int 0, .int 1] from rfl] at this
  rw [this]
  simp [Bool.decide_or]
theorem nin01 {i : Int} : cmpD .nin (.int i) (.tup [.int 0, .int 1]) = some (!(decide (i = 0) || decide (i = 1))) := nin_of in01
section
variable {T : Tab} [Has T 0 P_is_bit] [Has T 1 P_is_row] [Has T 8 L_is_row]
theorem is_bit_eq {k : Nat} {d : D} (h : d.py.canLay0 = true) (m : List Cell) : Phi T (k + 1) 0 [d] m = .ok (.val (.bl (isB d))) m := by
  refine fsat_eq (phi_sat (Has.eq (f := P_is_bit)) (run_sat rfl ?_))
  cases d with
  | cel n => simp [D.py, PyData.canLay0] at h
  | scr n => simp [D.py, PyData.canLay0] at h
  | exn n => simp [D.py, PyData.canLay0] at h
  | int i => 
    simp (disch := omega) [-getElem?_pos, List.getElem?_cons_zero, List.getElem?_cons_succ, ite_at, bin_powP, bin_modP, bin_fdivP, bin_mulB, bin_mulA, bin_mul1, rngC1_ok, rngC2_ok, rngE_ok, P_is_bit, tysD, tyD, in01]
    simp [isB]
  | _ =>
    simp (disch := omega) [-getElem?_pos, List.getElem?_cons_zero, List.getElem?_cons_succ, ite_at, bin_powP, bin_modP, bin_fdivP, bin_mulB, bin_mulA, bin_mul1, rngC1_ok, rngC2_ok, rngE_ok, P_is_bit, tysD, tyD]
    try rfl
theorem lay_item {xs : List D} (h : PyData.canLayAll0 (pyAll xs) = true) : ∀ x ∈ xs, x.py.canLay0 = true := by
  induction xs with
  | nil => intro x hx; cases hx
  | cons y ys ih =>
    simp only [pyAll, PyData.canLayAll0, Bool.and_eq_true] at h
    intro x hx
    rcases List.mem_cons.mp hx with rfl | hx
    · exact h.1
    · exact ih h.2 x hx
theorem is_item {x : D} (h : x.py.canLay0 = true) : ∃ b, cmpD .is x .non = some b ∧ cmpD .isn x .non = some (!b) ∧ (b = true → x = .non) ∧ (b = false → x ≠ .non) := by
  cases x with
  | non => exact ⟨true, rfl, rfl, fun _ => rfl, fun h => (by cases h)⟩
  | scr n => simp [D.py, PyData.canLay0] at h
  | _ => exact ⟨false, rfl, rfl, fun h => (by cases h), fun _ h => (by cases h)⟩
theorem bls_map {α : Type} (f : α → Bool) (xs : List α) : bls (xs.map fun x => D.bl (f x)) = some (xs.map f) := by
  induction xs with
  | nil => rfl
  | cons x xs ih => simp only [List.map_cons, bls, ih]; rfl
theorem row_comp {k : Nat} {xs : List D} {d : D} (hx : ∀ x ∈ xs, x.py.canLay0 = true) (hl : xs.length ≤ 16777216) (m : List Cell) :
    compC (asgG (Phi T (k + 1)) (.nm 1)) [1] (tsts (Phi T (k + 1)) []) (ev (Phi T (k + 1)) (.or (.cmp .is (.var 1) (.con .non)) (.call 0 [(.var 1)]))) xs ⟨[some (.val d), none], m⟩ = .ok (.own (xs.map fun x => .bl (isB1 x))) ⟨[some (.val d), none], m⟩ := by
  obtain ⟨ys, hys⟩ : ∃ ys : List D, xs = ys.map id := ⟨xs, by simp⟩
  rw [hys] at hx ⊢
  rw [List.map_map]
  refine comp_map (en := id) (fun x => D.bl (isB1 x)) ys (by rw [hys] at hl; simpa using hl) rfl fun x hx' => ?_
  have hx := hx x (by simpa using hx')
  obtain ⟨b, h1, _, h2, h3⟩ := is_item hx
  have e0 : ∀ s : Sta, callC (Phi T (k + 1)) 0 [x] s = .ok (.val (.bl (isB x))) s := fun s => callC_pure fun m => is_bit_eq hx m
  cases b with
  | true =>
    obtain rfl := h2 rfl
    simp (disch := omega) [-getElem?_pos, List.getElem?_cons_zero, List.getElem?_cons_succ, ite_at, bin_powP, bin_modP, bin_fdivP, bin_mulB, bin_mulA, bin_mul1, rngC1_ok, rngC2_ok, rngE_ok, isB1]
  | false =>
    have e4 : isB1 x = isB x := by
      cases x with
      | non => exact absurd rfl (h3 rfl)
      | _ => rfl
    simp (disch := omega) [-getElem?_pos, List.getElem?_cons_zero, List.getElem?_cons_succ, ite_at, bin_powP, bin_modP, bin_fdivP, bin_mulB, bin_mulA, bin_mul1, rngC1_ok, rngC2_ok, rngE_ok, h1, e0, e4]
theorem is_row_eq {k : Nat} {d : D} (h : d.py.canLay0 = true) (hl : ∀ xs, d.items = some xs → xs.length ≤ 16777216) (m : List Cell) : Phi T (k + 2) 1 [d] m = .ok (.val (.bl (isRow d))) m := by
  refine fsat_eq (phi_sat (Has.eq (f := P_is_row)) (run_sat rfl ?_))
  cases d with
  | cel n => simp [D.py, PyData.canLay0] at h
  | scr n => simp [D.py, PyData.canLay0] at h
  | exn n => simp [D.py, PyData.canLay0] at h
  | lst xs =>
    have hx := lay_item (xs := xs) (by simpa [D.py, PyData.canLay0] using h)
    have e := row_comp (T := T) (k := k) (d := .lst xs) hx (hl xs rfl) m
    simp (disch := omega) [-getElem?_pos, List.getElem?_cons_zero, List.getElem?_cons_succ, ite_at, bin_powP, bin_modP, bin_fdivP, bin_mulB, bin_mulA, bin_mul1, rngC1_ok, rngC2_ok, rngE_ok, P_is_row, tysD, tyD, seqD, e, bls_map, -List.map_map]
    simp [isRow, D.items, List.all_map]
  | tup xs =>
    have hx := lay_item (xs := xs) (by simpa [D.py, PyData.canLay0] using h)
    have e := row_comp (T := T) (k := k) (d := .tup xs) hx (hl xs rfl) m
    simp (disch := omega) [-getElem?_pos, List.getElem?_cons_zero, List.getElem?_cons_succ, ite_at, bin_powP, bin_modP, bin_fdivP, bin_mulB, bin_mulA, bin_mul1, rngC1_ok, rngC2_ok, rngE_ok, P_is_row, tysD, tyD, seqD, e, bls_map, -List.map_map]
    simp [isRow, D.items, List.all_map]
  | _ =>
    simp (disch := omega) [-getElem?_pos, List.getElem?_cons_zero, List.getElem?_cons_succ, ite_at, bin_powP, bin_modP, bin_fdivP, bin_mulB, bin_mulA, bin_mul1, rngC1_ok, rngC2_ok, rngE_ok, P_is_row, tysD, tyD]
    try rfl
theorem lis_row_eq {k : Nat} {d : D} (h : d.py.canLay0 = true) (m : List Cell) : Phi T (k + 1) 8 [d] m = .ok (.val (.bl (isRow d))) m := by
  have seq : ∀ xs : List D, d.items = some xs → seqD d = some xs → (∀ x ∈ xs, x.py.canLay0 = true) → (d = .lst xs ∨ d = .tup xs) → Phi T (k + 1) 8 [d] m = .ok (.val (.bl (isRow d))) m := fun xs e1 e2 hx ed => by
    have er : isRow d = xs.all isB1 := by unfold isRow; rw [e1]
    obtain ⟨ta, tb, t1, t2, t3⟩ : ∃ a b, tyD m d .list = some a ∧ tyD m d .tuple = some b ∧ (a || b) = true := by rcases ed with rfl | rfl <;> exact ⟨_, _, rfl, rfl, rfl⟩
    refine fsat_eq (phi_sat (Has.eq (f := L_is_row)) (run_sat rfl ?_))
    simp (disch := omega) [-getElem?_pos, List.getElem?_cons_zero, List.getElem?_cons_succ, ite_at, bin_powP, bin_modP, bin_fdivP, bin_mulB, bin_mulA, bin_mul1, rngC1_ok, rngC2_ok, rngE_ok, L_is_row, t1, t2, t3, e2]
    obtain ⟨J, hJ⟩ : ∃ J : Nat → Sta → Prop, ∀ i s, J i s ↔ (xs.take i).all isB1 = true ∧ s = ⟨[some (.val d), none], m⟩ := ⟨_, fun _ _ => Iff.rfl⟩
    refine sat_bnd (for_ix xs J ?_ ?_ ?_)
    · exact (hJ _ _).mpr ⟨rfl, rfl⟩
    · intro i x s hxi hs
      obtain ⟨ha, rfl⟩ := (hJ _ _).mp hs
      have hi := (List.getElem?_eq_some_iff.mp hxi).1
      have hx := hx x (List.mem_of_getElem? hxi)
      have hn : (xs.take (i + 1)).all isB1 = isB1 x := by
        rw [List.take_succ, hxi, List.all_append, ha]
        simp
      have bad : isB1 x = false → isRow d = false := fun z => by
        rw [er]
        refine Bool.eq_false_iff.mpr fun q => ?_
        rw [List.all_eq_true] at q
        rw [q x (List.mem_of_getElem? hxi)] at z
        cases z
      cases x with
      | non =>
        simp (disch := omega) [-getElem?_pos, List.getElem?_cons_zero, List.getElem?_cons_succ, ite_at, bin_powP, bin_modP, bin_fdivP, bin_mulB, bin_mulA, bin_mul1, rngC1_ok, rngC2_ok, rngE_ok]
        exact (hJ _ _).mpr ⟨hn, rfl⟩
      | int v =>
        by_cases hv : (decide (v = 0) || decide (v = 1)) = true
        · simp (disch := omega) [-getElem?_pos, List.getElem?_cons_zero, List.getElem?_cons_succ, ite_at, bin_powP, bin_modP, bin_fdivP, bin_mulB, bin_mulA, bin_mul1, rngC1_ok, rngC2_ok, rngE_ok, tysD, tyD, nin01, hv]
          exact (hJ _ _).mpr ⟨by rw [hn]; exact hv, rfl⟩
        · have hv : (decide (v = 0) || decide (v = 1)) = false := Bool.eq_false_iff.mpr hv
          simp (disch := omega) [-getElem?_pos, List.getElem?_cons_zero, List.getElem?_cons_succ, ite_at, bin_powP, bin_modP, bin_fdivP, bin_mulB, bin_mulA, bin_mul1, rngC1_ok, rngC2_ok, rngE_ok, tysD, tyD, nin01, hv]
          exact bad hv
      | cel n => simp [D.py, PyData.canLay0] at hx
      | scr n => simp [D.py, PyData.canLay0] at hx
      | exn n => simp [D.py, PyData.canLay0] at hx
      | _ =>
        simp (disch := omega) [-getElem?_pos, List.getElem?_cons_zero, List.getElem?_cons_succ, ite_at, bin_powP, bin_modP, bin_fdivP, bin_mulB, bin_mulA, bin_mul1, rngC1_ok, rngC2_ok, rngE_ok, tysD, tyD]
        exact bad rfl
    · intro s hs
      obtain ⟨ha, rfl⟩ := (hJ _ _).mp hs
      rw [List.take_length] at ha
      simp (disch := omega) [-getElem?_pos, List.getElem?_cons_zero, List.getElem?_cons_succ, ite_at, bin_powP, bin_modP, bin_fdivP, bin_mulB, bin_mulA, bin_mul1, rngC1_ok, rngC2_ok, rngE_ok]
      rw [er, ha]
  cases d with
  | cel n => simp [D.py, PyData.canLay0] at h
  | scr n => simp [D.py, PyData.canLay0] at h
  | exn n => simp [D.py, PyData.canLay0] at h
  | lst xs => exact seq xs rfl rfl (lay_item (xs := xs) (by simpa [D.py, PyData.canLay0] using h)) (.inl rfl)
  | tup xs => exact seq xs rfl rfl (lay_item (xs := xs) (by simpa [D.py, PyData.canLay0] using h)) (.inr rfl)
  | _ =>
    refine fsat_eq (phi_sat (Has.eq (f := L_is_row)) (run_sat rfl ?_))
    simp (disch := omega) [-getElem?_pos, List.getElem?_cons_zero, List.getElem?_cons_succ, ite_at, bin_powP, bin_modP, bin_fdivP, bin_mulB, bin_mulA, bin_mul1, rngC1_ok, rngC2_ok, rngE_ok, L_is_row, tysD, tyD]
    try rfl
end
/-- signs of a thing so deep -/
def bndT : Nat → Nat
  | 0 => 30
  | n + 1 => 3 * (bndT n + 2) + 3
theorem atI_all {α : Type} {Q : α → Prop} {xs : List α} {c : Nat} (h : ∀ x ∈ xs, Q x) (hc : (c : Int) < (xs.length : Nat)) : ∃ x, L2.atI xs (c : Int) = some x ∧ Q x := by
  have hc' : c < xs.length := by omega
  exact ⟨xs[c], by rw [atI_nat, List.getElem?_eq_getElem hc'], h _ (List.getElem_mem hc')⟩
section
variable {T : Tab} [Has T 3 L_take] [Has T 7 L_thing]
theorem thing_ok {k n : Nat} : ∀ (deep : Nat) {C : Int} {m : List Cell}, Bx m n C → C + 100000 * (deep : Int) < 1152921504600000000 → deep ≤ 6 → ∀ {P : EV → List Cell → Prop},
    (∀ (d : D) m', Sh deep (bndT deep) d → Dr n ((4 : Nat) ^ (deep + 1) : Nat) m m' → P (.val d) m') → (Phi T (k + deep + 2) 7 [.cel n, .int deep] m).sat P := by
  have small : ∀ c : Nat, (c : Int) < 11 → ∃ x, L2.atI [D.non, .bl true, .bl false, .int 0, .int 1, .int 2, .int (-1), .str "", .str "01", .str "?", .int 100000000000000000000] (c : Int) = some x ∧ Sh 0 30 x := fun c hc => atI_all (by
    simp only [List.forall_mem_cons, List.not_mem_nil, false_imp_iff, implies_true, and_true]
    exact ⟨sh_non, sh_bl, sh_bl, sh_int (by decide), sh_int (by decide), sh_int (by decide), sh_int (by decide), ⟨by decide +kernel, rfl, Nat.zero_le _, by rw [D.py, PyData.shown_str]; decide +kernel⟩, ⟨by decide +kernel, rfl, Nat.zero_le _, by rw [D.py, PyData.shown_str]; decide +kernel⟩, ⟨by decide +kernel, rfl, Nat.zero_le _, by rw [D.py, PyData.shown_str]; decide +kernel⟩, sh_int (by decide)⟩) hc
  intro deep
  induction deep with
  | zero =>
    intro C m hm h4 _ P h
    refine phi_sat (Has.eq (f := L_thing)) (run_sat rfl ?_)
    simp (disch := omega) [-getElem?_pos, List.getElem?_cons_zero, List.getElem?_cons_succ, ite_at, bin_powP, bin_modP, bin_fdivP, bin_mulB, bin_mulA, bin_mul1, rngC1_ok, rngC2_ok, rngE_ok, L_thing]
    repeat with_reducible refine sat_bnd ?_
    refine call_sat (take_nat hm (by omega) (by omega) (by omega) fun c m1 hc d1 => ?_)
    obtain ⟨x, hx, hs⟩ := small c hc
    simp (disch := omega) [-getElem?_pos, List.getElem?_cons_zero, List.getElem?_cons_succ, ite_at, bin_powP, bin_modP, bin_fdivP, bin_mulB, bin_mulA, bin_mul1, rngC1_ok, rngC2_ok, rngE_ok, hx]
    exact h x m1 hs (d1.mono (by decide))
  | succ deep ih =>
    intro C m hm h4 hd P h
    have p4 : ((4 : Nat) ^ (deep + 1 + 1) : Nat) = 4 * 4 ^ (deep + 1) := by rw [Nat.pow_succ 4 (deep + 1)]; omega
    have p5 : 4 ≤ 4 ^ (deep + 1) := by
      have := Nat.pow_le_pow_right (n := 4) (by omega) (show 1 ≤ deep + 1 by omega)
      simpa using this
    have p6 : 4 ^ (deep + 1) ≤ 4 ^ 7 := Nat.pow_le_pow_right (by omega) (by omega)
    have p7 : 30 ≤ bndT (deep + 1) := by
      have : ∀ n, 30 ≤ bndT n := fun n => by
        induction n with
        | zero => exact Nat.le_refl _
        | succ n ih => unfold bndT; omega
      exact this _
    rw [p4] at h
    generalize 4 ^ (deep + 1) = F at *
    have n0 : ¬ ((deep : Int) + 1 = 0) := by omega
    refine phi_sat (Has.eq (f := L_thing)) (run_sat rfl ?_)
    simp (disch := omega) [-getElem?_pos, List.getElem?_cons_zero, List.getElem?_cons_succ, ite_at, bin_powP, bin_modP, bin_fdivP, bin_mulB, bin_mulA, bin_mul1, rngC1_ok, rngC2_ok, rngE_ok, L_thing, n0]
    repeat with_reducible refine sat_bnd ?_
    refine call_sat (take_nat hm (by omega) (by omega) (by omega) fun q m1 hq d1 => ?_)
    by_cases q0 : q = 0
    · simp (disch := omega) [-getElem?_pos, List.getElem?_cons_zero, List.getElem?_cons_succ, ite_at, bin_powP, bin_modP, bin_fdivP, bin_mulB, bin_mulA, bin_mul1, rngC1_ok, rngC2_ok, rngE_ok, q0]
      repeat with_reducible refine sat_bnd ?_
      refine call_sat (take_nat (d1.box _ hm) (by omega) (by omega) (by omega) fun c m2 hc d2 => ?_)
      obtain ⟨x, hx, hs⟩ := small c hc
      simp (disch := omega) [-getElem?_pos, List.getElem?_cons_zero, List.getElem?_cons_succ, ite_at, bin_powP, bin_modP, bin_fdivP, bin_mulB, bin_mulA, bin_mul1, rngC1_ok, rngC2_ok, rngE_ok, hx]
      exact h x m2 (hs.mono (by omega) p7) ((d1.trans d2).mono (by omega))
    · simp (disch := omega) [-getElem?_pos, List.getElem?_cons_zero, List.getElem?_cons_succ, ite_at, bin_powP, bin_modP, bin_fdivP, bin_mulB, bin_mulA, bin_mul1, rngC1_ok, rngC2_ok, rngE_ok, q0]
      repeat with_reducible refine sat_bnd ?_
      refine call_sat (take_nat (d1.box _ hm) (by omega) (by omega) (by omega) fun R m2 hR d2 => ?_)
      have dd := d1.trans d2
      simp (disch := omega) [-getElem?_pos, List.getElem?_cons_zero, List.getElem?_cons_succ, ite_at, bin_powP, bin_modP, bin_fdivP, bin_mulB, bin_mulA, bin_mul1, rngC1_ok, rngC2_ok, rngE_ok]
      obtain ⟨JC, hC⟩ : ∃ J : Nat → List D → Sta → Prop, ∀ j acc s, J j acc s ↔ ∃ (m3 : List Cell) (o : Option EV), acc.length = j ∧ (∀ x ∈ acc, Sh deep (bndT deep) x) ∧ Dr n (2 + j * F) m m3 ∧ s.mem = m3 ∧ s.env = [some (.val (.cel n)), some (.val (.int ((deep : Int) + 1))), some (.val (.lst [D.non, .bl true, .bl false, .int 0, .int 1, .int 2, .int (-1), .str "", .str "01", .str "?", .int 100000000000000000000])), none, o] := ⟨_, fun _ _ _ => Iff.rfl⟩
      repeat with_reducible refine sat_bnd ?_
      refine comp_rng R JC (by omega) ?_ ?_ ?_
      · exact (hC _ _ _).mpr ⟨m2, none, rfl, fun x hx => (by cases hx), dd.mono (by omega), rfl, rfl⟩
      · intro j acc s hj hs
        obtain ⟨m3, o, h1, h2, h3, h5, h6⟩ := (hC _ _ _).mp hs
        obtain ⟨env, mem⟩ := s
        simp only at h5 h6
        subst h5 h6
        have e1 : (deep : Int) + 1 - 1 = (deep : Int) := by omega
        have hjF : (j : Int) * (F : Int) ≤ 3 * 16384 := by
          obtain ⟨c, hc⟩ : ∃ c, c = j * F := ⟨_, rfl⟩
          have : j * F ≤ 3 * 4 ^ 7 := Nat.mul_le_mul (by omega) p6
          rw [← hc] at this
          rw [show (j : Int) * (F : Int) = ((j * F : Nat) : Int) by push_cast; rfl, ← hc]
          omega
        simp (disch := omega) [-getElem?_pos, List.getElem?_cons_zero, List.getElem?_cons_succ, ite_at, bin_powP, bin_modP, bin_fdivP, bin_mulB, bin_mulA, bin_mul1, rngC1_ok, rngC2_ok, rngE_ok, e1]
        repeat with_reducible refine sat_bnd ?_
        refine call_sat (ih (h3.box _ hm) (by omega) (by omega) fun d m4 sd d4 => ?_)
        simp (disch := omega) [-getElem?_pos, List.getElem?_cons_zero, List.getElem?_cons_succ, ite_at, bin_powP, bin_modP, bin_fdivP, bin_mulB, bin_mulA, bin_mul1, rngC1_ok, rngC2_ok, rngE_ok]
        refine (hC _ _ _).mpr ⟨m4, _, by simp [h1], fun x hx => ?_, (h3.trans d4).mono ?_, rfl, rfl⟩
        · rcases List.mem_append.mp hx with z | z
          · exact h2 x z
          · simp only [List.mem_singleton] at z
            rw [z]
            exact sd
        · push_cast
          rw [Int.add_mul]
          omega
      · intro ys s hs
        obtain ⟨m3, o, h1, h2, h3, h5, h6⟩ := (hC _ _ _).mp hs
        obtain ⟨env, mem⟩ := s
        simp only at h5 h6
        subst h5 h6
        have hRF : (R : Int) * (F : Int) ≤ 3 * F := by
          obtain ⟨c, hc⟩ : ∃ c, c = R * F := ⟨_, rfl⟩
          have : R * F ≤ 3 * F := Nat.mul_le_mul (by omega) (Nat.le_refl _)
          rw [← hc] at this
          rw [show (R : Int) * (F : Int) = ((R * F : Nat) : Int) by push_cast; rfl, ← hc]
          omega
        simp (disch := omega) [-getElem?_pos, List.getElem?_cons_zero, List.getElem?_cons_succ, ite_at, bin_powP, bin_modP, bin_fdivP, bin_mulB, bin_mulA, bin_mul1, rngC1_ok, rngC2_ok, rngE_ok]
        repeat with_reducible refine sat_bnd ?_
        refine call_sat (take_nat (h3.box _ hm) (by omega) (by omega) (by omega) fun c m4 hc d4 => ?_)
        obtain ⟨x, hx, hs⟩ : ∃ x, L2.atI [D.lst ys, .tup ys] (c : Int) = some x ∧ Sh (deep + 1) (bndT (deep + 1)) x := atI_all (by
          simp only [List.forall_mem_cons, List.not_mem_nil, false_imp_iff, implies_true, and_true]
          exact ⟨sh_lst h2 (by omega), sh_tup h2 (by omega)⟩) hc
        simp (disch := omega) [-getElem?_pos, List.getElem?_cons_zero, List.getElem?_cons_succ, ite_at, bin_powP, bin_modP, bin_fdivP, bin_mulB, bin_mulA, bin_mul1, rngC1_ok, rngC2_ok, rngE_ok, hx]
        exact h x m4 hs ((h3.trans d4).mono (by omega))
end
theorem sh_len {n L : Nat} {d : D} (h : Sh n L d) : ∀ xs, d.items = some xs → xs.length ≤ L := by
  have key : ∀ xs : List D, xs.length ≤ (Str.join ", " (PyData.shownAll (pyAll xs))).length + 2 := fun xs => by
    have e : (PyData.shownAll (pyAll xs)).length = xs.length := by
      rw [PyData.shownAll_length]
      induction xs with
      | nil => rfl
      | cons x xs ih => simp only [pyAll, List.length_cons, ih]
    by_cases hn : PyData.shownAll (pyAll xs) = []
    · rw [hn] at e
      rw [← e]
      exact Nat.zero_le _
    · rw [join_length_add _ hn, ← e]
      generalize PyData.shownAll (pyAll xs) = ts
      unfold piled
      induction ts with
      | nil => exact Nat.le_refl _
      | cons t ts ih => simp only [List.map_cons, List.sum_cons, List.length_cons]; omega
  intro xs hx
  have e1 : (("[" : String) : Str).length = 1 := by decide +kernel
  have e2 : (("]" : String) : Str).length = 1 := by decide +kernel
  have e3 : (("(" : String) : Str).length = 1 := by decide +kernel
  have e4 : 1 ≤ ((if (pyAll xs).length == 1 then ",)" else ")" : String) : Str).length := by split <;> decide +kernel
  have := key xs
  have hl := h.len
  cases d with
  | lst ys =>
    cases hx
    rw [D.py, PyData.shown_list, Str.length_append, Str.length_append] at hl
    omega
  | tup ys =>
    cases hx
    rw [D.py, PyData.shown_tuple, Str.length_append, Str.length_append] at hl
    omega
  | _ => cases hx
theorem pures_bt01 : ∀ r : List (Option Bool), pures (r.map bt) = true
  | [] => rfl
  | none :: r => by simp [pures, bt, D.pure, pures_bt01 r]
  | some b :: r => by simp [pures, bt, D.pure, pures_bt01 r]
theorem ne_nilD {ys : List D} (h : ∀ y ∈ ys, Sh 0 30 y) : cmpD .ne (.lst ys) (.lst []) = some (!ys.isEmpty) := by
  have s1 := sh_lst h (Nat.le_refl _)
  have e : (D.lst ys).shaped = true := by
    show (PyData.canLay0 (D.lst ys).py && decide ((D.lst ys).py.depth ≤ 64)) = true
    rw [s1.lay, decide_eq_true (Nat.le_trans s1.dep (by omega))]
    rfl
  have e2 : eqD (.lst ys) (.lst []) = ys.isEmpty := by cases ys <;> rfl
  show (if (D.lst ys).shaped && (D.lst []).shaped then some (!eqD (D.lst ys) (D.lst [])) else none) = _
  rw [e, e2, show (D.lst []).shaped = true from by decide +kernel]
  rfl
section
variable {T : Tab} [Has T 3 L_take] [Has T 5 L_many] [Has T 6 L_row] [Has T 7 L_thing] [Has T 401 L_case_2]
theorem case_ok {k n : Nat} {C : Int} {m : List Cell} (hm : Bx m n C) (h4 : C < 1152921504500000000) {P : EV → List Cell → Prop}
    (h : ∀ (d : D) m', Sh 8 100000 d → Dr n 20000 m m' → P (.val d) m') : (Phi T (k + 8) 401 [.cel n] m).sat P := by
  refine phi_sat (Has.eq (f := L_case_2)) (run_sat rfl ?_)
  simp (disch := omega) [-getElem?_pos, List.getElem?_cons_zero, List.getElem?_cons_succ, ite_at, bin_powP, bin_modP, bin_fdivP, bin_mulB, bin_mulA, bin_mul1, rngC1_ok, rngC2_ok, rngE_ok, L_case_2]
  repeat with_reducible refine sat_bnd ?_
  refine call_sat (take_nat hm (by omega) (by omega) (by omega) fun w m1 hw d1 => ?_)
  by_cases w3 : (w : Int) = 3
  · simp (disch := omega) [-getElem?_pos, List.getElem?_cons_zero, List.getElem?_cons_succ, ite_at, bin_powP, bin_modP, bin_fdivP, bin_mulB, bin_mulA, bin_mul1, rngC1_ok, rngC2_ok, rngE_ok, w3]
    repeat with_reducible refine sat_bnd ?_
    refine call_sat (thing_ok (k := k) 5 (d1.box _ hm) (by omega) (by omega) fun d m2 sd d2 => ?_)
    simp (disch := omega) [-getElem?_pos, List.getElem?_cons_zero, List.getElem?_cons_succ, ite_at, bin_powP, bin_modP, bin_fdivP, bin_mulB, bin_mulA, bin_mul1, rngC1_ok, rngC2_ok, rngE_ok]
    exact h d m2 (sd.mono (by omega) (by decide)) ((d1.trans d2).mono (by decide))
  · simp (disch := omega) [-getElem?_pos, List.getElem?_cons_zero, List.getElem?_cons_succ, ite_at, bin_powP, bin_modP, bin_fdivP, bin_mulB, bin_mulA, bin_mul1, rngC1_ok, rngC2_ok, rngE_ok, w3]
    repeat with_reducible refine sat_bnd ?_
    refine call_sat (many_ok (k := k + 5) (d1.box _ hm) (by omega) fun N m2 hN d2 => ?_)
    have dd := d1.trans d2
    simp (disch := omega) [-getElem?_pos, List.getElem?_cons_zero, List.getElem?_cons_succ, ite_at, bin_powP, bin_modP, bin_fdivP, bin_mulB, bin_mulA, bin_mul1, rngC1_ok, rngC2_ok, rngE_ok]
    repeat with_reducible refine sat_bnd ?_
    refine call_sat (row_ok (k := k + 5) (dd.box _ hm) (by omega) (by omega) fun row m3 hr d3 => ?_)
    have dd := dd.trans d3
    simp (disch := omega) [-getElem?_pos, List.getElem?_cons_zero, List.getElem?_cons_succ, ite_at, bin_powP, bin_modP, bin_fdivP, bin_mulB, bin_mulA, bin_mul1, rngC1_ok, rngC2_ok, rngE_ok]
    have hrow : ∀ y ∈ row.map bt, Sh 0 30 y := fun y hy => by
      obtain ⟨b, _, rfl⟩ := List.mem_map.mp hy
      exact sh_bt
    have tail : ∀ (Q : Fl → Sta → Prop) (L : List D) (m4 : List Cell), (∀ d s, Sh 8 100000 d → Dr n 20000 m s.mem → Q (.rt (.val d)) s) → L.length ≤ 60 → (∀ y ∈ L, Sh 2 (bndT 2) y) → Dr n 500 m m4 → (sxs (Phi T (k + 7)) [.ret (.idx (.lst [(.var 2), (.bi .tuple [(.var 2)])]) (.call 3 [(.var 0), (.con (.int 2))]))] ⟨[some (.val (.cel n)), some (.val (.int w)), some (.own L)], m4⟩).sat Q := fun Q L m4 hQ hl hs d4 => by
      simp (disch := omega) [-getElem?_pos, List.getElem?_cons_zero, List.getElem?_cons_succ, ite_at, bin_powP, bin_modP, bin_fdivP, bin_mulB, bin_mulA, bin_mul1, rngC1_ok, rngC2_ok, rngE_ok]
      repeat with_reducible refine sat_bnd ?_
      refine call_sat (take_nat (d4.box _ hm) (by omega) (by omega) (by omega) fun c m5 hc d5 => ?_)
      obtain ⟨x, hx, sx⟩ : ∃ x, L2.atI [D.lst L, .tup L] (c : Int) = some x ∧ Sh 3 (60 * (bndT 2 + 2) + 3) x := atI_all (by
        simp only [List.forall_mem_cons, List.not_mem_nil, false_imp_iff, implies_true, and_true]
        exact ⟨sh_lst hs hl, sh_tup hs hl⟩) hc
      simp (disch := omega) [-getElem?_pos, List.getElem?_cons_zero, List.getElem?_cons_succ, ite_at, bin_powP, bin_modP, bin_fdivP, bin_mulB, bin_mulA, bin_mul1, rngC1_ok, rngC2_ok, rngE_ok, hx]
      exact hQ x _ (sx.mono (by omega) (by decide)) ((d4.trans d5).mono (by omega))
    have mono : ∀ y, Sh 0 30 y → Sh 2 (bndT 2) y := fun y hy => hy.mono (by omega) (by decide)
    have pr : pures (row.map bt) = true := pures_bt01 row
    have go : ∀ (L : List D) (m4 : List Cell), L.length ≤ 60 → (∀ y ∈ L, Sh 2 (bndT 2) y) → Dr n 500 m m4 → (sxs (Phi T (k + 7)) [.ret (.idx (.lst [(.var 2), (.bi .tuple [(.var 2)])]) (.call 3 [(.var 0), (.con (.int 2))]))] ⟨[some (.val (.cel n)), some (.val (.int w)), some (.own L)], m4⟩).sat fun f s => match f with
      | .nx => P (.val .non) s.mem
      | .rt r => P r s.mem
      | _ => False := fun L m4 hl hs d4 => tail _ L m4 (fun d s sd d => h _ _ sd d) hl hs d4
    have hl : (row.map bt).length ≤ 60 := by simp; omega
    have hm' := fun y hy => mono y (hrow y hy)
    have t := go (row.map bt) m3 hl hm' (dd.mono (by omega))
    have hne := ne_nilD hrow
    by_cases w2 : (w : Int) = 2
    · by_cases hn : row = []
      · subst hn
        simp (disch := omega) [-getElem?_pos, List.getElem?_cons_zero, List.getElem?_cons_succ, ite_at, bin_powP, bin_modP, bin_fdivP, bin_mulB, bin_mulA, bin_mul1, rngC1_ok, rngC2_ok, rngE_ok, w2] at t hne
        simp (disch := omega) [-getElem?_pos, List.getElem?_cons_zero, List.getElem?_cons_succ, ite_at, bin_powP, bin_modP, bin_fdivP, bin_mulB, bin_mulA, bin_mul1, rngC1_ok, rngC2_ok, rngE_ok, w2, borB_at, lendE_eq, hne, pures]
        exact t
      · have hie : (row.map bt).isEmpty = false := by cases row with | nil => exact absurd rfl hn | cons _ _ => rfl
        have hpos : 0 < row.length := List.length_pos_iff.mpr hn
        rw [hie] at hne
        simp (disch := omega) [-getElem?_pos, List.getElem?_cons_zero, List.getElem?_cons_succ, ite_at, bin_powP, bin_modP, bin_fdivP, bin_mulB, bin_mulA, bin_mul1, rngC1_ok, rngC2_ok, rngE_ok, w2, borB_at, lendE_eq, hne, pr]
        repeat with_reducible refine sat_bnd ?_
        refine call_sat (thing_ok (k := k + 3) 2 (dd.box _ hm) (by omega) (by omega) fun d m4 sd d4 => ?_)
        have dd := dd.trans d4
        simp (disch := omega) [-getElem?_pos, List.getElem?_cons_zero, List.getElem?_cons_succ, ite_at, bin_powP, bin_modP, bin_fdivP, bin_mulB, bin_mulA, bin_mul1, rngC1_ok, rngC2_ok, rngE_ok, bor_at, lendE_eq, pr]
        repeat with_reducible refine sat_bnd ?_
        refine call_sat (take_nat (dd.box _ hm) (by omega) (by omega) (by omega) fun c m5 hc d5 => ?_)
        have dd := dd.trans d5
        have hc' : c < row.length := by omega
        have t := go ((row.map bt).set c d) m5 (by simp; omega) (fun y hy => by
          rcases List.mem_or_eq_of_mem_set hy with z | z
          · exact hm' y z
          · rw [z]; exact sd) (dd.mono (by omega))
        have hix : L2.ixN row.length (c : Int) = some c := by
          unfold L2.ixN
          rw [if_pos (by omega)]
          simp
          omega
        simp (disch := omega) [-getElem?_pos, List.getElem?_cons_zero, List.getElem?_cons_succ, ite_at, bin_powP, bin_modP, bin_fdivP, bin_mulB, bin_mulA, bin_mul1, rngC1_ok, rngC2_ok, rngE_ok, w2] at t
        simp (disch := omega) [-getElem?_pos, List.getElem?_cons_zero, List.getElem?_cons_succ, ite_at, bin_powP, bin_modP, bin_fdivP, bin_mulB, bin_mulA, bin_mul1, rngC1_ok, rngC2_ok, rngE_ok, hix]
        exact t
    · simp (disch := omega) [-getElem?_pos, List.getElem?_cons_zero, List.getElem?_cons_succ, ite_at, bin_powP, bin_modP, bin_fdivP, bin_mulB, bin_mulA, bin_mul1, rngC1_ok, rngC2_ok, rngE_ok] at t
      simp (disch := omega) [-getElem?_pos, List.getElem?_cons_zero, List.getElem?_cons_succ, ite_at, bin_powP, bin_modP, bin_fdivP, bin_mulB, bin_mulA, bin_mul1, rngC1_ok, rngC2_ok, rngE_ok, w2]
      exact t
end
section
variable {T : Tab} [Has T 0 P_is_bit] [Has T 1 P_is_row] [Has T 2 L_box] [Has T 3 L_take] [Has T 4 L_boxes] [Has T 5 L_many] [Has T 6 L_row] [Has T 7 L_thing] [Has T 8 L_is_row] [Has T 401 L_case_2] [Has T 601 law_k01]
theorem law_k01_ok {k : Nat} {ns : List Int} : (Phi T (k + 9) 601 [.scr ns] []).sat fun r _ => r = .val (.bl true) := by
  refine phi_sat (Has.eq (f := law_k01)) (run_sat rfl ?_)
  simp (disch := omega) [-getElem?_pos, List.getElem?_cons_zero, List.getElem?_cons_succ, ite_at, bin_powP, bin_modP, bin_fdivP, bin_mulB, bin_mulA, bin_mul1, rngC1_ok, rngC2_ok, rngE_ok, law_k01]
  repeat with_reducible refine sat_bnd ?_
  refine call_sat (boxes_ok (k := k + 6) (by omega) (by omega) fun B m0 hB hB2 hm0 hbx => ?_)
  obtain ⟨J, hJ⟩ : ∃ J : Nat → Sta → Prop, ∀ i s, J i s ↔ ∃ m2 : List Cell, (∀ j, i ≤ j → j < B → Bx m2 j 0) ∧ s = ⟨[some (.val (.scr ns)), none, none, none, none, none, none], m2⟩ := ⟨_, fun _ _ => Iff.rfl⟩
  simp (disch := omega) [-getElem?_pos, List.getElem?_cons_zero, List.getElem?_cons_succ, ite_at, bin_powP, bin_modP, bin_fdivP, bin_mulB, bin_mulA, bin_mul1, rngC1_ok, rngC2_ok, rngE_ok]
  repeat with_reducible refine sat_bnd ?_
  refine for_ix _ J ?_ ?_ ?_
  · exact (hJ _ _).mpr ⟨m0, fun j _ h => hbx j h, rfl⟩
  · intro i x s hx hs
    obtain ⟨m2, hb2, rfl⟩ := (hJ _ _).mp hs
    obtain ⟨hi, rfl⟩ : i < B ∧ x = .cel i := by
      rw [List.getElem?_map] at hx
      obtain ⟨j, e1, e2⟩ := Option.map_eq_some_iff.mp hx
      have hi : i < B := by
        have := (List.getElem?_eq_some_iff.mp e1).1
        simpa using this
      rw [List.getElem?_range hi] at e1
      cases e1
      exact ⟨hi, e2.symm⟩
    have hbi := hb2 i (Nat.le_refl _) hi
    obtain ⟨J2, hJ2⟩ : ∃ J : Nat → Sta → Prop, ∀ t s, J t s ↔ ∃ m3 : List Cell, Dr i (20000 * t) m2 m3 ∧ s = ⟨[some (.val (.scr ns)), some (.val (.cel i)), none, none, none, none, none], m3⟩ := ⟨_, fun _ _ => Iff.rfl⟩
    simp (disch := omega) [-getElem?_pos, List.getElem?_cons_zero, List.getElem?_cons_succ, ite_at, bin_powP, bin_modP, bin_fdivP, bin_mulB, bin_mulA, bin_mul1, rngC1_ok, rngC2_ok, rngE_ok]
    repeat with_reducible refine sat_bnd ?_
    refine for_rng 8 J2 ?_ ?_ ?_
    · exact (hJ2 _ _).mpr ⟨m2, Dr.refl.mono (by omega), rfl⟩
    · intro t s ht hs
      obtain ⟨m3, d3, rfl⟩ := (hJ2 _ _).mp hs
      simp (disch := omega) [-getElem?_pos, List.getElem?_cons_zero, List.getElem?_cons_succ, ite_at, bin_powP, bin_modP, bin_fdivP, bin_mulB, bin_mulA, bin_mul1, rngC1_ok, rngC2_ok, rngE_ok]
      repeat with_reducible refine sat_bnd ?_
      refine call_sat (case_ok (k := k) (d3.box _ hbi) (by omega) fun d m4 sd d4 => ?_)
      have sb := sd.shB (by omega) (by omega)
      have e1 : ∀ s : Sta, callC (Phi T (k + 8)) 1 [d] s = .ok (.val (.bl (isRow d))) s := fun s => callC_pure fun m => is_row_eq (k := k + 6) sd.lay (fun xs h => Nat.le_trans (sh_len sd xs h) (by omega)) m
      have e2 : ∀ s : Sta, callC (Phi T (k + 8)) 8 [d] s = .ok (.val (.bl (isRow d))) s := fun s => callC_pure fun m => lis_row_eq (k := k + 7) sd.lay m
      have e3 : ∀ m : List Cell, biD m .repr [d] = some (.val (.str d.py.shown)) := fun m => repr_at sb
      have e4 := ne_str (ok_shB sb)
      simp (disch := omega) [-getElem?_pos, List.getElem?_cons_zero, List.getElem?_cons_succ, ite_at, bin_powP, bin_modP, bin_fdivP, bin_mulB, bin_mulA, bin_mul1, rngC1_ok, rngC2_ok, rngE_ok, e1, e2, e3, e4]
      exact (hJ2 _ _).mpr ⟨m4, (d3.trans d4).mono (by omega), rfl⟩
    · intro s hs
      obtain ⟨m3, d3, rfl⟩ := (hJ2 _ _).mp hs
      simp (disch := omega) [-getElem?_pos, List.getElem?_cons_zero, List.getElem?_cons_succ, ite_at, bin_powP, bin_modP, bin_fdivP, bin_mulB, bin_mulA, bin_mul1, rngC1_ok, rngC2_ok, rngE_ok]
      refine (hJ _ _).mpr ⟨m3, fun j h1 h2 => ?_, rfl⟩
      have := hb2 j (by omega) h2
      obtain ⟨a, b, c, q1, q2, q3⟩ := this
      exact ⟨a, b, c, by rw [d3.oth j (by omega)]; exact q1, q2, q3⟩
  · intro s hs
    obtain ⟨m2, hb2, rfl⟩ := (hJ _ _).mp hs
    simp (disch := omega) [-getElem?_pos, List.getElem?_cons_zero, List.getElem?_cons_succ, ite_at, bin_powP, bin_modP, bin_fdivP, bin_mulB, bin_mulA, bin_mul1, rngC1_ok, rngC2_ok, rngE_ok]
    repeat with_reducible refine sat_bnd ?_
    refine call_sat (box_ok (k := k + 7) (by omega) (by omega) fun a b => ?_)
    have bx : Bx (m2 ++ [.lst [.int a, .int b, .int 0]]) m2.length 0 := ⟨a, b, 0, by simp, by omega, by omega⟩
    simp (disch := omega) [-getElem?_pos, List.getElem?_cons_zero, List.getElem?_cons_succ, ite_at, bin_powP, bin_modP, bin_fdivP, bin_mulB, bin_mulA, bin_mul1, rngC1_ok, rngC2_ok, rngE_ok]
    repeat with_reducible refine sat_bnd ?_
    refine call_sat (take_nat (k := k + 7) bx (by omega) (by omega) (by omega) fun q m3 hq d3 => ?_)
    obtain ⟨N, hN⟩ : ∃ N : Nat, 301 + (q : Int) = (N : Int) := ⟨301 + q, by omega⟩
    simp (disch := omega) [-getElem?_pos, List.getElem?_cons_zero, List.getElem?_cons_succ, ite_at, bin_powP, bin_modP, bin_fdivP, bin_mulB, bin_mulA, bin_mul1, rngC1_ok, rngC2_ok, rngE_ok, hN]
    repeat with_reducible refine sat_bnd ?_
    refine call_sat (row_ok (k := k + 6) (d3.box _ bx) (by omega) (by omega) fun row m4 hr d4 => ?_)
    have dd := d3.trans d4
    have hrow : ∀ y ∈ row.map bt, Sh 0 30 y := fun y hy => by
      obtain ⟨b, _, rfl⟩ := List.mem_map.mp hy
      exact sh_bt
    have pr : pures (row.map bt) = true := pures_bt01 row
    have isb : ∀ y ∈ row.map bt, isB1 y = true := fun y hy => by
      obtain ⟨b, _, rfl⟩ := List.mem_map.mp hy
      cases b with
      | none => rfl
      | some b => cases b <;> rfl
    have rr : isRow (.lst (row.map bt)) = true := List.all_eq_true.mpr isb
    have rt : isRow (.tup (row.map bt)) = true := List.all_eq_true.mpr isb
    have l1 := sh_lst hrow (Nat.le_refl _)
    have l2 := sh_tup hrow (Nat.le_refl _)
    have e1 : ∀ s : Sta, callC (Phi T (k + 8)) 1 [.lst (row.map bt)] s = .ok (.val (.bl true)) s := fun s => callC_pure fun m => by
      rw [is_row_eq (k := k + 6) l1.lay (fun xs h => by cases h; simp; omega) m, rr]
    have e2 : ∀ s : Sta, callC (Phi T (k + 8)) 1 [.tup (row.map bt)] s = .ok (.val (.bl true)) s := fun s => callC_pure fun m => by
      rw [is_row_eq (k := k + 6) l2.lay (fun xs h => by cases h; simp; omega) m, rt]
    have i1 : cmpD .isn (.bl true) (.bl true) = some false := nr rfl
    have i2 : cmpD .is (.bl true) (.bl true) = some true := nr rfl
    have i3 : cmpD .is (.bl false) (.bl false) = some true := nr rfl
    simp (disch := omega) [-getElem?_pos, List.getElem?_cons_zero, List.getElem?_cons_succ, ite_at, bin_powP, bin_modP, bin_fdivP, bin_mulB, bin_mulA, bin_mul1, rngC1_ok, rngC2_ok, rngE_ok, borB_at, bor_at, lendE_eq, pr, e1, e2, i1]
    repeat with_reducible refine sat_bnd ?_
    refine call_sat (take_nat (k := k + 7) (many := (row.length : Int)) (dd.box _ bx) (by omega) (by omega) (by omega) fun c m5 hc d5 => ?_)
    have hc' : c < row.length := by omega
    have hset : ∀ y ∈ (row.map bt).set c (.int 2), Sh 0 30 y := fun y hy => by
      rcases List.mem_or_eq_of_mem_set hy with z | z
      · exact hrow y z
      · rw [z]; exact sh_int (by decide)
    have l3 := sh_lst hset (Nat.le_refl _)
    have rs : isRow (.lst ((row.map bt).set c (.int 2))) = false := by
      refine Bool.eq_false_iff.mpr fun z => ?_
      have := List.all_eq_true.mp z (.int 2) (List.mem_iff_getElem.mpr ⟨c, by simp; omega, by simp⟩)
      cases this
    have e3 : ∀ s : Sta, callC (Phi T (k + 8)) 1 [.lst ((row.map bt).set c (.int 2))] s = .ok (.val (.bl false)) s := fun s => callC_pure fun m => by
      rw [is_row_eq (k := k + 6) l3.lay (fun xs h => by cases h; simp; omega) m, rs]
    have e4 : ∀ s : Sta, callC (Phi T (k + 8)) 1 [.lst []] s = .ok (.val (.bl true)) s := fun s => callC_pure fun m => is_row_eq (k := k + 6) rfl (fun xs h => by cases h; simp) m
    have e5 : ∀ s : Sta, callC (Phi T (k + 8)) 1 [.tup []] s = .ok (.val (.bl true)) s := fun s => callC_pure fun m => is_row_eq (k := k + 6) rfl (fun xs h => by cases h; simp) m
    simp (disch := omega) [-getElem?_pos, List.getElem?_cons_zero, List.getElem?_cons_succ, ite_at, bin_powP, bin_modP, bin_fdivP, bin_mulB, bin_mulA, bin_mul1, rngC1_ok, rngC2_ok, rngE_ok, ixN_nat hc', e3, e4, e5, i2, i3]
end
end Dm

namespace T
open PySem Dm
def tabL : List (Nat × Fn) := [(0, P_is_bit), (1, P_is_row), (2, L_box), (3, L_take), (4, L_boxes), (5, L_many), (6, L_row), (7, L_thing), (8, L_is_row), (401, L_case_2), (601, law_k01)]
def tab : Tab := fun i => tabL.lookup i
instance : Has tab 0 P_is_bit := ⟨rfl⟩
instance : Has tab 1 P_is_row := ⟨rfl⟩
instance : Has tab 2 L_box := ⟨rfl⟩
instance : Has tab 3 L_take := ⟨rfl⟩
instance : Has tab 4 L_boxes := ⟨rfl⟩
instance : Has tab 5 L_many := ⟨rfl⟩
instance : Has tab 6 L_row := ⟨rfl⟩
instance : Has tab 7 L_thing := ⟨rfl⟩
instance : Has tab 8 L_is_row := ⟨rfl⟩
instance : Has tab 401 L_case_2 := ⟨rfl⟩
instance : Has tab 601 law_k01 := ⟨rfl⟩
end T

/-! ### the table of k01: printed by wip/gen.py and wip/mk.py -/
namespace T
open PySem PySem.Spec PyProof.Rows L2 Dm
def top (i : Nat) : Stmt := PySem.Challenge.pw_strewbits_k01_what_is_a_row.main.body.getD i (.Pass ⟨0, 0, 0, 0⟩)
abbrev s0 : Stmt := top 1
def d0 : DefI := ⟨"is_bit", ["thing"], ["thing"], s0, P_is_bit, none⟩
abbrev s1 : Stmt := top 2
def d1 : DefI := ⟨"is_row", ["thing"], ["thing", "one"], s1, P_is_row, none⟩
abbrev s2 : Stmt := top 4
def d2 : DefI := ⟨"_law_box", ["_law_script", "_law_k"], ["_law_script", "_law_k", "_law_cell"], s2, L_box, none⟩
abbrev s3 : Stmt := top 5
def d3 : DefI := ⟨"_law_take", ["_law_box_here", "_law_many_here"], ["_law_box_here", "_law_many_here", "_law_once", "_law_twice", "_law_found"], s3, L_take, none⟩
abbrev s4 : Stmt := top 6
def d4 : DefI := ⟨"_law_boxes", ["_law_script", "_law_many_here"], ["_law_script", "_law_many_here", "_law_k"], s4, L_boxes, none⟩
abbrev s5 : Stmt := top 7
def d5 : DefI := ⟨"_law_many", ["_law_box_here"], ["_law_box_here"], s5, L_many, none⟩
abbrev s6 : Stmt := top 8
def d6 : DefI := ⟨"_law_row", ["_law_box_here", "_law_many_here"], ["_law_box_here", "_law_many_here", "_law_lost", "_law_found", "_law_turn", "_law_bit"], s6, L_row, none⟩
abbrev s7 : Stmt := top 9
def d7 : DefI := ⟨"_law_thing", ["_law_box_here", "_law_deep"], ["_law_box_here", "_law_deep", "_law_some", "_law_parts", "_law_turn"], s7, L_thing, none⟩
abbrev s8 : Stmt := top 10
def d8 : DefI := ⟨"_law_is_row", ["_law_thing_here"], ["_law_thing_here", "_law_one"], s8, L_is_row, none⟩
abbrev s9 : Stmt := top 11
def d9 : DefI := ⟨"_law_case", ["_law_box_here"], ["_law_box_here", "_law_way", "_law_row_here"], s9, L_case_2, none⟩
abbrev s10 : Stmt := top 12
def d10 : DefI := ⟨"law", ["_law_script"], ["_law_script", "_law_box_here", "_law_great", "_law_turn", "_law_thing_here", "_law_seen", "_law_found"], s10, law_k01, none⟩
def gls : List (Str × Cn) := []
def exs : List Nat := []
def cls : List Nat := []
def fls : List Str := []
def pg : Pg := ⟨[(0, d0), (1, d1), (2, d2), (3, d3), (4, d4), (5, d5), (6, d6), (7, d7), (8, d8), (401, d9), (601, d10)], fun x => gls.lookup x, tab, exs, cls, fls⟩
theorem okD : pg.ds.all (fun d => pg.okD d.2) = true := by kernel_rfl
theorem okT : ∀ x ∈ pg.ds, pg.tab x.1 = some x.2.fn := by
  show ∀ x ∈ [(0, d0), (1, d1), (2, d2), (3, d3), (4, d4), (5, d5), (6, d6), (7, d7), (8, d8), (401, d9), (601, d10)], _
  simp only [List.forall_mem_cons, List.not_mem_nil, false_imp_iff, implies_true, and_true]
  exact ⟨rfl, rfl, rfl, rfl, rfl, rfl, rfl, rfl, rfl, rfl, rfl⟩
/-! ### the head -/
def h0 : He.DefD := ⟨("is_bit", none), "is_bit", "is_bit", defArgs s0, defBody s0, defScope s0, [], []⟩
def h1 : He.DefD := ⟨("is_row", none), "is_row", "is_row", defArgs s1, defBody s1, defScope s1, [], []⟩
def h2 : He.DefD := ⟨("_law_box", none), "_law_box", "_law_box", defArgs s2, defBody s2, defScope s2, [], []⟩
def h3 : He.DefD := ⟨("_law_take", none), "_law_take", "_law_take", defArgs s3, defBody s3, defScope s3, [], []⟩
def h4 : He.DefD := ⟨("_law_boxes", none), "_law_boxes", "_law_boxes", defArgs s4, defBody s4, defScope s4, [], []⟩
def h5 : He.DefD := ⟨("_law_many", none), "_law_many", "_law_many", defArgs s5, defBody s5, defScope s5, [], []⟩
def h6 : He.DefD := ⟨("_law_row", none), "_law_row", "_law_row", defArgs s6, defBody s6, defScope s6, [], []⟩
def h7 : He.DefD := ⟨("_law_thing", none), "_law_thing", "_law_thing", defArgs s7, defBody s7, defScope s7, [], []⟩
def h8 : He.DefD := ⟨("_law_is_row", none), "_law_is_row", "_law_is_row", defArgs s8, defBody s8, defScope s8, [], []⟩
def h9 : He.DefD := ⟨("_law_case", none), "_law_case", "_law_case", defArgs s9, defBody s9, defScope s9, [], []⟩
def h10 : He.DefD := ⟨("law", none), "law", "law", defArgs s10, defBody s10, defScope s10, [], []⟩
def fn : List He.DefD := [h0, h1, h2, h3, h4, h5, h6, h7, h8, h9, h10]
def fa : List He.Fa := [.glo "is_bit", .glo "is_row", .glo "_law_box", .glo "_law_take", .glo "_law_boxes", .glo "_law_many", .glo "_law_row", .glo "_law_thing", .glo "_law_is_row", .glo "_law_case", .glo "law", .free "len", .free "abs", .free "int", .free "str", .free "list", .free "tuple", .free "sorted", .free "sum", .free "max", .free "min", .free "all", .free "any", .free "isinstance", .free "bool", .free "range", .free "enumerate", .free "zip", .free "reversed", .free "set", .free "repr", .free "_law_any_order", .free "_law_for"]
abbrev R : PySem.W.OpenRow := PySem.W.OpenLaw.row PySem.Challenge.rw_strewbits_k01_what_is_a_row
def lams : List Str := []
def more (K : PySem.W.Frag) : Bool := lamX lams K && exB K exs
abbrev hk : PySem.W.Hook := He.hookX 4 fa fn ([] : List He.Tab) (lamT lams) more
def ob (s : PySem.W.SharedT) : He.AlX := He.obsX 4 fa fn ([] : List He.Tab) (lamT lams) more (HandSHeadRun.getT s)
theorem ob_eq (s : PySem.W.SharedT) : ob s = hk.obs s.abs := He.obsX_eq (HandSHeadRun.getT_eq s)
def loose : List Str := ["__name__", "is_bit", "is_row", "_law_box", "_law_take", "_law_boxes", "_law_many", "_law_row", "_law_thing", "_law_is_row", "_law_case"]
theorem run (w : World) : HandSHeadRun.RunEq R (PySem.W.view R.prog [12]) hk ob 3000 loose w := by
  intro os
  kernel_rfl
theorem env1 {K : PySem.W.Frag} {mg : Str → Option Value} {h : Heap} (X : K.In h) (G : h.Ns mainGlobals mg) (c : He.SaysD fa fn K) (hx : exB K exs = true) : Env1 pg K mg where
  defs := by
    have q : ∀ x ∈ [(0, d0), (1, d1), (2, d2), (3, d3), (4, d4), (5, d5), (6, d6), (7, d7), (8, d8), (401, d9), (601, d10)], ∃ (a : Addr) (fd : FuncData), DefAt K mg x.2 a ∧ FunD K x.2.x x.2.qual (defArgs x.2.st) (defBody x.2.st) (defScope x.2.st) [] [] a fd ∧ ∀ (s : Shared) (us : List Value), us.length = x.2.ps.length → BindsTo s fd ⟨us, []⟩ (x.2.ps.zip us) := by
      simp only [List.forall_mem_cons, List.not_mem_nil, false_imp_iff, implies_true, and_true]
      refine ⟨?_, ?_, ?_, ?_, ?_, ?_, ?_, ?_, ?_, ?_, ?_⟩
      · obtain ⟨fd, F⟩ := c.def_ 0 (d := h0) rfl
        exact ⟨_, fd, ⟨fun _ => He.glo_ok X G (c.fact 0 (f := .glo "is_bit") rfl), fun _ hc => (by cases hc)⟩, F, F.bindsA (ps := ["thing"]) fun _ _ _ _ _ _ us hl => match us, hl with | [_], _ => rfl⟩
      · obtain ⟨fd, F⟩ := c.def_ 1 (d := h1) rfl
        exact ⟨_, fd, ⟨fun _ => He.glo_ok X G (c.fact 1 (f := .glo "is_row") rfl), fun _ hc => (by cases hc)⟩, F, F.bindsA (ps := ["thing"]) fun _ _ _ _ _ _ us hl => match us, hl with | [_], _ => rfl⟩
      · obtain ⟨fd, F⟩ := c.def_ 2 (d := h2) rfl
        exact ⟨_, fd, ⟨fun _ => He.glo_ok X G (c.fact 2 (f := .glo "_law_box") rfl), fun _ hc => (by cases hc)⟩, F, F.bindsA (ps := ["_law_script", "_law_k"]) fun _ _ _ _ _ _ us hl => match us, hl with | [_, _], _ => rfl⟩
      · obtain ⟨fd, F⟩ := c.def_ 3 (d := h3) rfl
        exact ⟨_, fd, ⟨fun _ => He.glo_ok X G (c.fact 3 (f := .glo "_law_take") rfl), fun _ hc => (by cases hc)⟩, F, F.bindsA (ps := ["_law_box_here", "_law_many_here"]) fun _ _ _ _ _ _ us hl => match us, hl with | [_, _], _ => rfl⟩
      · obtain ⟨fd, F⟩ := c.def_ 4 (d := h4) rfl
        exact ⟨_, fd, ⟨fun _ => He.glo_ok X G (c.fact 4 (f := .glo "_law_boxes") rfl), fun _ hc => (by cases hc)⟩, F, F.bindsA (ps := ["_law_script", "_law_many_here"]) fun _ _ _ _ _ _ us hl => match us, hl with | [_, _], _ => rfl⟩
      · obtain ⟨fd, F⟩ := c.def_ 5 (d := h5) rfl
        exact ⟨_, fd, ⟨fun _ => He.glo_ok X G (c.fact 5 (f := .glo "_law_many") rfl), fun _ hc => (by cases hc)⟩, F, F.bindsA (ps := ["_law_box_here"]) fun _ _ _ _ _ _ us hl => match us, hl with | [_], _ => rfl⟩
      · obtain ⟨fd, F⟩ := c.def_ 6 (d := h6) rfl
        exact ⟨_, fd, ⟨fun _ => He.glo_ok X G (c.fact 6 (f := .glo "_law_row") rfl), fun _ hc => (by cases hc)⟩, F, F.bindsA (ps := ["_law_box_here", "_law_many_here"]) fun _ _ _ _ _ _ us hl => match us, hl with | [_, _], _ => rfl⟩
      · obtain ⟨fd, F⟩ := c.def_ 7 (d := h7) rfl
        exact ⟨_, fd, ⟨fun _ => He.glo_ok X G (c.fact 7 (f := .glo "_law_thing") rfl), fun _ hc => (by cases hc)⟩, F, F.bindsA (ps := ["_law_box_here", "_law_deep"]) fun _ _ _ _ _ _ us hl => match us, hl with | [_, _], _ => rfl⟩
      · obtain ⟨fd, F⟩ := c.def_ 8 (d := h8) rfl
        exact ⟨_, fd, ⟨fun _ => He.glo_ok X G (c.fact 8 (f := .glo "_law_is_row") rfl), fun _ hc => (by cases hc)⟩, F, F.bindsA (ps := ["_law_thing_here"]) fun _ _ _ _ _ _ us hl => match us, hl with | [_], _ => rfl⟩
      · obtain ⟨fd, F⟩ := c.def_ 9 (d := h9) rfl
        exact ⟨_, fd, ⟨fun _ => He.glo_ok X G (c.fact 9 (f := .glo "_law_case") rfl), fun _ hc => (by cases hc)⟩, F, F.bindsA (ps := ["_law_box_here"]) fun _ _ _ _ _ _ us hl => match us, hl with | [_], _ => rfl⟩
      · obtain ⟨fd, F⟩ := c.def_ 10 (d := h10) rfl
        exact ⟨_, fd, ⟨fun _ => He.glo_ok X G (c.fact 10 (f := .glo "law") rfl), fun _ hc => (by cases hc)⟩, F, F.bindsA (ps := ["_law_script"]) fun _ _ _ _ _ _ us hl => match us, hl with | [_], _ => rfl⟩
    exact fun f d hf => q (f, d) hf
  blt := fun x hx => by
    simp only [bltNames, List.mem_cons, List.not_mem_nil, or_false] at hx
    rcases hx with rfl | rfl | rfl | rfl | rfl | rfl | rfl | rfl | rfl | rfl | rfl | rfl | rfl | rfl | rfl | rfl | rfl | rfl | rfl | rfl
    · exact He.free_ok X G (c.fact 11 (f := .free "len") rfl)
    · exact He.free_ok X G (c.fact 12 (f := .free "abs") rfl)
    · exact He.free_ok X G (c.fact 13 (f := .free "int") rfl)
    · exact He.free_ok X G (c.fact 14 (f := .free "str") rfl)
    · exact He.free_ok X G (c.fact 15 (f := .free "list") rfl)
    · exact He.free_ok X G (c.fact 16 (f := .free "tuple") rfl)
    · exact He.free_ok X G (c.fact 17 (f := .free "sorted") rfl)
    · exact He.free_ok X G (c.fact 18 (f := .free "sum") rfl)
    · exact He.free_ok X G (c.fact 19 (f := .free "max") rfl)
    · exact He.free_ok X G (c.fact 20 (f := .free "min") rfl)
    · exact He.free_ok X G (c.fact 21 (f := .free "all") rfl)
    · exact He.free_ok X G (c.fact 22 (f := .free "any") rfl)
    · exact He.free_ok X G (c.fact 23 (f := .free "isinstance") rfl)
    · exact He.free_ok X G (c.fact 24 (f := .free "bool") rfl)
    · exact He.free_ok X G (c.fact 25 (f := .free "range") rfl)
    · exact He.free_ok X G (c.fact 26 (f := .free "enumerate") rfl)
    · exact He.free_ok X G (c.fact 27 (f := .free "zip") rfl)
    · exact He.free_ok X G (c.fact 28 (f := .free "reversed") rfl)
    · exact He.free_ok X G (c.fact 29 (f := .free "set") rfl)
    · exact He.free_ok X G (c.fact 30 (f := .free "repr") rfl)
  gl := fun x c0 hx => by
    cases hx
  ex := by
    exact ⟨fun c hc => (by cases hc), fun hc => (by cases hc), hx⟩
  fld := by
    intro c0 hc
    cases hc
theorem lam_in {K : PySem.W.Frag} {mg : Str → Option Value} {h : Heap} (X : K.In h) (G : h.Ns mainGlobals mg) (c : He.SaysD fa fn K) : ∀ d : DefI, d.cl = none → lamNames.contains d.x = true → (∃ a, mg d.x = some (.ref a)) → d.x ∈ lams := by
  rintro d _ hl ⟨a, ha⟩
  have hl : d.x = "_law_any_order" ∨ d.x = "_law_for" := by simpa [lamNames] using hl
  rcases hl with hl | hl <;> rw [hl] at ha ⊢
  · rw [He.free_ok X G (c.fact 31 (f := .free "_law_any_order") rfl)] at ha
    cases ha
  · rw [He.free_ok X G (c.fact 32 (f := .free "_law_for") rfl)] at ha
    cases ha
theorem lam_at {K : PySem.W.Frag} {mg : Str → Option Value} {h : Heap} (X : K.In h) (G : h.Ns mainGlobals mg) (c : He.SaysD fa fn K) : ∀ x a, x ∈ lams → mg x = some (.ref a) → a = He.fAd K (x, none) := by
  intro x a hx
  cases hx
end T
theorem T.law_ok {ns : List Int} : (Dm.Phi T.tab 14 601 [.scr ns] []).sat fun r _ => r = .val (.bl true) := Dm.law_k01_ok (T := T.tab) (k := 5)
theorem T.law_val (ns : List Int) (h : ns.length ≤ 63) : ∃ m, Dm.Phi T.pg.tab 14 601 [.scr ns] [] = .ok (.val (.bl true)) m :=
  Dm.sat_eq T.law_ok
open PySem PySem.W PySem.Calls PyProof.Rows in
theorem PySem.Challenge.cw_strewbits_k01_what_is_a_row_holds : PySem.Challenge.rw_strewbits_k01_what_is_a_row.Holds := by
  w_on; o_law
  refine HandSHeadRun.head_any (r := OpenLaw.row PySem.Challenge.rw_strewbits_k01_what_is_a_row) (q := view (OpenLaw.row PySem.Challenge.rw_strewbits_k01_what_is_a_row).prog [12]) (H := T.hk) (ob := T.ob) (M := 3000) (loose := T.loose) (d := HandSHeadRun.topDef (OpenLaw.row PySem.Challenge.rw_strewbits_k01_what_is_a_row).prog 12) (kwd := []) T.ob_eq
    (by kernel_rfl) (fun s => by kernel_rfl) T.run (by kernel_rfl) (by kernel_rfl) (by kernel_rfl) (by rfl) (by first | assumption | decide +kernel) (by decide +kernel) ⟨rfl, rfl, rfl, rfl, rfl, by decide +kernel⟩ ?hw ?hc
  case hw => w_witness2
  case hc =>
    refine Dm.walk_ofG (l := PySem.Challenge.rw_strewbits_k01_what_is_a_row) (n := 63) (k := 28) (x := "_law_script") rfl (by decide) (by kernel_rfl) ⟨rfl, by decide, by decide⟩ ?F L2.cx_no
    intro w mg fa h Y G hmg0
    obtain ⟨K, KX, c⟩ := Y
    have cd : He.SaysD T.fa T.fn K := c.t.d
    have hmx : Dm.lamX T.lams K = true ∧ Dm.exB K T.exs = true := by
      have := c.more
      unfold T.more at this
      rwa [Bool.and_eq_true] at this
    have hmg : mg ("law" : PySem.Str) = some (.ref fa) := by
      have e : (HandSHeadRun.topDef (OpenLaw.row PySem.Challenge.rw_strewbits_k01_what_is_a_row).prog 12).name = ("law" : PySem.Str) := by kernel_rfl
      rw [← e]
      exact hmg0
    obtain ⟨fd, sp, h1, h2, h3⟩ := Dm.law_F (P := PySem.Challenge.pw_strewbits_k01_what_is_a_row) (w := w) (cs := (Dm.lamT T.lams).map (He.cT K)) (T.env1 KX G cd hmx.2) T.okD T.okT (f := 601) (k := 14) (d := T.d10) (x := "_law_script") rfl rfl rfl T.law_val hmg (Dm.lam_tq hmx.1) (fun base TB => Dm.lam_LG hmx.1 c.hd (T.lam_in KX G cd) (T.lam_at KX G cd) base TB)
    refine ⟨K, KX, fd, (Dm.lamT T.lams).map (He.cT K), sp, fun p hp => ?_, fun p hp => ?_, fun p hp => ?_, h1, fun H a ns hn hH hS => h2 H a ns hn hH hS, h3⟩
    all_goals obtain ⟨q, hq, rfl⟩ := List.mem_map.mp hp
    · exact c.empty q hq
    · exact c.out q hq
    · exact PySem.W.codeHd_of_K KX (c.hd q hq)
